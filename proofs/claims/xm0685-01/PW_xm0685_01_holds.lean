import PyProof.Rows.All
import Wide.All
import OpenK.AllK
import Wide.FinOn
import PySem.Challenge.RW_xm0685_01
open PySem PySem.W PySem.Spec PySem.Calls PyProof.Rows
set_option Elab.async false
set_option genSizeOf false
set_option genInjectivity false
set_option linter.all false
set_option maxRecDepth 100000
set_option maxHeartbeats 8000000
namespace Mine
open_top hd for PySem.Challenge.rw_xm0685_01
theorem top_off : True := by
  w_top off
  trivial
noncomputable def Ends (w : World) (mean : ExcName → Option Value) (mg mb : Str → Option Value) (f : Addr) (d u : Nat) (vs : List Value) (news : List (Addr × Obj)) (R : List (Addr × Obj) → Value → Prop) : Prop :=
  ∀ (dp un : Nat) (gd : Option (List Code)) (cn : Str) (cs : Scope) (a : Addr) (ccd : Value) (cl : List (Str × Addr)) (outer : List Env) (A₀ : Around) (base h₀ : Heap) (L : Addr) (m : Str → Option Value) (s : Shared)
    (Q E : Value → Shared → Prop),
    Below A₀ base outer h₀ → Fr h₀ L s.heap m → (hd.heap_39 w.params).In h₀ → News h₀ L s.heap news → Top hd.view_39 (looseW hd.view_39 []) mean mg mb h₀ → cs.kind = .function → dp + d < recursionLimit → un + u < cLine →
    (∀ r news' h' tk', R news' r → Fr h₀ L h' m → News h₀ L h' news' → Q r { s with heap := h', toks := tk' }) →
    wpAny (model PySem.Challenge.rw_xm0685_01.row.prog w) (ktrTop dp un gd cn cs L a ccd cl outer) (call (.ref f) vs) Q E s

noncomputable def yOk (y : Int) : Prop := 0 ≤ y ∧ y < 2147483648
noncomputable def SrcO (o : Obj) : Prop := ∃ x y t u n, o = listOf #[.int x t, .int y u] n ∧ yOk y
noncomputable def Off (d : Addr) (R : List (Addr × Obj)) : Prop := ∀ p ∈ R, p.1 ≠ d
noncomputable def Above (R tl : List (Addr × Obj)) : Prop := ∀ q ∈ R, ∀ p ∈ tl, q.1 ≠ p.1
noncomputable abbrev tupO (its : Array Value) (n : Nat) : Obj := { cls := .type "tuple", data := .seq its n }

theorem Above.nil {R : List (Addr × Obj)} : Above R [] := fun _ _ _ h => nomatch h
theorem Above.cons {R tl : List (Addr × Obj)} {a : Addr} {o : Obj} (h : ∀ q ∈ R, q.1 ≠ a) (k : Above R tl) : Above R ((a, o) :: tl) := fun q hq p hp => by
  rcases List.mem_cons.mp hp with rfl | hp
  · exact h q hq
  · exact k q hq p hp
theorem Above.app {R t1 t2 : List (Addr × Obj)} (h : Above R t1) (k : Above R t2) : Above R (t1 ++ t2) := fun q hq p hp => by
  rcases List.mem_append.mp hp with hp | hp
  · exact h q hq p hp
  · exact k q hq p hp
theorem Above.sub {R R' tl : List (Addr × Obj)} (h : Above R tl) (k : ∀ p ∈ R', p ∈ R) : Above R' tl := fun q hq => h q (k q hq)
theorem Above.off {R tl : List (Addr × Obj)} {d : Addr} {o : Obj} (h : Above R tl) (k : (d, o) ∈ R) : Off d tl := fun p hp e => h _ k p hp e.symm
theorem Off.app {d : Addr} {a b : List (Addr × Obj)} (h : Off d a) (k : Off d b) : Off d (a ++ b) := fun p hp => (List.mem_append.mp hp).elim (h p) (k p)
theorem Off.cons {d : Addr} {p : Addr × Obj} {a : List (Addr × Obj)} (h : p.1 ≠ d) (k : Off d a) : Off d (p :: a) := fun q hq => by
  rcases List.mem_cons.mp hq with rfl | hq
  · exact h
  · exact k q hq

noncomputable def OutR (R : List (Addr × Obj)) (Out : List (Addr × Obj) → Value → Prop) (R' : List (Addr × Obj)) (r : Value) : Prop := ∃ tl, R' = tl ++ R ∧ Above R tl ∧ Out tl r
noncomputable def OutS (D : Addr) (o : Obj) (R : List (Addr × Obj)) (Out : Obj → List (Addr × Obj) → Value → Prop) (R' : List (Addr × Obj)) (r : Value) : Prop := ∃ o' tl, R' = (D, o') :: (tl ++ R) ∧ Above ((D, o) :: R) tl ∧ Out o' tl r
noncomputable def EndsR (w : World) (mean : ExcName → Option Value) (mg mb : Str → Option Value) (f : Addr) (d u : Nat) (vs : List Value) (R : List (Addr × Obj)) (Out : List (Addr × Obj) → Value → Prop) : Prop :=
  Ends w mean mg mb f d u vs R (OutR R Out)
noncomputable def EndsS (w : World) (mean : ExcName → Option Value) (mg mb : Str → Option Value) (f : Addr) (d u : Nat) (vs : List Value) (D : Addr) (o : Obj) (R : List (Addr × Obj)) (Out : Obj → List (Addr × Obj) → Value → Prop) : Prop :=
  Ends w mean mg mb f d u vs ((D, o) :: R) (OutS D o R Out)

noncomputable def StrsOut (l : List Str) (tl : List (Addr × Obj)) (r : Value) : Prop := ∃ b vs n, r = .ref b ∧ (b, listOf (List.toArray vs) n) ∈ tl ∧ StrsAre vs l
section
variable {w : World} {mean : ExcName → Option Value} {mg mb : Str → Option Value} {f : Addr} {d u : Nat} {vs : List Value} {R news : List (Addr × Obj)} {Out : List (Addr × Obj) → Value → Prop} {OutS : Obj → List (Addr × Obj) → Value → Prop} {D : Addr} {o : Obj}
  {dp un : Nat} {gd : Option (List Code)} {cn : Str} {cs : Scope} {a : Addr} {ccd : Value} {cl : List (Str × Addr)} {outer : List Env} {A₀ : Around} {base h₀ : Heap} {L : Addr} {m : Str → Option Value} {g : Heap} {gn : Array GenState} {dr : Drawn} {tk : Nat} {os : OsState}
  {Q E : Value → Shared → Prop}
theorem use_R (C : EndsR w mean mg mb f d u vs R Out) (B : Below A₀ base outer h₀) (F : Fr h₀ L g m) (X : (hd.heap_39 w.params).In h₀) (N : News h₀ L g R) (T : Top hd.view_39 (looseW hd.view_39 []) mean mg mb h₀) (hk : cs.kind = .function) (hd' : dp + d < recursionLimit) (hu : un + u < cLine)
    (ret : ∀ r tl h' tk', Out tl r → Above R tl → Fr h₀ L h' m → News h₀ L h' (tl ++ R) → Q r ⟨h', gn, dr, tk', os⟩) :
    wpAny (model PySem.Challenge.rw_xm0685_01.row.prog w) (ktrTop dp un gd cn cs L a ccd cl outer) (call (.ref f) vs) Q E ⟨g, gn, dr, tk, os⟩ := by
  refine C dp un gd cn cs a ccd cl outer A₀ base h₀ L m ⟨g, gn, dr, tk, os⟩ Q E B F X N T hk hd' hu ?_
  rintro r R' h' tk' ⟨tl, rfl, ha, ho⟩ F' N'
  exact ret r tl h' tk' ho ha F' N'
theorem use_Rv {v : Value} (C : EndsR w mean mg mb f d u vs R (fun tl r => tl = [] ∧ r = v)) (B : Below A₀ base outer h₀) (F : Fr h₀ L g m) (X : (hd.heap_39 w.params).In h₀) (N : News h₀ L g R) (T : Top hd.view_39 (looseW hd.view_39 []) mean mg mb h₀) (hk : cs.kind = .function) (hd' : dp + d < recursionLimit) (hu : un + u < cLine)
    (ret : ∀ h' tk', Fr h₀ L h' m → News h₀ L h' R → Q v ⟨h', gn, dr, tk', os⟩) :
    wpAny (model PySem.Challenge.rw_xm0685_01.row.prog w) (ktrTop dp un gd cn cs L a ccd cl outer) (call (.ref f) vs) Q E ⟨g, gn, dr, tk, os⟩ := by
  refine use_R C B F X N T hk hd' hu ?_
  rintro r tl h' tk' ⟨rfl, rfl⟩ _ F' N'
  exact ret h' tk' F' N'
theorem use_Rs {x : Str} (C : EndsR w mean mg mb f d u vs R (fun tl r => tl = [] ∧ ∃ tk, r = .str x tk)) (B : Below A₀ base outer h₀) (F : Fr h₀ L g m) (X : (hd.heap_39 w.params).In h₀) (N : News h₀ L g R) (T : Top hd.view_39 (looseW hd.view_39 []) mean mg mb h₀) (hk : cs.kind = .function) (hd' : dp + d < recursionLimit) (hu : un + u < cLine)
    (ret : ∀ t h' tk', Fr h₀ L h' m → News h₀ L h' R → Q (.str x t) ⟨h', gn, dr, tk', os⟩) :
    wpAny (model PySem.Challenge.rw_xm0685_01.row.prog w) (ktrTop dp un gd cn cs L a ccd cl outer) (call (.ref f) vs) Q E ⟨g, gn, dr, tk, os⟩ := by
  refine use_R C B F X N T hk hd' hu ?_
  rintro r tl h' tk' ⟨rfl, t, rfl⟩ _ F' N'
  exact ret t h' tk' F' N'
theorem use_S (C : EndsS w mean mg mb f d u vs D o R OutS) (B : Below A₀ base outer h₀) (F : Fr h₀ L g m) (X : (hd.heap_39 w.params).In h₀) (N : News h₀ L g news) (hs : ∀ p ∈ (D, o) :: R, p ∈ news) (T : Top hd.view_39 (looseW hd.view_39 []) mean mg mb h₀) (hk : cs.kind = .function) (hd' : dp + d < recursionLimit) (hu : un + u < cLine)
    (ret : ∀ r o' tl h' tk', OutS o' tl r → Above ((D, o) :: R) tl → Fr h₀ L h' m → News h₀ L h' ((D, o') :: (tl ++ R)) → Q r ⟨h', gn, dr, tk', os⟩) :
    wpAny (model PySem.Challenge.rw_xm0685_01.row.prog w) (ktrTop dp un gd cn cs L a ccd cl outer) (call (.ref f) vs) Q E ⟨g, gn, dr, tk, os⟩ := by
  refine C dp un gd cn cs a ccd cl outer A₀ base h₀ L m ⟨g, gn, dr, tk, os⟩ Q E B F X (fun p hp => N p (hs p hp)) T hk hd' hu ?_
  rintro r R' h' tk' ⟨o', tl, rfl, ha, ho⟩ F' N'
  exact ret r o' tl h' tk' ho ha F' N'

theorem use_R1 {o : Tok → Obj} (C : EndsR w mean mg mb f d u vs R (fun tl r => ∃ b tk, tl = [(b, o tk)] ∧ r = .ref b)) (B : Below A₀ base outer h₀) (F : Fr h₀ L g m) (X : (hd.heap_39 w.params).In h₀) (N : News h₀ L g R) (T : Top hd.view_39 (looseW hd.view_39 []) mean mg mb h₀) (hk : cs.kind = .function) (hd' : dp + d < recursionLimit) (hu : un + u < cLine)
    (ret : ∀ b t h' tk', Fr h₀ L h' m → News h₀ L h' ((b, o t) :: R) → (∀ p ∈ R, p.1 ≠ b) → Q (.ref b) ⟨h', gn, dr, tk', os⟩) :
    wpAny (model PySem.Challenge.rw_xm0685_01.row.prog w) (ktrTop dp un gd cn cs L a ccd cl outer) (call (.ref f) vs) Q E ⟨g, gn, dr, tk, os⟩ := by
  refine use_R C B F X N T hk hd' hu ?_
  rintro r tl h' tk' ⟨b, t, rfl, rfl⟩ ha F' N'
  exact ret b t h' tk' F' N' fun q hq => ha q hq _ (.head _)
theorem use_R2 {o : Tok → Addr → Obj} {o2 : Obj} (C : EndsR w mean mg mb f d u vs R (fun tl r => ∃ b c tk, tl = [(b, o tk c), (c, o2)] ∧ r = .ref b)) (B : Below A₀ base outer h₀) (F : Fr h₀ L g m) (X : (hd.heap_39 w.params).In h₀) (N : News h₀ L g R) (T : Top hd.view_39 (looseW hd.view_39 []) mean mg mb h₀) (hk : cs.kind = .function) (hd' : dp + d < recursionLimit) (hu : un + u < cLine)
    (ret : ∀ b c t h' tk', Fr h₀ L h' m → News h₀ L h' ((b, o t c) :: (c, o2) :: R) → (∀ p ∈ R, p.1 ≠ b) → (∀ p ∈ R, p.1 ≠ c) → Q (.ref b) ⟨h', gn, dr, tk', os⟩) :
    wpAny (model PySem.Challenge.rw_xm0685_01.row.prog w) (ktrTop dp un gd cn cs L a ccd cl outer) (call (.ref f) vs) Q E ⟨g, gn, dr, tk, os⟩ := by
  refine use_R C B F X N T hk hd' hu ?_
  rintro r tl h' tk' ⟨b, c, t, rfl, rfl⟩ ha F' N'
  exact ret b c t h' tk' F' N' (fun q hq => ha q hq _ (.head _)) fun q hq => ha q hq _ (.tail _ (.head _))
theorem use_RL {l : List Str} (C : EndsR w mean mg mb f d u vs R (StrsOut l)) (B : Below A₀ base outer h₀) (F : Fr h₀ L g m) (X : (hd.heap_39 w.params).In h₀) (N : News h₀ L g R) (T : Top hd.view_39 (looseW hd.view_39 []) mean mg mb h₀) (hk : cs.kind = .function) (hd' : dp + d < recursionLimit) (hu : un + u < cLine)
    (ret : ∀ b us n tl h' tk', (b, listOf us.toArray n) ∈ tl → StrsAre us l → Above R tl → Fr h₀ L h' m → News h₀ L h' (tl ++ R) → Q (.ref b) ⟨h', gn, dr, tk', os⟩) :
    wpAny (model PySem.Challenge.rw_xm0685_01.row.prog w) (ktrTop dp un gd cn cs L a ccd cl outer) (call (.ref f) vs) Q E ⟨g, gn, dr, tk, os⟩ := by
  refine use_R C B F X N T hk hd' hu ?_
  rintro r tl h' tk' ⟨b, us, n, rfl, hm, hs⟩ ha F' N'
  exact ret b us n tl h' tk' hm hs ha F' N'
end
theorem lt_of_led {X : List (Addr × Obj)} {d : Addr} {q : Addr × Obj} (h : ∀ p ∈ X, p.1 < d) (hq : q ∈ X) : q.1 ≠ d := Nat.ne_of_lt (h q hq)
theorem off_of_ne {X : List (Addr × Obj)} {d e : Addr} {o o' : Obj} (h : ∀ p ∈ X, p.1 ≠ e) (hm : (d, o) ∈ X) : ((e, o') : Addr × Obj).1 ≠ d := fun q => h _ hm q.symm
theorem off_of_lt {X : List (Addr × Obj)} {d e : Addr} {o o' : Obj} (h : ∀ p ∈ X, p.1 < e) (hm : (d, o) ∈ X) : ((e, o') : Addr × Obj).1 ≠ d := fun q => absurd (h _ hm) (by show ¬ (d < e); rw [show e = d from q]; exact Nat.lt_irrefl _)

inductive Tree where
  | str (x : Str)
  | sym (x : Str)
  | int (k : Int)
  | expr (h : Str) (ps : List Tree)

mutual
inductive TreeIn (R : List (Addr × Obj)) : Value → Tree → Prop
  | str (x : Str) (t : Tok) : TreeIn R (.str x t) (.str x)
  | sym (x : Str) (t u : Tok) (a : Addr) (n : Nat) : (a, tupO #[.str (Str.ofString "sym") t, .str x u] n) ∈ R → TreeIn R (.ref a) (.sym x)
  | int (k : Int) (t u : Tok) (a : Addr) (n : Nat) : (a, tupO #[.str (Str.ofString "int") t, .int k u] n) ∈ R → TreeIn R (.ref a) (.int k)
  | expr (h : Str) (ps : List Tree) (t u : Tok) (a b : Addr) (n k : Nat) (vs : List Value) : (a, tupO #[.str (Str.ofString "expr") t, .str h u, .ref b] n) ∈ R → (b, tupO vs.toArray k) ∈ R → TreesIn R vs ps → TreeIn R (.ref a) (.expr h ps)
inductive TreesIn (R : List (Addr × Obj)) : List Value → List Tree → Prop
  | nil : TreesIn R [] []
  | cons (v : Value) (t : Tree) (vs : List Value) (ts : List Tree) : TreeIn R v t → TreesIn R vs ts → TreesIn R (v :: vs) (t :: ts)
end
theorem TreesIn.mono {R R' : List (Addr × Obj)} (hs : ∀ p ∈ R, p ∈ R') {vs : List Value} {ts : List Tree} (h : TreesIn R vs ts) : TreesIn R' vs ts :=
  TreesIn.rec (motive_1 := fun v t _ => TreeIn R' v t) (motive_2 := fun vs ts _ => TreesIn R' vs ts) .str (fun x t u a n h => .sym x t u a n (hs _ h)) (fun x t u a n h => .int x t u a n (hs _ h))
    (fun h ps t u a b n k vs h1 h2 _ h3 => .expr h ps t u a b n k vs (hs _ h1) (hs _ h2) h3) .nil (fun v t vs ts _ _ h1 h2 => .cons v t vs ts h1 h2) h
theorem TreeIn.mono {R R' : List (Addr × Obj)} (hs : ∀ p ∈ R, p ∈ R') {v : Value} {t : Tree} (h : TreeIn R v t) : TreeIn R' v t := by
  cases TreesIn.mono hs (.cons _ _ _ _ h .nil) with
  | cons _ _ _ _ h _ => exact h
theorem TreesIn.length {R : List (Addr × Obj)} {vs : List Value} {ts : List Tree} (h : TreesIn R vs ts) : vs.length = ts.length := by
  induction ts generalizing vs with
  | nil => cases h; rfl
  | cons t ts ih => cases h with | cons _ _ _ _ h1 h2 => simp [ih h2]
theorem TreesIn.app {R : List (Addr × Obj)} {vs us : List Value} {ts ss : List Tree} (h : TreesIn R vs ts) (k : TreesIn R us ss) : TreesIn R (vs ++ us) (ts ++ ss) := by
  induction ts generalizing vs with
  | nil => cases h; exact k
  | cons t ts ih => cases h with | cons _ _ _ _ h1 h2 => exact .cons _ _ _ _ h1 (ih h2)

theorem sb_nil {B : List (Addr × Obj)} : ∀ p ∈ ([] : List (Addr × Obj)), p ∈ B := fun _ h => nomatch h
theorem sb_cons {a : Addr × Obj} {A B : List (Addr × Obj)} (h : a ∈ B) (k : ∀ p ∈ A, p ∈ B) : ∀ p ∈ a :: A, p ∈ B := fun p hp => by
  rcases List.mem_cons.mp hp with rfl | hp
  · exact h
  · exact k p hp
theorem sb_app {A A' B : List (Addr × Obj)} (h : ∀ p ∈ A, p ∈ B) (k : ∀ p ∈ A', p ∈ B) : ∀ p ∈ A ++ A', p ∈ B := fun p hp => (List.mem_append.mp hp).elim (h p) (k p)
theorem off_nil {d : Addr} : Off d [] := fun _ h => nomatch h
theorem news_sub {h₀ h : Heap} {L : Addr} {a b : List (Addr × Obj)} (N : News h₀ L h a) (k : ∀ p ∈ b, p ∈ a) : News h₀ L h b := fun p hp => N p (k p hp)
noncomputable def retOf : Flow → Value
  | .ret v => v
  | _ => .none
noncomputable def Ret (h₀ : Heap) (L : Addr) (gn : Array GenState) (dr : Drawn) (os : OsState) (OUT : List (Addr × Obj) → Value → Prop) (Q : Flow → Shared → Prop) : Prop :=
  ∀ fl m' news' h' tk', OUT news' (retOf fl) → Fr h₀ L h' m' → News h₀ L h' news' → Q fl ⟨h', gn, dr, tk', os⟩
section
variable {h₀ h' : Heap} {L : Addr} {gn : Array GenState} {dr : Drawn} {os : OsState} {tk : Nat} {OUT : List (Addr × Obj) → Value → Prop} {Q : Flow → Shared → Prop} {m : Str → Option Value} {X R : List (Addr × Obj)} {r : Value}
theorem Ret.fin (H : Ret h₀ L gn dr os OUT Q) (F : Fr h₀ L h' m) (N : News h₀ L h' X) (o : OUT X r) : Q (.ret r) ⟨h', gn, dr, tk, os⟩ := H (.ret r) m X h' tk o F N
theorem Ret.next (H : Ret h₀ L gn dr os OUT Q) (F : Fr h₀ L h' m) (N : News h₀ L h' X) (o : OUT X .none) : Q .next ⟨h', gn, dr, tk, os⟩ := H .next m X h' tk o F N
theorem Ret.finR {Out : List (Addr × Obj) → Value → Prop} (H : Ret h₀ L gn dr os (OutR R Out) Q) (tl : List (Addr × Obj)) (F : Fr h₀ L h' m) (N : News h₀ L h' X) (hs : ∀ p ∈ tl ++ R, p ∈ X) (ha : Above R tl) (ho : Out tl r) : Q (.ret r) ⟨h', gn, dr, tk, os⟩ :=
  H (.ret r) m (tl ++ R) h' tk ⟨tl, rfl, ha, ho⟩ F (news_sub N hs)
end
noncomputable def mArgs (as : List PySem.Arg) (vs : List Value) : Str → Option Value := fun y => ((as.map (·.arg)).zip vs).reverse.lookup y
theorem ends_fn {w : World} {mean : ExcName → Option Value} {mg mb : Str → Option Value} {f : Addr} {d u : Nat} {vs : List Value} {news : List (Addr × Obj)} {OUT : List (Addr × Obj) → Value → Prop}
    {name qual : Str} {params : Arguments} {body : List Stmt} {scope : Scope} {dV kV doc pm cdv ct oc : Value} {an od : Option Addr} {osl : Array (Option Value)} {binds : List (Str × Value)}
    (ho : (hd.heap_39 w.params).lookup f = some ⟨oc, od, .func (fnOf name qual params body scope dV kV doc pm an cdv ct), osl⟩) (hcd : codeIn (hd.heap_39 w.params) cdv qual = true)
    (hbind : ∀ s, BindsTo s (fnOf name qual params body scope dV kV doc pm an cdv ct) ⟨vs, []⟩ binds) (hms : binds = (params.args.map (·.arg)).zip vs) (hloc : ∀ y ∈ binds, scope.names.lookup y.1 = some .local)
    (hco : scope.isCoroutine = false) (hgen : scope.isGenerator = false) (hk : scope.kind = .function) (hcell : ∀ x ∈ scope.names, x.2 ≠ .cell)
    (key : ∀ (dp un : Nat) (gd : Option (List Code)) (outer : List Env) (A₀ : Around) (base h₀ : Heap) (L : Addr) (g : Heap) (gn : Array GenState) (dr : Drawn) (tk : Nat) (os : OsState) (Q : Flow → Shared → Prop),
      Below A₀ base outer h₀ → Fr h₀ L g (mArgs params.args vs) → (hd.heap_39 w.params).In h₀ → News h₀ L g news → Top hd.view_39 (looseW hd.view_39 []) mean mg mb h₀ → dp + d < recursionLimit → un + u < cLine → Ret h₀ L gn dr os OUT Q →
      wpAny (model PySem.Challenge.rw_xm0685_01.row.prog w) (ktrTop dp un gd qual scope L f cdv [] outer) (execs body (envOf qual scope L f cdv)) Q (fun _ _ => False) ⟨g, gn, dr, tk, os⟩) :
    Ends w mean mg mb f (d + 1) (u + 3) vs news OUT := by
  intro dp un gd cn cs a ccd cl outer A₀ base h₀ L m s Q E B F X N T hk' hd hu hret
  refine wpAny_call (code_def B F X N T rfl rfl hk' ho hcd (by show dp < recursionLimit; omega) (hbind s) hloc (fun g L' h₁ FG F' N' B' X' T' => ?_) hco hgen hk hcell)
  refine wpAny_noRaise (key (dp + 1) (un + 3) gd (envX cn cs L a ccd cl :: outer) _ _ g L' h₁ s.gens s.drawn _ s.os _ B' (by unfold mArgs; rw [← hms]; exact F') X' N' T' (by omega) (by omega) ?_)
  intro fl m9 n9 h9 t9 o9 F9 N9
  cases fl with
  | ret v => exact leaveK_ (s' := ⟨h9, s.gens, s.drawn, t9, s.os⟩) F9 N9 fun F8 N8 => hret _ _ _ _ o9 F8 N8
  | _ => exact leaveK_ (s' := ⟨h9, s.gens, s.drawn, t9, s.os⟩) F9 N9 fun F8 N8 => hret _ _ _ _ o9 F8 N8
theorem ends_fnC {w : World} {mean : ExcName → Option Value} {mg mb : Str → Option Value} {f : Addr} {d u : Nat} {vs : List Value} {news : List (Addr × Obj)} {OUT : List (Addr × Obj) → Value → Prop}
    {name qual : Str} {params : Arguments} {body : List Stmt} {scope : Scope} {dV kV doc pm cdv ct oc : Value} {an od : Option Addr} {osl : Array (Option Value)} {binds : List (Str × Value)}
    (ho : (hd.heap_39 w.params).lookup f = some ⟨oc, od, .func (fnOf name qual params body scope dV kV doc pm an cdv ct), osl⟩) (hcd : codeIn (hd.heap_39 w.params) cdv qual = true)
    (hbind : ∀ s, BindsTo s (fnOf name qual params body scope dV kV doc pm an cdv ct) ⟨vs, []⟩ binds) (hms : binds = (params.args.map (·.arg)).zip vs) (hkind : (binds.all fun y => scope.names.lookup y.1 == some .local || scope.names.lookup y.1 == some .cell) = true)
    (hnd : ((cellsFrom 0 scope.names []).map (·.1)).Nodup) (hco : scope.isCoroutine = false) (hgen : scope.isGenerator = false) (hk : scope.kind = .function)
    (key : ∀ (dp un : Nat) (gd : Option (List Code)) (outer : List Env) (A₀ : Around) (base h₀ : Heap) (L : Addr) (g : Heap) (gn : Array GenState) (dr : Drawn) (tk : Nat) (os : OsState) (Q : Flow → Shared → Prop) (cells : List (Addr × Obj)),
      Below A₀ base outer h₀ → Fr h₀ L g (bindL (envOfC qual scope L f cdv).kindOf ((params.args.map (·.arg)).zip vs) fun _ => none) → (hd.heap_39 w.params).In h₀ → News h₀ L g (cells ++ news) →
      CellsAre (bindC (envOfC qual scope L f cdv).kindOf ((params.args.map (·.arg)).zip vs) fun _ => none) (cellsFrom (L + 1) scope.names []) cells → Top hd.view_39 (looseW hd.view_39 []) mean mg mb h₀ → dp + d < recursionLimit → un + u < cLine → Ret h₀ L gn dr os OUT Q → (∀ p ∈ news, p.1 < L) →
      wpAny (model PySem.Challenge.rw_xm0685_01.row.prog w) (ktrTop dp un gd qual scope L f cdv (cellsFrom (L + 1) scope.names []) outer) (execs body (envX qual scope L f cdv (cellsFrom (L + 1) scope.names []))) Q (fun _ _ => False) ⟨g, gn, dr, tk, os⟩) :
    Ends w mean mg mb f (d + 1) (u + 3) vs news OUT := by
  intro dp un gd cn cs a ccd cl outer A₀ base h₀ L m s Q E B F X N T hk' hd hu hret
  refine wpAny_call (code_defC B F X N T rfl rfl hk' ho hcd (by show dp < recursionLimit; omega) (hbind s) hkind hnd (fun g L' h₁ tk cells FG F' N' Y' B' X' T' l1 => ?_) hco hgen hk)
  refine wpAny_noRaise (key (dp + 1) (un + 3) gd (envX cn cs L a ccd cl :: outer) _ _ g L' h₁ s.gens s.drawn tk s.os _ cells B' (by rw [← hms]; exact F') X' N' (by rw [← hms]; exact Y') T' (by omega) (by omega) ?_ l1)
  intro fl m9 n9 h9 t9 o9 F9 N9
  cases fl with
  | ret v => exact leaveK_ (s' := ⟨h9, s.gens, s.drawn, t9, s.os⟩) F9 N9 fun F8 N8 => hret _ _ _ _ o9 F8 N8
  | _ => exact leaveK_ (s' := ⟨h9, s.gens, s.drawn, t9, s.os⟩) F9 N9 fun F8 N8 => hret _ _ _ _ o9 F8 N8
theorem TreeIn.inv {R : List (Addr × Obj)} {a : Addr} {h : Str} {ps : List Tree} {G : Prop} (hT : TreeIn R (.ref a) (.expr h ps))
    (key : ∀ (t u : Tok) (b : Addr) (n k : Nat) (vs : List Value), (a, tupO #[.str (Str.ofString "expr") t, .str h u, .ref b] n) ∈ R → (b, tupO vs.toArray k) ∈ R → TreesIn R vs ps → G) : G := by
  cases hT with | expr _ _ t u _ b n k vs he hb hv => exact key t u b n k vs he hb hv
theorem TreeIn.invS {R : List (Addr × Obj)} {a : Addr} {x : Str} {G : Prop} (hT : TreeIn R (.ref a) (.sym x))
    (key : ∀ (t u : Tok) (n : Nat), (a, tupO #[.str (Str.ofString "sym") t, .str x u] n) ∈ R → G) : G := by
  cases hT with | sym _ t u _ n h => exact key t u n h
theorem TreeIn.invI {R : List (Addr × Obj)} {a : Addr} {x : Int} {G : Prop} (hT : TreeIn R (.ref a) (.int x))
    (key : ∀ (t u : Tok) (n : Nat), (a, tupO #[.str (Str.ofString "int") t, .int x u] n) ∈ R → G) : G := by
  cases hT with | int _ t u _ n h => exact key t u n h
theorem TreesIn.inv {R : List (Addr × Obj)} {vs : List Value} {t : Tree} {ts : List Tree} {G : List Value → Prop} (hT : TreesIn R vs (t :: ts)) (key : ∀ v us, TreeIn R v t → TreesIn R us ts → G (v :: us)) : G vs := by
  cases hT with | cons v _ us _ h1 h2 => exact key v us h1 h2
theorem TreesIn.inv0 {R : List (Addr × Obj)} {vs : List Value} {G : List Value → Prop} (hT : TreesIn R vs []) (key : G []) : G vs := by
  cases hT; exact key
theorem cutQ {α : Type} {M : Model} {A : Around} {t : Sem α} {P : α → Shared → Prop} {E : Value → Shared → Prop} {s : Shared} (key : ∀ Q : α → Shared → Prop, (∀ f s₂, P f s₂ → Q f s₂) → wpAny M A t Q E s) : wpAny M A t P E s := key P fun _ _ h => h
theorem ex2 {α1 : Type} {α2 : Type} {P : α1 → α2 → Prop} {G : Prop} (h : ∃ a1 a2, P a1 a2) : (∀ a1 a2, P a1 a2 → G) → G := fun k => h.elim fun a1 h => h.elim fun a2 h => k a1 a2 h
theorem ex3 {α1 : Type} {α2 : Type} {α3 : Type} {P : α1 → α2 → α3 → Prop} {G : Prop} (h : ∃ a1 a2 a3, P a1 a2 a3) : (∀ a1 a2 a3, P a1 a2 a3 → G) → G := fun k => h.elim fun a1 h => h.elim fun a2 h => h.elim fun a3 h => k a1 a2 a3 h
theorem ex4 {α1 : Type} {α2 : Type} {α3 : Type} {α4 : Type} {P : α1 → α2 → α3 → α4 → Prop} {G : Prop} (h : ∃ a1 a2 a3 a4, P a1 a2 a3 a4) : (∀ a1 a2 a3 a4, P a1 a2 a3 a4 → G) → G := fun k => h.elim fun a1 h => h.elim fun a2 h => h.elim fun a3 h => h.elim fun a4 h => k a1 a2 a3 a4 h
theorem ex5 {α1 : Type} {α2 : Type} {α3 : Type} {α4 : Type} {α5 : Type} {P : α1 → α2 → α3 → α4 → α5 → Prop} {G : Prop} (h : ∃ a1 a2 a3 a4 a5, P a1 a2 a3 a4 a5) : (∀ a1 a2 a3 a4 a5, P a1 a2 a3 a4 a5 → G) → G := fun k => h.elim fun a1 h => h.elim fun a2 h => h.elim fun a3 h => h.elim fun a4 h => h.elim fun a5 h => k a1 a2 a3 a4 a5 h
theorem ex6 {α1 : Type} {α2 : Type} {α3 : Type} {α4 : Type} {α5 : Type} {α6 : Type} {P : α1 → α2 → α3 → α4 → α5 → α6 → Prop} {G : Prop} (h : ∃ a1 a2 a3 a4 a5 a6, P a1 a2 a3 a4 a5 a6) : (∀ a1 a2 a3 a4 a5 a6, P a1 a2 a3 a4 a5 a6 → G) → G := fun k => h.elim fun a1 h => h.elim fun a2 h => h.elim fun a3 h => h.elim fun a4 h => h.elim fun a5 h => h.elim fun a6 h => k a1 a2 a3 a4 a5 a6 h
theorem ex7 {α1 : Type} {α2 : Type} {α3 : Type} {α4 : Type} {α5 : Type} {α6 : Type} {α7 : Type} {P : α1 → α2 → α3 → α4 → α5 → α6 → α7 → Prop} {G : Prop} (h : ∃ a1 a2 a3 a4 a5 a6 a7, P a1 a2 a3 a4 a5 a6 a7) : (∀ a1 a2 a3 a4 a5 a6 a7, P a1 a2 a3 a4 a5 a6 a7 → G) → G := fun k => h.elim fun a1 h => h.elim fun a2 h => h.elim fun a3 h => h.elim fun a4 h => h.elim fun a5 h => h.elim fun a6 h => h.elim fun a7 h => k a1 a2 a3 a4 a5 a6 a7 h
theorem ex8 {α1 : Type} {α2 : Type} {α3 : Type} {α4 : Type} {α5 : Type} {α6 : Type} {α7 : Type} {α8 : Type} {P : α1 → α2 → α3 → α4 → α5 → α6 → α7 → α8 → Prop} {G : Prop} (h : ∃ a1 a2 a3 a4 a5 a6 a7 a8, P a1 a2 a3 a4 a5 a6 a7 a8) : (∀ a1 a2 a3 a4 a5 a6 a7 a8, P a1 a2 a3 a4 a5 a6 a7 a8 → G) → G := fun k => h.elim fun a1 h => h.elim fun a2 h => h.elim fun a3 h => h.elim fun a4 h => h.elim fun a5 h => h.elim fun a6 h => h.elim fun a7 h => h.elim fun a8 h => k a1 a2 a3 a4 a5 a6 a7 a8 h
theorem ex9 {α1 : Type} {α2 : Type} {α3 : Type} {α4 : Type} {α5 : Type} {α6 : Type} {α7 : Type} {α8 : Type} {α9 : Type} {P : α1 → α2 → α3 → α4 → α5 → α6 → α7 → α8 → α9 → Prop} {G : Prop} (h : ∃ a1 a2 a3 a4 a5 a6 a7 a8 a9, P a1 a2 a3 a4 a5 a6 a7 a8 a9) : (∀ a1 a2 a3 a4 a5 a6 a7 a8 a9, P a1 a2 a3 a4 a5 a6 a7 a8 a9 → G) → G := fun k => h.elim fun a1 h => h.elim fun a2 h => h.elim fun a3 h => h.elim fun a4 h => h.elim fun a5 h => h.elim fun a6 h => h.elim fun a7 h => h.elim fun a8 h => h.elim fun a9 h => k a1 a2 a3 a4 a5 a6 a7 a8 a9 h
theorem an2 {p1 p2 G : Prop} (h : p1 ∧ p2) (k : p1 → p2 → G) : G := k h.1 h.2
theorem an3 {p1 p2 p3 G : Prop} (h : p1 ∧ p2 ∧ p3) (k : p1 → p2 → p3 → G) : G := k h.1 h.2.1 h.2.2
theorem an4 {p1 p2 p3 p4 G : Prop} (h : p1 ∧ p2 ∧ p3 ∧ p4) (k : p1 → p2 → p3 → p4 → G) : G := k h.1 h.2.1 h.2.2.1 h.2.2.2
theorem an5 {p1 p2 p3 p4 p5 G : Prop} (h : p1 ∧ p2 ∧ p3 ∧ p4 ∧ p5) (k : p1 → p2 → p3 → p4 → p5 → G) : G := k h.1 h.2.1 h.2.2.1 h.2.2.2.1 h.2.2.2.2
theorem an6 {p1 p2 p3 p4 p5 p6 G : Prop} (h : p1 ∧ p2 ∧ p3 ∧ p4 ∧ p5 ∧ p6) (k : p1 → p2 → p3 → p4 → p5 → p6 → G) : G := k h.1 h.2.1 h.2.2.1 h.2.2.2.1 h.2.2.2.2.1 h.2.2.2.2.2
theorem an7 {p1 p2 p3 p4 p5 p6 p7 G : Prop} (h : p1 ∧ p2 ∧ p3 ∧ p4 ∧ p5 ∧ p6 ∧ p7) (k : p1 → p2 → p3 → p4 → p5 → p6 → p7 → G) : G := k h.1 h.2.1 h.2.2.1 h.2.2.2.1 h.2.2.2.2.1 h.2.2.2.2.2.1 h.2.2.2.2.2.2
theorem an8 {p1 p2 p3 p4 p5 p6 p7 p8 G : Prop} (h : p1 ∧ p2 ∧ p3 ∧ p4 ∧ p5 ∧ p6 ∧ p7 ∧ p8) (k : p1 → p2 → p3 → p4 → p5 → p6 → p7 → p8 → G) : G := k h.1 h.2.1 h.2.2.1 h.2.2.2.1 h.2.2.2.2.1 h.2.2.2.2.2.1 h.2.2.2.2.2.2.1 h.2.2.2.2.2.2.2
theorem an9 {p1 p2 p3 p4 p5 p6 p7 p8 p9 G : Prop} (h : p1 ∧ p2 ∧ p3 ∧ p4 ∧ p5 ∧ p6 ∧ p7 ∧ p8 ∧ p9) (k : p1 → p2 → p3 → p4 → p5 → p6 → p7 → p8 → p9 → G) : G := k h.1 h.2.1 h.2.2.1 h.2.2.2.1 h.2.2.2.2.1 h.2.2.2.2.2.1 h.2.2.2.2.2.2.1 h.2.2.2.2.2.2.2.1 h.2.2.2.2.2.2.2.2
theorem an10 {p1 p2 p3 p4 p5 p6 p7 p8 p9 p10 G : Prop} (h : p1 ∧ p2 ∧ p3 ∧ p4 ∧ p5 ∧ p6 ∧ p7 ∧ p8 ∧ p9 ∧ p10) (k : p1 → p2 → p3 → p4 → p5 → p6 → p7 → p8 → p9 → p10 → G) : G := k h.1 h.2.1 h.2.2.1 h.2.2.2.1 h.2.2.2.2.1 h.2.2.2.2.2.1 h.2.2.2.2.2.2.1 h.2.2.2.2.2.2.2.1 h.2.2.2.2.2.2.2.2.1 h.2.2.2.2.2.2.2.2.2
theorem an11 {p1 p2 p3 p4 p5 p6 p7 p8 p9 p10 p11 G : Prop} (h : p1 ∧ p2 ∧ p3 ∧ p4 ∧ p5 ∧ p6 ∧ p7 ∧ p8 ∧ p9 ∧ p10 ∧ p11) (k : p1 → p2 → p3 → p4 → p5 → p6 → p7 → p8 → p9 → p10 → p11 → G) : G := k h.1 h.2.1 h.2.2.1 h.2.2.2.1 h.2.2.2.2.1 h.2.2.2.2.2.1 h.2.2.2.2.2.2.1 h.2.2.2.2.2.2.2.1 h.2.2.2.2.2.2.2.2.1 h.2.2.2.2.2.2.2.2.2.1 h.2.2.2.2.2.2.2.2.2.2
theorem cut2 {α : Type} {M : Model} {A : Around} {t : Sem α} {Qc : α → Shared → Prop} {E : Value → Shared → Prop} {s : Shared} (P : (α → Shared → Prop) → Prop) (h1 : ∀ Q, P Q → wpAny M A t Q E s) (h2 : P Qc) : wpAny M A t Qc E s := h1 Qc h2
local macro_rules | `(tactic| walk_at $s:str) => `(tactic| k_extra $(Lean.Syntax.mkStrLit ("my " ++ s.getString)))
local macro_rules | `(tactic| k_all) => `(tactic| assumption)
local macro_rules | `(tactic| kct_strs) => `(tactic| k_extra "mem")
local macro_rules | `(tactic| ktr_room) => `(tactic| k_extra "room")
local macro_rules | `(tactic| ktr_units) => `(tactic| k_extra "units")
local macro_rules | `(tactic| tb_start) => `(tactic| k_extra "sub")
local macro_rules | `(tactic| tb_rel) => `(tactic| k_extra "above")
local macro_rules | `(tactic| ktr_rel) => `(tactic| k_extra "off")
local macro_rules | `(tactic| ktn_open) => `(tactic| k_extra "tree")
theorem words_base : hd.heap_39 = hd.heap_39 ∧ PySem.Challenge.rw_xm0685_01 = PySem.Challenge.rw_xm0685_01 := by
  k_fill
  (k_with "mem" => first | exact List.Mem.head _ | (refine List.mem_cons_of_mem _ ?_; k_extra "mem") | (refine List.mem_append_left _ ?_; k_extra "mem") | (refine List.mem_append_right _ ?_; k_extra "mem") | assumption)
  (k_with "room" => first | exact room_0 (by assumption) rfl | exact room_ok 1 (by assumption) rfl | (refine Nat.lt_of_le_of_lt ?_ (by assumption : (_ : Nat) < recursionLimit); (try simp only [depth_in1, depth_deeper]); (try dsimp only [ktrTop]); first | exact Nat.le_refl _ | exact Nat.le_add_right _ _ | exact lin_ok (by decide) | omega))
  (k_with "units" => first | exact units_0 (by assumption) rfl | exact units_ok 3 (by assumption) rfl | exact units_ok 4 (by assumption) rfl | (refine Nat.lt_of_le_of_lt ?_ (by assumption : (_ : Nat) < cLine); (try simp only [units_in1, units_deeper, Around.mark_units]); (try dsimp only [ktrTop]); first | exact Nat.le_refl _ | exact Nat.le_add_right _ _ | exact lin_ok (by decide) | omega))
  (k_with "sub" => first | (with_reducible exact fun _ h9 => h9) | (repeat' (first | exact sb_nil | (refine sb_cons ?_ ?_) | (refine sb_app ?_ ?_) | (with_reducible exact fun _ h9 => h9) | k_extra "mem" | (intro p9 h9; k_extra "mem"))))
  (k_with "above" => (repeat' (first | exact Above.nil | (refine Above.cons ?_ ?_) | (refine Above.app ?_ ?_) | assumption | exact Above.sub (by assumption) (by k_extra "sub") | exact (fun q9 h9 => lt_of_led (by assumption) (by first | exact h9 | (simp only [List.mem_append, List.mem_cons, h9, true_or, or_true]; done))) | exact (fun q9 h9 => ne_of_led (by assumption) (by first | exact h9 | (simp only [List.mem_append, List.mem_cons, h9, true_or, or_true]; done))))))
  (k_with "off" => (repeat' (first | assumption | exact off_nil | (refine Off.cons ?_ ?_) | (refine Off.app ?_ ?_) | exact off_of_lt (by assumption) (by k_extra "mem") | exact off_of_ne (by assumption) (by k_extra "mem") | exact Above.off (by assumption) (by k_extra "mem"))))
  (k_with "tree" => first | assumption | exact TreeIn.lift (by assumption) (by k_extra "sub"))
  (k_with "cs" => ((case zB => k_asm); (case zF => k_asm); (case zX => k_asm); (case zN => k_asm); (case zT => k_asm); (case zk => first | exact rfl | assumption); (case zd => k_extra "room"); (case zu => k_extra "units")))
  (k_with "sv" => first | exact SV.str | exact SV.int | exact SV.loc rfl rfl rfl | exact SV.loc rfl (by assumption) rfl | (refine' SV.cell ?za ?zb ?zc ?ze ?zf; (case za => exact rfl); (case zb => exact rfl); (case zc => k_extra "mem"); (case ze => with_reducible assumption); (case zf => exact rfl)) | (refine' SV.item ?za ?zb ?zc ?ze ?zf; (case za => k_extra "sv"); (case zb => k_extra "mem"); (case zc => first | decide | omega); (case ze => first | exact rfl | assumption); (case zf => first | decide | omega)))
  (k_with "svs" => first | exact SVs.nil | (refine' SVs.cons ?zg ?zh; (case zg => k_extra "sv"); (case zh => k_extra "svs")))
  (k_with "my newTuple" => (k_here; k_dflt (refine' new_tup ?zF ?zN ?zz ?_; (case zF => k_asm); (case zN => k_asm); (case zz => kmk_size)); intro _ _ _ _ _; (try k_sweep)))
  (k_with "my newList" => (k_here; k_dflt (refine' new_list ?zF ?zN ?zz ?_; (case zF => k_asm); (case zN => k_asm); (case zz => kmk_size)); intro _ _ _ _ _; (try k_sweep)))
  (k_with "my eval Constant str" => (k_here; refine con_str ?_))
  (k_with "my eval Constant int" => (k_here; refine con_int ?_))
  (k_with "my storeName" => (k_here; k_dflt (refine' store_X ?zF ?zN ?zk ?zx ?_; (case zk => first | exact rfl | assumption); (case zx => exact rfl); (case zF => k_asm); (case zN => k_asm); k_whole); intro _ _ _; (try k_sweep)))
  (k_with "my execs cons" => (k_here; (try dsimp only); (with_reducible refine wpAny_execs_cons ?_)))
  (k_with "my exec For Name Name cons nil" => (k_here; (rename Fr _ _ _ _ => lF'); (with_unfolding_all refine' For_hold lF' ?z1 ?z2 ?_ (by intro _; rfl) (by passes_own); (case z1 => exact rfl); (case z2 => exact rfl); k_whole)))
  (k_with "my exec For Name Subscript cons nil" => (k_here; (rename Fr _ _ _ _ => lF'); (with_unfolding_all refine' For_hold lF' ?z1 ?z2 ?_ (by intro _; rfl) (by passes_own); (case z1 => exact rfl); (case z2 => exact rfl); k_whole)))
  (k_with "my subscriptTail" => (k_here; (with_reducible show wpAny _ _ (subscriptTail _ _ (Value.ref _) (Value.int _ _)) _ _ _); k_dflt (refine' item_tup ?z1 ?z2 ?z3 ?z4 ?z5 ?_ ?z6; (case z1 => k_asm); (case z2 => k_extra "mem"); (case z3 => first | decide | omega); (case z4 => first | exact rfl | assumption); (case z5 => first | decide | omega); (case z6 => with_unfolding_all rfl); k_whole)))
  (k_with "my call builtin:len" => (k_here; (with_reducible show wpAny _ _ (call (Value.builtin _) [Value.ref _]) _ _ _); k_dflt (first | (refine' len_tupO ?z1 ?z2 ?z3 ?_; (case z1 => k_asm); (case z2 => k_extra "mem"); (case z3 => first | omega | exact Nat.le_of_ble_eq_true rfl); k_whole) | (refine' len_lstO ?z1 ?z2 ?z3 ?_; (case z1 => k_asm); (case z2 => k_extra "mem"); (case z3 => first | omega | exact Nat.le_of_ble_eq_true rfl); k_whole))))
  (k_with "my subscriptTail" => (k_here; (with_reducible show wpAny _ _ (subscriptTail _ _ (Value.ref _) (Value.int _ _)) _ _ _); k_dflt (refine' item_lst ?z1 ?z2 ?z3 ?z4 ?z5 ?_ ?z6; (case z1 => k_asm); (case z2 => k_extra "mem"); (case z3 => first | decide | omega); (case z4 => first | exact rfl | assumption | exact List.getElem?_eq_getElem (by k_extra "inlist")); (case z5 => first | decide | omega); (case z6 => with_unfolding_all rfl); k_whole)))
  (k_with "my eval Name" => (k_here; (with_reducible show wpAny _ _ (eval (PySem.Expr.Name _ _) (envOf _ _ _ _ _)) _ _ _); (with_reducible rename Fr _ _ _ _ => kF); k_dflt (refine' name_K kF ?z1 ?z2 ?z3 ?_; (case z1 => k_asm); (case z2 => k_asm); (case z3 => k_is); k_whole)))
  (k_with "my eval Name" => (k_here; (with_reducible show wpAny _ _ (eval (PySem.Expr.Name _ _) (envOf _ _ _ _ _)) _ _ _); k_dflt (refine' ld ?z1 ?z2 ?_; (case z1 => k_asm); (case z2 => first | exact rfl | assumption); k_whole)))
  (k_with "my eval Name" => (k_here; k_dflt (first | (refine' nameX_C ?zN ?zc ?zm ?zd ?_ ?za ?zb; (case za => rfl); (case zb => rfl); (case zN => k_asm); (case zc => rfl); (case zm => k_extra "mem"); (case zd => assumption); k_whole) | (refine' nameX_F ?zN ?zc ?zm ?zd ?_ ?za ?zb; (case za => rfl); (case zb => rfl); (case zN => k_asm); (case zc => rfl); (case zm => k_extra "mem"); (case zd => assumption); k_whole))))
  (k_with "my eval Call" => (k_here; (with_reducible show wpAny _ _ (eval (PySem.Expr.Call (PySem.Expr.Name _ _) _ [] _) _) _ _ _); k_dflt (refine PyProof.Rows.Call_ ?_)))
  (k_with "my eval Call" => (k_here; (with_reducible show wpAny _ _ (eval (PySem.Expr.Call (PySem.Expr.Name _ _) _ [] _) _) _ _ _); k_dflt (refine' call_sv ?zF ?zN ?zX ?zT ?zf ?ze ?zk ?zc ?zh ?zg ?zd ?_; (case zf => exact rfl); (case zh => first | exact rfl | assumption); (case zg => exact rfl); (case zF => k_asm); (case zN => k_asm); (case zX => k_asm); (case zT => k_asm); (case ze => k_is); (case zk => k_is); (case zc => k_extra "svs"); (case zd => exact rfl); k_whole)))
  (k_with "my binaryOp Add ref ref" => (k_here; (with_reducible show wpAny _ _ (binaryOp _ (Value.ref _) (Value.ref _)) _ _ _); k_dflt (refine' add_led ?zF ?zN ?za ?zb ?zz ?_; (case zF => k_asm); (case zN => k_asm); (case za => k_extra "mem"); (case zb => k_extra "mem"); (case zz => first | omega | (k_extra "inlist") | (simp; omega))); intro _ _ _ _ _; (try k_sweep)))
  (k_with "my binaryOp Add ref ref" => (k_here; (with_reducible show wpAny _ _ (binaryOp _ (Value.ref _) (Value.ref _)) _ _ _); k_dflt (refine' kmk_add_lit ?zF ?zN ?za ?zb ?ze ?_ ?zz; (case zF => k_asm); (case zN => k_asm); (case za => kmk_list); (case zb => kmk_list); (case ze => kl_lit); (case zz => kl_room)); intro _ _ _ _ _; (try k_sweep)))
  (k_with "my assign Tuple" => (k_here; (with_reducible show wpAny _ _ (assign (PySem.Expr.Tuple _ _ _) _ (Value.ref _)) _ _ _); k_dflt (refine' unpackN_ ?zF ?zN ?zT ?z1 ?z2 ?z3 ?_; (case zF => k_asm); (case zN => k_asm); (case zT => exact News.isTup (by k_asm) (by k_extra "mem")); (case z1 => exact rfl); (case z2 => exact rfl); (case z3 => exact rfl)); intro _ _ _; (try k_sweep)))
  (k_with "my call ref" => (k_here; (with_reducible show wpAny _ _ (call (Value.ref _) _) _ _ _); refine hold_intro ?_))
  (k_with "my call ref" => (k_here; (with_reducible show wpAny _ _ (call (Value.ref 56) [Value.ref _]) _ _ _); k_dflt (refine' use_Rv (is_sym_b _ _ _ _ ?zt ?ze) ?zB ?zF ?zX ?zN ?zT ?zk ?zd ?zu ?_; k_extra "cs"; (case zt => k_extra "tree"); (case ze => first | exact eq_tt rfl | exact eq_ff rfl | exact rfl); (intro _ _ _ _); (try k_sweep))))
  (k_with "my call ref" => (k_here; (with_reducible show wpAny _ _ (call (Value.ref 35) [Value.ref _, Value.str _ _]) _ _ _); k_dflt (refine' use_Rv (is_expr_b _ _ _ _ ?zt ?ze) ?zB ?zF ?zX ?zN ?zT ?zk ?zd ?zu ?_; k_extra "cs"; (case zt => k_extra "tree"); (case ze => first | exact eq_tt rfl | exact eq_ff rfl | exact eq_ff (by assumption) | exact eq_tt (by assumption) | exact rfl); (intro _ _ _ _); (try k_sweep))))
  (k_with "my call ref" => (k_here; (with_reducible show wpAny _ _ (call (Value.ref 42) [Value.ref _]) _ _ _); k_dflt (first | (refine' use_Rs (head_of_x _ _ _ _ ?zt) ?zB ?zF ?zX ?zN ?zT ?zk ?zd ?zu ?_; k_extra "cs"; (case zt => k_extra "tree")) | (refine' use_Rs (head_of_s _ _ _ _ ?zt) ?zB ?zF ?zX ?zN ?zT ?zk ?zd ?zu ?_; k_extra "cs"; (case zt => k_extra "tree")) | (refine' use_Rs (head_of_i _ _ _ _ ?zt) ?zB ?zF ?zX ?zN ?zT ?zk ?zd ?zu ?_; k_extra "cs"; (case zt => k_extra "tree")) | (refine' use_Rs (head_of_spec _ _ _ _ ?zt) ?zB ?zF ?zX ?zN ?zT ?zk ?zd ?zu ?_; k_extra "cs"; (case zt => k_extra "tree"))); (intro _ _ _ _ _); (try k_sweep)))
  (k_with "my call ref" => (k_here; (with_reducible show wpAny _ _ (call (Value.ref 49) [Value.ref _]) _ _ _); k_dflt (refine' use_Rv (parts_of_expr _ _ _ _ ?zt) ?zB ?zF ?zX ?zN ?zT ?zk ?zd ?zu ?_; k_extra "cs"; (case zt => k_extra "mem"); (intro _ _ _ _); (try k_sweep))))
  (k_with "my call ref" => (k_here; (with_reducible show wpAny _ _ (call (Value.ref 49) [Value.ref _]) _ _ _); k_dflt (refine' use_R1 (parts_of_sym _ _ _ _ ?zt) ?zB ?zF ?zX ?zN ?zT ?zk ?zd ?zu ?_; k_extra "cs"; (case zt => k_extra "mem"); (intro _ _ _ _ _ _ _); (try k_sweep))))
  (k_with "my call ref" => (k_here; (with_reducible show wpAny _ _ (call (Value.ref 49) [Value.ref _]) _ _ _); k_dflt (refine' use_R1 (parts_of_int _ _ _ _ ?zt) ?zB ?zF ?zX ?zN ?zT ?zk ?zd ?zu ?_; k_extra "cs"; (case zt => k_extra "mem"); (intro _ _ _ _ _ _ _); (try k_sweep))))
  (k_with "my call ref" => (k_here; (with_reducible show wpAny _ _ (call (Value.ref 28) [Value.str _ _]) _ _ _); k_dflt (refine' use_R1 (sym_spec _ _ _ _) ?zB ?zF ?zX ?zN ?zT ?zk ?zd ?zu ?_; k_extra "cs"; (intro _ _ _ _ _ _ _); (try k_sweep))))
  (k_with "my call ref" => (k_here; (with_reducible show wpAny _ _ (call (Value.ref 21) [Value.str _ _, Value.ref _]) _ _ _); k_dflt (refine' use_R2 (expr_spec _ _ _ _ ?zl ?zz) ?zB ?zF ?zX ?zN ?zT ?zk ?zd ?zu ?_; k_extra "cs"; (case zl => k_extra "mem"); (case zz => first | assumption | exact Nat.le_of_ble_eq_true rfl | (simp; omega)); (intro _ _ _ _ _ _ _ _ _); (try k_sweep))))
  (k_with "my exec While" => (k_here; refine hold_intro ?_))
  (k_with "my exec While BoolOp" => (k_here; refine hold_intro ?_))
  (k_with "my exec While Compare" => (k_here; refine hold_intro ?_))
  (k_with "my exec While Compare cons nil" => (k_here; refine hold_intro ?_))
  (k_with "my last exec While" => (k_here; refine hold_intro ?_))
  (k_with "my isTrue Compare" => (k_here; k_dflt (refine' test_sv ?zF ?zN ?za ?zb ?zh ?zm ?_; (case zh => first | exact rfl | assumption); (case zF => k_asm); (case zN => k_asm); (case za => k_extra "sv"); (case zb => k_extra "sv"); (case zm => with_unfolding_all rfl); k_whole)))
  (k_with "my isTrue Compare" => (k_here; (with_reducible show wpAny _ _ (isTrue (PySem.Expr.Compare _ [CmpOp.Eq] _ _) _ _) _ _ _); k_dflt (refine' test_eq ?zF ?zN ?za ?zb ?zh ?ze ?zm ?_; (case zh => first | exact rfl | assumption); (case zF => k_asm); (case zN => k_asm); (case za => k_extra "sv"); (case zb => k_extra "sv"); (case ze => first | exact eq_tt rfl | exact eq_ff rfl | exact eq_ff (by assumption) | exact eq_tt (by assumption) | exact rfl); (case zm => with_unfolding_all rfl); k_whole)))
  (k_with "my eval List" => (k_here; k_dflt (refine' list_sv ?zF ?zN ?zL ?za ?zh ?zz ?_; (case zh => first | exact rfl | assumption); (case zF => k_asm); (case zN => k_asm); (case zL => exact rfl); (case za => k_extra "svs"); (case zz => kmk_size); k_whole); intro _ _ _ _ _; (try k_sweep)))
  (k_with "my eval Tuple" => (k_here; k_dflt (refine' tup_sv ?zF ?zN ?zL ?za ?zh ?zz ?_; (case zh => first | exact rfl | assumption); (case zF => k_asm); (case zN => k_asm); (case zL => exact rfl); (case za => k_extra "svs"); (case zz => kmk_size); k_whole); intro _ _ _ _ _; (try k_sweep)))
  (k_with "my eval Name" => (k_here; k_dflt (refine' eval_sv ?zF ?zN ?za ?zh ?_; (case zh => first | exact rfl | assumption); (case zF => k_asm); (case zN => k_asm); (case za => k_extra "sv"); k_whole)))
  (k_with "my eval Subscript" => (k_here; k_dflt (refine' eval_sv ?zF ?zN ?za ?zh ?_; (case zh => first | exact rfl | assumption); (case zF => k_asm); (case zN => k_asm); (case za => k_extra "sv"); k_whole)))
  exact ⟨rfl, rfl⟩
section
variable {prog : Program} {w : World} {A : Around} {E : Value → Shared → Prop} {s : Shared} {h₀ : Heap} {L a : Addr} {news : List (Addr × Obj)} {l : List Value} {n : Nat} {x : Value} {k : Int} {u : Tok}
theorem item_tup {value slice : PySem.Expr} {Q : Value → Shared → Prop} (N : News h₀ L s.heap news) (hm : (a, tupO l.toArray n) ∈ news) (h0 : 0 ≤ k) (hx : l[k.toNat]? = some x) (hk : k < 2 ^ 63) (h : Q x s)
    (hs : subscripted slice false (.ref a) (.int k u) = operate [.ref a, .int k u] (getItem (.ref a) (.int k u))) : wpAny (model prog w) A (subscriptTail value slice (.ref a) (.int k u)) Q E s := by
  have hlt : k.toNat < l.length := by
    rcases Nat.lt_or_ge k.toNat l.length with q | q
    · exact q
    · rw [List.getElem?_eq_none q] at hx; cases hx
  exact item_tupleT (j := k.toNat) (N.isTup hm) (by omega) hk (seqIndex_of h0 (by omega)) hx h hs
end
section
variable (env : Env) (m : Str → Option Value) (X : List (Addr × Obj))
inductive SV : Nat → PySem.Expr → Value → Nat → Prop
  | loc {t : Nat} {x : Str} {p : Pos} {v : Value} : env.kindOf x = some .local → m x = some v → (x == ("__debug__" : Str)) = false → SV t (.Name x p) v t
  | cell {t : Nat} {x : Str} {p : Pos} {v : Value} {c : Addr} {o : Obj} : env.kindOf x = some .cell → env.cells.lookup x = some c → (c, o) ∈ X → o.data = .cell (some v) → (x == ("__debug__" : Str)) = false → SV t (.Name x p) v t
  | str {t : Nat} {x : Str} {k : Nat} {p : Pos} : SV t (.Constant (.str x) k p) (.str x t) (t + 1)
  | int {t : Nat} {i : Int} {k : Nat} {p : Pos} : SV t (.Constant (.int i) k p) (.int i t) (t + 1)
  | item {t : Nat} {e : PySem.Expr} {p q : Pos} {j : Nat} {i : Int} {a : Addr} {l : List Value} {n : Nat} {x : Value} {u : Nat} : SV t e (.ref a) u → (a, tupO l.toArray n) ∈ X → 0 ≤ i → l[i.toNat]? = some x → i < 2 ^ 63 → SV t (.Subscript e (.Constant (.int i) j p) q) x (u + 1)
inductive SVs : Nat → List PySem.Expr → List Value → Nat → Prop
  | nil {t : Nat} : SVs t [] [] t
  | cons {t : Nat} {e : PySem.Expr} {v : Value} {u : Nat} {es : List PySem.Expr} {vs : List Value} {r : Nat} : SV env m X t e v u → SVs u es vs r → SVs t (e :: es) (v :: vs) r
end
section
variable {prog : Program} {w : World} {A : Around} {E : Value → Shared → Prop} {h₀ : Heap} {m : Str → Option Value} {X : List (Addr × Obj)} {env : Env}
theorem SV.run {t u : Nat} {e : PySem.Expr} {v : Value} (c : SV env m X t e v u) (hk : env.scope.kind = .function) :
    ∀ {s : Shared} {Q : Value → Shared → Prop}, Fr h₀ env.locals s.heap m → News h₀ env.locals s.heap X → s.toks = t → Q v { s with toks := u } → wpAny (model prog w) A (eval e env) Q E s := by
  induction c with
  | loc h1 h2 h3 => intro s Q F N ht h; subst ht; exact wpAny_Name (wpAny_loadName_local hk h1 F.ns h2 h) h3
  | cell h1 h2 h3 h4 h5 => intro s Q F N ht h; subst ht; exact wpAny_Name (wpAny_loadName_cell hk h1 h2 ⟨_, N.get h3, h4⟩ h) h5
  | str => intro s Q F N ht h; subst ht; exact Constant_str h
  | int => intro s Q F N ht h; subst ht; exact wpAny_Constant_int h
  | item c1 h1 h2 h3 h4 ih =>
    intro s Q F N ht h
    refine Subscript_ (ih F N ht (wpAny_Constant_int ?_))
    refine item_tup (s := { s with toks := _ }) N h1 h2 h3 h4 h ?_
    with_unfolding_all rfl
theorem SV.plain {t u : Nat} {e : PySem.Expr} {v : Value} (c : SV env m X t e v u) (rest : List PySem.Expr) : starEach (e :: rest) env = (false, eval e env) :: starEach rest env := by cases c <;> rfl
theorem SVs.run {t u : Nat} {es : List PySem.Expr} {vs : List Value} (c : SVs env m X t es vs u) (hk : env.scope.kind = .function) :
    ∀ {s : Shared} {pos : Pos} {Q : List Value → Shared → Prop}, Fr h₀ env.locals s.heap m → News h₀ env.locals s.heap X → s.toks = t → Q vs { s with toks := u } → wpAny (model prog w) A (spliced (backTo pos (starEach es env))) Q E s := by
  induction c with
  | nil => intro s pos Q F N ht h; subst ht; exact args_nil h
  | cons c1 c2 ih =>
    intro s pos Q F N ht h
    refine args_cons (c1.run hk F N ht ?_) (c1.plain _)
    exact ih (s := { s with toks := _ }) F N rfl h
theorem SVs.plain {t u : Nat} {es : List PySem.Expr} {vs : List Value} (c : SVs env m X t es vs u) (pos : Pos) : (backTo pos (starEach es env)).any (·.1) = false := by
  induction c with
  | nil => rfl
  | cons c1 c2 ih => rw [c1.plain]; exact ih
theorem eval_sv {g : Heap} {gn : Array GenState} {dr : Drawn} {t u : Nat} {os : OsState} {e : PySem.Expr} {v : Value} {Q : Value → Shared → Prop} (F : Fr h₀ env.locals g m) (N : News h₀ env.locals g X) (c : SV env m X t e v u) (hk : env.scope.kind = .function)
    (h : Q v ⟨g, gn, dr, u, os⟩) : wpAny (model prog w) A (eval e env) Q E ⟨g, gn, dr, t, os⟩ := c.run hk (s := ⟨g, gn, dr, t, os⟩) F N rfl h
theorem args_sv {g : Heap} {gn : Array GenState} {dr : Drawn} {t u : Nat} {os : OsState} {es : List PySem.Expr} {vs : List Value} {pos : Pos} {Q : List Value → Shared → Prop} (F : Fr h₀ env.locals g m) (N : News h₀ env.locals g X) (c : SVs env m X t es vs u) (hk : env.scope.kind = .function)
    (h : Q vs ⟨g, gn, dr, u, os⟩) : wpAny (model prog w) A (spliced (backTo pos (starEach es env))) Q E ⟨g, gn, dr, t, os⟩ := c.run hk (s := ⟨g, gn, dr, t, os⟩) F N rfl h
theorem call_sv {K : Frag} {p : Program} {loose : List Str} {mg mb : Str → Option Value} {g : Heap} {gn : Array GenState} {dr : Drawn} {t u : Nat} {os : OsState} {f : Str} {fp pos : Pos} {e : PySem.Expr} {es : List PySem.Expr} {a : Value} {vs : List Value} {Q : Value → Shared → Prop}
    (F : Fr h₀ env.locals g m) (N : News h₀ env.locals g X) (KX : K.In h₀) (T : TopRead p loose mg mb h₀) (hf : env.kindOf f = some .globalImplicit) (he : nsIn K mainGlobals f = some (some a)) (hkeep : keepIn K a = true) (c : SVs env m X t (e :: es) vs u) (hk : env.scope.kind = .function) (hg : env.globals = mainGlobals) (hd : (f == ("__debug__" : Str)) = false)
    (h : wpAny (model prog w) A (call a vs) Q E ⟨g, gn, dr, u, os⟩) : wpAny (model prog w) A (eval (.Call (.Name f fp) (e :: es) [] pos) env) Q E ⟨g, gn, dr, t, os⟩ := by
  refine Call_ (Name_function_global hk hf (loadGlobal_global (by rw [hg]; exact T.g.keeps F.keep) (mg_of KX T.g he) ?_) hd)
  have hp : starEach (e :: es) env = (false, eval e env) :: starEach es env := by
    cases c with | cons c1 c2 => exact c1.plain _
  have hq : (backTo pos (starEach es env)).any (·.1) = false := by
    cases c with | cons c1 c2 => exact c2.plain _
  exact callWith_K KX hkeep (c.run hk (s := ⟨g, gn, dr, t, os⟩) F N rfl ⟨fun b o e => F.keep _ _ (KX b o e), h⟩) hp hq
end
noncomputable def Hold (p : Prop) : Prop := p
theorem hold_intro {p : Prop} (h : Hold p) : p := h
structure Box (p : Prop) : Prop where
  out : p
theorem eq_tt {b : Bool} (h : b = true) : b = true := h
theorem eq_ff {b : Bool} (h : b = false) : b = false := h
theorem lin_ok {n a b c k : Nat} (h : b ≤ a + c) : n + (a * k + b) ≤ n + (a * (k + 1) + c) := Nat.add_le_add_left (by rw [Nat.mul_succ, Nat.add_assoc]; exact Nat.add_le_add_left h _) n
theorem n2 {w : Int} (h0 : 0 ≤ w) (h1 : w < 3) : w.toNat ≤ 2 := by omega
theorem n3 {w : Int} (h0 : 0 ≤ w) (h1 : w < 3) : (1 + w).toNat ≤ 3 := by omega
theorem n4 {w : Int} (h0 : 0 ≤ w) (h1 : w < 4) : w.toNat ≤ 3 := by omega
theorem n3e {w : Int} (h0 : 0 ≤ w) : 1 + w = (((1 + w).toNat : Nat) : Int) := by omega
theorem pl_d {d : Int} {j : Nat} (h : d = ((j + 1 : Nat) : Int)) : d - 1 = (j : Int) := by omega
theorem w4_no {w : Int} (h : w < 4) (a : ¬ w < 2) (b : w ≠ 2) (c : w ≠ 3) : False := by omega
theorem room_0 {dp D d : Nat} (h : dp + D < recursionLimit) (e : Nat.ble d D = true) : dp + d < recursionLimit := by
  have := Nat.le_of_ble_eq_true e; omega
theorem units_0 {un D d : Nat} (h : un + D < cLine) (e : Nat.ble d D = true) : un + d < cLine := by
  have := Nat.le_of_ble_eq_true e; omega
theorem room_ok (k : Nat) {dp D d : Nat} (h : dp + D < recursionLimit) (e : Nat.ble (k + d) D = true) : dp + k + d < recursionLimit := by
  have := Nat.le_of_ble_eq_true e; omega
theorem units_ok (k : Nat) {un D d : Nat} (h : un + D < cLine) (e : Nat.ble (k + d) D = true) : un + k + d < cLine := by
  have := Nat.le_of_ble_eq_true e; omega
section
variable {prog : Program} {w : World} {A : Around} {E : Value → Shared → Prop} {h₀ : Heap} {m : Str → Option Value} {X : List (Addr × Obj)} {env : Env} {g : Heap} {gn : Array GenState} {dr : Drawn} {t u r : Nat} {os : OsState} {l q : PySem.Expr} {op : CmpOp} {a b : Value} {pos : Pos} {whole : Sem Value} {Q : Bool → Shared → Prop}
theorem test_sv (F : Fr h₀ env.locals g m) (N : News h₀ env.locals g X) (c1 : SV env m X t l a u) (c2 : SV env m X u q b r) (hk : env.scope.kind = .function) (hm : behindInMarks op q = false)
    (h : wpAny (model prog w) A (compareOp op a b) (fun v s => wpAny (model prog w) A (truthy v) Q E s) E ⟨g, gn, dr, r, os⟩) :
    wpAny (model prog w) A (isTrue (.Compare l [op] [q] pos) env whole) Q E ⟨g, gn, dr, t, os⟩ :=
  wpAny_isTrue_Compare1 (c1.run hk (s := ⟨g, gn, dr, t, os⟩) F N rfl (c2.run hk (s := ⟨g, gn, dr, u, os⟩) F N rfl h)) hm
theorem test_eq {x y : Str} {tx ty : Tok} {c : Bool} (F : Fr h₀ env.locals g m) (N : News h₀ env.locals g X) (c1 : SV env m X t l (.str x tx) u) (c2 : SV env m X u q (.str y ty) r) (hk : env.scope.kind = .function) (hc : (x == y) = c) (hm : behindInMarks .Eq q = false)
    (h : Q c ⟨g, gn, dr, r, os⟩) : wpAny (model prog w) A (isTrue (.Compare l [.Eq] [q] pos) env whole) Q E ⟨g, gn, dr, t, os⟩ := by
  subst hc
  exact wpAny_isTrue_Compare1 (c1.run hk (s := ⟨g, gn, dr, t, os⟩) F N rfl (c2.run hk (s := ⟨g, gn, dr, u, os⟩) F N rfl (PyProof.Rows.eq_str (wpAny_truthy_bool h)))) hm
end
section
variable {prog : Program} {w : World} {A : Around} {E : Value → Shared → Prop} {h₀ : Heap} {L a : Addr} {m : Str → Option Value} {X : List (Addr × Obj)} {g : Heap} {gn : Array GenState} {dr : Drawn} {t : Nat} {os : OsState}
theorem new_list {vs : List Value} {Q : Value → Shared → Prop} (F : Fr h₀ L g m) (N : News h₀ L g X) (hz : vs.length ≤ sizeLine)
    (h : ∀ l h', Fr h₀ L h' m → News h₀ L h' ((l, listOf vs.toArray 0) :: X) → (∀ p ∈ X, p.1 < l) → Q (.ref l) ⟨h', gn, dr, t, os⟩) : wpAny (model prog w) A (newList vs) Q E ⟨g, gn, dr, t, os⟩ := newList_K (s := ⟨g, gn, dr, t, os⟩) F N h hz
theorem new_tup {vs : List Value} {Q : Value → Shared → Prop} (F : Fr h₀ L g m) (N : News h₀ L g X) (hz : vs.length ≤ sizeLine)
    (h : ∀ l h', Fr h₀ L h' m → News h₀ L h' ((l, ({ cls := .type "tuple", data := .seq vs.toArray } : Obj)) :: X) → (∀ p ∈ X, p.1 < l) → Q (.ref l) ⟨h', gn, dr, t, os⟩) : wpAny (model prog w) A (newTuple vs) Q E ⟨g, gn, dr, t, os⟩ := kup_newTuple (s := ⟨g, gn, dr, t, os⟩) F N h hz
theorem store_X {cn : Str} {cs : Scope} {ccd : Value} {cl : List (Str × Addr)} {x : Str} {v : Value} {Q : Unit → Shared → Prop} (F : Fr h₀ L g m) (N : News h₀ L g X) (hk : cs.kind = .function) (hx : (envX cn cs L a ccd cl).kindOf x = some .local)
    (h : ∀ h', Fr h₀ L h' (fun y => if y = x then some v else m y) → News h₀ L h' X → Q () ⟨h', gn, dr, t + 1, os⟩) : wpAny (model prog w) A (storeName (envX cn cs L a ccd cl) x v) Q E ⟨g, gn, dr, t, os⟩ := storeX_L (s := ⟨g, gn, dr, t, os⟩) F N h hk hx
theorem con_str {env : Env} {x : Str} {k : Nat} {pos : Pos} {Q : Value → Shared → Prop} (h : Q (.str x t) ⟨g, gn, dr, t + 1, os⟩) : wpAny (model prog w) A (eval (.Constant (.str x) k pos) env) Q E ⟨g, gn, dr, t, os⟩ := Constant_str h
theorem con_int {env : Env} {x : Int} {k : Nat} {pos : Pos} {Q : Value → Shared → Prop} (h : Q (.int x t) ⟨g, gn, dr, t + 1, os⟩) : wpAny (model prog w) A (eval (.Constant (.int x) k pos) env) Q E ⟨g, gn, dr, t, os⟩ := wpAny_Constant_int h
end
section
variable {prog : Program} {w : World} {A : Around} {E : Value → Shared → Prop} {h₀ : Heap} {m : Str → Option Value} {X : List (Addr × Obj)} {g : Heap} {gn : Array GenState} {dr : Drawn} {t u : Nat} {os : OsState} {env : Env} {es : List PySem.Expr} {vs : List Value}
theorem list_sv {pos : Pos} {Q : Value → Shared → Prop} {L : Addr} (F : Fr h₀ L g m) (N : News h₀ L g X) (hL : env.locals = L) (c : SVs env m X t es vs u) (hk : env.scope.kind = .function) (hz : vs.length ≤ sizeLine)
    (h : ∀ l h', Fr h₀ L h' m → News h₀ L h' ((l, listOf vs.toArray 0) :: X) → (∀ p ∈ X, p.1 < l) → Q (.ref l) ⟨h', gn, dr, u, os⟩) : wpAny (model prog w) A (eval (.List es pos) env) Q E ⟨g, gn, dr, t, os⟩ := by
  subst hL; exact List_ (args_sv F N c hk (new_list F N hz h))
theorem tup_sv {k : Nat} {pos : Pos} {Q : Value → Shared → Prop} {L : Addr} (F : Fr h₀ L g m) (N : News h₀ L g X) (hL : env.locals = L) (c : SVs env m X t es vs u) (hk : env.scope.kind = .function) (hz : vs.length ≤ sizeLine)
    (h : ∀ l h', Fr h₀ L h' m → News h₀ L h' ((l, ({ cls := .type "tuple", data := .seq vs.toArray } : Obj)) :: X) → (∀ p ∈ X, p.1 < l) → Q (.ref l) ⟨h', gn, dr, u, os⟩) : wpAny (model prog w) A (eval (.Tuple es k pos) env) Q E ⟨g, gn, dr, t, os⟩ := by
  subst hL; exact Tuple_ (args_sv F N c hk (new_tup F N hz h))
end
theorem words_02 : hd.heap_39 = hd.heap_39 ∧ PySem.Challenge.rw_xm0685_01 = PySem.Challenge.rw_xm0685_01 := by
  k_fill
  (k_with "my call type:tuple" => (k_here; (with_reducible show wpAny _ _ (call (Value.type _) [Value.ref _]) _ _ _); k_dflt (refine' kde_tupleOf ?z1 ?z2 ?z3 ?z4 rfl ?_; (case z1 => k_asm); (case z2 => k_asm); (case z3 => exact News.isList (by k_asm) (by k_extra "mem")); (case z4 => simpa using (by assumption))); intro D' h' F' N' l1; (try k_lt l1)))
  (k_with "leafb" => first | (refine' is_sym_b _ _ _ _ ?yt ?ye; (case yt => k_extra "tree"); (case ye => first | exact eq_tt rfl | exact eq_ff rfl | exact rfl)) | (refine' is_expr_b _ _ _ _ ?yt ?ye; (case yt => k_extra "tree"); (case ye => first | exact eq_tt rfl | exact eq_ff rfl | exact eq_ff (by assumption) | exact eq_tt (by assumption) | exact rfl)))
  (k_with "my isTrue Call" => (k_here; k_dflt (refine' test_leaf ?zB ?zF ?zN ?zX ?zT ?zL ?zf ?ze ?zK ?zc ?zh ?zg ?zd ?zC ?zk ?zr ?zu ?_; (case zL => exact rfl); (case zf => exact rfl); (case zh => first | exact rfl | assumption); (case zg => exact rfl); (case zd => exact rfl); (case zB => k_asm); (case zF => k_asm); (case zN => k_asm); (case zX => k_asm); (case zT => k_asm); (case ze => k_is); (case zK => k_is); (case zc => k_extra "svs"); (case zC => k_extra "leafb"); (case zk => first | exact rfl | assumption); (case zr => k_extra "room"); (case zu => k_extra "units"); k_whole); intro _ _ _ _; (try k_sweep)))
  (k_with "my isTrue Compare" => (k_here; (with_reducible show wpAny _ _ (isTrue (PySem.Expr.Compare (PySem.Expr.Call _ _ _ _) [CmpOp.Eq] _ _) _ _) _ _ _); k_dflt (refine' test_head ?zB ?zF ?zN ?zX ?zT ?zL ?zf ?ze ?zK ?zc ?zh ?zg ?zt ?zx ?zC ?zk ?zr ?zu ?_; (case zL => exact rfl); (case zf => exact rfl); (case zh => first | exact rfl | assumption); (case zg => exact rfl); (case zB => k_asm); (case zF => k_asm); (case zN => k_asm); (case zX => k_asm); (case zT => k_asm); (case ze => k_is); (case zK => k_is); (case zc => k_extra "sv"); (case zt => k_extra "tree"); (case zx => exact rfl); (case zC => first | exact eq_tt rfl | exact eq_ff rfl | exact eq_ff (by assumption) | exact eq_tt (by assumption) | exact rfl); (case zk => first | exact rfl | assumption); (case zr => k_extra "room"); (case zu => k_extra "units"); k_whole); intro _ _ _ _; (try k_sweep)))
  exact ⟨rfl, rfl⟩
noncomputable def headOf : Tree → Str
  | .expr h _ => h
  | _ => Str.ofString ""
noncomputable def isExpr (h : Str) : Tree → Bool
  | .expr k _ => k == h
  | _ => false
noncomputable def isSym : Tree → Bool
  | .sym _ => true
  | _ => false
theorem sym_spec (w : World) (mean mg mb) {x : Str} {t : Tok} {R : List (Addr × Obj)} :
    EndsR w mean mg mb 28 2 20 [.str x t] R (fun tl r => ∃ a tk, tl = [(a, tupO #[.str (Str.ofString "sym") tk, .str x t] 0)] ∧ r = .ref a) := by
  all_goals (k_dflt (refine' ends_fn ?zo ?zc ?zb ?zm ?zl ?z1 ?z2 ?z3 ?z4 ?_; (case zo => k_is); (case zc => k_is); (case zb => exact fun _ => BindsTo.of_eq rfl); (case zm => exact rfl); (case zl => exact locs rfl); (case z1 => exact rfl); (case z2 => exact rfl); (case z3 => exact rfl); (case z4 => decide); intro dp un gd outer A₀ base h₀ L g gn dr tk os Q B F X N T hd hu hret); k_steps)
  refine Ret.fin hret (by assumption) (by assumption) ⟨_, rfl, ?_, _, _, rfl, rfl⟩
  tb_rel
section
theorem expr_spec (w : World) (mean mg mb) {x : Str} {t : Tok} {l : Addr} {vs : List Value} {n : Nat} {R : List (Addr × Obj)} (hl : (l, listOf vs.toArray n) ∈ R) (hz : vs.length ≤ 16384) :
    EndsR w mean mg mb 21 2 20 [.str x t, .ref l] R (fun tl r => ∃ a b tk, tl = [(a, tupO #[.str (Str.ofString "expr") tk, .str x t, .ref b] 0), (b, tupO vs.toArray 0)] ∧ r = .ref a) := by
  all_goals (k_dflt (refine' ends_fn ?zo ?zc ?zb ?zm ?zl ?z1 ?z2 ?z3 ?z4 ?_; (case zo => k_is); (case zc => k_is); (case zb => exact fun _ => BindsTo.of_eq rfl); (case zm => exact rfl); (case zl => exact locs rfl); (case z1 => exact rfl); (case z2 => exact rfl); (case z3 => exact rfl); (case z4 => decide); intro dp un gd outer A₀ base h₀ L g gn dr tk os Q B F X N T hd hu hret); k_steps)
  refine Ret.fin hret (by assumption) (by assumption) ⟨[(_, _), (_, _)], rfl, ?_, _, _, _, rfl, rfl⟩
  tb_rel
end
theorem head_of_spec (w : World) (mean mg mb) {a : Addr} {t : Tree} {R : List (Addr × Obj)} (ht : TreeIn R (.ref a) t) :
    EndsR w mean mg mb 42 2 20 [.ref a] R (fun tl r => tl = [] ∧ ∃ tk, r = .str (headOf t) tk) := by
  cases ht
  all_goals (k_dflt (refine' ends_fn ?zo ?zc ?zb ?zm ?zl ?z1 ?z2 ?z3 ?z4 ?_; (case zo => k_is); (case zc => k_is); (case zb => exact fun _ => BindsTo.of_eq rfl); (case zm => exact rfl); (case zl => exact locs rfl); (case z1 => exact rfl); (case z2 => exact rfl); (case z3 => exact rfl); (case z4 => decide); intro dp un gd outer A₀ base h₀ L g gn dr tk os Q B F X N T hd hu hret); k_steps)
  all_goals exact Ret.fin hret (by assumption) (by assumption) ⟨_, rfl, Above.nil, rfl, _, rfl⟩
theorem is_sym_spec (w : World) (mean mg mb) {a : Addr} {t : Tree} {R : List (Addr × Obj)} (ht : TreeIn R (.ref a) t) :
    EndsR w mean mg mb 56 2 20 [.ref a] R (fun tl r => tl = [] ∧ r = .bool (isSym t)) := by
  cases ht
  all_goals (k_dflt (refine' ends_fn ?zo ?zc ?zb ?zm ?zl ?z1 ?z2 ?z3 ?z4 ?_; (case zo => k_is); (case zc => k_is); (case zb => exact fun _ => BindsTo.of_eq rfl); (case zm => exact rfl); (case zl => exact locs rfl); (case z1 => exact rfl); (case z2 => exact rfl); (case z3 => exact rfl); (case z4 => decide); intro dp un gd outer A₀ base h₀ L g gn dr tk os Q B F X N T hd hu hret); k_steps)
  all_goals exact Ret.fin hret (by assumption) (by assumption) ⟨_, rfl, Above.nil, rfl, rfl⟩
theorem is_expr_spec (w : World) (mean mg mb) {a : Addr} {t : Tree} {R : List (Addr × Obj)} (ht : TreeIn R (.ref a) t) {h : Str} {u : Tok} :
    EndsR w mean mg mb 35 2 20 [.ref a, .str h u] R (fun tl r => tl = [] ∧ r = .bool (isExpr h t)) := by
  cases ht
  all_goals (k_dflt (refine' ends_fn ?zo ?zc ?zb ?zm ?zl ?z1 ?z2 ?z3 ?z4 ?_; (case zo => k_is); (case zc => k_is); (case zb => exact fun _ => BindsTo.of_eq rfl); (case zm => exact rfl); (case zl => exact locs rfl); (case z1 => exact rfl); (case z2 => exact rfl); (case z3 => exact rfl); (case z4 => decide); intro dp un gd outer A₀ base h₀ L g gn dr tk os Q B F X N T hd hu hret); k_steps)
  all_goals exact Ret.fin hret (by assumption) (by assumption) ⟨_, rfl, Above.nil, rfl, rfl⟩
theorem is_sym_b (w : World) (mean mg mb) {a : Addr} {t : Tree} {c : Bool} {R : List (Addr × Obj)} (ht : TreeIn R (.ref a) t) (e : isSym t = c) :
    EndsR w mean mg mb 56 2 20 [.ref a] R (fun tl r => tl = [] ∧ r = .bool c) := e ▸ is_sym_spec w mean mg mb ht
theorem is_expr_b (w : World) (mean mg mb) {a : Addr} {t : Tree} {c : Bool} {R : List (Addr × Obj)} {h : Str} {u : Tok} (ht : TreeIn R (.ref a) t) (e : isExpr h t = c) :
    EndsR w mean mg mb 35 2 20 [.ref a, .str h u] R (fun tl r => tl = [] ∧ r = .bool c) := e ▸ is_expr_spec w mean mg mb ht
theorem head_of_x (w : World) (mean mg mb) {a : Addr} {h : Str} {ps : List Tree} {R : List (Addr × Obj)} (ht : TreeIn R (.ref a) (.expr h ps)) :
    EndsR w mean mg mb 42 2 20 [.ref a] R (fun tl r => tl = [] ∧ ∃ tk, r = .str h tk) := head_of_spec w mean mg mb ht
theorem head_of_i (w : World) (mean mg mb) {a : Addr} {x : Int} {R : List (Addr × Obj)} (ht : TreeIn R (.ref a) (.int x)) :
    EndsR w mean mg mb 42 2 20 [.ref a] R (fun tl r => tl = [] ∧ ∃ tk, r = .str (Str.ofString "") tk) := head_of_spec w mean mg mb ht
theorem parts_of_expr (w : World) (mean mg mb) {a b : Addr} {t u : Tok} {h : Str} {n : Nat} {R : List (Addr × Obj)} (ht : (a, tupO #[.str (Str.ofString "expr") t, .str h u, .ref b] n) ∈ R) :
    EndsR w mean mg mb 49 2 20 [.ref a] R (fun tl r => tl = [] ∧ r = .ref b) := by
  all_goals (k_dflt (refine' ends_fn ?zo ?zc ?zb ?zm ?zl ?z1 ?z2 ?z3 ?z4 ?_; (case zo => k_is); (case zc => k_is); (case zb => exact fun _ => BindsTo.of_eq rfl); (case zm => exact rfl); (case zl => exact locs rfl); (case z1 => exact rfl); (case z2 => exact rfl); (case z3 => exact rfl); (case z4 => decide); intro dp un gd outer A₀ base h₀ L g gn dr tk os Q B F X N T hd hu hret); k_steps)
  exact Ret.fin hret (by assumption) (by assumption) ⟨[], rfl, Above.nil, rfl, rfl⟩
theorem parts_of_sym (w : World) (mean mg mb) {a : Addr} {t : Tok} {v : Value} {n : Nat} {R : List (Addr × Obj)} (ht : (a, tupO #[.str (Str.ofString "sym") t, v] n) ∈ R) :
    EndsR w mean mg mb 49 2 20 [.ref a] R (fun tl r => ∃ b tk, tl = [(b, tupO ([] : List Value).toArray (0 * tk))] ∧ r = .ref b) := by
  all_goals (k_dflt (refine' ends_fn ?zo ?zc ?zb ?zm ?zl ?z1 ?z2 ?z3 ?z4 ?_; (case zo => k_is); (case zc => k_is); (case zb => exact fun _ => BindsTo.of_eq rfl); (case zm => exact rfl); (case zl => exact locs rfl); (case z1 => exact rfl); (case z2 => exact rfl); (case z3 => exact rfl); (case z4 => decide); intro dp un gd outer A₀ base h₀ L g gn dr tk os Q B F X N T hd hu hret); k_steps)
  refine Ret.fin hret (by assumption) (by assumption) ⟨[(_, _)], rfl, ?_, _, 0, rfl, rfl⟩
  tb_rel
theorem parts_of_int (w : World) (mean mg mb) {a : Addr} {t : Tok} {v : Value} {n : Nat} {R : List (Addr × Obj)} (ht : (a, tupO #[.str (Str.ofString "int") t, v] n) ∈ R) :
    EndsR w mean mg mb 49 2 20 [.ref a] R (fun tl r => ∃ b tk, tl = [(b, tupO ([] : List Value).toArray (0 * tk))] ∧ r = .ref b) := by
  all_goals (k_dflt (refine' ends_fn ?zo ?zc ?zb ?zm ?zl ?z1 ?z2 ?z3 ?z4 ?_; (case zo => k_is); (case zc => k_is); (case zb => exact fun _ => BindsTo.of_eq rfl); (case zm => exact rfl); (case zl => exact locs rfl); (case z1 => exact rfl); (case z2 => exact rfl); (case z3 => exact rfl); (case z4 => decide); intro dp un gd outer A₀ base h₀ L g gn dr tk os Q B F X N T hd hu hret); k_steps)
  refine Ret.fin hret (by assumption) (by assumption) ⟨[(_, _)], rfl, ?_, _, 0, rfl, rfl⟩
  tb_rel
section
variable {w : World} {mean : ExcName → Option Value} {mg mb : Str → Option Value} {X : List (Addr × Obj)} {dp un : Nat} {gd : Option (List Code)} {cn : Str} {cs : Scope} {L a : Addr} {ccd : Value} {cl : List (Str × Addr)} {outer : List Env} {A₀ : Around} {base h₀ : Heap} {m : Str → Option Value}
  {g : Heap} {gn : Array GenState} {dr : Drawn} {t u : Nat} {os : OsState} {f : Str} {fp pos : Pos} {e : PySem.Expr} {es : List PySem.Expr} {fa : Addr} {vs : List Value} {env : Env} {E : Value → Shared → Prop}
theorem test_leaf {d v : Nat} {c : Bool} {Q : Bool → Shared → Prop} (B : Below A₀ base outer h₀) (F : Fr h₀ L g m) (N : News h₀ L g X) (KX : (hd.heap_39 w.params).In h₀) (T : Top hd.view_39 (looseW hd.view_39 []) mean mg mb h₀)
    (hL : env.locals = L) (hf : env.kindOf f = some .globalImplicit) (he : nsIn (hd.heap_39 w.params) mainGlobals f = some (some (.ref fa))) (hkeep : keepIn (hd.heap_39 w.params) (.ref fa) = true) (cv : SVs env m X t (e :: es) vs u) (hk : env.scope.kind = .function) (hg : env.globals = mainGlobals) (hdb : (f == ("__debug__" : Str)) = false)
    (C : EndsR w mean mg mb fa d v vs X (fun tl r => tl = [] ∧ r = .bool c)) (hk' : cs.kind = .function) (hd' : dp + d < recursionLimit) (hu : un + v < cLine)
    (ret : ∀ h' tk', Fr h₀ L h' m → News h₀ L h' X → Q c ⟨h', gn, dr, tk', os⟩) :
    wpAny (model PySem.Challenge.rw_xm0685_01.row.prog w) (ktrTop dp un gd cn cs L a ccd cl outer) (isTrue (.Call (.Name f fp) (e :: es) [] pos) env (eval (.Call (.Name f fp) (e :: es) [] pos) env)) Q E ⟨g, gn, dr, t, os⟩ := by
  subst hL
  exact isTrue_plain (call_sv F N KX (topRead_of T) hf he hkeep cv hk hg hdb (use_Rv C B F KX N T hk' hd' hu fun h' tk' F' N' => wpAny_truthy_bool (ret h' tk' F' N')))
theorem test_head {x y : Str} {k : Nat} {p q : Pos} {b : Addr} {tr : Tree} {c : Bool} {Q : Bool → Shared → Prop} (B : Below A₀ base outer h₀) (F : Fr h₀ L g m) (N : News h₀ L g X) (KX : (hd.heap_39 w.params).In h₀) (T : Top hd.view_39 (looseW hd.view_39 []) mean mg mb h₀)
    (hL : env.locals = L) (hf : env.kindOf (Str.ofString "head_of") = some .globalImplicit) (he : nsIn (hd.heap_39 w.params) mainGlobals (Str.ofString "head_of") = some (some (.ref 42))) (hkeep : keepIn (hd.heap_39 w.params) (.ref 42) = true) (cv : SV env m X t e (.ref b) u) (hk : env.scope.kind = .function) (hg : env.globals = mainGlobals)
    (hT : TreeIn X (.ref b) tr) (hx : headOf tr = x) (hc : (x == y) = c) (hk' : cs.kind = .function) (hd' : dp + 2 < recursionLimit) (hu : un + 20 < cLine)
    (ret : ∀ h' tk', Fr h₀ L h' m → News h₀ L h' X → Q c ⟨h', gn, dr, tk', os⟩) {whole : Sem Value} :
    wpAny (model PySem.Challenge.rw_xm0685_01.row.prog w) (ktrTop dp un gd cn cs L a ccd cl outer) (isTrue (.Compare (.Call (.Name (Str.ofString "head_of") fp) [e] [] p) [.Eq] [.Constant (.str y) k q] pos) env whole) Q E ⟨g, gn, dr, t, os⟩ := by
  subst hL hx hc
  exact wpAny_isTrue_Compare1 (call_sv F N KX (topRead_of T) hf he hkeep (.cons cv .nil) hk hg rfl (use_Rs (head_of_spec w mean mg mb hT) B F KX N T hk' hd' hu fun tk2 h' tk' F' N' => Constant_str (PyProof.Rows.eq_str (wpAny_truthy_bool (ret h' _ F' N'))))) rfl
end
theorem take_spec (w : World) (mean mg mb) {src : Addr} {o : Obj} {top : Int} {k : Tok} {R : List (Addr × Obj)} (hne : Off src R) (ho : SrcO o) (ht : 0 < top) (ht8 : top ≤ 8) :
    EndsS w mean mg mb 119 2 20 [.ref src, .int top k] src o R (fun o' tl r => SrcO o' ∧ tl = [] ∧ ∃ d tk, r = .int d tk ∧ 0 ≤ d ∧ d < top) := by
  obtain ⟨x, y, t, u, n, rfl, hy0, hy1⟩ := ho
  unfold Off at hne
  have ht0 : top ≠ 0 := by omega
  (k_dflt (refine' ends_fn ?zo ?zc ?zb ?zm ?zl ?z1 ?z2 ?z3 ?z4 ?_; (case zo => k_is); (case zc => k_is); (case zb => exact fun _ => BindsTo.of_eq rfl); (case zm => exact rfl); (case zl => exact locs rfl); (case z1 => exact rfl); (case z2 => exact rfl); (case z3 => exact rfl); (case z4 => decide); intro dp un gd outer A₀ base h₀ L g gn dr tk os Q B F X N T hd hu hret); k_steps)
  · have h1 := Int.fmod_nonneg_of_pos ([x, y].getD (Int.toNat 0) 0) ht
    have h2 := Int.fmod_lt_of_pos ([x, y].getD (Int.toNat 0) 0) ht
    (refine Ret.fin hret (by assumption) (by assumption) ?_)
    exact ⟨_, [], rfl, Above.nil, ⟨_, _, _, _, _, rfl, hy0, hy1⟩, rfl, _, _, rfl, h1, h2⟩
  · have e1 : [x, (([x, y].getD (Int.toNat 1) 0 * 39373 + 7).fmod 2147483647)].getD (Int.toNat 1) 0 = ([x, y].getD (Int.toNat 1) 0 * 39373 + 7).fmod 2147483647 := rfl
    have h3 := Int.fmod_nonneg_of_pos ([x, y].getD (Int.toNat 1) 0 * 39373 + 7) (b := 2147483647) (by decide)
    have h4 := Int.fmod_lt_of_pos ([x, y].getD (Int.toNat 1) 0 * 39373 + 7) (b := 2147483647) (by decide)
    rw [e1]
    generalize ([x, y].getD (Int.toNat 1) 0 * 39373 + 7).fmod 2147483647 = y' at *
    refine mul_int ?_ (IntMulOk.of_right (intBits_le_64 (by omega) (by omega)))
    k_steps
    have h1 := Int.fmod_nonneg_of_pos (((y' * y').fmod 2147483629).fdiv 32) ht
    have h2 := Int.fmod_lt_of_pos (((y' * y').fmod 2147483629).fdiv 32) ht
    (refine Ret.fin hret (by assumption) (by assumption) ?_)
    exact ⟨_, [], rfl, Above.nil, ⟨_, _, _, _, _, rfl, h3, by omega⟩, rfl, _, _, rfl, h1, h2⟩
section
variable {w : World} {mean : ExcName → Option Value} {mg mb : Str → Option Value} {R news : List (Addr × Obj)}
  {dp un : Nat} {gd : Option (List Code)} {cn : Str} {cs : Scope} {a : Addr} {ccd : Value} {cl : List (Str × Addr)} {outer : List Env} {A₀ : Around} {base h₀ : Heap} {L : Addr} {m : Str → Option Value} {g : Heap} {gn : Array GenState} {dr : Drawn} {tk : Nat} {os : OsState}
  {Q E : Value → Shared → Prop}
theorem call_take {src : Addr} {o : Obj} {top : Int} {k : Tok} (hne : Off src R) (ho : SrcO o) (ht : 0 < top) (ht8 : top ≤ 8) (B : Below A₀ base outer h₀) (F : Fr h₀ L g m) (X : (hd.heap_39 w.params).In h₀) (N : News h₀ L g news) (hs : ∀ p ∈ (src, o) :: R, p ∈ news) (T : Top hd.view_39 (looseW hd.view_39 []) mean mg mb h₀) (hk : cs.kind = .function) (hd' : dp + 2 < recursionLimit) (hu : un + 20 < cLine)
    (ret : ∀ o' i t' h' tk', SrcO o' → 0 ≤ i → i < top → Fr h₀ L h' m → News h₀ L h' ((src, o') :: R) → Q (.int i t') ⟨h', gn, dr, tk', os⟩) : wpAny (model PySem.Challenge.rw_xm0685_01.row.prog w) (ktrTop dp un gd cn cs L a ccd cl outer) (call (.ref 119) [.ref src, .int top k]) Q E ⟨g, gn, dr, tk, os⟩ := by
  refine use_S (take_spec w mean mg mb hne ho ht ht8) B F X N hs T hk hd' hu ?_
  rintro r o' tl h' tk' ⟨ho', rfl, i, t', rfl, h0, h1⟩ _ F' N'
  exact ret o' i t' h' tk' ho' h0 h1 F' N'
end
section
variable {prog : Program} {w : World} {A : Around} {E : Value → Shared → Prop} {s : Shared} {env : Env} {h₀ : Heap} {x : Str} {body : List Stmt} {Q : Flow → Shared → Prop}
noncomputable def TurnTo (h₀ : Heap) (L : Addr) (J : (Str → Option Value) → List (Addr × Obj) → Prop) (I : Addr) (oI : Obj) (s₁ s₂ : Shared) : Prop :=
  ∃ h' tk m' nx, s₂ = { s₁ with heap := h', toks := tk } ∧ Fr h₀ L h' m' ∧ News h₀ L h' ((I, oI) :: nx) ∧ Off I nx ∧ J m' nx
noncomputable def TurnEnd (h₀ : Heap) (L : Addr) (J : (Str → Option Value) → List (Addr × Obj) → Prop) (I : Addr) (oI : Obj) (s₁ : Shared) (Q : Flow → Shared → Prop) (f : Flow) (s₂ : Shared) : Prop :=
  match f with
  | .ret v => Q (.ret v) s₂
  | .brk => Q .next s₂
  | _ => TurnTo h₀ L J I oI s₁ s₂

theorem cutT {M : Model} {h₀ : Heap} {L : Addr} {J : (Str → Option Value) → List (Addr × Obj) → Prop} {I : Addr} {oI : Obj} {s₁ s : Shared} {Q₀ : Flow → Shared → Prop} {t : Sem Flow}
    (key : ∀ Q : Flow → Shared → Prop, (∀ s₂, TurnTo h₀ L J I oI s₁ s₂ → Q .next s₂) → (∀ v s₂, Q₀ (.ret v) s₂ → Q (.ret v) s₂) → wpAny M A t Q E s) : wpAny M A t (TurnEnd h₀ L J I oI s₁ Q₀) E s :=
  key _ (fun _ h => h) fun _ _ h => h
theorem loop_mine {I l : Addr} {ob : Obj} {n : Nat} {P : Nat → Value → Prop} {St : Nat → Heap → Prop} {m₀ : Str → Option Value} {news : List (Addr × Obj)} (J : Nat → (Str → Option Value) → List (Addr × Obj) → Prop)
    (W : Walks prog w A I [I, l] [I] n P St) (hSt : ∀ i h, St i h → ∃ o, h.get? I = some o) (hst : St 0 s.heap) (F : Fr h₀ env.locals s.heap m₀) (N : News h₀ env.locals s.heap news) (hI : Off I news) (hI0 : h₀.get? I = none) (hLI : env.locals ≠ I) (hl : (l, ob) ∈ news) (hj : J 0 m₀ news)
    (keep : ∀ i m nx, J i m nx → (l, ob) ∈ nx)
    (turn : ∀ i v m₁ nx h tk oI, i < n → P i v → J i m₁ nx → Off I nx → Fr h₀ env.locals h (fun y => if y = x then some v else m₁ y) → News h₀ env.locals h ((I, oI) :: nx) →
      wpAny (model prog w) A (execs body env) (TurnEnd h₀ env.locals (J (i + 1)) I oI { s with heap := h, toks := tk } Q) E { s with heap := h, toks := tk })
    (done : ∀ m₁ nx h tk, J n m₁ nx → Fr h₀ env.locals h m₁ → News h₀ env.locals h nx → Q .next { s with heap := h, toks := tk }) :
    LoopAtV prog w A h₀ env x body Q E (.ref I) s := by
  have hl' := N _ hl
  have hLl : env.locals ≠ l := Ne.symm hl'.2.1
  refine ⟨I, [I, l], [I], n, P, St, m₀, news, J, rfl, W, ?_, ?_, ?_, hst, F, N, hj, ?_, ?_⟩
  · intro hm
    rcases List.mem_cons.mp hm with e | hm
    · exact hLI e
    · exact hLl (List.mem_singleton.mp hm)
  · intro b hb
    rw [List.mem_singleton.mp hb]
    exact hI0
  · intro p hp hm
    exact hI p hp (List.mem_singleton.mp hm)
  · rintro i v m₁ nx s₁ own ⟨h, tk, rfl⟩ hin hP hJ hoff hown hat hmem hst₁ F₁ N₁
    obtain ⟨oI, hoI⟩ := hSt _ _ hst₁
    have hIo : (I, oI) ∈ own := hmem I (.head _) hI0 oI hoI
    have offI : Off I nx := fun p hp e => hoff p hp (List.mem_singleton.mpr e)
    have N₂ : News h₀ env.locals h ((I, oI) :: nx) := fun p hp => N₁ p (by
      rcases List.mem_cons.mp hp with rfl | hp
      · exact List.mem_append_left _ hIo
      · exact List.mem_append_right _ hp)
    refine wpAny_mono (turn i v m₁ nx h tk oI hin hP hJ offI F₁ N₂) (fun f s₂ p => ?_) fun _ _ e => e
    have fin : TurnTo h₀ env.locals (J (i + 1)) I oI { s with heap := h, toks := tk } s₂ → LoopStepU h₀ env.locals [I] own (J (i + 1)) { s with heap := h, toks := tk } .next s₂ := by
      intro h8
      (refine ex4 (h8) ?_; (try clear h8); intro h' tk' m' nx' h9; refine an5 h9 ?_; clear h9; rintro e F' N' off' hJ')
      refine ⟨rfl, h', tk', m', nx', e, F', fun p hp => ?_, fun p hp hm => off' p hp (List.mem_singleton.mp hm), hJ'⟩
      rcases List.mem_append.mp hp with hp | hp
      · rcases List.mem_cons.mp (hown p hp) with e1 | e1
        · have e2 := hat p hp
          rw [e1] at e2
          have e3 : p = (I, oI) := Prod.ext e1 (Option.some.inj (e2.symm.trans hoI))
          rw [e3]
          exact N' _ (.head _)
        · have e1 := List.mem_singleton.mp e1
          have e2 := hat p hp
          have e4 := (N₂ _ (List.mem_cons_of_mem _ (keep _ _ _ hJ))).1
          rw [e1] at e2
          have e3 : p = (l, ob) := Prod.ext e1 (Option.some.inj (e2.symm.trans e4))
          rw [e3]
          exact N' _ (List.mem_cons_of_mem _ (keep _ _ _ hJ'))
      · exact N' _ (List.mem_cons_of_mem _ hp)
    cases f with
    | ret v => exact .ret p
    | brk => exact .brk p
    | next => exact .next (fin p)
    | cont => exact .cont (fin p)
  · rintro h' tk m' nx F' N' _ hJ
    exact done m' nx h' tk hJ F' N'

theorem iter_list {l : Addr} {vs : List Value} {k : Nat} {m₀ : Str → Option Value} {news : List (Addr × Obj)} (J : Nat → (Str → Option Value) → List (Addr × Obj) → Prop)
    (hh : A.handled = none) (F : Fr h₀ env.locals s.heap m₀) (N : News h₀ env.locals s.heap news) (hl : (l, listOf vs.toArray k) ∈ news) (hj : J 0 m₀ news)
    (keep : ∀ i m nx, J i m nx → (l, listOf vs.toArray k) ∈ nx)
    (turn : ∀ i v m₁ nx h tk I oI, vs[i]? = some v → J i m₁ nx → Off I nx → Fr h₀ env.locals h (fun y => if y = x then some v else m₁ y) → News h₀ env.locals h ((I, oI) :: nx) →
      wpAny (model prog w) A (execs body env) (TurnEnd h₀ env.locals (J (i + 1)) I oI { s with heap := h, toks := tk } Q) E { s with heap := h, toks := tk })
    (done : ∀ m₁ nx h tk, J vs.length m₁ nx → Fr h₀ env.locals h m₁ → News h₀ env.locals h nx → Q .next { s with heap := h, toks := tk }) :
    wpAny (model prog w) A (pyIter (.ref l)) (fun it s₂ => LoopAtV prog w A h₀ env x body Q E it s₂) E s := by
  have hls : s.heap.IsList l vs.toArray := N.isList hl
  have hlt : l < s.heap.objs.size := Heap.lt_size (N _ hl).1
  refine wpAny_pyIter_list hls ?_
  have W := Walks.list (prog := prog) (w := w) hh s.heap.objs.size l (Nat.ne_of_lt hlt) vs.toArray
  refine loop_mine (n := vs.toArray.size) J W (fun i h st => let ⟨⟨o, e, _⟩, _⟩ := st; ⟨o, e⟩) ⟨⟨_, Heap.get?_push_size _ rfl, rfl, rfl⟩, hls.at fun o e => Heap.get?_push_of_some _ e⟩ (F.push _) (fun p hp => ⟨Heap.get?_push_of_some _ (N p hp).1, (N p hp).2⟩)
    (fun p hp e => absurd (Heap.lt_size (N p hp).1) (by rw [e]; exact Nat.lt_irrefl _)) (next_is_new F) (fun e => absurd F.ns.lt (by rw [e]; exact Nat.lt_irrefl _)) hl hj keep
    (fun i v m₁ nx h tk oI _ hP hJ off F' N' => turn i v m₁ nx h tk _ oI (by simpa using hP) hJ off F' N') (fun m₁ nx h tk hJ F' N' => done m₁ nx h tk (by simpa using hJ) F' N')

theorem iter_tup {l : Addr} {vs : List Value} {k : Nat} {m₀ : Str → Option Value} {news : List (Addr × Obj)} (J : Nat → (Str → Option Value) → List (Addr × Obj) → Prop)
    (hh : A.handled = none) (F : Fr h₀ env.locals s.heap m₀) (N : News h₀ env.locals s.heap news) (hl : (l, tupO vs.toArray k) ∈ news) (hj : J 0 m₀ news)
    (keep : ∀ i m nx, J i m nx → (l, tupO vs.toArray k) ∈ nx)
    (turn : ∀ i v m₁ nx h tk I oI, vs[i]? = some v → J i m₁ nx → Off I nx → Fr h₀ env.locals h (fun y => if y = x then some v else m₁ y) → News h₀ env.locals h ((I, oI) :: nx) →
      wpAny (model prog w) A (execs body env) (TurnEnd h₀ env.locals (J (i + 1)) I oI { s with heap := h, toks := tk } Q) E { s with heap := h, toks := tk })
    (done : ∀ m₁ nx h tk, J vs.length m₁ nx → Fr h₀ env.locals h m₁ → News h₀ env.locals h nx → Q .next { s with heap := h, toks := tk }) :
    wpAny (model prog w) A (pyIter (.ref l)) (fun it s₂ => LoopAtV prog w A h₀ env x body Q E it s₂) E s := by
  have hls : s.heap.IsTuple l vs.toArray := ⟨_, (N _ hl).1, rfl, _, rfl⟩
  have hlt : l < s.heap.objs.size := Heap.lt_size (N _ hl).1
  refine wpAny_pyIter_tuple hls ?_
  have W := Walks.tuple (prog := prog) (w := w) hh s.heap.objs.size l (Nat.ne_of_lt hlt) vs.toArray
  refine loop_mine (n := vs.toArray.size) J W (fun i h st => let ⟨⟨o, e, _⟩, _⟩ := st; ⟨o, e⟩) ⟨⟨_, Heap.get?_push_size _ rfl, rfl, rfl⟩, hls.at fun o e => Heap.get?_push_of_some _ e⟩ (F.push _) (fun p hp => ⟨Heap.get?_push_of_some _ (N p hp).1, (N p hp).2⟩)
    (fun p hp e => absurd (Heap.lt_size (N p hp).1) (by rw [e]; exact Nat.lt_irrefl _)) (next_is_new F) (fun e => absurd F.ns.lt (by rw [e]; exact Nat.lt_irrefl _)) hl hj keep
    (fun i v m₁ nx h tk oI _ hP hJ off F' N' => turn i v m₁ nx h tk _ oI (by simpa using hP) hJ off F' N') (fun m₁ nx h tk hJ F' N' => done m₁ nx h tk (by simpa using hJ) F' N')
end

theorem readsAll_of_strs {h : Heap} {vs : List Value} {ns : List Str} (x : StrsAre vs ns) : ReadsAll h vs (ns.map PyData.str) [] := strs_readAll h x
theorem strs_any {vs : List Value} {xs : List Str} (h : StrsAre vs xs) {r : Value} (hr : r ∈ vs) : ∃ x t, r = .str x t ∧ x ∈ xs := by
  induction h with
  | nil => cases hr
  | cons x t _ ih =>
    cases hr with
    | head => exact ⟨x, t, rfl, .head _⟩
    | tail _ hr => exact (ih hr).imp fun _ h => h.imp fun _ h => h.imp id (.tail _)
theorem reads_of_strs {h : Heap} {a : Addr} {vs : List Value} {ns : List Str} (hl : h.IsList a vs.toArray) (hi : StrsAre vs ns) : Reads h (.ref a) (.list (ns.map PyData.str)) [a] := by
  obtain ⟨o, ho, hc, n, hd⟩ := hl
  exact Reads.list ho hc hd (by simpa using readsAll_of_strs hi)
noncomputable def NOk (ns : List Str) : Prop := ∀ x ∈ ns, PyData.strOk x = true
theorem canLayAll0_strs : ∀ ns : List Str, NOk ns → PyData.canLayAll0 (ns.map PyData.str) = true
  | [], _ => by simp [PyData.canLayAll0]
  | n :: r, h => by simp [PyData.canLayAll0, PyData.canLay0, canLayAll0_strs r (fun x hx => h x (.tail _ hx)), h n (.head _)]
theorem depthAll_strs : ∀ ns : List Str, PyData.depthAll (ns.map PyData.str) ≤ 1
  | [] => by simp [PyData.depthAll]
  | n :: r => by
    have := depthAll_strs r
    simp only [List.map_cons, PyData.depthAll, PyData.depth]
    omega
theorem shaped_strs (ns : List Str) (ok : NOk ns) : SeqAt.shaped (.list (ns.map PyData.str)) = true := by
  have h1 := depthAll_strs ns
  have h2 : PyData.depth (.list (ns.map PyData.str)) ≤ 64 := by simp only [PyData.depth]; omega
  show (PyData.canLay0 (.list (ns.map PyData.str)) && decide (PyData.depth (.list (ns.map PyData.str)) ≤ 64)) = true
  rw [Bool.and_eq_true]
  exact ⟨by simp only [PyData.canLay0]; exact canLayAll0_strs ns ok, decide_eq_true h2⟩
open PySem.SeqAt PyProof.V in
theorem noMix_strs : ∀ ns ms : List Str, noMixAll (ns.map PyData.str) (ms.map PyData.str) = true
  | [], [] => by simp [noMixAll]
  | [], _ :: _ => by simp [noMixAll]
  | _ :: _, [] => by simp [noMixAll]
  | _ :: r, _ :: q => by simp [noMixAll, noMix, noMix_strs r q]
theorem same_strs : ∀ ns : List Str, PySem.Spec.sameAll (ns.map PyData.str) (ns.map PyData.str) = true
  | [] => by simp [PySem.Spec.sameAll]
  | n :: r => by simp [PySem.Spec.sameAll, PySem.Spec.same, same_strs r]
section
open PySem.SeqAt PyProof.V
variable {prog : Program} {w : World} {A : Around} {E : Value → Shared → Prop} {s : Shared} {h₀ : Heap} {L : Addr} {news : List (Addr × Obj)}
theorem eq_strs {a b : Addr} {vs us : List Value} {n k : Nat} {ns : List Str} {Q : Value → Shared → Prop} (N : News h₀ L s.heap news) (hl : (a, listOf vs.toArray n) ∈ news) (hl' : (b, listOf us.toArray k) ∈ news) (hi : StrsAre vs ns) (hi' : StrsAre us ns) (ok : NOk ns) (hu : A.units + 64 < cLine)
    (h : Q (.bool true) s) : wpAny (model prog w) A (compareOp .Eq (.ref a) (.ref b)) Q E s :=
  eq_dataH_same (reads_of_strs (N.isList hl) hi) (reads_of_strs (N.isList hl') hi') (shaped_strs ns ok) (shaped_strs ns ok) hu (by simp only [noMix]; exact noMix_strs ns ns) (by simp only [PySem.Spec.same]; rw [same_strs]; exact h)
theorem ne_strs {a b : Addr} {vs us : List Value} {n k : Nat} {ns : List Str} {Q : Value → Shared → Prop} (N : News h₀ L s.heap news) (hl : (a, listOf vs.toArray n) ∈ news) (hl' : (b, listOf us.toArray k) ∈ news) (hi : StrsAre vs ns) (hi' : StrsAre us ns) (ok : NOk ns) (hu : A.units + 64 < cLine)
    (h : Q (.bool false) s) : wpAny (model prog w) A (compareOp .NotEq (.ref a) (.ref b)) Q E s :=
  ne_dataH_same (reads_of_strs (N.isList hl) hi) (reads_of_strs (N.isList hl') hi') (shaped_strs ns ok) (shaped_strs ns ok) hu (by simp only [noMix]; exact noMix_strs ns ns) (by simp only [PySem.Spec.same]; rw [same_strs]; exact h)
end
theorem For_hold {prog : Program} {w : World} {A : Around} {s : Shared} {env : Env} {h₀ : Heap} {E : Value → Shared → Prop} {Q : Flow → Shared → Prop} {x : Str} {px pos : Pos} {iter : PySem.Expr} {body : List Stmt} {m : Str → Option Value} (F : Fr h₀ env.locals s.heap m) (hx : env.kindOf x = some .local)
    (hp : (env.scope.kind == .class || (env.scope.kind == .module && env.locals != env.globals)) = false)
    (h : wpAny (model prog w) A (eval iter env) (fun xv s₁ => Hold (wpAny (model prog w) A (pyIter xv) (fun it s₂ => LoopAtV prog w A h₀ env x body Q E it s₂) E s₁)) E s)
    (hs : ∀ x, foldedSetIterable iter env x = pure x)
    (hE : PassesOwn (model prog w) A env E) :
    wpAny (model prog w) A (exec (.For (.Name x px) iter body [] pos) env) Q E s := For_invVF F hx hp h hs hE

noncomputable def addOnce (xs : List Str) (y : Str) : List Str := if xs.any (· == y) then xs else xs ++ [y]
noncomputable def putOnce (xs ys : List Str) : List Str := ys.foldl addOnce xs
theorem addOnce_length (xs : List Str) (y : Str) : (addOnce xs y).length ≤ xs.length + 1 := by unfold addOnce; split <;> simp
theorem putOnce_length (ys : List Str) : ∀ xs : List Str, (putOnce xs ys).length ≤ xs.length + ys.length := by
  induction ys with
  | nil => intro xs; simp [putOnce]
  | cons y ys ih =>
    intro xs
    have h1 := ih (addOnce xs y)
    have h2 := addOnce_length xs y
    simp only [putOnce, List.foldl_cons, List.length_cons] at *
    omega
theorem putOnce_take (xs ys : List Str) (i : Nat) (y : Str) (h : ys[i]? = some y) : putOnce xs (ys.take (i + 1)) = addOnce (putOnce xs (ys.take i)) y := by
  unfold putOnce
  rw [List.take_add_one, h]
  simp
section
variable {prog : Program} {w : World} {A : Around} {E : Value → Shared → Prop} {s : Shared} {env : Env} {h₀ : Heap} {x : Str} {body : List Stmt} {Q : Flow → Shared → Prop}
theorem keep_fun {x : Str} {st : List Str} {m m₀ : Str → Option Value} (h : ∀ z, z ≠ x → st.contains z = false → m z = m₀ z) : m = fun z => if z = x then m z else if st.contains z then m z else m₀ z := by
  funext z
  by_cases h1 : z = x
  · simp [h1]
  · cases h2 : st.contains z with
    | true => simp [h1]
    | false => simp [h1, h z h1 h2]
theorem keep_fun' {x : Str} {st : List Str} {v : Option Value} {m m₀ : Str → Option Value} (h : ∀ z, z ≠ x → st.contains z = false → m z = m₀ z) : (fun y => if y = x then v else m y) = fun z => if z = x then v else if st.contains z then m z else m₀ z := by
  funext z
  by_cases h1 : z = x
  · simp [h1]
  · cases h2 : st.contains z with
    | true => simp [h1]
    | false => simp [h1, h z h1 h2]

theorem iter_listM {l : Addr} {vs : List Value} {k : Nat} {m₀ : Str → Option Value} {news : List (Addr × Obj)} (st : List Str) (J : Nat → List (Addr × Obj) → Prop)
    (hh : A.handled = none) (F : Fr h₀ env.locals s.heap m₀) (N : News h₀ env.locals s.heap news) (hl : (l, listOf vs.toArray k) ∈ news) (hj : J 0 news)
    (keep : ∀ i nx, J i nx → (l, listOf vs.toArray k) ∈ nx)
    (turn : ∀ i v (u : Str → Option Value) nx h tk I oI, vs[i]? = some v → J i nx → Off I nx → Fr h₀ env.locals h (fun z => if z = x then some v else if st.contains z then u z else m₀ z) → News h₀ env.locals h ((I, oI) :: nx) →
      wpAny (model prog w) A (execs body env) (TurnEnd h₀ env.locals (fun m nx => (∀ z, z ≠ x → st.contains z = false → m z = m₀ z) ∧ J (i + 1) nx) I oI { s with heap := h, toks := tk } Q) E { s with heap := h, toks := tk })
    (done : ∀ (u : Str → Option Value) nx h tk, J vs.length nx → Fr h₀ env.locals h (fun z => if z = x then u z else if st.contains z then u z else m₀ z) → News h₀ env.locals h nx → Q .next { s with heap := h, toks := tk }) :
    wpAny (model prog w) A (pyIter (.ref l)) (fun it s₂ => LoopAtV prog w A h₀ env x body Q E it s₂) E s := by
  refine iter_list (fun i m nx => (∀ z, z ≠ x → st.contains z = false → m z = m₀ z) ∧ J i nx) hh F N hl ⟨fun _ _ _ => rfl, hj⟩ (fun i m nx hJ => keep i nx hJ.2) ?_ ?_
  · intro i v m₁ nx h tk I oI hv hJ off F' N'
    rw [keep_fun' (v := some v) hJ.1] at F'
    exact turn i v m₁ nx h tk I oI hv hJ.2 off F' N'
  · intro m₁ nx h tk hJ F' N'
    rw [keep_fun hJ.1] at F'
    exact done m₁ nx h tk hJ.2 F' N'
theorem iter_tupM {l : Addr} {vs : List Value} {k : Nat} {m₀ : Str → Option Value} {news : List (Addr × Obj)} (st : List Str) (J : Nat → List (Addr × Obj) → Prop)
    (hh : A.handled = none) (F : Fr h₀ env.locals s.heap m₀) (N : News h₀ env.locals s.heap news) (hl : (l, tupO vs.toArray k) ∈ news) (hj : J 0 news)
    (keep : ∀ i nx, J i nx → (l, tupO vs.toArray k) ∈ nx)
    (turn : ∀ i v (u : Str → Option Value) nx h tk I oI, vs[i]? = some v → J i nx → Off I nx → Fr h₀ env.locals h (fun z => if z = x then some v else if st.contains z then u z else m₀ z) → News h₀ env.locals h ((I, oI) :: nx) →
      wpAny (model prog w) A (execs body env) (TurnEnd h₀ env.locals (fun m nx => (∀ z, z ≠ x → st.contains z = false → m z = m₀ z) ∧ J (i + 1) nx) I oI { s with heap := h, toks := tk } Q) E { s with heap := h, toks := tk })
    (done : ∀ (u : Str → Option Value) nx h tk, J vs.length nx → Fr h₀ env.locals h (fun z => if z = x then u z else if st.contains z then u z else m₀ z) → News h₀ env.locals h nx → Q .next { s with heap := h, toks := tk }) :
    wpAny (model prog w) A (pyIter (.ref l)) (fun it s₂ => LoopAtV prog w A h₀ env x body Q E it s₂) E s := by
  refine iter_tup (fun i m nx => (∀ z, z ≠ x → st.contains z = false → m z = m₀ z) ∧ J i nx) hh F N hl ⟨fun _ _ _ => rfl, hj⟩ (fun i m nx hJ => keep i nx hJ.2) ?_ ?_
  · intro i v m₁ nx h tk I oI hv hJ off F' N'
    rw [keep_fun' (v := some v) hJ.1] at F'
    exact turn i v m₁ nx h tk I oI hv hJ.2 off F' N'
  · intro m₁ nx h tk hJ F' N'
    rw [keep_fun hJ.1] at F'
    exact done m₁ nx h tk hJ.2 F' N'
end
section
variable {prog : Program} {w : World} {A : Around} {E : Value → Shared → Prop} {s : Shared} {h₀ : Heap} {L a : Addr} {news : List (Addr × Obj)} {l : List Value} {n : Nat} {x : Value} {k : Int} {u : Tok}
theorem item_lst {value slice : PySem.Expr} {Q : Value → Shared → Prop} (N : News h₀ L s.heap news) (hm : (a, listOf l.toArray n) ∈ news) (h0 : 0 ≤ k) (hx : l[k.toNat]? = some x) (hk : k < 2 ^ 63) (h : Q x s)
    (hs : subscripted slice false (.ref a) (.int k u) = operate [.ref a, .int k u] (getItem (.ref a) (.int k u))) : wpAny (model prog w) A (subscriptTail value slice (.ref a) (.int k u)) Q E s :=
  tail_any (N.isList hm).typeIs slot_list_getitem.lookup (wpAny_getItem_list (N.isList hm) h0 hk (by simpa using hx) h) hs
theorem len_tupO {Q : Value → Shared → Prop} (N : News h₀ L s.heap news) (hm : (a, tupO l.toArray n) ∈ news) (hz : l.length ≤ 1000000)
    (h : Q (.int (l.length : Int) (s.toks + 1)) { s with toks := s.toks + 1 + 1 }) : wpAny (model prog w) A (call (.builtin "len") [.ref a]) Q E s :=
  PyProof.Rows.len_tuple (N.isTup hm) (by rw [List.size_toArray]; omega) (by rw [List.size_toArray]; exact h)
theorem len_lstO {Q : Value → Shared → Prop} (N : News h₀ L s.heap news) (hm : (a, listOf l.toArray n) ∈ news) (hz : l.length ≤ 1000000)
    (h : Q (.int (l.length : Int) (s.toks + 1)) { s with toks := s.toks + 1 + 1 }) : wpAny (model prog w) A (call (.builtin "len") [.ref a]) Q E s :=
  len_list (N.isList hm) (by rw [List.size_toArray]; omega) (by rw [List.size_toArray]; exact h)
end
theorem TreesIn.at {R : List (Addr × Obj)} {vs : List Value} {ts : List Tree} (h : TreesIn R vs ts) : ∀ {i : Nat} {v : Value}, vs[i]? = some v → ∃ t, ts[i]? = some t ∧ TreeIn R v t :=
  TreesIn.rec (motive_1 := fun _ _ _ => True) (motive_2 := fun vs ts _ => ∀ {i : Nat} {v : Value}, vs[i]? = some v → ∃ t, ts[i]? = some t ∧ TreeIn R v t) (fun _ _ => trivial) (fun _ _ _ _ _ _ => trivial) (fun _ _ _ _ _ _ => trivial)
    (fun _ _ _ _ _ _ _ _ _ _ _ _ _ => trivial) (fun h => nomatch h) (fun v t vs ts h1 _ _ ih i w h => by
      cases i with
      | zero => cases h; exact ⟨t, rfl, h1⟩
      | succ i => exact ih h) h
theorem TreeIn.lift {R R' : List (Addr × Obj)} {v : Value} {t : Tree} (h : TreeIn R v t) (hs : ∀ p ∈ R, p ∈ R') : TreeIn R' v t := TreeIn.mono hs h
noncomputable def FoundIn (D : Addr) (R1 : List (Addr × Obj)) (g : List Str) (nx : List (Addr × Obj)) : Prop := ∃ vs' n' tl, nx = (D, listOf (List.toArray vs') n') :: (tl ++ R1) ∧ Above R1 tl ∧ Off D tl ∧ StrsAre vs' g
theorem off_above {D : Addr} {R : List (Addr × Obj)} (h : ∀ p ∈ R, p.1 < D) : Off D R := fun p hp e => absurd (h p hp) (by rw [e]; exact Nat.lt_irrefl _)
section
variable {prog : Program} {w : World} {A : Around} {E : Value → Shared → Prop} {s : Shared} {env : Env} {h₀ : Heap} {x : Str} {body : List Stmt} {Q : Flow → Shared → Prop}
theorem iter_tupF {l : Addr} {vs : List Value} {k : Nat} {m₀ : Str → Option Value} {D : Addr} {us : List Value} {n : Nat} {R1 : List (Addr × Obj)} (st : List Str) (G : Nat → List Str)
    (hh : A.handled = none) (F : Fr h₀ env.locals s.heap m₀) (N : News h₀ env.locals s.heap ((D, listOf us.toArray n) :: R1)) (hD : Off D R1) (hl : (l, tupO vs.toArray k) ∈ R1) (h0 : StrsAre us (G 0))
    (turn : ∀ i v (u : Str → Option Value) us' n' tl h tk I oI, vs[i]? = some v → Above R1 tl → Off D tl → StrsAre us' (G i) → Off I ((D, listOf (List.toArray us') n') :: (tl ++ R1)) → Fr h₀ env.locals h (fun z => if z = x then some v else if st.contains z then u z else m₀ z) → News h₀ env.locals h ((I, oI) :: (D, listOf (List.toArray us') n') :: (tl ++ R1)) →
      wpAny (model prog w) A (execs body env) (TurnEnd h₀ env.locals (fun m nx => (∀ z, z ≠ x → st.contains z = false → m z = m₀ z) ∧ FoundIn D R1 (G (i + 1)) nx) I oI { s with heap := h, toks := tk } Q) E { s with heap := h, toks := tk })
    (done : ∀ (u : Str → Option Value) us' n' tl h tk, Above R1 tl → Off D tl → StrsAre us' (G vs.length) → Fr h₀ env.locals h (fun z => if z = x then u z else if st.contains z then u z else m₀ z) → News h₀ env.locals h ((D, listOf (List.toArray us') n') :: (tl ++ R1)) → Q .next { s with heap := h, toks := tk }) :
    wpAny (model prog w) A (pyIter (.ref l)) (fun it s₂ => LoopAtV prog w A h₀ env x body Q E it s₂) E s := by
  refine iter_tupM st (fun i nx => FoundIn D R1 (G i) nx) hh F N (List.mem_cons_of_mem _ hl) ⟨us, n, [], rfl, Above.nil, fun _ h => (nomatch h), h0⟩ ?_ ?_ ?_
  · rintro i nx ⟨vs', n', tl, rfl, _⟩
    exact List.mem_cons_of_mem _ (List.mem_append_right _ hl)
  · rintro i v u nx h tk I oI hv ⟨vs', n', tl, rfl, ha, ho, hs⟩ off F' N'
    exact turn i v u vs' n' tl h tk I oI hv ha ho hs off F' N'
  · rintro u nx h tk ⟨vs', n', tl, rfl, ha, ho, hs⟩ F' N'
    exact done u vs' n' tl h tk ha ho hs F' N'
theorem iter_listF {l : Addr} {vs : List Value} {k : Nat} {m₀ : Str → Option Value} {D : Addr} {us : List Value} {n : Nat} {R1 : List (Addr × Obj)} (st : List Str) (G : Nat → List Str)
    (hh : A.handled = none) (F : Fr h₀ env.locals s.heap m₀) (N : News h₀ env.locals s.heap ((D, listOf us.toArray n) :: R1)) (hD : Off D R1) (hl : (l, listOf vs.toArray k) ∈ R1) (h0 : StrsAre us (G 0))
    (turn : ∀ i v (u : Str → Option Value) us' n' tl h tk I oI, vs[i]? = some v → Above R1 tl → Off D tl → StrsAre us' (G i) → Off I ((D, listOf (List.toArray us') n') :: (tl ++ R1)) → Fr h₀ env.locals h (fun z => if z = x then some v else if st.contains z then u z else m₀ z) → News h₀ env.locals h ((I, oI) :: (D, listOf (List.toArray us') n') :: (tl ++ R1)) →
      wpAny (model prog w) A (execs body env) (TurnEnd h₀ env.locals (fun m nx => (∀ z, z ≠ x → st.contains z = false → m z = m₀ z) ∧ FoundIn D R1 (G (i + 1)) nx) I oI { s with heap := h, toks := tk } Q) E { s with heap := h, toks := tk })
    (done : ∀ (u : Str → Option Value) us' n' tl h tk, Above R1 tl → Off D tl → StrsAre us' (G vs.length) → Fr h₀ env.locals h (fun z => if z = x then u z else if st.contains z then u z else m₀ z) → News h₀ env.locals h ((D, listOf (List.toArray us') n') :: (tl ++ R1)) → Q .next { s with heap := h, toks := tk }) :
    wpAny (model prog w) A (pyIter (.ref l)) (fun it s₂ => LoopAtV prog w A h₀ env x body Q E it s₂) E s := by
  refine iter_listM st (fun i nx => FoundIn D R1 (G i) nx) hh F N (List.mem_cons_of_mem _ hl) ⟨us, n, [], rfl, Above.nil, fun _ h => (nomatch h), h0⟩ ?_ ?_ ?_
  · rintro i nx ⟨vs', n', tl, rfl, _⟩
    exact List.mem_cons_of_mem _ (List.mem_append_right _ hl)
  · rintro i v u nx h tk I oI hv ⟨vs', n', tl, rfl, ha, ho, hs⟩ off F' N'
    exact turn i v u vs' n' tl h tk I oI hv ha ho hs off F' N'
  · rintro u nx h tk ⟨vs', n', tl, rfl, ha, ho, hs⟩ F' N'
    exact done u vs' n' tl h tk ha ho hs F' N'
end
theorem fold_take {ls : List (List Str)} {i : Nat} {l : List Str} (h : ls[i]? = some l) : (ls.take (i + 1)).foldl putOnce [] = putOnce ((ls.take i).foldl putOnce []) l := by
  rw [List.take_add_one, h]; simp
theorem fold_len {ls : List (List Str)} (h : ∀ l ∈ ls, l.length ≤ 100) : (ls.foldl putOnce []).length ≤ 100 * ls.length := by
  have key : ∀ (ls : List (List Str)) (a : List Str), (∀ l ∈ ls, l.length ≤ 100) → (ls.foldl putOnce a).length ≤ a.length + 100 * ls.length := by
    intro ls
    induction ls with
    | nil => intro a _; simp
    | cons l ls ih =>
      intro a h
      have h1 := ih (putOnce a l) (fun x hx => h x (.tail _ hx))
      have h2 := putOnce_length l a
      have h3 := h l (.head _)
      simp only [List.foldl_cons, List.length_cons]
      omega
  simpa using key ls [] h
section
variable {h₀ h' : Heap} {L I D : Addr} {x : Str} {st : List Str} {m₀ m' : Str → Option Value} {s₁ : Shared} {tk : Nat} {oI o : Obj} {R1 tl tl2 tl3 : List (Addr × Obj)} {us : List Value} {n : Nat} {g : List Str}
theorem found_off (hD : Off D R1) (off : Off I ((D, o) :: (tl ++ R1))) (ho : Off D tl) (ha2 : Above ((I, oI) :: (D, o) :: (tl ++ R1)) tl2) : Off D ((I, oI) :: (tl2 ++ (tl ++ R1))) :=
  Off.cons (Ne.symm (off _ (.head _))) (Off.app (ha2.off (.tail _ (.head _))) (Off.app ho hD))
theorem found_turn (off : Off I ((D, o) :: (tl ++ R1))) (ha : Above R1 tl) (ho : Off D tl) (ha2 : Above ((I, oI) :: (D, o) :: (tl ++ R1)) tl2) (F : Fr h₀ L h' m') (hm : ∀ z, z ≠ x → st.contains z = false → m' z = m₀ z)
    (N : News h₀ L h' ((D, listOf (List.toArray us) n) :: (tl3 ++ ((I, oI) :: (tl2 ++ (tl ++ R1)))))) (hs : StrsAre us g) :
    TurnTo h₀ L (fun m nx => (∀ z, z ≠ x → st.contains z = false → m z = m₀ z) ∧ FoundIn D R1 g nx) I oI s₁ { s₁ with heap := h', toks := tk } := by
  refine ⟨h', tk, m', (D, listOf (List.toArray us) n) :: ((tl2 ++ tl) ++ R1), rfl, F, news_sub N ?_, ?_, hm, us, n, tl2 ++ tl, rfl, ?_, ?_, hs⟩
  · intro p hp
    simp only [List.mem_cons, List.mem_append] at hp ⊢
    rcases hp with h | h | (h | h) | h <;> simp [h]
  · refine Off.cons (show D ≠ I from off (D, o) (.head _)) (Off.app (Off.app (ha2.off (.head _)) ?_) ?_)
    · exact fun p hp => off p (.tail _ (List.mem_append_left _ hp))
    · exact fun p hp => off p (.tail _ (List.mem_append_right _ hp))
  · exact Above.app (ha2.sub fun p hp => by simp [hp]) ha
  · exact Off.app (ha2.off (.tail _ (.head _))) ho
end
section
variable {prog : Program} {w : World} {A : Around} {E : Value → Shared → Prop} {env : Env} {h₀ : Heap} {x : Str} {body : List Stmt} {Q : Flow → Shared → Prop}
theorem iter_tupV {l : Addr} {vs : List Value} {k : Nat} {m₀ : Str → Option Value} {D : Addr} {us : List Value} {n : Nat} {R1 : List (Addr × Obj)} {g : Heap} {gn : Array GenState} {dr : Drawn} {t : Nat} {os : OsState} (st : List Str) (G : Nat → List Str)
    (hh : A.handled = none) (F : Fr h₀ env.locals g m₀) (N : News h₀ env.locals g ((D, listOf us.toArray n) :: R1)) (hD : Off D R1) (hl : (l, tupO vs.toArray k) ∈ R1) (h0 : StrsAre us (G 0))
    (turn : ∀ i v (mc : Str → Option Value) us' n' tl h tk I oI (Q1 : Flow → Shared → Prop), vs[i]? = some v → mc x = some v → (∀ z, z ≠ x → st.contains z = false → mc z = m₀ z) → Above R1 tl → Off D tl → StrsAre us' (G i) → Off I ((D, listOf (List.toArray us') n') :: (tl ++ R1)) → Fr h₀ env.locals h mc → News h₀ env.locals h ((I, oI) :: (D, listOf (List.toArray us') n') :: (tl ++ R1)) →
      (∀ h' tk' (m' : Str → Option Value) us2 n2 tl2, Fr h₀ env.locals h' m' → News h₀ env.locals h' ((D, listOf (List.toArray us2) n2) :: ((I, oI) :: (tl2 ++ (tl ++ R1)))) → (∀ z, z ≠ x → st.contains z = false → m' z = mc z) → Above ((I, oI) :: (D, listOf (List.toArray us') n') :: (tl ++ R1)) tl2 → StrsAre us2 (G (i + 1)) → Q1 .next ⟨h', gn, dr, tk', os⟩) →
      wpAny (model prog w) A (execs body env) Q1 E ⟨h, gn, dr, tk, os⟩)
    (done : ∀ (mc : Str → Option Value) us' n' tl h tk, (∀ z, z ≠ x → st.contains z = false → mc z = m₀ z) → Above R1 tl → Off D tl → StrsAre us' (G vs.length) → Fr h₀ env.locals h mc → News h₀ env.locals h ((D, listOf (List.toArray us') n') :: (tl ++ R1)) → Q .next ⟨h, gn, dr, tk, os⟩) :
    wpAny (model prog w) A (pyIter (.ref l)) (fun it s₂ => LoopAtV prog w A h₀ env x body Q E it s₂) E ⟨g, gn, dr, t, os⟩ := by
  refine iter_tupF (s := ⟨g, gn, dr, t, os⟩) st G hh F N hD hl h0 ?_ ?_
  · intro i v u us' n' tl h tk I oI hi ha ho hs off F' N'
    refine turn i v _ us' n' tl h tk I oI _ hi (by simp) (fun z h1 h2 => by simp only [if_neg h1, h2, Bool.false_eq_true, if_false]) ha ho hs off F' N' ?_
    intro h' tk' m' us2 n2 tl2 F2 N2 hm ha2 hs2
    show TurnTo _ _ _ _ _ _ _
    exact found_turn (m₀ := m₀) (s₁ := ⟨h, gn, dr, tk, os⟩) (tl3 := []) off ha ho ha2 F2 (fun z h1 h2 => by rw [hm z h1 h2]; simp only [if_neg h1, h2, Bool.false_eq_true, if_false]) N2 hs2
  · intro u us' n' tl h tk ha ho hs F' N'
    exact done _ us' n' tl h tk (fun z h1 h2 => by simp only [if_neg h1, h2, Bool.false_eq_true, if_false]) ha ho hs F' N'
end
theorem sizeLine_num : sizeLine = 16777216 := rfl
theorem put_once_spec (w : World) (mean mg mb) {d l : Addr} {vs us : List Value} {xs ys : List Str} {n k : Nat} {R : List (Addr × Obj)} (hne : Off d R) (hl : (l, listOf us.toArray k) ∈ R) (hv : StrsAre vs xs) (hu' : StrsAre us ys) (hz : xs.length + ys.length ≤ 100000) :
    EndsS w mean mg mb 65 2 20 [.ref d, .ref l] d (listOf vs.toArray n) R (fun o' tl r => tl = [] ∧ r = .none ∧ ∃ vs' n', o' = listOf vs'.toArray n' ∧ StrsAre vs' (putOnce xs ys)) := by
  (k_dflt (refine' ends_fn ?zo ?zc ?zb ?zm ?zl ?z1 ?z2 ?z3 ?z4 ?_; (case zo => k_is); (case zc => k_is); (case zb => exact fun _ => BindsTo.of_eq rfl); (case zm => exact rfl); (case zl => exact locs rfl); (case z1 => exact rfl); (case z2 => exact rfl); (case z3 => exact rfl); (case z4 => decide); intro dp un gd outer A₀ base h₀ L g gn dr tk os Q B F X N T hd hu hret); k_steps)
  rename Fr _ _ _ _ => lF
  rename News _ _ _ _ => lN
  have hlen := StrsAre.length hu'
  unfold Hold
  refine iter_listM [] (fun i nx => ∃ vs' n', nx = (d, listOf vs'.toArray n') :: R ∧ StrsAre vs' (putOnce xs (ys.take i))) rfl lF lN (List.mem_cons_of_mem _ hl) ⟨vs, n, rfl, by simpa [putOnce] using hv⟩ ?_ ?_ ?_
  · rintro i nx ⟨vs', n', rfl, _⟩
    exact List.mem_cons_of_mem _ hl
  · rintro i v u nx h tk I oI hi ⟨vs', n', rfl, hs⟩ off F' N'
    clear lF lN
    obtain ⟨y, t, rfl, hy⟩ := StrsAre.item hu' i v hi
    have hid : @Ne Nat I d := fun e => off _ (.head _) e.symm
    have hsz : vs'.toArray.size ≤ sizeLine := by
      have h1 := StrsAre.length hs
      have h2 := putOnce_length (ys.take i) xs
      have h3 : (ys.take i).length ≤ ys.length := by rw [List.length_take]; exact Nat.min_le_right _ _
      rw [sizeLine_num, List.size_toArray]
      omega
    have hnext := putOnce_take xs ys i y hy
    k_steps
    · refine ⟨_, _, _, (d, listOf vs'.toArray n') :: R, rfl, by assumption, by assumption, off, fun z h1 h2 => by simp [h1], vs', n', rfl, ?_⟩
      rw [hnext, addOnce, if_pos (by assumption)]
      exact hs
    · refine ⟨_, _, _, (d, listOf (vs'.toArray.push (Value.str y t)) (n' + 1)) :: R, rfl, by assumption, by assumption, fun p hp => ?_, fun z h1 h2 => by simp [h1], vs' ++ [Value.str y t], n' + 1, by rw [List.push_toArray], ?_⟩
      · rcases List.mem_cons.mp hp with rfl | hp
        · exact Ne.symm hid
        · exact off _ (.tail _ hp)
      · rw [hnext, addOnce, if_neg (Bool.eq_false_iff.mp (by assumption))]
        exact StrsAre.append' hs (.cons y t .nil)
  · rintro u nx h tk ⟨vs', n', rfl, hs⟩ F' N'
    clear lF lN
    rw [hlen, List.take_length] at hs
    k_steps
    (refine Ret.next hret (by assumption) (by assumption) ?_)
    exact ⟨_, [], rfl, Above.nil, rfl, rfl, vs', n', rfl, hs⟩
section
variable {w : World} {mean : ExcName → Option Value} {mg mb : Str → Option Value} {R news : List (Addr × Obj)}
  {dp un : Nat} {gd : Option (List Code)} {cn : Str} {cs : Scope} {a : Addr} {ccd : Value} {cl : List (Str × Addr)} {outer : List Env} {A₀ : Around} {base h₀ : Heap} {L : Addr} {m : Str → Option Value} {g : Heap} {gn : Array GenState} {dr : Drawn} {tk : Nat} {os : OsState}
  {Q E : Value → Shared → Prop}
theorem call_put {d l : Addr} {vs us : List Value} {xs ys : List Str} {n k : Nat} (hne : Off d R) (hl : (l, listOf us.toArray k) ∈ R) (hv : StrsAre vs xs) (hu' : StrsAre us ys) (hz : xs.length + ys.length ≤ 100000)
    (B : Below A₀ base outer h₀) (F : Fr h₀ L g m) (X : (hd.heap_39 w.params).In h₀) (N : News h₀ L g news) (hs : ∀ p ∈ (d, listOf vs.toArray n) :: R, p ∈ news) (T : Top hd.view_39 (looseW hd.view_39 []) mean mg mb h₀) (hk : cs.kind = .function) (hd' : dp + 2 < recursionLimit) (hu : un + 20 < cLine)
    (ret : ∀ us' n' h' tk', StrsAre us' (putOnce xs ys) → Fr h₀ L h' m → News h₀ L h' ((d, listOf us'.toArray n') :: R) → Q .none ⟨h', gn, dr, tk', os⟩) :
    wpAny (model PySem.Challenge.rw_xm0685_01.row.prog w) (ktrTop dp un gd cn cs L a ccd cl outer) (call (.ref 65) [.ref d, .ref l]) Q E ⟨g, gn, dr, tk, os⟩ := by
  refine use_S (put_once_spec w mean mg mb (n := n) hne hl hv hu' hz) B F X N hs T hk hd' hu ?_
  rintro r o' tl h' tk' ⟨rfl, rfl, us', n', rfl, hs'⟩ _ F' N'
  exact ret us' n' h' tk' hs' F' N'
end
theorem words_06 : hd.heap_39 = hd.heap_39 ∧ PySem.Challenge.rw_xm0685_01 = PySem.Challenge.rw_xm0685_01 := by
  k_fill
  (k_with "my exec If BoolOp" => (k_here; (with_reducible show wpAny _ _ (exec (PySem.Stmt.If (PySem.Expr.BoolOp PySem.BoolOp.Or [PySem.Expr.Compare (PySem.Expr.Name _ _) [CmpOp.Eq] _ _, _] _) _ _ _) _) _ _ _); refine hold_intro ?_))
  exact ⟨rfl, rfl⟩
theorem ends_tail {p d : Addr × Obj} {tl R : List (Addr × Obj)} {r : Value} {Out : List (Addr × Obj) → Value → Prop} (h : Above R (d :: (tl ++ [p]))) (o : Out (d :: (tl ++ [p])) r) : ∃ t, d :: (tl ++ p :: R) = t ++ R ∧ Above R t ∧ Out t r := ⟨_, by simp, h, o⟩
inductive Names : Nat → Tree → List Str → Prop
  | sym (k : Nat) (x : Str) : Names k (.sym x) [x]
  | int (k : Nat) (i : Int) : Names k (.int i) []
  | dots (k : Nat) (p : Tree) (r : List Tree) (l : List Str) : r.length ≤ 1000 → Names k p l → Names (k + 1) (.expr (Str.ofString "...") (p :: r)) l
  | of (k : Nat) (p q : Tree) (l : List Str) : Names k p l → Names (k + 1) (.expr (Str.ofString "::") [p, q]) l
  | tup (k : Nat) (ps : List Tree) (ls : List (List Str)) : ps.length = ls.length → ps.length ≤ 100 → (∀ l ∈ ls, l.length ≤ 100) → (∀ (i : Nat) (p : Tree) (l : List Str), ps[i]? = some p → ls[i]? = some l → Names k p l) → Names (k + 1) (.expr (Str.ofString "tuple") ps) (ls.foldl putOnce [])
  | none (k : Nat) (h : Str) (ps : List Tree) : ps.length ≤ 1000 → (h == Str.ofString "...") = false → (h == Str.ofString "tuple") = false → ((h == Str.ofString "::") = false ∨ ps.length ≠ 2) → Names k (.expr h ps) []
theorem names_ref {k : Nat} {p : Tree} {l : List Str} {R : List (Addr × Obj)} {v : Value} (hn : Names k p l) (hv : TreeIn R v p) : ∃ c, v = .ref c := by
  cases hv with
  | str x t => cases hn
  | sym => exact ⟨_, rfl⟩
  | int => exact ⟨_, rfl⟩
  | expr => exact ⟨_, rfl⟩
noncomputable def PnSpec (w : World) (mean : ExcName → Option Value) (mg mb : Str → Option Value) (k : Nat) : Prop :=
  ∀ (t : Tree) (l : List Str) (a : Addr) (R : List (Addr × Obj)), Names k t l → TreeIn R (.ref a) t →
    EndsR w mean mg mb 72 (k + 4) (20 * k + 40) [.ref a] R (StrsOut l)
section
theorem pn_sym (w : World) (mean mg mb) (k : Nat) {x : Str} {a : Addr} {R : List (Addr × Obj)} (hT : TreeIn R (.ref a) (.sym x)) :
    EndsR w mean mg mb 72 (k + 4) (20 * k + 40) [.ref a] R (StrsOut [x]) := by
  refine hT.invS ?_
  intro t u n hm
  (k_dflt (refine' ends_fn ?zo ?zc ?zb ?zm ?zl ?z1 ?z2 ?z3 ?z4 ?_; (case zo => k_is); (case zc => k_is); (case zb => exact fun _ => BindsTo.of_eq rfl); (case zm => exact rfl); (case zl => exact locs rfl); (case z1 => exact rfl); (case z2 => exact rfl); (case z3 => exact rfl); (case z4 => decide); intro dp un gd outer A₀ base h₀ L g gn dr tk os Q B F X N T hd hu hret); k_steps)
  (refine Ret.fin hret (by assumption) (by assumption) ?_)
  refine ⟨[(_, _)], rfl, ?_, _, _, _, rfl, .head _, .cons _ _ .nil⟩
  tb_rel
theorem pn_int (w : World) (mean mg mb) (k : Nat) {x : Int} {a : Addr} {R : List (Addr × Obj)} (hT : TreeIn R (.ref a) (.int x)) :
    EndsR w mean mg mb 72 (k + 4) (20 * k + 40) [.ref a] R (StrsOut []) := by
  refine hT.invI ?_
  intro t u n hm
  (k_dflt (refine' ends_fn ?zo ?zc ?zb ?zm ?zl ?z1 ?z2 ?z3 ?z4 ?_; (case zo => k_is); (case zc => k_is); (case zb => exact fun _ => BindsTo.of_eq rfl); (case zm => exact rfl); (case zl => exact locs rfl); (case z1 => exact rfl); (case z2 => exact rfl); (case z3 => exact rfl); (case z4 => decide); intro dp un gd outer A₀ base h₀ L g gn dr tk os Q B F X N T hd hu hret); k_steps)
  unfold Hold
  refine wpAny_If ?_
  k_steps
  (refine Ret.fin hret (by assumption) (by assumption) ?_)
  refine ⟨[_, _, _], rfl, ?_, _, [], _, rfl, .head _, .nil⟩
  tb_rel
theorem pn_expr (w : World) (mean mg mb) (k : Nat) {h : Str} {ps : List Tree} {l : List Str} {a : Addr} {R : List (Addr × Obj)} (IH : ∀ j, k = j + 1 → PnSpec w mean mg mb j) (hn : Names k (.expr h ps) l) (hT : TreeIn R (.ref a) (.expr h ps)) :
    EndsR w mean mg mb 72 (k + 4) (20 * k + 40) [.ref a] R (StrsOut l) := by
  refine hT.inv ?_
  intro t u b n k' vs he hb hv
  (k_dflt (refine' ends_fn ?zo ?zc ?zb ?zm ?zl ?z1 ?z2 ?z3 ?z4 ?_; (case zo => k_is); (case zc => k_is); (case zb => exact fun _ => BindsTo.of_eq rfl); (case zm => exact rfl); (case zl => exact locs rfl); (case z1 => exact rfl); (case z2 => exact rfl); (case z3 => exact rfl); (case z4 => decide); intro dp un gd outer A₀ base h₀ L g gn dr tk os Q B F X N T hd hu hret); k_steps)
  unfold Hold
  refine wpAny_If ?_
  have hlv := hv.length
  cases hn with
  | dots k p r l hz hn =>
    have IH := IH k rfl
    clear hlv
    revert hb
    refine hv.inv (G := fun vs => (b, tupO vs.toArray k') ∈ R → _) ?_
    intro v us hv hvs hb
    have hlen := hvs.length
    obtain ⟨c, rfl⟩ := names_ref hn hv
    k_steps
    (unfold Hold; k_dflt (refine' use_RL (IH _ _ _ _ hn ?t) ?B ?F ?X ?N ?T ?kq9 ?d ?u ?_; (case B => k_asm); (case F => k_asm); (case X => k_asm); (case N => k_asm); (case T => k_asm); (case kq9 => first | exact rfl | assumption); (case d => ktr_room); (case u => ktr_units)))
    (case t => ktn_open)
    intro b2 vs2 n2 tl h2 tk2 hm2 hs2 ha F2 N2
    k_steps
    (refine Ret.finR hret (tl) (by assumption) (by assumption) (by tb_start) ?_ ?_)
    · tb_rel
    · exact ⟨b2, vs2, n2, rfl, hm2, hs2⟩
  | of k p q l hn =>
    have IH := IH k rfl
    clear hlv
    revert hb
    refine hv.inv (G := fun vs => (b, tupO vs.toArray k') ∈ R → _) ?_
    intro v us hv hvs
    refine hvs.inv (G := fun us => (b, tupO (v :: us).toArray k') ∈ R → _) ?_
    intro v2 us hv2 hvs
    refine hvs.inv0 (G := fun us => (b, tupO (v :: v2 :: us).toArray k') ∈ R → _) ?_
    intro hb
    obtain ⟨c, rfl⟩ := names_ref hn hv
    have h4 : ((([Value.ref c, v2] : List Value).length : Int) == 2) = true := rfl
    k_steps
    (unfold Hold; k_dflt (refine' use_RL (IH _ _ _ _ hn ?t) ?B ?F ?X ?N ?T ?kq9 ?d ?u ?_; (case B => k_asm); (case F => k_asm); (case X => k_asm); (case N => k_asm); (case T => k_asm); (case kq9 => first | exact rfl | assumption); (case d => ktr_room); (case u => ktr_units)))
    (case t => ktn_open)
    intro b2 vs2 n2 tl h2 tk2 hm2 hs2 ha F2 N2
    k_steps
    (refine Ret.finR hret (tl) (by assumption) (by assumption) (by tb_start) ?_ ?_)
    · tb_rel
    · exact ⟨b2, vs2, n2, rfl, hm2, hs2⟩
  | tup k ps ls hlen hz hzs hn =>
    have IH := IH k rfl
    k_steps
    rename Fr _ _ _ _ => lF
    rename News _ _ _ _ => lN
    rename (∀ p : Addr × Obj, p ∈ ((_ :: R) : List (Addr × Obj)) → p.1 < (_ : Addr)) => hD
    rename (∀ p : Addr × Obj, p ∈ R → p.1 < (_ : Addr)) => hP
    have hP' := fun q hq => Nat.ne_of_lt (hD q (List.mem_cons_of_mem _ hq))
    unfold Hold
    refine iter_tupF [] (fun i => (ls.take i).foldl putOnce []) rfl lF lN (off_above hD) (List.mem_cons_of_mem _ hb) .nil ?_ ?_
    · intro i v u us' n' tl h tk I oI hi ha ho hs off F' N'
      clear lF lN
      refine cutT ?_
      intro Q9 hend _
      obtain ⟨p, hp, hv1⟩ := hv.at hi
      have hip : i < ps.length := (List.getElem?_eq_some_iff.mp hp).1
      obtain ⟨l, hl⟩ : ∃ l, ls[i]? = some l := ⟨ls[i], by simp [← hlen, hip]⟩
      obtain ⟨c, rfl⟩ := names_ref (hn i p l hp hl) hv1
      have hlz : l.length ≤ 100 := hzs l (List.mem_of_getElem? hl)
      k_steps
      (unfold Hold; k_dflt (refine' use_RL (IH _ _ _ _ (hn i p l hp hl) ?t) ?B ?F ?X ?N ?T ?kq9 ?d ?u ?_; (case B => k_asm); (case F => k_asm); (case X => k_asm); (case N => k_asm); (case T => k_asm); (case kq9 => first | exact rfl | assumption); (case d => ktr_room); (case u => ktr_units)))
      (case t => ktn_open)
      intro b2 vs2 n2 tl2 h2 tk2 hm2 hs2 ha2 F2 N2
      have hlen2 := StrsAre.length hs2
      have hfl := fold_len (ls := ls.take i) (fun x hx => hzs x (List.mem_of_mem_take hx))
      have htk : (ls.take i).length ≤ ls.length := by rw [List.length_take]; exact Nat.min_le_right _ _
      k_steps
      (unfold Hold; k_dflt (refine' call_put (n := n') (found_off (off_above hD) off ho ha2) (List.mem_cons_of_mem _ (List.mem_append_left _ hm2)) hs hs2 (Nat.le_trans (Nat.add_le_add (Nat.le_trans hfl (Nat.mul_le_mul_left 100 (Nat.le_trans htk (hlen ▸ hz)))) hlz) (by decide)) ?B ?F ?X ?N ?hs ?T ?kq9 ?d ?u ?_; (case B => k_asm); (case F => k_asm); (case X => k_asm); (case N => k_asm); (case T => k_asm); (case kq9 => first | exact rfl | assumption); (case d => ktr_room); (case u => ktr_units); (case hs => first | exact (fun _ h9 => h9) | exact (fun _ h9 => .tail _ (.tail _ h9)) | exact Cut.sub (by assumption) | tb_start)))
      intro us3 n3 h3 tk3 hs3 F3 N3
      rw [← fold_take hl] at hs3
      k_steps
      refine hend _ ?_
      exact found_turn (tl3 := []) off ha ho ha2 (by assumption) (fun z h1 h2 => by simp [h1]) (by assumption) hs3
    · intro u us' n' tl h tk ha ho hs F' N'
      clear lF lN
      rw [hlv, hlen, List.take_length] at hs
      k_steps
      (refine Ret.fin hret (by assumption) (by assumption) ?_)
      refine ends_tail (Out := StrsOut (ls.foldl putOnce [])) ?_ ⟨_, us', n', rfl, .head _, hs⟩
      · exact Above.cons hP' (Above.app (ha.sub fun p hp => List.mem_cons_of_mem _ hp) (Above.cons (fun q hq => Nat.ne_of_lt (hP q hq)) Above.nil))
  | none _ h ps hz h1 h2 h3 =>
    have h4 : ((vs.length : Int) == 2) = false ∨ (h == Str.ofString "::") = false := by
      rcases h3 with h3 | h3
      · exact .inr h3
      · exact .inl (by rw [hlv]; simp; omega)
    rcases h4 with h4 | h4
    all_goals k_steps
    all_goals (refine Ret.fin hret (by assumption) (by assumption) ?_)
    all_goals (refine ⟨[_, _], rfl, ?_, _, [], _, rfl, .head _, .nil⟩)
    all_goals tb_rel
end
theorem pn_spec (w : World) (mean mg mb) : ∀ k, PnSpec w mean mg mb k := by
  intro k
  induction k with
  | zero =>
    intro t l a R hn hT
    match t with
    | .str x => cases hn
    | .sym x => cases hn; exact pn_sym w mean mg mb 0 hT
    | .int i => cases hn; exact pn_int w mean mg mb 0 hT
    | .expr h ps => exact pn_expr w mean mg mb 0 (fun j e => nomatch e) hn hT
  | succ k IH =>
    intro t l a R hn hT
    match t with
    | .str x => cases hn
    | .sym x => cases hn; exact pn_sym w mean mg mb (k + 1) hT
    | .int i => cases hn; exact pn_int w mean mg mb (k + 1) hT
    | .expr h ps => exact pn_expr w mean mg mb (k + 1) (fun j e => by cases e; exact IH) hn hT
theorem words_07 : hd.heap_39 = hd.heap_39 ∧ PySem.Challenge.rw_xm0685_01 = PySem.Challenge.rw_xm0685_01 := by
  k_fill
  (k_with "my subscriptTail Name Slice ref ref" => (k_here; (with_reducible show wpAny _ _ (subscriptTail _ (PySem.Expr.Slice none (some _) none _) (Value.ref _) (Value.ref _)) _ _ _); k_dflt (refine' slice_upto ?zF ?zN ?zl ?zp ?zq ?_ ?zs ?zt; (case zF => k_asm); (case zN => k_asm); (case zl => k_extra "mem"); (case zp => omega); (case zq => omega); (case zs => with_unfolding_all rfl); (case zt => kmk_pure)); intro _ _ _ _ _))
  (k_with "my eval ListComp" => (k_here; lct_look; k_dflt (refine comp_TH (F₀ := by k_asm) (by with_unfolding_all rfl) (by decide) (by rfl) (by decide) (by rfl) ?_ (by intro _; rfl))))
  exact ⟨rfl, rfl⟩
section
open LCg LCt
variable {prog : Program} {w : World} {A : Around} {E : Value → Shared → Prop} {s : Shared} {h₀ : Heap} {L : Addr} {m : Str → Option Value} {env : Env}
theorem comp_TH {ct elt iter : PySem.Expr} {x : Str} {px : Pos} {scope : Scope} {cl : List (Str × Addr)} {pos : Pos} {Q : Value → Shared → Prop} (F₀ : Fr h₀ L s.heap m)
    (hclos : closureFor scope env = pure cl) (hcell : ∀ y ∈ scope.names, y.2 ≠ .cell) (hkind : scope.kind = .function)
    (hnames : ∀ y ∈ scope.names, y.2 = .local → scope.names.lookup y.1 = some .local) (hx : scope.names.lookup x = some .local)
    (h : wpAny (model prog w) A (eval iter env) (fun v s₁ => Hold (CompSrcT prog w A h₀ L m env ct elt x scope cl (fun s₂ => FinE h₀ L m s₂ Q) v s₁)) E s)
    (hs : ∀ x, foldedSetIterable iter env x = pure x) :
    wpAny (model prog w) A (eval (.ListComp elt [⟨.Name x px, iter, [ct], 0⟩] scope pos) env) Q E s := ListComp_T F₀ hclos hcell hkind hnames hx h hs
noncomputable def Off3' (I C D : Addr) (news : List (Addr × Obj)) : Prop := Off I news ∧ Off C news ∧ Off D news
theorem Off3'.of {I C D : Addr} {news : List (Addr × Obj)} (h : LCg.Off3 I C D news) : Off3' I C D news := ⟨fun p hp => (h.mem p hp).1, fun p hp => (h.mem p hp).2.1, fun p hp => (h.mem p hp).2.2⟩
theorem Off3'.to {I C D : Addr} {news : List (Addr × Obj)} (h : Off3' I C D news) : LCg.Off3 I C D news := LCg.Off3.of fun p hp => ⟨h.1 p hp, h.2.1 p hp, h.2.2 p hp⟩

theorem compEnd_mono {s₁ : Shared} {I C D : Addr} {oI oC oD : Obj} {S : List (Addr × Obj) → Prop} {r r' : Value → List (Addr × Obj) → Prop} {y : Value} {s₂ : Shared} (hr : ∀ y n, r y n → r' y n) (h : CompEnd h₀ L m s₁ I oI C oC D oD S r y s₂) : CompEnd h₀ L m s₁ I oI C oC D oD S r' y s₂ := by
  obtain ⟨h', tk, news', e, F, N, off, hS, hR⟩ := h
  exact ⟨h', tk, news', e, F, N, off, hS, hr _ _ hR⟩

theorem comp_inv {elt : PySem.Expr} {x : Str} {scope : Scope} {cl : List (Str × Addr)} {S : List (Addr × Obj) → Prop} {P : Nat → Value → Prop} {Fin : List Value → List (Addr × Obj) → Prop} {n : Nat} {news : List (Addr × Obj)} (J : Nat → List Value → List (Addr × Obj) → Prop)
    (h0 : J 0 [] news)
    (turn : ∀ i v ys nx I oI C oC D m₂ h tk (E' : Value → Shared → Prop), i < n → P i v → J i ys nx → NsObj oC m₂ → m₂ x = some v → Fr h₀ L h m → News h₀ L h ((I, oI) :: (C, oC) :: (D, lst ys) :: nx) → Off3' I C D nx → ((@Ne Nat I C) ∧ (@Ne Nat I D) ∧ (@Ne Nat C D)) →
      wpAny (model prog w) A (eval elt (compEnvC scope cl C env)) (CompEnd h₀ L m { s with heap := h, toks := tk } I oI C oC D (lst ys) S (fun y nx' => J (i + 1) (ys ++ [y]) nx')) E' { s with heap := h, toks := tk })
    (fin : ∀ ys nx, J n ys nx → Fin ys nx) : CompRest prog w A h₀ L m env elt x scope cl s S P Fin n 0 [] news := by
  have key : ∀ (j i : Nat) (ys : List Value) (nx : List (Addr × Obj)), i + j = n → J i ys nx → CompRest prog w A h₀ L m env elt x scope cl s S P Fin j i ys nx := by
    intro j
    induction j with
    | zero => intro i ys nx hi hj; exact CompRest.zero (fin ys nx (by rw [show n = i by omega]; exact hj))
    | succ j ih =>
      intro i ys nx hi hj
      refine CompRest.succ fun v I oI C oC D m₂ h tk E' hP hC hx F N off ne => ?_
      exact wpAny_mono (turn i v ys nx I oI C oC D m₂ h tk E' (by omega) hP hj hC hx F N (.of off) ne) (fun y s₂ hq => compEnd_mono (fun y nx' hr => ih (i + 1) (ys ++ [y]) nx' (by omega) hr) hq) fun _ _ e => e
  exact key n 0 [] news (by omega) h0

theorem compT_inv {ct elt : PySem.Expr} {x : Str} {scope : Scope} {cl : List (Str × Addr)} {S : List (Addr × Obj) → Prop} {P : Nat → Value → Prop} {Fin : List Value → List (Addr × Obj) → Prop} {n : Nat} {news : List (Addr × Obj)} (J : Nat → List Value → List (Addr × Obj) → Prop)
    (h0 : J 0 [] news)
    (turn : ∀ i v ys nx I oI C oC D m₂ h tk (E' : Value → Shared → Prop), i < n → P i v → J i ys nx → NsObj oC m₂ → m₂ x = some v → Fr h₀ L h m → News h₀ L h ((I, oI) :: (C, oC) :: (D, lst ys) :: nx) → Off3' I C D nx → ((@Ne Nat I C) ∧ (@Ne Nat I D) ∧ (@Ne Nat C D)) →
      wpAny (model prog w) A (isTrue ct (compEnvC scope cl C env) (eval ct (compEnvC scope cl C env))) (fun ok s' => if ok = true then
        wpAny (model prog w) A (eval elt (compEnvC scope cl C env)) (CompEnd h₀ L m { s with heap := h, toks := tk } I oI C oC D (lst ys) S (fun y nx' => J (i + 1) (ys ++ [y]) nx')) E' s'
        else CompEnd h₀ L m { s with heap := h, toks := tk } I oI C oC D (lst ys) S (fun _ nx' => J (i + 1) ys nx') Value.none s') E' { s with heap := h, toks := tk })
    (fin : ∀ ys nx, J n ys nx → Fin ys nx) : CompRestT prog w A h₀ L m env ct elt x scope cl s S P Fin n 0 [] news := by
  have key : ∀ (j i : Nat) (ys : List Value) (nx : List (Addr × Obj)), i + j = n → J i ys nx → CompRestT prog w A h₀ L m env ct elt x scope cl s S P Fin j i ys nx := by
    intro j
    induction j with
    | zero => intro i ys nx hi hj; exact CompRestT.zero (fin ys nx (by rw [show n = i by omega]; exact hj))
    | succ j ih =>
      intro i ys nx hi hj
      refine CompRestT.succ fun v I oI C oC D m₂ h tk E' hP hC hx F N off ne => ?_
      refine wpAny_mono (turn i v ys nx I oI C oC D m₂ h tk E' (by omega) hP hj hC hx F N (.of off) ne) (fun ok s₂ hq => ?_) fun _ _ e => e
      cases ok with
      | true =>
        rw [if_pos rfl] at hq ⊢
        exact wpAny_mono hq (fun y s₃ hq => compEnd_mono (fun y nx' hr => ih (i + 1) (ys ++ [y]) nx' (by omega) hr) hq) fun _ _ e => e
      | false =>
        rw [if_neg (by decide)] at hq ⊢
        exact compEnd_mono (fun y nx' hr => ih (i + 1) ys nx' (by omega) hr) hq
  exact key n 0 [] news (by omega) h0
end
theorem off1_all {D : Addr} : ∀ {l : List (Addr × Obj)}, LCg.Off1 D l → ∀ p ∈ l, p.1 ≠ D
  | [], _, _, h => nomatch h
  | _ :: _, x, p, h => by
    rcases List.mem_cons.mp h with rfl | h
    · exact x.1
    · exact off1_all x.2 p h
theorem any_addOnce (a : List Str) (z y : Str) : (addOnce a z).any (· == y) = (a.any (· == y) || z == y) := by
  unfold addOnce
  by_cases h : (a.any (· == z)) = true
  · rw [if_pos h]
    by_cases e : (z == y) = true
    · have : z = y := eq_of_beq e
      rw [← this, h]; simp
    · rw [Bool.eq_false_iff.mpr e, Bool.or_false]
  · rw [if_neg h]; simp
theorem any_putOnce' (ys : List Str) (y : Str) : ∀ a : List Str, (putOnce a ys).any (· == y) = (a.any (· == y) || ys.any (· == y)) := by
  induction ys with
  | nil => intro a; simp [putOnce]
  | cons z ys ih =>
    intro a
    have := ih (addOnce a z)
    simp only [putOnce, List.foldl_cons] at this ⊢
    rw [this, any_addOnce, List.any_cons, Bool.or_assoc]
theorem any_putOnce (ys : List Str) (y : Str) : (putOnce [] ys).any (· == y) = ys.any (· == y) := by rw [any_putOnce']; simp
section
variable {prog : Program} {w : World} {A : Around} {E : Value → Shared → Prop} {s : Shared} {h₀ : Heap} {L l : Addr} {m : Str → Option Value} {news : List (Addr × Obj)} {vs : List Value} {n : Nat} {y : Int} {u : Tok}
theorem pick_upto (vs : List Value) (h : 0 ≤ y) : slicePick vs.toArray none (some y) none = (vs.take y.toNat).toArray := by
  have e : sliceBounds none (some y) none vs.toArray.size = (((0 : Nat) : Int), ((min y.toNat vs.toArray.size : Nat) : Int), 1) := by
    simp only [sliceBounds, Option.getD_none, show (1 : Int) > 0 by decide, if_true, if_neg (show ¬ (y < 0) by omega)]
    congr 1
    congr 1
    obtain ⟨k, rfl⟩ := Int.eq_ofNat_of_zero_le h
    show max 0 (min (k : Int) vs.toArray.size) = ((min k vs.toArray.size : Nat) : Int)
    rcases Nat.le_total k vs.toArray.size with e | e
    · rw [Nat.min_eq_left e, Int.min_eq_left (Int.ofNat_le.mpr e), Int.max_eq_right (Int.natCast_nonneg _)]
    · rw [Nat.min_eq_right e, Int.min_eq_right (Int.ofNat_le.mpr e), Int.max_eq_right (Int.natCast_nonneg _)]
  rw [kmk_pick_nat _ e]
  show ((vs.drop 0).take (min y.toNat vs.toArray.size - 0)).toArray = _
  rw [List.drop_zero, Nat.sub_zero, List.size_toArray, kmk_take_min]
theorem slice_upto {value slice : PySem.Expr} {Q : Value → Shared → Prop} (F : Fr h₀ L s.heap m) (N : News h₀ L s.heap news) (hm : (l, listOf vs.toArray n) ∈ news) (h0 : 0 ≤ y) (hz : vs.length ≤ 1000000)
    (h : ∀ D h', Fr h₀ L h' m → News h₀ L h' ((D, listOf (vs.take y.toNat).toArray 0) :: news) → (∀ p ∈ news, p.1 < D) → Q (.ref D) { s with heap := h' })
    (hs : subscripted slice false (.ref l) (.ref s.heap.objs.size) = operate [.ref s.heap.objs.size, .ref l] (getItem (.ref l) (.ref s.heap.objs.size))) (ht : ∀ r, letTemporaryGo value (.ref l) r = pure ()) :
    wpAny (model prog w) A (subscriptTail value slice (.ref l) (.ref s.heap.objs.size)) Q E { s with heap := s.heap.push { cls := .type "slice", data := .fields #[.none, .int y u, .none] } } := by
  refine kmk_slice F N (N.isList hm) .none (.int y u) (fun D h' F' N' l1 => ?_) hs ht (by rw [sizeLine_num, List.size_toArray]; omega)
  rw [pick_upto vs h0] at N'
  exact h D h' F' N' l1
end
section
theorem once_spec (w : World) (mean mg mb) {l : Addr} {vs : List Value} {xs : List Str} {n : Nat} {R : List (Addr × Obj)} (hl : (l, listOf vs.toArray n) ∈ R) (hs : StrsAre vs xs) (hz : xs.length ≤ 1000) :
    EndsR w mean mg mb 131 4 60 [.ref l] R (StrsOut (putOnce [] xs)) := by
  have hlen := StrsAre.length hs
  (k_dflt (refine' ends_fnC ?zo ?zc ?zb ?zm ?zl ?zn ?z1 ?z2 ?z3 ?_; (case zo => k_is); (case zc => k_is); (case zb => exact fun _ => BindsTo.of_eq rfl); (case zm => exact rfl); (case zl => exact rfl); (case zn => decide +kernel); (case z1 => exact rfl); (case z2 => exact rfl); (case z3 => exact rfl); intro dp un gd outer A₀ base h₀ L g gn dr tk os Q cells B F X N Y T hd hu hret l1; k_cells Y; (try simp only [List.cons_append, List.nil_append] at N); (try dsimp only)))
  k_steps
  rename Obj => oc
  rename IsRange _ _ _ _ _ _ _ _ => hr
  rename Fr _ L _ _ => F'
  rename News _ L _ _ => N'
  rename (oc.data = _) => d1
  unfold Hold
  refine LCt.CompSrcT.range (n := xs.length) rfl F' N' hr (small_one (by omega) (by omega) (by omega) (by omega)) (by rw [rangeSize_nat]; omega) (by rw [sizeLine_num]; omega) ?_
  intro g1
  refine compT_inv (fun i ys nx => nx = (L + 1, oc) :: R ∧ StrsAre ys (putOnce [] (xs.take i))) ⟨rfl, .nil⟩ ?_ ?_
  · rintro i v ys nx I oI C oC D m₂ h2 tk2 E' hin ⟨t, rfl⟩ ⟨rfl, hys⟩ hC hx F2 N2 off ne
    clear F' N' hr
    have hi : xs[i]? = some xs[i] := by simp [hin]
    obtain ⟨ty, hvi⟩ := StrsAre.at hs hi
    have hvi' : vs[((0 : Int) + (i : Int)).toNat]? = some (.str xs[i] ty) := by
      rw [show ((0 : Int) + (i : Int)).toNat = i by omega]; exact hvi
    have hstk : StrsAre (vs.take ((0 : Int) + (i : Int)).toNat) (xs.take i) := by
      rw [show ((0 : Int) + (i : Int)).toNat = i by omega]; exact StrsAre.take' hs i
    k_steps
    · refine LCg.CompEnd.intro (by assumption) (by assumption) ((L + 1, oc) :: R) (by tb_start) off.to trivial ⟨rfl, ?_⟩
      rw [putOnce_take _ _ _ _ hi, addOnce, any_putOnce, if_pos (by assumption)]
      exact hys
    · refine LCg.CompEnd.intro (by assumption) (by assumption) ((L + 1, oc) :: R) (by tb_start) off.to trivial ⟨rfl, ?_⟩
      rw [putOnce_take _ _ _ _ hi, addOnce, any_putOnce, if_neg (Bool.eq_false_iff.mp (by assumption))]
      exact StrsAre.append' hys (.cons _ _ .nil)
  · rintro ys nx ⟨rfl, hys⟩
    rw [List.take_length] at hys
    intro D2 h3 tk3 F3 N3 o1
    k_steps
    (refine Ret.fin hret (by assumption) (by assumption) ?_)
    exact ⟨[_, _], rfl, Above.cons (fun q hq => off1_all o1 _ (.tail _ hq)) (Above.cons (fun q hq => Nat.ne_of_lt (Nat.lt_succ_of_lt (l1 q hq))) Above.nil), _, ys, _, rfl, .head _, hys⟩
end
section
variable {prog : Program} {w : World} {A : Around} {E : Value → Shared → Prop} {Q : Flow → Shared → Prop} {s : Shared} {env : Env} {h₀ : Heap} {L : Addr}
noncomputable def WTo (h₀ : Heap) (L : Addr) (s : Shared) (y : Str) (st : List Str) (m₀ : Str → Option Value) (J : Nat → Value → List (Addr × Obj) → Prop) (n : Nat) (f : Flow) (s₃ : Shared) : Prop :=
  f = .next ∧ ∃ h' tk m₂ nx' n' v', s₃ = { s with heap := h', toks := tk } ∧ Fr h₀ L h' m₂ ∧ News h₀ L h' nx' ∧ n' < n ∧ m₂ y = some v' ∧ (∀ z, z ≠ y → st.contains z = false → m₂ z = m₀ z) ∧ J n' v' nx'
theorem While_my {test : PySem.Expr} {body : List Stmt} {pos : Pos} {m₀ : Str → Option Value} {news : List (Addr × Obj)} {v₀ : Value} (y : Str) (st : List Str) (J : Nat → Value → List (Addr × Obj) → Prop) (n₀ : Nat)
    (F : Fr h₀ L s.heap m₀) (N : News h₀ L s.heap news) (hy : m₀ y = some v₀) (hJ : J n₀ v₀ news)
    (turn : ∀ n v (u : Str → Option Value) nx h tk, J n v nx → Fr h₀ L h (fun z => if z = y then some v else if st.contains z then u z else m₀ z) → News h₀ L h nx →
      wpAny (model prog w) A (isTrue test env (eval test env)) (fun b s₂ =>
        if b = true then wpAny (model prog w) A (execs body env) (WTo h₀ L s y st m₀ J n) E s₂ else Q .next s₂) E { s with heap := h, toks := tk })
    (hE : PassesOwn (model prog w) A env E) :
    wpAny (model prog w) A (exec (.While test body [] pos) env) Q E s := by
  refine While_inv (fun n m₁ nx => ∃ v, m₁ y = some v ∧ (∀ z, z ≠ y → st.contains z = false → m₁ z = m₀ z) ∧ J n v nx) F N ⟨v₀, hy, fun _ _ _ => rfl, hJ⟩ ?_ hE
  rintro n m₁ nx h tk F₁ N₁ h8
  (refine Exists.elim (h8) ?_; (try clear h8); intro v h9; refine an3 h9 ?_; clear h9; rintro hv hm hj)
  have e : m₁ = fun z => if z = y then some v else if st.contains z then m₁ z else m₀ z := by
    funext z
    by_cases h1 : z = y
    · subst h1; simp [hv]
    · cases h2 : st.contains z with
      | true => simp [h1]
      | false => simp [h1, hm z h1 h2]
  rw [e] at F₁
  refine wpAny_mono (turn n v m₁ nx h tk hj F₁ N₁) (fun b s₂ h₂ => ?_) fun _ _ x => x
  cases b with
  | false => exact h₂
  | true =>
    simp only [if_true] at h₂ ⊢
    refine wpAny_mono h₂ (fun f s₃ h₃ => ?_) fun _ _ x => x
    obtain ⟨rfl, h8⟩ := h₃
    (refine ex6 (h8) ?_; (try clear h8); intro h' tk' m₂ nx' n' v' h9; refine an7 h9 ?_; clear h9; rintro e' F' N' hn hv' hm' hj')
    exact ⟨rfl, h', tk', m₂, nx', n', e', F', N', hn, v', hv', hm', hj'⟩
theorem While_tree {test : PySem.Expr} {body : List Stmt} {pos : Pos} {m₀ : Str → Option Value} {R : List (Addr × Obj)} {c₀ : Addr} {t₀ : Tree} {g : Heap} {gn : Array GenState} {dr : Drawn} {tk : Nat} {os : OsState} (y : Str) (st : List Str) (P : Nat → Tree → Prop) (n₀ : Nat)
    (F : Fr h₀ L g m₀) (N : News h₀ L g R) (hy : m₀ y = some (.ref c₀)) (hT : TreeIn R (.ref c₀) t₀) (hP : P n₀ t₀)
    (turn : ∀ n c t (u : Str → Option Value) h tk (Q1 : Flow → Shared → Prop), TreeIn R (.ref c) t → P n t → Fr h₀ L h (fun z => if z = y then some (.ref c) else if st.contains z then u z else m₀ z) → News h₀ L h R →
      (∀ h' tk' m₂ n' c' t', Fr h₀ L h' m₂ → News h₀ L h' R → n' < n → m₂ y = some (.ref c') → (∀ z, z ≠ y → st.contains z = false → m₂ z = m₀ z) → TreeIn R (.ref c') t' → P n' t' → Q1 .next ⟨h', gn, dr, tk', os⟩) →
      wpAny (model prog w) A (isTrue test env (eval test env)) (fun b s₂ => if b = true then wpAny (model prog w) A (execs body env) Q1 E s₂ else Q .next s₂) E ⟨h, gn, dr, tk, os⟩)
    (hE : PassesOwn (model prog w) A env E) :
    wpAny (model prog w) A (exec (.While test body [] pos) env) Q E ⟨g, gn, dr, tk, os⟩ := by
  refine While_my (s := ⟨g, gn, dr, tk, os⟩) y st (fun n v nx => R = nx ∧ ∃ c t, v = .ref c ∧ TreeIn R (.ref c) t ∧ P n t) n₀ F N hy ⟨rfl, c₀, t₀, rfl, hT, hP⟩ ?_ hE
  rintro n v u nx h tk ⟨rfl, c, t, rfl, ht, hp⟩ F' N'
  refine turn n c t u h tk _ ht hp F' N' ?_
  intro h' tk' m₂ n' c' t' F2 N2 hn hy' hm ht' hp'
  exact ⟨rfl, h', tk', m₂, R, n', _, rfl, F2, N2, hn, hy', hm, rfl, c', t', rfl, ht', hp'⟩
end
inductive Inner : Tree → Str → Prop
  | call (f : Str) (q : Tree) : Inner (.expr (Str.ofString "call") [.sym f, q]) f
  | tup (q : Tree) : Inner (.expr (Str.ofString "tuple") [q]) (Str.ofString "")
  | far (k : Str) (ps : List Tree) (q : Tree) : Inner (.expr (Str.ofString "call") [.expr k ps, q]) (Str.ofString "")
inductive Told' : Tree → Str → Prop
  | sym (x : Str) : Told' (.sym x) x
  | sub (x : Str) (q : Tree) : Told' (.expr (Str.ofString "<:") [.sym x, q]) x
  | sup (x : Str) (q : Tree) : Told' (.expr (Str.ofString ">:") [.sym x, q]) x
  | cmp (x : Str) (q r t u : Tree) : Told' (.expr (Str.ofString "comparison") [q, r, .sym x, t, u]) x
inductive Tolds : List Tree → List Str → Prop
  | nil : Tolds [] []
  | cons (t : Tree) (x : Str) (ts : List Tree) (xs : List Str) : Told' t x → Tolds ts xs → Tolds (t :: ts) (x :: xs)
inductive Wrapped (inner : Tree) : Nat → Tree → List Str → Prop
  | zero : Wrapped inner 0 inner []
  | kind (k : Nat) (h q : Tree) (ns : List Str) : Wrapped inner k h ns → Wrapped inner (k + 1) (.expr (Str.ofString "::") [h, q]) ns
  | wh (k : Nat) (h : Tree) (ns : List Str) (ts : List Tree) (own : List Str) : Wrapped inner k h ns → Tolds ts own → ts.length ≤ 3 → Wrapped inner (k + 1) (.expr (Str.ofString "where") (h :: ts)) (own ++ ns)
theorem Inner.ref {t : Tree} {x : Str} (h : Inner t x) {R : List (Addr × Obj)} {v : Value} (hv : TreeIn R v t) : ∃ c, v = .ref c := by
  cases h <;> cases hv <;> exact ⟨_, rfl⟩
theorem Wrapped.ref {inner t : Tree} {x : Str} {k : Nat} {ns : List Str} (hi : Inner inner x) (h : Wrapped inner k t ns) {R : List (Addr × Obj)} {v : Value} (hv : TreeIn R v t) : ∃ c, v = .ref c := by
  cases h with
  | zero => exact hi.ref hv
  | kind => cases hv; exact ⟨_, rfl⟩
  | wh => cases hv; exact ⟨_, rfl⟩
theorem Inner.shape {t : Tree} {x : Str} (h : Inner t x) : ∃ k ps, t = .expr k ps ∧ (k == Str.ofString "where") = false ∧ (k == Str.ofString "::") = false := by
  cases h <;> exact ⟨_, _, rfl, rfl, rfl⟩
noncomputable def FnT (h q t : Tree) : Prop := t = .expr (Str.ofString "function") [h, q] ∨ t = .expr (Str.ofString "generated") [.expr (Str.ofString "function") [h, q]]
section
theorem fh_spec (w : World) (mean mg mb) {inner h q t : Tree} {nm : Str} {k : Nat} {ns : List Str} {a : Addr} {R : List (Addr × Obj)} (hi : Inner inner nm) (hw : Wrapped inner k h ns) (ht : FnT h q t) (hT : TreeIn R (.ref a) t) :
    EndsR w mean mg mb 79 4 60 [.ref a] R (fun tl r => tl = [] ∧ ∃ c, r = .ref c ∧ TreeIn R (.ref c) inner) := by
  k_dflt (refine' ends_fn ?zo ?zc ?zb ?zm ?zl ?z1 ?z2 ?z3 ?z4 ?_; (case zo => k_is); (case zc => k_is); (case zb => exact fun _ => BindsTo.of_eq rfl); (case zm => exact rfl); (case zl => exact locs rfl); (case z1 => exact rfl); (case z2 => exact rfl); (case z3 => exact rfl); (case z4 => decide); intro dp un gd outer A₀ base h₀ L g gn dr tk os Q B F X N T hd hu hret)
  refine wpAny_execs_cons ?_
  refine cut2 (fun Q => ∀ h' tk' m' t0, Fr h₀ L h' m' → News h₀ L h' R → m' (Str.ofString "tree") = some (.ref t0) → TreeIn R (.ref t0) (.expr (Str.ofString "function") [h, q]) → Q .next ⟨h', gn, dr, tk', os⟩) ?_ ?_
  · clear hret
    intro Q9 hq
    rcases ht with rfl | rfl
    · k_steps
      exact hq _ _ _ _ (by assumption) (by assumption) rfl hT
    · refine hT.inv ?_
      intro t u b n k' vs he hb hv
      revert hb
      refine hv.inv (G := fun vs => (b, tupO vs.toArray k') ∈ R → _) ?_
      intro v us hv2 hvs hb
      obtain ⟨c, rfl⟩ : ∃ c, v = .ref c := by cases hv2; exact ⟨_, rfl⟩
      k_steps
      exact hq _ _ _ _ (by assumption) (by assumption) rfl hv2
  clear F N ht hT
  intro h1 tk1 m1 t0 F1 N1 hm1 hT1
  refine hT1.inv ?_
  intro t u b n k' vs he hb hv
  revert hb
  refine hv.inv (G := fun vs => (b, tupO vs.toArray k') ∈ R → _) ?_
  intro v us hv2 hvs hb
  obtain ⟨c, rfl⟩ := hw.ref hi hv2
  dsimp only
  k_steps
  rename Fr _ _ _ _ => lF
  rename News _ _ _ _ => lN
  unfold Hold
  refine While_tree (Str.ofString "head") [] (fun k t => ∃ ns, Wrapped inner k t ns) k lF lN rfl hv2 ⟨_, hw⟩ ?_ (by passes_own)
  intro k2 c2 t2 u2 h2 tk2 Q1 ht2 hP F2 N2 hend
  clear lF lN
  obtain ⟨ns2, hw2⟩ := hP
  cases hw2 with
  | zero =>
    obtain ⟨hh, ps, rfl, e1, e2⟩ := hi.shape
    k_steps
    (refine Ret.finR hret ([]) (by assumption) (by assumption) (by tb_start) ?_ ?_)
    · exact Above.nil
    · exact ⟨rfl, c2, rfl, ht2⟩
  | kind k3 h3 q3 _ hw3 =>
    refine ht2.inv ?_
    intro t3 u3 b3 n3 k3' vs3 he3 hb3 hv3
    revert hb3
    refine hv3.inv (G := fun vs => (b3, tupO vs.toArray k3') ∈ R → _) ?_
    intro v3 us3 hv3 hvs3 hb3
    obtain ⟨c3, rfl⟩ := hw3.ref hi hv3
    k_steps
    exact hend _ _ _ _ _ _ (by assumption) (by assumption) (Nat.lt_succ_self _) rfl (fun z h1 h2 => by simp [h1]) hv3 ⟨_, hw3⟩
  | wh k3 h3 _ ts own hw3 _ _ =>
    refine ht2.inv ?_
    intro t3 u3 b3 n3 k3' vs3 he3 hb3 hv3
    revert hb3
    refine hv3.inv (G := fun vs => (b3, tupO vs.toArray k3') ∈ R → _) ?_
    intro v3 us3 hv3 hvs3 hb3
    obtain ⟨c3, rfl⟩ := hw3.ref hi hv3
    k_steps
    exact hend _ _ _ _ _ _ (by assumption) (by assumption) (Nat.lt_succ_self _) rfl (fun z h1 h2 => by simp [h1]) hv3 ⟨_, hw3⟩
end
section
variable {w : World} {mean : ExcName → Option Value} {mg mb : Str → Option Value} {R news : List (Addr × Obj)}
  {dp un : Nat} {gd : Option (List Code)} {cn : Str} {cs : Scope} {a : Addr} {ccd : Value} {cl : List (Str × Addr)} {outer : List Env} {A₀ : Around} {base h₀ : Heap} {L : Addr} {m : Str → Option Value} {g : Heap} {gn : Array GenState} {dr : Drawn} {tk : Nat} {os : OsState}
  {Q E : Value → Shared → Prop}
theorem call_fh {inner h q t : Tree} {nm : Str} {k : Nat} {ns : List Str} {b : Addr} (hi : Inner inner nm) (hw : Wrapped inner k h ns) (ht : FnT h q t) (hT : TreeIn R (.ref b) t) (B : Below A₀ base outer h₀) (F : Fr h₀ L g m) (X : (hd.heap_39 w.params).In h₀) (N : News h₀ L g R) (T : Top hd.view_39 (looseW hd.view_39 []) mean mg mb h₀) (hk : cs.kind = .function) (hd' : dp + 4 < recursionLimit) (hu : un + 60 < cLine)
    (ret : ∀ c h' tk', TreeIn R (.ref c) inner → Fr h₀ L h' m → News h₀ L h' R → Q (.ref c) ⟨h', gn, dr, tk', os⟩) : wpAny (model PySem.Challenge.rw_xm0685_01.row.prog w) (ktrTop dp un gd cn cs L a ccd cl outer) (call (.ref 79) [.ref b]) Q E ⟨g, gn, dr, tk, os⟩ := by
  refine use_R (fh_spec w mean mg mb hi hw ht hT) B F X N T hk hd' hu ?_
  rintro r tl h' tk' ⟨rfl, c, rfl, hc⟩ _ F' N'
  exact ret c h' tk' hc F' N'
end
theorem on_arrow (w : World) (mean mg mb) {ps : List Tree} {a : Addr} {R : List (Addr × Obj)} (hT : TreeIn R (.ref a) (.expr (Str.ofString "->") ps)) :
    EndsR w mean mg mb 86 6 100 [.ref a] R (fun tl r => tl = [] ∧ ∃ tk, r = .str (Str.ofString "") tk) := by
  refine hT.inv ?_
  intro t u b n k' vs he hb hv
  (k_dflt (refine' ends_fn ?zo ?zc ?zb ?zm ?zl ?z1 ?z2 ?z3 ?z4 ?_; (case zo => k_is); (case zc => k_is); (case zb => exact fun _ => BindsTo.of_eq rfl); (case zm => exact rfl); (case zl => exact locs rfl); (case z1 => exact rfl); (case z2 => exact rfl); (case z3 => exact rfl); (case z4 => decide); intro dp un gd outer A₀ base h₀ L g gn dr tk os Q B F X N T hd hu hret); k_steps)
  (refine Ret.finR hret ([]) (by assumption) (by assumption) (by tb_start) ?_ ?_)
  · exact Above.nil
  · exact ⟨rfl, _, rfl⟩
theorem on_spec (w : World) (mean mg mb) {inner h q t : Tree} {nm : Str} {k : Nat} {ns : List Str} {a : Addr} {R : List (Addr × Obj)} (hi : Inner inner nm) (hw : Wrapped inner k h ns) (ht : FnT h q t) (hT : TreeIn R (.ref a) t) :
    EndsR w mean mg mb 86 6 100 [.ref a] R (fun tl r => tl = [] ∧ ∃ tk, r = .str nm tk) := by
  k_dflt (refine' ends_fn ?zo ?zc ?zb ?zm ?zl ?z1 ?z2 ?z3 ?z4 ?_; (case zo => k_is); (case zc => k_is); (case zb => exact fun _ => BindsTo.of_eq rfl); (case zm => exact rfl); (case zl => exact locs rfl); (case z1 => exact rfl); (case z2 => exact rfl); (case z3 => exact rfl); (case z4 => decide); intro dp un gd outer A₀ base h₀ L g gn dr tk os Q B F X N T hd hu hret)
  refine wpAny_execs_cons ?_
  refine cut2 (fun Q => ∀ h' tk' m', Fr h₀ L h' m' → News h₀ L h' R → m' (Str.ofString "tree") = some (.ref a) → Q .next ⟨h', gn, dr, tk', os⟩) ?_ ?_
  · clear hret
    intro Q9 hq
    rcases id ht with rfl | rfl
    all_goals
      refine hT.inv ?_
      intro t u b n k' vs he hb hv
      k_steps
      exact hq _ _ _ (by assumption) (news_sub (by assumption) (by tb_start)) rfl
  clear F N
  intro h1 tk1 m1 F1 N1 hm1
  dsimp only
  k_steps
  (unfold Hold; k_dflt (refine' call_fh hi hw ht hT ?B ?F ?X ?N ?T ?kq9 ?d ?u ?_; (case B => k_asm); (case F => k_asm); (case X => k_asm); (case N => k_asm); (case T => k_asm); (case kq9 => first | exact rfl | assumption); (case d => ktr_room); (case u => ktr_units)))
  intro c2 h2 tk2 hc F2 N2
  cases hi with
  | call f q =>
    refine hc.inv ?_
    intro t2 u2 b2 n2 k2 vs2 he2 hb2 hv2
    revert hb2
    refine hv2.inv (G := fun vs => (b2, tupO vs.toArray k2) ∈ R → _) ?_
    intro v2 us2 hv2 hvs2 hb2
    obtain ⟨c4, rfl⟩ : ∃ c, v2 = .ref c := by cases hv2; exact ⟨_, rfl⟩
    refine hv2.invS ?_
    intro t4 u4 n4 hm4
    k_steps
    (refine Ret.finR hret ([]) (by assumption) (by assumption) (by tb_start) ?_ ?_)
    · exact Above.nil
    · exact ⟨rfl, _, rfl⟩
  | tup q =>
    k_steps
    (refine Ret.finR hret ([]) (by assumption) (by assumption) (by tb_start) ?_ ?_)
    · exact Above.nil
    · exact ⟨rfl, _, rfl⟩
  | far k ps q =>
    refine hc.inv ?_
    intro t2 u2 b2 n2 k2 vs2 he2 hb2 hv2
    revert hb2
    refine hv2.inv (G := fun vs => (b2, tupO vs.toArray k2) ∈ R → _) ?_
    intro v2 us2 hv2 hvs2 hb2
    obtain ⟨c4, rfl⟩ : ∃ c, v2 = .ref c := by cases hv2; exact ⟨_, rfl⟩
    k_steps
    (refine Ret.finR hret ([]) (by assumption) (by assumption) (by tb_start) ?_ ?_)
    · exact Above.nil
    · exact ⟨rfl, _, rfl⟩
noncomputable def ListsIn (R : List (Addr × Obj)) (vs : List Value) (xss : List (List Str)) : Prop :=
  vs.length = xss.length ∧ ∀ (i : Nat) (v : Value), vs[i]? = some v → ∃ xs b us k, xss[i]? = some xs ∧ v = .ref b ∧ (b, listOf (List.toArray us) k) ∈ R ∧ StrsAre us xs
section
theorem joined_spec (w : World) (mean mg mb) {l : Addr} {vs : List Value} {xss : List (List Str)} {n : Nat} {R : List (Addr × Obj)} (hl : (l, listOf vs.toArray n) ∈ R) (hs : ListsIn R vs xss) (hz : xss.length ≤ 100) (hzs : ∀ xs ∈ xss, xs.length ≤ 100) :
    EndsR w mean mg mb 105 4 60 [.ref l] R (StrsOut (xss.foldl putOnce [])) := by
  (k_dflt (refine' ends_fn ?zo ?zc ?zb ?zm ?zl ?z1 ?z2 ?z3 ?z4 ?_; (case zo => k_is); (case zc => k_is); (case zb => exact fun _ => BindsTo.of_eq rfl); (case zm => exact rfl); (case zl => exact locs rfl); (case z1 => exact rfl); (case z2 => exact rfl); (case z3 => exact rfl); (case z4 => decide); intro dp un gd outer A₀ base h₀ L g gn dr tk os Q B F X N T hd hu hret); k_steps)
  rename Fr _ _ _ _ => lF
  rename News _ _ _ _ => lN
  rename (∀ p : Addr × Obj, p ∈ R → p.1 < (_ : Addr)) => hD
  have hP' := fun q hq => Nat.ne_of_lt (hD q hq)
  unfold Hold
  refine iter_listF [] (fun i => (xss.take i).foldl putOnce []) rfl lF lN (off_above hD) hl .nil ?_ ?_
  · intro i v u us' n' tl h tk I oI hi ha ho hs' off F' N'
    clear lF lN
    refine cutT ?_
    intro Q9 hend _
    obtain ⟨xs, b, us, k, hxs, rfl, hb, hus⟩ := hs.2 i v hi
    have hlz : xs.length ≤ 100 := hzs xs (List.mem_of_getElem? hxs)
    have hfl := fold_len (ls := xss.take i) (fun x hx => hzs x (List.mem_of_mem_take hx))
    have htk : (xss.take i).length ≤ xss.length := by rw [List.length_take]; exact Nat.min_le_right _ _
    k_steps
    (unfold Hold; k_dflt (refine' call_put (n := n') (found_off (tl2 := []) (oI := oI) (off_above hD) off ho Above.nil) (List.mem_cons_of_mem _ (List.mem_append_right _ (List.mem_append_right _ hb))) hs' hus (by omega) ?B ?F ?X ?N ?hs ?T ?kq9 ?d ?u ?_; (case B => k_asm); (case F => k_asm); (case X => k_asm); (case N => k_asm); (case T => k_asm); (case kq9 => first | exact rfl | assumption); (case d => ktr_room); (case u => ktr_units); (case hs => first | exact (fun _ h9 => h9) | exact (fun _ h9 => .tail _ (.tail _ h9)) | exact Cut.sub (by assumption) | tb_start)))
    intro us3 n3 h3 tk3 hs3 F3 N3
    rw [← fold_take hxs] at hs3
    k_steps
    refine hend _ ?_
    exact found_turn off ha ho (tl2 := []) (tl3 := []) Above.nil (by assumption) (fun z h1 h2 => by simp [h1]) (by assumption) hs3
  · intro u us' n' tl h tk ha ho hs' F' N'
    clear lF lN
    rw [hs.1, List.take_length] at hs'
    k_steps
    (refine Ret.fin hret (by assumption) (by assumption) ?_)
    exact ⟨(_, listOf (List.toArray us') n') :: tl, rfl, Above.cons hP' ha, _, us', n', rfl, .head _, hs'⟩
end
theorem words_11 : hd.heap_39 = hd.heap_39 ∧ PySem.Challenge.rw_xm0685_01 = PySem.Challenge.rw_xm0685_01 := by
  k_fill
  (k_with "my compareOp In str ref" => (k_here; k_dflt (refine' in_led ?zN ?zl ?zs ?ze ?_; (case zN => k_asm); (case zl => k_extra "mem"); (case zs => (repeat (first | exact StrsAre.nil | refine StrsAre.cons _ _ ?_))); (case ze => first | exact eq_tt rfl | exact eq_ff rfl | exact eq_ff (by assumption) | exact eq_tt (by assumption)); k_whole)))
  (k_with "my compareOp Eq ref ref" => (k_here; k_dflt (first | (refine' eq_empty_yes ?zN ?zl ?zb ?zu ?_; (case zN => k_asm); (case zl => k_extra "mem"); (case zb => k_extra "mem"); (case zu => k_extra "units"); k_whole) | (refine' eq_empty_no ?zN ?zl ?zb ?zu ?_; (case zN => k_asm); (case zl => k_extra "mem"); (case zb => k_extra "mem"); (case zu => k_extra "units"); k_whole))))
  (k_with "my subscriptTail Name Slice ref ref" => (k_here; (with_reducible show wpAny _ _ (subscriptTail _ (PySem.Expr.Slice (some _) none none _) (Value.ref _) (Value.ref _)) _ _ _); k_dflt (refine' slice_from1 ?zF ?zN ?zl ?zp ?_ ?zs ?zt; (case zF => k_asm); (case zN => k_asm); (case zl => k_extra "mem"); (case zp => omega); (case zs => with_unfolding_all rfl); (case zt => kmk_pure)); intro _ _ _ _ _; (try k_sweep)))
  exact ⟨rfl, rfl⟩
section
variable {prog : Program} {w : World} {A : Around} {E : Value → Shared → Prop} {s : Shared} {h₀ : Heap} {L l b : Addr} {m : Str → Option Value} {news : List (Addr × Obj)} {v : Value} {vs : List Value} {n k : Nat} {u : Tok}
theorem eq_empty_yes {Q : Value → Shared → Prop} (N : News h₀ L s.heap news) (hm : (l, tupO ([] : List Value).toArray n) ∈ news) (hb : (b, tupO ([] : List Value).toArray k) ∈ news) (hu : A.units < cLine) (h : Q (.bool true) s) :
    wpAny (model prog w) A (compareOp .Eq (.ref l) (.ref b)) Q E s :=
  PySem.SeqAt.eq_tupleAt (e := fun _ => true) ⟨_, (N _ hm).1, rfl, _, rfl⟩ ⟨_, (N _ hb).1, rfl, _, rfl⟩ hu (fun j h1 _ => absurd h1 (Nat.not_lt_zero _)) h
theorem eq_empty_no {Q : Value → Shared → Prop} (N : News h₀ L s.heap news) (hm : (l, tupO (v :: vs).toArray n) ∈ news) (hb : (b, tupO ([] : List Value).toArray k) ∈ news) (hu : A.units < cLine) (h : Q (.bool false) s) :
    wpAny (model prog w) A (compareOp .Eq (.ref l) (.ref b)) Q E s := by
  refine PySem.SeqAt.eq_tupleAt (e := fun _ => true) ⟨_, (N _ hm).1, rfl, _, rfl⟩ ⟨_, (N _ hb).1, rfl, _, rfl⟩ hu (fun j _ h2 => absurd h2 (Nat.not_lt_zero _)) ?_
  have e : ((List.range (min (v :: vs).toArray.size ([] : List Value).toArray.size)).all (fun _ => true) && (v :: vs).toArray.size == ([] : List Value).toArray.size) = false := by simp
  rw [e]; exact h
theorem slice_from1 {value slice : PySem.Expr} {Q : Value → Shared → Prop} (F : Fr h₀ L s.heap m) (N : News h₀ L s.heap news) (hm : (l, tupO (v :: vs).toArray n) ∈ news) (hz : vs.length ≤ 1000)
    (h : ∀ D h', Fr h₀ L h' m → News h₀ L h' ((D, tupO vs.toArray 0) :: news) → (∀ p ∈ news, p.1 < D) → Q (.ref D) { s with heap := h' })
    (hs : subscripted slice false (.ref l) (.ref s.heap.objs.size) = operate [.ref s.heap.objs.size, .ref l] (getItem (.ref l) (.ref s.heap.objs.size)))
    (hg : ∀ r, letTemporaryGo value (.ref l) r = pure ()) :
    wpAny (model prog w) A (subscriptTail value slice (.ref l) (.ref s.heap.objs.size)) Q E { s with heap := s.heap.push { cls := .type "slice", data := .fields #[.int 1 u, .none, .none] } } := by
  refine slice_tuple_from (a := 1) F N (N.isTup hm) (Nat.le_refl _) (by simp) (fun h' F' N' => ?_) hs hg (by rw [sizeLine_num, List.size_toArray, List.length_cons]; omega)
  exact h _ h' F' N' fun p hp => Nat.lt_succ_of_lt (Heap.lt_size (N p hp).1)
theorem news_drop2 {h : Heap} {a p b : Addr × Obj} {r : List (Addr × Obj)} (N : News h₀ L h (a :: p :: b :: r)) : News h₀ L h (b :: a :: r) := news_sub N (fun x hx => by
  rcases List.mem_cons.mp hx with rfl | hx
  · exact .tail _ (.tail _ (.head _))
  · rcases List.mem_cons.mp hx with rfl | hx
    · exact .head _
    · exact .tail _ (.tail _ (.tail _ hx)))
theorem off_S {S D : Addr} {o o' : Obj} {p : Addr × Obj} {r : List (Addr × Obj)} (h : ∀ q ∈ p :: (D, o) :: r, q.1 < S) (k : Off D r) : Off D ((S, o') :: r) := Off.cons (Ne.symm (Nat.ne_of_lt (h _ (.tail _ (.head _))))) k
end
section
variable {prog : Program} {w : World} {A : Around} {E : Value → Shared → Prop} {Q : Flow → Shared → Prop} {s : Shared} {env : Env} {h₀ : Heap} {L : Addr}
theorem While_found {test : PySem.Expr} {body : List Stmt} {pos : Pos} {m₀ : Str → Option Value} {D : Addr} {us : List Value} {k : Nat} {R : List (Addr × Obj)} {v₀ : Value} {g₀ : List Str} (y : Str) (st : List Str) (J : Nat → Value → List Str → Prop) (n₀ : Nat)
    (F : Fr h₀ L s.heap m₀) (N : News h₀ L s.heap ((D, listOf us.toArray k) :: R)) (hy : m₀ y = some v₀) (hs : StrsAre us g₀) (hJ : J n₀ v₀ g₀)
    (turn : ∀ n v g (u : Str → Option Value) us' k' tl h tk, J n v g → Above R tl → Off D tl → StrsAre us' g → Fr h₀ L h (fun z => if z = y then some v else if st.contains z then u z else m₀ z) → News h₀ L h ((D, listOf (List.toArray us') k') :: (tl ++ R)) →
      wpAny (model prog w) A (isTrue test env (eval test env)) (fun b s₂ =>
        if b = true then wpAny (model prog w) A (execs body env) (WTo h₀ L s y st m₀ (fun n v nx => ∃ g, J n v g ∧ FoundIn D R g nx) n) E s₂ else Q .next s₂) E { s with heap := h, toks := tk })
    (hE : PassesOwn (model prog w) A env E) :
    wpAny (model prog w) A (exec (.While test body [] pos) env) Q E s := by
  refine While_my y st (fun n v nx => ∃ g, J n v g ∧ FoundIn D R g nx) n₀ F N hy ⟨g₀, hJ, us, k, [], rfl, Above.nil, fun _ h => (nomatch h), hs⟩ ?_ hE
  rintro n v u nx h tk ⟨g, hj, h8⟩ F' N'
  (refine ex3 (h8) ?_; (try clear h8); intro us' k' tl h9; refine an4 h9 ?_; clear h9; rintro rfl ha ho hs')
  exact turn n v g u us' k' tl h tk hj ha ho hs' F' N'
theorem While_foundV {test : PySem.Expr} {body : List Stmt} {pos : Pos} {m₀ : Str → Option Value} {D : Addr} {us : List Value} {k : Nat} {R : List (Addr × Obj)} {c₀ : Addr} {t₀ : Tree} {g₀ : List Str} {g : Heap} {gn : Array GenState} {dr : Drawn} {tk : Nat} {os : OsState} (y : Str) (st : List Str) (P : Nat → Tree → List Str → Prop) (n₀ : Nat)
    (F : Fr h₀ L g m₀) (N : News h₀ L g ((D, listOf us.toArray k) :: R)) (hy : m₀ y = some (.ref c₀)) (hs : StrsAre us g₀) (hT : TreeIn R (.ref c₀) t₀) (hP : P n₀ t₀ g₀)
    (turn : ∀ n c t gs (mc : Str → Option Value) us' k' tl h tk (Q1 : Flow → Shared → Prop), TreeIn R (.ref c) t → P n t gs → mc y = some (.ref c) → (∀ z, z ≠ y → st.contains z = false → mc z = m₀ z) → Above R tl → Off D tl → StrsAre us' gs → Fr h₀ L h mc → News h₀ L h ((D, listOf (List.toArray us') k') :: (tl ++ R)) →
      (∀ h' tk' (m₂ : Str → Option Value) n' c' t' gs' us2 k2 tl2, Fr h₀ L h' m₂ → News h₀ L h' ((D, listOf (List.toArray us2) k2) :: (tl2 ++ R)) → n' < n → m₂ y = some (.ref c') → (∀ z, z ≠ y → st.contains z = false → m₂ z = mc z) → TreeIn R (.ref c') t' → P n' t' gs' → Above R tl2 → Off D tl2 → StrsAre us2 gs' → Q1 .next ⟨h', gn, dr, tk', os⟩) →
      wpAny (model prog w) A (isTrue test env (eval test env)) (fun b s₂ => if b = true then wpAny (model prog w) A (execs body env) Q1 E s₂ else Q .next s₂) E ⟨h, gn, dr, tk, os⟩)
    (hE : PassesOwn (model prog w) A env E) :
    wpAny (model prog w) A (exec (.While test body [] pos) env) Q E ⟨g, gn, dr, tk, os⟩ := by
  refine While_found (s := ⟨g, gn, dr, tk, os⟩) y st (fun n v gs => ∃ c t, v = .ref c ∧ TreeIn R (.ref c) t ∧ P n t gs) n₀ F N hy hs ⟨c₀, t₀, rfl, hT, hP⟩ ?_ hE
  rintro n v gs u us' k' tl h tk ⟨c, t, rfl, ht, hp⟩ ha ho hs' F' N'
  refine turn n c t gs _ us' k' tl h tk _ ht hp (by simp) (fun z h1 h2 => by simp only [if_neg h1, h2, Bool.false_eq_true, if_false]) ha ho hs' F' N' ?_
  intro h' tk' m₂ n' c' t' gs' us2 k2 tl2 F2 N2 hn hy' hm ht' hp' ha2 ho2 hs2
  exact ⟨rfl, h', tk', m₂, _, n', _, rfl, F2, N2, hn, hy', fun z h1 h2 => by rw [hm z h1 h2]; simp only [if_neg h1, h2, Bool.false_eq_true, if_false], gs', ⟨c', t', rfl, ht', hp'⟩, us2, k2, tl2, rfl, ha2, ho2, hs2⟩
end
inductive WStop : Tree → Prop
  | of {t : Tree} {nm : Str} : Inner t nm → WStop t
  | sym (x : Str) : WStop (.sym x)
theorem WStop.ref {t : Tree} (h : WStop t) {R : List (Addr × Obj)} {v : Value} (hv : TreeIn R v t) : ∃ c, v = .ref c := by
  cases h with
  | of h => exact h.ref hv
  | sym => cases hv; exact ⟨_, rfl⟩
theorem Wrapped.ref' {inner t : Tree} {k : Nat} {ns : List Str} (hi : WStop inner) (h : Wrapped inner k t ns) {R : List (Addr × Obj)} {v : Value} (hv : TreeIn R v t) : ∃ c, v = .ref c := by
  cases h with
  | zero => exact hi.ref hv
  | kind => cases hv; exact ⟨_, rfl⟩
  | wh => cases hv; exact ⟨_, rfl⟩
theorem Tolds.at {ts : List Tree} {xs : List Str} (h : Tolds ts xs) : ∀ {i : Nat} {t : Tree}, ts[i]? = some t → ∃ x, xs[i]? = some x ∧ Told' t x := by
  induction h with
  | nil => exact fun h => nomatch h
  | cons t x ts xs h1 _ ih =>
    intro i w h
    cases i with
    | zero => cases h; exact ⟨x, rfl, h1⟩
    | succ i => exact ih h
theorem Tolds.length {ts : List Tree} {xs : List Str} (h : Tolds ts xs) : ts.length = xs.length := by
  induction h with
  | nil => rfl
  | cons _ _ _ _ _ _ ih => exact congrArg (· + 1) ih
theorem putOnce_app (a xs ys : List Str) : putOnce a (xs ++ ys) = putOnce (putOnce a xs) ys := by simp [putOnce]
theorem putOnce_take1 {g own : List Str} {i : Nat} {x : Str} (h : own[i]? = some x) : putOnce g (own.take (i + 1)) = putOnce (putOnce g (own.take i)) [x] := by
  rw [List.take_add_one, h, putOnce_app]; rfl
theorem WStop.shape {t : Tree} (h : WStop t) : [Str.ofString "where", Str.ofString "::"].any (· == headOf t) = false := by
  cases h with
  | of h => cases h <;> rfl
  | sym => rfl
theorem lift_in {h₀ h : Heap} {L : Addr} {X R : List (Addr × Obj)} {v : Value} {t : Tree} (_ : News h₀ L h X) (hT : TreeIn R v t) (hs : ∀ p ∈ R, p ∈ X) : TreeIn X v t := hT.lift hs
theorem gen_led {h₀ h : Heap} {L : Addr} {X : List (Addr × Obj)} {G : Prop} (_ : News h₀ L h X) (key : ∀ X4, X4 = X → G) : G := key X rfl
theorem Told'.ref {t : Tree} {x : Str} (h : Told' t x) {R : List (Addr × Obj)} {v : Value} (hv : TreeIn R v t) : ∃ c, v = .ref c := by
  cases h <;> cases hv <;> exact ⟨_, rfl⟩
theorem Told'.shape {t : Tree} {x : Str} (h : Told' t x) : t = .sym x ∨ (∃ k ps, t = .expr k (.sym x :: ps) ∧ (k == Str.ofString "comparison") = false) ∨ ∃ q r u v, t = .expr (Str.ofString "comparison") [q, r, .sym x, u, v] := by
  cases h with
  | sym => exact .inl rfl
  | sub => exact .inr (.inl ⟨_, _, rfl, rfl⟩)
  | sup => exact .inr (.inl ⟨_, _, rfl, rfl⟩)
  | cmp => exact .inr (.inr ⟨_, _, _, _, rfl⟩)
theorem news_cell {h₀ h : Heap} {L : Addr} {p : Addr × Obj} {X : List (Addr × Obj)} (N : News h₀ L h X) (k : p ∈ X) : News h₀ L h (p :: X) := fun q hq => by
  rcases List.mem_cons.mp hq with rfl | hq
  · exact N _ k
  · exact N _ hq
section
theorem wn_spec (w : World) (mean mg mb) {inner h : Tree} {k : Nat} {ns : List Str} {a : Addr} {R : List (Addr × Obj)} (hi : WStop inner) (hw : Wrapped inner k h ns) (hz : ns.length ≤ 1000) (hT : TreeIn R (.ref a) h) :
    EndsR w mean mg mb 98 8 120 [.ref a] R (StrsOut (putOnce [] ns)) := by
  (k_dflt (refine' ends_fn ?zo ?zc ?zb ?zm ?zl ?z1 ?z2 ?z3 ?z4 ?_; (case zo => k_is); (case zc => k_is); (case zb => exact fun _ => BindsTo.of_eq rfl); (case zm => exact rfl); (case zl => exact locs rfl); (case z1 => exact rfl); (case z2 => exact rfl); (case z3 => exact rfl); (case z4 => decide); intro dp un gd outer A₀ base h₀ L g gn dr tk os Q B F X N T hd hu hret); k_steps)
  rename Fr _ _ _ _ => lF
  rename News _ _ _ _ => lN
  rename (∀ p : Addr × Obj, p ∈ R → p.1 < (_ : Addr)) => hD
  have hP' := fun q hq => Nat.ne_of_lt (hD q hq)
  have lN2 := news_sub lN (b := _ :: R) (fun p hp => List.mem_cons_of_mem _ hp)
  unfold Hold
  refine While_foundV (Str.ofString "here") [Str.ofString "told", Str.ofString "parts", Str.ofString "place"] (fun k h g => ∃ ms, Wrapped inner k h ms ∧ putOnce g ms = putOnce [] ns ∧ g.length + ms.length ≤ 1000) k lF lN2 rfl .nil hT ⟨ns, hw, rfl, by simpa using hz⟩ ?_ (by passes_own)
  intro k2 c2 t2 g2 mc us2 kk2 tl2 h2 tk2 Q1 ht2 hP hmc hm2 ha2 ho2 hs2 F2 N2 hend
  clear lF lN lN2
  have hfound : mc (Str.ofString "found") = some _ := hm2 (Str.ofString "found") (by decide) rfl
  obtain ⟨ms2, hw2, hg2, hz2⟩ := hP
  cases hw2 with
  | zero =>
    rw [show putOnce g2 [] = g2 from rfl] at hg2
    rw [hg2] at hs2
    have e1 := hi.shape
    k_steps
    refine Ret.fin hret (by assumption) (news_sub (b := _ :: (tl2 ++ R)) (by assumption) (fun p hp => List.mem_cons_of_mem _ hp)) ⟨_ :: tl2, rfl, Above.cons hP' ha2, _, us2, kk2, rfl, .head _, hs2⟩
  | kind k3 h3 q3 _ hw3 =>
    refine ht2.inv ?_
    intro t3 u3 b3 n3 k3' vs3 he3 hb3 hv3
    revert hb3
    refine hv3.inv (G := fun vs => (b3, tupO vs.toArray k3') ∈ R → _) ?_
    intro v3 us3 hv3 hvs3 hb3
    obtain ⟨c3, rfl⟩ := hw3.ref' hi hv3
    k_steps
    exact hend _ _ _ _ _ _ _ _ _ _ (by assumption) (news_sub (b := _ :: (tl2 ++ R)) (by assumption) (fun p hp => List.mem_cons_of_mem _ hp)) (Nat.lt_succ_self _) rfl (fun z h1 h2 => if_neg h1) hv3 ⟨ms2, hw3, hg2, hz2⟩ ha2 ho2 hs2
  | wh k3 h3 ms3 ts own hw3 hto hz3 =>
    refine ht2.inv ?_
    intro t3 u3 b3 n3 k3' vs3 he3 hb3 hv3
    revert hb3
    refine hv3.inv (G := fun vs => (b3, tupO vs.toArray k3') ∈ R → _) ?_
    intro v3 us3 hv3 hvs3 hb3
    obtain ⟨c3, rfl⟩ := hw3.ref' hi hv3
    have hlv := hvs3.length
    have hlo := hto.length
    k_steps
    rename Fr _ _ _ _ => lF
    rename News _ _ _ _ => lN
    rename (∀ p : Addr × Obj, p ∈ (_ :: (_, listOf (List.toArray us2) kk2) :: (tl2 ++ R) : List (Addr × Obj)) → p.1 < (_ : Addr)) => hS
    have hoffD := off_S (o' := tupO us3.toArray 0) hS (Off.app ho2 (off_above hD))
    unfold Hold
    refine iter_tupV [Str.ofString "parts", Str.ofString "place"] (fun i => putOnce g2 (own.take i)) rfl lF (news_drop2 lN) hoffD (.head _) (by simpa [putOnce] using hs2) ?_ ?_
    · intro i v4 mt us4 n4 tl4 h4 tk4 I oI Q4 hi4 hmt hm4 ha4 ho4 hs4 off4 F4 N4 hend4
      clear lF lN
      obtain ⟨ti, hti, hvi⟩ := hvs3.at hi4
      obtain ⟨x, hx, htold⟩ := hto.at hti
      obtain ⟨c4, rfl⟩ := htold.ref hvi
      have hgl := putOnce_length (own.take i) g2
      have htk : (own.take i).length ≤ own.length := by rw [List.length_take]; exact Nat.min_le_right _ _
      have hz2' : g2.length + (own.length + ms3.length) ≤ 1000 := by simpa using hz2
      have hf4 : mt (Str.ofString "found") = some _ := (hm4 (Str.ofString "found") (by decide) rfl).trans hfound
      have hTR := lift_in N4 hvi (by tb_start)
      refine gen_led N4 ?_
      intro X4 hX
      rw [← hX] at N4 hTR
      refine wpAny_execs_cons ?_
      refine cut2 (fun Q => ∀ h' tk' m' pb us n, Fr h₀ L h' m' → News h₀ L h' ((pb, tupO (List.toArray us) n) :: X4) → m' (Str.ofString "parts") = some (.ref pb) → (∀ z, z ≠ Str.ofString "parts" → m' z = mt z) → (ti = .sym x ∧ us = [] ∨ ∃ k ps, ti = .expr k ps ∧ TreesIn X4 us ps) → Q .next ⟨h', gn, dr, tk', os⟩) ?_ ?_
      · clear hend4 hend hret
        intro Q9 hq
        rcases htold.shape with rfl | ⟨kk, ps, rfl, ek⟩ | ⟨q, r, u, v, rfl⟩
        · refine hTR.invS ?_
          intro t5 u5 n5 hm5
          k_steps
          exact hq _ _ _ _ _ _ (by assumption) (by assumption) rfl (fun z h1 => if_neg h1) (.inl ⟨rfl, rfl⟩)
        all_goals
          refine hTR.inv ?_
          intro t5 u5 b5 n5 k5 vs5 he5 hb5 hv5
          k_steps
          exact hq _ _ _ _ _ _ (by assumption) (news_cell (by assumption) hb5) rfl (fun z h1 => if_neg h1) (.inr ⟨_, _, rfl, hv5⟩)
      clear F4 N4
      intro h5 tk5 m5 pb us5 n5 F5 N5 hm5 hz5 hsh
      have ht5 : m5 (Str.ofString "told") = some _ := (hz5 (Str.ofString "told") (by decide)).trans hmt
      have hf5 : m5 (Str.ofString "found") = some _ := (hz5 (Str.ofString "found") (by decide)).trans hf4
      dsimp only
      refine wpAny_execs_cons ?_
      refine cut2 (fun Q => ∀ h' tk' m' cp, Fr h₀ L h' m' → News h₀ L h' X4 → m' (Str.ofString "place") = some (.ref cp) → (∀ z, z ≠ Str.ofString "place" → m' z = m5 z) → TreeIn X4 (.ref cp) (.sym x) → Q .next ⟨h', gn, dr, tk', os⟩) ?_ ?_
      · clear hend4 hend hret
        intro Q9 hq
        rcases hsh with ⟨rfl, rfl⟩ | ⟨kk, ps, rfl, hv5⟩
        · k_steps
          exact hq _ _ _ c4 (by assumption) (news_sub (by assumption) (by tb_start)) rfl (fun z h1 => if_neg h1) hTR
        · rcases htold.shape with e | ⟨kk, ps, e, ek⟩ | ⟨q, r, u, v, e⟩
          · cases e
          · cases e
            revert N5
            refine hv5.inv (G := fun vs => News h₀ L h5 ((pb, tupO vs.toArray n5) :: X4) → _) ?_
            intro v6 us6 hv6 hvs6 N5
            obtain ⟨c6, rfl⟩ : ∃ c, v6 = .ref c := by cases hv6; exact ⟨_, rfl⟩
            k_steps
            exact hq _ _ _ c6 (by assumption) (news_sub (by assumption) (by tb_start)) rfl (fun z h1 => if_neg h1) hv6
          · cases e
            revert N5
            refine hv5.inv (G := fun vs => News h₀ L h5 ((pb, tupO vs.toArray n5) :: X4) → _) ?_
            intro v6 us6 hv6 hvs6
            refine hvs6.inv (G := fun us => News h₀ L h5 ((pb, tupO (v6 :: us).toArray n5) :: X4) → _) ?_
            intro v7 us7 hv7 hvs7
            refine hvs7.inv (G := fun us => News h₀ L h5 ((pb, tupO (v6 :: v7 :: us).toArray n5) :: X4) → _) ?_
            intro v8 us8 hv8 hvs8 N5
            obtain ⟨c8, rfl⟩ : ∃ c, v8 = .ref c := by cases hv8; exact ⟨_, rfl⟩
            k_steps
            exact hq _ _ _ c8 (by assumption) (news_sub (by assumption) (by tb_start)) rfl (fun z h1 => if_neg h1) hv8
      clear F5 N5
      intro h6 tk6 m6 cp F6 N6 hm6 hz6 hT6
      have hf6 : m6 (Str.ofString "found") = some _ := (hz6 (Str.ofString "found") (by decide)).trans hf5
      dsimp only
      k_steps
      (unfold Hold; k_dflt (refine' use_RL (pn_spec w mean mg mb 0 _ _ _ _ (Names.sym 0 x) ?t99) ?B ?F ?X ?N ?T ?kq9 ?d ?u ?_; (case B => k_asm); (case F => k_asm); (case X => k_asm); (case N => k_asm); (case T => k_asm); (case kq9 => first | exact rfl | assumption); (case d => ktr_room); (case u => ktr_units)))
      (case t99 => ktn_open)
      intro b7 us7 n7 tl7 h7 tk7 hm7 hs7 ha7 F7 N7
      subst hX
      k_steps
      (unfold Hold; k_dflt (refine' call_put (n := n4) (found_off hoffD off4 ho4 ha7) (List.mem_cons_of_mem _ (List.mem_append_left _ hm7)) hs4 hs7 (by simp only [List.length_cons, List.length_nil]; omega) ?B ?F ?X ?N ?hs ?T ?kq9 ?d ?u ?_; (case B => k_asm); (case F => k_asm); (case X => k_asm); (case N => k_asm); (case T => k_asm); (case kq9 => first | exact rfl | assumption); (case d => ktr_room); (case u => ktr_units); (case hs => first | exact (fun _ h9 => h9) | exact (fun _ h9 => .tail _ (.tail _ h9)) | exact Cut.sub (by assumption) | tb_start)))
      intro us8 n8 h8 tk8 hs8 F8 N8
      rw [← putOnce_take1 hx] at hs8
      k_steps
      refine hend4 _ _ _ _ _ tl7 (by assumption) (by assumption) (fun z h1 h2 => ?_) ha7 hs8
      simp only [List.contains_cons, List.contains_nil, Bool.or_false, Bool.or_eq_false_iff, beq_eq_false_iff_ne, ne_eq] at h2
      rw [hz6 z h2.2, hz5 z h2.1]
    · intro mt us4 n4 tl4 h4 tk4 hm4 ha4 ho4 hs4 F4 N4
      clear lF lN
      rw [hlv, hlo, List.take_length] at hs4
      have hh4 : mt (Str.ofString "here") = some _ := (hm4 (Str.ofString "here") (by decide) rfl).trans hmc
      k_steps
      refine hend _ _ _ _ _ _ (putOnce g2 own) us4 n4 (tl4 ++ tl2) (by assumption) (news_sub (by assumption) ?_) (Nat.lt_succ_self _) rfl (fun z h1 h2 => ?_) hv3 ⟨ms3, hw3, ?_, ?_⟩ (Above.app (ha4.sub fun p hp => by simp [hp]) ha2) (Off.app ho4 ho2) hs4
      · intro p hp
        simp only [List.mem_cons, List.mem_append] at hp ⊢
        rcases hp with hp | (hp | hp) | hp <;> simp [hp]
      · simp only [List.contains_cons, List.contains_nil, Bool.or_false, Bool.or_eq_false_iff, beq_eq_false_iff_ne, ne_eq] at h2
        rw [if_neg h1]
        exact hm4 z h2.1 (by simp [h2])
      · rw [← putOnce_app]; exact hg2
      · have h1 := putOnce_length own g2
        have h2 : g2.length + (own.length + ms3.length) ≤ 1000 := by simpa using hz2
        omega
end
section
open LCg LCt
variable {prog : Program} {w : World} {A : Around} {E : Value → Shared → Prop} {s : Shared} {h₀ : Heap} {L : Addr} {m : Str → Option Value} {env : Env}
noncomputable def SrcTup (prog : Program) (w : World) (A : Around) (h₀ : Heap) (L : Addr) (m : Str → Option Value) (env : Env) (elt : PySem.Expr) (x : Str) (scope : Scope) (cl : List (Str × Addr)) (Fin : Shared → List Value → List (Addr × Obj) → Prop) (xv : Value) (s₁ : Shared) : Prop :=
  ∃ ax its k news, xv = .ref ax ∧ A.handled = none ∧ Fr h₀ L s₁.heap m ∧ News h₀ L s₁.heap news ∧ (ax, tupO its k) ∈ news ∧ its.size ≤ sizeLine ∧
    ∀ g : Heap, CompRest prog w A h₀ L m env elt x scope cl { s₁ with heap := g } (fun nw => (ax, tupO its k) ∈ nw) (fun i v => its[i]? = some v) (Fin { s₁ with heap := g }) its.size 0 [] news
theorem comp_tup {elt iter : PySem.Expr} {x : Str} {px : Pos} {scope : Scope} {cl : List (Str × Addr)} {pos : Pos} {Q : Value → Shared → Prop} (_F₀ : Fr h₀ L s.heap m)
    (hclos : closureFor scope env = pure cl) (hcell : ∀ y ∈ scope.names, y.2 ≠ .cell) (hkind : scope.kind = .function)
    (hnames : ∀ y ∈ scope.names, y.2 = .local → scope.names.lookup y.1 = some .local) (hx : scope.names.lookup x = some .local)
    (h : wpAny (model prog w) A (eval iter env) (fun v s₁ => Hold (SrcTup prog w A h₀ L m env elt x scope cl (fun s₂ => FinE h₀ L m s₂ Q) v s₁)) E s)
    (hs : ∀ x, foldedSetIterable iter env x = pure x) :
    wpAny (model prog w) A (eval (.ListComp elt [⟨.Name x px, iter, [], 0⟩] scope pos) env) Q E s := by
  rw [eval_ListComp]
  refine wpAny_comprehension_free (use := none) rfl hs hclos hkind hnames (wpAny_mono h (fun xv s₁ h₁ => ?_) fun _ _ e => e)
  (refine ex4 (h₁) ?_; (try clear h₁); intro ax its k news h9; refine an7 h9 ?_; clear h9; rintro rfl hh F N hm hsz R)
  have ht : s₁.heap.IsTuple ax its := ⟨_, (N _ hm).1, rfl, _, rfl⟩
  have hlt : ax < s₁.heap.objs.size := Heap.lt_size (N _ hm).1
  refine wpAny_pyIter_tuple ht ?_
  have up : ∀ b o, s₁.heap.get? b = some o → (s₁.heap.push { cls := .type "tuple_iterator", data := .fields #[.ref ax, .int 0 0] }).get? b = some o := fun b o e => Heap.get?_push_of_some _ e
  refine block_U (S := fun nw => (ax, tupO its k) ∈ nw) (Walks.tuple hh s₁.heap.objs.size ax (Nat.ne_of_lt hlt) its) hsz (fun i h st => by obtain ⟨o, e, _⟩ := st.1; exact ⟨o, e⟩)
    (fun i h h' o nw st e e' _ N' hS => ⟨by obtain ⟨o', q, r⟩ := st.1; rw [e] at q; cases q; exact ⟨o, e', r⟩, ⟨_, (N' _ hS).1, rfl, _, rfl⟩⟩)
    hcell hkind hx ⟨⟨_, Heap.get?_push_size _ rfl, rfl, rfl⟩, ⟨_, up _ _ (N _ hm).1, rfl, _, rfl⟩⟩ (fun b hb => ?_)
    (F.keeps up) (N.grown up) (Nat.ne_of_lt F.ns.lt) (next_is_new F) (fun p hp => Nat.ne_of_lt (Heap.lt_size (N p hp).1)) hm (R _) ?_
  · show b < (s₁.heap.push _).objs.size
    rw [Heap.size_push]
    rcases List.mem_cons.mp hb with rfl | hb
    · exact Nat.lt_succ_self _
    · rw [List.mem_singleton.mp hb]; exact Nat.lt_succ_of_lt hlt
  · intro D C h tk m' ys news' F' N' o1 hn hC₀ hD₀ hCL hDL hCD offC fin
    refine ⟨m', hn, fun h'' hs'' => fin D h'' tk (F'.change hs'' hCL hC₀) (fun p hp => ?_) o1⟩
    refine ⟨hs''.extBut _ _ ?_ (N' p hp).1, (N' p hp).2⟩
    rcases List.mem_cons.mp hp with rfl | hp
    · exact Ne.symm hCD
    · exact offC p hp
end
theorem one_spec (w : World) (mean mg mb) {src l : Addr} {o : Obj} {vs : List Value} {n : Nat} {R : List (Addr × Obj)} (hne : Off src R) (ho : SrcO o) (hl : (l, listOf vs.toArray n) ∈ R) (h0 : 0 < vs.length) (h8 : vs.length ≤ 8) :
    EndsS w mean mg mb 126 4 60 [.ref src, .ref l] src o R (fun o' tl r => SrcO o' ∧ tl = [] ∧ ∃ i : Nat, vs[i]? = some r) := by
  (k_dflt (refine' ends_fn ?zo ?zc ?zb ?zm ?zl ?z1 ?z2 ?z3 ?z4 ?_; (case zo => k_is); (case zc => k_is); (case zb => exact fun _ => BindsTo.of_eq rfl); (case zm => exact rfl); (case zl => exact locs rfl); (case z1 => exact rfl); (case z2 => exact rfl); (case z3 => exact rfl); (case z4 => decide); intro dp un gd outer A₀ base h₀ L g gn dr tk os Q B F X N T hd hu hret); k_steps)
  (unfold Hold; k_dflt (refine' call_take hne ho (by omega) (by omega) ?B ?F ?X ?N ?hs ?T ?kq9 ?d ?u ?_; (case B => k_asm); (case F => k_asm); (case X => k_asm); (case N => k_asm); (case T => k_asm); (case kq9 => first | exact rfl | assumption); (case d => ktr_room); (case u => ktr_units); (case hs => first | exact (fun _ h9 => h9) | exact (fun _ h9 => .tail _ (.tail _ h9)) | exact Cut.sub (by assumption) | tb_start)))
  intro o2 d td h2 tk2 ho2 hd0 hd1 F2 N2
  have hx : vs[d.toNat]? = some (vs[d.toNat]'(by omega)) := List.getElem?_eq_getElem _
  k_steps
  (refine Ret.fin hret (by assumption) (by assumption) ?_)
  exact ⟨o2, [], rfl, Above.nil, ho2, rfl, _, hx⟩
section
variable {w : World} {mean : ExcName → Option Value} {mg mb : Str → Option Value} {R news : List (Addr × Obj)}
  {dp un : Nat} {gd : Option (List Code)} {cn : Str} {cs : Scope} {a : Addr} {ccd : Value} {cl : List (Str × Addr)} {outer : List Env} {A₀ : Around} {base h₀ : Heap} {L : Addr} {m : Str → Option Value} {g : Heap} {gn : Array GenState} {dr : Drawn} {tk : Nat} {os : OsState}
  {Q E : Value → Shared → Prop}
theorem call_one {src l : Addr} {o : Obj} {vs : List Value} {n : Nat} (hne : Off src R) (ho : SrcO o) (hl : (l, listOf vs.toArray n) ∈ R) (h0 : 0 < vs.length) (h8 : vs.length ≤ 8) (B : Below A₀ base outer h₀) (F : Fr h₀ L g m) (X : (hd.heap_39 w.params).In h₀) (N : News h₀ L g news) (hs : ∀ p ∈ (src, o) :: R, p ∈ news) (T : Top hd.view_39 (looseW hd.view_39 []) mean mg mb h₀) (hk : cs.kind = .function) (hd' : dp + 4 < recursionLimit) (hu : un + 60 < cLine)
    (ret : ∀ o' (i : Nat) r h' tk', SrcO o' → vs[i]? = some r → Fr h₀ L h' m → News h₀ L h' ((src, o') :: R) → Q r ⟨h', gn, dr, tk', os⟩) : wpAny (model PySem.Challenge.rw_xm0685_01.row.prog w) (ktrTop dp un gd cn cs L a ccd cl outer) (call (.ref 126) [.ref src, .ref l]) Q E ⟨g, gn, dr, tk, os⟩ := by
  refine use_S (one_spec w mean mg mb hne ho hl h0 h8) B F X N hs T hk hd' hu ?_
  rintro r o' tl h' tk' ⟨ho', rfl, i, hi⟩ _ F' N'
  exact ret o' i r h' tk' ho' hi F' N'
end
theorem words_14 : hd.heap_39 = hd.heap_39 ∧ PySem.Challenge.rw_xm0685_01 = PySem.Challenge.rw_xm0685_01 := by
  k_fill
  (k_with "my compareOp In str ref" => (k_here; (with_reducible show wpAny _ _ (compareOp CmpOp.In (Value.str _ _) (Value.ref 57)) _ _ _); k_dflt (refine' in_K_tup (ys := [Str.ofString "=", Str.ofString "+=", Str.ofString "-=", Str.ofString "*=", Str.ofString "//=", Str.ofString "%=", Str.ofString "|=", Str.ofString "&="]) ?zF ?zX ?zl ?zs ?ze ?_; (case zF => k_asm); (case zX => k_asm); (case zl => k_is); (case zs => (repeat (first | exact StrsAre.nil | refine StrsAre.cons _ _ ?_))); (case ze => first | exact eq_tt rfl | exact eq_ff rfl | exact eq_ff (by assumption) | exact eq_tt (by assumption)))))
  (k_with "my compareOp In str ref" => (k_here; (with_reducible show wpAny _ _ (compareOp CmpOp.In (Value.str _ _) (Value.ref 58)) _ _ _); k_dflt (refine' in_K_tup (ys := [Str.ofString "function", Str.ofString "->", Str.ofString "do", Str.ofString "generated"]) ?zF ?zX ?zl ?zs ?ze ?_; (case zF => k_asm); (case zX => k_asm); (case zl => k_is); (case zs => (repeat (first | exact StrsAre.nil | refine StrsAre.cons _ _ ?_))); (case ze => first | exact eq_tt rfl | exact eq_ff rfl | exact eq_ff (by assumption) | exact eq_tt (by assumption)))))
  exact ⟨rfl, rfl⟩
section
theorem in_K_tup {prog : Program} {w : World} {A : Around} {E : Value → Shared → Prop} {s : Shared} {K : Frag} {g : Heap} {L a : Addr} {m : Str → Option Value} {its : List Value} {n : Nat} {ys : List Str} {k : Str} {t : Tok} {Q : Value → Shared → Prop}
    (F : Fr g L s.heap m) (X : K.In g) (hl : K.lookup a = some { cls := .type "tuple", data := .seq its.toArray n }) (hi : StrsAre its ys) {c : Bool} (e : ys.any (· == k) = c) (h : Q (.bool c) s) :
    wpAny (model prog w) A (compareOp .In (.str k t) (.ref a)) Q E s := in_tuple_strs ⟨_, F.keep _ _ (X _ _ hl), rfl, _, rfl⟩ hi (e ▸ h)
noncomputable def UPS : List Str := [Str.ofString "=", Str.ofString "+=", Str.ofString "-=", Str.ofString "*=", Str.ofString "//=", Str.ofString "%=", Str.ofString "|=", Str.ofString "&="]
noncomputable def FNS : List Str := [Str.ofString "function", Str.ofString "->", Str.ofString "do", Str.ofString "generated"]
noncomputable def GRS : List Str := [Str.ofString "local", Str.ofString "global", Str.ofString "const"]
theorem dn_place (w : World) (mean mg mb) (k : Nat) {t : Tree} {l : List Str} {a : Addr} {R : List (Addr × Obj)} (hn : Names 3 t l) (hU : (UPS.any (· == headOf t)) = false) (hF : (FNS.any (· == headOf t)) = false) (hG : (GRS.any (· == headOf t)) = false) (hT : TreeIn R (.ref a) t) :
    EndsR w mean mg mb 91 (4 * k + 20) (80 * k + 400) [.ref a] R (StrsOut l) := by
  unfold UPS at hU
  unfold FNS at hF
  unfold GRS at hG
  (k_dflt (refine' ends_fn ?zo ?zc ?zb ?zm ?zl ?z1 ?z2 ?z3 ?z4 ?_; (case zo => k_is); (case zc => k_is); (case zb => exact fun _ => BindsTo.of_eq rfl); (case zm => exact rfl); (case zl => exact locs rfl); (case z1 => exact rfl); (case z2 => exact rfl); (case z3 => exact rfl); (case z4 => decide); intro dp un gd outer A₀ base h₀ L g gn dr tk os Q B F X N T hd hu hret); k_steps)
  (unfold Hold; k_dflt (refine' use_RL (pn_spec w mean mg mb 3 _ _ _ _ hn ?t99) ?B ?F ?X ?N ?T ?kq9 ?d ?u ?_; (case B => k_asm); (case F => k_asm); (case X => k_asm); (case N => k_asm); (case T => k_asm); (case kq9 => first | exact rfl | assumption); (case d => ktr_room); (case u => ktr_units)))
  (case t99 => ktn_open)
  intro b2 vs2 n2 tl h2 tk2 hm2 hs2 ha F2 N2
  k_steps
  (refine Ret.finR hret (tl) (by assumption) (by assumption) (by tb_start) ?_ ?_)
  · tb_rel
  · exact ⟨b2, vs2, n2, rfl, hm2, hs2⟩
theorem dn_upd (w : World) (mean mg mb) (k : Nat) {sg : Str} {p q : Tree} {l : List Str} {a : Addr} {R : List (Addr × Obj)} (hn : Names 3 p l) (hU : (UPS.any (· == sg)) = true) (hT : TreeIn R (.ref a) (.expr sg [p, q])) :
    EndsR w mean mg mb 91 (4 * k + 20) (80 * k + 400) [.ref a] R (StrsOut l) := by
  unfold UPS at hU
  refine hT.inv ?_
  intro t u b n k' vs he hb hv
  revert hb
  refine hv.inv (G := fun vs => (b, tupO vs.toArray k') ∈ R → _) ?_
  intro v us hv hvs hb
  obtain ⟨c, rfl⟩ := names_ref hn hv
  (k_dflt (refine' ends_fn ?zo ?zc ?zb ?zm ?zl ?z1 ?z2 ?z3 ?z4 ?_; (case zo => k_is); (case zc => k_is); (case zb => exact fun _ => BindsTo.of_eq rfl); (case zm => exact rfl); (case zl => exact locs rfl); (case z1 => exact rfl); (case z2 => exact rfl); (case z3 => exact rfl); (case z4 => decide); intro dp un gd outer A₀ base h₀ L g gn dr tk os Q B F X N T hd hu hret); k_steps)
  (unfold Hold; k_dflt (refine' use_RL (pn_spec w mean mg mb 3 _ _ _ _ hn ?t99) ?B ?F ?X ?N ?T ?kq9 ?d ?u ?_; (case B => k_asm); (case F => k_asm); (case X => k_asm); (case N => k_asm); (case T => k_asm); (case kq9 => first | exact rfl | assumption); (case d => ktr_room); (case u => ktr_units)))
  (case t99 => ktn_open)
  intro b2 vs2 n2 tl h2 tk2 hm2 hs2 ha F2 N2
  k_steps
  (refine Ret.finR hret (tl) (by assumption) (by assumption) (by tb_start) ?_ ?_)
  · tb_rel
  · exact ⟨b2, vs2, n2, rfl, hm2, hs2⟩
noncomputable def nmL (nm : Str) : List Str := if nm == Str.ofString "" then [] else [nm]
theorem dn_fn (w : World) (mean mg mb) (k : Nat) {inner h q t : Tree} {nm : Str} {j : Nat} {ns : List Str} (hi : Inner inner nm) (hw : Wrapped inner j h ns) (ht : FnT h q t) {a : Addr} {R : List (Addr × Obj)} (hT : TreeIn R (.ref a) t) :
    EndsR w mean mg mb 91 (4 * k + 20) (80 * k + 400) [.ref a] R (StrsOut (nmL nm)) := by
  have hx : ∃ hh ps, t = .expr hh ps ∧ UPS.any (· == hh) = false ∧ FNS.any (· == hh) = true := by
    rcases ht with rfl | rfl
    · exact ⟨_, _, rfl, rfl, rfl⟩
    · exact ⟨_, _, rfl, rfl, rfl⟩
  obtain ⟨hh, ps, e, hU, hF⟩ := hx
  unfold UPS at hU
  unfold FNS at hF
  have hT2 : TreeIn R (.ref a) (.expr hh ps) := e ▸ hT
  unfold nmL
  cases hnm : (nm == Str.ofString "") with
  | true =>
    have hnm2 : (nm != Str.ofString "") = false := by simp [bne, hnm]
    (k_dflt (refine' ends_fn ?zo ?zc ?zb ?zm ?zl ?z1 ?z2 ?z3 ?z4 ?_; (case zo => k_is); (case zc => k_is); (case zb => exact fun _ => BindsTo.of_eq rfl); (case zm => exact rfl); (case zl => exact locs rfl); (case z1 => exact rfl); (case z2 => exact rfl); (case z3 => exact rfl); (case z4 => decide); intro dp un gd outer A₀ base h₀ L g gn dr tk os Q B F X N T hd hu hret); k_steps)
    (unfold Hold; k_dflt (refine' use_Rs (on_spec w mean mg mb hi hw ht hT) ?B ?F ?X ?N ?T ?kq9 ?d ?u ?_; (case B => k_asm); (case F => k_asm); (case X => k_asm); (case N => k_asm); (case T => k_asm); (case kq9 => first | exact rfl | assumption); (case d => ktr_room); (case u => ktr_units)))
    intro tkn h2 tk2 F2 N2
    k_steps
    (refine Ret.fin hret (by assumption) (by assumption) ?_)
    refine ⟨[_], rfl, ?_, _, [], _, rfl, .head _, .nil⟩
    tb_rel
  | false =>
    have hnm2 : (nm != Str.ofString "") = true := by simp [bne, hnm]
    (k_dflt (refine' ends_fn ?zo ?zc ?zb ?zm ?zl ?z1 ?z2 ?z3 ?z4 ?_; (case zo => k_is); (case zc => k_is); (case zb => exact fun _ => BindsTo.of_eq rfl); (case zm => exact rfl); (case zl => exact locs rfl); (case z1 => exact rfl); (case z2 => exact rfl); (case z3 => exact rfl); (case z4 => decide); intro dp un gd outer A₀ base h₀ L g gn dr tk os Q B F X N T hd hu hret); k_steps)
    (unfold Hold; k_dflt (refine' use_Rs (on_spec w mean mg mb hi hw ht hT) ?B ?F ?X ?N ?T ?kq9 ?d ?u ?_; (case B => k_asm); (case F => k_asm); (case X => k_asm); (case N => k_asm); (case T => k_asm); (case kq9 => first | exact rfl | assumption); (case d => ktr_room); (case u => ktr_units)))
    intro tkn h2 tk2 F2 N2
    k_steps
    (unfold Hold; k_dflt (refine' use_Rs (on_spec w mean mg mb hi hw ht hT) ?B ?F ?X ?N ?T ?kq9 ?d ?u ?_; (case B => k_asm); (case F => k_asm); (case X => k_asm); (case N => k_asm); (case T => k_asm); (case kq9 => first | exact rfl | assumption); (case d => ktr_room); (case u => ktr_units)))
    intro tkn3 h3 tk3 F3 N3
    k_steps
    (refine Ret.fin hret (by assumption) (by assumption) ?_)
    refine ⟨[_], rfl, ?_, _, _, _, rfl, .head _, .cons _ _ .nil⟩
    tb_rel
theorem dn_arrow (w : World) (mean mg mb) (k : Nat) {ps : List Tree} {a : Addr} {R : List (Addr × Obj)} (hT : TreeIn R (.ref a) (.expr (Str.ofString "->") ps)) :
    EndsR w mean mg mb 91 (4 * k + 20) (80 * k + 400) [.ref a] R (StrsOut []) := by
  (k_dflt (refine' ends_fn ?zo ?zc ?zb ?zm ?zl ?z1 ?z2 ?z3 ?z4 ?_; (case zo => k_is); (case zc => k_is); (case zb => exact fun _ => BindsTo.of_eq rfl); (case zm => exact rfl); (case zl => exact locs rfl); (case z1 => exact rfl); (case z2 => exact rfl); (case z3 => exact rfl); (case z4 => decide); intro dp un gd outer A₀ base h₀ L g gn dr tk os Q B F X N T hd hu hret); k_steps)
  (unfold Hold; k_dflt (refine' use_Rs (on_arrow w mean mg mb hT) ?B ?F ?X ?N ?T ?kq9 ?d ?u ?_; (case B => k_asm); (case F => k_asm); (case X => k_asm); (case N => k_asm); (case T => k_asm); (case kq9 => first | exact rfl | assumption); (case d => ktr_room); (case u => ktr_units)))
  intro tkn h2 tk2 F2 N2
  k_steps
  (refine Ret.fin hret (by assumption) (by assumption) ?_)
  refine ⟨[_], rfl, ?_, _, [], _, rfl, .head _, .nil⟩
  tb_rel
end
section
open LCg LCt
variable {prog : Program} {w : World} {A : Around} {E : Value → Shared → Prop} {R : Result → Shared → Prop} {s : Shared}
noncomputable abbrev gen2 (elt t0 iter0 t1 iter1 : PySem.Expr) (scope : Scope) (pos : Pos) : PySem.Expr := .ListComp elt [⟨t0, iter0, [], 0⟩, ⟨t1, iter1, [], 0⟩] scope pos
theorem turn_in (elt t0 iter0 t1 iter1 : PySem.Expr) (scope : Scope) (pos : Pos) (it acc : Value) (env : Env) :
    compTurn (gen2 elt t0 iter0 t1 iter1 scope pos) 1 it acc env = (do
      standAt iter1.pos
      match ← pyNext it with
      | none => pure (.done .next)
      | some v =>
        letOwnedTupleGo t1 it v
        assign t1 env v
        (do let _ ← call (.builtin "list.append") [acc, ← eval elt env])
        again (.compLoop (gen2 elt t0 iter0 t1 iter1 scope pos) 1 it acc env)) := by rfl
theorem turn_out (elt t0 iter0 t1 iter1 : PySem.Expr) (scope : Scope) (pos : Pos) (it acc : Value) (env : Env) :
    compTurn (gen2 elt t0 iter0 t1 iter1 scope pos) 0 it acc env = (do
      standAt iter0.pos
      match ← pyNext it with
      | none => pure (.done .next)
      | some v =>
        letOwnedTupleGo t0 it v
        assign t0 env v
        let x ← eval iter1 env
        standAt iter1.pos
        let x ← foldedSetIterable iter1 env x
        let _ ← runOwn (.compStart (gen2 elt t0 iter0 t1 iter1 scope pos) 1 (← holding [x] (pyIter x)) acc env) env
        again (.compLoop (gen2 elt t0 iter0 t1 iter1 scope pos) 0 it acc env)) := by rfl
theorem comp_in {elt t0 iter0 t1 iter1 : PySem.Expr} {scope : Scope} {pos : Pos} {it acc : Value} {env : Env} (I : Nat → Shared → Prop)
    (turn : ∀ n s, I n s → wpAny (model prog w) A (pyNext it) (fun r s₁ => match r with
      | none => R (.ok .next) s₁
      | some v => wpAny (model prog w) A (assign t1 env v) (fun _ s₂ => wpAny (model prog w) A (eval elt env) (fun x s₃ =>
          wpAny (model prog w) A (call (.builtin "list.append") [acc, x]) (fun _ s₄ => ∃ m, m < n ∧ I m s₄) (notedBy (model prog w) A env fun e s' => R (.error e) s') s₃)
          (notedBy (model prog w) A env fun e s' => R (.error e) s') s₂) (notedBy (model prog w) A env fun e s' => R (.error e) s') s₁) (notedBy (model prog w) A env fun e s' => R (.error e) s') s)
    (n : Nat) (h : I n s) (ht : ∀ v, letOwnedTupleGo t1 it v = pure ()) :
    codeAny (model prog w) A (.compLoop (gen2 elt t0 iter0 t1 iter1 scope pos) 1 it acc env) R s := by
  refine codeAny_loop rfl I (fun n s hI => ?_) n h
  show wpAny _ A ((compTurn (gen2 elt t0 iter0 t1 iter1 scope pos) 1 it acc env).onRaise (fun x => do noteFrame x env; theTreesLotGoes x)) _ _ s
  refine wpAny_noted ?_
  rw [turn_in]
  refine wpAny_bind (wpAny_standAt (wpAny_bind (wpAny_mono (turn n s hI) (fun r s₁ h₁ => ?_) fun _ _ h' => h')))
  cases r with
  | none => exact wpAny_pure h₁
  | some v =>
    refine wpAny_bind (wpAny_of_eq (ht v) ?_)
    exact wpAny_bind (wpAny_mono h₁ (fun _ s₂ h₂ => wpAny_bind (wpAny_bind (wpAny_mono h₂ (fun x s₃ h₃ => wpAny_bind (wpAny_mono h₃
      (fun _ s₄ h₄ => wpAny_pure (wpAny_pure ⟨rfl, h₄⟩)) fun _ _ h' => h')) fun _ _ h' => h'))) fun _ _ h' => h')
theorem comp_start1 {elt t0 iter0 t1 iter1 : PySem.Expr} {scope : Scope} {pos : Pos} {it acc : Value} {env : Env}
    (h0 : codeAny (model prog w) A (.compLoop (gen2 elt t0 iter0 t1 iter1 scope pos) 1 it acc env) R s)
    (h : wpAny (model prog w) A (pyIter it) (fun it' s' => codeAny (model prog w) A (.compLoop (gen2 elt t0 iter0 t1 iter1 scope pos) 1 it' acc env) R s')
      (notedBy (model prog w) A env fun x s' => R (.error x) s') s) :
    codeAny (model prog w) A (.compStart (gen2 elt t0 iter0 t1 iter1 scope pos) 1 it acc env) R s := by
  refine codeAny_of_tree ?_
  show wpAny _ _ ((compStart (gen2 elt t0 iter0 t1 iter1 scope pos) 1 it acc env).onRaise (fun x => do noteFrame x env; standAt theWindowsPlace)) _ _ s
  refine wpAny_notedAt ?_
  unfold compStart
  show wpAny _ _ (ask >>= _) _ _ s
  refine wpAny_bind (wpAny_askSetting (wpAny_ite ?_))
  split
  · first
      | exact wpAny_bind (wpAny_pure (wpAny_pure (And.intro rfl h0)))
      | exact wpAny_pure (And.intro rfl h0)
  · first
      | exact wpAny_bind (wpAny_rule (wpAny_bind (wpAny_standAt (wpAny_bind (wpAny_mono h (fun it' s' h' => wpAny_pure (And.intro rfl h')) fun _ _ x => x)))))
      | (refine wpAny_bind (wpAny_rule ?_); show wpAny _ _ (standAt iter1.pos >>= _) _ _ s; exact wpAny_bind (wpAny_standAt (wpAny_bind (wpAny_mono h (fun it' s' h' => wpAny_pure (And.intro rfl h')) fun _ _ x => x))))
theorem comp_out {elt t0 iter0 t1 iter1 : PySem.Expr} {scope : Scope} {pos : Pos} {it acc : Value} {env : Env} (I : Nat → Shared → Prop)
    (turn : ∀ n s, I n s → ∀ E : Value → Shared → Prop, wpAny (model prog w) A (pyNext it) (fun r s₁ => match r with
      | none => R (.ok .next) s₁
      | some v => wpAny (model prog w) A (assign t0 env v) (fun _ s₂ => wpAny (model prog w) A (eval iter1 env) (fun x s₃ =>
          wpAny (model prog w) A (pyIter x) (fun it1 s₄ => ∀ E' : Value → Shared → Prop, codeAny (model prog w) A (.compStart (gen2 elt t0 iter0 t1 iter1 scope pos) 1 it1 acc env) (fun r s₅ => match r with | .ok _ => ∃ m, m < n ∧ I m s₅ | .error e => E' e s₅) s₄) E s₃) E s₂) E s₁) E s)
    (n : Nat) (h : I n s) (ht : ∀ v, letOwnedTupleGo t0 it v = pure ()) (hs : ∀ x, foldedSetIterable iter1 env x = pure x) :
    codeAny (model prog w) A (.compLoop (gen2 elt t0 iter0 t1 iter1 scope pos) 0 it acc env) R s := by
  refine codeAny_loop rfl I (fun n s hI => ?_) n h
  show wpAny _ A ((compTurn (gen2 elt t0 iter0 t1 iter1 scope pos) 0 it acc env).onRaise (fun x => do noteFrame x env; theTreesLotGoes x)) _ _ s
  refine wpAny_noted ?_
  rw [turn_out]
  refine wpAny_bind (wpAny_standAt (wpAny_bind (wpAny_mono (turn n s hI _) (fun r s₁ h₁ => ?_) fun _ _ h' => h')))
  cases r with
  | none => exact wpAny_pure h₁
  | some v =>
    refine wpAny_bind (wpAny_of_eq (ht v) ?_)
    refine wpAny_bind (wpAny_mono h₁ (fun _ s₂ h₂ => wpAny_bind (wpAny_mono h₂ (fun x s₃ h₃ => wpAny_bind (wpAny_standAt (wpAny_bind (wpAny_of_eq (hs x) ?_)))) fun _ _ h' => h')) fun _ _ h' => h')
    refine wpAny_bind (wpAny_holding (wpAny_mono h₃ (fun it1 s₄ h₄ => ?_) fun _ _ h' => h'))
    refine wpAny_bind (wpAny_runOwn (codeAny_mono (h₄ (cameBackBy (model prog w) A env (notedBy (model prog w) A env fun e s' => R (.error e) s'))) fun r s₅ hr => ?_))
    cases r with
    | ok f => exact wpAny_pure ⟨rfl, hr⟩
    | error e => exact hr
end
section
open LCg LCt
variable {prog : Program} {w : World} {A : Around} {E : Value → Shared → Prop} {s : Shared} {h₀ : Heap} {L : Addr} {m : Str → Option Value} {env : Env}
structure C2 (h₀ : Heap) (L : Addr) (m : Str → Option Value) (C D I ax : Addr) (news : List (Addr × Obj)) (ys : List Value) (i : Nat) (h : Heap) : Prop where
  fr : Fr h₀ L h m
  nw : News h₀ L h ((D, lst ys) :: news)
  it : h.IsListIter I ax i
  ns : ∃ m', h.Ns C m'
theorem C2.but {C D I ax X : Addr} {news : List (Addr × Obj)} {ys : List Value} {i : Nat} {h h' : Heap} (c : C2 h₀ L m C D I ax news ys i h) (hk : ∀ b o, b ≠ X → h.get? b = some o → h'.get? b = some o)
    (hL : L ≠ X) (hX : h₀.get? X = none) (hD : D ≠ X) (hI : I ≠ X) (hC : C ≠ X) (hn : ∀ p ∈ news, p.1 ≠ X) : C2 h₀ L m C D I ax news ys i h' where
  fr := ⟨c.fr.ns.at' fun o e => hk L o hL e, fun b o e => hk b o (fun q => by rw [q, hX] at e; cases e) (c.fr.keep b o e), c.fr.above⟩
  nw := fun p hp => ⟨hk _ _ (by
    rcases List.mem_cons.mp hp with rfl | hp
    · exact hD
    · exact hn p hp) (c.nw p hp).1, (c.nw p hp).2⟩
  it := c.it.at fun o e => hk I o hI e
  ns := let ⟨m', x⟩ := c.ns; ⟨m', x.at' fun o e => hk C o hC e⟩
theorem C2.app {C D I ax : Addr} {news : List (Addr × Obj)} {ys : List Value} {y : Value} {i : Nat} {h h' : Heap} (c : C2 h₀ L m C D I ax news ys i h) (hs : Heap.SameBut D h h')
    (ho : h'.get? D = some { cls := .type "list", data := .seq (ys.toArray.push y) (ys.length + 1) }) (hL : L ≠ D) (hI : I ≠ D) (hC : C ≠ D) (hn : ∀ p ∈ news, p.1 ≠ D) : C2 h₀ L m C D I ax news (ys ++ [y]) i h' where
  fr := c.fr.change hs (Ne.symm hL) (c.nw _ (.head _)).2.2
  nw := fun p hp => by
    rcases List.mem_cons.mp hp with rfl | hp
    · exact ⟨ho.trans (congrArg some (lst_snoc ys y)), (c.nw _ (.head _)).2⟩
    · exact ⟨hs.extBut _ _ (hn p hp) (c.nw _ (.tail _ hp)).1, (c.nw _ (.tail _ hp)).2⟩
  it := c.it.at fun o e => hs.extBut _ _ hI e
  ns := let ⟨m', x⟩ := c.ns; ⟨m', x.at' fun o e => hs.extBut _ _ hC e⟩
theorem C2.next {C D I ax : Addr} {news : List (Addr × Obj)} {ys : List Value} {i j : Nat} {h h' : Heap} (c : C2 h₀ L m C D I ax news ys i h) (hk : ∀ b o, b ≠ I → h.get? b = some o → h'.get? b = some o) (it : h'.IsListIter I ax j)
    (hL : L ≠ I) (hX : h₀.get? I = none) (hD : D ≠ I) (hC : C ≠ I) (hn : ∀ p ∈ news, p.1 ≠ I) : C2 h₀ L m C D I ax news ys j h' where
  fr := ⟨c.fr.ns.at' fun o e => hk L o hL e, fun b o e => hk b o (fun q => by rw [q, hX] at e; cases e) (c.fr.keep b o e), c.fr.above⟩
  nw := fun p hp => ⟨hk _ _ (by
    rcases List.mem_cons.mp hp with rfl | hp
    · exact hD
    · exact hn p hp) (c.nw p hp).1, (c.nw p hp).2⟩
  it := it
  ns := let ⟨m', x⟩ := c.ns; ⟨m', x.at' fun o e => hk C o hC e⟩
theorem C2.done {C D I ax : Addr} {news : List (Addr × Obj)} {ys : List Value} {i : Nat} {h h' : Heap} (c : C2 h₀ L m C D I ax news ys i h) (hk : ∀ b o, b ≠ I → h.get? b = some o → h'.get? b = some o)
    (hL : L ≠ I) (hX : h₀.get? I = none) (hD : D ≠ I) (hC : C ≠ I) (hn : ∀ p ∈ news, p.1 ≠ I) : Fr h₀ L h' m ∧ News h₀ L h' ((D, lst ys) :: news) ∧ ∃ m', h'.Ns C m' :=
  ⟨⟨c.fr.ns.at' fun o e => hk L o hL e, fun b o e => hk b o (fun q => by rw [q, hX] at e; cases e) (c.fr.keep b o e), c.fr.above⟩,
   fun p hp => ⟨hk _ _ (by
    rcases List.mem_cons.mp hp with rfl | hp
    · exact hD
    · exact hn p hp) (c.nw p hp).1, (c.nw p hp).2⟩,
   let ⟨m', x⟩ := c.ns; ⟨m', x.at' fun o e => hk C o hC e⟩⟩
theorem C2.store {C D I ax : Addr} {news : List (Addr × Obj)} {ys : List Value} {i : Nat} {h h' : Heap} {m' : Str → Option Value} (c : C2 h₀ L m C D I ax news ys i h) (hs : Heap.SameBut C h h') (hn' : h'.Ns C m')
    (hL : L ≠ C) (hX : h₀.get? C = none) (hD : D ≠ C) (hI : I ≠ C) (hn : ∀ p ∈ news, p.1 ≠ C) : C2 h₀ L m C D I ax news ys i h' where
  fr := c.fr.change hs (Ne.symm hL) hX
  nw := fun p hp => ⟨hs.extBut _ _ (by
    rcases List.mem_cons.mp hp with rfl | hp
    · exact hD
    · exact hn p hp) (c.nw p hp).1, (c.nw p hp).2⟩
  it := c.it.at fun o e => hs.extBut _ _ hI e
  ns := ⟨m', hn'⟩
theorem C2.keep {C D I ax : Addr} {news : List (Addr × Obj)} {ys : List Value} {i : Nat} {h h' : Heap} (c : C2 h₀ L m C D I ax news ys i h) (hk : ∀ b o, h.get? b = some o → h'.get? b = some o) : C2 h₀ L m C D I ax news ys i h' where
  fr := ⟨c.fr.ns.at' fun o e => hk L o e, fun b o e => hk b o (c.fr.keep b o e), c.fr.above⟩
  nw := fun p hp => ⟨hk _ _ (c.nw p hp).1, (c.nw p hp).2⟩
  it := c.it.at fun o e => hk _ _ e
  ns := let ⟨m', x⟩ := c.ns; ⟨m', x.at' fun o e => hk C o e⟩
noncomputable def Iter1 (prog : Program) (w : World) (A : Around) (h₀ : Heap) (L : Addr) (m : Str → Option Value) (env : Env) (ex : PySem.Expr) (x : Str) (scope : Scope) (cl : List (Str × Addr)) (news : List (Addr × Obj)) (s₁ : Shared) (Is : Value → Value → Prop) : Prop :=
  ∀ (C : Addr) (oC : Obj) (m₂ : Str → Option Value) (v r : Value) (h : Heap) (tk : Tok) (E' : Value → Shared → Prop) (P : Value → Shared → Prop), Is v r → NsObj oC m₂ → m₂ x = some v → Fr h₀ L h m → News h₀ L h ((C, oC) :: news) →
    (∀ tk', P r { s₁ with heap := h, toks := tk' }) → wpAny (model prog w) A (eval ex (compEnvC scope cl C env)) P E' { s₁ with heap := h, toks := tk }
noncomputable def Src2 (prog : Program) (w : World) (A : Around) (h₀ : Heap) (L : Addr) (m : Str → Option Value) (env : Env) (elt iter1 : PySem.Expr) (x0 x1 : Str) (scope : Scope) (cl : List (Str × Addr)) (Q : Value → Shared → Prop) (xv : Value) (s₁ : Shared) : Prop :=
  ∃ (ax : Addr) (rows : List Value) (k : Nat) (news : List (Addr × Obj)) (vss : List (List Value)), xv = .ref ax ∧ A.handled = none ∧ Fr h₀ L s₁.heap m ∧ News h₀ L s₁.heap news ∧ (ax, listOf (List.toArray rows) k) ∈ news ∧
    (∀ (i : Nat) (v : Value), rows[i]? = some v → ∃ (t : Addr) (a : Value) (l : Addr) (n : Nat) (us : List Value) (c : Nat), v = .ref t ∧ (t, tupO #[a, .ref l] n) ∈ news ∧ (l, listOf (List.toArray us) c) ∈ news ∧ vss[i]? = some us) ∧ vss.length = rows.length ∧ vss.flatten.length ≤ sizeLine ∧
    Iter1 prog w A h₀ L m env iter1 x0 scope cl news s₁ (fun v r => ∃ (t : Addr) (a : Value) (n : Nat), v = .ref t ∧ (t, tupO #[a, r] n) ∈ news) ∧ Iter1 prog w A h₀ L m env elt x1 scope cl news s₁ (fun v r => v = r) ∧
    ∀ D h tk, Fr h₀ L h m → News h₀ L h ((D, lst vss.flatten) :: news) → (∀ p ∈ news, p.1 ≠ D) → Q (.ref D) { s₁ with heap := h, toks := tk }

theorem flat_take {vss : List (List Value)} {i : Nat} {us : List Value} (h : vss[i]? = some us) : (vss.take (i + 1)).flatten = (vss.take i).flatten ++ us := by
  rw [List.take_add_one, h]; simp
theorem flat_le {vss : List (List Value)} : ∀ {i : Nat} {us : List Value}, vss[i]? = some us → (vss.take i).flatten.length + us.length ≤ vss.flatten.length := by
  intro i us h
  have e : vss.flatten = ((vss.take (i + 1)) ++ (vss.drop (i + 1))).flatten := by rw [List.take_append_drop]
  rw [e, List.flatten_append, flat_take h]
  simp only [List.length_append]
  omega

theorem comp2 {elt iter0 iter1 : PySem.Expr} {x0 x1 : Str} {p0 p1 : Pos} {scope : Scope} {cl : List (Str × Addr)} {pos : Pos} {Q : Value → Shared → Prop} (_F₀ : Fr h₀ L s.heap m)
    (hclos : closureFor scope env = pure cl) (hcell : ∀ y ∈ scope.names, y.2 ≠ .cell) (hkind : scope.kind = .function)
    (hnames : ∀ y ∈ scope.names, y.2 = .local → scope.names.lookup y.1 = some .local) (hx0 : scope.names.lookup x0 = some .local) (hx1 : scope.names.lookup x1 = some .local)
    (h : wpAny (model prog w) A (eval iter0 env) (fun v s₁ => Hold (Src2 prog w A h₀ L m env elt iter1 x0 x1 scope cl Q v s₁)) E s)
    (hs : ∀ x, foldedSetIterable iter0 env x = pure x) (hs1 : ∀ env x, foldedSetIterable iter1 env x = pure x) :
    wpAny (model prog w) A (eval (.ListComp elt [⟨.Name x0 p0, iter0, [], 0⟩, ⟨.Name x1 p1, iter1, [], 0⟩] scope pos) env) Q E s := by
  rw [eval_ListComp]
  refine wpAny_comprehension_free (use := none) rfl hs hclos hkind hnames (wpAny_mono h (fun xv s₁ h₁ => ?_) fun _ _ e => e)
  (refine ex5 (h₁) ?_; (try clear h₁); intro ax rows k news vss h9; refine an11 h9 ?_; clear h9; rintro rfl hh F N hm hrow hlen hsz hIter hElt fin)
  have hl : s₁.heap.IsList ax rows.toArray := N.isList hm
  have hlt : ax < s₁.heap.objs.size := Heap.lt_size (N _ hm).1
  refine wpAny_pyIter_list hl ?_
  refine wpAny_newObj_type (wpAny_newFunctionEnv hcell (by intro y hy; simp at hy) (fun h₁ hns₁ hsb₁ => ?_) hkind)
  dsimp only at hns₁ hsb₁ ⊢
  generalize hH1 : s₁.heap.push { cls := .type "list_iterator", data := .fields #[.ref ax, .int 0 0] } = H1 at hns₁ hsb₁ ⊢
  generalize hH2 : H1.push { cls := .type "list", dict := none, data := .seq ([] : List Value).toArray } = H2 at hns₁ hsb₁ ⊢
  have e1 : H1.objs.size = s₁.heap.objs.size + 1 := by rw [← hH1, Heap.size_push]
  have e2 : H2.objs.size = s₁.heap.objs.size + 1 + 1 := by rw [← hH2, Heap.size_push, e1]
  have hI1 : H1.get? s₁.heap.objs.size = some { cls := .type "list_iterator", data := .fields #[.ref ax, .int 0 0] } := by rw [← hH1]; exact Heap.get?_push_size _ rfl
  have hD1 : H2.get? H1.objs.size = some (lst []) := by rw [← hH2]; exact Heap.get?_push_size _ rfl
  rw [e1] at hD1 ⊢
  rw [e2] at hns₁ hsb₁ ⊢
  generalize hI : s₁.heap.objs.size = I at *
  have hLlt : L < I := by rw [← hI]; exact F.ns.lt
  have nlt : ∀ p ∈ news, p.1 < I := fun p hp => by rw [← hI]; exact Heap.lt_size (N p hp).1
  have hnone : ∀ a, I ≤ a → h₀.get? a = none := fun a ha => by
    cases q : h₀.get? a with
    | none => rfl
    | some o => exact absurd (Heap.lt_size (F.keep _ _ q)) (by rw [hI]; exact Nat.not_lt.mpr ha)
  have up1 : ∀ b o, s₁.heap.get? b = some o → H1.get? b = some o := fun b o e => by rw [← hH1]; exact Heap.get?_push_of_some _ e
  have up2 : ∀ b o, H1.get? b = some o → H2.get? b = some o := fun b o e => by rw [← hH2]; exact Heap.get?_push_of_some _ e
  have old : ∀ b o, b < I → s₁.heap.get? b = some o → h₁.get? b = some o := fun b o hb e => hsb₁.extBut b o (neN (Nat.ne_of_lt (Nat.lt_succ_of_lt (Nat.lt_succ_of_lt hb)))) (Heap.get?_push_of_some _ (up2 _ _ (up1 _ _ e)))
  have hitI : h₁.IsListIter I ax 0 := by
    refine ⟨_, hsb₁.extBut I _ (neN (Nat.ne_of_lt (Nat.lt_succ_of_lt (Nat.lt_succ_self _)))) (Heap.get?_push_of_some _ (up2 _ _ (hI1))), rfl, rfl⟩
  have hacc : h₁.get? (I + 1) = some (lst []) := hsb₁.extBut _ _ (neN (Nat.ne_of_lt (Nat.lt_succ_self _))) (Heap.get?_push_of_some _ hD1)
  have c0 : C2 h₀ L m (I + 1 + 1) (I + 1) I ax news [] 0 h₁ := {
    fr := ⟨F.ns.at' fun o e => old L o hLlt e, fun b o e => old b o (by rw [← hI]; exact Heap.lt_size (F.keep b o e)) (F.keep b o e), F.above⟩
    nw := fun p hp => by
      rcases List.mem_cons.mp hp with rfl | hp
      · exact ⟨hacc, neN (Nat.ne_of_gt (Nat.lt_succ_of_lt hLlt)), hnone _ (Nat.le_succ I)⟩
      · exact ⟨old _ _ (nlt p hp) (N p hp).1, (N p hp).2⟩
    it := hitI
    ns := ⟨_, hns₁⟩ }
  have hrs : rows.toArray.size = rows.length := List.size_toArray
  have hLI : L ≠ I := neN (Nat.ne_of_lt hLlt)
  have hLD : L ≠ I + 1 := neN (Nat.ne_of_lt (Nat.lt_succ_of_lt hLlt))
  have hLC : L ≠ I + 1 + 1 := neN (Nat.ne_of_lt (Nat.lt_succ_of_lt (Nat.lt_succ_of_lt hLlt)))
  have hDI : I + 1 ≠ I := neN (Nat.succ_ne_self I)
  have hDC : I + 1 ≠ I + 1 + 1 := neN (Nat.ne_of_lt (Nat.lt_succ_self _))
  have hIC : I ≠ I + 1 + 1 := neN (Nat.ne_of_lt (Nat.lt_succ_of_lt (Nat.lt_succ_self _)))
  have nI : ∀ p ∈ news, p.1 ≠ I := fun p hp => neN (Nat.ne_of_lt (nlt p hp))
  have nD : ∀ p ∈ news, p.1 ≠ I + 1 := fun p hp => neN (Nat.ne_of_lt (Nat.lt_succ_of_lt (nlt p hp)))
  have nC : ∀ p ∈ news, p.1 ≠ I + 1 + 1 := fun p hp => neN (Nat.ne_of_lt (Nat.lt_succ_of_lt (Nat.lt_succ_of_lt (nlt p hp))))
  have zI := hnone I (Nat.le_refl I)
  have zC := hnone (I + 1 + 1) (Nat.le_trans (Nat.le_succ I) (Nat.le_succ _))
  have outer : ∀ s₃ : Shared, s₃ = { s₁ with heap := h₁, toks := s₁.toks + ([] : List (Str × Value)).length } →
      codeAny (model prog w) A (.compLoop (gen2 elt (.Name x0 p0) iter0 (.Name x1 p1) iter1 scope pos) 0 (.ref I) (.ref (I + 1)) (compEnvC scope cl (I + 1 + 1) env)) (compPost (model prog w) A E none Q (.ref (I + 1)) (I + 1 + 1)) s₃ := by
    rintro s₃ rfl
    refine comp_out (fun n s' => ∃ i h' tk, s' = { s₁ with heap := h', toks := tk } ∧ i ≤ rows.length ∧ n = rows.length + 1 - i ∧ C2 h₀ L m (I + 1 + 1) (I + 1) I ax news (vss.take i).flatten i h') ?_ (rows.length + 1) ⟨0, h₁, _, rfl, Nat.zero_le _, rfl, c0⟩ (fun _ => rfl) (fun _ => hs1 _ _)
    rintro n s' h8 E₁
    (refine ex3 (h8) ?_; (try clear h8); intro i h' tk h9; refine an4 h9 ?_; clear h9; rintro rfl hi rfl c)
    have W := Walks.list (prog := prog) (w := w) (A := A) hh I ax (neN (Nat.ne_of_lt hlt)) rows.toArray
    have hla : h'.IsList ax rows.toArray := ⟨_, (c.nw _ (.tail _ hm)).1, rfl, _, rfl⟩
    by_cases hir : i < rows.length
    · refine W.item i _ _ _ (by rw [hrs]; exact hir) ⟨c.it, hla⟩ fun v h₂ tk₂ hPv hst₂ hk₂ => ?_
      have hv : rows[i]? = some v := by simpa using hPv
      (refine ex6 (hrow i v hv) ?_; intro t a l n us cc h9; refine an4 h9 ?_; clear h9; rintro rfl ht hlu hus)
      have c₂ := c.next (fun b o hb e => hk₂ b o (by simpa using hb) e) hst₂.1 hLI zI hDI (Ne.symm hIC) nI
      obtain ⟨m₂, hm₂⟩ := c₂.ns
      refine wpAny_assign_Name (wpAny_storeName_local (lookup_relabel_local hx0) hm₂ (fun h₃ hn₃ hs₃ => ?_) (by simp [compEnvC, relabel, hkind]))
      have c₃ := c₂.store hs₃ hn₃ hLC zC hDC hIC nC
      obtain ⟨oC, heC, hoC⟩ := ns_obj hn₃
      refine hIter (I + 1 + 1) oC _ (.ref t) (.ref l) h₃ _ _ _ ⟨t, a, n, rfl, ht⟩ hoC (by simp) c₃.fr (fun p hp => ?_) fun tk₄ => ?_
      · rcases List.mem_cons.mp hp with rfl | hp
        · exact ⟨heC, Ne.symm hLC, zC⟩
        · exact c₃.nw _ (.tail _ hp)
      have hll : h₃.IsList l us.toArray := ⟨_, (c₃.nw _ (.tail _ hlu)).1, rfl, _, rfl⟩
      refine wpAny_pyIter_list hll fun E' => ?_
      have hLJ : L < h₃.objs.size := c₃.fr.ns.lt
      have hIJ : I < h₃.objs.size := by obtain ⟨o, e, _⟩ := c₃.it; exact Heap.lt_size e
      have hDJ : I + 1 < h₃.objs.size := Heap.lt_size (c₃.nw _ (.head _)).1
      have hCJ : I + 1 + 1 < h₃.objs.size := hn₃.lt
      have hnJ : ∀ p ∈ news, p.1 ≠ h₃.objs.size := fun p hp => neN (Nat.ne_of_lt (Heap.lt_size (c₃.nw _ (.tail _ hp)).1))
      have hlJ : l ≠ h₃.objs.size := hnJ _ hlu
      have zJ : h₀.get? h₃.objs.size = none := hnone _ (Nat.le_of_lt hIJ)
      have upJ : ∀ b o, h₃.get? b = some o → (h₃.push { cls := .type "list_iterator", data := .fields #[.ref l, .int 0 0] }).get? b = some o := fun b o e => Heap.get?_push_of_some _ e
      have c₄ := c₃.keep upJ
      have hitJ : (h₃.push { cls := .type "list_iterator", data := .fields #[.ref l, .int 0 0] }).IsListIter h₃.objs.size l 0 := ⟨_, Heap.get?_push_size _ rfl, rfl, rfl⟩
      have hus' : us.toArray.size = us.length := List.size_toArray
      have hfl := flat_le hus
      dsimp only
      generalize h₃.objs.size = J at *
      generalize h₃.push { cls := .type "list_iterator", data := .fields #[.ref l, .int 0 0] } = h₄ at *
      have inner : codeAny (model prog w) A (.compLoop (gen2 elt (.Name x0 p0) iter0 (.Name x1 p1) iter1 scope pos) 1 (.ref J) (.ref (I + 1)) (compEnvC scope cl (I + 1 + 1) env))
          (fun r s₅ => match r with | .ok _ => ∃ m_1, m_1 < rows.length + 1 - i ∧ (∃ i h' tk, s₅ = { s₁ with heap := h', toks := tk } ∧ i ≤ rows.length ∧ m_1 = rows.length + 1 - i ∧ C2 h₀ L m (I + 1 + 1) (I + 1) I ax news (vss.take i).flatten i h') | .error e => E' e s₅) { s₁ with heap := h₄, toks := tk₄ } := by
        refine comp_in (fun n s' => ∃ j h' tk, s' = { s₁ with heap := h', toks := tk } ∧ j ≤ us.length ∧ n = us.length + 1 - j ∧ C2 h₀ L m (I + 1 + 1) (I + 1) I ax news ((vss.take i).flatten ++ us.take j) (i + 1) h' ∧ h'.IsListIter J l j) ?_ (us.length + 1) ⟨0, h₄, tk₄, rfl, Nat.zero_le _, rfl, by simpa using c₄, hitJ⟩ (fun _ => rfl)
        rintro n' s' h8
        (refine ex3 (h8) ?_; (try clear h8); intro j h' tk' h9; refine an5 h9 ?_; clear h9; rintro rfl hj rfl c' hit')
        have W1 := Walks.list (prog := prog) (w := w) (A := A) hh J l hlJ us.toArray
        have hll' : h'.IsList l us.toArray := ⟨_, (c'.nw _ (.tail _ hlu)).1, rfl, _, rfl⟩
        by_cases hju : j < us.length
        · refine W1.item j _ _ _ (by rw [hus']; exact hju) ⟨hit', hll'⟩ fun y h₅ tk₅ hPy hst₅ hk₅ => ?_
          have hy : us[j]? = some y := by simpa using hPy
          have c₅ := c'.but (fun b o hb e => hk₅ b o (by simpa using hb) e) (neN (Nat.ne_of_lt hLJ)) zJ (neN (Nat.ne_of_lt hDJ)) (neN (Nat.ne_of_lt hIJ)) (neN (Nat.ne_of_lt hCJ)) hnJ
          obtain ⟨m₅, hm₅⟩ := c₅.ns
          refine wpAny_assign_Name (wpAny_storeName_local (lookup_relabel_local hx1) hm₅ (fun h₆ hn₆ hs₆ => ?_) (by simp [compEnvC, relabel, hkind]))
          have c₆ := c₅.store hs₆ hn₆ hLC zC hDC hIC nC
          have hit₆ : h₆.IsListIter J l (j + 1) := hst₅.1.at fun o e => hs₆.extBut _ _ (neN (Nat.ne_of_gt hCJ)) e
          obtain ⟨oC', heC', hoC'⟩ := ns_obj hn₆
          refine hElt (I + 1 + 1) oC' _ y y h₆ _ _ _ rfl hoC' (by simp) c₆.fr (fun p hp => ?_) fun tk₇ => ?_
          · rcases List.mem_cons.mp hp with rfl | hp
            · exact ⟨heC', Ne.symm hLC, zC⟩
            · exact c₆.nw _ (.tail _ hp)
          refine append_at (hsz := ?_) (c₆.nw _ (.head _)).1 fun h₈ hs₈ hD₈ => ?_
          rotate_left
          · rw [List.size_toArray, List.length_append, List.length_take]
            first | exact Nat.le_trans (Nat.le_trans (Nat.add_le_add_left (Nat.min_le_right _ _) _) hfl) hsz | exact Nat.le_trans (by omega) hsz
          · refine ⟨us.length + 1 - (j + 1), Nat.sub_lt_sub_left (Nat.lt_succ_of_lt hju) (Nat.lt_succ_self j), j + 1, h₈, tk₇, rfl, hju, rfl, ?_, hit₆.at fun o e => hs₈.extBut _ _ (neN (Nat.ne_of_gt hDJ)) e⟩
            have c₈ := c₆.app hs₈ hD₈ hLD (Ne.symm hDI) (Ne.symm hDC) nD
            rw [List.append_assoc] at c₈
            have e9 : us.take j ++ [y] = us.take (j + 1) := by rw [List.take_add_one, hy]; rfl
            rw [e9] at c₈
            exact c₈
        · obtain rfl : j = us.length := Nat.le_antisymm hj (Nat.not_lt.mp hju)
          refine W1.done _ _ _ (by rw [hus']; exact ⟨hit', hll'⟩) fun h₅ tk₅ hk₅ => ?_
          have c₅ := c'.but (fun b o hb e => hk₅ b o (by simpa using hb) e) (neN (Nat.ne_of_lt hLJ)) zJ (neN (Nat.ne_of_lt hDJ)) (neN (Nat.ne_of_lt hIJ)) (neN (Nat.ne_of_lt hCJ)) hnJ
          rw [List.take_length, ← flat_take hus] at c₅
          exact ⟨rows.length + 1 - (i + 1), Nat.sub_lt_sub_left (Nat.lt_succ_of_lt hir) (Nat.lt_succ_self i), i + 1, h₅, tk₅, rfl, hir, rfl, c₅⟩
      exact comp_start1 inner (wpAny_pyIter_listiter hitJ inner)
    · obtain rfl : i = rows.length := Nat.le_antisymm hi (Nat.not_lt.mp hir)
      refine W.done _ _ _ (by rw [hrs]; exact ⟨c.it, hla⟩) fun h₂ tk₂ hk₂ => ?_
      obtain ⟨F₂, N₂, m₂, hm₂⟩ := c.done (fun b o hb e => hk₂ b o (by simpa using hb) e) hLI zI hDI (Ne.symm hIC) nI
      rw [← hlen, List.take_length] at N₂
      refine ⟨m₂, hm₂, fun h'' hs'' => fin (I + 1) h'' tk₂ (F₂.change hs'' (Ne.symm hLC) zC) (fun p hp => ⟨hs''.extBut _ _ ?_ (N₂ p hp).1, (N₂ p hp).2⟩) nD⟩
      rcases List.mem_cons.mp hp with rfl | hp
      · exact hDC
      · exact nC p hp
  refine codeAny_compStart_list (rest := [⟨.Name x1 p1, iter1, [], 0⟩]) (outer _ rfl) ?_
  exact wpAny_pyIter_listiter hitI (outer _ rfl)
end
theorem words_17 : hd.heap_39 = hd.heap_39 ∧ PySem.Challenge.rw_xm0685_01 = PySem.Challenge.rw_xm0685_01 := by
  k_fill
  (k_with "my eval ListComp" => (k_here; k_dflt (refine comp_tup (_F₀ := by k_asm) (by with_unfolding_all rfl) (by decide) (by rfl) (by decide) (by rfl) ?_ (by intro _; rfl))))
  exact ⟨rfl, rfl⟩
section
open LCg LCt
variable {prog : Program} {w : World} {A : Around} {E : Value → Shared → Prop} {s₁ : Shared} {h₀ : Heap} {L : Addr} {m : Str → Option Value} {env : Env}
theorem ListsIn.mono {R R' : List (Addr × Obj)} {vs : List Value} {xss : List (List Str)} (h : ListsIn R vs xss) (k : ∀ p ∈ R, p ∈ R') : ListsIn R' vs xss :=
  ⟨h.1, fun i v hi => (h.2 i v hi).imp fun _ h => h.imp fun _ h => h.imp fun _ h => h.imp fun _ h => h.imp id (And.imp id (And.imp_left (k _)))⟩
theorem ListsIn.snoc {R : List (Addr × Obj)} {vs : List Value} {xss : List (List Str)} {b : Addr} {us : List Value} {n : Nat} {xs : List Str} (h : ListsIn R vs xss) (hm : (b, listOf (List.toArray us) n) ∈ R) (hs : StrsAre us xs) : ListsIn R (vs ++ [.ref b]) (xss ++ [xs]) := by
  refine ⟨by simp [h.1], fun i v hi => ?_⟩
  by_cases hlt : i < vs.length
  · rw [List.getElem?_append_left hlt] at hi
    obtain ⟨ys, b', us', n', a1, a2, a3, a4⟩ := h.2 i v hi
    exact ⟨ys, b', us', n', by rw [List.getElem?_append_left (by rw [← h.1]; exact hlt)]; exact a1, a2, a3, a4⟩
  · have e : i = vs.length := by
      have := (List.getElem?_eq_some_iff.mp hi).1
      simp at this; omega
    subst e
    simp at hi
    subst hi
    exact ⟨xs, b, us, n, by rw [h.1]; simp, rfl, hm, hs⟩
theorem src_lists {elt : PySem.Expr} {x : Str} {scope : Scope} {cl : List (Str × Addr)} {Fin : Shared → List Value → List (Addr × Obj) → Prop} {ax : Addr} {vs : List Value} {k : Nat} {R1 : List (Addr × Obj)} (ls : List (List Str))
    (hh : A.handled = none) (F : Fr h₀ L s₁.heap m) (N : News h₀ L s₁.heap R1) (hm : (ax, tupO vs.toArray k) ∈ R1) (hz : vs.length ≤ 1000) (hlen : vs.length = ls.length)
    (turn : ∀ (g : Heap) i v l ys tl I oI C oC D m₂ h tk (E' : Value → Shared → Prop), vs[i]? = some v → ls[i]? = some l → ListsIn (tl ++ R1) ys (ls.take i) → NsObj oC m₂ → m₂ x = some v → Fr h₀ L h m → News h₀ L h ((I, oI) :: (C, oC) :: (D, lst ys) :: (tl ++ R1)) →
      wpAny (model prog w) A (eval elt (compEnvC scope cl C env)) (fun y s₂ => ∃ h' tk' tl2 b us n, s₂ = { s₁ with heap := h', toks := tk' } ∧ y = .ref b ∧ Fr h₀ L h' m ∧ News h₀ L h' (tl2 ++ ((I, oI) :: (C, oC) :: (D, lst ys) :: (tl ++ R1))) ∧ Above ((I, oI) :: (C, oC) :: (D, lst ys) :: (tl ++ R1)) tl2 ∧ (b, listOf (List.toArray us) n) ∈ tl2 ∧ StrsAre us l) E' { s₁ with heap := h, toks := tk })
    (fin : ∀ (g : Heap) ys tl, ListsIn (tl ++ R1) ys ls → Fin { s₁ with heap := g } ys (tl ++ R1)) : SrcTup prog w A h₀ L m env elt x scope cl Fin (.ref ax) s₁ := by
  refine ⟨ax, vs.toArray, k, R1, rfl, hh, F, N, hm, by rw [sizeLine_num, List.size_toArray]; omega, fun g => ?_⟩
  refine comp_inv (fun i ys nx => ∃ tl, nx = tl ++ R1 ∧ ListsIn (tl ++ R1) ys (ls.take i)) ⟨[], rfl, ⟨by simp, fun i v hi => by simp at hi⟩⟩ ?_ ?_
  · rintro i v ys nx I oI C oC D m₂ h tk E' hin hP ⟨tl, rfl, hys⟩ hC hx F' N' off ne
    have hv : vs[i]? = some v := by simpa using hP
    have hil : i < ls.length := by rw [← hlen]; simpa using hin
    have hl : ls[i]? = some ls[i] := by simp [hil]
    refine wpAny_mono (turn g i v ls[i] ys tl I oI C oC D m₂ h tk E' hv hl hys hC hx F' N') (fun y s₂ hq => ?_) fun _ _ e => e
    (refine ex6 (hq) ?_; (try clear hq); intro h' tk' tl2 b us n h9; refine an7 h9 ?_; clear h9; rintro rfl rfl F2 N2 ha hmb hs)
    refine CompEnd.intro F2 N2 ((tl2 ++ tl) ++ R1) (fun p hp => ?_) (Off3'.to ⟨?_, ?_, ?_⟩) ?_ ⟨tl2 ++ tl, rfl, ?_⟩
    · simp only [List.mem_cons, List.mem_append] at hp ⊢
      rcases hp with h | h | h | (h | h) | h <;> simp [h]
    · rw [List.append_assoc]; exact Off.app (ha.off (.head _)) off.1
    · rw [List.append_assoc]; exact Off.app (ha.off (.tail _ (.head _))) off.2.1
    · rw [List.append_assoc]; exact Off.app (ha.off (.tail _ (.tail _ (.head _)))) off.2.2
    · exact List.mem_append_right _ hm
    · rw [List.take_add_one, hl]
      refine ListsIn.snoc (n := n) (hys.mono fun p hp => ?_) ?_ hs
      · rw [List.append_assoc]; exact List.mem_append_right _ hp
      · exact List.mem_append_left _ (List.mem_append_left _ hmb)
  · rintro ys nx ⟨tl, rfl, hys⟩
    rw [show vs.toArray.size = ls.length by rw [List.size_toArray]; exact hlen, List.take_length] at hys
    exact fin g ys tl hys
end
inductive Decl : Nat → Tree → List Str → Prop
  | place (k : Nat) (t : Tree) (l : List Str) : Names 3 t l → (UPS.any (· == headOf t)) = false → (FNS.any (· == headOf t)) = false → (GRS.any (· == headOf t)) = false → Decl k t l
  | upd (k : Nat) (sg : Str) (p q : Tree) (l : List Str) : Names 3 p l → (UPS.any (· == sg)) = true → Decl k (.expr sg [p, q]) l
  | fn (k : Nat) (inner h q : Tree) (nm : Str) (j : Nat) (ns : List Str) : Inner inner nm → Wrapped inner j h ns → Decl k (.expr (Str.ofString "function") [h, q]) (nmL nm)
  | gen (k : Nat) (inner h q : Tree) (nm : Str) (j : Nat) (ns : List Str) : Inner inner nm → Wrapped inner j h ns → Decl k (.expr (Str.ofString "generated") [.expr (Str.ofString "function") [h, q]]) (nmL nm)
  | arrow (k : Nat) (ps : List Tree) : Decl k (.expr (Str.ofString "->") ps) []
  | group (k : Nat) (g : Str) (ps : List Tree) (ls : List (List Str)) : (UPS.any (· == g)) = false → (FNS.any (· == g)) = false → (GRS.any (· == g)) = true → ps.length = ls.length → ps.length ≤ 100 → (∀ l ∈ ls, l.length ≤ 100) →
      (∀ (i : Nat) (p : Tree) (l : List Str), ps[i]? = some p → ls[i]? = some l → Decl k p l) → Decl (k + 1) (.expr g ps) (ls.foldl putOnce [])
theorem decl_ref {k : Nat} {p : Tree} {l : List Str} {R : List (Addr × Obj)} {v : Value} (hn : Decl k p l) (hv : TreeIn R v p) : ∃ c, v = .ref c := by
  cases hv with
  | str x t => cases hn with | place _ _ _ h => cases h
  | sym => exact ⟨_, rfl⟩
  | int => exact ⟨_, rfl⟩
  | expr => exact ⟨_, rfl⟩
noncomputable def DnSpec (w : World) (mean : ExcName → Option Value) (mg mb : Str → Option Value) (k : Nat) : Prop :=
  ∀ (t : Tree) (l : List Str) (a : Addr) (R : List (Addr × Obj)), Decl k t l → TreeIn R (.ref a) t →
    EndsR w mean mg mb 91 (4 * k + 20) (80 * k + 400) [.ref a] R (StrsOut l)
section
theorem dn_group (w : World) (mean mg mb) (k : Nat) (IH : DnSpec w mean mg mb k) {g : Str} {ps : List Tree} {ls : List (List Str)} {a : Addr} {R : List (Addr × Obj)} (hU : (UPS.any (· == g)) = false) (hF : (FNS.any (· == g)) = false) (hG : (GRS.any (· == g)) = true)
    (hlen : ps.length = ls.length) (hz : ps.length ≤ 100) (hzs : ∀ l ∈ ls, l.length ≤ 100) (hn : ∀ (i : Nat) (p : Tree) (l : List Str), ps[i]? = some p → ls[i]? = some l → Decl k p l) (hT : TreeIn R (.ref a) (.expr g ps)) :
    EndsR w mean mg mb 91 (4 * (k + 1) + 20) (80 * (k + 1) + 400) [.ref a] R (StrsOut (ls.foldl putOnce [])) := by
  unfold UPS at hU
  unfold FNS at hF
  unfold GRS at hG
  refine hT.inv ?_
  intro t u b n k' vs he hb hv
  have hlv := hv.length
  (k_dflt (refine' ends_fn ?zo ?zc ?zb ?zm ?zl ?z1 ?z2 ?z3 ?z4 ?_; (case zo => k_is); (case zc => k_is); (case zb => exact fun _ => BindsTo.of_eq rfl); (case zm => exact rfl); (case zl => exact locs rfl); (case z1 => exact rfl); (case z2 => exact rfl); (case z3 => exact rfl); (case z4 => decide); intro dp un gd outer A₀ base h₀ L g gn dr tk os Q B F X N T hd hu hret); k_steps)
  rename Fr _ _ _ _ => lF
  rename News _ _ _ _ => lN
  unfold Hold
  refine src_lists ls rfl lF lN (by kct_strs) (by omega) (by omega) ?_ ?_
  · intro g1 i v l ys tl I oI C oC D m₂ h2 tk2 E' hv2 hl hys hC hx F2 N2
    clear lF lN hret
    obtain ⟨p, hp, hvp⟩ := hv.at hv2
    have hd1 := hn i p l hp hl
    obtain ⟨c, rfl⟩ := decl_ref hd1 hvp
    k_steps
    (unfold Hold; k_dflt (refine' use_RL (IH _ _ _ _ hd1 ?t99) ?B ?F ?X ?N ?T ?kq9 ?d ?u ?_; (case B => k_asm); (case F => k_asm); (case X => k_asm); (case N => k_asm); (case T => k_asm); (case kq9 => first | exact rfl | assumption); (case d => ktr_room); (case u => ktr_units)))
    (case t99 => ktn_open)
    intro b2 us2 n2 tl2 h4 tk4 hm2 hs2 ha2 F4 N4
    exact ⟨_, _, tl2, b2, us2, n2, rfl, rfl, F4, N4, ha2, hm2, hs2⟩
  · intro g1 ys tl hys D h3 tk3 F3 N3 o1
    clear lF lN
    k_steps
    (unfold Hold; k_dflt (refine' use_RL (joined_spec w mean mg mb (.head _) (hys.mono (fun p hp => List.mem_cons_of_mem _ hp)) (by omega) hzs) ?B ?F ?X ?N ?T ?kq9 ?d ?u ?_; (case B => k_asm); (case F => k_asm); (case X => k_asm); (case N => k_asm); (case T => k_asm); (case kq9 => first | exact rfl | assumption); (case d => ktr_room); (case u => ktr_units)))
    intro b2 us2 n2 tl2 h4 tk4 hm2 hs2 ha2 F4 N4
    k_steps
    (refine Ret.finR hret (tl2) (by assumption) (by assumption) (by tb_start) ?_ ?_)
    · exact ha2.sub (by tb_start)
    · exact ⟨b2, us2, n2, rfl, hm2, hs2⟩
theorem dn_spec (w : World) (mean mg mb) : ∀ k, DnSpec w mean mg mb k := by
  intro k
  induction k with
  | zero =>
    intro t l a R hn hT
    cases hn with
    | place _ t l h1 h2 h3 h4 => exact dn_place w mean mg mb 0 h1 h2 h3 h4 hT
    | upd _ sg p q l h1 h2 => exact dn_upd w mean mg mb 0 h1 h2 hT
    | fn _ inner h q nm j ns h1 h2 => exact dn_fn w mean mg mb 0 h1 h2 (.inl rfl) hT
    | gen _ inner h q nm j ns h1 h2 => exact dn_fn w mean mg mb 0 h1 h2 (.inr rfl) hT
    | arrow _ ps => exact dn_arrow w mean mg mb 0 hT
  | succ k IH =>
    intro t l a R hn hT
    cases hn with
    | place _ t l h1 h2 h3 h4 => exact dn_place w mean mg mb (k + 1) h1 h2 h3 h4 hT
    | upd _ sg p q l h1 h2 => exact dn_upd w mean mg mb (k + 1) h1 h2 hT
    | fn _ inner h q nm j ns h1 h2 => exact dn_fn w mean mg mb (k + 1) h1 h2 (.inl rfl) hT
    | gen _ inner h q nm j ns h1 h2 => exact dn_fn w mean mg mb (k + 1) h1 h2 (.inr rfl) hT
    | arrow _ ps => exact dn_arrow w mean mg mb (k + 1) hT
    | group _ g ps ls h1 h2 h3 h4 h5 h6 h7 => exact dn_group w mean mg mb k IH h1 h2 h3 h4 h5 h6 h7 hT
end
noncomputable def ABC : List Str := [Str.ofString "a", Str.ofString "b", Str.ofString "c", Str.ofString "d", Str.ofString "e"]
structure PlaceOk (k : Nat) (t : Tree) (raw : List Str) : Prop where
  nms : Names (k + 1) t (putOnce [] raw)
  size : raw.length ≤ 4 ^ k
  abc : ∀ x ∈ raw, x ∈ ABC
  ups : (UPS.any (· == headOf t)) = false
  fns : (FNS.any (· == headOf t)) = false
  grs : (GRS.any (· == headOf t)) = false
structure PR where
  a : Addr
  v : Value
  t : Tree
  l : Addr
  us : List Value
  n : Nat
  c : Nat
  raw : List Str
structure PROk (k : Nat) (R : List (Addr × Obj)) (r : PR) : Prop where
  row : (r.a, tupO #[r.v, .ref r.l] r.n) ∈ R
  tree : TreeIn R r.v r.t
  list : (r.l, listOf r.us.toArray r.c) ∈ R
  txts : StrsAre r.us r.raw
  ok : PlaceOk k r.t r.raw
theorem PROk.mono {k : Nat} {R R' : List (Addr × Obj)} {r : PR} (h : PROk k R r) (s : ∀ p ∈ R, p ∈ R') : PROk k R' r := ⟨s _ h.row, h.tree.mono s, s _ h.list, h.txts, h.ok⟩
theorem put_snoc (a : List Str) (r : List Str) (y : Str) : putOnce a (r ++ [y]) = addOnce (putOnce a r) y := by simp [putOnce]
theorem put_put (a : List Str) (r : List Str) : putOnce a (putOnce [] r) = putOnce a r := by
  have key : ∀ (n : Nat) (r : List Str), r.length = n → putOnce a (putOnce [] r) = putOnce a r := by
    intro n
    induction n with
    | zero => intro r h; rw [List.length_eq_zero_iff.mp h]; rfl
    | succ n ih =>
      intro r h
      have hne : r ≠ [] := fun e => by rw [e] at h; cases h
      obtain ⟨r', y, rfl⟩ : ∃ r' y, r = r' ++ [y] := ⟨r.dropLast, r.getLast hne, (List.dropLast_concat_getLast hne).symm⟩
      have h' : r'.length = n := by simpa using h
      rw [put_snoc, put_snoc]
      have ih' := ih r' h'
      by_cases hy : ((putOnce [] r').any (· == y)) = true
      · rw [show addOnce (putOnce [] r') y = putOnce [] r' from by unfold addOnce; rw [if_pos hy], ih']
        unfold addOnce
        rw [if_pos (by rw [any_putOnce', ← any_putOnce r', hy, Bool.or_true])]
      · rw [show addOnce (putOnce [] r') y = putOnce [] r' ++ [y] from by unfold addOnce; rw [if_neg hy], put_snoc, ih']
  exact key _ r rfl
theorem put_mem {r : List Str} : ∀ {a : List Str} {x : Str}, x ∈ putOnce a r → x ∈ a ∨ x ∈ r := by
  induction r with
  | nil => intro a x h; exact .inl h
  | cons y r ih =>
    intro a x h
    rcases ih (a := addOnce a y) h with h | h
    · unfold addOnce at h
      split at h
      · exact .inl h
      · rcases List.mem_append.mp h with h | h
        · exact .inl h
        · exact .inr (by rw [List.mem_singleton.mp h]; exact .head _)
    · exact .inr (.tail _ h)
theorem putOnce_app2 (a xs ys : List Str) : putOnce a (xs ++ ys) = putOnce (putOnce a xs) ys := by simp [putOnce]
theorem fold_put (rs : List (List Str)) : ∀ a : List Str, (rs.map (putOnce [])).foldl putOnce a = putOnce a rs.flatten := by
  induction rs with
  | nil => intro a; rfl
  | cons r rs ih =>
    intro a
    rw [List.map_cons, List.foldl_cons, ih, put_put, List.flatten_cons, putOnce_app2]
theorem src_lt {src a : Addr} {o o' : Obj} {X R : List (Addr × Obj)} (h : ∀ p ∈ X, p.1 < a) (hm : (src, o') ∈ X) (hs : ∀ p ∈ R, p ∈ X) : ∀ q ∈ ((src, o) :: R), q.1 ≠ a := fun q hq => by
  rcases List.mem_cons.mp hq with rfl | hq
  · exact (Nat.ne_of_lt (h (src, o') hm) : src ≠ a)
  · exact Nat.ne_of_lt (h _ (hs _ hq))
theorem src_ne {src a : Addr} {o o' : Obj} {X R : List (Addr × Obj)} (h : ∀ p ∈ X, p.1 ≠ a) (hm : (src, o') ∈ X) (hs : ∀ p ∈ R, p ∈ X) : ∀ q ∈ ((src, o) :: R), q.1 ≠ a := fun q hq => by
  rcases List.mem_cons.mp hq with rfl | hq
  · exact (h (src, o') hm : src ≠ a)
  · exact h _ (hs _ hq)
theorem src_ab {src : Addr} {o o' : Obj} {X R tl : List (Addr × Obj)} (h : Above X tl) (hm : (src, o') ∈ X) (hs : ∀ p ∈ R, p ∈ X) : Above ((src, o) :: R) tl := fun q hq p hp => by
  rcases List.mem_cons.mp hq with rfl | hq
  · exact (h (src, o') hm p hp : src ≠ p.1)
  · exact h _ (hs _ hq) p hp
inductive Cut (src : Addr) (o : Obj) : List (Addr × Obj) → List (Addr × Obj) → Prop
  | here (X9 : List (Addr × Obj)) : Cut src o ((src, o) :: X9) X9
  | there (p9 : Addr × Obj) (X9 R9 : List (Addr × Obj)) : Cut src o X9 R9 → Cut src o (p9 :: X9) (p9 :: R9)
  | app (X9 Y9 R9 : List (Addr × Obj)) : Cut src o Y9 R9 → Cut src o (X9 ++ Y9) (X9 ++ R9)
theorem Cut.sub {src : Addr} {o : Obj} {X R : List (Addr × Obj)} (h : Cut src o X R) : ∀ p ∈ (src, o) :: R, p ∈ X := by
  induction h with
  | here => exact fun p h => h
  | there q X R _ ih =>
    intro p h
    rcases List.mem_cons.mp h with rfl | h
    · exact .tail _ (ih _ (.head _))
    · rcases List.mem_cons.mp h with rfl | h
      · exact .head _
      · exact .tail _ (ih _ (.tail _ h))
  | app X Y R _ ih =>
    intro p h
    rcases List.mem_cons.mp h with rfl | h
    · exact List.mem_append_right _ (ih _ (.head _))
    · rcases List.mem_append.mp h with h | h
      · exact List.mem_append_left _ h
      · exact List.mem_append_right _ (ih _ (.tail _ h))
theorem cut_of {src : Addr} {o : Obj} {h₀ h : Heap} {L : Addr} {X R : List (Addr × Obj)} (_ : News h₀ L h X) (c : Cut src o X R) : Cut src o X R := c
theorem cut_off {src : Addr} {o : Obj} {X R : List (Addr × Obj)} (_ : Cut src o X R) (c : Off src R) : Off src R := c
inductive Tail (R : List (Addr × Obj)) : List (Addr × Obj) → List (Addr × Obj) → Prop
  | here : Tail R R []
  | there (p9 : Addr × Obj) (X9 tl9 : List (Addr × Obj)) : Tail R X9 tl9 → Tail R (p9 :: X9) (p9 :: tl9)
  | app (X9 Y9 tl9 : List (Addr × Obj)) : Tail R Y9 tl9 → Tail R (X9 ++ Y9) (X9 ++ tl9)
theorem Tail.eq {R X tl : List (Addr × Obj)} (h : Tail R X tl) : X = tl ++ R := by
  induction h with
  | here => rfl
  | there p X tl _ ih => rw [ih]; rfl
  | app X Y tl _ ih => rw [ih, List.append_assoc]
theorem tail_of {src : Addr} {o : Obj} {X Y R tl : List (Addr × Obj)} (_ : Cut src o X Y) (t : Tail R Y tl) : Tail R Y tl := t
theorem fin_C {src : Addr} {o o' : Obj} {R X Y tl : List (Addr × Obj)} {Out : Obj → List (Addr × Obj) → Value → Prop} {h₀ h' : Heap} {L : Addr} {gn : Array GenState} {dr : Drawn} {os : OsState} {m : Str → Option Value} {Q : Flow → Shared → Prop} {r : Value} {tk' : Nat}
    (hret : Ret h₀ L gn dr os (OutS src o R Out) Q) (F : Fr h₀ L h' m) (N : News h₀ L h' X) (c : Cut src o' X Y) (t : Tail R Y tl) (ha : Above ((src, o) :: R) tl) (ho : Out o' tl r) : Q (.ret r) ⟨h', gn, dr, tk', os⟩ :=
  hret (.ret r) m ((src, o') :: (tl ++ R)) h' tk' ⟨o', tl, rfl, ha, ho⟩ F (news_sub N (by rw [← t.eq]; exact c.sub))
theorem pr_pick {k : Nat} {R' : List (Addr × Obj)} {vs : List Value} {ts : List Tree} {i : Nat} {r : Value} {a l : Addr} {n c : Nat} (hi : vs[i]? = some r) (hts : TreesIn R' vs ts) (hok : ∀ t ∈ ts, PlaceOk k t []) (row : (a, tupO #[r, .ref l] n) ∈ R') (list : (l, listOf #[] c) ∈ R') :
    ∃ pr : PR, Value.ref a = .ref pr.a ∧ PROk k R' pr := by
  obtain ⟨t, ht, hv⟩ := hts.at hi
  exact ⟨⟨a, r, t, l, [], n, c, []⟩, rfl, row, hv, list, .nil, hok t (List.mem_of_getElem? ht)⟩
theorem pok_sym (k : Nat) {x : Str} (h : x ∈ ABC) : PlaceOk k (.sym x) [x] :=
  ⟨.sym _ x, Nat.one_le_pow _ _ (by decide), fun y hy => by rw [List.mem_singleton.mp hy]; exact h, rfl, rfl, rfl⟩
theorem pok_of {k : Nat} {t q : Tree} {raw : List Str} (hn : Names k t (putOnce [] raw)) (hz : raw.length ≤ 4 ^ k) (ha : ∀ x ∈ raw, x ∈ ABC) : PlaceOk k (.expr (Str.ofString "::") [t, q]) raw :=
  ⟨.of _ _ _ _ hn, hz, ha, rfl, rfl, rfl⟩
theorem pok_none (k : Nat) {h : Str} {ps : List Tree} (hz : ps.length ≤ 1000) (h1 : (h == Str.ofString "...") = false) (h2 : (h == Str.ofString "tuple") = false) (h3 : (h == Str.ofString "::") = false ∨ ps.length ≠ 2)
    (h4 : (UPS.any (· == h)) = false) (h5 : (FNS.any (· == h)) = false) (h6 : (GRS.any (· == h)) = false) : PlaceOk k (.expr h ps) [] :=
  ⟨.none _ h ps hz h1 h2 h3, Nat.zero_le _, (fun _ h => nomatch h), h4, h5, h6⟩
theorem pok_int (k : Nat) (i : Int) : PlaceOk k (.int i) [] := ⟨.int _ i, Nat.zero_le _, (fun _ h => nomatch h), rfl, rfl, rfl⟩
theorem pok_dots {k : Nat} {t : Tree} {raw : List Str} (h : PlaceOk k t raw) : PlaceOk (k + 1) (.expr (Str.ofString "...") [t]) raw :=
  ⟨.dots _ _ [] _ (by decide) h.nms, Nat.le_trans h.size (Nat.pow_le_pow_right (by decide) (Nat.le_succ k)), h.abc, rfl, rfl, rfl⟩
theorem pok_in {k : Nat} {t q : Tree} {raw : List Str} (h : PlaceOk k t raw) : PlaceOk (k + 1) (.expr (Str.ofString "::") [t, q]) raw :=
  pok_of h.nms (Nat.le_trans h.size (Nat.pow_le_pow_right (by decide) (Nat.le_succ k))) h.abc
theorem pok_sub {k : Nat} {x : Str} {q : Tree} (h : x ∈ ABC) : PlaceOk k (.expr (Str.ofString "::") [.sym x, q]) [x] :=
  pok_of (.sym _ x) (Nat.one_le_pow _ _ (by decide)) fun y hy => by rw [List.mem_singleton.mp hy]; exact h
theorem none_ok (k : Nat) (x : Str) : ∀ t ∈ [Tree.expr (Str.ofString ".") [.sym x, .sym (Str.ofString "b")], .expr (Str.ofString "ref") [.sym x, .int 1], .expr (Str.ofString "::") [.sym x], .int 5], PlaceOk k t [] := by
  intro t ht
  simp only [List.mem_cons, List.not_mem_nil, or_false] at ht
  rcases ht with rfl | rfl | rfl | rfl
  · exact pok_none k (Nat.le_of_ble_eq_true rfl) rfl rfl (.inl rfl) rfl rfl rfl
  · exact pok_none k (Nat.le_of_ble_eq_true rfl) rfl rfl (.inl rfl) rfl rfl rfl
  · exact pok_none k (Nat.le_of_ble_eq_true rfl) rfl rfl (.inr (by simp)) rfl rfl rfl
  · exact pok_int k 5
theorem pr_mk {k : Nat} {R' : List (Addr × Obj)} {a : Addr} {v : Value} {t : Tree} {l : Addr} {us : List Value} {n c : Nat} {raw : List Str} (row : (a, tupO #[v, .ref l] n) ∈ R') (tree : TreeIn R' v t) (list : (l, listOf us.toArray c) ∈ R') (txts : StrsAre us raw) (ok : PlaceOk k t raw) :
    ∃ pr : PR, Value.ref a = .ref pr.a ∧ PROk k R' pr := ⟨⟨a, v, t, l, us, n, c, raw⟩, rfl, row, tree, list, txts, ok⟩
theorem abc_pick {tk : Tok} {i : Nat} {r : Value} (h : ([Value.str (Str.ofString "a") (tk), Value.str (Str.ofString "b") (tk + 1), Value.str (Str.ofString "c") (tk + 1 + 1), Value.str (Str.ofString "d") (tk + 1 + 1 + 1), Value.str (Str.ofString "e") (tk + 1 + 1 + 1 + 1)])[i]? = some r) : ∃ x t, r = .str x t ∧ x ∈ ABC :=
  strs_any (by repeat' first | exact StrsAre.nil | refine StrsAre.cons _ _ ?_) (List.mem_of_getElem? h)
section
open LCg LCt
variable {prog : Program} {w : World} {A : Around} {E : Value → Shared → Prop} {s : Shared} {h₀ : Heap} {L : Addr} {m : Str → Option Value} {env : Env}
theorem turns_core {elt : PySem.Expr} {x : Str} {scope : Scope} {cl : List (Str × Addr)} {S : List (Addr × Obj) → Prop} {P : Nat → Value → Prop} {Fin : List Value → List (Addr × Obj) → Prop} {src : Addr} {o : Obj} {R1 : List (Addr × Obj)} {n : Nat}
    (Row : Nat → List (Addr × Obj) → Value → Prop) (mono : ∀ i R R' v, (∀ p ∈ R, p ∈ R') → Row i R v → Row i R' v) (hS : ∀ o' tl, S ((src, o') :: (tl ++ R1))) (ho : SrcO o) (hoff : Off src R1)
    (turn : ∀ i v ys o1 tl I oI C oC D m₂ h tk (E' : Value → Shared → Prop), i < n → P i v → SrcO o1 → Off src ((I, oI) :: (C, oC) :: (D, lst ys) :: (tl ++ R1)) → NsObj oC m₂ → m₂ x = some v → Fr h₀ L h m → News h₀ L h ((src, o1) :: (I, oI) :: (C, oC) :: (D, lst ys) :: (tl ++ R1)) →
      wpAny (model prog w) A (eval elt (compEnvC scope cl C env)) (fun y s₂ => ∃ h' tk' o2 tl2, s₂ = { s with heap := h', toks := tk' } ∧ SrcO o2 ∧ Row i tl2 y ∧ Fr h₀ L h' m ∧ News h₀ L h' ((src, o2) :: (tl2 ++ (I, oI) :: (C, oC) :: (D, lst ys) :: (tl ++ R1))) ∧ Above ((src, o1) :: (I, oI) :: (C, oC) :: (D, lst ys) :: (tl ++ R1)) tl2) E' { s with heap := h, toks := tk })
    (fin : ∀ ys o' tl, SrcO o' → ys.length = n → Above ((src, o) :: R1) tl → (∀ i y, ys[i]? = some y → Row i tl y) → Fin ys ((src, o') :: (tl ++ R1))) :
    CompRest prog w A h₀ L m env elt x scope cl s S P Fin n 0 [] ((src, o) :: R1) := by
  refine comp_inv (fun i ys nx => ∃ o' tl, nx = (src, o') :: (tl ++ R1) ∧ SrcO o' ∧ ys.length = i ∧ Above ((src, o) :: R1) tl ∧ ∀ j y, ys[j]? = some y → Row j tl y) ⟨o, [], rfl, ho, rfl, Above.nil, fun j y h => by simp at h⟩ ?_ ?_
  · rintro i v ys nx I oI C oC D m₂ h tk E' hin hP ⟨o1, tl, rfl, ho1, hlen, hab, hrows⟩ hC hx F2 N2 off ne
    have hof : Off src ((I, oI) :: (C, oC) :: (D, lst ys) :: (tl ++ R1)) :=
      Off.cons (fun e => off.1 _ (.head _) e.symm) (Off.cons (fun e => off.2.1 _ (.head _) e.symm) (Off.cons (fun e => off.2.2 _ (.head _) e.symm) (Off.app (hab.off (.head _)) hoff)))
    refine wpAny_mono (turn i v ys o1 tl I oI C oC D m₂ h tk E' hin hP ho1 hof hC hx F2 (news_sub N2 fun p hp => ?_)) (fun y s₂ hq => ?_) fun _ _ e => e
    · simp only [List.mem_cons] at hp ⊢
      rcases hp with h | h | h | h | h <;> simp [h]
    (refine ex4 (hq) ?_; (try clear hq); intro h' tk' o2 tl2 h9; refine an6 h9 ?_; clear h9; rintro rfl ho2 hrow F3 N3 ha)
    refine CompEnd.intro F3 N3 ((src, o2) :: ((tl2 ++ tl) ++ R1)) (fun p hp => ?_) (Off3'.to ⟨?_, ?_, ?_⟩) (hS _ _) ⟨o2, tl2 ++ tl, rfl, ho2, by simp [hlen], ?_, ?_⟩
    · simp only [List.mem_cons, List.mem_append] at hp ⊢
      rcases hp with h | h | h | h | (h | h) | h <;> simp [h]
    · rw [List.append_assoc]
      exact Off.cons (off.1 (src, o1) (.head _) : src ≠ I) (Off.app (ha.off (.tail _ (.head _))) fun p hp => off.1 _ (.tail _ hp))
    · rw [List.append_assoc]
      exact Off.cons (off.2.1 (src, o1) (.head _) : src ≠ C) (Off.app (ha.off (.tail _ (.tail _ (.head _)))) fun p hp => off.2.1 _ (.tail _ hp))
    · rw [List.append_assoc]
      exact Off.cons (off.2.2 (src, o1) (.head _) : src ≠ D) (Off.app (ha.off (.tail _ (.tail _ (.tail _ (.head _))))) fun p hp => off.2.2 _ (.tail _ hp))
    · exact Above.app (src_ab ha (.head _) fun p hp => .tail _ (.tail _ (.tail _ (.tail _ (List.mem_append_right _ hp))))) hab
    · intro j z hz
      by_cases hlt : j < ys.length
      · rw [List.getElem?_append_left hlt] at hz
        exact mono _ _ _ _ (fun p hp => List.mem_append_right _ hp) (hrows j z hz)
      · have e : j = ys.length := by
          have := (List.getElem?_eq_some_iff.mp hz).1
          simp at this; omega
        subst e
        simp at hz
        subst hz
        rw [hlen]
        exact mono _ _ _ _ (fun p hp => List.mem_append_left _ hp) hrow
  · rintro ys nx ⟨o', tl, rfl, ho', hlen, hab, hrows⟩
    exact fin ys o' tl ho' hlen hab hrows
theorem src_range {elt : PySem.Expr} {x : Str} {scope : Scope} {cl : List (Str × Addr)} {Fin : Shared → List Value → List (Addr × Obj) → Prop} {r : Addr} {b : Int} {t u v : Tok} {src : Addr} {o : Obj} {X R1 : List (Addr × Obj)} {n : Nat}
    (Row : Nat → List (Addr × Obj) → Value → Prop) (mono : ∀ i R R' v, (∀ p ∈ R, p ∈ R') → Row i R v → Row i R' v) (hh : A.handled = none) (F : Fr h₀ L s.heap m) (N : News h₀ L s.heap X) (c : Cut src o X R1) (hr : IsRange s.heap r 0 b 1 t u v) (hb : b = (n : Int)) (hn : n ≤ 100) (ho : SrcO o) (hoff : Off src R1)
    (turn : ∀ (g : Heap) i ys o1 tl I oI C oC D m₂ h tk (E' : Value → Shared → Prop), i < n → SrcO o1 → Off src ((I, oI) :: (C, oC) :: (D, lst ys) :: (tl ++ R1)) → NsObj oC m₂ → Fr h₀ L h m → News h₀ L h ((src, o1) :: (I, oI) :: (C, oC) :: (D, lst ys) :: (tl ++ R1)) →
      wpAny (model prog w) A (eval elt (compEnvC scope cl C env)) (fun y s₂ => ∃ h' tk' o2 tl2, s₂ = { s with heap := h', toks := tk' } ∧ SrcO o2 ∧ Row i tl2 y ∧ Fr h₀ L h' m ∧ News h₀ L h' ((src, o2) :: (tl2 ++ (I, oI) :: (C, oC) :: (D, lst ys) :: (tl ++ R1))) ∧ Above ((src, o1) :: (I, oI) :: (C, oC) :: (D, lst ys) :: (tl ++ R1)) tl2) E' { s with heap := h, toks := tk })
    (fin : ∀ (g : Heap) ys o' tl, SrcO o' → ys.length = n → Above ((src, o) :: R1) tl → (∀ i y, ys[i]? = some y → Row i tl y) → Fin { s with heap := g } ys ((src, o') :: (tl ++ R1))) :
    CompSrc prog w A h₀ L m env elt x scope cl Fin (.ref r) s := by
  subst hb
  refine CompSrc.range (n := n) hh F (news_sub N c.sub) hr (small_one (by omega) (by omega) (by omega) (by omega)) (by rw [rangeSize_nat]; omega) (by rw [sizeLine_num]; omega) fun g => ?_
  exact turns_core Row mono (fun _ _ => trivial) ho hoff (fun i v ys o1 tl I oI C oC D m₂ h tk E' hi _ h1 h2 h3 _ h5 h6 => turn g i ys o1 tl I oI C oC D m₂ h tk E' hi h1 h2 h3 h5 h6) (fin g)
theorem src_each {elt : PySem.Expr} {x : Str} {scope : Scope} {cl : List (Str × Addr)} {Fin : Shared → List Value → List (Addr × Obj) → Prop} {ax : Addr} {vs : List Value} {k : Nat} {src : Addr} {o : Obj} {X R1 : List (Addr × Obj)}
    (Row : Nat → List (Addr × Obj) → Value → Prop) (mono : ∀ i R R' v, (∀ p ∈ R, p ∈ R') → Row i R v → Row i R' v) (hh : A.handled = none) (F : Fr h₀ L s.heap m) (N : News h₀ L s.heap X) (c : Cut src o X R1) (hm : (ax, listOf vs.toArray k) ∈ R1) (hz : vs.length ≤ 1000) (ho : SrcO o) (hoff : Off src R1)
    (turn : ∀ (g : Heap) i v ys o1 tl I oI C oC D m₂ h tk (E' : Value → Shared → Prop), vs[i]? = some v → SrcO o1 → Off src ((I, oI) :: (C, oC) :: (D, lst ys) :: (tl ++ R1)) → NsObj oC m₂ → m₂ x = some v → Fr h₀ L h m → News h₀ L h ((src, o1) :: (I, oI) :: (C, oC) :: (D, lst ys) :: (tl ++ R1)) →
      wpAny (model prog w) A (eval elt (compEnvC scope cl C env)) (fun y s₂ => ∃ h' tk' o2 tl2, s₂ = { s with heap := h', toks := tk' } ∧ SrcO o2 ∧ Row i tl2 y ∧ Fr h₀ L h' m ∧ News h₀ L h' ((src, o2) :: (tl2 ++ (I, oI) :: (C, oC) :: (D, lst ys) :: (tl ++ R1))) ∧ Above ((src, o1) :: (I, oI) :: (C, oC) :: (D, lst ys) :: (tl ++ R1)) tl2) E' { s with heap := h, toks := tk })
    (fin : ∀ (g : Heap) ys o' tl, SrcO o' → ys.length = vs.length → Above ((src, o) :: R1) tl → (∀ i y, ys[i]? = some y → Row i tl y) → Fin { s with heap := g } ys ((src, o') :: (tl ++ R1))) :
    CompSrc prog w A h₀ L m env elt x scope cl Fin (.ref ax) s := by
  refine CompSrc.ledger hh F (news_sub N c.sub) (.tail _ hm) (by rw [sizeLine_num, List.size_toArray]; omega) fun g => ?_
  refine turns_core Row mono (fun o' tl => .inr ⟨_, .tail _ (List.mem_append_right _ hm), rfl, _, rfl⟩) ho hoff (fun i v ys o1 tl I oI C oC D m₂ h tk E' hi hP h1 h2 h3 h4 h5 h6 => turn g i v ys o1 tl I oI C oC D m₂ h tk E' (by simpa using hP) h1 h2 h3 h4 h5 h6) fun ys o' tl h1 h2 => fin g ys o' tl h1 (by simpa using h2)
theorem src_reads {elt : PySem.Expr} {x : Str} {scope : Scope} {cl : List (Str × Addr)} {Fin : Shared → List Value → List (Addr × Obj) → Prop} {ax : Addr} {vs : List Value} {k : Nat} {X : List (Addr × Obj)} (us : List Value)
    (hh : A.handled = none) (F : Fr h₀ L s.heap m) (N : News h₀ L s.heap X) (hm : (ax, listOf vs.toArray k) ∈ X) (hz : vs.length ≤ 1000) (hlen : us.length = vs.length)
    (turn : ∀ (i : Nat) (v r : Value) (C : Addr) (oC : Obj) (m₂ : Str → Option Value) (h : Heap) (tk : Tok) (E' : Value → Shared → Prop) (P : Value → Shared → Prop), vs[i]? = some v → us[i]? = some r → NsObj oC m₂ → m₂ x = some v → Fr h₀ L h m → News h₀ L h ((C, oC) :: X) →
      (∀ tk', P r { s with heap := h, toks := tk' }) → wpAny (model prog w) A (eval elt (compEnvC scope cl C env)) P E' { s with heap := h, toks := tk })
    (fin : ∀ g : Heap, Fin { s with heap := g } us X) : CompSrc prog w A h₀ L m env elt x scope cl Fin (.ref ax) s := by
  refine CompSrc.ledger hh F N hm (by rw [sizeLine_num, List.size_toArray]; omega) fun g => ?_
  refine comp_inv (fun i ys nx => nx = X ∧ ys = us.take i) ⟨rfl, by simp⟩ ?_ ?_
  · rintro i v ys nx I oI C oC D m₂ h tk E' hin hP ⟨rfl, rfl⟩ hC hx F2 N2 off ne
    have hv : vs[i]? = some v := by simpa using hP
    have hi : i < us.length := by rw [hlen]; simpa using hin
    have hr : us[i]? = some us[i] := by simp [hi]
    refine turn i v us[i] C oC m₂ h tk E' _ hv hr hC hx F2 (news_sub N2 fun p hp => ?_) fun tk' => ?_
    · simp only [List.mem_cons] at hp ⊢
      rcases hp with h | h <;> simp [h]
    · refine CompEnd.intro F2 N2 nx (fun p hp => hp) off.to (.inr ⟨_, hm, rfl, _, rfl⟩) ⟨rfl, ?_⟩
      rw [List.take_add_one, hr]; rfl
  · rintro ys nx ⟨rfl, rfl⟩
    rw [show vs.toArray.size = us.length by rw [List.size_toArray]; exact hlen.symm, List.take_length]
    exact fin g
noncomputable def SrcU (prog : Program) (w : World) (A : Around) (h₀ : Heap) (L : Addr) (m : Str → Option Value) (env : Env) (elt : PySem.Expr) (x : Str) (scope : Scope) (cl : List (Str × Addr)) (Fin : Shared → List Value → List (Addr × Obj) → Prop) (xv : Value) (s₁ : Shared) : Prop := CompSrc prog w A h₀ L m env elt x scope cl Fin xv s₁
theorem comp_UK {elt iter : PySem.Expr} {x : Str} {px : Pos} {scope : Scope} {cl : List (Str × Addr)} {pos : Pos} {Q : Value → Shared → Prop} (F₀ : Fr h₀ L s.heap m)
    (hclos : closureFor scope env = pure cl) (hcell : ∀ y ∈ scope.names, y.2 ≠ .cell) (hkind : scope.kind = .function)
    (hnames : ∀ y ∈ scope.names, y.2 = .local → scope.names.lookup y.1 = some .local) (hx : scope.names.lookup x = some .local)
    (h : wpAny (model prog w) A (eval iter env) (fun v s₁ => Hold (SrcU prog w A h₀ L m env elt x scope cl (fun s₂ => FinE h₀ L m s₂ Q) v s₁)) E s)
    (hs : ∀ x, foldedSetIterable iter env x = pure x) :
    wpAny (model prog w) A (eval (.ListComp elt [⟨.Name x px, iter, [], 0⟩] scope pos) env) Q E s := ListComp_U F₀ hclos hcell hkind hnames hx h hs
theorem assign_UH {elt iter : PySem.Expr} {x y : Str} {px py : Pos} {scope : Scope} {cl : List (Str × Addr)} {pos spos : Pos} {Q : Flow → Shared → Prop} (F₀ : Fr h₀ L s.heap m) (hLe : env.locals = L)
    (hsw : swapsWith (.ListComp elt [⟨.Name x px, iter, [], 0⟩] scope pos) (some (.Name y py)) spos.line env = pure true)
    (hclos : closureFor scope env = pure cl) (hcell : ∀ z ∈ scope.names, z.2 ≠ .cell) (hkind : scope.kind = .function)
    (hnames : ∀ z ∈ scope.names, z.2 = .local → scope.names.lookup z.1 = some .local) (hx : scope.names.lookup x = some .local)
    (hy : env.kindOf y = some .local) (hp : (env.scope.kind == .class || (env.scope.kind == .module && env.locals != env.globals)) = false)
    (h : wpAny (model prog w) A (eval iter env) (fun v s₁ => Hold (SrcU prog w A h₀ L m env elt x scope cl (fun s₂ => FinA h₀ L m s₂ y Q) v s₁)) E s)
    (hs : ∀ x, foldedSetIterable iter env x = pure x) :
    wpAny (model prog w) A (exec (.Assign [.Name y py] (.ListComp elt [⟨.Name x px, iter, [], 0⟩] scope pos) spos) env) Q E s := Assign_ListComp_U F₀ hLe hsw hclos hcell hkind hnames hx hy hp h hs
end
theorem news_two {h₀ h : Heap} {L : Addr} {X : List (Addr × Obj)} (p q : Addr × Obj) (N : News h₀ L h X) (hp : p ∈ X) (hq : q ∈ X) : News h₀ L h (p :: q :: X) := news_sub N fun r hr => by
  rcases List.mem_cons.mp hr with rfl | hr
  · exact hp
  · rcases List.mem_cons.mp hr with rfl | hr
    · exact hq
    · exact hr
theorem rows_list {k : Nat} {Z : List (Addr × Obj)} : ∀ {ys : List Value}, (∀ (i : Nat) (y : Value), ys[i]? = some y → ∃ pr : PR, y = .ref pr.a ∧ PROk k Z pr) → ∃ prs : List PR, ys = prs.map (fun r => Value.ref r.a) ∧ ∀ r ∈ prs, PROk k Z r
  | [], _ => ⟨[], rfl, fun _ h => nomatch h⟩
  | y :: ys, h => by
    obtain ⟨pr, e, hp⟩ := h 0 y rfl
    obtain ⟨prs, e2, hps⟩ := rows_list (ys := ys) fun i z hz => h (i + 1) z (by simpa using hz)
    refine ⟨pr :: prs, by rw [e, e2]; rfl, fun r hr => ?_⟩
    rcases List.mem_cons.mp hr with rfl | hr
    · exact hp
    · exact hps r hr
theorem rows_trees {k : Nat} {Z : List (Addr × Obj)} : ∀ {prs : List PR}, (∀ r ∈ prs, PROk k Z r) → TreesIn Z (prs.map (·.v)) (prs.map (·.t))
  | [], _ => .nil
  | r :: prs, h => .cons _ _ _ _ (h r (.head _)).tree (rows_trees fun q hq => h q (.tail _ hq))
theorem rows_strs {k : Nat} {Z : List (Addr × Obj)} : ∀ {prs : List PR}, (∀ r ∈ prs, PROk k Z r) → StrsAre (prs.map (·.us)).flatten (prs.map (·.raw)).flatten
  | [], _ => .nil
  | r :: prs, h => by
    rw [List.map_cons, List.map_cons, List.flatten_cons, List.flatten_cons]
    exact StrsAre.append' (h r (.head _)).txts (rows_strs fun q hq => h q (.tail _ hq))
theorem rows_size {k : Nat} {Z : List (Addr × Obj)} : ∀ {prs : List PR}, (∀ r ∈ prs, PROk k Z r) → (prs.map (·.raw)).flatten.length ≤ prs.length * 4 ^ k
  | [], _ => Nat.zero_le _
  | r :: prs, h => by
    have h1 := (h r (.head _)).ok.size
    have h2 := rows_size (prs := prs) fun q hq => h q (.tail _ hq)
    rw [List.map_cons, List.flatten_cons, List.length_append, List.length_cons, Nat.add_mul]
    omega
theorem pok_tup {k : Nat} {Z : List (Addr × Obj)} {prs : List PR} (h : ∀ r ∈ prs, PROk k Z r) (hz : prs.length ≤ 4) (hk : k ≤ 3) : PlaceOk (k + 1) (.expr (Str.ofString "tuple") (prs.map (·.t))) (prs.map (·.raw)).flatten := by
  have h64 : 4 ^ k ≤ 64 := Nat.le_trans (Nat.pow_le_pow_right (by decide) hk) (by decide)
  refine ⟨?_, ?_, ?_, rfl, rfl, rfl⟩
  · rw [← fold_put]
    refine Names.tup (k + 1) _ _ (by simp) (by simp; omega) ?_ ?_
    · intro l hl
      simp only [List.map_map, List.mem_map] at hl
      obtain ⟨r, hr, rfl⟩ := hl
      have h1 := (h r hr).ok.size
      have h2 := putOnce_length r.raw ([] : List Str)
      simp at h2 ⊢
      omega
    · intro i p l hp hl
      simp only [List.getElem?_map, Option.map_eq_some_iff] at hp hl
      obtain ⟨r, hr, rfl⟩ := hp
      obtain ⟨q, ⟨r', hr', rfl⟩, rfl⟩ := hl
      rw [hr] at hr'
      cases hr'
      exact (h r (List.mem_of_getElem? hr)).ok.nms
  · have h1 := rows_size h
    have h2 : prs.length * 4 ^ k ≤ 4 * 4 ^ k := Nat.mul_le_mul_right _ hz
    rw [Nat.pow_succ]
    omega
  · intro x hx
    obtain ⟨l, hl, hx⟩ := List.mem_flatten.mp hx
    obtain ⟨r, hr, rfl⟩ := List.mem_map.mp hl
    exact (h r hr).ok.abc x hx
theorem words_18z : hd.heap_39 = hd.heap_39 ∧ PySem.Challenge.rw_xm0685_01 = PySem.Challenge.rw_xm0685_01 := by
  k_fill
  exact ⟨rfl, rfl⟩
structure BC (w : World) (mean : ExcName → Option Value) (mg mb : Str → Option Value) (dp un : Nat) (cn : Str) (cs : Scope) (L a : Addr) (ccd : Value) (cl : List (Str × Addr)) (outer : List Env) (A₀ : Around) (base h₀ : Heap) : Prop where
  B : Below A₀ base outer h₀
  X : (hd.heap_39 w.params).In h₀
  T : Top hd.view_39 (looseW hd.view_39 []) mean mg mb h₀
  hk : cs.kind = .function
  hd' : dp + 2 < recursionLimit
  hu : un + 20 < cLine
section
variable (w : World) (dp un : Nat) (gd : Option (List Code)) (cn : Str) (cs : Scope) (L a : Addr) (ccd : Value) (cl : List (Str × Addr)) (outer : List Env) (h₀ : Heap) (m : Str → Option Value) (R : List (Addr × Obj))
structure Bld (e : PySem.Expr) (P : List (Addr × Obj) → Value → Prop) : Prop where
  plain : ∀ rest, starEach (e :: rest) (envX cn cs L a ccd cl) = (false, eval e (envX cn cs L a ccd cl)) :: starEach rest (envX cn cs L a ccd cl)
  run : ∀ (g : Heap) (gn : Array GenState) (dr : Drawn) (t : Nat) (os : OsState) (X : List (Addr × Obj)) (Q E : Value → Shared → Prop), Fr h₀ L g m → News h₀ L g X → (∀ p ∈ R, p ∈ X) →
    (∀ v tl h' tk', P (tl ++ R) v → Above X tl → Fr h₀ L h' m → News h₀ L h' (tl ++ X) → Q v ⟨h', gn, dr, tk', os⟩) →
    wpAny (model PySem.Challenge.rw_xm0685_01.row.prog w) (ktrTop dp un gd cn cs L a ccd cl outer) (eval e (envX cn cs L a ccd cl)) Q E ⟨g, gn, dr, t, os⟩
noncomputable def BldS (es : List PySem.Expr) (ts : List Tree) : Prop :=
  ∀ (g : Heap) (gn : Array GenState) (dr : Drawn) (t : Nat) (os : OsState) (X : List (Addr × Obj)) (pos : Pos) (Q : List Value → Shared → Prop) (E : Value → Shared → Prop), Fr h₀ L g m → News h₀ L g X → (∀ p ∈ R, p ∈ X) →
    (∀ vs tl h' tk', TreesIn (tl ++ R) vs ts → Above X tl → Fr h₀ L h' m → News h₀ L h' (tl ++ X) → Q vs ⟨h', gn, dr, tk', os⟩) →
    wpAny (model PySem.Challenge.rw_xm0685_01.row.prog w) (ktrTop dp un gd cn cs L a ccd cl outer) (spliced (backTo pos (starEach es (envX cn cs L a ccd cl)))) Q E ⟨g, gn, dr, t, os⟩
end
noncomputable def strP (x : Str) : List (Addr × Obj) → Value → Prop := fun _ v => ∃ tk, v = .str x tk
noncomputable def treeP (t : Tree) : List (Addr × Obj) → Value → Prop := fun Z v => ∃ c, v = .ref c ∧ TreeIn Z (.ref c) t
noncomputable def listP (ts : List Tree) : List (Addr × Obj) → Value → Prop := fun Z v => ∃ l vs n, v = .ref l ∧ (l, listOf (List.toArray vs) n) ∈ Z ∧ TreesIn Z vs ts
section
variable {w : World} {mean : ExcName → Option Value} {mg mb : Str → Option Value} {dp un : Nat} {gd : Option (List Code)} {cn : Str} {cs : Scope} {L a : Addr} {ccd : Value} {cl : List (Str × Addr)} {outer : List Env} {A₀ : Around} {base h₀ : Heap} {m : Str → Option Value} {R : List (Addr × Obj)}
theorem bld_const {x : Str} {k : Nat} {pos : Pos} : Bld w dp un gd cn cs L a ccd cl outer h₀ m R (.Constant (.str x) k pos) (strP x) :=
  ⟨fun _ => rfl, fun g gn dr t os X Q E F N hs ret => Constant_str (ret _ [] _ _ ⟨_, rfl⟩ Above.nil F N)⟩
theorem bld_name {y : Str} {pos : Pos} {v : Value} {P : List (Addr × Obj) → Value → Prop} (hv : m y = some v) (hP : P R v) (hk : cs.kind = .function) (hl : (envX cn cs L a ccd cl).kindOf y = some .local) (hd : (y == ("__debug__" : Str)) = false) : Bld w dp un gd cn cs L a ccd cl outer h₀ m R (.Name y pos) P :=
  ⟨fun _ => rfl, fun g gn dr t os X Q E F N hs ret => nameX_L F hv (ret _ [] _ _ hP Above.nil F N) hk hl hd⟩
theorem blds_nil : BldS w dp un gd cn cs L a ccd cl outer h₀ m R [] [] := fun g gn dr t os X pos Q E F N hs ret => args_nil (ret [] [] _ _ .nil Above.nil F N)
theorem blds_cons {e : PySem.Expr} {es : List PySem.Expr} {t : Tree} {ts : List Tree} (b : Bld w dp un gd cn cs L a ccd cl outer h₀ m R e (treeP t)) (bs : BldS w dp un gd cn cs L a ccd cl outer h₀ m R es ts) : BldS w dp un gd cn cs L a ccd cl outer h₀ m R (e :: es) (t :: ts) := by
  intro g gn dr t os X pos Q E F N hs ret
  refine args_cons ?_ (b.plain es)
  refine b.run g gn dr t os X _ _ F N hs ?_
  rintro v tl h' tk' ⟨c, rfl, hT⟩ ha F' N'
  refine bs h' gn dr tk' os (tl ++ X) pos _ _ F' N' (fun p hp => List.mem_append_right _ (hs p hp)) ?_
  intro vs tl2 h2 tk2 hts ha2 F2 N2
  refine ret (.ref c :: vs) (tl2 ++ tl) h2 tk2 (.cons _ _ _ _ (hT.lift fun p hp => ?_) (hts.mono fun p hp => ?_)) (Above.app (ha2.sub fun p hp => List.mem_append_right _ hp) ha) F2 (by rw [List.append_assoc]; exact N2)
  · rw [List.append_assoc]; exact List.mem_append_right _ hp
  · rcases List.mem_append.mp hp with hp | hp
    · exact List.mem_append_left _ (List.mem_append_left _ hp)
    · exact List.mem_append_right _ hp
theorem bld_list {es : List PySem.Expr} {ts : List Tree} {pos : Pos} (bs : BldS w dp un gd cn cs L a ccd cl outer h₀ m R es ts) (hz : ts.length ≤ 16384) : Bld w dp un gd cn cs L a ccd cl outer h₀ m R (.List es pos) (listP ts) := by
  refine ⟨fun _ => rfl, fun g gn dr t os X Q E F N hs ret => List_ (bs g gn dr t os X pos _ _ F N hs ?_)⟩
  intro vs tl h' tk' hts ha F' N'
  refine new_list F' N' (by rw [hts.length, sizeLine_num]; omega) (fun l h2 F2 N2 l1 => ret _ ((l, listOf vs.toArray 0) :: tl) h2 _ ⟨l, vs, 0, rfl, .head _, hts.mono fun p hp => List.mem_cons_of_mem _ hp⟩ ?_ F2 N2)
  exact Above.cons (fun q hq => Nat.ne_of_lt (l1 q (List.mem_append_right _ hq))) ha
theorem bld_sym {e : PySem.Expr} {x : Str} {p pos : Pos} (c : BC w mean mg mb dp un cn cs L a ccd cl outer A₀ base h₀) (hx : (envX cn cs L a ccd cl).kindOf (Str.ofString "sym") = some .globalImplicit)
    (b : Bld w dp un gd cn cs L a ccd cl outer h₀ m R e (strP x)) : Bld w dp un gd cn cs L a ccd cl outer h₀ m R (.Call (.Name (Str.ofString "sym") p) [e] [] pos) (treeP (.sym x)) := by
  refine ⟨fun _ => rfl, fun g gn dr t os X Q E F N hs ret => ?_⟩
  have T := c.T
  have hX := c.X
  revert hX
  k_fill
  intro hX
  refine Call_ ?_
  refine nameX_K (K := hd.heap_39 w.params) (v := .ref 28) F hX (by k_asm) (by k_is) ?_ c.hk hx (by decide)
  refine callWith_K hX (by k_is) ?_ (b.plain []) rfl
  refine args_cons ?_ (b.plain [])
  refine b.run g gn dr t os X _ _ F N hs ?_
  rintro v tl h' tk' ⟨tx, rfl⟩ ha F' N'
  refine args_nil ⟨fun a o e => F'.keep _ _ (hX a o e), ?_⟩
  refine use_R1 (sym_spec _ _ _ _) c.B F' hX N' T c.hk c.hd' c.hu ?_
  intro b2 t2 h2 tk2 F2 N2 l2
  refine ret _ ((b2, _) :: tl) h2 tk2 ⟨b2, rfl, .sym _ _ _ _ _ (.head _)⟩ (Above.cons (fun q hq => l2 q (List.mem_append_right _ hq)) ha) F2 N2
theorem bld_int {k : Int} {q1 q2 pos : Pos} {j1 j2 j : Nat} : Bld w dp un gd cn cs L a ccd cl outer h₀ m R (.Tuple [.Constant (.str (Str.ofString "int")) j1 q1, .Constant (.int k) j2 q2] j pos) (treeP (.int k)) := by
  refine ⟨fun _ => rfl, fun g gn dr t os X Q E F N hs ret => ?_⟩
  refine Tuple_ (args_cons (Constant_str (args_cons (wpAny_Constant_int (args_nil ?_)) rfl)) rfl)
  refine new_tup F N (show 2 ≤ sizeLine by decide) (fun l h2 F2 N2 l1 => ret _ [(l, _)] h2 _ ⟨l, rfl, .int _ _ _ _ _ (.head _)⟩ ?_ F2 N2)
  exact Above.cons (fun q hq => Nat.ne_of_lt (l1 q hq)) Above.nil
theorem bld_expr {e1 e2 : PySem.Expr} {x : Str} {ts : List Tree} {p pos : Pos} (c : BC w mean mg mb dp un cn cs L a ccd cl outer A₀ base h₀) (hx : (envX cn cs L a ccd cl).kindOf (Str.ofString "expr") = some .globalImplicit)
    (b1 : Bld w dp un gd cn cs L a ccd cl outer h₀ m R e1 (strP x)) (b2 : Bld w dp un gd cn cs L a ccd cl outer h₀ m R e2 (listP ts)) (hz : ts.length ≤ 16384) : Bld w dp un gd cn cs L a ccd cl outer h₀ m R (.Call (.Name (Str.ofString "expr") p) [e1, e2] [] pos) (treeP (.expr x ts)) := by
  refine ⟨fun _ => rfl, fun g gn dr t os X Q E F N hs ret => ?_⟩
  have T := c.T
  have hX := c.X
  revert hX
  k_fill
  intro hX
  refine Call_ ?_
  refine nameX_K (K := hd.heap_39 w.params) (v := .ref 21) F hX (by k_asm) (by k_is) ?_ c.hk hx (by decide)
  refine callWith_K hX (by k_is) ?_ (b1.plain [e2]) (by rw [b2.plain []]; rfl)
  refine args_cons ?_ (b1.plain [e2])
  refine b1.run g gn dr t os X _ _ F N hs ?_
  rintro v tl h' tk' ⟨tx, rfl⟩ ha F' N'
  refine args_cons ?_ (b2.plain [])
  refine b2.run h' gn dr tk' os (tl ++ X) _ _ F' N' (fun p hp => List.mem_append_right _ (hs p hp)) ?_
  rintro v tl2 h2 tk2 ⟨l, vs, n, rfl, hl, hts⟩ ha2 F2 N2
  refine args_nil ⟨fun a o e => F2.keep _ _ (hX a o e), ?_⟩
  have hl2 : (l, listOf (List.toArray vs) n) ∈ tl2 ++ (tl ++ X) := (List.mem_append.mp hl).elim (fun h => List.mem_append_left _ h) fun h => List.mem_append_right _ (List.mem_append_right _ (hs _ h))
  refine use_R2 (expr_spec _ _ _ _ hl2 (by rw [hts.length]; exact hz)) c.B F2 hX N2 T c.hk c.hd' c.hu ?_
  intro b3 c3 t3 h3 tk3 F3 N3 l2 l3
  refine ret _ ((b3, _) :: (c3, _) :: (tl2 ++ tl)) h3 tk3 ⟨b3, rfl, .expr _ _ _ _ _ _ _ _ _ (.head _) (.tail _ (.head _)) (hts.mono fun p hp => ?_)⟩ ?_ F3 (by simpa only [List.cons_append, List.append_assoc] using N3)
  · rcases List.mem_append.mp hp with hp | hp
    · exact .tail _ (.tail _ (List.mem_append_left _ (List.mem_append_left _ hp)))
    · exact .tail _ (.tail _ (List.mem_append_right _ hp))
  · exact Above.cons (fun q hq => l2 q (List.mem_append_right _ (List.mem_append_right _ hq))) (Above.cons (fun q hq => l3 q (List.mem_append_right _ (List.mem_append_right _ hq))) (Above.app (ha2.sub fun p hp => List.mem_append_right _ hp) ha))
theorem bld_run {e : PySem.Expr} {t : Tree} {g : Heap} {gn : Array GenState} {dr : Drawn} {tk : Nat} {os : OsState} {X : List (Addr × Obj)} {Q E : Value → Shared → Prop} (F : Fr h₀ L g m) (N : News h₀ L g X) (c : BC w mean mg mb dp un cn cs L a ccd cl outer A₀ base h₀) (b : BC w mean mg mb dp un cn cs L a ccd cl outer A₀ base h₀ → Bld w dp un gd cn cs L a ccd cl outer h₀ m R e (treeP t)) (hs : ∀ p ∈ R, p ∈ X)
    (ret : ∀ c tl h' tk', TreeIn (tl ++ R) (.ref c) t → Above X tl → Fr h₀ L h' m → News h₀ L h' (tl ++ X) → Q (.ref c) ⟨h', gn, dr, tk', os⟩) :
    wpAny (model PySem.Challenge.rw_xm0685_01.row.prog w) (ktrTop dp un gd cn cs L a ccd cl outer) (eval e (envX cn cs L a ccd cl)) Q E ⟨g, gn, dr, tk, os⟩ := by
  refine (b c).run g gn dr tk os X Q E F N hs ?_
  rintro v tl h' tk' ⟨d, rfl, hT⟩ ha F' N'
  exact ret d tl h' tk' hT ha F' N'
theorem bld_runT {e : PySem.Expr} {t : Tree} {g : Heap} {gn : Array GenState} {dr : Drawn} {tk : Nat} {os : OsState} {X : List (Addr × Obj)} {Q E : Value → Shared → Prop} {v0 : Value} {t0 : Tree} (_ : TreeIn R v0 t0) (F : Fr h₀ L g m) (N : News h₀ L g X) (c : BC w mean mg mb dp un cn cs L a ccd cl outer A₀ base h₀) (b : BC w mean mg mb dp un cn cs L a ccd cl outer A₀ base h₀ → Bld w dp un gd cn cs L a ccd cl outer h₀ m R e (treeP t)) (hs : ∀ p ∈ R, p ∈ X)
    (ret : ∀ c tl h' tk', TreeIn (tl ++ R) (.ref c) t → Above X tl → Fr h₀ L h' m → News h₀ L h' (tl ++ X) → Q (.ref c) ⟨h', gn, dr, tk', os⟩) :
    wpAny (model PySem.Challenge.rw_xm0685_01.row.prog w) (ktrTop dp un gd cn cs L a ccd cl outer) (eval e (envX cn cs L a ccd cl)) Q E ⟨g, gn, dr, tk, os⟩ := by
  refine (b c).run g gn dr tk os X Q E F N hs ?_
  rintro v tl h' tk' ⟨d, rfl, hT⟩ ha F' N'
  exact ret d tl h' tk' hT ha F' N'
theorem bld_runL {es : List PySem.Expr} {ts : List Tree} {pos : Pos} {g : Heap} {gn : Array GenState} {dr : Drawn} {tk : Nat} {os : OsState} {X : List (Addr × Obj)} {Q E : Value → Shared → Prop} (F : Fr h₀ L g m) (N : News h₀ L g X) (c : BC w mean mg mb dp un cn cs L a ccd cl outer A₀ base h₀) (b : BC w mean mg mb dp un cn cs L a ccd cl outer A₀ base h₀ → BldS w dp un gd cn cs L a ccd cl outer h₀ m R es ts) (hs : ∀ p ∈ R, p ∈ X) (hz : Nat.ble ts.length 16384 = true)
    (ret : ∀ l vs tl h' tk', vs.length = ts.length → TreesIn (tl ++ R) vs ts → (∀ p ∈ X, p.1 ≠ l) → Above X tl → Fr h₀ L h' m → News h₀ L h' ((l, listOf (List.toArray vs) 0) :: (tl ++ X)) → Q (.ref l) ⟨h', gn, dr, tk', os⟩) :
    wpAny (model PySem.Challenge.rw_xm0685_01.row.prog w) (ktrTop dp un gd cn cs L a ccd cl outer) (eval (.List es pos) (envX cn cs L a ccd cl)) Q E ⟨g, gn, dr, tk, os⟩ := by
  refine List_ ((b c) g gn dr tk os X pos _ _ F N hs ?_)
  intro vs tl h' tk' hts ha F' N'
  refine new_list F' N' (by rw [hts.length, sizeLine_num]; have := Nat.le_of_ble_eq_true hz; omega) fun l h2 F2 N2 l1 => ret l vs tl h2 _ hts.length hts (fun q hq => Nat.ne_of_lt (l1 q (List.mem_append_right _ hq))) ha F2 N2
end
section
variable {prog : Program} {w : World} {A : Around} {E : Value → Shared → Prop} {h₀ : Heap} {L : Addr} {m : Str → Option Value} {news : List (Addr × Obj)} {g : Heap} {gn : Array GenState} {dr : Drawn} {t : Nat} {os : OsState}
theorem add_led {a b : Addr} {vs us : List Value} {n k : Nat} {Q : Value → Shared → Prop} (F : Fr h₀ L g m) (N : News h₀ L g news) (ha : (a, listOf vs.toArray n) ∈ news) (hb : (b, listOf us.toArray k) ∈ news) (hz : vs.length + us.length ≤ 100000)
    (h : ∀ D h', Fr h₀ L h' m → News h₀ L h' ((D, listOf (vs ++ us).toArray 0) :: news) → (∀ p ∈ news, p.1 < D) → Q (.ref D) ⟨h', gn, dr, t, os⟩) : wpAny (model prog w) A (binaryOp .Add (.ref a) (.ref b)) Q E ⟨g, gn, dr, t, os⟩ :=
  kmk_add_lit (s := ⟨g, gn, dr, t, os⟩) F N (N.isList ha) (N.isList hb) rfl h (by simp only [sizeLine_num]; simpa using (by omega : vs.length + us.length ≤ 16777216))
end
theorem el_fin {src : Addr} {o : Obj} {h₀ h : Heap} {L : Addr} {X Y R tl : List (Addr × Obj)} (N : News h₀ L h X) (c : Cut src o X Y) (t : Tail R Y tl) : News h₀ L h ((src, o) :: (tl ++ R)) := news_sub N (by rw [← t.eq]; exact c.sub)
theorem words_18c : hd.heap_39 = hd.heap_39 ∧ PySem.Challenge.rw_xm0685_01 = PySem.Challenge.rw_xm0685_01 := by
  k_fill
  (k_with "bld" => first | exact bld_const | exact bld_int | exact blds_nil | (apply blds_cons; (k_extra "bld"); (k_extra "bld")) | (apply bld_list; (k_extra "bld"); (exact Nat.le_of_ble_eq_true rfl)) | (apply bld_sym; assumption; (exact rfl); (k_extra "bld")) | (apply bld_expr; assumption; (exact rfl); (k_extra "bld"); (k_extra "bld"); (exact Nat.le_of_ble_eq_true rfl)) | exact bld_name rfl ⟨_, rfl⟩ rfl rfl rfl | exact bld_name rfl ⟨_, rfl, by with_reducible assumption⟩ rfl rfl rfl | exact bld_name (by assumption) ⟨_, rfl⟩ rfl rfl rfl | exact bld_name (by assumption) ⟨_, rfl, by with_reducible assumption⟩ rfl rfl rfl)
  (k_with "bldc" => exact ⟨by k_asm, by k_asm, by k_asm, rfl, by k_extra "room", by k_extra "units"⟩)
  (k_with "my eval Call" => (k_here; (first | (with_reducible show wpAny _ _ (eval (PySem.Expr.Call (PySem.Expr.Name (PySem.Str.ofString "expr") _) _ [] _) _) _ _ _) | (with_reducible show wpAny _ _ (eval (PySem.Expr.Call (PySem.Expr.Name (PySem.Str.ofString "sym") _) _ [] _) _) _ _ _)); k_dflt (first | refine bld_run (R := []) (by k_asm) (by k_asm) (by k_extra "bldc") (fun c9 => by k_extra "bld") sb_nil ?_ | refine bld_runT (by with_reducible assumption) (by k_asm) (by k_asm) (by k_extra "bldc") (fun c9 => by k_extra "bld") (by tb_start) ?_); intro _ _ _ _ _ _ _ _; (try k_sweep)))
  (k_with "my eval List" => (k_here; (with_reducible show wpAny _ _ (eval (PySem.Expr.List (_ :: _) _) _) _ _ _); k_dflt (refine bld_runL (R := []) (by k_asm) (by k_asm) (by k_extra "bldc") (fun c9 => by k_extra "bld") sb_nil (by exact rfl) ?_); intro _ _ _ _ _ _ _ _ _ _ _; (try k_sweep)))
  (k_with "my eval ListComp" => (k_here; (with_reducible show wpAny _ _ (eval (PySem.Expr.ListComp _ [_] _ _) _) _ _ _); k_dflt (refine comp_UK (F₀ := by k_asm) (by with_unfolding_all rfl) (by decide) (by rfl) (by decide) (by rfl) ?_ (by intro _; rfl))))
  (k_with "my eval ListComp" => (k_here; (with_reducible show wpAny _ _ (eval (PySem.Expr.ListComp _ [_, _] _ _) _) _ _ _); k_dflt (refine comp2 (_F₀ := by k_asm) (by with_unfolding_all rfl) (by decide) (by rfl) (by decide) (by rfl) (by rfl) ?_ (by intro _; rfl) (by intro _ _; rfl))))
  (k_with "my exec Assign cons ListComp" => (k_here; refine hold_intro ?_))
  (k_with "my subscriptTail" => (k_here; (with_reducible show wpAny _ _ (subscriptTail _ _ (Value.ref _) (Value.int _ _)) _ _ _); k_dflt (refine' item_tup ?z1 ?z2 ?z3 ?z4 ?z5 ?_ ?z6; (case z1 => k_asm); (case z2 => k_extra "mem"); (case z3 => first | decide | omega); (case z4 => first | exact rfl | assumption); (case z5 => first | decide | omega); (case z6 => with_unfolding_all rfl); k_whole)))
  (k_with "inlist" => (simp only [List.length_append, List.length_cons, List.length_nil] at *; omega))
  (k_with "my exec If BoolOp" => (k_here; (with_reducible show wpAny _ _ (exec (PySem.Stmt.If (PySem.Expr.BoolOp PySem.BoolOp.And [PySem.Expr.Compare (PySem.Expr.Name _ _) _ _ _, PySem.Expr.Compare (PySem.Expr.Call _ _ _ _) _ _ _] _) _ _ _) _) _ _ _); refine hold_intro ?_))
  exact ⟨rfl, rfl⟩
noncomputable def PlSpec (w : World) (mean : ExcName → Option Value) (mg mb : Str → Option Value) (k : Nat) : Prop :=
  ∀ {src : Addr} {o : Obj} {d : Int} {td : Tok} {R : List (Addr × Obj)}, d = (k : Int) → Off src R → SrcO o → EndsS w mean mg mb 136 (8 * k + 20) (100 * k + 200) [.ref src, .int d td] src o R (fun o' tl r => SrcO o' ∧ ∃ pr : PR, r = .ref pr.a ∧ PROk k tl pr)
section
variable {w : World} {mean : ExcName → Option Value} {mg mb : Str → Option Value} {R news : List (Addr × Obj)}
  {dp un : Nat} {gd : Option (List Code)} {cn : Str} {cs : Scope} {a : Addr} {ccd : Value} {cl : List (Str × Addr)} {outer : List Env} {A₀ : Around} {base h₀ : Heap} {L : Addr} {m : Str → Option Value} {g : Heap} {gn : Array GenState} {dr : Drawn} {tk : Nat} {os : OsState}
  {Q E : Value → Shared → Prop}
theorem call_place {k : Nat} {src : Addr} {o : Obj} {i : Int} {td : Tok} (IH : PlSpec w mean mg mb k) (hi : i = (k : Int)) (hne : Off src R) (ho : SrcO o) (B : Below A₀ base outer h₀) (F : Fr h₀ L g m) (X : (hd.heap_39 w.params).In h₀) (N : News h₀ L g news) (hs : ∀ p ∈ (src, o) :: R, p ∈ news) (T : Top hd.view_39 (looseW hd.view_39 []) mean mg mb h₀) (hk : cs.kind = .function) (hd' : dp + (8 * k + 20) < recursionLimit) (hu : un + (100 * k + 200) < cLine)
    (ret : ∀ o' tl b v t l us n c raw h' tk', SrcO o' → (b, tupO #[v, .ref l] n) ∈ tl → TreeIn tl v t → (l, listOf (List.toArray us) c) ∈ tl → StrsAre us raw → PlaceOk k t raw → Above ((src, o) :: R) tl → Fr h₀ L h' m → News h₀ L h' ((src, o') :: (tl ++ R)) → Q (.ref b) ⟨h', gn, dr, tk', os⟩) : wpAny (model PySem.Challenge.rw_xm0685_01.row.prog w) (ktrTop dp un gd cn cs L a ccd cl outer) (call (.ref 136) [.ref src, .int i td]) Q E ⟨g, gn, dr, tk, os⟩ := by
  refine use_S (IH hi hne ho) B F X N hs T hk hd' hu ?_
  rintro r o' tl h' tk' ⟨ho', pr, rfl, hp⟩ ha F' N'
  exact ret o' tl pr.a pr.v pr.t pr.l pr.us pr.n pr.c pr.raw h' tk' ho' hp.row hp.tree hp.list hp.txts hp.ok ha F' N'
end
theorem PlaceOk.ref {k : Nat} {t : Tree} {raw : List Str} {R : List (Addr × Obj)} {v : Value} (h : PlaceOk k t raw) (hv : TreeIn R v t) : ∃ c, v = .ref c := names_ref h.nms hv
theorem place_spec (w : World) (mean mg mb) (k : Nat) (hk4 : k ≤ 4) (IH : ∀ j, k = j + 1 → PlSpec w mean mg mb j) : PlSpec w mean mg mb k := by
  intro src o d td R hdk hne ho
  (k_dflt (refine' ends_fnC ?zo ?zc ?zb ?zm ?zl ?zn ?z1 ?z2 ?z3 ?_; (case zo => k_is); (case zc => k_is); (case zb => exact fun _ => BindsTo.of_eq rfl); (case zm => exact rfl); (case zl => exact rfl); (case zn => decide +kernel); (case z1 => exact rfl); (case z2 => exact rfl); (case z3 => exact rfl); intro dp un gd outer A₀ base h₀ L g gn dr tk os Q cells B F X N Y T hd hu hret l1; k_cells Y; (try simp only [List.cons_append, List.nil_append] at N); (try dsimp only)))
  obtain ⟨m0, F⟩ : ∃ m0, Fr h₀ L g m0 := ⟨_, F⟩
  rename_i oc2 oc1 d2 d1
  have e1 : oc1.data = Data.cell (some (Value.ref src)) := d1
  have e2 : oc2.data = Data.cell (some (Value.int d td)) := d2
  clear d1 d2
  have hsL : src < L := l1 _ (.head _)
  have hne1 : Off src ((L + 1 + 1, oc2) :: (L + 1, oc1) :: R) := Off.cons (Nat.ne_of_gt (Nat.lt_succ_of_lt (Nat.lt_succ_of_lt hsL))) (Off.cons (Nat.ne_of_gt (Nat.lt_succ_of_lt hsL)) hne)
  have q1 : ∀ p ∈ (src, o) :: R, p.1 < L + 1 := fun p hp => Nat.lt_succ_of_lt (l1 p hp)
  have q2 : ∀ p ∈ (src, o) :: R, p.1 < L + 1 + 1 := fun p hp => Nat.lt_succ_of_lt (q1 p hp)
  refine wpAny_execs_cons ?_
  refine cut2 (fun Q => ∀ h' tk' m' o' way tw x tx, Fr h₀ L h' m' → News h₀ L h' ((src, o') :: (L + 1 + 1, oc2) :: (L + 1, oc1) :: R) → SrcO o' → m' (Str.ofString "way") = some (.int way tw) → m' (Str.ofString "name") = some (.str x tx) → x ∈ ABC → 0 ≤ way → way < 8 → (k = 0 → way < 4) → Q .next ⟨h', gn, dr, tk', os⟩) ?_ ?_
  · clear hret IH
    intro Q9 hq
    rcases k with _ | k
    · subst hdk
      k_steps
      (unfold Hold; k_dflt (refine' call_take hne1 ho (by decide) (by decide) ?B ?F ?X ?N ?hs ?T ?kq9 ?d ?u ?_; (case B => k_asm); (case F => k_asm); (case X => k_asm); (case N => k_asm); (case T => k_asm); (case kq9 => first | exact rfl | assumption); (case d => ktr_room); (case u => ktr_units); (case hs => first | exact (fun _ h9 => h9) | exact (fun _ h9 => .tail _ (.tail _ h9)) | exact Cut.sub (by assumption) | tb_start)))
      intro o2 way tw h2 tk2 ho2 hw0 hw1 F2 N2
      k_steps
      rename (∀ p : Addr × Obj, p ∈ (((src, o2) :: _) : List (Addr × Obj)) → p.1 < (_ : Addr)) => hD5
      (unfold Hold; k_dflt (refine' call_one (vs := [Value.str (Str.ofString "a") (tk2), Value.str (Str.ofString "b") (tk2 + 1), Value.str (Str.ofString "c") (tk2 + 1 + 1), Value.str (Str.ofString "d") (tk2 + 1 + 1 + 1), Value.str (Str.ofString "e") (tk2 + 1 + 1 + 1 + 1)]) (n := 0) (Off.cons (Nat.ne_of_gt (hD5 _ (.head _))) hne1) ho2 (.head _) (Nat.succ_pos _) (Nat.le_of_ble_eq_true rfl) ?B ?F ?X ?N ?hs ?T ?kq9 ?d ?u ?_; (case B => k_asm); (case F => k_asm); (case X => k_asm); (case N => k_asm); (case T => k_asm); (case kq9 => first | exact rfl | assumption); (case d => ktr_room); (case u => ktr_units); (case hs => first | exact (fun _ h9 => h9) | exact (fun _ h9 => .tail _ (.tail _ h9)) | exact Cut.sub (by assumption) | tb_start)))
      intro o3 i3 r3 h3 tk3 ho3 hi3 F3 N3
      obtain ⟨x, tx, rfl, hx⟩ := abc_pick hi3
      k_steps
      exact hq _ _ _ o3 way tw x tx (by assumption) (news_sub (by assumption) (by tb_start)) ho3 rfl rfl hx hw0 (Int.lt_trans hw1 (by decide)) (fun _ => hw1)
    · have hd0 : d > 0 := by omega
      k_steps
      (unfold Hold; k_dflt (refine' call_take hne1 ho (by decide) (by decide) ?B ?F ?X ?N ?hs ?T ?kq9 ?d ?u ?_; (case B => k_asm); (case F => k_asm); (case X => k_asm); (case N => k_asm); (case T => k_asm); (case kq9 => first | exact rfl | assumption); (case d => ktr_room); (case u => ktr_units); (case hs => first | exact (fun _ h9 => h9) | exact (fun _ h9 => .tail _ (.tail _ h9)) | exact Cut.sub (by assumption) | tb_start)))
      intro o2 way tw h2 tk2 ho2 hw0 hw1 F2 N2
      k_steps
      rename (∀ p : Addr × Obj, p ∈ (((src, o2) :: _) : List (Addr × Obj)) → p.1 < (_ : Addr)) => hD5
      (unfold Hold; k_dflt (refine' call_one (vs := [Value.str (Str.ofString "a") (tk2), Value.str (Str.ofString "b") (tk2 + 1), Value.str (Str.ofString "c") (tk2 + 1 + 1), Value.str (Str.ofString "d") (tk2 + 1 + 1 + 1), Value.str (Str.ofString "e") (tk2 + 1 + 1 + 1 + 1)]) (n := 0) (Off.cons (Nat.ne_of_gt (hD5 _ (.head _))) hne1) ho2 (.head _) (Nat.succ_pos _) (Nat.le_of_ble_eq_true rfl) ?B ?F ?X ?N ?hs ?T ?kq9 ?d ?u ?_; (case B => k_asm); (case F => k_asm); (case X => k_asm); (case N => k_asm); (case T => k_asm); (case kq9 => first | exact rfl | assumption); (case d => ktr_room); (case u => ktr_units); (case hs => first | exact (fun _ h9 => h9) | exact (fun _ h9 => .tail _ (.tail _ h9)) | exact Cut.sub (by assumption) | tb_start)))
      intro o3 i3 r3 h3 tk3 ho3 hi3 F3 N3
      obtain ⟨x, tx, rfl, hx⟩ := abc_pick hi3
      k_steps
      exact hq _ _ _ o3 way tw x tx (by assumption) (news_sub (by assumption) (by tb_start)) ho3 rfl rfl hx hw0 hw1 (fun e => nomatch e)
  clear F N
  intro h1 tk1 m1 o3 way tw x tx F1 N1 ho3 hmw hmn hx hw0 hw8 hw4
  dsimp only
  k_steps
  · (rename News _ _ _ _ => lN); have c0 := cut_of (src := src) lN (by repeat (first | exact Cut.here _ | apply Cut.there | apply Cut.app)); have t0 := tail_of (R := R) c0 (by repeat (first | exact Tail.here | apply Tail.there | apply Tail.app)); refine fin_C hret (by assumption) lN c0 t0 (by repeat' (first | exact Above.nil | (refine Above.cons ?_ ?_) | (refine Above.app ?_ ?_) | exact src_lt (by with_reducible assumption) (by kct_strs) (by intro p9 h9; repeat (first | exact h9 | refine List.mem_cons_of_mem _ ?_ | refine List.mem_append_right _ ?_)) | exact src_ne (by with_reducible assumption) (by kct_strs) (by intro p9 h9; repeat (first | exact h9 | refine List.mem_cons_of_mem _ ?_ | refine List.mem_append_right _ ?_)) | exact src_ab (by with_reducible assumption) (by kct_strs) (by intro p9 h9; repeat (first | exact h9 | refine List.mem_cons_of_mem _ ?_ | refine List.mem_append_right _ ?_)))) ?_
    refine ⟨ho3, ?_⟩
    exact pr_mk (t := .sym x) (by kct_strs) (by repeat' (first | exact TreesIn.nil | refine TreesIn.cons _ _ _ _ ?_ ?_ | ((with_reducible show TreeIn _ _ (Tree.sym _)); exact TreeIn.sym _ _ _ _ _ (by kct_strs)) | ((with_reducible show TreeIn _ _ (Tree.int _)); exact TreeIn.int _ _ _ _ _ (by kct_strs)) | ((with_reducible show TreeIn _ _ (Tree.expr _ _)); refine TreeIn.expr _ _ _ _ _ _ _ _ _ (by kct_strs) (by kct_strs) ?_) | exact TreeIn.lift (by with_reducible assumption) (by tb_start))) (by kct_strs) (.cons _ _ .nil) (pok_sym _ hx)
  · unfold Hold
    refine cut2 (fun Q => ∀ h' tk' m' o' tl c t l us n raw, Fr h₀ L h' m' → News h₀ L h' ((src, o') :: (tl ++ ((L + 1 + 1, oc2) :: (L + 1, oc1) :: R))) → SrcO o' → m' (Str.ofString "inner") = some (.ref c) → m' (Str.ofString "names") = some (.ref l) → TreeIn tl (.ref c) t → (l, listOf (List.toArray us) n) ∈ tl → StrsAre us raw → Above ((src, o3) :: (L + 1 + 1, oc2) :: (L + 1, oc1) :: R) tl → (∀ q, PlaceOk k (.expr (Str.ofString "::") [t, q]) raw) → Q .next ⟨h', gn, dr, tk', os⟩) ?_ ?_
    · clear hret
      intro Q9 hq
      refine wpAny_If ?_
      k_steps
      · (rename News _ _ _ _ => lN); have c0 := cut_of (src := src) lN (by repeat (first | exact Cut.here _ | apply Cut.there | apply Cut.app)); have c4 := cut_off c0 (by ktr_rel)
        (unfold Hold; k_dflt (refine' call_take c4 ho3 (by decide) (by decide) ?B ?F ?X ?N ?hs ?T ?kq9 ?d ?u ?_; (case B => k_asm); (case F => k_asm); (case X => k_asm); (case N => k_asm); (case T => k_asm); (case kq9 => first | exact rfl | assumption); (case d => ktr_room); (case u => ktr_units); (case hs => first | exact (fun _ h9 => h9) | exact (fun _ h9 => .tail _ (.tail _ h9)) | exact Cut.sub (by assumption) | tb_start)))
        intro o4 w4 tw4 h4 tk4 ho4 hw40 hw41 F4 N4
        k_steps
        · obtain ⟨j, rfl⟩ : ∃ j, k = j + 1 := ⟨k - 1, by omega⟩
          (rename News _ _ _ _ => lN); have c0 := cut_of (src := src) lN (by repeat (first | exact Cut.here _ | apply Cut.there | apply Cut.app)); have c5 := cut_off c0 (by ktr_rel)
          (unfold Hold; k_dflt (refine' call_place (IH j rfl) (pl_d hdk) c5 ho4 ?B ?F ?X ?N ?hs ?T ?kq9 ?d ?u ?_; (case B => k_asm); (case F => k_asm); (case X => k_asm); (case N => k_asm); (case T => k_asm); (case kq9 => first | exact rfl | assumption); (case d => ktr_room); (case u => ktr_units); (case hs => first | exact (fun _ h9 => h9) | exact (fun _ h9 => .tail _ (.tail _ h9)) | exact Cut.sub (by assumption) | tb_start)))
          intro o5 tl5 b5 v5 t5 l5 us5 n5 cc5 raw5 h5 tk5 ho5 hrow5 htree5 hlist5 htxts5 hok5 ha5 F5 N5
          obtain ⟨c5, rfl⟩ := hok5.ref htree5
          k_steps
          (rename News _ _ _ _ => lN); have c0 := cut_of (src := src) lN (by repeat (first | exact Cut.here _ | apply Cut.there | apply Cut.app)); have t0 := tail_of (R := (L + 1 + 1, oc2) :: (L + 1, oc1) :: R) c0 (by repeat (first | exact Tail.here | apply Tail.there | apply Tail.app)); have N9 := el_fin lN c0 t0; clear lN
          exact hq _ _ _ o5 _ c5 t5 l5 us5 cc5 raw5 (by assumption) N9 ho5 rfl rfl (by repeat' (first | exact TreesIn.nil | refine TreesIn.cons _ _ _ _ ?_ ?_ | ((with_reducible show TreeIn _ _ (Tree.sym _)); exact TreeIn.sym _ _ _ _ _ (by kct_strs)) | ((with_reducible show TreeIn _ _ (Tree.int _)); exact TreeIn.int _ _ _ _ _ (by kct_strs)) | ((with_reducible show TreeIn _ _ (Tree.expr _ _)); refine TreeIn.expr _ _ _ _ _ _ _ _ _ (by kct_strs) (by kct_strs) ?_) | exact TreeIn.lift (by with_reducible assumption) (by tb_start))) (by kct_strs) htxts5 (by repeat' (first | exact Above.nil | (refine Above.cons ?_ ?_) | (refine Above.app ?_ ?_) | exact src_lt (by with_reducible assumption) (by kct_strs) (by intro p9 h9; repeat (first | exact h9 | refine List.mem_cons_of_mem _ ?_ | refine List.mem_append_right _ ?_)) | exact src_ne (by with_reducible assumption) (by kct_strs) (by intro p9 h9; repeat (first | exact h9 | refine List.mem_cons_of_mem _ ?_ | refine List.mem_append_right _ ?_)) | exact src_ab (by with_reducible assumption) (by kct_strs) (by intro p9 h9; repeat (first | exact h9 | refine List.mem_cons_of_mem _ ?_ | refine List.mem_append_right _ ?_)))) (fun q => pok_in hok5)
        · (rename News _ _ _ _ => lN); have c0 := cut_of (src := src) lN (by repeat (first | exact Cut.here _ | apply Cut.there | apply Cut.app)); have t0 := tail_of (R := (L + 1 + 1, oc2) :: (L + 1, oc1) :: R) c0 (by repeat (first | exact Tail.here | apply Tail.there | apply Tail.app)); have N9 := el_fin lN c0 t0; clear lN
          exact hq _ _ _ o4 _ _ (.sym x) _ [_] _ [x] (by assumption) N9 ho4 rfl rfl (by repeat' (first | exact TreesIn.nil | refine TreesIn.cons _ _ _ _ ?_ ?_ | ((with_reducible show TreeIn _ _ (Tree.sym _)); exact TreeIn.sym _ _ _ _ _ (by kct_strs)) | ((with_reducible show TreeIn _ _ (Tree.int _)); exact TreeIn.int _ _ _ _ _ (by kct_strs)) | ((with_reducible show TreeIn _ _ (Tree.expr _ _)); refine TreeIn.expr _ _ _ _ _ _ _ _ _ (by kct_strs) (by kct_strs) ?_) | exact TreeIn.lift (by with_reducible assumption) (by tb_start))) (by kct_strs) (.cons _ _ .nil) (by repeat' (first | exact Above.nil | (refine Above.cons ?_ ?_) | (refine Above.app ?_ ?_) | exact src_lt (by with_reducible assumption) (by kct_strs) (by intro p9 h9; repeat (first | exact h9 | refine List.mem_cons_of_mem _ ?_ | refine List.mem_append_right _ ?_)) | exact src_ne (by with_reducible assumption) (by kct_strs) (by intro p9 h9; repeat (first | exact h9 | refine List.mem_cons_of_mem _ ?_ | refine List.mem_append_right _ ?_)) | exact src_ab (by with_reducible assumption) (by kct_strs) (by intro p9 h9; repeat (first | exact h9 | refine List.mem_cons_of_mem _ ?_ | refine List.mem_append_right _ ?_)))) (fun q => pok_sub hx)
      · (rename News _ _ _ _ => lN); have c0 := cut_of (src := src) lN (by repeat (first | exact Cut.here _ | apply Cut.there | apply Cut.app)); have t0 := tail_of (R := (L + 1 + 1, oc2) :: (L + 1, oc1) :: R) c0 (by repeat (first | exact Tail.here | apply Tail.there | apply Tail.app)); have N9 := el_fin lN c0 t0; clear lN
        exact hq _ _ _ o3 _ _ (.sym x) _ [_] _ [x] (by assumption) N9 ho3 rfl rfl (by repeat' (first | exact TreesIn.nil | refine TreesIn.cons _ _ _ _ ?_ ?_ | ((with_reducible show TreeIn _ _ (Tree.sym _)); exact TreeIn.sym _ _ _ _ _ (by kct_strs)) | ((with_reducible show TreeIn _ _ (Tree.int _)); exact TreeIn.int _ _ _ _ _ (by kct_strs)) | ((with_reducible show TreeIn _ _ (Tree.expr _ _)); refine TreeIn.expr _ _ _ _ _ _ _ _ _ (by kct_strs) (by kct_strs) ?_) | exact TreeIn.lift (by with_reducible assumption) (by tb_start))) (by kct_strs) (.cons _ _ .nil) (by repeat' (first | exact Above.nil | (refine Above.cons ?_ ?_) | (refine Above.app ?_ ?_) | exact src_lt (by with_reducible assumption) (by kct_strs) (by intro p9 h9; repeat (first | exact h9 | refine List.mem_cons_of_mem _ ?_ | refine List.mem_append_right _ ?_)) | exact src_ne (by with_reducible assumption) (by kct_strs) (by intro p9 h9; repeat (first | exact h9 | refine List.mem_cons_of_mem _ ?_ | refine List.mem_append_right _ ?_)) | exact src_ab (by with_reducible assumption) (by kct_strs) (by intro p9 h9; repeat (first | exact h9 | refine List.mem_cons_of_mem _ ?_ | refine List.mem_append_right _ ?_)))) (fun q => pok_sub hx)
    · intro h6 tk6 m6 o6 tl6 c6 t6 l6 us6 n6 raw6 F6 N6 ho6 hmi6 hmn6 htree6 hlist6 htxts6 ha6 hok6
      dsimp only
      k_steps
      (rename News _ _ _ _ => lN); have c0 := cut_of (src := src) lN (by repeat (first | exact Cut.here _ | apply Cut.there | apply Cut.app)); have t0 := tail_of (R := R) c0 (by repeat (first | exact Tail.here | apply Tail.there | apply Tail.app)); refine fin_C hret (by assumption) lN c0 t0 (by repeat' (first | exact Above.nil | (refine Above.cons ?_ ?_) | (refine Above.app ?_ ?_) | exact src_lt (by with_reducible assumption) (by kct_strs) (by intro p9 h9; repeat (first | exact h9 | refine List.mem_cons_of_mem _ ?_ | refine List.mem_append_right _ ?_)) | exact src_ne (by with_reducible assumption) (by kct_strs) (by intro p9 h9; repeat (first | exact h9 | refine List.mem_cons_of_mem _ ?_ | refine List.mem_append_right _ ?_)) | exact src_ab (by with_reducible assumption) (by kct_strs) (by intro p9 h9; repeat (first | exact h9 | refine List.mem_cons_of_mem _ ?_ | refine List.mem_append_right _ ?_)))) ?_
      refine ⟨ho6, ?_⟩
      exact pr_mk (t := .expr (Str.ofString "::") [t6, .sym (Str.ofString "Int")]) (by kct_strs) (by repeat' (first | exact TreesIn.nil | refine TreesIn.cons _ _ _ _ ?_ ?_ | ((with_reducible show TreeIn _ _ (Tree.sym _)); exact TreeIn.sym _ _ _ _ _ (by kct_strs)) | ((with_reducible show TreeIn _ _ (Tree.int _)); exact TreeIn.int _ _ _ _ _ (by kct_strs)) | ((with_reducible show TreeIn _ _ (Tree.expr _ _)); refine TreeIn.expr _ _ _ _ _ _ _ _ _ (by kct_strs) (by kct_strs) ?_) | exact TreeIn.lift (by with_reducible assumption) (by tb_start))) (by kct_strs) htxts6 (hok6 _)
  · rename TreesIn _ _ [Tree.int 5] => ht2
    rename TreesIn _ _ (Tree.expr _ _ :: _) => ht1
    (rename News _ _ _ _ => lN); have c0 := cut_of (src := src) lN (by repeat (first | exact Cut.here _ | apply Cut.there | apply Cut.app)); have c4 := cut_off c0 (by ktr_rel)
    (unfold Hold; k_dflt (refine' call_one (n := 0) c4 ho3 (.head _) (by k_extra "inlist") (by k_extra "inlist") ?B ?F ?X ?N ?hs ?T ?kq9 ?d ?u ?_; (case B => k_asm); (case F => k_asm); (case X => k_asm); (case N => k_asm); (case T => k_asm); (case kq9 => first | exact rfl | assumption); (case d => ktr_room); (case u => ktr_units); (case hs => first | exact (fun _ h9 => h9) | exact (fun _ h9 => .tail _ (.tail _ h9)) | exact Cut.sub (by assumption) | tb_start)))
    intro o4 i4 r4 h4 tk4 ho4 hi4 F4 N4
    k_steps
    (rename News _ _ _ _ => lN); have c0 := cut_of (src := src) lN (by repeat (first | exact Cut.here _ | apply Cut.there | apply Cut.app)); have t0 := tail_of (R := R) c0 (by repeat (first | exact Tail.here | apply Tail.there | apply Tail.app)); refine fin_C hret (by assumption) lN c0 t0 (by repeat' (first | exact Above.nil | (refine Above.cons ?_ ?_) | (refine Above.app ?_ ?_) | exact src_lt (by with_reducible assumption) (by kct_strs) (by intro p9 h9; repeat (first | exact h9 | refine List.mem_cons_of_mem _ ?_ | refine List.mem_append_right _ ?_)) | exact src_ne (by with_reducible assumption) (by kct_strs) (by intro p9 h9; repeat (first | exact h9 | refine List.mem_cons_of_mem _ ?_ | refine List.mem_append_right _ ?_)) | exact src_ab (by with_reducible assumption) (by kct_strs) (by intro p9 h9; repeat (first | exact h9 | refine List.mem_cons_of_mem _ ?_ | refine List.mem_append_right _ ?_)))) ?_
    refine ⟨ho4, ?_⟩
    exact pr_pick hi4 (TreesIn.app (ht1.mono (by tb_start)) (ht2.mono (by tb_start))) (none_ok _ x) (by kct_strs) (by kct_strs)
  · obtain ⟨j, rfl⟩ : ∃ j, k = j + 1 := by
      rcases k with _ | j
      · first | exact (w4_no (hw4 rfl) (by assumption) (by assumption) (by assumption)).elim | exact absurd (hw4 rfl) (by omega)
      · exact ⟨j, rfl⟩
    (rename News _ _ _ _ => lN); have c0 := cut_of (src := src) lN (by repeat (first | exact Cut.here _ | apply Cut.there | apply Cut.app)); have c5 := cut_off c0 (by ktr_rel)
    (unfold Hold; k_dflt (refine' call_place (IH j rfl) (pl_d hdk) c5 ho3 ?B ?F ?X ?N ?hs ?T ?kq9 ?d ?u ?_; (case B => k_asm); (case F => k_asm); (case X => k_asm); (case N => k_asm); (case T => k_asm); (case kq9 => first | exact rfl | assumption); (case d => ktr_room); (case u => ktr_units); (case hs => first | exact (fun _ h9 => h9) | exact (fun _ h9 => .tail _ (.tail _ h9)) | exact Cut.sub (by assumption) | tb_start)))
    intro o5 tl5 b5 v5 t5 l5 us5 n5 cc5 raw5 h5 tk5 ho5 hrow5 htree5 hlist5 htxts5 hok5 ha5 F5 N5
    obtain ⟨c5, rfl⟩ := hok5.ref htree5
    k_steps
    (rename News _ _ _ _ => lN); have c0 := cut_of (src := src) lN (by repeat (first | exact Cut.here _ | apply Cut.there | apply Cut.app)); have t0 := tail_of (R := R) c0 (by repeat (first | exact Tail.here | apply Tail.there | apply Tail.app)); refine fin_C hret (by assumption) lN c0 t0 (by repeat' (first | exact Above.nil | (refine Above.cons ?_ ?_) | (refine Above.app ?_ ?_) | exact src_lt (by with_reducible assumption) (by kct_strs) (by intro p9 h9; repeat (first | exact h9 | refine List.mem_cons_of_mem _ ?_ | refine List.mem_append_right _ ?_)) | exact src_ne (by with_reducible assumption) (by kct_strs) (by intro p9 h9; repeat (first | exact h9 | refine List.mem_cons_of_mem _ ?_ | refine List.mem_append_right _ ?_)) | exact src_ab (by with_reducible assumption) (by kct_strs) (by intro p9 h9; repeat (first | exact h9 | refine List.mem_cons_of_mem _ ?_ | refine List.mem_append_right _ ?_)))) ?_
    refine ⟨ho5, ?_⟩
    exact pr_mk (t := .expr (Str.ofString "...") [t5]) (by kct_strs) (by repeat' (first | exact TreesIn.nil | refine TreesIn.cons _ _ _ _ ?_ ?_ | ((with_reducible show TreeIn _ _ (Tree.sym _)); exact TreeIn.sym _ _ _ _ _ (by kct_strs)) | ((with_reducible show TreeIn _ _ (Tree.int _)); exact TreeIn.int _ _ _ _ _ (by kct_strs)) | ((with_reducible show TreeIn _ _ (Tree.expr _ _)); refine TreeIn.expr _ _ _ _ _ _ _ _ _ (by kct_strs) (by kct_strs) ?_) | exact TreeIn.lift (by with_reducible assumption) (by tb_start))) (by kct_strs) htxts5 (pok_dots hok5)
  · obtain ⟨j, rfl⟩ : ∃ j, k = j + 1 := by
      rcases k with _ | j
      · first | exact (w4_no (hw4 rfl) (by assumption) (by assumption) (by assumption)).elim | exact absurd (hw4 rfl) (by omega)
      · exact ⟨j, rfl⟩
    have IH : PlSpec w mean mg mb j := IH j rfl
    unfold Hold
    k_dflt (refine assign_UH (F₀ := by k_asm) (by rfl) (by with_unfolding_all rfl) (by with_unfolding_all rfl) (by decide) (by rfl) (by decide) (by rfl) (by rfl) (by rfl) ?_ (by intro _; rfl))
    k_steps
    (rename News _ _ _ _ => lN); have c0 := cut_of (src := src) lN (by repeat (first | exact Cut.here _ | apply Cut.there | apply Cut.app)); have c4 := cut_off c0 (by ktr_rel)
    (unfold Hold; k_dflt (refine' call_take c4 ho3 (by decide) (by decide) ?B ?F ?X ?N ?hs ?T ?kq9 ?d ?u ?_; (case B => k_asm); (case F => k_asm); (case X => k_asm); (case N => k_asm); (case T => k_asm); (case kq9 => first | exact rfl | assumption); (case d => ktr_room); (case u => ktr_units); (case hs => first | exact (fun _ h9 => h9) | exact (fun _ h9 => .tail _ (.tail _ h9)) | exact Cut.sub (by assumption) | tb_start)))
    intro o4 w4 tw4 h4 tk4 ho4 hw40 hw41 F4 N4
    k_steps
    rename IsRange _ _ _ _ _ _ _ _ => hr
    rename Fr _ _ _ _ => lF
    (rename News _ _ _ _ => lN); have c0 := cut_of (src := src) lN (by repeat (first | exact Cut.here _ | apply Cut.there | apply Cut.app)); have c5 := cut_off c0 (by ktr_rel)
    (try unfold Hold); unfold SrcU
    refine src_range (n := w4.toNat) (fun _ Z y => ∃ pr : PR, y = .ref pr.a ∧ PROk j Z pr) (fun _ Z Z' y hs h => let ⟨pr, e, h⟩ := h; ⟨pr, e, h.mono hs⟩) rfl lF lN c0 hr (Int.toNat_of_nonneg hw40).symm (Nat.le_trans (n4 hw40 hw41) (by decide)) ho4 c5 ?_ ?_
    · intro g1 i ys o5 tl5 I oI C oC D m₂ h5 tk5 E' hi ho5 hof hC F5 N5
      clear lF lN hr hret
      have N7 := news_two (L + 1, oc1) (L + 1 + 1, oc2) N5 (by kct_strs) (by kct_strs)
      clear N5
      k_steps
      (unfold Hold; k_dflt (refine' use_S (IH (pl_d hdk) hof ho5) ?B ?F ?X ?N ?hs ?T ?kq9 ?d ?u ?_; (case B => k_asm); (case F => k_asm); (case X => k_asm); (case N => k_asm); (case T => k_asm); (case kq9 => first | exact rfl | assumption); (case d => ktr_room); (case u => ktr_units); (case hs => first | exact (fun _ h9 => h9) | exact (fun _ h9 => .tail _ (.tail _ h9)) | exact Cut.sub (by assumption) | tb_start)))
      rintro r6 o6 tl6 h6 tk6 ⟨ho6, hp6⟩ ha6 F6 N6
      exact ⟨_, _, o6, tl6, rfl, ho6, hp6, F6, N6, ha6⟩
    · intro g1 ys o5 tl5 ho5 hlen hab hrows D h5 tk5 F5 N5 o1
      clear lF lN hr
      have q5 := off1_all o1
      obtain ⟨prs, rfl, hps⟩ := rows_list hrows
      clear hrows
      rw [List.length_map] at hlen
      have hp3 : prs.length ≤ 3 := by rw [hlen]; exact n4 hw40 hw41
      clear hlen hw40 hw41
      k_steps
      rename Fr _ _ _ _ => lF
      rename News _ _ _ _ => lN
      unfold Hold SrcU
      refine src_reads (prs.map (·.v)) rfl lF lN (.head _) (by rw [List.length_map]; exact Nat.le_trans hp3 (by decide)) (by rw [List.length_map, List.length_map]) ?_ ?_
      · intro i v r C oC m₂ h6 tk6 E' P hv hr6 hC hx6 F6 N6 hP
        clear lF lN hret
        simp only [List.getElem?_map, Option.map_eq_some_iff] at hv hr6
        obtain ⟨p, hp, rfl⟩ := hv
        obtain ⟨p', hp', rfl⟩ := hr6
        rw [hp] at hp'
        cases hp'
        have hrow := (hps p (List.mem_of_getElem? hp)).row
        have N7 : News h₀ L h6 _ := news_two (p.a, tupO #[p.v, Value.ref p.l] p.n) (C, oC) N6 (by kct_strs) (.head _)
        clear N6
        k_steps
        exact hP _
      · intro g2 D2 h6 tk6 F6 N6 o2
        clear lF lN
        have q6 := off1_all o2
        have hz6 : (prs.map (·.v)).length ≤ 16384 := by rw [List.length_map]; exact Nat.le_trans hp3 (by decide)
        k_steps
        rename Fr _ _ _ _ => lF
        rename News _ _ _ _ => lN
        unfold Hold
        refine ⟨_, _, _, _, prs.map (·.us), rfl, rfl, lF, lN, .tail _ (.tail _ (.tail _ (.head _))), ?_, ?_, ?_, ?_, ?_, ?_⟩
        · intro i v hv
          simp only [List.getElem?_map, Option.map_eq_some_iff] at hv
          obtain ⟨p, hp, rfl⟩ := hv
          have hpo := hps p (List.mem_of_getElem? hp)
          have hrow := hpo.row
          have hlist := hpo.list
          exact ⟨p.a, p.v, p.l, p.n, p.us, p.c, rfl, by kct_strs, by kct_strs, by simp only [List.getElem?_map, hp, Option.map_some]⟩
        · rw [List.length_map, List.length_map]
        · have e1 := StrsAre.length (rows_strs hps)
          have e2 := rows_size hps
          have e3 : prs.length * 4 ^ j ≤ 4 * 64 := Nat.mul_le_mul (Nat.le_succ_of_le hp3) (Nat.le_trans (Nat.pow_le_pow_right (by decide) (Nat.le_of_succ_le_succ hk4)) (by decide))
          rw [sizeLine_num]
          omega
        · intro C oC m₂ v r h8 tk8 E' P hIs hC hx8 F8 N8 hP
          clear lF lN hret
          obtain ⟨t8, a8, n8, rfl, hm8⟩ := hIs
          have N9 := news_two _ (C, oC) N8 (.tail _ hm8) (.head _)
          clear N8
          k_steps
          exact hP _
        · intro C oC m₂ v r h8 tk8 E' P hIs hC hx8 F8 N8 hP
          clear lF lN hret
          subst hIs
          k_steps
          exact hP _
        · intro D3 h8 tk8 F8 N8 o3
          clear lF lN
          k_steps
          (rename News _ _ _ _ => lN); have c0 := cut_of (src := src) lN (by repeat (first | exact Cut.here _ | apply Cut.there | apply Cut.app)); have t0 := tail_of (R := R) c0 (by repeat (first | exact Tail.here | apply Tail.there | apply Tail.app)); refine fin_C hret (by assumption) lN c0 t0 (by repeat' (first | exact Above.nil | (refine Above.cons ?_ ?_) | (refine Above.app ?_ ?_) | exact src_lt (by with_reducible assumption) (by kct_strs) (by intro p9 h9; repeat (first | exact h9 | refine List.mem_cons_of_mem _ ?_ | refine List.mem_append_right _ ?_)) | exact src_ne (by with_reducible assumption) (by kct_strs) (by intro p9 h9; repeat (first | exact h9 | refine List.mem_cons_of_mem _ ?_ | refine List.mem_append_right _ ?_)) | exact src_ab (by with_reducible assumption) (by kct_strs) (by intro p9 h9; repeat (first | exact h9 | refine List.mem_cons_of_mem _ ?_ | refine List.mem_append_right _ ?_)))) ?_
          refine ⟨ho5, ?_⟩
          exact pr_mk (t := .expr (Str.ofString "tuple") (prs.map (·.t))) (by kct_strs) (.expr _ _ _ _ _ _ _ _ _ (by kct_strs) (by kct_strs) ((rows_trees hps).mono (by tb_start))) (by kct_strs) (rows_strs hps) (pok_tup hps (Nat.le_succ_of_le hp3) (Nat.le_of_succ_le_succ hk4))
theorem place_all (w : World) (mean mg mb) : ∀ k, k ≤ 4 → PlSpec w mean mg mb k := by
  intro k
  induction k with
  | zero => exact fun h => place_spec w mean mg mb 0 h fun j e => nomatch e
  | succ k ih => exact fun h => place_spec w mean mg mb (k + 1) h fun j e => by cases e; exact ih (by omega)
theorem told_pick {Z Z' : List (Addr × Obj)} {vs : List Value} {x : Str} {i : Nat} {r : Value} {q q' : Tree} (hts : TreesIn Z vs [.expr (Str.ofString "<:") [.sym x, q], .expr (Str.ofString ">:") [.sym x, q']]) (hi : vs[i]? = some r) (hs : ∀ p ∈ Z, p ∈ Z') : ∃ tr, TreeIn Z' r tr ∧ Told' tr x := by
  obtain ⟨t, ht, hv⟩ := hts.at hi
  refine ⟨t, hv.mono hs, ?_⟩
  match i, ht with
  | 0, ht => cases ht; exact .sub _ _
  | 1, ht => cases ht; exact .sup _ _
  | i + 2, ht => simp at ht
theorem told_spec (w : World) (mean mg mb) {src : Addr} {o : Obj} {x : Str} {t : Tok} {R : List (Addr × Obj)} (hne : Off src R) (ho : SrcO o) :
    EndsS w mean mg mb 150 8 100 [.ref src, .str x t] src o R (fun o' tl r => SrcO o' ∧ ∃ tr, TreeIn tl r tr ∧ Told' tr x) := by
  (k_dflt (refine' ends_fn ?zo ?zc ?zb ?zm ?zl ?z1 ?z2 ?z3 ?z4 ?_; (case zo => k_is); (case zc => k_is); (case zb => exact fun _ => BindsTo.of_eq rfl); (case zm => exact rfl); (case zl => exact locs rfl); (case z1 => exact rfl); (case z2 => exact rfl); (case z3 => exact rfl); (case z4 => decide); intro dp un gd outer A₀ base h₀ L g gn dr tk os Q B F X N T hd hu hret); k_steps)
  (unfold Hold; k_dflt (refine' call_take hne ho (by decide) (by decide) ?B ?F ?X ?N ?hs ?T ?kq9 ?d ?u ?_; (case B => k_asm); (case F => k_asm); (case X => k_asm); (case N => k_asm); (case T => k_asm); (case kq9 => first | exact rfl | assumption); (case d => ktr_room); (case u => ktr_units); (case hs => first | exact (fun _ h9 => h9) | exact (fun _ h9 => .tail _ (.tail _ h9)) | exact Cut.sub (by assumption) | tb_start)))
  intro o2 way tw h2 tk2 ho2 hw0 hw1 F2 N2
  have hw : way < 2 ∨ way = 2 ∨ way = 3 := by omega
  clear hw1
  rcases hw with hw | rfl | rfl
  · k_steps
    rename TreesIn _ _ _ => hts
    (rename News _ _ _ _ => lN); have c0 := cut_of (src := src) lN (by repeat (first | exact Cut.here _ | apply Cut.there | apply Cut.app)); have t0 := tail_of (R := R) c0 (by repeat (first | exact Tail.here | apply Tail.there | apply Tail.app)); refine fin_C hret (by assumption) lN c0 t0 (by repeat' (first | exact Above.nil | (refine Above.cons ?_ ?_) | (refine Above.app ?_ ?_) | exact src_lt (by with_reducible assumption) (by kct_strs) (by intro p9 h9; repeat (first | exact h9 | refine List.mem_cons_of_mem _ ?_ | refine List.mem_append_right _ ?_)) | exact src_ne (by with_reducible assumption) (by kct_strs) (by intro p9 h9; repeat (first | exact h9 | refine List.mem_cons_of_mem _ ?_ | refine List.mem_append_right _ ?_)) | exact src_ab (by with_reducible assumption) (by kct_strs) (by intro p9 h9; repeat (first | exact h9 | refine List.mem_cons_of_mem _ ?_ | refine List.mem_append_right _ ?_)))) ?_
    exact ⟨ho2, told_pick hts (List.getElem?_eq_getElem _) (by tb_start)⟩
  · k_steps
    (rename News _ _ _ _ => lN); have c0 := cut_of (src := src) lN (by repeat (first | exact Cut.here _ | apply Cut.there | apply Cut.app)); have t0 := tail_of (R := R) c0 (by repeat (first | exact Tail.here | apply Tail.there | apply Tail.app)); refine fin_C hret (by assumption) lN c0 t0 (by repeat' (first | exact Above.nil | (refine Above.cons ?_ ?_) | (refine Above.app ?_ ?_) | exact src_lt (by with_reducible assumption) (by kct_strs) (by intro p9 h9; repeat (first | exact h9 | refine List.mem_cons_of_mem _ ?_ | refine List.mem_append_right _ ?_)) | exact src_ne (by with_reducible assumption) (by kct_strs) (by intro p9 h9; repeat (first | exact h9 | refine List.mem_cons_of_mem _ ?_ | refine List.mem_append_right _ ?_)) | exact src_ab (by with_reducible assumption) (by kct_strs) (by intro p9 h9; repeat (first | exact h9 | refine List.mem_cons_of_mem _ ?_ | refine List.mem_append_right _ ?_)))) ?_
    exact ⟨ho2, .sym x, (by repeat' (first | exact TreesIn.nil | refine TreesIn.cons _ _ _ _ ?_ ?_ | ((with_reducible show TreeIn _ _ (Tree.sym _)); exact TreeIn.sym _ _ _ _ _ (by kct_strs)) | ((with_reducible show TreeIn _ _ (Tree.int _)); exact TreeIn.int _ _ _ _ _ (by kct_strs)) | ((with_reducible show TreeIn _ _ (Tree.expr _ _)); refine TreeIn.expr _ _ _ _ _ _ _ _ _ (by kct_strs) (by kct_strs) ?_) | exact TreeIn.lift (by with_reducible assumption) (by tb_start))), .sym x⟩
  · k_steps
    (rename News _ _ _ _ => lN); have c0 := cut_of (src := src) lN (by repeat (first | exact Cut.here _ | apply Cut.there | apply Cut.app)); have t0 := tail_of (R := R) c0 (by repeat (first | exact Tail.here | apply Tail.there | apply Tail.app)); refine fin_C hret (by assumption) lN c0 t0 (by repeat' (first | exact Above.nil | (refine Above.cons ?_ ?_) | (refine Above.app ?_ ?_) | exact src_lt (by with_reducible assumption) (by kct_strs) (by intro p9 h9; repeat (first | exact h9 | refine List.mem_cons_of_mem _ ?_ | refine List.mem_append_right _ ?_)) | exact src_ne (by with_reducible assumption) (by kct_strs) (by intro p9 h9; repeat (first | exact h9 | refine List.mem_cons_of_mem _ ?_ | refine List.mem_append_right _ ?_)) | exact src_ab (by with_reducible assumption) (by kct_strs) (by intro p9 h9; repeat (first | exact h9 | refine List.mem_cons_of_mem _ ?_ | refine List.mem_append_right _ ?_)))) ?_
    exact ⟨ho2, .expr (Str.ofString "comparison") [.sym (Str.ofString "U"), .sym (Str.ofString "<:"), .sym x, .sym (Str.ofString "<:"), .sym (Str.ofString "V")], (by repeat' (first | exact TreesIn.nil | refine TreesIn.cons _ _ _ _ ?_ ?_ | ((with_reducible show TreeIn _ _ (Tree.sym _)); exact TreeIn.sym _ _ _ _ _ (by kct_strs)) | ((with_reducible show TreeIn _ _ (Tree.int _)); exact TreeIn.int _ _ _ _ _ (by kct_strs)) | ((with_reducible show TreeIn _ _ (Tree.expr _ _)); refine TreeIn.expr _ _ _ _ _ _ _ _ _ (by kct_strs) (by kct_strs) ?_) | exact TreeIn.lift (by with_reducible assumption) (by tb_start))), .cmp x _ _ _ _⟩
section
variable {w : World} {mean : ExcName → Option Value} {mg mb : Str → Option Value} {R news : List (Addr × Obj)}
  {dp un : Nat} {gd : Option (List Code)} {cn : Str} {cs : Scope} {a : Addr} {ccd : Value} {cl : List (Str × Addr)} {outer : List Env} {A₀ : Around} {base h₀ : Heap} {L : Addr} {m : Str → Option Value} {g : Heap} {gn : Array GenState} {dr : Drawn} {tk : Nat} {os : OsState}
  {Q E : Value → Shared → Prop}
theorem call_told {src : Addr} {o : Obj} {x : Str} {t : Tok} (hne : Off src R) (ho : SrcO o) (B : Below A₀ base outer h₀) (F : Fr h₀ L g m) (X : (hd.heap_39 w.params).In h₀) (N : News h₀ L g news) (hs : ∀ p ∈ (src, o) :: R, p ∈ news) (T : Top hd.view_39 (looseW hd.view_39 []) mean mg mb h₀) (hk : cs.kind = .function) (hd' : dp + 8 < recursionLimit) (hu : un + 100 < cLine)
    (ret : ∀ o' tl r tr h' tk', SrcO o' → TreeIn tl r tr → Told' tr x → Above ((src, o) :: R) tl → Fr h₀ L h' m → News h₀ L h' ((src, o') :: (tl ++ R)) → Q r ⟨h', gn, dr, tk', os⟩) : wpAny (model PySem.Challenge.rw_xm0685_01.row.prog w) (ktrTop dp un gd cn cs L a ccd cl outer) (call (.ref 150) [.ref src, .str x t]) Q E ⟨g, gn, dr, tk, os⟩ := by
  refine use_S (told_spec w mean mg mb hne ho) B F X N hs T hk hd' hu ?_
  rintro r o' tl h' tk' ⟨ho', tr, h1, h2⟩ ha F' N'
  exact ret o' tl r tr h' tk' ho' h1 h2 ha F' N'
end
theorem fg_pick {tk : Tok} {i : Nat} {r : Value} (h : ([Value.str (Str.ofString "f") (tk), Value.str (Str.ofString "g") (tk + 1)])[i]? = some r) : ∃ x t, r = .str x t ∧ PyData.strOk x = true := by
  match i, h with
  | 0, h => exact ⟨_, _, (Option.some.inj h).symm, by decide +kernel⟩
  | 1, h => exact ⟨_, _, (Option.some.inj h).symm, by decide +kernel⟩
  | i + 2, h => exact absurd h (by simp)
theorem head_pick {R' : List (Addr × Obj)} {vs : List Value} {ts : List Tree} {i : Nat} {r : Value} {a : Addr} {n : Nat} {x : Str} {tk : Tok} (hi : vs[i]? = some r) (hts : TreesIn R' vs ts) (hok : ∀ t ∈ ts, Inner t x) (row : (a, tupO #[r, .str x tk] n) ∈ R') (ok : PyData.strOk x = true) :
    ∃ a' v n' x' tk' inner, Value.ref a = .ref a' ∧ (a', tupO #[v, .str x' tk'] n') ∈ R' ∧ TreeIn R' v inner ∧ Inner inner x' ∧ PyData.strOk x' = true := by
  obtain ⟨t, ht, hv⟩ := hts.at hi
  exact ⟨a, r, n, x, tk, t, rfl, row, hv, hok t (List.mem_of_getElem? ht), ok⟩
theorem inners_ok (x : Str) : ∀ t ∈ [Tree.expr (Str.ofString "tuple") [.sym (Str.ofString "x")], .expr (Str.ofString "call") [.expr (Str.ofString "::") [.sym (Str.ofString "h"), .sym (Str.ofString "T")], .sym (Str.ofString "x")]] ++ [.expr (Str.ofString "call") [.expr (Str.ofString ".") [.sym (Str.ofString "M"), .sym x], .sym (Str.ofString "x")]], Inner t (Str.ofString "") := by
  intro t ht
  simp only [List.mem_cons, List.not_mem_nil, or_false, List.cons_append, List.nil_append] at ht
  rcases ht with rfl | rfl | rfl
  · exact .tup _
  · exact .far _ _ _
  · exact .far _ _ _
theorem head_spec (w : World) (mean mg mb) {src : Addr} {o : Obj} {R : List (Addr × Obj)} (hne : Off src R) (ho : SrcO o) :
    EndsS w mean mg mb 143 8 100 [.ref src] src o R (fun o' tl r => SrcO o' ∧ ∃ a v n x tk inner, r = .ref a ∧ (a, tupO #[v, .str x tk] n) ∈ tl ∧ TreeIn tl v inner ∧ Inner inner x ∧ PyData.strOk x = true) := by
  (k_dflt (refine' ends_fn ?zo ?zc ?zb ?zm ?zl ?z1 ?z2 ?z3 ?z4 ?_; (case zo => k_is); (case zc => k_is); (case zb => exact fun _ => BindsTo.of_eq rfl); (case zm => exact rfl); (case zl => exact locs rfl); (case z1 => exact rfl); (case z2 => exact rfl); (case z3 => exact rfl); (case z4 => decide); intro dp un gd outer A₀ base h₀ L g gn dr tk os Q B F X N T hd hu hret); k_steps)
  (rename News _ _ _ _ => lN); have c0 := cut_of (src := src) lN (by repeat (first | exact Cut.here _ | apply Cut.there | apply Cut.app)); have c1 := cut_off c0 (by ktr_rel)
  (unfold Hold; k_dflt (refine' call_one (vs := [Value.str (Str.ofString "f") (tk), Value.str (Str.ofString "g") (tk + 1)]) (n := 0) c1 ho (.head _) (Nat.succ_pos _) (Nat.le_of_ble_eq_true rfl) ?B ?F ?X ?N ?hs ?T ?kq9 ?d ?u ?_; (case B => k_asm); (case F => k_asm); (case X => k_asm); (case N => k_asm); (case T => k_asm); (case kq9 => first | exact rfl | assumption); (case d => ktr_room); (case u => ktr_units); (case hs => first | exact (fun _ h9 => h9) | exact (fun _ h9 => .tail _ (.tail _ h9)) | exact Cut.sub (by assumption) | tb_start)))
  intro o2 i2 r2 h2 tk2 ho2 hi2 F2 N2
  obtain ⟨x, tx, rfl, hxo⟩ := fg_pick hi2
  clear hi2
  k_steps
  (rename News _ _ _ _ => lN); have c0 := cut_of (src := src) lN (by repeat (first | exact Cut.here _ | apply Cut.there | apply Cut.app)); have c2 := cut_off c0 (by ktr_rel)
  (unfold Hold; k_dflt (refine' call_take c2 ho2 (by decide) (by decide) ?B ?F ?X ?N ?hs ?T ?kq9 ?d ?u ?_; (case B => k_asm); (case F => k_asm); (case X => k_asm); (case N => k_asm); (case T => k_asm); (case kq9 => first | exact rfl | assumption); (case d => ktr_room); (case u => ktr_units); (case hs => first | exact (fun _ h9 => h9) | exact (fun _ h9 => .tail _ (.tail _ h9)) | exact Cut.sub (by assumption) | tb_start)))
  intro o3 way tw h3 tk3 ho3 hw0 hw1 F3 N3
  k_steps
  · (rename News _ _ _ _ => lN); have c0 := cut_of (src := src) lN (by repeat (first | exact Cut.here _ | apply Cut.there | apply Cut.app)); have t0 := tail_of (R := R) c0 (by repeat (first | exact Tail.here | apply Tail.there | apply Tail.app)); refine fin_C hret (by assumption) lN c0 t0 (by repeat' (first | exact Above.nil | (refine Above.cons ?_ ?_) | (refine Above.app ?_ ?_) | exact src_lt (by with_reducible assumption) (by kct_strs) (by intro p9 h9; repeat (first | exact h9 | refine List.mem_cons_of_mem _ ?_ | refine List.mem_append_right _ ?_)) | exact src_ne (by with_reducible assumption) (by kct_strs) (by intro p9 h9; repeat (first | exact h9 | refine List.mem_cons_of_mem _ ?_ | refine List.mem_append_right _ ?_)) | exact src_ab (by with_reducible assumption) (by kct_strs) (by intro p9 h9; repeat (first | exact h9 | refine List.mem_cons_of_mem _ ?_ | refine List.mem_append_right _ ?_)))) ?_
    refine ⟨ho3, ?_⟩
    exact ⟨_, _, _, _, _, .expr (Str.ofString "call") [.sym x, .sym (Str.ofString "x")], rfl, (by kct_strs), (by repeat' (first | exact TreesIn.nil | refine TreesIn.cons _ _ _ _ ?_ ?_ | ((with_reducible show TreeIn _ _ (Tree.sym _)); exact TreeIn.sym _ _ _ _ _ (by kct_strs)) | ((with_reducible show TreeIn _ _ (Tree.int _)); exact TreeIn.int _ _ _ _ _ (by kct_strs)) | ((with_reducible show TreeIn _ _ (Tree.expr _ _)); refine TreeIn.expr _ _ _ _ _ _ _ _ _ (by kct_strs) (by kct_strs) ?_) | exact TreeIn.lift (by with_reducible assumption) (by tb_start))), .call x _, hxo⟩
  · rename TreesIn _ _ [Tree.expr _ _] => ht2
    rename TreesIn _ _ [Tree.expr _ _, Tree.expr _ _] => ht1
    (rename News _ _ _ _ => lN); have c0 := cut_of (src := src) lN (by repeat (first | exact Cut.here _ | apply Cut.there | apply Cut.app)); have c3 := cut_off c0 (by ktr_rel)
    (unfold Hold; k_dflt (refine' call_one (n := 0) c3 ho3 (.head _) (by k_extra "inlist") (by k_extra "inlist") ?B ?F ?X ?N ?hs ?T ?kq9 ?d ?u ?_; (case B => k_asm); (case F => k_asm); (case X => k_asm); (case N => k_asm); (case T => k_asm); (case kq9 => first | exact rfl | assumption); (case d => ktr_room); (case u => ktr_units); (case hs => first | exact (fun _ h9 => h9) | exact (fun _ h9 => .tail _ (.tail _ h9)) | exact Cut.sub (by assumption) | tb_start)))
    intro o4 i4 r4 h4 tk4 ho4 hi4 F4 N4
    k_steps
    (rename News _ _ _ _ => lN); have c0 := cut_of (src := src) lN (by repeat (first | exact Cut.here _ | apply Cut.there | apply Cut.app)); have t0 := tail_of (R := R) c0 (by repeat (first | exact Tail.here | apply Tail.there | apply Tail.app)); refine fin_C hret (by assumption) lN c0 t0 (by repeat' (first | exact Above.nil | (refine Above.cons ?_ ?_) | (refine Above.app ?_ ?_) | exact src_lt (by with_reducible assumption) (by kct_strs) (by intro p9 h9; repeat (first | exact h9 | refine List.mem_cons_of_mem _ ?_ | refine List.mem_append_right _ ?_)) | exact src_ne (by with_reducible assumption) (by kct_strs) (by intro p9 h9; repeat (first | exact h9 | refine List.mem_cons_of_mem _ ?_ | refine List.mem_append_right _ ?_)) | exact src_ab (by with_reducible assumption) (by kct_strs) (by intro p9 h9; repeat (first | exact h9 | refine List.mem_cons_of_mem _ ?_ | refine List.mem_append_right _ ?_)))) ?_
    refine ⟨ho4, ?_⟩
    exact head_pick hi4 (TreesIn.app (ht1.mono (by tb_start)) (ht2.mono (by tb_start))) (inners_ok x) (by kct_strs) (by decide +kernel)
section
variable {w : World} {mean : ExcName → Option Value} {mg mb : Str → Option Value} {R news : List (Addr × Obj)}
  {dp un : Nat} {gd : Option (List Code)} {cn : Str} {cs : Scope} {a : Addr} {ccd : Value} {cl : List (Str × Addr)} {outer : List Env} {A₀ : Around} {base h₀ : Heap} {L : Addr} {m : Str → Option Value} {g : Heap} {gn : Array GenState} {dr : Drawn} {tk : Nat} {os : OsState}
  {Q E : Value → Shared → Prop}
theorem call_head {src : Addr} {o : Obj} (hne : Off src R) (ho : SrcO o) (B : Below A₀ base outer h₀) (F : Fr h₀ L g m) (X : (hd.heap_39 w.params).In h₀) (N : News h₀ L g news) (hs : ∀ p ∈ (src, o) :: R, p ∈ news) (T : Top hd.view_39 (looseW hd.view_39 []) mean mg mb h₀) (hk : cs.kind = .function) (hd' : dp + 8 < recursionLimit) (hu : un + 100 < cLine)
    (ret : ∀ o' tl b v n x tx inner h' tk', SrcO o' → (b, tupO #[v, .str x tx] n) ∈ tl → TreeIn tl v inner → Inner inner x → PyData.strOk x = true → Above ((src, o) :: R) tl → Fr h₀ L h' m → News h₀ L h' ((src, o') :: (tl ++ R)) → Q (.ref b) ⟨h', gn, dr, tk', os⟩) : wpAny (model PySem.Challenge.rw_xm0685_01.row.prog w) (ktrTop dp un gd cn cs L a ccd cl outer) (call (.ref 143) [.ref src]) Q E ⟨g, gn, dr, tk, os⟩ := by
  refine use_S (head_spec w mean mg mb hne ho) B F X N hs T hk hd' hu ?_
  rintro r o' tl h' tk' ⟨ho', b, v, n, x, tx, inner, rfl, h1, h2, h3, h4⟩ ha F' N'
  exact ret o' tl b v n x tx inner h' tk' ho' h1 h2 h3 h4 ha F' N'
end
section
variable {prog : Program} {w : World} {A : Around} {E : Value → Shared → Prop} {s : Shared} {env : Env} {h₀ : Heap} {x : Str} {body : List Stmt} {Q : Flow → Shared → Prop}
theorem loop_one {I : Addr} {n : Nat} {P : Nat → Value → Prop} {St : Nat → Heap → Prop} {m₀ : Str → Option Value} {news : List (Addr × Obj)} (J : Nat → (Str → Option Value) → List (Addr × Obj) → Prop)
    (W : Walks prog w A I [I] [I] n P St) (hSt : ∀ i h, St i h → ∃ o, h.get? I = some o) (hst : St 0 s.heap) (F : Fr h₀ env.locals s.heap m₀) (N : News h₀ env.locals s.heap news) (hI : Off I news) (hI0 : h₀.get? I = none) (hLI : env.locals ≠ I) (hj : J 0 m₀ news)
    (turn : ∀ i v m₁ nx h tk oI, i < n → P i v → J i m₁ nx → Off I nx → Fr h₀ env.locals h (fun y => if y = x then some v else m₁ y) → News h₀ env.locals h ((I, oI) :: nx) →
      wpAny (model prog w) A (execs body env) (TurnEnd h₀ env.locals (J (i + 1)) I oI { s with heap := h, toks := tk } Q) E { s with heap := h, toks := tk })
    (done : ∀ m₁ nx h tk, J n m₁ nx → Fr h₀ env.locals h m₁ → News h₀ env.locals h nx → Q .next { s with heap := h, toks := tk }) :
    LoopAtV prog w A h₀ env x body Q E (.ref I) s := by
  refine ⟨I, [I], [I], n, P, St, m₀, news, J, rfl, W, ?_, ?_, ?_, hst, F, N, hj, ?_, ?_⟩
  · intro hm
    exact hLI (List.mem_singleton.mp hm)
  · intro b hb
    rw [List.mem_singleton.mp hb]
    exact hI0
  · intro p hp hm
    exact hI p hp (List.mem_singleton.mp hm)
  · rintro i v m₁ nx s₁ own ⟨h, tk, rfl⟩ hin hP hJ hoff hown hat hmem hst₁ F₁ N₁
    obtain ⟨oI, hoI⟩ := hSt _ _ hst₁
    have hIo : (I, oI) ∈ own := hmem I (.head _) hI0 oI hoI
    have offI : Off I nx := fun p hp e => hoff p hp (List.mem_singleton.mpr e)
    have N₂ : News h₀ env.locals h ((I, oI) :: nx) := fun p hp => N₁ p (by
      rcases List.mem_cons.mp hp with rfl | hp
      · exact List.mem_append_left _ hIo
      · exact List.mem_append_right _ hp)
    refine wpAny_mono (turn i v m₁ nx h tk oI hin hP hJ offI F₁ N₂) (fun f s₂ p => ?_) fun _ _ e => e
    have fin : TurnTo h₀ env.locals (J (i + 1)) I oI { s with heap := h, toks := tk } s₂ → LoopStepU h₀ env.locals [I] own (J (i + 1)) { s with heap := h, toks := tk } .next s₂ := by
      intro h8
      (refine ex4 (h8) ?_; (try clear h8); intro h' tk' m' nx' h9; refine an5 h9 ?_; clear h9; rintro e F' N' off' hJ')
      refine ⟨rfl, h', tk', m', nx', e, F', fun p hp => ?_, fun p hp hm => off' p hp (List.mem_singleton.mp hm), hJ'⟩
      rcases List.mem_append.mp hp with hp | hp
      · have e1 := List.mem_singleton.mp (hown p hp)
        have e2 := hat p hp
        rw [e1] at e2
        have e3 : p = (I, oI) := Prod.ext e1 (Option.some.inj (e2.symm.trans hoI))
        rw [e3]
        exact N' _ (.head _)
      · exact N' _ (List.mem_cons_of_mem _ hp)
    cases f with
    | ret v => exact .ret p
    | brk => exact .brk p
    | next => exact .next (fin p)
    | cont => exact .cont (fin p)
  · rintro h' tk m' nx F' N' _ hJ
    exact done m' nx h' tk hJ F' N'
theorem iter_rangeM {r : Addr} {b : Int} {t u v : Tok} {n : Nat} {m₀ : Str → Option Value} {news : List (Addr × Obj)} (st : List Str) (J : Nat → (Str → Option Value) → List (Addr × Obj) → Prop)
    (hh : A.handled = none) (F : Fr h₀ env.locals s.heap m₀) (N : News h₀ env.locals s.heap news) (hr : IsRange s.heap r 0 b 1 t u v) (hb : b = (n : Int)) (hn : n ≤ 100) (hj : J 0 m₀ news)
    (turn : ∀ i (y : Tok) (m₁ u : Str → Option Value) nx h tk I oI, i < n → J i m₁ nx → Off I nx → (∀ z, z ≠ x → st.contains z = true → u z = m₁ z) → Fr h₀ env.locals h (fun z => if z = x then some (.int (i : Int) y) else if st.contains z then u z else m₀ z) → News h₀ env.locals h ((I, oI) :: nx) →
      wpAny (model prog w) A (execs body env) (TurnEnd h₀ env.locals (fun m nx => (∀ z, z ≠ x → st.contains z = false → m z = m₀ z) ∧ J (i + 1) m nx) I oI { s with heap := h, toks := tk } Q) E { s with heap := h, toks := tk })
    (done : ∀ (m₁ u : Str → Option Value) nx h tk, J n m₁ nx → (∀ z, z ≠ x → st.contains z = true → u z = m₁ z) → Fr h₀ env.locals h (fun z => if z = x then u z else if st.contains z then u z else m₀ z) → News h₀ env.locals h nx → Q .next { s with heap := h, toks := tk }) :
    wpAny (model prog w) A (pyIter (.ref r)) (fun it s₂ => LoopAtV prog w A h₀ env x body Q E it s₂) E s := by
  subst hb
  refine wpAny_pyIter_range hr (small_one (by omega) (by omega) (by omega) (by omega)) ?_
  have e : Builtin.Range.rangeSize 0 (n : Int) 1 = (n : Int) := by rw [rangeSize_nat]; omega
  rw [e]
  refine loop_one (n := n) (fun i m nx => (∀ z, z ≠ x → st.contains z = false → m z = m₀ z) ∧ J i m nx) (LCg.range_walks hh 0 n) (fun i h st => ⟨_, st⟩) ?_ (F.push _) (fun p hp => ⟨Heap.get?_push_of_some _ (N p hp).1, (N p hp).2⟩)
    (fun p hp e => absurd (Heap.lt_size (N p hp).1) (by rw [e]; exact Nat.lt_irrefl _)) (next_is_new F) (fun e => absurd F.ns.lt (by rw [e]; exact Nat.lt_irrefl _)) ⟨fun _ _ _ => rfl, hj⟩ ?_ ?_
  · show IsRangeIter _ _ ((0 : Int) + ((0 : Nat) : Int) * 1) ((n : Int) - ((0 : Nat) : Int)) 1
    rw [show (0 : Int) + ((0 : Nat) : Int) * 1 = 0 by omega, show (n : Int) - ((0 : Nat) : Int) = n by omega]
    exact Heap.get?_push_size _ rfl
  · rintro i v m₁ nx h tk oI hi ⟨y, rfl⟩ hJ off F' N'
    rw [keep_fun' (v := some _) hJ.1] at F'
    rw [Int.zero_add] at F'
    exact turn i y m₁ m₁ nx h tk _ oI hi hJ.2 off (fun _ _ _ => rfl) F' N'
  · intro m₁ nx h tk hJ F' N'
    rw [keep_fun hJ.1] at F'
    exact done m₁ m₁ nx h tk hJ.2 (fun _ _ _ => rfl) F' N'
end
theorem st3 {x a b c : Str} {v : Option Value} {u m : Str → Option Value} : (fun z => if z = x then v else if [a, b, c].contains z then u z else m z) = fun z => if z = x then v else if z = a then u a else if z = b then u b else if z = c then u c else m z := by
  funext z
  by_cases h0 : z = x
  · simp [h0]
  · by_cases h1 : z = a
    · subst h1; simp [h0]
    · by_cases h2 : z = b
      · subst h2; simp [h0, h1]
      · by_cases h3 : z = c
        · subst h3; simp [h0, h1, h2]
        · simp [h0, h1, h2, h3]
noncomputable def TSR : List Str := [Str.ofString "T", Str.ofString "S", Str.ofString "R"]
theorem tsr_pick {tk : Tok} {i : Nat} {r : Value} (h : ([Value.str (Str.ofString "T") (tk), Value.str (Str.ofString "S") (tk + 1), Value.str (Str.ofString "R") (tk + 1 + 1)])[i]? = some r) : ∃ x t, r = .str x t ∧ x ∈ TSR := by
  match i, h with
  | 0, h => exact ⟨_, _, (Option.some.inj h).symm, .head _⟩
  | 1, h => exact ⟨_, _, (Option.some.inj h).symm, .tail _ (.head _)⟩
  | 2, h => exact ⟨_, _, (Option.some.inj h).symm, .tail _ (.tail _ (.head _))⟩
  | i + 3, h => exact absurd h (by simp)
structure AR (t0 : Tree) (i : Nat) (m : Str → Option Value) (Z Zt : List (Addr × Obj)) (l : Addr) (us : List Value) (c : Nat) (hv : Addr) (h : Tree) (ns : List Str) : Prop where
  mh : m (Str.ofString "head") = some (.ref hv)
  mn : m (Str.ofString "names") = some (.ref l)
  list : (l, listOf us.toArray c) ∈ Z
  txts : StrsAre us ns
  tree : TreeIn Zt (.ref hv) h
  wrap : Wrapped t0 i h ns
  tsr : ∀ y ∈ ns, y ∈ TSR
  size : ns.length ≤ 3 * i
noncomputable def ARJ (src : Addr) (o : Obj) (B B1 R0 : List (Addr × Obj)) (t0 : Tree) (i : Nat) (m : Str → Option Value) (nx : List (Addr × Obj)) : Prop :=
  ∃ o' tl l us c hv h ns, nx = (src, o') :: (tl ++ B) ∧ SrcO o' ∧ Above ((src, o) :: B) tl ∧ AR t0 i m (tl ++ B1) (tl ++ R0) l us c hv h ns
theorem st3n {a b c z : Str} (h : [a, b, c].contains z = false) : z ≠ a ∧ z ≠ b ∧ z ≠ c := by
  simp at h; exact ⟨h.1, h.2.1, h.2.2⟩
theorem st3d {x a b c : Str} {u m : Str → Option Value} : (fun z => if z = x then u z else if [a, b, c].contains z then u z else m z) = fun z => if z = x then u x else if z = a then u a else if z = b then u b else if z = c then u c else m z := by
  funext z
  by_cases h0 : z = x
  · simp [h0]
  · by_cases h1 : z = a
    · subst h1; simp [h0]
    · by_cases h2 : z = b
      · subst h2; simp [h0, h1]
      · by_cases h3 : z = c
        · subst h3; simp [h0, h1, h2]
        · simp [h0, h1, h2, h3]
theorem gen_eq {α : Type} {G : Prop} (x : α) (k : ∀ y, y = x → G) : G := k x rfl
theorem ar_turn {src L1 I : Addr} {o o3 o' oc oI : Obj} {B B1 R0 X X9 Y nw tl : List (Addr × Obj)} {t0 : Tree} {i : Nat} {h₀ h' : Heap} {L : Addr} {m₀ m' : Str → Option Value} {x : Str} {st : List Str} {g1 : Heap} {gn : Array GenState} {dr : Drawn} {os : OsState} {tk1 tk : Nat} {l : Addr} {us : List Value} {c : Nat} {hv : Addr} {h : Tree} {ns : List Str}
    (F : Fr h₀ L h' m') (N : News h₀ L h' X) (c0 : Cut src o' X Y) (hX : X9 = (I, oI) :: (tl ++ B)) (t : Tail ((L1, oc) :: X9) Y nw) (ha : Above ((src, o) :: X9) nw) (hb : Above ((src, o) :: B) tl) (off : Off I ((src, o3) :: (tl ++ B)))
    (ho : SrcO o') (hm : ∀ z, z ≠ x → st.contains z = false → m' z = m₀ z) (hA : AR t0 (i + 1) m' ((nw ++ tl) ++ B1) ((nw ++ tl) ++ R0) l us c hv h ns) :
    TurnTo h₀ L (fun m nx => (∀ z, z ≠ x → st.contains z = false → m z = m₀ z) ∧ ARJ src o B B1 R0 t0 (i + 1) m nx) I oI ⟨g1, gn, dr, tk1, os⟩ ⟨h', gn, dr, tk, os⟩ := by
  subst hX
  have e := t.eq
  subst e
  refine ⟨h', tk, m', (src, o') :: ((nw ++ tl) ++ B), rfl, F, news_sub N fun p hp => ?_, ?_, hm, o', nw ++ tl, l, us, c, hv, h, ns, rfl, ho, ?_, hA⟩
  · refine c0.sub p ?_
    simp only [List.mem_cons, List.mem_append] at hp ⊢
    rcases hp with hp | hp | (hp | hp) | hp <;> simp [hp]
  · refine Off.cons (off (src, o3) (.head _) : src ≠ I) ?_
    rw [List.append_assoc]
    exact Off.app (ha.off (.tail _ (.head _))) fun p hp => off p (.tail _ hp)
  · refine Above.app (ha.sub fun p hp => ?_) hb
    simp only [List.mem_cons, List.mem_append] at hp ⊢
    rcases hp with hp | hp <;> simp [hp]
theorem lt_alias {X : List (Addr × Obj)} {D : Addr} (_ : ∀ p ∈ X, p.1 < D) : ∃ d, d = D := ⟨D, rfl⟩
theorem tolds_of {Z : List (Addr × Obj)} {vs : List Value} {xs : List Str} (h : StrsAre vs xs) : ∀ {ys : List Value}, ys.length = vs.length → (∀ (i : Nat) (y : Value), ys[i]? = some y → ∃ x t tr, vs[i]? = some (.str x t) ∧ TreeIn Z y tr ∧ Told' tr x) → ∃ ts, TreesIn Z ys ts ∧ Tolds ts xs ∧ ts.length = xs.length := by
  induction h with
  | nil =>
    intro ys h _
    cases List.length_eq_zero_iff.mp h
    exact ⟨[], .nil, .nil, rfl⟩
  | cons x tk r ih =>
    intro ys h hr
    cases ys with
    | nil => cases h
    | cons y ys =>
      obtain ⟨ts, h1, h2, h3⟩ := ih (Nat.succ.inj h) fun i z hz => hr (i + 1) z hz
      obtain ⟨x', t', tr, e1, e2, e3⟩ := hr 0 y rfl
      cases e1
      exact ⟨tr :: ts, .cons _ _ _ _ e2 h1, .cons _ _ _ _ e3 h2, congrArg (· + 1) h3⟩
theorem strs_pick : ∀ {ys : List Value}, (∀ (i : Nat) (y : Value), ys[i]? = some y → ∃ x t, y = .str x t ∧ x ∈ TSR) → ∃ xs, StrsAre ys xs ∧ (∀ x ∈ xs, x ∈ TSR) ∧ xs.length = ys.length
  | [], _ => ⟨[], .nil, (fun _ h => nomatch h), rfl⟩
  | y :: ys, h => by
    obtain ⟨xs, h1, h2, h3⟩ := strs_pick (ys := ys) fun i z hz => h (i + 1) z (by simpa using hz)
    obtain ⟨x, t, rfl, hx⟩ := h 0 y rfl
    refine ⟨x :: xs, .cons _ _ h1, fun z hz => ?_, by simp [h3]⟩
    rcases List.mem_cons.mp hz with rfl | hz
    · exact hx
    · exact h2 z hz
theorem el_finP {src : Addr} {o2 : Obj} {p : Addr × Obj} {X Y Z nw : List (Addr × Obj)} {h₀ h' : Heap} {L : Addr} (N : News h₀ L h' X) (c : Cut src o2 X Y) (t : Tail (p :: Z) Y nw) : News h₀ L h' ((src, o2) :: (nw ++ Z)) := by
  have e := t.eq
  subst e
  refine news_sub N fun q hq => c.sub q ?_
  simp only [List.mem_cons, List.mem_append] at hq ⊢
  rcases hq with hq | hq | hq <;> simp [hq]
theorem news_one {h₀ h : Heap} {L : Addr} {X : List (Addr × Obj)} (p : Addr × Obj) (N : News h₀ L h X) (hp : p ∈ X) : News h₀ L h (p :: X) := news_sub N fun r hr => by
  rcases List.mem_cons.mp hr with rfl | hr
  · exact hp
  · exact hr
theorem ar_map {h₀ h : Heap} {L : Addr} {V A B C : Option Value} {m : Str → Option Value} (F : Fr h₀ L h (fun z => if z = Str.ofString "turn" then V else if z = Str.ofString "head" then A else if z = Str.ofString "names" then B else if z = Str.ofString "own" then C else m z)) :
    ∃ mc : Str → Option Value, mc (Str.ofString "head") = A ∧ mc (Str.ofString "names") = B ∧ (∀ z, z ≠ Str.ofString "turn" → z ≠ Str.ofString "head" → z ≠ Str.ofString "names" → z ≠ Str.ofString "own" → mc z = m z) ∧ Fr h₀ L h mc :=
  ⟨_, rfl, rfl, fun z h1 h2 h3 h4 => by simp only [if_neg h1, if_neg h2, if_neg h3, if_neg h4], F⟩
theorem mem_mid {x : Addr × Obj} {a b c : List (Addr × Obj)} (h : x ∈ b ++ c) : x ∈ (a ++ b) ++ c := by rw [List.append_assoc]; exact List.mem_append_right _ h
theorem words_22 : hd.heap_39 = hd.heap_39 ∧ PySem.Challenge.rw_xm0685_01 = PySem.Challenge.rw_xm0685_01 := by
  k_fill
  (k_with "my exec For Name Call cons nil" => (k_here; (rename Fr _ _ _ _ => lF'); (with_unfolding_all refine' For_hold lF' ?z1 ?z2 ?_ (by intro _; rfl) (by passes_own); (case z1 => exact rfl); (case z2 => exact rfl); k_whole)))
  (k_with "my pyIter ref" => (k_here; refine hold_intro ?_))
  exact ⟨rfl, rfl⟩
theorem around_spec (w : World) (mean mg mb) {src : Addr} {o : Obj} {v : Addr} {t0 : Tree} {R R0 : List (Addr × Obj)} (hne : Off src R) (ho : SrcO o) (hT : TreeIn R0 (.ref v) t0) :
    EndsS w mean mg mb 155 14 160 [.ref src, .ref v] src o R (fun o' tl r => SrcO o' ∧ ∃ a l us c n hv h k ns, r = .ref a ∧ (a, tupO #[.ref hv, .ref l] n) ∈ tl ∧ (l, listOf (List.toArray us) c) ∈ tl ∧ StrsAre us ns ∧ TreeIn (tl ++ R0) (.ref hv) h ∧ Wrapped t0 k h ns ∧ (∀ y ∈ ns, y ∈ TSR) ∧ ns.length ≤ 6) := by
  (k_dflt (refine' ends_fnC ?zo ?zc ?zb ?zm ?zl ?zn ?z1 ?z2 ?z3 ?_; (case zo => k_is); (case zc => k_is); (case zb => exact fun _ => BindsTo.of_eq rfl); (case zm => exact rfl); (case zl => exact rfl); (case zn => decide +kernel); (case z1 => exact rfl); (case z2 => exact rfl); (case z3 => exact rfl); intro dp un gd outer A₀ base h₀ L g gn dr tk os Q cells B F X N Y T hd hu hret l1; k_cells Y; (try simp only [List.cons_append, List.nil_append] at N); (try dsimp only)))
  k_steps
  rename Obj => oc1
  rename (oc1.data = _) => d1
  have e1 : oc1.data = Data.cell (some (Value.ref src)) := d1
  clear d1
  have hsL : src < L := l1 _ (.head _)
  have q1 : ∀ p ∈ (src, o) :: R, p.1 < L + 1 := fun p hp => Nat.lt_succ_of_lt (l1 p hp)
  rename (∀ p : Addr × Obj, p ∈ (((L + 1, oc1) :: _) : List (Addr × Obj)) → p.1 < (_ : Addr)) => hDn
  obtain ⟨Dn, rfl⟩ := lt_alias hDn
  (rename News _ _ _ _ => lN); have c0 := cut_of (src := src) lN (by repeat (first | exact Cut.here _ | apply Cut.there | apply Cut.app)); have c1 := cut_off c0 (by ktr_rel)
  (unfold Hold; k_dflt (refine' call_take c1 ho (by decide) (by decide) ?B ?F ?X ?N ?hs ?T ?kq9 ?d ?u ?_; (case B => k_asm); (case F => k_asm); (case X => k_asm); (case N => k_asm); (case T => k_asm); (case kq9 => first | exact rfl | assumption); (case d => ktr_room); (case u => ktr_units); (case hs => first | exact (fun _ h9 => h9) | exact (fun _ h9 => .tail _ (.tail _ h9)) | exact Cut.sub (by assumption) | tb_start)))
  intro o2 way tw h2 tk2 ho2 hw0 hw1 F2 N2
  k_steps
  rename IsRange _ _ _ _ _ _ _ _ => hr
  rename Fr _ _ _ _ => lF
  (rename News _ _ _ _ => lN); have c0 := cut_of (src := src) lN (by repeat (first | exact Cut.here _ | apply Cut.there | apply Cut.app)); have c2 := cut_off c0 (by ktr_rel)
  have lM := news_sub lN c0.sub
  unfold Hold
  have hwy := n2 hw0 hw1
  refine iter_rangeM (n := way.toNat) [Str.ofString "head", Str.ofString "names", Str.ofString "own"] (ARJ src o ((Dn, W.listOf #[] 0) :: (L + 1, oc1) :: R) [(Dn, W.listOf #[] 0)] R0 t0) rfl lF lM hr (Int.toNat_of_nonneg hw0).symm (Nat.le_trans hwy (by decide)) ?_ ?_ ?_
  · exact ⟨o2, [], Dn, [], 0, v, t0, [], rfl, ho2, Above.nil, rfl, rfl, .head _, .nil, hT, .zero, fun _ h => (nomatch h), Nat.zero_le _⟩
  · intro i y m₁ u nx h3 tk3 I oI hi hJ off hu F3 N3
    refine cutT ?_
    intro Q9 hend _
    clear hret
    (refine ex8 (hJ) ?_; (try clear hJ); intro o3 tl3 l3 us3 c3 hv3 h3t ns3 h9; refine an4 h9 ?_; clear h9; rintro rfl ho3 ha3 hA)
    rw [st3, hu _ (by decide) (by decide), hu _ (by decide) (by decide), hA.mh, hA.mn] at F3
    clear lF lM lN hr
    have hAl1 := hA.list
    have hAs := hA.txts
    have hAt := hA.tree
    have hus6 : us3.length ≤ 6 := by rw [StrsAre.length hA.txts]; exact Nat.le_trans hA.size (Nat.mul_le_mul_left 3 (Nat.le_of_lt (Nat.lt_of_lt_of_le hi hwy)))
    clear hi hw0 hw1 hwy
    (refine Exists.elim (ar_map F3) ?_; intro mc h9; refine an4 h9 ?_; clear h9; rintro hmh hmn hmo F3)
    have N4 := news_sub (b := (L + 1, oc1) :: (src, o3) :: (I, oI) :: (tl3 ++ (Dn, W.listOf #[] 0) :: (L + 1, oc1) :: R)) N3 (by tb_start)
    have hI : Off src ((I, oI) :: (tl3 ++ (Dn, W.listOf #[] 0) :: (L + 1, oc1) :: R)) := Off.cons (Ne.symm (off _ (.head _))) (Off.app (ha3.off (.head _)) c2)
    have hAl : (l3, W.listOf us3.toArray c3) ∈ (I, oI) :: (tl3 ++ (Dn, W.listOf #[] 0) :: (L + 1, oc1) :: R) := .tail _ ((show ∀ p ∈ tl3 ++ [(Dn, W.listOf #[] 0)], p ∈ tl3 ++ (Dn, W.listOf #[] 0) :: (L + 1, oc1) :: R from by tb_start) _ hA.list)
    clear N3
    refine gen_eq ((I, oI) :: (tl3 ++ (Dn, W.listOf #[] 0) :: (L + 1, oc1) :: R)) ?_
    intro X hX
    rw [← hX] at N4 hI hAl
    k_steps
    (rename News _ _ _ _ => lN); have c0 := cut_of (src := src) lN (by repeat (first | exact Cut.here _ | apply Cut.there | apply Cut.app)); have c4 := cut_off c0 (by ktr_rel)
    (unfold Hold; k_dflt (refine' call_take c4 ho3 (by decide) (by decide) ?B ?F ?X ?N ?hs ?T ?kq9 ?d ?u ?_; (case B => k_asm); (case F => k_asm); (case X => k_asm); (case N => k_asm); (case T => k_asm); (case kq9 => first | exact rfl | assumption); (case d => ktr_room); (case u => ktr_units); (case hs => first | exact (fun _ h9 => h9) | exact (fun _ h9 => .tail _ (.tail _ h9)) | exact Cut.sub (by assumption) | tb_start)))
    intro o4 w4 tw4 h4 tk4 ho4 hw40 hw41 F4 N4
    k_steps
    · (rename News _ _ _ _ => lN); have c0 := cut_of (src := src) lN (by repeat (first | exact Cut.here _ | apply Cut.there | apply Cut.app)); have t0 := tail_of (R := (L + 1, oc1) :: X) c0 (by repeat (first | exact Tail.here | apply Tail.there | apply Tail.app)); refine hend _ ?_; refine' ar_turn (h := .expr (Str.ofString "::") [h3t, .sym (Str.ofString "Int")]) (by assumption) lN c0 hX t0 (by repeat' (first | exact Above.nil | (refine Above.cons ?_ ?_) | (refine Above.app ?_ ?_) | exact src_lt (by with_reducible assumption) (by kct_strs) (by intro p9 h9; repeat (first | exact h9 | refine List.mem_cons_of_mem _ ?_ | refine List.mem_append_right _ ?_)) | exact src_ne (by with_reducible assumption) (by kct_strs) (by intro p9 h9; repeat (first | exact h9 | refine List.mem_cons_of_mem _ ?_ | refine List.mem_append_right _ ?_)) | exact src_ab (by with_reducible assumption) (by kct_strs) (by intro p9 h9; repeat (first | exact h9 | refine List.mem_cons_of_mem _ ?_ | refine List.mem_append_right _ ?_)))) ha3 off  ho4 (fun z h1 h2 => by obtain ⟨a1, a2, a3⟩ := st3n h2; repeat (first | exact hmo z h1 a1 a2 a3 | refine (if_neg a1).trans ?_ | refine (if_neg a2).trans ?_ | refine (if_neg a3).trans ?_)) ?hA
      (case hA => exact ⟨by first | rfl | assumption, by first | rfl | assumption, mem_mid hAl1, hAs, (by repeat' (first | exact TreesIn.nil | refine TreesIn.cons _ _ _ _ ?_ ?_ | ((with_reducible show TreeIn _ _ (Tree.sym _)); exact TreeIn.sym _ _ _ _ _ (by kct_strs)) | ((with_reducible show TreeIn _ _ (Tree.int _)); exact TreeIn.int _ _ _ _ _ (by kct_strs)) | ((with_reducible show TreeIn _ _ (Tree.expr _ _)); refine TreeIn.expr _ _ _ _ _ _ _ _ _ (by kct_strs) (by kct_strs) ?_) | exact TreeIn.lift (by with_reducible assumption) (by tb_start))), .kind _ _ _ _ hA.wrap, hA.tsr, Nat.le_trans hA.size (Nat.mul_le_mul_left 3 (Nat.le_succ i))⟩)
    · unfold Hold
      k_dflt (refine assign_UH (F₀ := by k_asm) (by rfl) (by with_unfolding_all rfl) (by with_unfolding_all rfl) (by decide) (by rfl) (by decide) (by rfl) (by rfl) (by rfl) ?_ (by intro _; rfl))
      k_steps
      (rename News _ _ _ _ => lN); have c0 := cut_of (src := src) lN (by repeat (first | exact Cut.here _ | apply Cut.there | apply Cut.app)); have c5 := cut_off c0 (by ktr_rel)
      (unfold Hold; k_dflt (refine' call_take c5 ho4 (by decide) (by decide) ?B ?F ?X ?N ?hs ?T ?kq9 ?d ?u ?_; (case B => k_asm); (case F => k_asm); (case X => k_asm); (case N => k_asm); (case T => k_asm); (case kq9 => first | exact rfl | assumption); (case d => ktr_room); (case u => ktr_units); (case hs => first | exact (fun _ h9 => h9) | exact (fun _ h9 => .tail _ (.tail _ h9)) | exact Cut.sub (by assumption) | tb_start)))
      intro o5 w5 tw5 h5 tk5 ho5 hw50 hw51 F5 N5
      k_steps
      rename IsRange _ _ _ _ _ _ _ _ => hr
      rename Fr _ _ _ _ => lF
      (rename News _ _ _ _ => lN); have c0 := cut_of (src := src) lN (by repeat (first | exact Cut.here _ | apply Cut.there | apply Cut.app)); have c6 := cut_off c0 (by ktr_rel)
      (try unfold Hold); unfold SrcU
      refine src_range (n := (1 + w5).toNat) (fun _ Z y => ∃ x t, y = .str x t ∧ x ∈ TSR) (fun _ Z Z' y hs h => h) rfl lF lN c0 hr (n3e hw50) (Nat.le_trans (n3 hw50 hw51) (by decide)) ho5 c6 ?_ ?_
      · intro g1 i2 ys o6 tl6 I2 oI2 C oC D m₂ h6 tk6 E' hi2 ho6 hof hC F6 N6
        clear lF lN hr
        have N7 := news_one (L + 1, oc1) N6 (by kct_strs)
        clear N6
        k_steps
        (rename News _ _ _ _ => lN); have c0 := cut_of (src := src) lN (by repeat (first | exact Cut.here _ | apply Cut.there | apply Cut.app)); have c7 := cut_off c0 (by ktr_rel)
        (unfold Hold; k_dflt (refine' call_one (vs := [Value.str (Str.ofString "T") (tk6), Value.str (Str.ofString "S") (tk6 + 1), Value.str (Str.ofString "R") (tk6 + 1 + 1)]) (n := 0) c7 ho6 (.head _) (Nat.succ_pos _) (Nat.le_of_ble_eq_true rfl) ?B ?F ?X ?N ?hs ?T ?kq9 ?d ?u ?_; (case B => k_asm); (case F => k_asm); (case X => k_asm); (case N => k_asm); (case T => k_asm); (case kq9 => first | exact rfl | assumption); (case d => ktr_room); (case u => ktr_units); (case hs => first | exact (fun _ h9 => h9) | exact (fun _ h9 => .tail _ (.tail _ h9)) | exact Cut.sub (by assumption) | tb_start)))
        intro o7 i7 r7 h7 tk7 ho7 hi7 F7 N7
        (rename News _ _ _ _ => lN); have c0 := cut_of (src := src) lN (by repeat (first | exact Cut.here _ | apply Cut.there | apply Cut.app)); have t0 := tail_of (R := (L + 1, oc1) :: (I2, oI2) :: (C, oC) :: (D, LCg.lst ys) :: (tl6 ++ (L + 1, oc1) :: X)) c0 (by repeat (first | exact Tail.here | apply Tail.there | apply Tail.app)); have N9 := el_finP lN c0 t0; refine ⟨_, _, _, _, rfl, ?_, ?_, by assumption, N9, (by repeat' (first | exact Above.nil | (refine Above.cons ?_ ?_) | (refine Above.app ?_ ?_) | exact src_lt (by with_reducible assumption) (by kct_strs) (by intro p9 h9; repeat (first | exact h9 | refine List.mem_cons_of_mem _ ?_ | refine List.mem_append_right _ ?_)) | exact src_ne (by with_reducible assumption) (by kct_strs) (by intro p9 h9; repeat (first | exact h9 | refine List.mem_cons_of_mem _ ?_ | refine List.mem_append_right _ ?_)) | exact src_ab (by with_reducible assumption) (by kct_strs) (by intro p9 h9; repeat (first | exact h9 | refine List.mem_cons_of_mem _ ?_ | refine List.mem_append_right _ ?_))))⟩
        · exact ho7
        · exact tsr_pick hi7
      · intro g1 ys o6 tl6 ho6 hlen hab hrows D h6 tk6 F6 N6 o1
        clear lF lN hr
        have q6 := off1_all o1
        obtain ⟨own, hown, hownT, hownL⟩ := strs_pick hrows
        have hy3 : ys.length ≤ 3 := by rw [hlen]; exact n3 hw50 hw51
        clear hlen hw50 hw51
        k_steps
        rename Fr _ _ _ _ => lF
        (rename News _ _ _ _ => lN); have c0 := cut_of (src := src) lN (by repeat (first | exact Cut.here _ | apply Cut.there | apply Cut.app)); have c7 := cut_off c0 (by ktr_rel)
        unfold Hold SrcU
        refine src_each (fun i Z y => ∃ x t tr, ys[i]? = some (.str x t) ∧ TreeIn Z y tr ∧ Told' tr x) (fun _ Z Z' y hs h => let ⟨x, t, tr, a1, a2, a3⟩ := h; ⟨x, t, tr, a1, a2.mono hs, a3⟩) rfl lF lN c0 (ax := D) (vs := ys) (by kct_strs) (Nat.le_trans hy3 (by decide)) ho6 c7 ?_ ?_
        · intro g2 i3 v3 ys3 o7 tl7 I3 oI3 C3 oC3 D3 m₃ h7 tk7 E' hv3 ho7 hof7 hC3 hx3 F7 N7
          obtain ⟨x3, t3, rfl, hx3t⟩ := hrows i3 v3 hv3
          have N8 := news_one (L + 1, oc1) N7 (by kct_strs)
          clear N7
          clear lF lN
          k_steps
          (unfold Hold; k_dflt (refine' call_told hof7 ho7 ?B ?F ?X ?N ?hs ?T ?kq9 ?d ?u ?_; (case B => k_asm); (case F => k_asm); (case X => k_asm); (case N => k_asm); (case T => k_asm); (case kq9 => first | exact rfl | assumption); (case d => ktr_room); (case u => ktr_units); (case hs => first | exact (fun _ h9 => h9) | exact (fun _ h9 => .tail _ (.tail _ h9)) | exact Cut.sub (by assumption) | tb_start)))
          intro o8 tl8 r8 tr8 h8 tk8 ho8 hT8 ht8 ha8 F8 N8
          exact ⟨_, _, o8, tl8, rfl, ho8, ⟨x3, t3, tr8, hv3, hT8, ht8⟩, F8, N8, ha8⟩
        · intro g2 ys3 o7 tl7 ho7 hlen3 hab3 hrows3 D3 h7 tk7 F7 N7 o3
          clear lF lN
          obtain ⟨ts, hts, htold, htl⟩ := tolds_of hown hlen3 hrows3
          have hy33 : ys3.length ≤ 3 := by rw [hlen3]; exact hy3
          have hown3 : own.length ≤ 3 := by rw [hownL]; exact hy3
          have hts3 : ts.length ≤ 3 := by rw [htl]; exact hown3
          clear hlen3 hownL htl
          have q7 := off1_all o3
          k_steps
          (rename News _ _ _ _ => lN); have c0 := cut_of (src := src) lN (by repeat (first | exact Cut.here _ | apply Cut.there | apply Cut.app)); have t0 := tail_of (R := (L + 1, oc1) :: X) c0 (by repeat (first | exact Tail.here | apply Tail.there | apply Tail.app)); refine hend _ ?_; refine' ar_turn (h := .expr (Str.ofString "where") (h3t :: ts)) (ns := own ++ ns3) (by assumption) lN c0 hX t0 (by repeat' (first | exact Above.nil | (refine Above.cons ?_ ?_) | (refine Above.app ?_ ?_) | exact src_lt (by with_reducible assumption) (by kct_strs) (by intro p9 h9; repeat (first | exact h9 | refine List.mem_cons_of_mem _ ?_ | refine List.mem_append_right _ ?_)) | exact src_ne (by with_reducible assumption) (by kct_strs) (by intro p9 h9; repeat (first | exact h9 | refine List.mem_cons_of_mem _ ?_ | refine List.mem_append_right _ ?_)) | exact src_ab (by with_reducible assumption) (by kct_strs) (by intro p9 h9; repeat (first | exact h9 | refine List.mem_cons_of_mem _ ?_ | refine List.mem_append_right _ ?_)))) ha3 off  ho7 (fun z h1 h2 => by obtain ⟨a1, a2, a3⟩ := st3n h2; repeat (first | exact hmo z h1 a1 a2 a3 | refine (if_neg a1).trans ?_ | refine (if_neg a2).trans ?_ | refine (if_neg a3).trans ?_)) ?hA
          (case hA => exact ⟨by first | rfl | assumption, by first | rfl | assumption, (by kct_strs), StrsAre.append' hown hAs, TreeIn.expr _ _ _ _ _ _ _ _ _ (by kct_strs) (by kct_strs) (TreesIn.cons _ _ _ _ (hAt.lift (by tb_start)) (hts.mono (by tb_start))), .wh _ _ _ _ _ hA.wrap htold hts3, fun z hz => (List.mem_append.mp hz).elim (hownT z) (hA.tsr z), by rw [List.length_append, Nat.mul_succ, Nat.add_comm]; exact Nat.add_le_add hA.size hown3⟩)
  · intro m₁ u nx h3 tk3 hJ hu F3 N3
    (refine ex8 (hJ) ?_; (try clear hJ); intro o3 tl3 l3 us3 c3 hv3 h3t ns3 h9; refine an4 h9 ?_; clear h9; rintro rfl ho3 ha3 hA)
    rw [st3d, hu (Str.ofString "head") (by decide) (by decide), hu (Str.ofString "names") (by decide) (by decide), hA.mh, hA.mn] at F3
    clear lF lM lN hr
    k_steps
    (rename News _ _ _ _ => lN); have c0 := cut_of (src := src) lN (by repeat (first | exact Cut.here _ | apply Cut.there | apply Cut.app)); have t0 := tail_of (R := R) c0 (by repeat (first | exact Tail.here | apply Tail.there | apply Tail.app)); refine fin_C hret (by assumption) lN c0 t0 (by repeat' (first | exact Above.nil | (refine Above.cons ?_ ?_) | (refine Above.app ?_ ?_) | exact src_lt (by with_reducible assumption) (by kct_strs) (by intro p9 h9; repeat (first | exact h9 | refine List.mem_cons_of_mem _ ?_ | refine List.mem_append_right _ ?_)) | exact src_ne (by with_reducible assumption) (by kct_strs) (by intro p9 h9; repeat (first | exact h9 | refine List.mem_cons_of_mem _ ?_ | refine List.mem_append_right _ ?_)) | exact src_ab (by with_reducible assumption) (by kct_strs) (by intro p9 h9; repeat (first | exact h9 | refine List.mem_cons_of_mem _ ?_ | refine List.mem_append_right _ ?_)))) ?_
    have hz := hA.size
    refine ⟨ho3, _, l3, us3, c3, _, hv3, h3t, _, ns3, rfl, (by kct_strs), ?_, hA.txts, hA.tree.lift (by tb_start), hA.wrap, hA.tsr, Nat.le_trans hz (Nat.mul_le_mul_left 3 hwy)⟩
    exact (show ∀ p ∈ tl3 ++ [(Dn, W.listOf #[] 0)], p ∈ _ from by tb_start) _ hA.list
section
variable {w : World} {mean : ExcName → Option Value} {mg mb : Str → Option Value} {R news : List (Addr × Obj)}
  {dp un : Nat} {gd : Option (List Code)} {cn : Str} {cs : Scope} {a : Addr} {ccd : Value} {cl : List (Str × Addr)} {outer : List Env} {A₀ : Around} {base h₀ : Heap} {L : Addr} {m : Str → Option Value} {g : Heap} {gn : Array GenState} {dr : Drawn} {tk : Nat} {os : OsState}
  {Q E : Value → Shared → Prop}
theorem call_around {src : Addr} {o : Obj} {v : Addr} {t0 : Tree} {R0 : List (Addr × Obj)} (hne : Off src R) (ho : SrcO o) (hT : TreeIn R0 (.ref v) t0) (B : Below A₀ base outer h₀) (F : Fr h₀ L g m) (X : (hd.heap_39 w.params).In h₀) (N : News h₀ L g news) (hs : ∀ p ∈ (src, o) :: R, p ∈ news) (T : Top hd.view_39 (looseW hd.view_39 []) mean mg mb h₀) (hk : cs.kind = .function) (hd' : dp + 14 < recursionLimit) (hu : un + 160 < cLine)
    (ret : ∀ o' tl b l us c n hv h k ns h' tk', SrcO o' → (b, tupO #[.ref hv, .ref l] n) ∈ tl → (l, listOf (List.toArray us) c) ∈ tl → StrsAre us ns → TreeIn (tl ++ R0) (.ref hv) h → Wrapped t0 k h ns → (∀ y ∈ ns, y ∈ TSR) → ns.length ≤ 6 → Above ((src, o) :: R) tl → Fr h₀ L h' m → News h₀ L h' ((src, o') :: (tl ++ R)) → Q (.ref b) ⟨h', gn, dr, tk', os⟩) : wpAny (model PySem.Challenge.rw_xm0685_01.row.prog w) (ktrTop dp un gd cn cs L a ccd cl outer) (call (.ref 155) [.ref src, .ref v]) Q E ⟨g, gn, dr, tk, os⟩ := by
  refine use_S (around_spec w mean mg mb hne ho hT) B F X N hs T hk hd' hu ?_
  rintro r o' tl h' tk' ⟨ho', h8⟩ ha F' N'
  (refine ex9 (h8) ?_; (try clear h8); intro b l us c n hv h k ns h9; refine an8 h9 ?_; clear h9; rintro rfl h1 h2 h3 h4 h5 h6 h7)
  exact ret o' tl b l us c n hv h k ns h' tk' ho' h1 h2 h3 h4 h5 h6 h7 ha F' N'
end
theorem words_23 : hd.heap_39 = hd.heap_39 ∧ PySem.Challenge.rw_xm0685_01 = PySem.Challenge.rw_xm0685_01 := by
  k_fill
  (k_with "my compareOp NotEq ref ref" => (k_here; refine hold_intro ?_))
  exact ⟨rfl, rfl⟩
inductive FnTree : Tree → Str → Prop
  | fn (inner h q : Tree) (nm : Str) (j : Nat) (ns : List Str) : Inner inner nm → Wrapped inner j h ns → FnTree (.expr (Str.ofString "function") [h, q]) nm
  | gen (inner h q : Tree) (nm : Str) (j : Nat) (ns : List Str) : Inner inner nm → Wrapped inner j h ns → FnTree (.expr (Str.ofString "generated") [.expr (Str.ofString "function") [h, q]]) nm
  | arrow (ps : List Tree) : FnTree (.expr (Str.ofString "->") ps) (Str.ofString "")
theorem tsr_ok {ns : List Str} (h : ∀ y ∈ ns, y ∈ TSR) : NOk (putOnce [] ns) := by
  have k : ∀ y ∈ TSR, PyData.strOk y = true := by
    intro y hy
    simp only [TSR, List.mem_cons, List.not_mem_nil, or_false] at hy
    rcases hy with rfl | rfl | rfl <;> decide +kernel
  intro x hx
  rcases put_mem hx with hx | hx
  · exact nomatch hx
  · exact k x (h x hx)
theorem function_spec (w : World) (mean mg mb) {src : Addr} {o : Obj} {R : List (Addr × Obj)} (hne : Off src R) (ho : SrcO o) :
    EndsS w mean mg mb 162 24 400 [.ref src] src o R (fun o' tl r => SrcO o' ∧ ∃ a v n x tk tree, r = .ref a ∧ (a, tupO #[.ref v, .str x tk] n) ∈ tl ∧ TreeIn tl (.ref v) tree ∧ FnTree tree x ∧ PyData.strOk x = true) := by
  (k_dflt (refine' ends_fn ?zo ?zc ?zb ?zm ?zl ?z1 ?z2 ?z3 ?z4 ?_; (case zo => k_is); (case zc => k_is); (case zb => exact fun _ => BindsTo.of_eq rfl); (case zm => exact rfl); (case zl => exact locs rfl); (case z1 => exact rfl); (case z2 => exact rfl); (case z3 => exact rfl); (case z4 => decide); intro dp un gd outer A₀ base h₀ L g gn dr tk os Q B F X N T hd hu hret); k_steps)
  (unfold Hold; k_dflt (refine' call_head hne ho ?B ?F ?X ?N ?hs ?T ?kq9 ?d ?u ?_; (case B => k_asm); (case F => k_asm); (case X => k_asm); (case N => k_asm); (case T => k_asm); (case kq9 => first | exact rfl | assumption); (case d => ktr_room); (case u => ktr_units); (case hs => first | exact (fun _ h9 => h9) | exact (fun _ h9 => .tail _ (.tail _ h9)) | exact Cut.sub (by assumption) | tb_start)))
  intro o2 tl2 a2 v2 n2 x2 t2 inner h2 tk2 ho2 hm2 hT2 hI hxo ha2 F2 N2
  obtain ⟨c2, rfl⟩ := hI.ref hT2
  k_steps
  (rename News _ _ _ _ => lN); have c0 := cut_of (src := src) lN (by repeat (first | exact Cut.here _ | apply Cut.there | apply Cut.app)); have c3 := cut_off c0 (by ktr_rel)
  (unfold Hold; k_dflt (refine' call_around (t0 := inner) c3 ho2 hT2 ?B ?F ?X ?N ?hs ?T ?kq9 ?d ?u ?_; (case B => k_asm); (case F => k_asm); (case X => k_asm); (case N => k_asm); (case T => k_asm); (case kq9 => first | exact rfl | assumption); (case d => ktr_room); (case u => ktr_units); (case hs => first | exact (fun _ h9 => h9) | exact (fun _ h9 => .tail _ (.tail _ h9)) | exact Cut.sub (by assumption) | tb_start)))
  intro o3 tl3 a3 l3 us3 c3' n3 hv3 h3t k3 ns3 h3 tk3 ho3 hm3 hl3 hs3 hT3 hW3 hts3 hz3 ha3 F3 N3
  k_steps
  (unfold Hold; k_dflt (refine' use_RL (wn_spec w mean mg mb (.of hI) hW3 (by omega) ?t99) ?B ?F ?X ?N ?T ?kq9 ?d ?u ?_; (case B => k_asm); (case F => k_asm); (case X => k_asm); (case N => k_asm); (case T => k_asm); (case kq9 => first | exact rfl | assumption); (case d => ktr_room); (case u => ktr_units)))
  (case t99 => ktn_open)
  intro b4 us4 n4 tl4 h4 tk4 hm4 hs4 ha4 F4 N4
  k_steps
  (unfold Hold; k_dflt (refine' use_RL (once_spec w mean mg mb ?l hs3 (by omega)) ?B ?F ?X ?N ?T ?kq9 ?d ?u ?_; (case B => k_asm); (case F => k_asm); (case X => k_asm); (case N => k_asm); (case T => k_asm); (case kq9 => first | exact rfl | assumption); (case d => ktr_room); (case u => ktr_units)))
  (case l => kct_strs)
  intro b5 us5 n5 tl5 h5 tk5 hm5 hs5 ha5 F5 N5
  k_steps
  unfold Hold
  refine ne_strs (by k_asm) (by kct_strs) (by kct_strs) hs4 hs5 (tsr_ok hts3) (by ktr_units) ?_
  k_steps
  (rename News _ _ _ _ => lN); have c0 := cut_of (src := src) lN (by repeat (first | exact Cut.here _ | apply Cut.there | apply Cut.app)); have c6 := cut_off c0 (by ktr_rel)
  (unfold Hold; k_dflt (refine' call_take c6 ho3 (by decide) (by decide) ?B ?F ?X ?N ?hs ?T ?kq9 ?d ?u ?_; (case B => k_asm); (case F => k_asm); (case X => k_asm); (case N => k_asm); (case T => k_asm); (case kq9 => first | exact rfl | assumption); (case d => ktr_room); (case u => ktr_units); (case hs => first | exact (fun _ h9 => h9) | exact (fun _ h9 => .tail _ (.tail _ h9)) | exact Cut.sub (by assumption) | tb_start)))
  intro o6 w6 tw6 h6 tk6 ho6 hw60 hw61 F6 N6
  k_steps
  · (rename News _ _ _ _ => lN); have c0 := cut_of (src := src) lN (by repeat (first | exact Cut.here _ | apply Cut.there | apply Cut.app)); have t0 := tail_of (R := R) c0 (by repeat (first | exact Tail.here | apply Tail.there | apply Tail.app)); refine fin_C hret (by assumption) lN c0 t0 (by repeat' (first | exact Above.nil | (refine Above.cons ?_ ?_) | (refine Above.app ?_ ?_) | exact src_lt (by with_reducible assumption) (by kct_strs) (by intro p9 h9; repeat (first | exact h9 | refine List.mem_cons_of_mem _ ?_ | refine List.mem_append_right _ ?_)) | exact src_ne (by with_reducible assumption) (by kct_strs) (by intro p9 h9; repeat (first | exact h9 | refine List.mem_cons_of_mem _ ?_ | refine List.mem_append_right _ ?_)) | exact src_ab (by with_reducible assumption) (by kct_strs) (by intro p9 h9; repeat (first | exact h9 | refine List.mem_cons_of_mem _ ?_ | refine List.mem_append_right _ ?_)))) ?_
    refine ⟨ho6, ?_⟩
    exact ⟨_, _, _, _, _, .expr (Str.ofString "->") [inner, .sym (Str.ofString "x")], rfl, (by kct_strs), (by repeat' (first | exact TreesIn.nil | refine TreesIn.cons _ _ _ _ ?_ ?_ | ((with_reducible show TreeIn _ _ (Tree.sym _)); exact TreeIn.sym _ _ _ _ _ (by kct_strs)) | ((with_reducible show TreeIn _ _ (Tree.int _)); exact TreeIn.int _ _ _ _ _ (by kct_strs)) | ((with_reducible show TreeIn _ _ (Tree.expr _ _)); refine TreeIn.expr _ _ _ _ _ _ _ _ _ (by kct_strs) (by kct_strs) ?_) | exact TreeIn.lift (by with_reducible assumption) (by tb_start))), .arrow _, by decide +kernel⟩
  · (rename News _ _ _ _ => lN); have c0 := cut_of (src := src) lN (by repeat (first | exact Cut.here _ | apply Cut.there | apply Cut.app)); have c7 := cut_off c0 (by ktr_rel)
    (unfold Hold; k_dflt (refine' call_take c7 ho6 (by decide) (by decide) ?B ?F ?X ?N ?hs ?T ?kq9 ?d ?u ?_; (case B => k_asm); (case F => k_asm); (case X => k_asm); (case N => k_asm); (case T => k_asm); (case kq9 => first | exact rfl | assumption); (case d => ktr_room); (case u => ktr_units); (case hs => first | exact (fun _ h9 => h9) | exact (fun _ h9 => .tail _ (.tail _ h9)) | exact Cut.sub (by assumption) | tb_start)))
    intro o7 w7 tw7 h7 tk7 ho7 hw70 hw71 F7 N7
    k_steps
    · (rename News _ _ _ _ => lN); have c0 := cut_of (src := src) lN (by repeat (first | exact Cut.here _ | apply Cut.there | apply Cut.app)); have t0 := tail_of (R := R) c0 (by repeat (first | exact Tail.here | apply Tail.there | apply Tail.app)); refine fin_C hret (by assumption) lN c0 t0 (by repeat' (first | exact Above.nil | (refine Above.cons ?_ ?_) | (refine Above.app ?_ ?_) | exact src_lt (by with_reducible assumption) (by kct_strs) (by intro p9 h9; repeat (first | exact h9 | refine List.mem_cons_of_mem _ ?_ | refine List.mem_append_right _ ?_)) | exact src_ne (by with_reducible assumption) (by kct_strs) (by intro p9 h9; repeat (first | exact h9 | refine List.mem_cons_of_mem _ ?_ | refine List.mem_append_right _ ?_)) | exact src_ab (by with_reducible assumption) (by kct_strs) (by intro p9 h9; repeat (first | exact h9 | refine List.mem_cons_of_mem _ ?_ | refine List.mem_append_right _ ?_)))) ?_
      refine ⟨ho7, ?_⟩
      exact ⟨_, _, _, _, _, .expr (Str.ofString "generated") [.expr (Str.ofString "function") [h3t, .sym (Str.ofString "x")]], rfl, (by kct_strs), (by repeat' (first | exact TreesIn.nil | refine TreesIn.cons _ _ _ _ ?_ ?_ | ((with_reducible show TreeIn _ _ (Tree.sym _)); exact TreeIn.sym _ _ _ _ _ (by kct_strs)) | ((with_reducible show TreeIn _ _ (Tree.int _)); exact TreeIn.int _ _ _ _ _ (by kct_strs)) | ((with_reducible show TreeIn _ _ (Tree.expr _ _)); refine TreeIn.expr _ _ _ _ _ _ _ _ _ (by kct_strs) (by kct_strs) ?_) | exact TreeIn.lift (by with_reducible assumption) (by tb_start))), .gen _ _ _ _ _ _ hI hW3, hxo⟩
    · (rename News _ _ _ _ => lN); have c0 := cut_of (src := src) lN (by repeat (first | exact Cut.here _ | apply Cut.there | apply Cut.app)); have t0 := tail_of (R := R) c0 (by repeat (first | exact Tail.here | apply Tail.there | apply Tail.app)); refine fin_C hret (by assumption) lN c0 t0 (by repeat' (first | exact Above.nil | (refine Above.cons ?_ ?_) | (refine Above.app ?_ ?_) | exact src_lt (by with_reducible assumption) (by kct_strs) (by intro p9 h9; repeat (first | exact h9 | refine List.mem_cons_of_mem _ ?_ | refine List.mem_append_right _ ?_)) | exact src_ne (by with_reducible assumption) (by kct_strs) (by intro p9 h9; repeat (first | exact h9 | refine List.mem_cons_of_mem _ ?_ | refine List.mem_append_right _ ?_)) | exact src_ab (by with_reducible assumption) (by kct_strs) (by intro p9 h9; repeat (first | exact h9 | refine List.mem_cons_of_mem _ ?_ | refine List.mem_append_right _ ?_)))) ?_
      refine ⟨ho7, ?_⟩
      exact ⟨_, _, _, _, _, .expr (Str.ofString "function") [h3t, .sym (Str.ofString "x")], rfl, (by kct_strs), (by repeat' (first | exact TreesIn.nil | refine TreesIn.cons _ _ _ _ ?_ ?_ | ((with_reducible show TreeIn _ _ (Tree.sym _)); exact TreeIn.sym _ _ _ _ _ (by kct_strs)) | ((with_reducible show TreeIn _ _ (Tree.int _)); exact TreeIn.int _ _ _ _ _ (by kct_strs)) | ((with_reducible show TreeIn _ _ (Tree.expr _ _)); refine TreeIn.expr _ _ _ _ _ _ _ _ _ (by kct_strs) (by kct_strs) ?_) | exact TreeIn.lift (by with_reducible assumption) (by tb_start))), .fn _ _ _ _ _ _ hI hW3, hxo⟩
section
variable {w : World} {mean : ExcName → Option Value} {mg mb : Str → Option Value} {R news : List (Addr × Obj)}
  {dp un : Nat} {gd : Option (List Code)} {cn : Str} {cs : Scope} {a : Addr} {ccd : Value} {cl : List (Str × Addr)} {outer : List Env} {A₀ : Around} {base h₀ : Heap} {L : Addr} {m : Str → Option Value} {g : Heap} {gn : Array GenState} {dr : Drawn} {tk : Nat} {os : OsState}
  {Q E : Value → Shared → Prop}
theorem call_function {src : Addr} {o : Obj} (hne : Off src R) (ho : SrcO o) (B : Below A₀ base outer h₀) (F : Fr h₀ L g m) (X : (hd.heap_39 w.params).In h₀) (N : News h₀ L g news) (hs : ∀ p ∈ (src, o) :: R, p ∈ news) (T : Top hd.view_39 (looseW hd.view_39 []) mean mg mb h₀) (hk : cs.kind = .function) (hd' : dp + 24 < recursionLimit) (hu : un + 400 < cLine)
    (ret : ∀ o' tl b v n x tx tree h' tk', SrcO o' → (b, tupO #[.ref v, .str x tx] n) ∈ tl → TreeIn tl (.ref v) tree → FnTree tree x → PyData.strOk x = true → Above ((src, o) :: R) tl → Fr h₀ L h' m → News h₀ L h' ((src, o') :: (tl ++ R)) → Q (.ref b) ⟨h', gn, dr, tk', os⟩) : wpAny (model PySem.Challenge.rw_xm0685_01.row.prog w) (ktrTop dp un gd cn cs L a ccd cl outer) (call (.ref 162) [.ref src]) Q E ⟨g, gn, dr, tk, os⟩ := by
  refine use_S (function_spec w mean mg mb hne ho) B F X N hs T hk hd' hu ?_
  rintro r o' tl h' tk' ⟨ho', b, v, n, x, tx, tree, rfl, h1, h2, h3, h4⟩ ha F' N'
  exact ret o' tl b v n x tx tree h' tk' ho' h1 h2 h3 h4 ha F' N'
end
theorem tsr_one {x : Str} (h : PyData.strOk x = true) : NOk (nmL x) := by
  intro y hy
  unfold nmL at hy
  split at hy
  · exact nomatch hy
  · rw [List.mem_singleton.mp hy]; exact h
theorem abc_nok {ns : List Str} (h : ∀ y ∈ ns, y ∈ ABC) : NOk ns := by
  have k : ∀ y ∈ ABC, PyData.strOk y = true := by
    intro y hy
    simp only [ABC, List.mem_cons, List.not_mem_nil, or_false] at hy
    rcases hy with rfl | rfl | rfl | rfl | rfl <;> decide +kernel
  exact fun x hx => k x (h x hx)
theorem nok_once {ns : List Str} (h : NOk ns) : NOk (putOnce [] ns) := fun x hx => by
  rcases put_mem hx with hx | hx
  · exact nomatch hx
  · exact h x hx
theorem nmL_once (x : Str) : putOnce [] (nmL x) = nmL x := by unfold nmL; split <;> rfl
theorem nmL_yes {x : Str} (h : (x != Str.ofString "") = true) : nmL x = [x] := by
  unfold nmL; rw [if_neg]; intro e; simp [bne, e] at h
theorem nmL_no {x : Str} (h : (x != Str.ofString "") = false) : nmL x = [] := by
  unfold nmL; rw [if_pos]; simpa [bne] using h
theorem nmL_len (x : Str) : (nmL x).length ≤ 1 := by unfold nmL; split <;> simp
theorem FnTree.decl {t : Tree} {x : Str} (h : FnTree t x) : Decl 0 t (nmL x) := by
  cases h with
  | fn inner h q nm j ns h1 h2 => exact .fn _ _ _ _ _ _ _ h1 h2
  | gen inner h q nm j ns h1 h2 => exact .gen _ _ _ _ _ _ _ h1 h2
  | arrow ps => exact .arrow _ _
structure QOk (R : List (Addr × Obj)) (r : PR) : Prop where
  row : (r.a, tupO #[r.v, .ref r.l] r.n) ∈ R
  tree : TreeIn R r.v r.t
  list : (r.l, listOf r.us.toArray r.c) ∈ R
  txts : StrsAre r.us r.raw
  ok : Decl 0 r.t (putOnce [] r.raw)
  size : r.raw.length ≤ 16
  nok : NOk r.raw
theorem QOk.mono {R R' : List (Addr × Obj)} {r : PR} (h : QOk R r) (s : ∀ p ∈ R, p ∈ R') : QOk R' r := ⟨s _ h.row, h.tree.mono s, s _ h.list, h.txts, h.ok, h.size, h.nok⟩
theorem q_mk {R' : List (Addr × Obj)} {a : Addr} {v : Value} {t : Tree} {l : Addr} {us : List Value} {n c : Nat} {raw : List Str} (row : (a, tupO #[v, .ref l] n) ∈ R') (tree : TreeIn R' v t) (list : (l, listOf us.toArray c) ∈ R') (txts : StrsAre us raw) (ok : Decl 0 t (putOnce [] raw)) (size : raw.length ≤ 16) (nok : NOk raw) :
    ∃ pr : PR, Value.ref a = .ref pr.a ∧ QOk R' pr := ⟨⟨a, v, t, l, us, n, c, raw⟩, rfl, row, tree, list, txts, ok, size, nok⟩
theorem ups_pick {tk : Tok} {i : Nat} {r : Value} (h : ([Value.str (Str.ofString "=") (tk), Value.str (Str.ofString "+=") (tk + 1), Value.str (Str.ofString "-=") (tk + 1 + 1), Value.str (Str.ofString "*=") (tk + 1 + 1 + 1), Value.str (Str.ofString "//=") (tk + 1 + 1 + 1 + 1), Value.str (Str.ofString "%=") (tk + 1 + 1 + 1 + 1 + 1), Value.str (Str.ofString "|=") (tk + 1 + 1 + 1 + 1 + 1 + 1), Value.str (Str.ofString "&=") (tk + 1 + 1 + 1 + 1 + 1 + 1 + 1)])[i]? = some r) : ∃ x t, r = .str x t ∧ (UPS.any (· == x)) = true :=
  (strs_any (xs := UPS) (by repeat' first | exact StrsAre.nil | refine StrsAre.cons _ _ ?_) (List.mem_of_getElem? h)).imp fun x h => h.imp fun _ h => h.imp id fun h => List.any_eq_true.mpr ⟨x, h, beq_self_eq_true x⟩
theorem part_spec (w : World) (mean mg mb) {src : Addr} {o : Obj} {R : List (Addr × Obj)} (hne : Off src R) (ho : SrcO o) :
    EndsS w mean mg mb 169 50 600 [.ref src] src o R (fun o' tl r => SrcO o' ∧ ∃ pr : PR, r = .ref pr.a ∧ QOk tl pr) := by
  (k_dflt (refine' ends_fn ?zo ?zc ?zb ?zm ?zl ?z1 ?z2 ?z3 ?z4 ?_; (case zo => k_is); (case zc => k_is); (case zb => exact fun _ => BindsTo.of_eq rfl); (case zm => exact rfl); (case zl => exact locs rfl); (case z1 => exact rfl); (case z2 => exact rfl); (case z3 => exact rfl); (case z4 => decide); intro dp un gd outer A₀ base h₀ L g gn dr tk os Q B F X N T hd hu hret); k_steps)
  (unfold Hold; k_dflt (refine' call_take hne ho (by decide) (by decide) ?B ?F ?X ?N ?hs ?T ?kq9 ?d ?u ?_; (case B => k_asm); (case F => k_asm); (case X => k_asm); (case N => k_asm); (case T => k_asm); (case kq9 => first | exact rfl | assumption); (case d => ktr_room); (case u => ktr_units); (case hs => first | exact (fun _ h9 => h9) | exact (fun _ h9 => .tail _ (.tail _ h9)) | exact Cut.sub (by assumption) | tb_start)))
  intro o2 way tw h2 tk2 ho2 hw0 hw1 F2 N2
  k_steps
  · (rename News _ _ _ _ => lN); have c0 := cut_of (src := src) lN (by repeat (first | exact Cut.here _ | apply Cut.there | apply Cut.app)); have c3 := cut_off c0 (by ktr_rel)
    (unfold Hold; k_dflt (refine' call_function c3 ho2 ?B ?F ?X ?N ?hs ?T ?kq9 ?d ?u ?_; (case B => k_asm); (case F => k_asm); (case X => k_asm); (case N => k_asm); (case T => k_asm); (case kq9 => first | exact rfl | assumption); (case d => ktr_room); (case u => ktr_units); (case hs => first | exact (fun _ h9 => h9) | exact (fun _ h9 => .tail _ (.tail _ h9)) | exact Cut.sub (by assumption) | tb_start)))
    intro o3 tl3 a3 v3 n3 x3 t3 tr3 h3 tk3 ho3 hm3 hT3 hF3 hx3 ha3 F3 N3
    k_steps
    · (rename News _ _ _ _ => lN); have c0 := cut_of (src := src) lN (by repeat (first | exact Cut.here _ | apply Cut.there | apply Cut.app)); have t0 := tail_of (R := R) c0 (by repeat (first | exact Tail.here | apply Tail.there | apply Tail.app)); refine fin_C hret (by assumption) lN c0 t0 (by repeat' (first | exact Above.nil | (refine Above.cons ?_ ?_) | (refine Above.app ?_ ?_) | exact src_lt (by with_reducible assumption) (by kct_strs) (by intro p9 h9; repeat (first | exact h9 | refine List.mem_cons_of_mem _ ?_ | refine List.mem_append_right _ ?_)) | exact src_ne (by with_reducible assumption) (by kct_strs) (by intro p9 h9; repeat (first | exact h9 | refine List.mem_cons_of_mem _ ?_ | refine List.mem_append_right _ ?_)) | exact src_ab (by with_reducible assumption) (by kct_strs) (by intro p9 h9; repeat (first | exact h9 | refine List.mem_cons_of_mem _ ?_ | refine List.mem_append_right _ ?_)))) ?_
      refine ⟨ho3, ?_⟩
      exact q_mk (t := tr3) (raw := nmL x3) (by kct_strs) (hT3.lift (by tb_start)) (by kct_strs) (by rw [nmL_yes (by assumption)]; exact .cons _ _ .nil) (by rw [nmL_once]; exact hF3.decl) (Nat.le_trans (nmL_len x3) (by decide)) (tsr_one hx3)
    · (rename News _ _ _ _ => lN); have c0 := cut_of (src := src) lN (by repeat (first | exact Cut.here _ | apply Cut.there | apply Cut.app)); have t0 := tail_of (R := R) c0 (by repeat (first | exact Tail.here | apply Tail.there | apply Tail.app)); refine fin_C hret (by assumption) lN c0 t0 (by repeat' (first | exact Above.nil | (refine Above.cons ?_ ?_) | (refine Above.app ?_ ?_) | exact src_lt (by with_reducible assumption) (by kct_strs) (by intro p9 h9; repeat (first | exact h9 | refine List.mem_cons_of_mem _ ?_ | refine List.mem_append_right _ ?_)) | exact src_ne (by with_reducible assumption) (by kct_strs) (by intro p9 h9; repeat (first | exact h9 | refine List.mem_cons_of_mem _ ?_ | refine List.mem_append_right _ ?_)) | exact src_ab (by with_reducible assumption) (by kct_strs) (by intro p9 h9; repeat (first | exact h9 | refine List.mem_cons_of_mem _ ?_ | refine List.mem_append_right _ ?_)))) ?_
      refine ⟨ho3, ?_⟩
      exact q_mk (t := tr3) (raw := nmL x3) (by kct_strs) (hT3.lift (by tb_start)) (by kct_strs) (by rw [nmL_no (by assumption)]; exact .nil) (by rw [nmL_once]; exact hF3.decl) (Nat.le_trans (nmL_len x3) (by decide)) (tsr_one hx3)
  · (rename News _ _ _ _ => lN); have c0 := cut_of (src := src) lN (by repeat (first | exact Cut.here _ | apply Cut.there | apply Cut.app)); have c3 := cut_off c0 (by ktr_rel)
    (unfold Hold; k_dflt (refine' call_place (place_all w mean mg mb 2 (by decide)) rfl c3 ho2 ?B ?F ?X ?N ?hs ?T ?kq9 ?d ?u ?_; (case B => k_asm); (case F => k_asm); (case X => k_asm); (case N => k_asm); (case T => k_asm); (case kq9 => first | exact rfl | assumption); (case d => ktr_room); (case u => ktr_units); (case hs => first | exact (fun _ h9 => h9) | exact (fun _ h9 => .tail _ (.tail _ h9)) | exact Cut.sub (by assumption) | tb_start)))
    intro o3 tl3 ra rv rt rl rus rn rc rraw h3 tk3 ho3 hrow htree hlist htxts hok ha3 F3 N3
    obtain ⟨rvc, rfl⟩ := hok.ref htree
    k_steps
    · (rename News _ _ _ _ => lN); have c0 := cut_of (src := src) lN (by repeat (first | exact Cut.here _ | apply Cut.there | apply Cut.app)); have c4 := cut_off c0 (by ktr_rel)
      (unfold Hold; k_dflt (refine' call_one (n := 0) c4 ho3 (.head _) (by simp) (by simp) ?B ?F ?X ?N ?hs ?T ?kq9 ?d ?u ?_; (case B => k_asm); (case F => k_asm); (case X => k_asm); (case N => k_asm); (case T => k_asm); (case kq9 => first | exact rfl | assumption); (case d => ktr_room); (case u => ktr_units); (case hs => first | exact (fun _ h9 => h9) | exact (fun _ h9 => .tail _ (.tail _ h9)) | exact Cut.sub (by assumption) | tb_start)))
      intro o4 i4 r4 h4 tk4 ho4 hi4 F4 N4
      obtain ⟨sg, tsg, rfl, hsg⟩ := ups_pick hi4
      clear hi4
      k_steps
      (rename News _ _ _ _ => lN); have c0 := cut_of (src := src) lN (by repeat (first | exact Cut.here _ | apply Cut.there | apply Cut.app)); have t0 := tail_of (R := R) c0 (by repeat (first | exact Tail.here | apply Tail.there | apply Tail.app)); refine fin_C hret (by assumption) lN c0 t0 (by repeat' (first | exact Above.nil | (refine Above.cons ?_ ?_) | (refine Above.app ?_ ?_) | exact src_lt (by with_reducible assumption) (by kct_strs) (by intro p9 h9; repeat (first | exact h9 | refine List.mem_cons_of_mem _ ?_ | refine List.mem_append_right _ ?_)) | exact src_ne (by with_reducible assumption) (by kct_strs) (by intro p9 h9; repeat (first | exact h9 | refine List.mem_cons_of_mem _ ?_ | refine List.mem_append_right _ ?_)) | exact src_ab (by with_reducible assumption) (by kct_strs) (by intro p9 h9; repeat (first | exact h9 | refine List.mem_cons_of_mem _ ?_ | refine List.mem_append_right _ ?_)))) ?_
      refine ⟨ho4, ?_⟩
      exact q_mk (t := .expr sg [rt, .sym (Str.ofString "z")]) (by kct_strs) (by repeat' (first | exact TreesIn.nil | refine TreesIn.cons _ _ _ _ ?_ ?_ | ((with_reducible show TreeIn _ _ (Tree.sym _)); exact TreeIn.sym _ _ _ _ _ (by kct_strs)) | ((with_reducible show TreeIn _ _ (Tree.int _)); exact TreeIn.int _ _ _ _ _ (by kct_strs)) | ((with_reducible show TreeIn _ _ (Tree.expr _ _)); refine TreeIn.expr _ _ _ _ _ _ _ _ _ (by kct_strs) (by kct_strs) ?_) | exact TreeIn.lift (by with_reducible assumption) (by tb_start))) (by kct_strs) htxts (.upd _ _ _ _ _ hok.nms hsg) (Nat.le_trans hok.size (by decide)) (abc_nok hok.abc)
    · (rename News _ _ _ _ => lN); have c0 := cut_of (src := src) lN (by repeat (first | exact Cut.here _ | apply Cut.there | apply Cut.app)); have t0 := tail_of (R := R) c0 (by repeat (first | exact Tail.here | apply Tail.there | apply Tail.app)); refine fin_C hret (by assumption) lN c0 t0 (by repeat' (first | exact Above.nil | (refine Above.cons ?_ ?_) | (refine Above.app ?_ ?_) | exact src_lt (by with_reducible assumption) (by kct_strs) (by intro p9 h9; repeat (first | exact h9 | refine List.mem_cons_of_mem _ ?_ | refine List.mem_append_right _ ?_)) | exact src_ne (by with_reducible assumption) (by kct_strs) (by intro p9 h9; repeat (first | exact h9 | refine List.mem_cons_of_mem _ ?_ | refine List.mem_append_right _ ?_)) | exact src_ab (by with_reducible assumption) (by kct_strs) (by intro p9 h9; repeat (first | exact h9 | refine List.mem_cons_of_mem _ ?_ | refine List.mem_append_right _ ?_)))) ?_
      refine ⟨ho3, ?_⟩
      exact q_mk (by kct_strs) (htree.lift (by tb_start)) (by kct_strs) htxts (.place _ _ _ hok.nms hok.ups hok.fns hok.grs) (Nat.le_trans hok.size (by decide)) (abc_nok hok.abc)
section
variable {w : World} {mean : ExcName → Option Value} {mg mb : Str → Option Value} {R news : List (Addr × Obj)}
  {dp un : Nat} {gd : Option (List Code)} {cn : Str} {cs : Scope} {a : Addr} {ccd : Value} {cl : List (Str × Addr)} {outer : List Env} {A₀ : Around} {base h₀ : Heap} {L : Addr} {m : Str → Option Value} {g : Heap} {gn : Array GenState} {dr : Drawn} {tk : Nat} {os : OsState}
  {Q E : Value → Shared → Prop}
end
section
variable {prog : Program} {w : World} {A : Around} {E : Value → Shared → Prop} {s : Shared} {env : Env} {h₀ : Heap} {target : PySem.Expr} {body : List Stmt} {Q : Flow → Shared → Prop}
theorem For_holdT {iter : PySem.Expr} {pos : Pos} {m : Str → Option Value} (F : Fr h₀ env.locals s.heap m)
    (h : wpAny (model prog w) A (eval iter env) (fun xv s₁ => Hold (wpAny (model prog w) A (pyIter xv) (fun it s₂ => TurnsAt prog w A h₀ env target body Q E it s₂) E s₁)) E s)
    (hs : ∀ x, foldedSetIterable iter env x = pure x)
    (hE : PassesOwn (model prog w) A env E) :
    wpAny (model prog w) A (exec (.For target iter body [] pos) env) Q E s := For_turns F h hs hE
theorem loop_mineT {I l : Addr} {ob : Obj} {n : Nat} {P : Nat → Value → Prop} {St : Nat → Heap → Prop} {m₀ : Str → Option Value} {news : List (Addr × Obj)} (J : Nat → (Str → Option Value) → List (Addr × Obj) → Prop)
    (W : Walks prog w A I [I, l] [I] n P St) (hgo : ∀ i v (s : Shared) (Q : Unit → Shared → Prop) (E : Value → Shared → Prop), St i s.heap → Q () s → wpAny (model prog w) A (letOwnedTupleGo target (.ref I) v) Q E s)
    (hSt : ∀ i h, St i h → ∃ o, h.get? I = some o) (hst : St 0 s.heap) (F : Fr h₀ env.locals s.heap m₀) (N : News h₀ env.locals s.heap news) (hI : Off I news) (hI0 : h₀.get? I = none) (hLI : env.locals ≠ I) (hl : (l, ob) ∈ news) (hj : J 0 m₀ news)
    (keep : ∀ i m nx, J i m nx → (l, ob) ∈ nx)
    (turn : ∀ i v m₁ nx h tk oI, i < n → P i v → J i m₁ nx → Off I nx → Fr h₀ env.locals h m₁ → News h₀ env.locals h ((I, oI) :: nx) →
      wpAny (model prog w) A (assign target env v) (fun _ s₃ => wpAny (model prog w) A (execs body env) (TurnEnd h₀ env.locals (J (i + 1)) I oI { s with heap := h, toks := tk } Q) E s₃) E { s with heap := h, toks := tk })
    (done : ∀ m₁ nx h tk, J n m₁ nx → Fr h₀ env.locals h m₁ → News h₀ env.locals h nx → Q .next { s with heap := h, toks := tk }) :
    TurnsAt prog w A h₀ env target body Q E (.ref I) s := by
  have hl' := N _ hl
  have hLl : env.locals ≠ l := Ne.symm hl'.2.1
  refine ⟨I, [I, l], [I], n, (fun i v _ => P i v), (fun i v h => P i v ∧ St (i + 1) h), St, m₀, news, J, rfl, KTurns.ofWalks W hgo, ?_, ?_, ?_, hst, F, N, hj, ?_, ?_⟩
  · intro hm
    rcases List.mem_cons.mp hm with e | hm
    · exact hLI e
    · exact hLl (List.mem_singleton.mp hm)
  · intro b hb
    rw [List.mem_singleton.mp hb]
    exact hI0
  · intro p hp hm
    exact hI p hp (List.mem_singleton.mp hm)
  · intro i v m₁ nx h tk own hin hP hJ hoff hown hat hmem hst₁ F₁ N₁
    obtain ⟨oI, hoI⟩ := hSt _ _ hst₁
    have hIo : (I, oI) ∈ own := hmem I (.head _) hI0 oI hoI
    have offI : Off I nx := fun p hp e => hoff p hp (List.mem_singleton.mpr e)
    have N₂ : News h₀ env.locals h ((I, oI) :: nx) := fun p hp => N₁ p (by
      rcases List.mem_cons.mp hp with rfl | hp
      · exact List.mem_append_left _ hIo
      · exact List.mem_append_right _ hp)
    refine wpAny_mono (turn i v m₁ nx h tk oI hin hP hJ offI F₁ N₂) (fun _ s₃ p₃ => wpAny_mono p₃ (fun f s₂ p => ?_) fun _ _ e => e) fun _ _ e => e
    have fin : TurnTo h₀ env.locals (J (i + 1)) I oI { s with heap := h, toks := tk } s₂ → LoopStepU h₀ env.locals [I] own (J (i + 1)) { s with heap := h, toks := tk } .next s₂ := by
      intro h8
      (refine ex4 (h8) ?_; (try clear h8); intro h' tk' m' nx' h9; refine an5 h9 ?_; clear h9; rintro e F' N' off' hJ')
      refine ⟨rfl, h', tk', m', nx', e, F', fun p hp => ?_, fun p hp hm => off' p hp (List.mem_singleton.mp hm), hJ'⟩
      rcases List.mem_append.mp hp with hp | hp
      · rcases List.mem_cons.mp (hown p hp) with e1 | e1
        · have e2 := hat p hp
          rw [e1] at e2
          have e3 : p = (I, oI) := Prod.ext e1 (Option.some.inj (e2.symm.trans hoI))
          rw [e3]
          exact N' _ (.head _)
        · have e1 := List.mem_singleton.mp e1
          have e2 := hat p hp
          have e4 := (N₂ _ (List.mem_cons_of_mem _ (keep _ _ _ hJ))).1
          rw [e1] at e2
          have e3 : p = (l, ob) := Prod.ext e1 (Option.some.inj (e2.symm.trans e4))
          rw [e3]
          exact N' _ (List.mem_cons_of_mem _ (keep _ _ _ hJ'))
      · exact N' _ (List.mem_cons_of_mem _ hp)
    cases f with
    | ret v => exact .ret p
    | brk => exact .brk p
    | next => exact .next (fin p)
    | cont => exact .cont (fin p)
  · intro h' tk m' nx F' N' _ hJ
    exact done m' nx h' tk hJ F' N'
theorem keep_st {st : List Str} {m m₀ : Str → Option Value} (h : ∀ z, st.contains z = false → m z = m₀ z) : m = fun z => if st.contains z then m z else m₀ z := by
  funext z
  cases h2 : st.contains z with
  | true => simp
  | false => simp [h z h2]
theorem iter_listT {l : Addr} {vs : List Value} {k : Nat} {m₀ : Str → Option Value} {X : List (Addr × Obj)} (st : List Str)
    (hh : A.handled = none) (F : Fr h₀ env.locals s.heap m₀) (N : News h₀ env.locals s.heap X) (hl : (l, listOf vs.toArray k) ∈ X)
    (turn : ∀ (i : Nat) (v : Value) (u : Str → Option Value) h tk I oI, vs[i]? = some v → Off I X → Fr h₀ env.locals h (fun z => if st.contains z then u z else m₀ z) → News h₀ env.locals h ((I, oI) :: X) →
      wpAny (model prog w) A (assign target env v) (fun _ s₃ => wpAny (model prog w) A (execs body env) (TurnEnd h₀ env.locals (fun m nx => (∀ z, st.contains z = false → m z = m₀ z) ∧ nx = X) I oI { s with heap := h, toks := tk } Q) E s₃) E { s with heap := h, toks := tk })
    (done : ∀ (u : Str → Option Value) h tk, Fr h₀ env.locals h (fun z => if st.contains z then u z else m₀ z) → News h₀ env.locals h X → Q .next { s with heap := h, toks := tk }) :
    wpAny (model prog w) A (pyIter (.ref l)) (fun it s₂ => TurnsAt prog w A h₀ env target body Q E it s₂) E s := by
  have hls : s.heap.IsList l vs.toArray := N.isList hl
  have hlt : l < s.heap.objs.size := Heap.lt_size (N _ hl).1
  refine wpAny_pyIter_list hls ?_
  have W := Walks.list (prog := prog) (w := w) hh s.heap.objs.size l (Nat.ne_of_lt hlt) vs.toArray
  refine loop_mineT (n := vs.toArray.size) (fun i m nx => (∀ z, st.contains z = false → m z = m₀ z) ∧ nx = X) W (fun i v s Q E st q => letGo_listiter st.1 q) (fun i h st => let ⟨⟨o, e, _⟩, _⟩ := st; ⟨o, e⟩)
    ⟨⟨_, Heap.get?_push_size _ rfl, rfl, rfl⟩, hls.at fun o e => Heap.get?_push_of_some _ e⟩ (F.push _) (fun p hp => ⟨Heap.get?_push_of_some _ (N p hp).1, (N p hp).2⟩)
    (fun p hp e => absurd (Heap.lt_size (N p hp).1) (by rw [e]; exact Nat.lt_irrefl _)) (next_is_new F) (fun e => absurd F.ns.lt (by rw [e]; exact Nat.lt_irrefl _)) hl ⟨fun _ _ => rfl, rfl⟩ (fun i m nx hJ => by rw [hJ.2]; exact hl) ?_ ?_
  · rintro i v m₁ nx h tk oI _ hP ⟨hm, rfl⟩ off F' N'
    rw [keep_st hm] at F'
    exact turn i v m₁ h tk _ oI (by simpa using hP) off F' N'
  · rintro m₁ nx h tk ⟨hm, rfl⟩ F' N'
    rw [keep_st hm] at F'
    exact done m₁ h tk F' N'
theorem st2 {a b : Str} {u m : Str → Option Value} : (fun z => if [a, b].contains z then u z else m z) = fun z => if z = a then u a else if z = b then u b else m z := by
  funext z
  by_cases h1 : z = a
  · subst h1; simp
  · by_cases h2 : z = b
    · subst h2; simp [h1]
    · simp [h1, h2]
theorem st2n {a b z : Str} (h : [a, b].contains z = false) : z ≠ a ∧ z ≠ b := by
  simp at h; exact h
end
section
open LCg LCt
variable {prog : Program} {w : World} {A : Around} {E : Value → Shared → Prop} {s : Shared} {h₀ : Heap} {L : Addr} {m : Str → Option Value} {env : Env}
theorem src_noneT {ct elt : PySem.Expr} {x : Str} {scope : Scope} {cl : List (Str × Addr)} {Fin : Shared → List Value → List (Addr × Obj) → Prop} {ax : Addr} {vs : List Value} {k : Nat} {X : List (Addr × Obj)}
    (hh : A.handled = none) (F : Fr h₀ L s.heap m) (N : News h₀ L s.heap X) (hm : (ax, listOf vs.toArray k) ∈ X) (hz : vs.length ≤ 1000)
    (turn : ∀ (i : Nat) (v : Value) (C : Addr) (oC : Obj) (m₂ : Str → Option Value) (h : Heap) (tk : Tok) (E' : Value → Shared → Prop) (P : Bool → Shared → Prop), vs[i]? = some v → NsObj oC m₂ → m₂ x = some v → Fr h₀ L h m → News h₀ L h ((C, oC) :: X) →
      (∀ tk', P false { s with heap := h, toks := tk' }) → wpAny (model prog w) A (isTrue ct (compEnvC scope cl C env) (eval ct (compEnvC scope cl C env))) P E' { s with heap := h, toks := tk })
    (fin : ∀ g : Heap, Fin { s with heap := g } [] X) : CompSrcT prog w A h₀ L m env ct elt x scope cl Fin (.ref ax) s := by
  refine CompSrcT.ledger hh F N hm (by rw [sizeLine_num, List.size_toArray]; omega) fun g => ?_
  refine compT_inv (fun i ys nx => nx = X ∧ ys = []) ⟨rfl, rfl⟩ ?_ ?_
  · rintro i v ys nx I oI C oC D m₂ h tk E' hin hP ⟨rfl, rfl⟩ hC hx F2 N2 off ne
    have hv : vs[i]? = some v := by simpa using hP
    refine turn i v C oC m₂ h tk E' _ hv hC hx F2 (news_sub N2 fun p hp => ?_) fun tk' => ?_
    · simp only [List.mem_cons] at hp ⊢
      rcases hp with h | h <;> simp [h]
    · rw [if_neg (by decide)]
      exact CompEnd.intro F2 N2 nx (fun p hp => hp) off.to (.inr ⟨_, hm, rfl, _, rfl⟩) ⟨rfl, rfl⟩
  · rintro ys nx ⟨rfl, rfl⟩
    exact fin g
end
theorem Decl.up {k : Nat} {t : Tree} {l : List Str} (h : Decl k t l) : Decl (k + 1) t l := by
  induction h with
  | place k t l h1 h2 h3 h4 => exact .place _ t l h1 h2 h3 h4
  | upd k sg p q l h1 h2 => exact .upd _ sg p q l h1 h2
  | fn k inner h q nm j ns h1 h2 => exact .fn _ inner h q nm j ns h1 h2
  | gen k inner h q nm j ns h1 h2 => exact .gen _ inner h q nm j ns h1 h2
  | arrow k ps => exact .arrow _ ps
  | group k g ps ls h1 h2 h3 h4 h5 h6 _ ih => exact .group _ g ps ls h1 h2 h3 h4 h5 h6 ih
theorem q_three {Z : List (Addr × Obj)} {ys : List Value} (h : ys.length = 3) (hr : ∀ (i : Nat) (y : Value), ys[i]? = some y → ∃ pr : PR, y = .ref pr.a ∧ QOk Z pr) :
    ∃ p0 p1 p2 : PR, ys = [.ref p0.a, .ref p1.a, .ref p2.a] ∧ QOk Z p0 ∧ QOk Z p1 ∧ QOk Z p2 := by
  rcases ys with _ | ⟨a, _ | ⟨b, _ | ⟨c, _ | ⟨d, ys⟩⟩⟩⟩
  iterate 3 cases h
  · obtain ⟨p0, rfl, h0⟩ := hr 0 a rfl
    obtain ⟨p1, rfl, h1⟩ := hr 1 b rfl
    obtain ⟨p2, rfl, h2⟩ := hr 2 c rfl
    exact ⟨p0, p1, p2, rfl, h0, h1, h2⟩
  · cases h
theorem decl_two {g : Str} {t0 t1 : Tree} {l0 l1 : List Str} {k : Nat} (hU : (UPS.any (· == g)) = false) (hF : (FNS.any (· == g)) = false) (hG : (GRS.any (· == g)) = true) (h0 : Decl k t0 l0) (h1 : Decl k t1 l1) (z0 : l0.length ≤ 100) (z1 : l1.length ≤ 100) :
    Decl (k + 1) (.expr g [t0, t1]) (putOnce (putOnce [] l0) l1) := by
  refine .group k g [t0, t1] [l0, l1] hU hF hG rfl (by simp) (fun l hl => ?_) (fun i p l hp hl => ?_)
  · simp only [List.mem_cons, List.not_mem_nil, or_false] at hl
    rcases hl with rfl | rfl
    · exact z0
    · exact z1
  · match i with
    | 0 => simp at hp hl; subst hp; subst hl; exact h0
    | 1 => simp at hp hl; subst hp; subst hl; exact h1
    | i + 2 => simp at hp
theorem QOk.osize {Z : List (Addr × Obj)} {r : PR} (h : QOk Z r) : (putOnce [] r.raw).length ≤ 16 := by
  have h1 := h.size
  have h2 := putOnce_length r.raw ([] : List Str)
  simp at h2
  omega
theorem decl_whole {Z : List (Addr × Obj)} {p0 p1 p2 : PR} {g : Str} (h0 : QOk Z p0) (h1 : QOk Z p1) (h2 : QOk Z p2) (hU : (UPS.any (· == g)) = false) (hF : (FNS.any (· == g)) = false) (hG : (GRS.any (· == g)) = true) :
    Decl 2 (.expr (Str.ofString "const") [.expr g [p0.t, p1.t], p2.t]) (putOnce [] (p0.raw ++ (p1.raw ++ p2.raw))) := by
  have z0 := h0.osize
  have z1 := h1.osize
  have z2 := h2.osize
  have d1 := decl_two hU hF hG h0.ok h1.ok (by omega) (by omega)
  have e1 : putOnce (putOnce [] (putOnce [] p0.raw)) (putOnce [] p1.raw) = putOnce [] (p0.raw ++ p1.raw) := by rw [put_put, put_put, putOnce_app2]
  rw [e1] at d1
  have z3 : (putOnce [] (p0.raw ++ p1.raw)).length ≤ 100 := by
    have a1 := putOnce_length (p0.raw ++ p1.raw) ([] : List Str)
    have a2 := h0.size
    have a3 := h1.size
    rw [List.length_append] at a1
    simp only [List.length_nil] at a1
    omega
  have d2 := decl_two (g := Str.ofString "const") (by decide +kernel) (by decide +kernel) (by decide +kernel) d1 h2.ok.up z3 (by omega)
  have e2 : putOnce (putOnce [] (putOnce [] (p0.raw ++ p1.raw))) (putOnce [] p2.raw) = putOnce [] (p0.raw ++ (p1.raw ++ p2.raw)) := by rw [put_put, put_put, ← putOnce_app2, List.append_assoc]
  rw [e2] at d2
  exact d2
theorem lg_pick {tk : Tok} {i : Nat} {r : Value} (h : ([Value.str (Str.ofString "local") (tk), Value.str (Str.ofString "global") (tk + 1)])[i]? = some r) : ∃ x t, r = .str x t ∧ (UPS.any (· == x)) = false ∧ (FNS.any (· == x)) = false ∧ (GRS.any (· == x)) = true := by
  match i, h with
  | 0, h => exact ⟨_, _, (Option.some.inj h).symm, by decide +kernel, by decide +kernel, by decide +kernel⟩
  | 1, h => exact ⟨_, _, (Option.some.inj h).symm, by decide +kernel, by decide +kernel, by decide +kernel⟩
  | i + 2, h => exact absurd h (by simp)
theorem cutA {M : Model} {A : Around} {env : Env} {target : PySem.Expr} {v : Value} {body : List Stmt} {h₀ : Heap} {L : Addr} {J : (Str → Option Value) → List (Addr × Obj) → Prop} {I : Addr} {oI : Obj} {s₁ s : Shared} {Q₀ : Flow → Shared → Prop} {E : Value → Shared → Prop}
    (key : ∀ Q : Flow → Shared → Prop, (∀ s₂, TurnTo h₀ L J I oI s₁ s₂ → Q .next s₂) → wpAny M A (assign target env v) (fun _ s₃ => wpAny M A (execs body env) Q E s₃) E s) :
    wpAny M A (assign target env v) (fun _ s₃ => wpAny M A (execs body env) (TurnEnd h₀ L J I oI s₁ Q₀) E s₃) E s := key _ fun _ h => h
theorem words_25 : hd.heap_39 = hd.heap_39 ∧ PySem.Challenge.rw_xm0685_01 = PySem.Challenge.rw_xm0685_01 := by
  k_fill
  (k_with "my exec For Tuple Name cons nil" => (k_here; (rename Fr _ _ _ _ => lF'); (with_unfolding_all refine' For_holdT lF' ?_ (by intro _; rfl) (by passes_own)); k_whole))
  (k_with "my eval ListComp" => (k_here; (with_reducible show wpAny _ _ (eval (PySem.Expr.ListComp _ [_, _] _ _) _) _ _ _); k_dflt (refine comp2 (_F₀ := by k_asm) (by with_unfolding_all rfl) (by decide) (by rfl) (by decide) (by rfl) (by rfl) ?_ (by intro _; rfl) (by intro _ _; rfl))))
  (k_with "my eval ListComp" => (k_here; (with_reducible show wpAny _ _ (eval (PySem.Expr.ListComp _ [_] _ _) _) _ _ _); k_dflt (refine comp_TH (F₀ := by k_asm) (by with_unfolding_all rfl) (by decide) (by rfl) (by decide) (by rfl) ?_ (by intro _; rfl))))
  (k_with "my compareOp Eq ref ref" => (k_here; refine hold_intro ?_))
  exact ⟨rfl, rfl⟩
theorem right_spec (w : World) (mean mg mb) {src : Addr} {o : Obj} {R : List (Addr × Obj)} (hne : Off src R) (ho : SrcO o) :
    EndsS w mean mg mb 174 60 800 [.ref src] src o R (fun o' tl r => SrcO o' ∧ r = .bool true) := by
  (k_dflt (refine' ends_fnC ?zo ?zc ?zb ?zm ?zl ?zn ?z1 ?z2 ?z3 ?_; (case zo => k_is); (case zc => k_is); (case zb => exact fun _ => BindsTo.of_eq rfl); (case zm => exact rfl); (case zl => exact rfl); (case zn => decide +kernel); (case z1 => exact rfl); (case z2 => exact rfl); (case z3 => exact rfl); intro dp un gd outer A₀ base h₀ L g gn dr tk os Q cells B F X N Y T hd hu hret l1; k_cells Y; (try simp only [List.cons_append, List.nil_append] at N); (try dsimp only)))
  k_steps
  rename Obj => oc1
  rename (oc1.data = _) => d1
  have e1 : oc1.data = Data.cell (some (Value.ref src)) := d1
  clear d1
  have hsL : src < L := l1 _ (.head _)
  have q1 : ∀ p ∈ (src, o) :: R, p.1 < L + 1 := fun p hp => Nat.lt_succ_of_lt (l1 p hp)
  unfold Hold
  k_dflt (refine assign_UH (F₀ := by k_asm) (by rfl) (by with_unfolding_all rfl) (by with_unfolding_all rfl) (by decide) (by rfl) (by decide) (by rfl) (by rfl) (by rfl) ?_ (by intro _; rfl))
  k_steps
  rename IsRange _ _ _ _ _ _ _ _ => hr
  rename Fr _ _ _ _ => lF
  (rename News _ _ _ _ => lN); have c0 := cut_of (src := src) lN (by repeat (first | exact Cut.here _ | apply Cut.there | apply Cut.app)); have c1 := cut_off c0 (by ktr_rel)
  (try unfold Hold); unfold SrcU
  refine src_range (n := 3) (fun _ Z y => ∃ pr : PR, y = .ref pr.a ∧ QOk Z pr) (fun _ Z Z' y hs h => let ⟨pr, e, h⟩ := h; ⟨pr, e, h.mono hs⟩) rfl lF lN c0 hr rfl (by decide) ho c1 ?_ ?_
  · intro g1 i ys o5 tl5 I oI C oC D m₂ h5 tk5 E' hi ho5 hof hC F5 N5
    clear lF lN hr hret
    have N7 := news_one (L + 1, oc1) N5 (by kct_strs)
    clear N5
    k_steps
    (unfold Hold; k_dflt (refine' use_S (part_spec w mean mg mb hof ho5) ?B ?F ?X ?N ?hs ?T ?kq9 ?d ?u ?_; (case B => k_asm); (case F => k_asm); (case X => k_asm); (case N => k_asm); (case T => k_asm); (case kq9 => first | exact rfl | assumption); (case d => ktr_room); (case u => ktr_units); (case hs => first | exact (fun _ h9 => h9) | exact (fun _ h9 => .tail _ (.tail _ h9)) | exact Cut.sub (by assumption) | tb_start)))
    rintro r6 o6 tl6 h6 tk6 ⟨ho6, hp6⟩ ha6 F6 N6
    exact ⟨_, _, o6, tl6, rfl, ho6, hp6, F6, N6, ha6⟩
  · intro g1 ys o5 tl5 ho5 hlen hab hrows D h5 tk5 F5 N5 o1
    clear lF lN hr
    have q5 := off1_all o1
    (refine ex3 (q_three hlen hrows) ?_; intro p0 p1 p2 h9; refine an4 h9 ?_; clear h9; rintro rfl hq0 hq1 hq2)
    k_steps
    rename Fr _ _ _ _ => lF
    rename News _ _ _ _ => lN
    unfold Hold
    refine src_noneT rfl lF lN (.head _) (by simp) ?_ ?_
    · intro i v C oC m₂ h6 tk6 E' P hv hC hx6 F6 N6 hP
      clear lF lN
      obtain ⟨p, rfl, hp⟩ := hrows i v hv
      obtain ⟨c, hc⟩ := decl_ref hp.ok hp.tree
      have hrow := hp.row
      rw [hc] at hrow
      have N7 := news_two (p.a, tupO #[Value.ref c, .ref p.l] p.n) (C, oC) N6 (by kct_strs) (.head _)
      clear N6
      k_steps
      exact hP _
    · intro g2 D2 h6 tk6 F6 N6 o2
      clear lF lN
      have q6 := off1_all o2
      k_steps
      unfold Hold
      refine ne_strs (ns := []) (vs := []) (us := []) (by k_asm) (by kct_strs) (by kct_strs) .nil .nil (fun _ h => nomatch h) (by ktr_units) ?_
      k_steps
      rename Fr _ _ _ _ => lF
      rename News _ _ _ _ => lN
      unfold Hold
      refine iter_listT [Str.ofString "tree", Str.ofString "names"] rfl lF lN (vs := [Value.ref p0.a, Value.ref p1.a, Value.ref p2.a]) (by kct_strs) ?_ ?_
      · intro i v u h7 tk7 I oI hv off F7 N7
        refine cutA ?_
        intro Q9 hend
        clear hret
        rw [st2] at F7
        obtain ⟨p, rfl, hp⟩ := hrows i v hv
        obtain ⟨c, hc⟩ := decl_ref hp.ok hp.tree
        have hrow := hp.row
        have htree := hp.tree
        rw [hc] at hrow htree
        have hlist := hp.list
        have htxts := hp.txts
        have hpz := hp.size
        clear lF lN
        have N8 := news_one (p.a, tupO #[Value.ref c, .ref p.l] p.n) N7 (by kct_strs)
        clear N7
        k_steps
        (unfold Hold; k_dflt (refine' use_RL (dn_spec w mean mg mb 0 _ _ _ _ hp.ok ?t99) ?B ?F ?X ?N ?T ?kq9 ?d ?u ?_; (case B => k_asm); (case F => k_asm); (case X => k_asm); (case N => k_asm); (case T => k_asm); (case kq9 => first | exact rfl | assumption); (case d => ktr_room); (case u => ktr_units)))
        (case t99 => ktn_open)
        intro b8 us8 n8 tl8 h8 tk8 hm8 hs8 ha8 F8 N8
        k_steps
        (unfold Hold; k_dflt (refine' use_RL (once_spec w mean mg mb ?l htxts (by omega)) ?B ?F ?X ?N ?T ?kq9 ?d ?u ?_; (case B => k_asm); (case F => k_asm); (case X => k_asm); (case N => k_asm); (case T => k_asm); (case kq9 => first | exact rfl | assumption); (case d => ktr_room); (case u => ktr_units)))
        (case l => kct_strs)
        intro b9 us9 n9 tl9 h9 tk9 hm9 hs9 ha9 F9 N9
        k_steps
        unfold Hold
        refine ne_strs (by k_asm) (by kct_strs) (by kct_strs) hs8 hs9 (nok_once hp.nok) (by ktr_units) ?_
        k_steps
        refine hend _ ?_
        refine ⟨_, _, _, _, rfl, by assumption, ?N, off, (fun z h1 => by obtain ⟨a1, a2⟩ := st2n h1; simp only [if_neg a1, if_neg a2]), rfl⟩
        (case N => exact news_sub (by assumption) (by tb_start))
      · intro u h7 tk7 F7 N7
        rw [st2] at F7
        clear lF lN
        have N8 := news_one (L + 1, oc1) N7 (by kct_strs)
        clear N7
        k_steps
        (rename News _ _ _ _ => lN); have c0 := cut_of (src := src) lN (by repeat (first | exact Cut.here _ | apply Cut.there | apply Cut.app)); have c8 := cut_off c0 (by ktr_rel)
        (unfold Hold; k_dflt (refine' call_one (n := 0) c8 ho5 (.head _) (by simp) (by simp) ?B ?F ?X ?N ?hs ?T ?kq9 ?d ?u ?_; (case B => k_asm); (case F => k_asm); (case X => k_asm); (case N => k_asm); (case T => k_asm); (case kq9 => first | exact rfl | assumption); (case d => ktr_room); (case u => ktr_units); (case hs => first | exact (fun _ h9 => h9) | exact (fun _ h9 => .tail _ (.tail _ h9)) | exact Cut.sub (by assumption) | tb_start)))
        intro o8 i8 r8 h8 tk8 ho8 hi8 F8 N8
        (refine ex2 (lg_pick hi8) ?_; intro g tg h9; refine an4 h9 ?_; clear h9; rintro rfl hgU hgF hgG)
        clear hi8
        have hr0 := hq0.row
        have hr1 := hq1.row
        have hr2 := hq2.row
        have hl0 := hq0.list
        have hl1 := hq1.list
        have hl2 := hq2.list
        have ht0 := hq0.tree
        have ht1 := hq1.tree
        have ht2 := hq2.tree
        k_steps
        (unfold Hold; k_dflt (refine' use_RL (dn_spec w mean mg mb 2 _ _ _ _ (decl_whole hq0 hq1 hq2 hgU hgF hgG) ?t99) ?B ?F ?X ?N ?T ?kq9 ?d ?u ?_; (case B => k_asm); (case F => k_asm); (case X => k_asm); (case N => k_asm); (case T => k_asm); (case kq9 => first | exact rfl | assumption); (case d => ktr_room); (case u => ktr_units)))
        (case t99 => exact (by repeat' (first | exact TreesIn.nil | refine TreesIn.cons _ _ _ _ ?_ ?_ | ((with_reducible show TreeIn _ _ (Tree.sym _)); exact TreeIn.sym _ _ _ _ _ (by kct_strs)) | ((with_reducible show TreeIn _ _ (Tree.int _)); exact TreeIn.int _ _ _ _ _ (by kct_strs)) | ((with_reducible show TreeIn _ _ (Tree.expr _ _)); refine TreeIn.expr _ _ _ _ _ _ _ _ _ (by kct_strs) (by kct_strs) ?_) | exact TreeIn.lift (by with_reducible assumption) (by tb_start))))
        intro b9 us9 n9 tl9 h9 tk9 hm9 hs9 ha9 F9 N9
        k_steps
        rename Fr _ _ _ _ => lF
        rename News _ _ _ _ => lN
        have hz0 := hq0.size
        have hz1 := hq1.size
        have hz2 := hq2.size
        have hall : StrsAre [p0.us, p1.us, p2.us].flatten (p0.raw ++ (p1.raw ++ p2.raw)) := by simpa using StrsAre.append' hq0.txts (StrsAre.append' hq1.txts hq2.txts)
        have hallz : (p0.raw ++ (p1.raw ++ p2.raw)).length ≤ 48 := by simp only [List.length_append]; omega
        have hallv := StrsAre.length hall
        unfold Hold
        refine ⟨D, [Value.ref p0.a, Value.ref p1.a, Value.ref p2.a], _, _, [p0.us, p1.us, p2.us], rfl, rfl, lF, lN, (by kct_strs), ?_, rfl, ?_, ?_, ?_, ?_⟩
        · intro i v hv
          match i, hv with
          | 0, hv => exact ⟨p0.a, p0.v, p0.l, p0.n, p0.us, p0.c, (Option.some.inj hv).symm, (by kct_strs), (by kct_strs), rfl⟩
          | 1, hv => exact ⟨p1.a, p1.v, p1.l, p1.n, p1.us, p1.c, (Option.some.inj hv).symm, (by kct_strs), (by kct_strs), rfl⟩
          | 2, hv => exact ⟨p2.a, p2.v, p2.l, p2.n, p2.us, p2.c, (Option.some.inj hv).symm, (by kct_strs), (by kct_strs), rfl⟩
        · rw [sizeLine_num, hallv]; omega
        · intro C oC m₂ v r h8 tk8 E' P hIs hC hx8 F8 N8 hP
          clear lF lN
          obtain ⟨t8, a8, n8, rfl, hm8⟩ := hIs
          have N9 := news_two _ (C, oC) N8 (.tail _ hm8) (.head _)
          clear N8
          k_steps
          exact hP _
        · intro C oC m₂ v r h8 tk8 E' P hIs hC hx8 F8 N8 hP
          clear lF lN
          subst hIs
          k_steps
          exact hP _
        · intro D3 h8 tk8 F8 N8 o3
          clear lF lN
          k_steps
          (unfold Hold; k_dflt (refine' use_RL (once_spec w mean mg mb (.head _) hall (by omega)) ?B ?F ?X ?N ?T ?kq9 ?d ?u ?_; (case B => k_asm); (case F => k_asm); (case X => k_asm); (case N => k_asm); (case T => k_asm); (case kq9 => first | exact rfl | assumption); (case d => ktr_room); (case u => ktr_units)))
          intro bA usA nA tlA hA tkA hmA hsA haA FA NA
          k_steps
          unfold Hold
          refine eq_strs (by k_asm) (by kct_strs) (by kct_strs) hs9 hsA (nok_once (fun x hx => (List.mem_append.mp hx).elim (hq0.nok x) fun hx => (List.mem_append.mp hx).elim (hq1.nok x) (hq2.nok x))) (by ktr_units) ?_
          k_steps
          (rename News _ _ _ _ => lN); have c0 := cut_of (src := src) lN (by repeat (first | exact Cut.here _ | apply Cut.there | apply Cut.app)); have t0 := tail_of (R := R) c0 (by repeat (first | exact Tail.here | apply Tail.there | apply Tail.app)); refine fin_C hret (by assumption) lN c0 t0 (by repeat' (first | exact Above.nil | (refine Above.cons ?_ ?_) | (refine Above.app ?_ ?_) | exact src_lt (by with_reducible assumption) (by kct_strs) (by intro p9 h9; repeat (first | exact h9 | refine List.mem_cons_of_mem _ ?_ | refine List.mem_append_right _ ?_)) | exact src_ne (by with_reducible assumption) (by kct_strs) (by intro p9 h9; repeat (first | exact h9 | refine List.mem_cons_of_mem _ ?_ | refine List.mem_append_right _ ?_)) | exact src_ab (by with_reducible assumption) (by kct_strs) (by intro p9 h9; repeat (first | exact h9 | refine List.mem_cons_of_mem _ ?_ | refine List.mem_append_right _ ?_)))) ?_
          exact ⟨ho8, rfl⟩
theorem src_mod (x y : Int) {t u : Tok} {n : Nat} : SrcO (listOf #[.int x t, .int (y.fmod 2147483647) u] n) :=
  ⟨_, _, _, _, _, rfl, Int.fmod_nonneg_of_pos y (b := 2147483647) (by decide), Int.lt_trans (Int.fmod_lt_of_pos y (b := 2147483647) (by decide)) (by decide)⟩
theorem call_pool {w : World} {mean : ExcName → Option Value} {mg mb : Str → Option Value} {sc : Addr} {items : List Value} {ns : List Int} {R : List (Addr × Obj)}
    {dp un : Nat} {gd : Option (List Code)} {cn : Str} {cs : Scope} {a : Addr} {ccd : Value} {cl : List (Str × Addr)} {outer : List Env} {A₀ : Around} {base h₀ : Heap} {L : Addr} {m : Str → Option Value} {s : Shared} {Q E : Value → Shared → Prop}
    (hl : h₀.IsList sc items.toArray) (hi : IntsAre items ns) (hz : ns.length ≤ 63)
    (B : Below A₀ base outer h₀) (F : Fr h₀ L s.heap m) (X : (hd.heap_39 w.params).In h₀) (N : News h₀ L s.heap R) (T : Top hd.view_39 (looseW hd.view_39 []) mean mg mb h₀) (hk : cs.kind = .function) (hd : dp + 2 < recursionLimit) (hu : un + 20 < cLine)
    (hret : ∀ b o h' tk', SrcO o → (∀ p ∈ R, p.1 ≠ b) → Fr h₀ L h' m → News h₀ L h' ((b, o) :: R) → Q (.ref b) ⟨h', s.gens, s.drawn, tk', s.os⟩) :
    wpAny (model PySem.Challenge.rw_xm0685_01.row.prog w) (ktrTop dp un gd cn cs L a ccd cl outer) (call (.ref 112) [.ref sc]) Q E s := by
  refine wpAny_noRaise (cut2 (fun Q => ∀ b o h' tk', SrcO o → (∀ p ∈ R, p.1 ≠ b) → Fr h₀ L h' m → News h₀ L h' ((b, o) :: R) → Q (.ref b) ⟨h', s.gens, s.drawn, tk', s.os⟩) ?_ hret)
  clear hret Q E
  intro Q hq
  refine wpAny_call ?_
  k_dflt ktr_enter
  rename_i gg LL hh FG F7 N7 B7 X7 T7
  refine cut2 (fun Q' => ∀ b o h' tk' m', SrcO o → (∀ p ∈ R, p.1 ≠ b) → Fr gg LL h' m' → News gg LL h' ((b, o) :: R) → Q' (.ret (.ref b)) ⟨h', s.gens, s.drawn, tk', s.os⟩) ?_ ?_
  · clear hq
    intro Q9 hq
    have hl2 := hl.at fun o e => FG.keep _ o e
    clear hl
    k_steps
    all_goals (refine hq _ _ _ _ _ (src_mod _ _) ?_ (by assumption) (by assumption))
    all_goals exact fun p hp => lt_of_led (by assumption) hp
  · intro b o h' tk' m' h1 h2 F9 N9
    exact leaveK_ (s' := ⟨h', s.gens, s.drawn, tk', s.os⟩) F9 N9 fun F8 N8 => hq b o h' tk' h1 h2 F8 N8
theorem own_spec (w : World) (mean mg mb) {t : Tree} {x : Str} (h : FnTree t x) {a : Addr} {R : List (Addr × Obj)} (hT : TreeIn R (.ref a) t) :
    EndsR w mean mg mb 86 6 100 [.ref a] R (fun tl r => tl = [] ∧ ∃ tk, r = .str x tk) := by
  cases h with
  | fn inner h q nm j ns h1 h2 => exact on_spec w mean mg mb h1 h2 (.inl rfl) hT
  | gen inner h q nm j ns h1 h2 => exact on_spec w mean mg mb h1 h2 (.inr rfl) hT
  | arrow ps => exact on_arrow w mean mg mb hT
theorem once_app (big raw : List Str) : putOnce [] (putOnce [] big ++ raw) = putOnce [] (big ++ raw) := by rw [putOnce_app2, put_put, putOnce_app2]
structure LJ (src Ds : Addr) (i : Nat) (m : Str → Option Value) (o' : Obj) (us : List Value) (l : Addr) (us' : List Value) (big : List Str) : Prop where
  due : m (Str.ofString "due") = some (.ref l)
  ho : SrcO o'
  hs : StrsAre us (putOnce [] big)
  hs' : StrsAre us' (putOnce [] big)
  size : big.length ≤ 64 * i
  abc : ∀ y ∈ big, y ∈ ABC
  n1 : @Ne Nat src Ds
  n2 : @Ne Nat l src
  n3 : @Ne Nat l Ds
theorem law_all : PySem.Challenge.rw_xm0685_01.Holds := hd (by
  k_go0
  all_goals (try k_fold)
  rename_i w s₀ s₁ mg mb G Y fa o1 pm doc kV ho hg KX X V GL T B TE TW wm1 wm2 M wc1 wc2 hcd ns hs hlay0 hLy hr1 hl2 wl1 wl2 sc items wl3 hL ra w1 r0 hI hr2 hc1 hc2 K0 hD h₁ F N0
  have K1 : Below callerA s₁.heap [] s₁.heap := K0
  have hz63 : ns.length ≤ 63 := by omega
  clear hcd hD M ho G Y X V GL B TE TW hs hlay0 hLy hr1 hl2 ra w1 r0 hr2 hc1 hc2 K0
  have hdp : callerA.depth + 200 < recursionLimit := by decide +kernel
  have hun : callerA.units + 4000 < cLine := by rw [cLine_is]; decide +kernel
  refine wpAny_noRaise (cutQ ?_)
  intro Q1 hend0
  k_steps
  (unfold Hold; k_dflt (refine' use_RL (pn_spec _ _ _ _ 0 _ _ _ _ (Names.none 0 (Str.ofString "::") [.sym (Str.ofString "Int")] (by decide) rfl rfl (.inr (by simp))) ?t99) ?B ?F ?X ?N ?T ?kq9 ?d ?u ?_; (case B => k_asm); (case F => k_asm); (case X => k_asm); (case N => k_asm); (case T => k_asm); (case kq9 => first | exact rfl | assumption); (case d => ktr_room); (case u => ktr_units)))
  (case t99 => exact (by repeat' (first | exact TreesIn.nil | refine TreesIn.cons _ _ _ _ ?_ ?_ | ((with_reducible show TreeIn _ _ (Tree.sym _)); exact TreeIn.sym _ _ _ _ _ (by kct_strs)) | ((with_reducible show TreeIn _ _ (Tree.int _)); exact TreeIn.int _ _ _ _ _ (by kct_strs)) | ((with_reducible show TreeIn _ _ (Tree.expr _ _)); refine TreeIn.expr _ _ _ _ _ _ _ _ _ (by kct_strs) (by kct_strs) ?_) | exact TreeIn.lift (by with_reducible assumption) (by tb_start))))
  intro b2 us2 n2 tl2 h2 tk2 hm2 hs2 ha2 F2 N2
  k_steps
  unfold Hold
  refine ne_strs (us := []) (by k_asm) (by kct_strs) (by kct_strs) hs2 .nil (fun _ h => nomatch h) (by ktr_units) ?_
  k_steps
  (unfold Hold; k_dflt (refine' use_RL (wn_spec _ _ _ _ (WStop.sym (Str.ofString "a")) (.kind 0 _ (.sym (Str.ofString "Int")) [] .zero) (by decide) ?t99) ?B ?F ?X ?N ?T ?kq9 ?d ?u ?_; (case B => k_asm); (case F => k_asm); (case X => k_asm); (case N => k_asm); (case T => k_asm); (case kq9 => first | exact rfl | assumption); (case d => ktr_room); (case u => ktr_units)))
  (case t99 => exact (by repeat' (first | exact TreesIn.nil | refine TreesIn.cons _ _ _ _ ?_ ?_ | ((with_reducible show TreeIn _ _ (Tree.sym _)); exact TreeIn.sym _ _ _ _ _ (by kct_strs)) | ((with_reducible show TreeIn _ _ (Tree.int _)); exact TreeIn.int _ _ _ _ _ (by kct_strs)) | ((with_reducible show TreeIn _ _ (Tree.expr _ _)); refine TreeIn.expr _ _ _ _ _ _ _ _ _ (by kct_strs) (by kct_strs) ?_) | exact TreeIn.lift (by with_reducible assumption) (by tb_start))))
  intro b3 us3 n3 tl3 h3 tk3 hm3 hs3 ha3 F3 N3
  k_steps
  unfold Hold
  refine ne_strs (us := []) (by k_asm) (by kct_strs) (by kct_strs) hs3 .nil (fun _ h => nomatch h) (by ktr_units) ?_
  k_steps
  unfold Hold
  (k_dflt (refine' call_pool (R := []) ?hl ?hi ?hz ?B ?F ?X ?N ?T ?kq9 ?d ?u ?_; (case hl => assumption); (case hi => assumption); (case hz => omega); (case B => k_asm); (case F => k_asm); (case X => k_asm); (case N => exact fun _ h => nomatch h); (case T => k_asm); (case kq9 => first | exact rfl | assumption); (case d => ktr_room); (case u => ktr_units)))
  intro src o h4 tk4 ho hne4 F4 N4
  k_steps
  rename (∀ p : Addr × Obj, p ∈ ([(src, o)] : List (Addr × Obj)) → p.1 < (_ : Addr)) => hDs
  obtain ⟨Ds, rfl⟩ := lt_alias hDs
  rename (∀ p : Addr × Obj, p ∈ ([(Ds, W.listOf #[] 0), (src, o)] : List (Addr × Obj)) → p.1 < (_ : Addr)) => hDd
  obtain ⟨Dd, rfl⟩ := lt_alias hDd
  have hn1 : @Ne Nat src Ds := Nat.ne_of_lt (hDs _ (.head _))
  have hn2 : @Ne Nat Dd src := Nat.ne_of_gt (hDd _ (.tail _ (.head _)))
  have hn3 : @Ne Nat Dd Ds := Nat.ne_of_gt (hDd _ (.head _))
  rename IsRange _ _ _ _ _ _ _ _ => hr
  rename Fr _ _ _ _ => lF
  rename News _ _ _ _ => lN
  have lM := news_sub (b := [(src, o), (Ds, W.listOf #[] 0), (Dd, W.listOf #[] 0)]) lN (by tb_start)
  unfold Hold
  refine iter_rangeM (n := 4) [Str.ofString "place", Str.ofString "names", Str.ofString "due"] (fun i m nx => ∃ o' us c l us' c' big, nx = [(src, o'), (Ds, W.listOf (List.toArray us) c), (l, W.listOf (List.toArray us') c')] ∧ LJ src Ds i m o' us l us' big) rfl lF lM hr rfl (by decide) ?_ ?_ ?_
  · exact ⟨o, [], 0, Dd, [], 0, [], rfl, rfl, ho, .nil, .nil, by simp, fun _ h => (nomatch h), hn1, hn2, hn3⟩
  · intro i y m₁ u nx h5 tk5 I oI hi hJ off hu F5 N5
    refine cutT ?_
    intro Q9 hend _
    clear hend0
    (refine ex7 (hJ) ?_; (try clear hJ); intro o5 us5 c5 l5 vs5 d5 big h9; refine an2 h9 ?_; clear h9; rintro rfl hL1)
    rw [st3, hu (Str.ofString "due") (by decide) (by decide), hL1.due] at F5
    clear lF lN lM hr
    have N6 := news_sub (b := (src, o5) :: (I, oI) :: [(Ds, W.listOf (List.toArray us5) c5), (l5, W.listOf (List.toArray vs5) d5)]) N5 (by tb_start)
    clear N5
    have hoff : Off src ((I, oI) :: [(Ds, W.listOf (List.toArray us5) c5), (l5, W.listOf (List.toArray vs5) d5)]) := Off.cons (Ne.symm (off _ (.head _))) (Off.cons (Ne.symm hL1.n1) (Off.cons hL1.n2 fun _ h => (nomatch h)))
    k_steps
    (unfold Hold; k_dflt (refine' call_place (place_all _ _ _ _ 3 (by decide)) rfl hoff hL1.ho ?B ?F ?X ?N ?hs ?T ?kq9 ?d ?u ?_; (case B => k_asm); (case F => k_asm); (case X => k_asm); (case N => k_asm); (case T => k_asm); (case kq9 => first | exact rfl | assumption); (case d => ktr_room); (case u => ktr_units); (case hs => first | exact (fun _ h9 => h9) | exact (fun _ h9 => .tail _ (.tail _ h9)) | exact Cut.sub (by assumption) | tb_start)))
    intro o6 tl6 ra rv rt rl rus rn rc rraw h6 tk6 ho6 hrow htree hlist htxts hok ha6 F6 N6
    obtain ⟨cv, rfl⟩ := names_ref hok.nms htree
    have hz : rraw.length ≤ 64 := hok.size
    k_steps
    (unfold Hold; k_dflt (refine' use_RL (pn_spec _ _ _ _ 4 _ _ _ _ hok.nms ?t99) ?B ?F ?X ?N ?T ?kq9 ?d ?u ?_; (case B => k_asm); (case F => k_asm); (case X => k_asm); (case N => k_asm); (case T => k_asm); (case kq9 => first | exact rfl | assumption); (case d => ktr_room); (case u => ktr_units)))
    (case t99 => ktn_open)
    intro b7 us7 n7 tl7 h7 tk7 hm7 hs7 ha7 F7 N7
    k_steps
    (unfold Hold; k_dflt (refine' use_RL (once_spec _ _ _ _ ?l99 htxts (by omega)) ?B ?F ?X ?N ?T ?kq9 ?d ?u ?_; (case B => k_asm); (case F => k_asm); (case X => k_asm); (case N => k_asm); (case T => k_asm); (case kq9 => first | exact rfl | assumption); (case d => ktr_room); (case u => ktr_units)))
    (case l99 => kct_strs)
    intro b8 us8 n8 tl8 h8 tk8 hm8 hs8 ha8 F8 N8
    k_steps
    unfold Hold
    refine ne_strs (by k_asm) (by kct_strs) (by kct_strs) hs7 hs8 (nok_once (abc_nok hok.abc)) (by ktr_units) ?_
    k_steps
    have hbz := putOnce_length big ([] : List Str)
    have hbz2 := hL1.size
    simp only [List.length_nil] at hbz
    have hq1 := hL1.n1
    have hq3 := hL1.n3
    have hqI : @Ne Nat I Ds := Ne.symm (off _ (.tail _ (.head _)))
    (rename News _ _ _ _ => lN); have c0 := cut_of (src := Ds) lN (by repeat (first | exact Cut.here _ | apply Cut.there | apply Cut.app)); have cD := cut_off c0 (by ktr_rel)
    (unfold Hold; k_dflt (refine' call_put (n := c5) cD ?hl99 hL1.hs htxts (by omega) ?B ?F ?X ?N ?hs ?T ?kq9 ?d ?u ?_; (case B => k_asm); (case F => k_asm); (case X => k_asm); (case N => k_asm); (case T => k_asm); (case kq9 => first | exact rfl | assumption); (case d => ktr_room); (case u => ktr_units); (case hs => first | exact (fun _ h9 => h9) | exact (fun _ h9 => .tail _ (.tail _ h9)) | exact Cut.sub (by assumption) | tb_start)))
    (case hl99 => kct_strs)
    intro us9 n9 h9 tk9 hs9 F9 N9
    have hvz := StrsAre.length hL1.hs'
    have hrz := StrsAre.length htxts
    k_steps
    (unfold Hold; k_dflt (refine' use_RL (once_spec _ _ _ _ ?l99 (StrsAre.append' hL1.hs' htxts) (by rw [List.length_append]; omega)) ?B ?F ?X ?N ?T ?kq9 ?d ?u ?_; (case B => k_asm); (case F => k_asm); (case X => k_asm); (case N => k_asm); (case T => k_asm); (case kq9 => first | exact rfl | assumption); (case d => ktr_room); (case u => ktr_units)))
    (case l99 => kct_strs)
    intro bA usA nA tlA hA tkA hmA hsA haA FA NA
    rw [once_app] at hsA
    rw [← putOnce_app2] at hs9
    k_steps
    unfold Hold
    have habc : ∀ z ∈ big ++ rraw, z ∈ ABC := fun z hz => (List.mem_append.mp hz).elim (hL1.abc z) (hok.abc z)
    refine ne_strs (by k_asm) (by kct_strs) (by kct_strs) hs9 hsA (nok_once (abc_nok habc)) (by ktr_units) ?_
    k_steps
    refine hend _ ?_
    refine ⟨_, _, _, [(src, o6), (Ds, W.listOf us9.toArray n9), (bA, W.listOf usA.toArray nA)], rfl, by assumption, news_sub (by assumption) (by tb_start), ?_, (fun z h1 h2 => by obtain ⟨a1, a2, a3⟩ := st3n h2; simp only [if_neg h1, if_neg a1, if_neg a2, if_neg a3]), _, us9, n9, bA, usA, nA, big ++ rraw, rfl, ⟨rfl, ho6, hs9, hsA, ?_, habc, hL1.n1, ?_, ?_⟩⟩
    · exact Off.cons (off (src, o5) (.head _) : src ≠ I) (Off.cons (off (Ds, _) (.tail _ (.head _)) : Ds ≠ I) (Off.cons (Ne.symm (haA (I, oI) (by kct_strs) _ hmA)) off_nil))
    · rw [List.length_append]; omega
    · exact Ne.symm (haA (src, o6) (by kct_strs) _ hmA)
    · exact Ne.symm (haA (Ds, _) (by kct_strs) _ hmA)
  · intro m₁ u nx h5 tk5 hJ hu F5 N5
    (refine ex7 (hJ) ?_; (try clear hJ); intro o5 us5 c5 l5 vs5 d5 big h9; refine an2 h9 ?_; clear h9; rintro rfl hL1)
    rw [st3d] at F5
    have hsO := hL1.ho
    have N6 := news_sub (b := [(src, o5)]) N5 (by tb_start)
    clear N5 lF lN lM hr
    k_steps
    rename IsRange _ _ _ _ _ _ _ _ => hr
    rename Fr _ _ _ _ => lF
    rename News _ _ _ _ => lN
    have lM := news_sub (b := [(src, o5)]) lN (by tb_start)
    unfold Hold
    refine iter_rangeM (n := 2) [Str.ofString "tree", Str.ofString "name", Str.ofString "name"] (fun i m nx => ∃ o', nx = [(src, o')] ∧ SrcO o') rfl lF lM hr rfl (by decide) ⟨o5, rfl, hsO⟩ ?_ ?_
    · intro i y m₁ u nx h6 tk6 I oI hi hJ off hu F6 N6
      refine cutT ?_
      intro Q9 hend _
      clear hend0
      obtain ⟨o6, rfl, ho6⟩ := hJ
      rw [st3] at F6
      clear lF lN lM hr
      have N7 := news_sub (b := [(src, o6), (I, oI)]) N6 (by tb_start)
      clear N6
      have hoff : Off src [(I, oI)] := Off.cons (Ne.symm (off _ (.head _))) off_nil
      k_steps
      (unfold Hold; k_dflt (refine' call_function hoff ho6 ?B ?F ?X ?N ?hs ?T ?kq9 ?d ?u ?_; (case B => k_asm); (case F => k_asm); (case X => k_asm); (case N => k_asm); (case T => k_asm); (case kq9 => first | exact rfl | assumption); (case d => ktr_room); (case u => ktr_units); (case hs => first | exact (fun _ h9 => h9) | exact (fun _ h9 => .tail _ (.tail _ h9)) | exact Cut.sub (by assumption) | tb_start)))
      intro o7 tl7 a7 v7 n7 x7 t7 tr7 h7 tk7 ho7 hm7 hT7 hF7 hx7 ha7 F7 N7
      have hxx : (x7 != x7) = false := by simp
      k_steps
      (unfold Hold; k_dflt (refine' use_Rs (own_spec _ _ _ _ hF7 ?t99) ?B ?F ?X ?N ?T ?kq9 ?d ?u ?_; (case B => k_asm); (case F => k_asm); (case X => k_asm); (case N => k_asm); (case T => k_asm); (case kq9 => first | exact rfl | assumption); (case d => ktr_room); (case u => ktr_units)))
      (case t99 => ktn_open)
      intro tk9 h8 tk8 F8 N8
      k_steps
      refine hend _ ?_
      refine ⟨_, _, _, [(src, o7)], rfl, by assumption, news_sub (by assumption) (by tb_start), Off.cons (off (src, o6) (.head _) : src ≠ I) off_nil, (fun z h1 h2 => by obtain ⟨a1, a2, a3⟩ := st3n h2; simp only [if_neg h1, if_neg a1, if_neg a2]), o7, rfl, ho7⟩
    · intro m₁ u nx h6 tk6 hJ hu F6 N6
      obtain ⟨o6, rfl, ho6⟩ := hJ
      rw [st3d] at F6
      clear lF lN lM hr
      k_steps
      (unfold Hold; k_dflt (refine' use_S (right_spec _ _ _ _ off_nil ho6) ?B ?F ?X ?N ?hs ?T ?kq9 ?d ?u ?_; (case B => k_asm); (case F => k_asm); (case X => k_asm); (case N => k_asm); (case T => k_asm); (case kq9 => first | exact rfl | assumption); (case d => ktr_room); (case u => ktr_units); (case hs => first | exact (fun _ h9 => h9) | exact (fun _ h9 => .tail _ (.tail _ h9)) | exact Cut.sub (by assumption) | tb_start)))
      rintro r7 o7 tl7 h7 tk7 ⟨ho7, rfl⟩ ha7 F7 N7
      k_steps
      refine hend0 _ _ ?_
      k_steps
      (all_goals (try k_data))
      all_goals w_report)
end Mine
theorem PySem.Challenge.cw_xm0685_01_holds : PySem.Challenge.rw_xm0685_01.Holds := by
  exact Mine.law_all
