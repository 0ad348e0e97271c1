import PyProof.Rows.All
import Wide.All
import OpenK.AllK
import Wide.FinOn
import Lean
import PySem.Challenge.RW_no0174_01
open PySem PySem.W PyProof.Rows PySem.Calls
set_option Elab.async false
set_option compiler.extract_closed false
set_option rowWalk.seconds 0
set_option maxRecDepth 100000
set_option maxHeartbeats 8000000
set_option pp.deepTerms false
set_option pp.maxSteps 700
namespace Mine
noncomputable def Wr (P : Prop) : Prop := P
theorem wr_true {P : Prop} (wrh9 : P) : Wr P = True := eq_true wrh9
theorem wr_mp {P : Prop} (wrg9 : Wr P) : P := wrg9

theorem pre3 {p q r S : Prop} (_ : p) (_ : q) (_ : r) (h : S) : S := h
theorem hk (T : ∀ p : Prop, p) : PySem.Challenge.rw_no0174_01.row.Holds := by
  w_on
  refine' pre3 ?hl ?hw ?hc ?main
  rotate_left 3
  case main => k_head
  all_goals exact T _
theorem walk_off : True := by
  w_top off
  trivial

noncomputable abbrev prg : Program := PySem.Challenge.rw_no0174_01.row.prog
theorem wp_never {α : Type} {M : Model} {A : Around} {t : Sem α} {Q : α → Shared → Prop} {E : Value → Shared → Prop} {s : Shared} (h : wpAny M A t Q (fun _ _ => False) s) : wpAny M A t Q E s :=
  wpAny_mono h (fun _ _ x => x) (fun _ _ x => x.elim)
theorem stop9' : True := trivial
noncomputable def Spec (w : World) (f : Addr) (args : List Value) (pre : List (Addr × Obj)) (dd uu : Nat) (Post : Value → List (Addr × Obj) → Prop) : Prop :=
  ∀ (p : Program) (loose : List Str) (mean : ExcName → Option Value) (mg mb : Str → Option Value) (A A₀ : Around) (env : Env) (outer : List Env) (base h₀ : Heap) (L : Addr) (m : Str → Option Value) (s : Shared) (R : Result → Shared → Prop),
   Below A₀ base outer h₀ → Fr h₀ L s.heap m → (hk.heap_1 w.params).In h₀ → News h₀ L s.heap pre → Top p loose mean mg mb h₀ → A.frames = some (env :: outer) → env.frame = some L → env.scope.kind = .function → A.handled = none → A.depth + dd < 1000 → A.units + uu < 9900 →
   (∀ v post h' tk', Fr h₀ L h' m → News h₀ L h' post → Post v post → R (.ok (.ret v)) { s with heap := h', toks := tk' }) →
   codeAny (model PySem.Challenge.rw_no0174_01.row.prog w) A (.call (.ref f) ⟨args, []⟩) R s

theorem Spec.use {w : World} {f : Addr} {args : List Value} {pre : List (Addr × Obj)} {dd uu : Nat} {Post : Value → List (Addr × Obj) → Prop} (S : Spec w f args pre dd uu Post)
    {p : Program} {loose : List Str} {mean : ExcName → Option Value} {mg mb : Str → Option Value} {A A₀ : Around} {env : Env} {outer : List Env} {base h₀ : Heap} {L : Addr} {m : Str → Option Value} {s : Shared} {Q E : Value → Shared → Prop}
    (B : Below A₀ base outer h₀) (F : Fr h₀ L s.heap m) (X : (hk.heap_1 w.params).In h₀) (N : News h₀ L s.heap pre) (T : Top p loose mean mg mb h₀) (hA : A.frames = some (env :: outer)) (hf : env.frame = some L) (hk : env.scope.kind = .function) (hh : A.handled = none)
    (hd : A.depth + dd < 1000) (hu : A.units + uu < 9900)
    (h : ∀ v post h' tk', Fr h₀ L h' m → News h₀ L h' post → Post v post → Q v { s with heap := h', toks := tk' }) :
    wpAny (model PySem.Challenge.rw_no0174_01.row.prog w) A (call (.ref f) args) Q E s :=
  wpAny_call (S p loose mean mg mb A A₀ env outer base h₀ L m s _ B F X N T hA hf hk hh hd hu h)

theorem Spec.mono {w : World} {f : Addr} {args : List Value} {pre : List (Addr × Obj)} {dd uu dd' uu' : Nat} {Post Post' : Value → List (Addr × Obj) → Prop} (S : Spec w f args pre dd uu Post) (hd : dd ≤ dd') (hu : uu ≤ uu')
    (h : ∀ v post, Post v post → Post' v post) : Spec w f args pre dd' uu' Post' := by
  intro p loose mean mg mb A A₀ env outer base h₀ L m s R B F X N T hA hf hke hh hd' hu' hret
  exact S p loose mean mg mb A A₀ env outer base h₀ L m s R B F X N T hA hf hke hh (by omega) (by omega) fun v post h' tk' F' N' hp => hret v post h' tk' F' N' (h v post hp)

theorem upd_mem {d : Addr} {o o' : Obj} {l l' : List (Addr × Obj)} (U : Upd d o o' l l') : (d, o) ∈ l := by
  induction U with
  | head _ => exact .head _
  | tail _ _ ih => exact .tail _ ih
theorem upd_pull {d : Addr} {o o' : Obj} {l l' : List (Addr × Obj)} (U : Upd d o o' l l') : ∀ p ∈ l', p = (d, o') ∨ (p ∈ l ∧ p.1 ≠ d) := by
  induction U with
  | head h =>
    intro p hp
    rcases List.mem_cons.mp hp with rfl | hp
    · exact .inl rfl
    · exact .inr ⟨.tail _ hp, h p hp⟩
  | tail h _ ih =>
    intro p hp
    rcases List.mem_cons.mp hp with rfl | hp
    · exact .inr ⟨.head _, h⟩
    · rcases ih p hp with e | ⟨a, b⟩
      · exact .inl e
      · exact .inr ⟨.tail _ a, b⟩
theorem upd_app {d : Addr} {o o' : Obj} {l l' : List (Addr × Obj)} : ∀ {pre : List (Addr × Obj)}, (∀ p ∈ pre, p.1 ≠ d) → Upd d o o' l l' → Upd d o o' (pre ++ l) (pre ++ l')
  | [], _, U => U
  | _ :: _, h, U => .tail (h _ (.head _)) (upd_app (fun p hp => h p (.tail _ hp)) U)

/-- what is made lies above -/
noncomputable def Fresh (d : Addr) (rest new : List (Addr × Obj)) : Prop := ∀ p ∈ new, @LT.lt Nat _ d p.1 ∧ ∀ q ∈ rest, @LT.lt Nat _ q.1 p.1
theorem Fresh.nil {d : Addr} {rest : List (Addr × Obj)} : Fresh d rest [] := fun _ h => nomatch h
theorem Fresh.cons {d D : Addr} {x : Obj} {rest new : List (Addr × Obj)} (h1 : @LT.lt Nat _ d D) (h2 : AllLt D rest) (h : Fresh d rest new) : Fresh d rest ((D, x) :: new) := by
  intro p hp
  rcases List.mem_cons.mp hp with rfl | hp
  · exact ⟨h1, ktn_ltOf h2⟩
  · exact h p hp
theorem Fresh.app {d : Addr} {rest a b : List (Addr × Obj)} (h : Fresh d rest a) (k : Fresh d rest b) : Fresh d rest (a ++ b) := by
  intro p hp
  rcases List.mem_append.mp hp with hp | hp
  · exact h p hp
  · exact k p hp
theorem allLt_append {d : Addr} : ∀ {a b : List (Addr × Obj)}, AllLt d (a ++ b) ↔ AllLt d a ∧ AllLt d b
  | [], _ => ⟨fun h => ⟨trivial, h⟩, fun h => h.2⟩
  | p :: r, b => by
    show (_ ∧ AllLt d (r ++ b)) ↔ (_ ∧ AllLt d r) ∧ AllLt d b
    rw [allLt_append (a := r) (b := b), and_assoc]

/-- one mutable object at d -/
theorem Spec.upd {w : World} {f : Addr} {args : List Value} {d : Addr} {o : Obj} {dd uu : Nat} {P : Value → Obj → List (Addr × Obj) → Prop}
    {news : List (Addr × Obj)} {g : Obj → List (Addr × Obj)}
    (S : ∀ rest, (∀ p ∈ rest, p.1 ≠ d) → (∀ p ∈ news, p.1 ≠ d → p ∈ rest) → Spec w f args ((d, o) :: rest) dd uu fun v post => ∃ o' new, post = (d, o') :: (new ++ rest) ∧ Fresh d rest new ∧ P v o' new)
    (U : ∀ o', Upd d o o' news (g o')) :
    Spec w f args news dd uu fun v post => ∃ o' new, post = new ++ g o' ∧ (∀ p ∈ new, p.1 ≠ d) ∧ (∀ p ∈ new, ∀ q ∈ news, @LT.lt Nat _ q.1 p.1) ∧ P v o' new := by
  intro p loose mean mg mb A A₀ env outer base h₀ L m s R B F X N T hA hf hke hh hd' hu' hret
  have hm := upd_mem (U o)
  refine S (news.filter fun p => p.1 != d) (fun p hp => by simpa using (List.mem_filter.mp hp).2) (fun p hp hn => List.mem_filter.mpr ⟨hp, by simpa using hn⟩) p loose mean mg mb A A₀ env outer base h₀ L m s R B F X (fun p hp => ?_) T hA hf hke hh hd' hu' ?_
  · rcases List.mem_cons.mp hp with rfl | hp
    · exact N _ hm
    · exact N _ (List.mem_filter.mp hp).1
  · rintro v post h' tk' F' N' ⟨o', new, rfl, hn, hP⟩
    refine hret v _ h' tk' F' (fun p hp => N' p ?_) ⟨o', new, rfl, fun p hp => Nat.ne_of_gt (hn p hp).1, fun p hp q hq => ?_, hP⟩
    · rcases List.mem_append.mp hp with hp | hp
      · exact .tail _ (List.mem_append.mpr (.inl hp))
      · rcases upd_pull (U o') p hp with rfl | ⟨a, b⟩
        · exact .head _
        · exact .tail _ (List.mem_append.mpr (.inr (List.mem_filter.mpr ⟨a, by simpa using b⟩)))
    · by_cases e : q.1 = d
      · rw [e]; exact (hn p hp).1
      · exact (hn p hp).2 q (List.mem_filter.mpr ⟨hq, by simpa using e⟩)
/-- the row: a list of ints -/
noncomputable def RowIs (o : Obj) : Prop := ∃ vs ns n, o = listOf (List.toArray vs) n ∧ IntsAre vs ns ∧ vs.length ≤ 2000
theorem row_pos {vs : List Value} {ns : List Int} (h : decide (ns = []) = false) (hi : IntsAre vs ns) : 0 < vs.length := by
  have hL := hi.length
  cases ns with
  | nil => simp at h
  | cons a r => rw [hL]; exact Nat.succ_pos _

theorem deeper_frames {A : Around} {l : List Env} (e : Env) (h : A.frames = some l) : (A.deeper e).frames = some (e :: l) := by
  show A.frames.map _ = _
  rw [h]; rfl
theorem deeper_handled {A : Around} (e : Env) (h : A.handled = none) : (A.deeper e).handled = none := h

noncomputable def cd (c : Int × Int) : Dat := .tuple [.int c.1, .int c.2]
inductive Lf where
  | v (n : Int)
  | a (k : Int)
  | i (k : Int)
noncomputable def Lf.d : Lf → Dat
  | .v n => .tuple [.str (Str.ofString "v"), .int n]
  | .a k => .tuple [.str (Str.ofString "a"), .int k]
  | .i k => .tuple [.str (Str.ofString "i"), .int k]
noncomputable def Lf.ok : Lf → Prop
  | .v n => 0 ≤ n ∧ n < 3
  | _ => True
inductive Tm where
  | lf (l : Lf)
  | s (f : Int) (xs : List Lf)
noncomputable def Tm.d : Tm → Dat
  | .lf l => l.d
  | .s f xs => .tuple [.str (Str.ofString "s"), .int f, .tuple (xs.map Lf.d)]
noncomputable def Tm.ok : Tm → Prop
  | .lf l => l.ok
  | .s f xs => (∀ x ∈ xs, x.ok) ∧ ((f = 12 ∧ xs.length = 1) ∨ ((f = 0 ∨ f = 13) ∧ xs.length = 2))

theorem allLt_mem {d : Addr} {l : List (Addr × Obj)} (h : AllLt d l) : ∀ q ∈ l, q.1 < d := ktn_ltOf h
theorem News.sub {h₀ h : Heap} {L : Addr} {l l' : List (Addr × Obj)} (N : News h₀ L h l) (hs : ∀ p ∈ l', p ∈ l) : News h₀ L h l' := fun p hp => N p (hs p hp)
theorem fmod_ok {k m : Int} (h : 0 < m) : 0 ≤ k.fmod m ∧ k.fmod m < m := ⟨Int.fmod_nonneg_of_pos k h, Int.fmod_lt_of_pos k h⟩
theorem fmod_no {k m j : Int} (h : k.fmod m = j) (h0 : 0 < m := by decide) (h1 : m ≤ j := by decide) : False := by
  have := (fmod_ok (k := k) h0).2
  omega

inductive Ky where
  | var
  | list
  | struct (f : Int)
  | const (c : Int × Int)
  deriving DecidableEq
noncomputable def Ky.d : Ky → Dat
  | .var => .tuple [.str (Str.ofString "var")]
  | .list => .tuple [.str (Str.ofString "list")]
  | .struct f => .tuple [.str (Str.ofString "struct"), .int f]
  | .const c => .tuple [.str (Str.ofString "const"), cd c]
noncomputable def Tm.key : Tm → Ky
  | .lf (.v _) => .var
  | .lf (.a k) => .const (4, k)
  | .lf (.i k) => .const (5, k)
  | .s f _ => if f = 0 then .list else .struct f
noncomputable abbrev tupAt (vs : List Value) (n : Nat) : Obj := { cls := .type "tuple", data := .seq vs.toArray n }
theorem dat_ci {R : List (Addr × Obj)} {v : Value} {c : Str} {k : Int} (h : DatIn R v (.tuple [.str c, .int k])) : ∃ a n t u, v = .ref a ∧ (a, tupAt [.str c t, .int k u] n) ∈ R := by
  cases h with
  | tuple hm r =>
    cases r with
    | cons h1 r => cases h1; cases r with
      | cons h2 r => cases h2; cases r; exact ⟨_, _, _, _, rfl, hm⟩
theorem dat_ii {R : List (Addr × Obj)} {v : Value} {c : Int × Int} (h : DatIn R v (cd c)) : ∃ a n t u, v = .ref a ∧ (a, tupAt [.int c.1 t, .int c.2 u] n) ∈ R := by
  cases h with
  | tuple hm r =>
    cases r with
    | cons h1 r => cases h1; cases r with
      | cons h2 r => cases h2; cases r; exact ⟨_, _, _, _, rfl, hm⟩
theorem dat_xy {R : List (Addr × Obj)} {v : Value} {x y : Int} (h : DatIn R v (cd (x, y))) : ∃ a n t u, v = .ref a ∧ (a, tupAt [.int x t, .int y u] n) ∈ R := dat_ii h
theorem dat_s {R : List (Addr × Obj)} {v : Value} {c : Str} {k : Int} {ds : List Dat} (h : DatIn R v (.tuple [.str c, .int k, .tuple ds])) : ∃ a n t u b m ws, v = .ref a ∧ (a, tupAt [.str c t, .int k u, .ref b] n) ∈ R ∧ (b, tupAt ws m) ∈ R ∧ DatAll R ws ds := by
  cases h with
  | tuple hm r =>
    cases r with
    | cons h1 r => cases h1; cases r with
      | cons h2 r => cases h2; cases r with
        | cons h3 r => cases r; cases h3 with
          | tuple hb hr => exact ⟨_, _, _, _, _, _, _, rfl, hm, hb, hr⟩
/-- what a call leaves that only makes -/
noncomputable def PurePost (rest R : List (Addr × Obj)) (d : Dat) (v : Value) (post : List (Addr × Obj)) : Prop :=
  ∃ new, post = new ++ rest ∧ (∀ p ∈ new, ∀ q ∈ rest, @LT.lt Nat _ q.1 p.1) ∧ DatIn (new ++ R) v d

theorem off_gt {d : Addr} {X : List (Addr × Obj)} (h : ∀ p ∈ X, @LT.lt Nat _ d p.1) : ∀ p ∈ X, p.1 ≠ d := fun p hp => Nat.ne_of_gt (h p hp)
theorem off_lt {d : Addr} {X : List (Addr × Obj)} (h : AllLt d X) : ∀ p ∈ X, p.1 ≠ d := fun p hp => Nat.ne_of_lt (ktn_ltOf h p hp)
theorem off_lt' {d : Addr} {X : List (Addr × Obj)} (h : ∀ p ∈ X, @LT.lt Nat _ p.1 d) : ∀ p ∈ X, p.1 ≠ d := fun p hp => Nat.ne_of_lt (h p hp)
theorem updF_app {d : Addr} {o : Obj} {l : List (Addr × Obj)} {g : Obj → List (Addr × Obj)} : ∀ {pre : List (Addr × Obj)}, (∀ p ∈ pre, p.1 ≠ d) → UpdF d o l g → UpdF d o (pre ++ l) (fun o' => pre ++ g o')
  | [], _, U => U
  | _ :: _, h, U => .tail (h _ (.head _)) (updF_app (fun p hp => h p (.tail _ hp)) U)

/-- the symbols' object -/
noncomputable def SymIs (R : List (Addr × Obj)) (SY : Addr) : Prop := ∃ SYD TX AN FU FN h1 h2 h3 h4 t1 t2 t3 t4 n fv m fds, (SY, instObj 154 SYD) ∈ R ∧
  (SYD, dictOf [⟨h1, .str (Str.ofString "texts") t1, .ref TX⟩, ⟨h2, .str (Str.ofString "atom_numbers") t2, .ref AN⟩, ⟨h3, .str (Str.ofString "functors") t3, .ref FU⟩, ⟨h4, .str (Str.ofString "functor_numbers") t4, .ref FN⟩] n) ∈ R ∧
  (FU, listOf (List.toArray fv) m) ∈ R ∧ DatAll R fv fds ∧ (fds.length = 32 ∧ ∀ d ∈ fds, ∃ c, d = cd c) ∧ (∃ k, fds[12]? = some (.tuple [.int k, .int 1])) ∧ (∃ k, fds[13]? = some (.tuple [.int k, .int 2]))
/-- the store's object: its heap is the list H, its stack the list T -/
structure StoreIs (R : List (Addr × Obj)) (S H T : Addr) : Prop where
  out : ∃ SD SY TR h1 h2 h3 h4 h5 h6 h7 t1 t2 t3 t4 t5 t6 t7 u1 u2 u3 n, (S, instObj 374 SD) ∈ R ∧
    (SD, dictOf [⟨h1, .str (Str.ofString "symbols") t1, .ref SY⟩, ⟨h2, .str (Str.ofString "max_heap") t2, .int 100000 u1⟩, ⟨h3, .str (Str.ofString "heap") t3, .ref H⟩, ⟨h4, .str (Str.ofString "stack") t4, .ref T⟩, ⟨h5, .str (Str.ofString "trail") t5, .ref TR⟩, ⟨h6, .str (Str.ofString "hb") t6, .int 0 u2⟩, ⟨h7, .str (Str.ofString "bb") t7, .int 0 u3⟩] n) ∈ R ∧ SymIs R SY
/-- a list of cells -/
structure CellsAt (R : List (Addr × Obj)) (o : Obj) (hs : List (Int × Int)) : Prop where
  out : ∃ vs n, o = listOf (List.toArray vs) n ∧ DatAll R vs (hs.map cd) ∧ hs.length ≤ 1000
theorem SymIs.mono {R R' : List (Addr × Obj)} {SY : Addr} (h : SymIs R SY) (hs : ∀ p ∈ R, p ∈ R') : SymIs R' SY := by
  obtain ⟨SYD, TX, AN, FU, FN, h1, h2, h3, h4, t1, t2, t3, t4, n, fv, m, fds, a, b, c, d, e⟩ := h
  exact ⟨SYD, TX, AN, FU, FN, h1, h2, h3, h4, t1, t2, t3, t4, n, fv, m, fds, hs _ a, hs _ b, hs _ c, d.mono hs, e⟩
theorem StoreIs.mono {R R' : List (Addr × Obj)} {S H T : Addr} (h : StoreIs R S H T) (hs : ∀ p ∈ R, p ∈ R') : StoreIs R' S H T := by
  obtain ⟨SD, SY, TR, h1, h2, h3, h4, h5, h6, h7, t1, t2, t3, t4, t5, t6, t7, u1, u2, u3, n, a, b, c⟩ := h.out
  exact ⟨SD, SY, TR, h1, h2, h3, h4, h5, h6, h7, t1, t2, t3, t4, t5, t6, t7, u1, u2, u3, n, hs _ a, hs _ b, c.mono hs⟩
theorem StoreIs.elim {R : List (Addr × Obj)} {S H T : Addr} {P : Prop} (h : StoreIs R S H T)
    (k : ∀ SD SY TR h1 h2 h3 h4 h5 h6 h7 t1 t2 t3 t4 t5 t6 t7 u1 u2 u3 n, (S, instObj 374 SD) ∈ R →
      (SD, dictOf [⟨h1, .str (Str.ofString "symbols") t1, .ref SY⟩, ⟨h2, .str (Str.ofString "max_heap") t2, .int 100000 u1⟩, ⟨h3, .str (Str.ofString "heap") t3, .ref H⟩, ⟨h4, .str (Str.ofString "stack") t4, .ref T⟩, ⟨h5, .str (Str.ofString "trail") t5, .ref TR⟩, ⟨h6, .str (Str.ofString "hb") t6, .int 0 u2⟩, ⟨h7, .str (Str.ofString "bb") t7, .int 0 u3⟩] n) ∈ R → SymIs R SY → P) : P := by
  obtain ⟨SD, SY, TR, h1, h2, h3, h4, h5, h6, h7, t1, t2, t3, t4, t5, t6, t7, u1, u2, u3, n, a, b, c⟩ := h.out
  exact k SD SY TR h1 h2 h3 h4 h5 h6 h7 t1 t2 t3 t4 t5 t6 t7 u1 u2 u3 n a b c
theorem SymIs.elim {R : List (Addr × Obj)} {SY : Addr} {P : Prop} (h : SymIs R SY)
    (k : ∀ SYD TX AN FU FN h1 h2 h3 h4 t1 t2 t3 t4 n fv m fds, (SY, instObj 154 SYD) ∈ R →
  (SYD, dictOf [⟨h1, .str (Str.ofString "texts") t1, .ref TX⟩, ⟨h2, .str (Str.ofString "atom_numbers") t2, .ref AN⟩, ⟨h3, .str (Str.ofString "functors") t3, .ref FU⟩, ⟨h4, .str (Str.ofString "functor_numbers") t4, .ref FN⟩] n) ∈ R →
  (FU, listOf (List.toArray fv) m) ∈ R → DatAll R fv fds → (fds.length = 32 ∧ ∀ d ∈ fds, ∃ c, d = cd c) → (∀ k6, fds[12]? = some (.tuple [.int k6, .int 1]) → ∀ k7, fds[13]? = some (.tuple [.int k7, .int 2]) → P)) : P := by
  obtain ⟨SYD, TX, AN, FU, FN, h1, h2, h3, h4, t1, t2, t3, t4, n, fv, m, fds, a, b, c, d, e, ⟨z1, f⟩, ⟨z2, g⟩⟩ := h
  exact k SYD TX AN FU FN h1 h2 h3 h4 t1 t2 t3 t4 n fv m fds a b c d e z1 f z2 g
theorem CellsAt.mono {R R' : List (Addr × Obj)} {o : Obj} {cs : List (Int × Int)} (h : CellsAt R o cs) (hs : ∀ p ∈ R, p ∈ R') : CellsAt R' o cs := by
  obtain ⟨vs, n, e, d, l⟩ := h.out
  exact ⟨vs, n, e, d.mono hs, l⟩
/-- the chain that deref goes -/
inductive Deref (hs ss : List (Int × Int)) : Int × Int → Int × Int → Prop where
  | halt {c : Int × Int} : c.1 ≠ 0 → c.1 ≠ 1 → Deref hs ss c c
  | selfH {x : Nat} : hs[x]? = some (0, (x : Int)) → Deref hs ss (0, (x : Int)) (0, (x : Int))
  | selfS {x : Nat} : ss[x]? = some (1, (x : Int)) → Deref hs ss (1, (x : Int)) (1, (x : Int))
  | stepH {x : Nat} {c r : Int × Int} : hs[x]? = some c → c ≠ (0, (x : Int)) → Deref hs ss c r → Deref hs ss (0, (x : Int)) r
  | stepS {x : Nat} {c r : Int × Int} : ss[x]? = some c → c ≠ (1, (x : Int)) → Deref hs ss c r → Deref hs ss (1, (x : Int)) r
noncomputable abbrev std (x y : Str) (a b : Value) (u : Str → Option Value) : Str → Option Value := fun z => if z = x then some a else if z = y then some b else u z
theorem fr_std {h₀ h : Heap} {L : Addr} {m : Str → Option Value} (F : Fr h₀ L h m) {x y : Str} {a b : Value} (hx : m x = some a) (hy : m y = some b) : ∃ u, Fr h₀ L h (std x y a b u) := by
  have e : (fun z => if z = x then some a else if z = y then some b else m z) = m := by
    funext z
    by_cases h1 : z = x
    · rw [if_pos h1, h1, hx]
    · rw [if_neg h1]
      by_cases h2 : z = y
      · rw [if_pos h2, h2, hy]
      · rw [if_neg h2]
  refine ⟨m, ?_⟩
  show Fr h₀ L h (fun z => if z = x then some a else if z = y then some b else m z)
  rw [e]; exact F
/-- a place where the walk is to stop -/
noncomputable def Stop9 (p : Prop) : Prop := p
noncomputable abbrev TurnTo (P : Shared → Prop) (Q : Flow → Shared → Prop) (f : Flow) (s : Shared) : Prop := match f with
  | .next => Stop9 (P s)
  | .cont => Stop9 (P s)
  | .brk => Q .next s
  | .ret v => Q (.ret v) s
theorem turn_to {prog : Program} {w : World} {A : Around} {E : Value → Shared → Prop} {s : Shared} {env : Env} {test : PySem.Expr} {body orelse : List Stmt} {Q : Flow → Shared → Prop} {k : Nat} (P : Shared → Prop)
    (hP : ∀ s, P s → WhlRest prog w A E env test body orelse Q k s) (hE : PassesOwn (model prog w) A env E)
    (h : wpAny (model prog w) A (isTrue test env (eval test env)) (fun b s₂ => WhlIf b (wpAny (model prog w) A (execs body env) (TurnTo P Q) E s₂) (wpAny (model prog w) A (execs orelse env) Q E s₂)) E s) :
    WhlRest prog w A E env test body orelse Q (k + 1) s := by
  refine whl_turn hE (wpAny_mono h (fun b s₂ hb => ?_) fun _ _ x => x)
  cases b with
  | false => exact hb
  | true =>
    refine WhlIf.yes rfl (wpAny_mono (show wpAny _ _ _ _ _ _ from hb) (fun f s₃ hf => ?_) fun _ _ x => x)
    cases f with
    | next => exact hP _ hf
    | cont => exact hP _ hf
    | brk => exact hf
    | ret v => exact hf

section
variable {prog : Program} {w : World} {A : Around} {E : Value → Shared → Prop} {s : Shared} {h₀ : Heap} {L a : Addr} {m : Str → Option Value} {news news' : List (Addr × Obj)} {vs : List Value} {n : Nat} {k : Int} {u : Tok} {v x : Value}
theorem item_led {value slice : PySem.Expr} {Q : Value → Shared → Prop}
    (N : News h₀ L s.heap news) (hm : (a, listOf vs.toArray n) ∈ news) (h0 : 0 ≤ k) (hhi : k < 2 ^ 63) (hx : vs[k.toNat]? = some v) (h : Q v s)
    (hs : subscripted slice false (.ref a) (.int k u) = operate [.ref a, .int k u] (getItem (.ref a) (.int k u)) := by with_unfolding_all rfl) :
    wpAny (model prog w) A (subscriptTail value slice (.ref a) (.int k u)) Q E s :=
  have hL : s.heap.IsList a vs.toArray := ⟨_, N.get hm, rfl, _, rfl⟩
  tail_any hL.typeIs slot_list_getitem.lookup (wpAny_getItem_list hL h0 hhi (by simpa using hx) h) hs
theorem len_led {Q : Value → Shared → Prop} (N : News h₀ L s.heap news) (hm : (a, listOf vs.toArray n) ∈ news) (hz : vs.length < 2 ^ 63) (h : ∀ t t', Q (.int (vs.length : Int) t) { s with toks := t' }) :
    wpAny (model prog w) A (call (.builtin "len") [.ref a]) Q E s := by
  have hL : s.heap.IsList a vs.toArray := ⟨_, N.get hm, rfl, _, rfl⟩
  refine len_list hL (by rw [List.size_toArray]; omega) ?_
  simpa using h _ _
theorem append_led {Q : Value → Shared → Prop} (F : Fr h₀ L s.heap m) (N : News h₀ L s.heap news) (U : Upd a (listOf vs.toArray n) (listOf (vs ++ [x]).toArray (n + 1)) news news') (hz : vs.length ≤ 10000)
    (h : ∀ h', Fr h₀ L h' m → News h₀ L h' news' → Q .none { s with heap := h' }) : wpAny (model prog w) A (call (.builtin "list.append") [.ref a, x]) Q E s := by
  refine append_K F N (its := vs.toArray) (by rw [List.push_toArray]; exact U) h ?_
  rw [List.size_toArray, PySem.sizeLine_eq]; omega
theorem set_led {Q : Unit → Shared → Prop} (F : Fr h₀ L s.heap m) (N : News h₀ L s.heap news) (U : Upd a (listOf vs.toArray n) (listOf (vs.set k.toNat x).toArray n) news news') (h0 : 0 ≤ k) (h1 : k < vs.length) (hz : vs.length ≤ 10000)
    (h : ∀ h', Fr h₀ L h' m → News h₀ L h' news' → Q () { s with heap := h' }) : wpAny (model prog w) A (setItem (.ref a) (.int k u) x) Q E s := by
  obtain ⟨pre, post, rfl, rfl, b, c⟩ := U.split
  have z := N (a, listOf vs.toArray n) (List.mem_append.mpr (.inr (.head _)))
  refine ki_setAt z.1 h0 (by omega) (by rw [List.size_toArray]; exact h1) (h _ (F.change (Heap.SameBut.update ..) z.2.1 z.2.2) (ki_turn _ N b c ?_ ?_))
  · show vs.toArray.setIfInBounds k.toNat x = (vs.set k.toNat x).toArray
    apply Array.toList_inj.mp
    simp
  · simp
end
theorem datAll_at {R : List (Addr × Obj)} {vs : List Value} {cs : List (Int × Int)} (h : DatAll R vs (cs.map cd)) {x : Nat} {c : Int × Int} (hx : cs[x]? = some c) : ∃ v, vs[((x : Nat) : Int).toNat]? = some v ∧ DatIn R v (cd c) ∧ x < cs.length := by
  obtain ⟨hl, he⟩ := List.getElem?_eq_some_iff.mp hx
  obtain ⟨v, h1, h2⟩ := h.get (k := x) (by simpa using hl)
  refine ⟨v, by simpa using h1, ?_, hl⟩
  have e : (cs.map cd)[x]'(by simpa using hl) = cd c := by simp [he]
  rw [e] at h2; exact h2
theorem datAll_set {R : List (Addr × Obj)} {v : Value} {d : Dat} (hd : DatIn R v d) : ∀ {vs : List Value} {ds : List Dat}, DatAll R vs ds → ∀ j : Nat, DatAll R (vs.set j v) (ds.set j d)
  | _, _, .nil, _ => .nil
  | _, _, .cons _ r, 0 => .cons hd r
  | _, _, .cons h r, j + 1 => .cons h (datAll_set hd r j)
theorem cells_len {R : List (Addr × Obj)} {vs : List Value} {cs : List (Int × Int)} (h : DatAll R vs (cs.map cd)) : vs.length = cs.length := by rw [h.length, List.length_map]
theorem CellsAt.push {R R' : List (Addr × Obj)} {vs : List Value} {n' : Nat} {v : Value} {c : Int × Int} {hs : List (Int × Int)} (h : DatAll R vs (hs.map cd)) (hm : ∀ p ∈ R, p ∈ R') (hv : DatIn R' v (cd c)) (hl : hs.length < 1000) :
    CellsAt R' (listOf (vs ++ [v]).toArray n') (hs ++ [c]) :=
  ⟨_, _, rfl, by rw [List.map_append]; exact (h.mono hm).append (.cons hv .nil), by simp; omega⟩
theorem CellsAt.set {R R' : List (Addr × Obj)} {vs : List Value} {n' : Nat} {v : Value} {c : Int × Int} {hs : List (Int × Int)} (h : DatAll R vs (hs.map cd)) (hm : ∀ p ∈ R, p ∈ R') (hv : DatIn R' v (cd c)) (hl : hs.length ≤ 1000) (j : Nat) :
    CellsAt R' (listOf (vs.set j v).toArray n') (hs.set j c) :=
  ⟨_, _, rfl, by rw [List.map_set]; exact datAll_set hv (h.mono hm) j, by simpa using hl⟩
theorem cell_in {R : List (Addr × Obj)} {D : Addr} {x y : Int} {t u : Tok} {n : Nat} (hm : (D, tupAt [.int x t, .int y u] n) ∈ R) : DatIn R (.ref D) (cd (x, y)) := .tuple hm (.cons (.int _ _) (.cons (.int _ _) .nil))

inductive Del (d : Addr) (o : Obj) : List (Addr × Obj) → List (Addr × Obj) → Prop
  | head {r} : (∀ p ∈ r, p.1 ≠ d) → Del d o ((d, o) :: r) r
  | tail {p r r'} : p.1 ≠ d → Del d o r r' → Del d o (p :: r) (p :: r')
theorem del_app {d : Addr} {o : Obj} {l l' : List (Addr × Obj)} : ∀ {pre : List (Addr × Obj)}, (∀ p ∈ pre, p.1 ≠ d) → Del d o l l' → Del d o (pre ++ l) (pre ++ l')
  | [], _, U => U
  | _ :: _, h, U => .tail (h _ (.head _)) (del_app (fun p hp => h p (.tail _ hp)) U)
theorem Del.all {d : Addr} {o : Obj} {l l' : List (Addr × Obj)} (D : Del d o l l') : (d, o) ∈ l ∧ ∀ p ∈ l', p ∈ l ∧ p.1 ≠ d := by
  induction D with
  | head h => exact ⟨.head _, fun p hp => ⟨.tail _ hp, h p hp⟩⟩
  | tail h _ ih =>
    refine ⟨.tail _ ih.1, fun p hp => ?_⟩
    rcases List.mem_cons.mp hp with rfl | hp
    · exact ⟨.head _, h⟩
    · exact ⟨.tail _ (ih.2 p hp).1, (ih.2 p hp).2⟩
theorem unrEnd4 {h₀ : Heap} {L I : Addr} {it : Obj} {rest : (Str → Option Value) → List (Addr × Obj) → Prop} {s₁ : Shared} {h' : Heap} {tk : Nat} {m' : Str → Option Value} {all news' : List (Addr × Obj)} (F : Fr h₀ L h' m') (N : News h₀ L h' all)
    (D : Del I it all news') (r : rest m' news') : UnrEnd h₀ L s₁ I it rest { s₁ with heap := h', toks := tk } :=
  UnrEnd.intro F N news' (fun p hp => by
    rcases List.mem_cons.mp hp with rfl | hp
    · exact D.all.1
    · exact (D.all.2 p hp).1) (fun p hp => (D.all.2 p hp).2) r

theorem cell_at {R : List (Addr × Obj)} {D : Addr} {x y y' : Int} {t u : Tok} {n : Nat} (hm : (D, tupAt [.int x t, .int y' u] n) ∈ R) (e : y' = y) : DatIn R (.ref D) (cd (x, y)) := by subst e; exact cell_in hm
/-- what a call leaves that turns the list of cells at H: rest is the ledger's tail, R the part of it that bears the data -/
noncomputable def HPost (H : Addr) (rest R : List (Addr × Obj)) (hs' : List (Int × Int)) (d : Dat) (v : Value) (post : List (Addr × Obj)) : Prop :=
  ∃ o' new, post = (H, o') :: (new ++ rest) ∧ Fresh H rest new ∧ (CellsAt (new ++ R) o' hs' ∧ DatIn (new ++ R) v d)
theorem hpost_end {h₀ h : Heap} {L H : Addr} {rest R new : List (Addr × Obj)} {o' : Obj} {hs' : List (Int × Int)} {d : Dat} {v : Value} (N : News h₀ L h (new ++ (H, o') :: rest)) (f : Fresh H rest new) (c : CellsAt (new ++ R) o' hs') (hd : DatIn (new ++ R) v d) :
    ∃ post, News h₀ L h post ∧ HPost H rest R hs' d v post :=
  ⟨_, News.sub (l' := (H, o') :: (new ++ rest)) N (by
    intro p hp
    simp only [List.mem_cons, List.mem_append] at hp ⊢
    rcases hp with hp | hp | hp <;> simp [hp]), _, _, rfl, f, c, hd⟩
theorem sub_app {R Z new : List (Addr × Obj)} (h : ∀ p ∈ R, p ∈ Z) : ∀ p ∈ new ++ R, p ∈ new ++ Z := fun p hp => (List.mem_append.mp hp).elim (fun h' => List.mem_append.mpr (.inl h')) fun h' => List.mem_append.mpr (.inr (h p h'))
theorem sub_right {R new : List (Addr × Obj)} : ∀ p ∈ R, p ∈ new ++ R := fun _ h => List.mem_append.mpr (.inr h)
theorem CellsAt.push2 {R R' : List (Addr × Obj)} {vs : List Value} {n' : Nat} {v v' : Value} {c c' : Int × Int} {hs : List (Int × Int)} (h : DatAll R vs (hs.map cd)) (hm : ∀ p ∈ R, p ∈ R') (hv : DatIn R' v (cd c)) (hv' : DatIn R' v' (cd c')) (hl : hs.length < 999) :
    CellsAt R' (listOf (vs ++ [v] ++ [v']).toArray n') (hs ++ [c] ++ [c']) := by
  obtain ⟨_, n, e, d, l⟩ := (CellsAt.push (n' := 0) h hm hv (by omega)).out
  exact CellsAt.push (R := R') (by rw [List.map_append]; exact (h.mono hm).append (.cons hv .nil)) (fun _ x => x) hv' (by simp; omega)
theorem datAll_pick {R : List (Addr × Obj)} {vs : List Value} {ds : List Dat} (h : DatAll R vs ds) {x : Nat} {d : Dat} (hx : ds[x]? = some d) : ∃ v, vs[((x : Nat) : Int).toNat]? = some v ∧ DatIn R v d := by
  obtain ⟨hl, he⟩ := List.getElem?_eq_some_iff.mp hx
  obtain ⟨v, h1, h2⟩ := h.get (k := x) hl
  exact ⟨v, by simpa using h1, he ▸ h2⟩
theorem set2 {vs : List Value} {v v' w : Value} : (vs ++ [v] ++ [v']).set ((vs.length : Nat) : Int).toNat w = vs ++ [w] ++ [v'] := by simp
theorem set3 {vs : List Value} {v v' v'' w : Value} : (vs ++ [v] ++ [v'] ++ [v'']).set ((vs.length : Nat) : Int).toNat w = vs ++ [w] ++ [v'] ++ [v''] := by simp
theorem CellsAt.push2s {R R' : List (Addr × Obj)} {vs : List Value} {n' : Nat} {v v' w : Value} {c c' : Int × Int} {hs : List (Int × Int)} (h : DatAll R vs (hs.map cd)) (hm : ∀ p ∈ R, p ∈ R') (hv : DatIn R' w (cd c)) (hv' : DatIn R' v' (cd c')) (hl : hs.length < 999) :
    CellsAt R' (listOf ((vs ++ [v] ++ [v']).set ((vs.length : Nat) : Int).toNat w).toArray n') (hs ++ [c] ++ [c']) := by
  rw [set2]; exact CellsAt.push2 h hm hv hv' hl
theorem CellsAt.push3s {R R' : List (Addr × Obj)} {vs : List Value} {n' : Nat} {v v' v'' w : Value} {c c' c'' : Int × Int} {hs : List (Int × Int)} (h : DatAll R vs (hs.map cd)) (hm : ∀ p ∈ R, p ∈ R') (hv : DatIn R' w (cd c)) (hv' : DatIn R' v' (cd c')) (hv'' : DatIn R' v'' (cd c'')) (hl : hs.length < 990) :
    CellsAt R' (listOf ((vs ++ [v] ++ [v'] ++ [v'']).set ((vs.length : Nat) : Int).toNat w).toArray n') (hs ++ [c] ++ [c'] ++ [c'']) := by
  rw [set3]
  exact CellsAt.push (R := R') (by rw [List.map_append, List.map_append]; exact ((h.mono hm).append (.cons hv .nil)).append (.cons hv' .nil)) (fun _ x => x) hv'' (by simp; omega)
section
set_option maxRecDepth 1000000
set_option maxHeartbeats 0

theorem LeftO.of_run {p q : Program} {loose : List Str} {Xt : Shared → Bool} {α : Type} {Yf : Shared → α} {Ya : World → α} {N : Nat} {g0 : Bool} {H₀ : Params → Heap} {gs₀ : Array GenState} {d₀ : Drawn} {k₀ : Nat} {m₀ : Nat} {ann : Option Value}
    {Sa : World → OsState → Shared} {Sb : World → OsState → SharedT} {env : Env} {c : Code} {pos pos' : Pos} {n1 n2 n3 : Nat} {body : List Stmt} {fp : Pos}
    (open_ : ∀ w : World, (fencedOpening treeTable p w N).map (fun s => (s.heap, s.gens, s.drawn, s.toks)) = some (H₀ w.params, gs₀, d₀, k₀))
    (size : ∀ w : World, ((H₀ w.params).isNs mainGlobals && gs₀.size == 0, (H₀ w.params).objs.size, (H₀ w.params).nsMap mainGlobals "__annotations__") = (true, m₀, ann))
    (pre : ∀ w os, topGo treeTable p w m₀ ann n1 ⟨H₀ w.params, gs₀, d₀, k₀, os⟩ (topStub p) = some (Sa w os, ⟨denote treeTable (.body body env), c, pos, [topFrame fp]⟩))
    (block : ∀ w os, segRun treeTable p w m₀ ann 1 n2 (Sa w os) (blockOf body env c pos [topFrame fp]) = some (.next, (Sb w os).abs, c, pos'))
    (tot : ∀ w os, ∃ s', topRun treeTable p w m₀ ann n3 (Sb w os).abs (restOf body env c pos' [topFrame fp]) = some s' ∧
        (staticsOk (importedModules p.main.body) (H₀ w.params) s'.heap && namesBound p s'.heap && gensDone s' && laidKept (H₀ w.params) s'.heap) = true ∧ openSeen q loose (importedModules p.main.body) Xt g0 s' = openGood q loose ∧ Yf s' = Ya w)
    (le : Nat.ble (n1 + (n2 + n3)) N = true) : LeftO p q loose Xt Yf Ya N g0 := fun w => by
  obtain ⟨⟨h, gs, d, k, os⟩, e, e'⟩ := Option.map_eq_some_iff.mp (open_ w)
  obtain ⟨rfl, rfl, rfl, rfl⟩ : h = H₀ w.params ∧ gs = gs₀ ∧ d = d₀ ∧ k = k₀ := by simpa using e'
  obtain ⟨z1, z2, z3⟩ : _ ∧ _ ∧ _ := by simpa only [Prod.mk.injEq] using size w
  obtain ⟨s', r1, l1, l2, l3⟩ := tot w os
  have r := go_top (pre w os) (piece_block (block w os) r1)
  have r := topRun_mono (N - (n1 + (n2 + n3))) _ _ _ _ r
  rw [show n1 + (n2 + n3) + (N - (n1 + (n2 + n3))) = N by have := Nat.le_of_ble_eq_true le; omega] at r
  have t : topFrom treeTable p w N ⟨H₀ w.params, gs, d, k, os⟩ = some s' := by
    unfold topFrom
    dsimp only
    rw [z1, z2, z3, r]
    show (match staticsOk (importedModules p.main.body) (H₀ w.params) s'.heap && namesBound p s'.heap && gensDone s' && laidKept (H₀ w.params) s'.heap with | true => _ | false => _) = _
    rw [l1]
  unfold openEnds
  rw [e]
  show (topFrom treeTable p w N _).map _ = _
  rw [t]
  exact congrArg some (Prod.ext l2 l3)

noncomputable def topAs : List Addr := [2, 3, 15, 17, 18, 20, 21, 22, 29, 30, 31, 32, 35, 42, 44, 45, 47, 48, 49, 50, 51, 54, 56, 57, 59, 60, 61, 63, 64, 66, 67, 75, 77, 78, 80, 81, 82, 84, 85, 87, 88, 89, 91, 92, 94, 95, 96, 98, 99, 101, 102, 103, 105, 106, 108, 109, 110, 112, 113, 115, 116, 117, 119, 120, 122, 123, 124, 126, 127, 129, 130, 131, 133, 134, 136, 137, 138, 140, 141, 143, 144, 145, 147, 148, 150, 151, 152, 153, 154, 155, 156, 159, 161, 162, 164, 165, 166, 168, 169, 171, 172, 173, 175, 176, 178, 179, 180, 188, 189, 191, 192, 194, 195, 196, 198, 199, 201, 202, 203, 205, 206, 208, 209, 210, 212, 213, 215, 216, 217, 219, 220, 222, 223, 224, 226, 227, 229, 230, 231, 233, 234, 236, 237, 238, 240, 241, 243, 244, 245, 247, 248, 250, 251, 252, 254, 255, 257, 258, 259, 261, 262, 264, 265, 266, 268, 269, 271, 272, 273, 275, 276, 278, 279, 280, 282, 283, 285, 286, 287, 289, 290, 292, 293, 294, 296, 297, 299, 300, 301, 303, 304, 306, 307, 308, 310, 311, 313, 314, 315, 317, 318, 320, 321, 322, 323, 324, 325, 326, 329, 336, 338, 339, 341, 342, 343, 344, 346, 347, 349, 350, 351, 353, 354, 356, 357, 358, 360, 361, 363, 364, 365, 367, 368, 370, 371, 372, 373, 374, 377, 378, 379, 381, 382, 384, 385, 386, 388, 389, 391, 392, 393, 395, 396, 398, 399, 400, 402, 403, 405, 406, 407, 409, 410, 412, 413, 414, 416, 417, 419, 420, 421, 423, 424, 426, 427, 428, 430, 431, 433, 434, 435, 437, 438, 440, 441, 442, 444, 445, 447, 448, 449, 452, 453]
@[reducible] noncomputable def topK : Hook := kHook hk.heap_1 topAs (fun _ => by kernel_rfl)
noncomputable def topLv : List (Str × WData) := [(Str.ofString "VOID", WData.tuple [WData.int 5, WData.int 0])]
noncomputable def topLs : List Str := [Str.ofString "VOID", Str.ofString "Store"]
noncomputable def topO11 : Obj := Obj.mk (Value.type "tuple") none (Data.seq #[]) #[]
noncomputable def topO12 : Obj := Obj.mk Value.none none (Data.fields #[]) #[]
noncomputable def topO13 : Obj := Obj.mk (Value.type "code") none
    (Data.fields
      #[Value.str (Str.ofString "<module>") 182, Value.str (Str.ofString "<module>") 183, Value.str (Str.ofString "/claim/cut.py") 184, Value.int 1 0, Value.int 0 0, Value.int 0 0, Value.int 0 0,
        Value.int 0 0, Value.ref 11, Value.bool false, Value.int 181 0, Value.ref 12, Value.none, Value.none, Value.none, Value.none, Value.int 185 0, Value.int 1 0,
        Value.str (Str.ofString "/claim/cut.py") 186]) #[]
noncomputable def topO14 : Obj := Obj.mk (Value.type "frame") none Data.plain #[some (Value.ref 13), some (Value.ref 3), some (Value.ref 3), none, some (Value.str (Str.ofString "__main__") 164), none, some (Value.ref 0)]
noncomputable def topH (P : Params) : Heap := Heap.mk
    (Array.mk
      [boot_o_0 P, boot_o_1 P, boot_o_2 P, boot_o_3 P, boot_o_4 P, boot_o_5 P, boot_o_6 P, boot_o_7 P, boot_o_8 P,
        boot_o_9 P, boot_o_10 P, topO11, topO12, topO13, topO14])
    (Life.mk [] [] [] 0 [] [] false #[] [] 0 false false false 0 [2000, 10, 10] false 0 true [] [] 0 false)
noncomputable def topT (P : Params) : BT :=
  BT.node (boot_o_0 P)
    (BT.node (boot_o_1 P)
      (BT.node (boot_o_3 P) (BT.node (boot_o_7 P) BT.nil BT.nil) (BT.node topO11 BT.nil BT.nil))
      (BT.node (boot_o_5 P) (BT.node (boot_o_9 P) BT.nil BT.nil) (BT.node topO13 BT.nil BT.nil)))
    (BT.node (boot_o_2 P)
      (BT.node (boot_o_4 P) (BT.node (boot_o_8 P) BT.nil BT.nil) (BT.node topO12 BT.nil BT.nil))
      (BT.node (boot_o_6 P) (BT.node (boot_o_10 P) BT.nil BT.nil) (BT.node topO14 BT.nil BT.nil)))
noncomputable def topEnv : Env := Env.mk prg.main.scope mainNs mainNs [] Str.empty none (Value.ref 13) (some 14) 0
noncomputable def topSa (w : World) (os : OsState) : Shared := { heap := topH w.params, toks := 187, os := os }
noncomputable def topSb (w : World) (os : OsState) : SharedT := { tree := topT w.params, n := 15, life := {}, gens := { toList := [] }, drawn := {}, toks := 187, os := os }
@[reducible] noncomputable def topZ0 : Pos := { line := 0, col := 0, endLine := 0, endCol := 0 }
@[reducible] noncomputable def topZ1 : Pos := { line := 335, col := 0, endLine := 373, endCol := 45 }
noncomputable def topB : List Stmt := behindTheImports prg
noncomputable def topC : Code := Code.body topB topEnv
@[reducible] noncomputable def topX (s : Shared) : Bool := xlAt hk.view_1 topLv s && recOk PySem.Challenge.rw_no0174_01.row.records s
theorem top_open : ∀ w : World, (fencedOpening treeTable prg w 5946).map (fun s => (s.heap, s.gens, s.drawn, s.toks)) = some (boot_heap w.params, Array.mk [], boot_drawn, boot_toks) := boot_open (by kernel_rfl) (by kernel_rfl) (fun s => by kernel_rfl)
theorem top_size (w : World) : ((boot_heap w.params).isNs mainGlobals && (Array.mk [] : Array GenState).size == 0, (boot_heap w.params).objs.size, (boot_heap w.params).nsMap mainGlobals "__annotations__") = (true, 11, some (Value.ref 6)) := by kernel_rfl
theorem top_pre (w : World) (os : OsState) : topGo treeTable prg w 11 (some (Value.ref 6)) 12 ⟨boot_heap w.params, Array.mk [], boot_drawn, boot_toks, os⟩ (topStub prg) = some (topSa w os, ⟨denote treeTable (.body topB topEnv), topC, topZ0, [topFrame topZ0]⟩) := by
  rw [Fast.te15667345088766844465, Fast.te11892475500146522536, Fast.te14364793385576792824]
  kernel_rfl
theorem top_block (w : World) (os : OsState) : segRun treeTable prg w 11 (some (Value.ref 6)) 1 1 (topSa w os) (blockOf topB topEnv topC topZ0 [topFrame topZ0]) = some (.next, (topSb w os).abs, topC, topZ0) := by
  rw [Fast.te14374325043358763698]
  kernel_rfl
noncomputable def fdOf (s : List Stmt) : FuncData := match s with
  | (.FunctionDef (name := n) (args := a) (body := b) (scope := sc) ..) :: _ => { name := n, qualname := n, params := a, body := .stmts b, scope := sc, globals := 0, closure := [], defaults := .none, kwdefaults := .none }
  | _ => default
noncomputable def clOf (s : List Stmt) : List Stmt := match s with
  | (.ClassDef (body := b) ..) :: _ => b
  | _ => []
noncomputable def fdT (i : Nat) : FuncData := fdOf (topB.drop i)
noncomputable def fdC (i j : Nat) : FuncData := fdOf ((clOf (topB.drop i)).drop j)
noncomputable def fdW (f : FuncData) (q : Str) (g : Addr) (c : List (Str × Addr)) (d k o m : Value) (a : Option Addr) (co ct : Value) (b : Addr) : FuncData :=
  { f with qualname := q, globals := g, closure := c, defaults := d, kwdefaults := k, doc := o, pyModule := m, annotations := a, code := co, closureTuple := ct, builtins := b }
noncomputable def foW (c : Value) (f : FuncData) : Obj := { cls := c, data := .func f }
noncomputable def tq2 (P : Params) : Obj := { cls := Value.none, data := Data.dict #[{ hash := PyData.keyHash P (Str.ofString "type.__subclasses__.Exception.0"), key := Value.str (Str.ofString "type.__subclasses__.Exception.0") 212, val := Value.int 31 0 }, { hash := PyData.keyHash P (Str.ofString "type.__subclasses__.Exception.n"), key := Value.str (Str.ofString "type.__subclasses__.Exception.n") 213, val := Value.int 1 0 }] 2 }
noncomputable def tq3 (P : Params) : Obj := { cls := Value.type "dict", data := Data.dict #[{ hash := PyData.keyHash P (Str.ofString "__name__"), key := Value.str (Str.ofString "__name__") 165, val := Value.str (Str.ofString "clausemill.symbols") 194 }, { hash := PyData.keyHash P (Str.ofString "__doc__"), key := Value.str (Str.ofString "__doc__") 166, val := Value.none }, { hash := PyData.keyHash P (Str.ofString "__package__"), key := Value.str (Str.ofString "__package__") 167, val := Value.none }, { hash := PyData.keyHash P (Str.ofString "__loader__"), key := Value.str (Str.ofString "__loader__") 168, val := Value.builtin "__main__.__loader__#opaque" }, { hash := PyData.keyHash P (Str.ofString "__spec__"), key := Value.str (Str.ofString "__spec__") 169, val := Value.none }, { hash := PyData.keyHash P (Str.ofString "__annotations__"), key := Value.str (Str.ofString "__annotations__") 170, val := Value.ref 6 }, { hash := PyData.keyHash P (Str.ofString "__builtins__"), key := Value.str (Str.ofString "__builtins__") 171, val := Value.ref 4 }, { hash := PyData.keyHash P (Str.ofString "__file__"), key := Value.str (Str.ofString "__file__") 173, val := Value.str (Str.ofString "/claim/cut.py") 172 }, { hash := PyData.keyHash P (Str.ofString "__cached__"), key := Value.str (Str.ofString "__cached__") 174, val := Value.none }, { hash := PyData.keyHash P (Str.ofString "_wall"), key := Value.str (Str.ofString "_wall") 193, val := Value.ref 21 }, { hash := PyData.keyHash P (Str.ofString "ClausemillError"), key := Value.str (Str.ofString "ClausemillError") 215, val := Value.ref 31 }, { hash := PyData.keyHash P (Str.ofString "PrologError"), key := Value.str (Str.ofString "PrologError") 240, val := Value.ref 51 }, { hash := PyData.keyHash P (Str.ofString "A_NIL"), key := Value.str (Str.ofString "A_NIL") 242, val := Value.int 0 241 }, { hash := PyData.keyHash P (Str.ofString "A_PLUS"), key := Value.str (Str.ofString "A_PLUS") 244, val := Value.int 4 243 }, { hash := PyData.keyHash P (Str.ofString "A_SYSTEM"), key := Value.str (Str.ofString "A_SYSTEM") 246, val := Value.int 25 245 }, { hash := PyData.keyHash P (Str.ofString "F_DOT"), key := Value.str (Str.ofString "F_DOT") 248, val := Value.int 0 247 }, { hash := PyData.keyHash P (Str.ofString "F_MINUS1"), key := Value.str (Str.ofString "F_MINUS1") 250, val := Value.int 12 249 }, { hash := PyData.keyHash P (Str.ofString "F_MINUS"), key := Value.str (Str.ofString "F_MINUS") 252, val := Value.int 13 251 }, { hash := PyData.keyHash P (Str.ofString "F_ERROR"), key := Value.str (Str.ofString "F_ERROR") 254, val := Value.int 16 253 }, { hash := PyData.keyHash P (Str.ofString "fixed_atoms"), key := Value.str (Str.ofString "fixed_atoms") 260, val := Value.ref 60 }, { hash := PyData.keyHash P (Str.ofString "fixed_functors"), key := Value.str (Str.ofString "fixed_functors") 266, val := Value.ref 67 }] 21 }
noncomputable def tq12 : Obj := { cls := Value.none, data := Data.fields #[Value.int 1 0, Value.int 0 0, Value.ref 20, Value.int 5 0, Value.int 0 0, Value.ref 27, Value.int 7 0, Value.int 0 0, Value.ref 40, Value.int 18 0, Value.int 0 0, Value.ref 59, Value.int 20 0, Value.int 0 0, Value.ref 66] }
noncomputable def tq15 : Obj := { cls := Value.type "tuple", data := Data.seq #[] }
noncomputable def tq16 : Obj := { cls := Value.none, data := Data.fields #[] }
noncomputable def tq17 : Obj := { cls := Value.type "tuple", data := Data.seq #[Value.str (Str.ofString "k") 190] }
noncomputable def tq18 : Obj := { cls := Value.type "tuple", data := Data.seq #[] }
noncomputable def tq19 : Obj := foW (Value.none) (fdW (fdT 0) (Str.ofString "_wall") 0 ([]) (Value.none) (Value.none) (Value.none) (Value.none) (none) (Value.none) (Value.none) 0)
noncomputable def tq20 : Obj := { cls := Value.type "code", data := Data.fields #[Value.str (Str.ofString "_wall") 187, Value.str (Str.ofString "_wall") 188, Value.str (Str.ofString "/claim/cut.py") 189, Value.int 1 0, Value.int 1 0, Value.int 0 0, Value.int 0 0, Value.int 3 0, Value.ref 15, Value.bool true, Value.int 181 0, Value.ref 16, Value.none, Value.ref 17, Value.ref 18, Value.ref 19, Value.int 191 0, Value.int 1 0, Value.str (Str.ofString "/claim/cut.py") 192] }
noncomputable def tq21 : Obj := foW (Value.type "function") (fdW (fdT 0) (Str.ofString "_wall") 3 ([]) (Value.none) (Value.none) (Value.none) (Value.str (Str.ofString "__main__") 164) (none) (Value.ref 20) (Value.none) 0)
noncomputable def tq22 : Obj := { cls := Value.type "tuple", data := Data.seq #[Value.type "Exception"] }
noncomputable def tq23 : Obj := { cls := Value.type "builtin_function_or_method", data := Data.fields #[Value.builtin "type.__prepare__", Value.type "type"] }
noncomputable def tq24 (P : Params) : Obj := { cls := Value.type "dict", data := Data.dict #[{ hash := PyData.keyHash P (Str.ofString "__module__"), key := Value.str (Str.ofString "__module__") 203, val := Value.str (Str.ofString "clausemill.symbols") 194 }, { hash := PyData.keyHash P (Str.ofString "__qualname__"), key := Value.str (Str.ofString "__qualname__") 205, val := Value.str (Str.ofString "ClausemillError") 204 }, { hash := PyData.keyHash P (Str.ofString "__firstlineno__"), key := Value.str (Str.ofString "__firstlineno__") 207, val := Value.int 5 206 }, { hash := PyData.keyHash P (Str.ofString "__static_attributes__"), key := Value.str (Str.ofString "__static_attributes__") 208, val := Value.ref 29 }] 4 }
noncomputable def tq25 : Obj := { cls := Value.type "tuple", data := Data.seq #[] }
noncomputable def tq26 : Obj := { cls := Value.none, data := Data.fields #[] }
noncomputable def tq27 : Obj := { cls := Value.type "code", data := Data.fields #[Value.str (Str.ofString "ClausemillError") 198, Value.str (Str.ofString "ClausemillError") 199, Value.str (Str.ofString "/claim/cut.py") 200, Value.int 5 0, Value.int 0 0, Value.int 0 0, Value.int 0 0, Value.int 0 0, Value.ref 25, Value.bool false, Value.int 181 0, Value.ref 26, Value.none, Value.none, Value.none, Value.none, Value.int 201 0, Value.int 5 0, Value.str (Str.ofString "/claim/cut.py") 202] }
noncomputable def tq28 : Obj := { cls := Value.type "frame", slots := #[some (Value.ref 27), some (Value.ref 3), some (Value.ref 24), none, some (Value.str (Str.ofString "clausemill.symbols") 194), none, some (Value.ref 0)] }
noncomputable def tq29 : Obj := { cls := Value.type "tuple", data := Data.seq #[] }
noncomputable def tq30 (P : Params) : Obj := { cls := Value.type "dict", data := Data.dict #[{ hash := PyData.keyHash P (Str.ofString "__module__"), key := Value.str (Str.ofString "__module__") 203, val := Value.str (Str.ofString "clausemill.symbols") 194 }, { hash := PyData.keyHash P (Str.ofString "__firstlineno__"), key := Value.str (Str.ofString "__firstlineno__") 207, val := Value.int 5 206 }, { hash := PyData.keyHash P (Str.ofString "__static_attributes__"), key := Value.str (Str.ofString "__static_attributes__") 208, val := Value.ref 29 }, { hash := PyData.keyHash P (Str.ofString "__weakref__"), key := Value.str (Str.ofString "__weakref__") 210, val := Value.ref 32 }, { hash := PyData.keyHash P (Str.ofString "__doc__"), key := Value.str (Str.ofString "__doc__") 211, val := Value.none }] 3 }
noncomputable def tq31 : Obj := { cls := Value.type "type", data := Data.cls { name := Str.ofString "ClausemillError", bases := [Value.type "Exception"], mro := [Value.ref 31, Value.type "Exception", Value.type "BaseException", Value.type "object"], ns := 30, qualname := Str.ofString "ClausemillError", subclasses := [Value.ref 51] }, slots := #[some (Value.ref 22), none, some (Value.str (Str.ofString "ClausemillError") 196), some (Value.str (Str.ofString "ClausemillError") 204), some (Value.builtin "Exception.__new__"), some (Value.bool true)] }
noncomputable def tq32 : Obj := { cls := Value.type "getset_descriptor", data := Data.fields #[Value.str (Str.ofString "__weakref__") 209, Value.ref 31, Value.builtin "ExceptionGroup.__weakref__", Value.none] }
noncomputable def tq33 : Obj := { cls := Value.type "super", data := Data.fields #[Value.ref 31, Value.ref 31, Value.ref 31] }
noncomputable def tq34 : Obj := { cls := Value.type "builtin_function_or_method", data := Data.fields #[Value.builtin "object.__init_subclass__", Value.ref 31] }
noncomputable def tq35 : Obj := { cls := Value.type "tuple", data := Data.seq #[Value.ref 31] }
noncomputable def tq36 : Obj := { cls := Value.type "builtin_function_or_method", data := Data.fields #[Value.builtin "type.__prepare__", Value.type "type"] }
noncomputable def tq37 (P : Params) : Obj := { cls := Value.type "dict", data := Data.dict #[{ hash := PyData.keyHash P (Str.ofString "__module__"), key := Value.str (Str.ofString "__module__") 223, val := Value.str (Str.ofString "clausemill.symbols") 194 }, { hash := PyData.keyHash P (Str.ofString "__qualname__"), key := Value.str (Str.ofString "__qualname__") 225, val := Value.str (Str.ofString "PrologError") 224 }, { hash := PyData.keyHash P (Str.ofString "__firstlineno__"), key := Value.str (Str.ofString "__firstlineno__") 227, val := Value.int 7 226 }, { hash := PyData.keyHash P (Str.ofString "__init__"), key := Value.str (Str.ofString "__init__") 235, val := Value.ref 48 }, { hash := PyData.keyHash P (Str.ofString "__static_attributes__"), key := Value.str (Str.ofString "__static_attributes__") 237, val := Value.ref 49 }] 5 }
noncomputable def tq38 : Obj := { cls := Value.type "tuple", data := Data.seq #[] }
noncomputable def tq39 : Obj := { cls := Value.none, data := Data.fields #[Value.int 9 0, Value.int 4 0, Value.ref 47] }
noncomputable def tq40 : Obj := { cls := Value.type "code", data := Data.fields #[Value.str (Str.ofString "PrologError") 218, Value.str (Str.ofString "PrologError") 219, Value.str (Str.ofString "/claim/cut.py") 220, Value.int 7 0, Value.int 0 0, Value.int 0 0, Value.int 0 0, Value.int 0 0, Value.ref 38, Value.bool false, Value.int 181 0, Value.ref 39, Value.none, Value.none, Value.none, Value.none, Value.int 221 0, Value.int 7 0, Value.str (Str.ofString "/claim/cut.py") 222] }
noncomputable def tq41 : Obj := { cls := Value.type "frame", slots := #[some (Value.ref 40), some (Value.ref 3), some (Value.ref 37), none, some (Value.str (Str.ofString "clausemill.symbols") 194), none, some (Value.ref 0)] }
noncomputable def tq42 : Obj := { cls := Value.type "tuple", data := Data.seq #[] }
noncomputable def tq43 : Obj := { cls := Value.none, data := Data.fields #[] }
noncomputable def tq44 : Obj := { cls := Value.type "tuple", data := Data.seq #[Value.str (Str.ofString "self") 231, Value.str (Str.ofString "ball") 232] }
noncomputable def tq45 : Obj := { cls := Value.type "tuple", data := Data.seq #[] }
noncomputable def tq46 : Obj := foW (Value.none) (fdW (fdC 3 0) (Str.ofString "PrologError.__init__") 0 ([]) (Value.none) (Value.none) (Value.none) (Value.none) (none) (Value.none) (Value.none) 0)
noncomputable def tq47 : Obj := { cls := Value.type "code", data := Data.fields #[Value.str (Str.ofString "__init__") 228, Value.str (Str.ofString "PrologError.__init__") 229, Value.str (Str.ofString "/claim/cut.py") 230, Value.int 9 0, Value.int 2 0, Value.int 0 0, Value.int 0 0, Value.int 3 0, Value.ref 42, Value.bool true, Value.int 181 0, Value.ref 43, Value.none, Value.ref 44, Value.ref 45, Value.ref 46, Value.int 233 0, Value.int 9 0, Value.str (Str.ofString "/claim/cut.py") 234] }
noncomputable def tq48 : Obj := foW (Value.type "function") (fdW (fdC 3 0) (Str.ofString "PrologError.__init__") 3 ([]) (Value.none) (Value.none) (Value.none) (Value.str (Str.ofString "clausemill.symbols") 194) (none) (Value.ref 47) (Value.none) 0)
noncomputable def tq49 : Obj := { cls := Value.type "tuple", data := Data.seq #[Value.str (Str.ofString "ball") 236] }
noncomputable def tq50 (P : Params) : Obj := { cls := Value.type "dict", data := Data.dict #[{ hash := PyData.keyHash P (Str.ofString "__module__"), key := Value.str (Str.ofString "__module__") 223, val := Value.str (Str.ofString "clausemill.symbols") 194 }, { hash := PyData.keyHash P (Str.ofString "__firstlineno__"), key := Value.str (Str.ofString "__firstlineno__") 227, val := Value.int 7 226 }, { hash := PyData.keyHash P (Str.ofString "__init__"), key := Value.str (Str.ofString "__init__") 235, val := Value.ref 48 }, { hash := PyData.keyHash P (Str.ofString "__static_attributes__"), key := Value.str (Str.ofString "__static_attributes__") 237, val := Value.ref 49 }, { hash := PyData.keyHash P (Str.ofString "__doc__"), key := Value.str (Str.ofString "__doc__") 238, val := Value.none }] 2 }
noncomputable def tq51 : Obj := { cls := Value.type "type", data := Data.cls { name := Str.ofString "PrologError", bases := [Value.ref 31], mro := [Value.ref 51, Value.ref 31, Value.type "Exception", Value.type "BaseException", Value.type "object"], ns := 50, qualname := Str.ofString "PrologError" }, slots := #[some (Value.ref 35), none, some (Value.str (Str.ofString "PrologError") 216), some (Value.str (Str.ofString "PrologError") 224), some (Value.builtin "Exception.__new__"), some (Value.bool true)] }
noncomputable def tq52 : Obj := { cls := Value.type "super", data := Data.fields #[Value.ref 51, Value.ref 51, Value.ref 51] }
noncomputable def tq53 : Obj := { cls := Value.type "builtin_function_or_method", data := Data.fields #[Value.builtin "object.__init_subclass__", Value.ref 51] }
noncomputable def tq54 : Obj := { cls := Value.type "tuple", data := Data.seq #[] }
noncomputable def tq55 : Obj := { cls := Value.none, data := Data.fields #[] }
noncomputable def tq56 : Obj := { cls := Value.type "tuple", data := Data.seq #[] }
noncomputable def tq57 : Obj := { cls := Value.type "tuple", data := Data.seq #[] }
noncomputable def tq58 : Obj := foW (Value.none) (fdW (fdT 11) (Str.ofString "fixed_atoms") 0 ([]) (Value.none) (Value.none) (Value.none) (Value.none) (none) (Value.none) (Value.none) 0)
noncomputable def tq59 : Obj := { cls := Value.type "code", data := Data.fields #[Value.str (Str.ofString "fixed_atoms") 255, Value.str (Str.ofString "fixed_atoms") 256, Value.str (Str.ofString "/claim/cut.py") 257, Value.int 18 0, Value.int 0 0, Value.int 0 0, Value.int 0 0, Value.int 3 0, Value.ref 54, Value.bool true, Value.int 181 0, Value.ref 55, Value.none, Value.ref 56, Value.ref 57, Value.ref 58, Value.int 258 0, Value.int 18 0, Value.str (Str.ofString "/claim/cut.py") 259] }
noncomputable def tq60 : Obj := foW (Value.type "function") (fdW (fdT 11) (Str.ofString "fixed_atoms") 3 ([]) (Value.none) (Value.none) (Value.none) (Value.str (Str.ofString "clausemill.symbols") 194) (none) (Value.ref 59) (Value.none) 0)
noncomputable def tq61 : Obj := { cls := Value.type "tuple", data := Data.seq #[] }
noncomputable def tq62 : Obj := { cls := Value.none, data := Data.fields #[] }
noncomputable def tq63 : Obj := { cls := Value.type "tuple", data := Data.seq #[] }
noncomputable def tq64 : Obj := { cls := Value.type "tuple", data := Data.seq #[] }
noncomputable def tq65 : Obj := foW (Value.none) (fdW (fdT 12) (Str.ofString "fixed_functors") 0 ([]) (Value.none) (Value.none) (Value.none) (Value.none) (none) (Value.none) (Value.none) 0)
noncomputable def tq66 : Obj := { cls := Value.type "code", data := Data.fields #[Value.str (Str.ofString "fixed_functors") 261, Value.str (Str.ofString "fixed_functors") 262, Value.str (Str.ofString "/claim/cut.py") 263, Value.int 20 0, Value.int 0 0, Value.int 0 0, Value.int 0 0, Value.int 3 0, Value.ref 61, Value.bool true, Value.int 181 0, Value.ref 62, Value.none, Value.ref 63, Value.ref 64, Value.ref 65, Value.int 264 0, Value.int 20 0, Value.str (Str.ofString "/claim/cut.py") 265] }
noncomputable def tq67 : Obj := foW (Value.type "function") (fdW (fdT 12) (Str.ofString "fixed_functors") 3 ([]) (Value.none) (Value.none) (Value.none) (Value.str (Str.ofString "clausemill.symbols") 194) (none) (Value.ref 66) (Value.none) 0)
noncomputable def topT13 (P : Params) : BT := (.node (boot_o_0 P) (.node (boot_o_1 P) (.node (tq3 P) (.node (boot_o_7 P) (.node tq15 (.node tq31 (.node tq63 .nil .nil) .nil) (.node tq47 .nil .nil)) (.node tq23 (.node tq39 .nil .nil) (.node tq55 .nil .nil))) (.node topO11 (.node tq19 (.node tq35 (.node tq67 .nil .nil) .nil) (.node tq51 .nil .nil)) (.node tq27 (.node tq43 .nil .nil) (.node tq59 .nil .nil)))) (.node (boot_o_5 P) (.node (boot_o_9 P) (.node tq17 (.node tq33 (.node tq65 .nil .nil) .nil) (.node tq49 .nil .nil)) (.node tq25 (.node tq41 .nil .nil) (.node tq57 .nil .nil))) (.node topO13 (.node tq21 (.node (tq37 P) .nil .nil) (.node tq53 .nil .nil)) (.node tq29 (.node tq45 .nil .nil) (.node tq61 .nil .nil))))) (.node (tq2 P) (.node (boot_o_4 P) (.node (boot_o_8 P) (.node tq16 (.node tq32 (.node tq64 .nil .nil) .nil) (.node tq48 .nil .nil)) (.node (tq24 P) (.node tq40 .nil .nil) (.node tq56 .nil .nil))) (.node tq12 (.node tq20 (.node tq36 .nil .nil) (.node tq52 .nil .nil)) (.node tq28 (.node tq44 .nil .nil) (.node tq60 .nil .nil)))) (.node (boot_o_6 P) (.node (boot_o_10 P) (.node tq18 (.node tq34 (.node tq66 .nil .nil) .nil) (.node (tq50 P) .nil .nil)) (.node tq26 (.node tq42 .nil .nil) (.node tq58 .nil .nil))) (.node topO14 (.node tq22 (.node tq38 .nil .nil) (.node tq54 .nil .nil)) (.node (tq30 P) (.node tq46 .nil .nil) (.node tq62 .nil .nil))))))
noncomputable def topS13 (w : World) (os : OsState) : SharedT := SharedT.mk (topT13 w.params) 68 ({ }) #[] ({ }) 267 os
@[reducible] noncomputable def topZ_13 : Pos := { line := 20, col := 0, endLine := 21, endCol := 389 }
noncomputable def tq3v (P : Params) : Obj := { cls := Value.type "dict", data := Data.dict #[{ hash := PyData.keyHash P (Str.ofString "__name__"), key := Value.str (Str.ofString "__name__") 165, val := Value.str (Str.ofString "clausemill.store") 415 }, { hash := PyData.keyHash P (Str.ofString "__doc__"), key := Value.str (Str.ofString "__doc__") 166, val := Value.none }, { hash := PyData.keyHash P (Str.ofString "__package__"), key := Value.str (Str.ofString "__package__") 167, val := Value.none }, { hash := PyData.keyHash P (Str.ofString "__loader__"), key := Value.str (Str.ofString "__loader__") 168, val := Value.builtin "__main__.__loader__#opaque" }, { hash := PyData.keyHash P (Str.ofString "__spec__"), key := Value.str (Str.ofString "__spec__") 169, val := Value.none }, { hash := PyData.keyHash P (Str.ofString "__annotations__"), key := Value.str (Str.ofString "__annotations__") 170, val := Value.ref 6 }, { hash := PyData.keyHash P (Str.ofString "__builtins__"), key := Value.str (Str.ofString "__builtins__") 171, val := Value.ref 4 }, { hash := PyData.keyHash P (Str.ofString "__file__"), key := Value.str (Str.ofString "__file__") 173, val := Value.str (Str.ofString "/claim/cut.py") 172 }, { hash := PyData.keyHash P (Str.ofString "__cached__"), key := Value.str (Str.ofString "__cached__") 174, val := Value.none }, { hash := PyData.keyHash P (Str.ofString "_wall"), key := Value.str (Str.ofString "_wall") 193, val := Value.ref 21 }, { hash := PyData.keyHash P (Str.ofString "ClausemillError"), key := Value.str (Str.ofString "ClausemillError") 215, val := Value.ref 31 }, { hash := PyData.keyHash P (Str.ofString "PrologError"), key := Value.str (Str.ofString "PrologError") 240, val := Value.ref 51 }, { hash := PyData.keyHash P (Str.ofString "A_NIL"), key := Value.str (Str.ofString "A_NIL") 242, val := Value.int 0 241 }, { hash := PyData.keyHash P (Str.ofString "A_PLUS"), key := Value.str (Str.ofString "A_PLUS") 244, val := Value.int 4 243 }, { hash := PyData.keyHash P (Str.ofString "A_SYSTEM"), key := Value.str (Str.ofString "A_SYSTEM") 246, val := Value.int 25 245 }, { hash := PyData.keyHash P (Str.ofString "F_DOT"), key := Value.str (Str.ofString "F_DOT") 248, val := Value.int 0 247 }, { hash := PyData.keyHash P (Str.ofString "F_MINUS1"), key := Value.str (Str.ofString "F_MINUS1") 250, val := Value.int 12 249 }, { hash := PyData.keyHash P (Str.ofString "F_MINUS"), key := Value.str (Str.ofString "F_MINUS") 252, val := Value.int 13 251 }, { hash := PyData.keyHash P (Str.ofString "F_ERROR"), key := Value.str (Str.ofString "F_ERROR") 254, val := Value.int 16 253 }, { hash := PyData.keyHash P (Str.ofString "fixed_atoms"), key := Value.str (Str.ofString "fixed_atoms") 260, val := Value.ref 60 }, { hash := PyData.keyHash P (Str.ofString "fixed_functors"), key := Value.str (Str.ofString "fixed_functors") 266, val := Value.ref 67 }, { hash := PyData.keyHash P (Str.ofString "Symbols"), key := Value.str (Str.ofString "Symbols") 386, val := Value.ref 154 }, { hash := PyData.keyHash P (Str.ofString "system_error"), key := Value.str (Str.ofString "system_error") 395, val := Value.ref 165 }, { hash := PyData.keyHash P (Str.ofString "formal_of"), key := Value.str (Str.ofString "formal_of") 406, val := Value.ref 172 }, { hash := PyData.keyHash P (Str.ofString "resource_error"), key := Value.str (Str.ofString "resource_error") 414, val := Value.ref 179 }, { hash := PyData.keyHash P (Str.ofString "REF"), key := Value.str (Str.ofString "REF") 418, val := Value.int 0 417 }, { hash := PyData.keyHash P (Str.ofString "SRF"), key := Value.str (Str.ofString "SRF") 420, val := Value.int 1 419 }, { hash := PyData.keyHash P (Str.ofString "STR"), key := Value.str (Str.ofString "STR") 422, val := Value.int 2 421 }, { hash := PyData.keyHash P (Str.ofString "LIS"), key := Value.str (Str.ofString "LIS") 424, val := Value.int 3 423 }, { hash := PyData.keyHash P (Str.ofString "CON"), key := Value.str (Str.ofString "CON") 426, val := Value.int 4 425 }, { hash := PyData.keyHash P (Str.ofString "INT"), key := Value.str (Str.ofString "INT") 428, val := Value.int 5 427 }, { hash := PyData.keyHash P (Str.ofString "FUN"), key := Value.str (Str.ofString "FUN") 430, val := Value.int 6 429 }, { hash := PyData.keyHash P (Str.ofString "VOID"), key := Value.str (Str.ofString "VOID") 432, val := Value.ref 180 }] 33 }
noncomputable def tq12v : Obj := { cls := Value.none, data := Data.fields #[Value.int 1 0, Value.int 0 0, Value.ref 20, Value.int 5 0, Value.int 0 0, Value.ref 27, Value.int 7 0, Value.int 0 0, Value.ref 40, Value.int 18 0, Value.int 0 0, Value.ref 59, Value.int 20 0, Value.int 0 0, Value.ref 66, Value.int 22 0, Value.int 0 0, Value.ref 73, Value.int 80 0, Value.int 0 0, Value.ref 164, Value.int 82 0, Value.int 0 0, Value.ref 171, Value.int 87 0, Value.int 0 0, Value.ref 178] }
noncomputable def tq68v : Obj := { cls := Value.type "tuple", data := Data.seq #[] }
noncomputable def tq69v : Obj := { cls := Value.type "builtin_function_or_method", data := Data.fields #[Value.builtin "type.__prepare__", Value.type "type"] }
noncomputable def tq70v (P : Params) : Obj := { cls := Value.type "dict", data := Data.dict #[{ hash := PyData.keyHash P (Str.ofString "__module__"), key := Value.str (Str.ofString "__module__") 274, val := Value.str (Str.ofString "clausemill.symbols") 194 }, { hash := PyData.keyHash P (Str.ofString "__qualname__"), key := Value.str (Str.ofString "__qualname__") 276, val := Value.str (Str.ofString "Symbols") 275 }, { hash := PyData.keyHash P (Str.ofString "__firstlineno__"), key := Value.str (Str.ofString "__firstlineno__") 278, val := Value.int 22 277 }, { hash := PyData.keyHash P (Str.ofString "__init__"), key := Value.str (Str.ofString "__init__") 287, val := Value.ref 81 }, { hash := PyData.keyHash P (Str.ofString "atom"), key := Value.str (Str.ofString "atom") 297, val := Value.ref 88 }, { hash := PyData.keyHash P (Str.ofString "text"), key := Value.str (Str.ofString "text") 305, val := Value.ref 95 }, { hash := PyData.keyHash P (Str.ofString "functor"), key := Value.str (Str.ofString "functor") 317, val := Value.ref 102 }, { hash := PyData.keyHash P (Str.ofString "func"), key := Value.str (Str.ofString "func") 326, val := Value.ref 109 }, { hash := PyData.keyHash P (Str.ofString "name"), key := Value.str (Str.ofString "name") 334, val := Value.ref 116 }, { hash := PyData.keyHash P (Str.ofString "arity"), key := Value.str (Str.ofString "arity") 342, val := Value.ref 123 }, { hash := PyData.keyHash P (Str.ofString "label"), key := Value.str (Str.ofString "label") 350, val := Value.ref 130 }, { hash := PyData.keyHash P (Str.ofString "count"), key := Value.str (Str.ofString "count") 357, val := Value.ref 137 }, { hash := PyData.keyHash P (Str.ofString "functor_count"), key := Value.str (Str.ofString "functor_count") 364, val := Value.ref 144 }, { hash := PyData.keyHash P (Str.ofString "known"), key := Value.str (Str.ofString "known") 374, val := Value.ref 151 }, { hash := PyData.keyHash P (Str.ofString "__static_attributes__"), key := Value.str (Str.ofString "__static_attributes__") 379, val := Value.ref 152 }] 15 }
noncomputable def tq71v : Obj := { cls := Value.type "tuple", data := Data.seq #[] }
noncomputable def tq72v : Obj := { cls := Value.none, data := Data.fields #[Value.int 24 0, Value.int 4 0, Value.ref 80, Value.int 34 0, Value.int 4 0, Value.ref 87, Value.int 43 0, Value.int 4 0, Value.ref 94, Value.int 46 0, Value.int 4 0, Value.ref 101, Value.int 56 0, Value.int 4 0, Value.ref 108, Value.int 59 0, Value.int 4 0, Value.ref 115, Value.int 62 0, Value.int 4 0, Value.ref 122, Value.int 65 0, Value.int 4 0, Value.ref 129, Value.int 68 0, Value.int 4 0, Value.ref 136, Value.int 71 0, Value.int 4 0, Value.ref 143, Value.int 74 0, Value.int 4 0, Value.ref 150] }
noncomputable def tq73v : Obj := { cls := Value.type "code", data := Data.fields #[Value.str (Str.ofString "Symbols") 269, Value.str (Str.ofString "Symbols") 270, Value.str (Str.ofString "/claim/cut.py") 271, Value.int 22 0, Value.int 0 0, Value.int 0 0, Value.int 0 0, Value.int 0 0, Value.ref 71, Value.bool false, Value.int 181 0, Value.ref 72, Value.none, Value.none, Value.none, Value.none, Value.int 272 0, Value.int 22 0, Value.str (Str.ofString "/claim/cut.py") 273] }
noncomputable def tq74v : Obj := { cls := Value.type "frame", slots := #[some (Value.ref 73), some (Value.ref 3), some (Value.ref 70), none, some (Value.str (Str.ofString "clausemill.symbols") 194), none, some (Value.ref 0)] }
noncomputable def tq75v : Obj := { cls := Value.type "tuple", data := Data.seq #[] }
noncomputable def tq76v : Obj := { cls := Value.none, data := Data.fields #[] }
noncomputable def tq77v : Obj := { cls := Value.type "tuple", data := Data.seq #[Value.str (Str.ofString "self") 282, Value.str (Str.ofString "text") 283, Value.str (Str.ofString "row") 284] }
noncomputable def tq78v : Obj := { cls := Value.type "tuple", data := Data.seq #[] }
noncomputable def tq79v : Obj := foW (Value.none) (fdW (fdC 13 0) (Str.ofString "Symbols.__init__") 0 ([]) (Value.none) (Value.none) (Value.none) (Value.none) (none) (Value.none) (Value.none) 0)
noncomputable def tq80v : Obj := { cls := Value.type "code", data := Data.fields #[Value.str (Str.ofString "__init__") 279, Value.str (Str.ofString "Symbols.__init__") 280, Value.str (Str.ofString "/claim/cut.py") 281, Value.int 24 0, Value.int 1 0, Value.int 0 0, Value.int 0 0, Value.int 3 0, Value.ref 75, Value.bool true, Value.int 181 0, Value.ref 76, Value.none, Value.ref 77, Value.ref 78, Value.ref 79, Value.int 285 0, Value.int 24 0, Value.str (Str.ofString "/claim/cut.py") 286] }
noncomputable def tq81v : Obj := foW (Value.type "function") (fdW (fdC 13 0) (Str.ofString "Symbols.__init__") 3 ([]) (Value.none) (Value.none) (Value.none) (Value.str (Str.ofString "clausemill.symbols") 194) (none) (Value.ref 80) (Value.none) 0)
noncomputable def tq82v : Obj := { cls := Value.type "tuple", data := Data.seq #[] }
noncomputable def tq83v : Obj := { cls := Value.none, data := Data.fields #[] }
noncomputable def tq84v : Obj := { cls := Value.type "tuple", data := Data.seq #[Value.str (Str.ofString "self") 291, Value.str (Str.ofString "text") 292, Value.str (Str.ofString "found") 293, Value.str (Str.ofString "number") 294] }
noncomputable def tq85v : Obj := { cls := Value.type "tuple", data := Data.seq #[] }
noncomputable def tq86v : Obj := foW (Value.none) (fdW (fdC 13 1) (Str.ofString "Symbols.atom") 0 ([]) (Value.none) (Value.none) (Value.none) (Value.none) (none) (Value.none) (Value.none) 0)
noncomputable def tq87v : Obj := { cls := Value.type "code", data := Data.fields #[Value.str (Str.ofString "atom") 288, Value.str (Str.ofString "Symbols.atom") 289, Value.str (Str.ofString "/claim/cut.py") 290, Value.int 34 0, Value.int 2 0, Value.int 0 0, Value.int 0 0, Value.int 3 0, Value.ref 82, Value.bool true, Value.int 181 0, Value.ref 83, Value.none, Value.ref 84, Value.ref 85, Value.ref 86, Value.int 295 0, Value.int 34 0, Value.str (Str.ofString "/claim/cut.py") 296] }
noncomputable def tq88v : Obj := foW (Value.type "function") (fdW (fdC 13 1) (Str.ofString "Symbols.atom") 3 ([]) (Value.none) (Value.none) (Value.none) (Value.str (Str.ofString "clausemill.symbols") 194) (none) (Value.ref 87) (Value.none) 0)
noncomputable def tq89v : Obj := { cls := Value.type "tuple", data := Data.seq #[] }
noncomputable def tq90v : Obj := { cls := Value.none, data := Data.fields #[] }
noncomputable def tq91v : Obj := { cls := Value.type "tuple", data := Data.seq #[Value.str (Str.ofString "self") 301, Value.str (Str.ofString "number") 302] }
noncomputable def tq92v : Obj := { cls := Value.type "tuple", data := Data.seq #[] }
noncomputable def tq93v : Obj := foW (Value.none) (fdW (fdC 13 2) (Str.ofString "Symbols.text") 0 ([]) (Value.none) (Value.none) (Value.none) (Value.none) (none) (Value.none) (Value.none) 0)
noncomputable def tq94v : Obj := { cls := Value.type "code", data := Data.fields #[Value.str (Str.ofString "text") 298, Value.str (Str.ofString "Symbols.text") 299, Value.str (Str.ofString "/claim/cut.py") 300, Value.int 43 0, Value.int 2 0, Value.int 0 0, Value.int 0 0, Value.int 3 0, Value.ref 89, Value.bool true, Value.int 181 0, Value.ref 90, Value.none, Value.ref 91, Value.ref 92, Value.ref 93, Value.int 303 0, Value.int 43 0, Value.str (Str.ofString "/claim/cut.py") 304] }
noncomputable def tq95v : Obj := foW (Value.type "function") (fdW (fdC 13 2) (Str.ofString "Symbols.text") 3 ([]) (Value.none) (Value.none) (Value.none) (Value.str (Str.ofString "clausemill.symbols") 194) (none) (Value.ref 94) (Value.none) 0)
noncomputable def tq96v : Obj := { cls := Value.type "tuple", data := Data.seq #[] }
noncomputable def tq97v : Obj := { cls := Value.none, data := Data.fields #[] }
noncomputable def tq98v : Obj := { cls := Value.type "tuple", data := Data.seq #[Value.str (Str.ofString "self") 309, Value.str (Str.ofString "atom") 310, Value.str (Str.ofString "arity") 311, Value.str (Str.ofString "key") 312, Value.str (Str.ofString "found") 313, Value.str (Str.ofString "number") 314] }
noncomputable def tq99v : Obj := { cls := Value.type "tuple", data := Data.seq #[] }
noncomputable def tq100v : Obj := foW (Value.none) (fdW (fdC 13 3) (Str.ofString "Symbols.functor") 0 ([]) (Value.none) (Value.none) (Value.none) (Value.none) (none) (Value.none) (Value.none) 0)
noncomputable def tq101v : Obj := { cls := Value.type "code", data := Data.fields #[Value.str (Str.ofString "functor") 306, Value.str (Str.ofString "Symbols.functor") 307, Value.str (Str.ofString "/claim/cut.py") 308, Value.int 46 0, Value.int 3 0, Value.int 0 0, Value.int 0 0, Value.int 3 0, Value.ref 96, Value.bool true, Value.int 181 0, Value.ref 97, Value.none, Value.ref 98, Value.ref 99, Value.ref 100, Value.int 315 0, Value.int 46 0, Value.str (Str.ofString "/claim/cut.py") 316] }
noncomputable def tq102v : Obj := foW (Value.type "function") (fdW (fdC 13 3) (Str.ofString "Symbols.functor") 3 ([]) (Value.none) (Value.none) (Value.none) (Value.str (Str.ofString "clausemill.symbols") 194) (none) (Value.ref 101) (Value.none) 0)
noncomputable def tq103v : Obj := { cls := Value.type "tuple", data := Data.seq #[] }
noncomputable def tq104v : Obj := { cls := Value.none, data := Data.fields #[] }
noncomputable def tq105v : Obj := { cls := Value.type "tuple", data := Data.seq #[Value.str (Str.ofString "self") 321, Value.str (Str.ofString "text") 322, Value.str (Str.ofString "arity") 323] }
noncomputable def tq106v : Obj := { cls := Value.type "tuple", data := Data.seq #[] }
noncomputable def tq107v : Obj := foW (Value.none) (fdW (fdC 13 4) (Str.ofString "Symbols.func") 0 ([]) (Value.none) (Value.none) (Value.none) (Value.none) (none) (Value.none) (Value.none) 0)
noncomputable def tq108v : Obj := { cls := Value.type "code", data := Data.fields #[Value.str (Str.ofString "func") 318, Value.str (Str.ofString "Symbols.func") 319, Value.str (Str.ofString "/claim/cut.py") 320, Value.int 56 0, Value.int 3 0, Value.int 0 0, Value.int 0 0, Value.int 3 0, Value.ref 103, Value.bool true, Value.int 181 0, Value.ref 104, Value.none, Value.ref 105, Value.ref 106, Value.ref 107, Value.int 324 0, Value.int 56 0, Value.str (Str.ofString "/claim/cut.py") 325] }
noncomputable def tq109v : Obj := foW (Value.type "function") (fdW (fdC 13 4) (Str.ofString "Symbols.func") 3 ([]) (Value.none) (Value.none) (Value.none) (Value.str (Str.ofString "clausemill.symbols") 194) (none) (Value.ref 108) (Value.none) 0)
noncomputable def tq110v : Obj := { cls := Value.type "tuple", data := Data.seq #[] }
noncomputable def tq111v : Obj := { cls := Value.none, data := Data.fields #[] }
noncomputable def tq112v : Obj := { cls := Value.type "tuple", data := Data.seq #[Value.str (Str.ofString "self") 330, Value.str (Str.ofString "functor") 331] }
noncomputable def tq113v : Obj := { cls := Value.type "tuple", data := Data.seq #[] }
noncomputable def tq114v : Obj := foW (Value.none) (fdW (fdC 13 5) (Str.ofString "Symbols.name") 0 ([]) (Value.none) (Value.none) (Value.none) (Value.none) (none) (Value.none) (Value.none) 0)
noncomputable def tq115v : Obj := { cls := Value.type "code", data := Data.fields #[Value.str (Str.ofString "name") 327, Value.str (Str.ofString "Symbols.name") 328, Value.str (Str.ofString "/claim/cut.py") 329, Value.int 59 0, Value.int 2 0, Value.int 0 0, Value.int 0 0, Value.int 3 0, Value.ref 110, Value.bool true, Value.int 181 0, Value.ref 111, Value.none, Value.ref 112, Value.ref 113, Value.ref 114, Value.int 332 0, Value.int 59 0, Value.str (Str.ofString "/claim/cut.py") 333] }
noncomputable def tq116v : Obj := foW (Value.type "function") (fdW (fdC 13 5) (Str.ofString "Symbols.name") 3 ([]) (Value.none) (Value.none) (Value.none) (Value.str (Str.ofString "clausemill.symbols") 194) (none) (Value.ref 115) (Value.none) 0)
noncomputable def tq117v : Obj := { cls := Value.type "tuple", data := Data.seq #[] }
noncomputable def tq118v : Obj := { cls := Value.none, data := Data.fields #[] }
noncomputable def tq119v : Obj := { cls := Value.type "tuple", data := Data.seq #[Value.str (Str.ofString "self") 338, Value.str (Str.ofString "functor") 339] }
noncomputable def tq120v : Obj := { cls := Value.type "tuple", data := Data.seq #[] }
noncomputable def tq121v : Obj := foW (Value.none) (fdW (fdC 13 6) (Str.ofString "Symbols.arity") 0 ([]) (Value.none) (Value.none) (Value.none) (Value.none) (none) (Value.none) (Value.none) 0)
noncomputable def tq122v : Obj := { cls := Value.type "code", data := Data.fields #[Value.str (Str.ofString "arity") 335, Value.str (Str.ofString "Symbols.arity") 336, Value.str (Str.ofString "/claim/cut.py") 337, Value.int 62 0, Value.int 2 0, Value.int 0 0, Value.int 0 0, Value.int 3 0, Value.ref 117, Value.bool true, Value.int 181 0, Value.ref 118, Value.none, Value.ref 119, Value.ref 120, Value.ref 121, Value.int 340 0, Value.int 62 0, Value.str (Str.ofString "/claim/cut.py") 341] }
noncomputable def tq123v : Obj := foW (Value.type "function") (fdW (fdC 13 6) (Str.ofString "Symbols.arity") 3 ([]) (Value.none) (Value.none) (Value.none) (Value.str (Str.ofString "clausemill.symbols") 194) (none) (Value.ref 122) (Value.none) 0)
noncomputable def tq124v : Obj := { cls := Value.type "tuple", data := Data.seq #[] }
noncomputable def tq125v : Obj := { cls := Value.none, data := Data.fields #[] }
noncomputable def tq126v : Obj := { cls := Value.type "tuple", data := Data.seq #[Value.str (Str.ofString "self") 346, Value.str (Str.ofString "functor") 347] }
noncomputable def tq127v : Obj := { cls := Value.type "tuple", data := Data.seq #[] }
noncomputable def tq128v : Obj := foW (Value.none) (fdW (fdC 13 7) (Str.ofString "Symbols.label") 0 ([]) (Value.none) (Value.none) (Value.none) (Value.none) (none) (Value.none) (Value.none) 0)
noncomputable def tq129v : Obj := { cls := Value.type "code", data := Data.fields #[Value.str (Str.ofString "label") 343, Value.str (Str.ofString "Symbols.label") 344, Value.str (Str.ofString "/claim/cut.py") 345, Value.int 65 0, Value.int 2 0, Value.int 0 0, Value.int 0 0, Value.int 3 0, Value.ref 124, Value.bool true, Value.int 181 0, Value.ref 125, Value.none, Value.ref 126, Value.ref 127, Value.ref 128, Value.int 348 0, Value.int 65 0, Value.str (Str.ofString "/claim/cut.py") 349] }
noncomputable def tq130v : Obj := foW (Value.type "function") (fdW (fdC 13 7) (Str.ofString "Symbols.label") 3 ([]) (Value.none) (Value.none) (Value.none) (Value.str (Str.ofString "clausemill.symbols") 194) (none) (Value.ref 129) (Value.none) 0)
noncomputable def tq131v : Obj := { cls := Value.type "tuple", data := Data.seq #[] }
noncomputable def tq132v : Obj := { cls := Value.none, data := Data.fields #[] }
noncomputable def tq133v : Obj := { cls := Value.type "tuple", data := Data.seq #[Value.str (Str.ofString "self") 354] }
noncomputable def tq134v : Obj := { cls := Value.type "tuple", data := Data.seq #[] }
noncomputable def tq135v : Obj := foW (Value.none) (fdW (fdC 13 8) (Str.ofString "Symbols.count") 0 ([]) (Value.none) (Value.none) (Value.none) (Value.none) (none) (Value.none) (Value.none) 0)
noncomputable def tq136v : Obj := { cls := Value.type "code", data := Data.fields #[Value.str (Str.ofString "count") 351, Value.str (Str.ofString "Symbols.count") 352, Value.str (Str.ofString "/claim/cut.py") 353, Value.int 68 0, Value.int 1 0, Value.int 0 0, Value.int 0 0, Value.int 3 0, Value.ref 131, Value.bool true, Value.int 181 0, Value.ref 132, Value.none, Value.ref 133, Value.ref 134, Value.ref 135, Value.int 355 0, Value.int 68 0, Value.str (Str.ofString "/claim/cut.py") 356] }
noncomputable def tq137v : Obj := foW (Value.type "function") (fdW (fdC 13 8) (Str.ofString "Symbols.count") 3 ([]) (Value.none) (Value.none) (Value.none) (Value.str (Str.ofString "clausemill.symbols") 194) (none) (Value.ref 136) (Value.none) 0)
noncomputable def tq138v : Obj := { cls := Value.type "tuple", data := Data.seq #[] }
noncomputable def tq139v : Obj := { cls := Value.none, data := Data.fields #[] }
noncomputable def tq140v : Obj := { cls := Value.type "tuple", data := Data.seq #[Value.str (Str.ofString "self") 361] }
noncomputable def tq141v : Obj := { cls := Value.type "tuple", data := Data.seq #[] }
noncomputable def tq142v : Obj := foW (Value.none) (fdW (fdC 13 9) (Str.ofString "Symbols.functor_count") 0 ([]) (Value.none) (Value.none) (Value.none) (Value.none) (none) (Value.none) (Value.none) 0)
noncomputable def tq143v : Obj := { cls := Value.type "code", data := Data.fields #[Value.str (Str.ofString "functor_count") 358, Value.str (Str.ofString "Symbols.functor_count") 359, Value.str (Str.ofString "/claim/cut.py") 360, Value.int 71 0, Value.int 1 0, Value.int 0 0, Value.int 0 0, Value.int 3 0, Value.ref 138, Value.bool true, Value.int 181 0, Value.ref 139, Value.none, Value.ref 140, Value.ref 141, Value.ref 142, Value.int 362 0, Value.int 71 0, Value.str (Str.ofString "/claim/cut.py") 363] }
noncomputable def tq144v : Obj := foW (Value.type "function") (fdW (fdC 13 9) (Str.ofString "Symbols.functor_count") 3 ([]) (Value.none) (Value.none) (Value.none) (Value.str (Str.ofString "clausemill.symbols") 194) (none) (Value.ref 143) (Value.none) 0)
noncomputable def tq145v : Obj := { cls := Value.type "tuple", data := Data.seq #[] }
noncomputable def tq146v : Obj := { cls := Value.none, data := Data.fields #[] }
noncomputable def tq147v : Obj := { cls := Value.type "tuple", data := Data.seq #[Value.str (Str.ofString "self") 368, Value.str (Str.ofString "text") 369, Value.str (Str.ofString "arity") 370, Value.str (Str.ofString "atom") 371] }
noncomputable def tq148v : Obj := { cls := Value.type "tuple", data := Data.seq #[] }
noncomputable def tq149v : Obj := foW (Value.none) (fdW (fdC 13 10) (Str.ofString "Symbols.known") 0 ([]) (Value.none) (Value.none) (Value.none) (Value.none) (none) (Value.none) (Value.none) 0)
noncomputable def tq150v : Obj := { cls := Value.type "code", data := Data.fields #[Value.str (Str.ofString "known") 365, Value.str (Str.ofString "Symbols.known") 366, Value.str (Str.ofString "/claim/cut.py") 367, Value.int 74 0, Value.int 3 0, Value.int 0 0, Value.int 0 0, Value.int 3 0, Value.ref 145, Value.bool true, Value.int 181 0, Value.ref 146, Value.none, Value.ref 147, Value.ref 148, Value.ref 149, Value.int 372 0, Value.int 74 0, Value.str (Str.ofString "/claim/cut.py") 373] }
noncomputable def tq151v : Obj := foW (Value.type "function") (fdW (fdC 13 10) (Str.ofString "Symbols.known") 3 ([]) (Value.none) (Value.none) (Value.none) (Value.str (Str.ofString "clausemill.symbols") 194) (none) (Value.ref 150) (Value.none) 0)
noncomputable def tq152v : Obj := { cls := Value.type "tuple", data := Data.seq #[Value.str (Str.ofString "atom_numbers") 375, Value.str (Str.ofString "functor_numbers") 376, Value.str (Str.ofString "functors") 377, Value.str (Str.ofString "texts") 378] }
noncomputable def tq153v (P : Params) : Obj := { cls := Value.type "dict", data := Data.dict #[{ hash := PyData.keyHash P (Str.ofString "__module__"), key := Value.str (Str.ofString "__module__") 274, val := Value.str (Str.ofString "clausemill.symbols") 194 }, { hash := PyData.keyHash P (Str.ofString "__firstlineno__"), key := Value.str (Str.ofString "__firstlineno__") 278, val := Value.int 22 277 }, { hash := PyData.keyHash P (Str.ofString "__init__"), key := Value.str (Str.ofString "__init__") 287, val := Value.ref 81 }, { hash := PyData.keyHash P (Str.ofString "atom"), key := Value.str (Str.ofString "atom") 297, val := Value.ref 88 }, { hash := PyData.keyHash P (Str.ofString "text"), key := Value.str (Str.ofString "text") 305, val := Value.ref 95 }, { hash := PyData.keyHash P (Str.ofString "functor"), key := Value.str (Str.ofString "functor") 317, val := Value.ref 102 }, { hash := PyData.keyHash P (Str.ofString "func"), key := Value.str (Str.ofString "func") 326, val := Value.ref 109 }, { hash := PyData.keyHash P (Str.ofString "name"), key := Value.str (Str.ofString "name") 334, val := Value.ref 116 }, { hash := PyData.keyHash P (Str.ofString "arity"), key := Value.str (Str.ofString "arity") 342, val := Value.ref 123 }, { hash := PyData.keyHash P (Str.ofString "label"), key := Value.str (Str.ofString "label") 350, val := Value.ref 130 }, { hash := PyData.keyHash P (Str.ofString "count"), key := Value.str (Str.ofString "count") 357, val := Value.ref 137 }, { hash := PyData.keyHash P (Str.ofString "functor_count"), key := Value.str (Str.ofString "functor_count") 364, val := Value.ref 144 }, { hash := PyData.keyHash P (Str.ofString "known"), key := Value.str (Str.ofString "known") 374, val := Value.ref 151 }, { hash := PyData.keyHash P (Str.ofString "__static_attributes__"), key := Value.str (Str.ofString "__static_attributes__") 379, val := Value.ref 152 }, { hash := PyData.keyHash P (Str.ofString "__dict__"), key := Value.str (Str.ofString "__dict__") 381, val := Value.ref 155 }, { hash := PyData.keyHash P (Str.ofString "__weakref__"), key := Value.str (Str.ofString "__weakref__") 383, val := Value.ref 156 }, { hash := PyData.keyHash P (Str.ofString "__doc__"), key := Value.str (Str.ofString "__doc__") 384, val := Value.none }] 4 }
noncomputable def tq154v : Obj := { cls := Value.type "type", data := Data.cls { name := Str.ofString "Symbols", bases := [Value.type "object"], mro := [Value.ref 154, Value.type "object"], ns := 153, qualname := Str.ofString "Symbols" }, slots := #[none, none, some (Value.str (Str.ofString "Symbols") 267), some (Value.str (Str.ofString "Symbols") 275), some (Value.builtin "object.__new__"), some (Value.bool true)] }
noncomputable def tq155v : Obj := { cls := Value.type "getset_descriptor", data := Data.fields #[Value.str (Str.ofString "__dict__") 380, Value.ref 154, Value.builtin "function.__dict__", Value.builtin "function.__dict__#set"] }
noncomputable def tq156v : Obj := { cls := Value.type "getset_descriptor", data := Data.fields #[Value.str (Str.ofString "__weakref__") 382, Value.ref 154, Value.builtin "ExceptionGroup.__weakref__", Value.none] }
noncomputable def tq157v : Obj := { cls := Value.type "super", data := Data.fields #[Value.ref 154, Value.ref 154, Value.ref 154] }
noncomputable def tq158v : Obj := { cls := Value.type "builtin_function_or_method", data := Data.fields #[Value.builtin "object.__init_subclass__", Value.ref 154] }
noncomputable def tq159v : Obj := { cls := Value.type "tuple", data := Data.seq #[] }
noncomputable def tq160v : Obj := { cls := Value.none, data := Data.fields #[] }
noncomputable def tq161v : Obj := { cls := Value.type "tuple", data := Data.seq #[Value.str (Str.ofString "formal") 392] }
noncomputable def tq162v : Obj := { cls := Value.type "tuple", data := Data.seq #[] }
noncomputable def tq163v : Obj := foW (Value.none) (fdW (fdT 15) (Str.ofString "system_error") 0 ([]) (Value.none) (Value.none) (Value.none) (Value.none) (none) (Value.none) (Value.none) 0)
noncomputable def tq164v : Obj := { cls := Value.type "code", data := Data.fields #[Value.str (Str.ofString "system_error") 389, Value.str (Str.ofString "system_error") 390, Value.str (Str.ofString "/claim/cut.py") 391, Value.int 80 0, Value.int 1 0, Value.int 0 0, Value.int 0 0, Value.int 3 0, Value.ref 159, Value.bool true, Value.int 181 0, Value.ref 160, Value.none, Value.ref 161, Value.ref 162, Value.ref 163, Value.int 393 0, Value.int 80 0, Value.str (Str.ofString "/claim/cut.py") 394] }
noncomputable def tq165v : Obj := foW (Value.type "function") (fdW (fdT 15) (Str.ofString "system_error") 3 ([]) (Value.none) (Value.none) (Value.none) (Value.str (Str.ofString "clausemill.terms") 387) (none) (Value.ref 164) (Value.none) 0)
noncomputable def tq166v : Obj := { cls := Value.type "tuple", data := Data.seq #[] }
noncomputable def tq167v : Obj := { cls := Value.none, data := Data.fields #[] }
noncomputable def tq168v : Obj := { cls := Value.type "tuple", data := Data.seq #[Value.str (Str.ofString "symbols") 399, Value.str (Str.ofString "name") 400, Value.str (Str.ofString "parts") 401, Value.str (Str.ofString "args") 402, Value.str (Str.ofString "part") 403] }
noncomputable def tq169v : Obj := { cls := Value.type "tuple", data := Data.seq #[] }
noncomputable def tq170v : Obj := foW (Value.none) (fdW (fdT 16) (Str.ofString "formal_of") 0 ([]) (Value.none) (Value.none) (Value.none) (Value.none) (none) (Value.none) (Value.none) 0)
noncomputable def tq171v : Obj := { cls := Value.type "code", data := Data.fields #[Value.str (Str.ofString "formal_of") 396, Value.str (Str.ofString "formal_of") 397, Value.str (Str.ofString "/claim/cut.py") 398, Value.int 82 0, Value.int 3 0, Value.int 0 0, Value.int 0 0, Value.int 3 0, Value.ref 166, Value.bool true, Value.int 181 0, Value.ref 167, Value.none, Value.ref 168, Value.ref 169, Value.ref 170, Value.int 404 0, Value.int 82 0, Value.str (Str.ofString "/claim/cut.py") 405] }
noncomputable def tq172v : Obj := foW (Value.type "function") (fdW (fdT 16) (Str.ofString "formal_of") 3 ([]) (Value.none) (Value.none) (Value.none) (Value.str (Str.ofString "clausemill.terms") 387) (none) (Value.ref 171) (Value.none) 0)
noncomputable def tq173v : Obj := { cls := Value.type "tuple", data := Data.seq #[] }
noncomputable def tq174v : Obj := { cls := Value.none, data := Data.fields #[] }
noncomputable def tq175v : Obj := { cls := Value.type "tuple", data := Data.seq #[Value.str (Str.ofString "symbols") 410, Value.str (Str.ofString "what") 411] }
noncomputable def tq176v : Obj := { cls := Value.type "tuple", data := Data.seq #[] }
noncomputable def tq177v : Obj := foW (Value.none) (fdW (fdT 17) (Str.ofString "resource_error") 0 ([]) (Value.none) (Value.none) (Value.none) (Value.none) (none) (Value.none) (Value.none) 0)
noncomputable def tq178v : Obj := { cls := Value.type "code", data := Data.fields #[Value.str (Str.ofString "resource_error") 407, Value.str (Str.ofString "resource_error") 408, Value.str (Str.ofString "/claim/cut.py") 409, Value.int 87 0, Value.int 2 0, Value.int 0 0, Value.int 0 0, Value.int 3 0, Value.ref 173, Value.bool true, Value.int 181 0, Value.ref 174, Value.none, Value.ref 175, Value.ref 176, Value.ref 177, Value.int 412 0, Value.int 87 0, Value.str (Str.ofString "/claim/cut.py") 413] }
noncomputable def tq179v : Obj := foW (Value.type "function") (fdW (fdT 17) (Str.ofString "resource_error") 3 ([]) (Value.none) (Value.none) (Value.none) (Value.str (Str.ofString "clausemill.terms") 387) (none) (Value.ref 178) (Value.none) 0)
noncomputable def tq180v : Obj := { cls := Value.type "tuple", data := Data.seq #[Value.int 5 427, Value.int 0 431] }
noncomputable def topT27 (P : Params) : BT := (.node (boot_o_0 P) (.node (boot_o_1 P) (.node (tq3v P) (.node (boot_o_7 P) (.node tq15 (.node tq31 (.node tq63 (.node tq127v .nil .nil) .nil) (.node tq95v (.node tq159v .nil .nil) .nil)) (.node tq47 (.node tq79v (.node tq143v .nil .nil) .nil) (.node tq111v (.node tq175v .nil .nil) .nil))) (.node tq23 (.node tq39 (.node tq71v (.node tq135v .nil .nil) .nil) (.node tq103v (.node tq167v .nil .nil) .nil)) (.node tq55 (.node tq87v (.node tq151v .nil .nil) .nil) (.node tq119v .nil .nil)))) (.node topO11 (.node tq19 (.node tq35 (.node tq67 (.node tq131v .nil .nil) .nil) (.node tq99v (.node tq163v .nil .nil) .nil)) (.node tq51 (.node tq83v (.node tq147v .nil .nil) .nil) (.node tq115v (.node tq179v .nil .nil) .nil))) (.node tq27 (.node tq43 (.node tq75v (.node tq139v .nil .nil) .nil) (.node tq107v (.node tq171v .nil .nil) .nil)) (.node tq59 (.node tq91v (.node tq155v .nil .nil) .nil) (.node tq123v .nil .nil))))) (.node (boot_o_5 P) (.node (boot_o_9 P) (.node tq17 (.node tq33 (.node tq65 (.node tq129v .nil .nil) .nil) (.node tq97v (.node tq161v .nil .nil) .nil)) (.node tq49 (.node tq81v (.node tq145v .nil .nil) .nil) (.node tq113v (.node tq177v .nil .nil) .nil))) (.node tq25 (.node tq41 (.node tq73v (.node tq137v .nil .nil) .nil) (.node tq105v (.node tq169v .nil .nil) .nil)) (.node tq57 (.node tq89v (.node (tq153v P) .nil .nil) .nil) (.node tq121v .nil .nil)))) (.node topO13 (.node tq21 (.node (tq37 P) (.node tq69v (.node tq133v .nil .nil) .nil) (.node tq101v (.node tq165v .nil .nil) .nil)) (.node tq53 (.node tq85v (.node tq149v .nil .nil) .nil) (.node tq117v .nil .nil))) (.node tq29 (.node tq45 (.node tq77v (.node tq141v .nil .nil) .nil) (.node tq109v (.node tq173v .nil .nil) .nil)) (.node tq61 (.node tq93v (.node tq157v .nil .nil) .nil) (.node tq125v .nil .nil)))))) (.node (tq2 P) (.node (boot_o_4 P) (.node (boot_o_8 P) (.node tq16 (.node tq32 (.node tq64 (.node tq128v .nil .nil) .nil) (.node tq96v (.node tq160v .nil .nil) .nil)) (.node tq48 (.node tq80v (.node tq144v .nil .nil) .nil) (.node tq112v (.node tq176v .nil .nil) .nil))) (.node (tq24 P) (.node tq40 (.node tq72v (.node tq136v .nil .nil) .nil) (.node tq104v (.node tq168v .nil .nil) .nil)) (.node tq56 (.node tq88v (.node tq152v .nil .nil) .nil) (.node tq120v .nil .nil)))) (.node tq12v (.node tq20 (.node tq36 (.node tq68v (.node tq132v .nil .nil) .nil) (.node tq100v (.node tq164v .nil .nil) .nil)) (.node tq52 (.node tq84v (.node tq148v .nil .nil) .nil) (.node tq116v (.node tq180v .nil .nil) .nil))) (.node tq28 (.node tq44 (.node tq76v (.node tq140v .nil .nil) .nil) (.node tq108v (.node tq172v .nil .nil) .nil)) (.node tq60 (.node tq92v (.node tq156v .nil .nil) .nil) (.node tq124v .nil .nil))))) (.node (boot_o_6 P) (.node (boot_o_10 P) (.node tq18 (.node tq34 (.node tq66 (.node tq130v .nil .nil) .nil) (.node tq98v (.node tq162v .nil .nil) .nil)) (.node (tq50 P) (.node tq82v (.node tq146v .nil .nil) .nil) (.node tq114v (.node tq178v .nil .nil) .nil))) (.node tq26 (.node tq42 (.node tq74v (.node tq138v .nil .nil) .nil) (.node tq106v (.node tq170v .nil .nil) .nil)) (.node tq58 (.node tq90v (.node tq154v .nil .nil) .nil) (.node tq122v .nil .nil)))) (.node topO14 (.node tq22 (.node tq38 (.node (tq70v P) (.node tq134v .nil .nil) .nil) (.node tq102v (.node tq166v .nil .nil) .nil)) (.node tq54 (.node tq86v (.node tq150v .nil .nil) .nil) (.node tq118v .nil .nil))) (.node (tq30 P) (.node tq46 (.node tq78v (.node tq142v .nil .nil) .nil) (.node tq110v (.node tq174v .nil .nil) .nil)) (.node tq62 (.node tq94v (.node tq158v .nil .nil) .nil) (.node tq126v .nil .nil)))))))
noncomputable def topS27 (w : World) (os : OsState) : SharedT := SharedT.mk (topT27 w.params) 181 ({ }) #[] ({ }) 433 os
@[reducible] noncomputable def topZ_27 : Pos := { line := 97, col := 0, endLine := 97, endCol := 4 }
noncomputable def tq3vv (P : Params) : Obj := { cls := Value.type "dict", data := Data.dict #[{ hash := PyData.keyHash P (Str.ofString "__name__"), key := Value.str (Str.ofString "__name__") 165, val := Value.str (Str.ofString "clausemill.store") 415 }, { hash := PyData.keyHash P (Str.ofString "__doc__"), key := Value.str (Str.ofString "__doc__") 166, val := Value.none }, { hash := PyData.keyHash P (Str.ofString "__package__"), key := Value.str (Str.ofString "__package__") 167, val := Value.none }, { hash := PyData.keyHash P (Str.ofString "__loader__"), key := Value.str (Str.ofString "__loader__") 168, val := Value.builtin "__main__.__loader__#opaque" }, { hash := PyData.keyHash P (Str.ofString "__spec__"), key := Value.str (Str.ofString "__spec__") 169, val := Value.none }, { hash := PyData.keyHash P (Str.ofString "__annotations__"), key := Value.str (Str.ofString "__annotations__") 170, val := Value.ref 6 }, { hash := PyData.keyHash P (Str.ofString "__builtins__"), key := Value.str (Str.ofString "__builtins__") 171, val := Value.ref 4 }, { hash := PyData.keyHash P (Str.ofString "__file__"), key := Value.str (Str.ofString "__file__") 173, val := Value.str (Str.ofString "/claim/cut.py") 172 }, { hash := PyData.keyHash P (Str.ofString "__cached__"), key := Value.str (Str.ofString "__cached__") 174, val := Value.none }, { hash := PyData.keyHash P (Str.ofString "_wall"), key := Value.str (Str.ofString "_wall") 193, val := Value.ref 21 }, { hash := PyData.keyHash P (Str.ofString "ClausemillError"), key := Value.str (Str.ofString "ClausemillError") 215, val := Value.ref 31 }, { hash := PyData.keyHash P (Str.ofString "PrologError"), key := Value.str (Str.ofString "PrologError") 240, val := Value.ref 51 }, { hash := PyData.keyHash P (Str.ofString "A_NIL"), key := Value.str (Str.ofString "A_NIL") 242, val := Value.int 0 241 }, { hash := PyData.keyHash P (Str.ofString "A_PLUS"), key := Value.str (Str.ofString "A_PLUS") 244, val := Value.int 4 243 }, { hash := PyData.keyHash P (Str.ofString "A_SYSTEM"), key := Value.str (Str.ofString "A_SYSTEM") 246, val := Value.int 25 245 }, { hash := PyData.keyHash P (Str.ofString "F_DOT"), key := Value.str (Str.ofString "F_DOT") 248, val := Value.int 0 247 }, { hash := PyData.keyHash P (Str.ofString "F_MINUS1"), key := Value.str (Str.ofString "F_MINUS1") 250, val := Value.int 12 249 }, { hash := PyData.keyHash P (Str.ofString "F_MINUS"), key := Value.str (Str.ofString "F_MINUS") 252, val := Value.int 13 251 }, { hash := PyData.keyHash P (Str.ofString "F_ERROR"), key := Value.str (Str.ofString "F_ERROR") 254, val := Value.int 16 253 }, { hash := PyData.keyHash P (Str.ofString "fixed_atoms"), key := Value.str (Str.ofString "fixed_atoms") 260, val := Value.ref 60 }, { hash := PyData.keyHash P (Str.ofString "fixed_functors"), key := Value.str (Str.ofString "fixed_functors") 266, val := Value.ref 67 }, { hash := PyData.keyHash P (Str.ofString "Symbols"), key := Value.str (Str.ofString "Symbols") 386, val := Value.ref 154 }, { hash := PyData.keyHash P (Str.ofString "system_error"), key := Value.str (Str.ofString "system_error") 395, val := Value.ref 165 }, { hash := PyData.keyHash P (Str.ofString "formal_of"), key := Value.str (Str.ofString "formal_of") 406, val := Value.ref 172 }, { hash := PyData.keyHash P (Str.ofString "resource_error"), key := Value.str (Str.ofString "resource_error") 414, val := Value.ref 179 }, { hash := PyData.keyHash P (Str.ofString "REF"), key := Value.str (Str.ofString "REF") 418, val := Value.int 0 417 }, { hash := PyData.keyHash P (Str.ofString "SRF"), key := Value.str (Str.ofString "SRF") 420, val := Value.int 1 419 }, { hash := PyData.keyHash P (Str.ofString "STR"), key := Value.str (Str.ofString "STR") 422, val := Value.int 2 421 }, { hash := PyData.keyHash P (Str.ofString "LIS"), key := Value.str (Str.ofString "LIS") 424, val := Value.int 3 423 }, { hash := PyData.keyHash P (Str.ofString "CON"), key := Value.str (Str.ofString "CON") 426, val := Value.int 4 425 }, { hash := PyData.keyHash P (Str.ofString "INT"), key := Value.str (Str.ofString "INT") 428, val := Value.int 5 427 }, { hash := PyData.keyHash P (Str.ofString "FUN"), key := Value.str (Str.ofString "FUN") 430, val := Value.int 6 429 }, { hash := PyData.keyHash P (Str.ofString "VOID"), key := Value.str (Str.ofString "VOID") 432, val := Value.ref 180 }, { hash := PyData.keyHash P (Str.ofString "Cells"), key := Value.str (Str.ofString "Cells") 626, val := Value.ref 324 }] 34 }
noncomputable def tq12vv : Obj := { cls := Value.none, data := Data.fields #[Value.int 1 0, Value.int 0 0, Value.ref 20, Value.int 5 0, Value.int 0 0, Value.ref 27, Value.int 7 0, Value.int 0 0, Value.ref 40, Value.int 18 0, Value.int 0 0, Value.ref 59, Value.int 20 0, Value.int 0 0, Value.ref 66, Value.int 22 0, Value.int 0 0, Value.ref 73, Value.int 80 0, Value.int 0 0, Value.ref 164, Value.int 82 0, Value.int 0 0, Value.ref 171, Value.int 87 0, Value.int 0 0, Value.ref 178, Value.int 98 0, Value.int 0 0, Value.ref 186] }
noncomputable def tq181vv : Obj := { cls := Value.type "tuple", data := Data.seq #[] }
noncomputable def tq182vv : Obj := { cls := Value.type "builtin_function_or_method", data := Data.fields #[Value.builtin "type.__prepare__", Value.type "type"] }
noncomputable def tq183vv (P : Params) : Obj := { cls := Value.type "dict", data := Data.dict #[{ hash := PyData.keyHash P (Str.ofString "__module__"), key := Value.str (Str.ofString "__module__") 440, val := Value.str (Str.ofString "clausemill.store") 415 }, { hash := PyData.keyHash P (Str.ofString "__qualname__"), key := Value.str (Str.ofString "__qualname__") 442, val := Value.str (Str.ofString "Cells") 441 }, { hash := PyData.keyHash P (Str.ofString "__firstlineno__"), key := Value.str (Str.ofString "__firstlineno__") 444, val := Value.int 98 443 }, { hash := PyData.keyHash P (Str.ofString "__init__"), key := Value.str (Str.ofString "__init__") 454, val := Value.ref 195 }, { hash := PyData.keyHash P (Str.ofString "push"), key := Value.str (Str.ofString "push") 463, val := Value.ref 202 }, { hash := PyData.keyHash P (Str.ofString "new_var"), key := Value.str (Str.ofString "new_var") 471, val := Value.ref 209 }, { hash := PyData.keyHash P (Str.ofString "reserve"), key := Value.str (Str.ofString "reserve") 481, val := Value.ref 216 }, { hash := PyData.keyHash P (Str.ofString "trim"), key := Value.str (Str.ofString "trim") 489, val := Value.ref 223 }, { hash := PyData.keyHash P (Str.ofString "deref"), key := Value.str (Str.ofString "deref") 499, val := Value.ref 230 }, { hash := PyData.keyHash P (Str.ofString "is_unbound"), key := Value.str (Str.ofString "is_unbound") 507, val := Value.ref 237 }, { hash := PyData.keyHash P (Str.ofString "bind"), key := Value.str (Str.ofString "bind") 517, val := Value.ref 244 }, { hash := PyData.keyHash P (Str.ofString "bind_pair"), key := Value.str (Str.ofString "bind_pair") 526, val := Value.ref 251 }, { hash := PyData.keyHash P (Str.ofString "globalise"), key := Value.str (Str.ofString "globalise") 535, val := Value.ref 258 }, { hash := PyData.keyHash P (Str.ofString "mark"), key := Value.str (Str.ofString "mark") 542, val := Value.ref 265 }, { hash := PyData.keyHash P (Str.ofString "undo_to"), key := Value.str (Str.ofString "undo_to") 550, val := Value.ref 272 }, { hash := PyData.keyHash P (Str.ofString "stack_put"), key := Value.str (Str.ofString "stack_put") 560, val := Value.ref 279 }, { hash := PyData.keyHash P (Str.ofString "is_compound"), key := Value.str (Str.ofString "is_compound") 568, val := Value.ref 286 }, { hash := PyData.keyHash P (Str.ofString "functor_of"), key := Value.str (Str.ofString "functor_of") 577, val := Value.ref 293 }, { hash := PyData.keyHash P (Str.ofString "width"), key := Value.str (Str.ofString "width") 585, val := Value.ref 300 }, { hash := PyData.keyHash P (Str.ofString "base"), key := Value.str (Str.ofString "base") 593, val := Value.ref 307 }, { hash := PyData.keyHash P (Str.ofString "arg"), key := Value.str (Str.ofString "arg") 602, val := Value.ref 314 }, { hash := PyData.keyHash P (Str.ofString "new_block"), key := Value.str (Str.ofString "new_block") 611, val := Value.ref 321 }, { hash := PyData.keyHash P (Str.ofString "__static_attributes__"), key := Value.str (Str.ofString "__static_attributes__") 619, val := Value.ref 322 }] 23 }
noncomputable def tq184vv : Obj := { cls := Value.type "tuple", data := Data.seq #[] }
noncomputable def tq185vv : Obj := { cls := Value.none, data := Data.fields #[Value.int 100 0, Value.int 4 0, Value.ref 194, Value.int 109 0, Value.int 4 0, Value.ref 201, Value.int 116 0, Value.int 4 0, Value.ref 208, Value.int 121 0, Value.int 4 0, Value.ref 215, Value.int 129 0, Value.int 4 0, Value.ref 222, Value.int 132 0, Value.int 4 0, Value.ref 229, Value.int 145 0, Value.int 4 0, Value.ref 236, Value.int 148 0, Value.int 4 0, Value.ref 243, Value.int 159 0, Value.int 4 0, Value.ref 250, Value.int 162 0, Value.int 4 0, Value.ref 257, Value.int 170 0, Value.int 4 0, Value.ref 264, Value.int 173 0, Value.int 4 0, Value.ref 271, Value.int 176 0, Value.int 4 0, Value.ref 278, Value.int 185 0, Value.int 4 0, Value.ref 285, Value.int 188 0, Value.int 4 0, Value.ref 292, Value.int 198 0, Value.int 4 0, Value.ref 299, Value.int 201 0, Value.int 4 0, Value.ref 306, Value.int 206 0, Value.int 4 0, Value.ref 313, Value.int 209 0, Value.int 4 0, Value.ref 320] }
noncomputable def tq186vv : Obj := { cls := Value.type "code", data := Data.fields #[Value.str (Str.ofString "Cells") 435, Value.str (Str.ofString "Cells") 436, Value.str (Str.ofString "/claim/cut.py") 437, Value.int 98 0, Value.int 0 0, Value.int 0 0, Value.int 0 0, Value.int 0 0, Value.ref 184, Value.bool false, Value.int 181 0, Value.ref 185, Value.none, Value.none, Value.none, Value.none, Value.int 438 0, Value.int 98 0, Value.str (Str.ofString "/claim/cut.py") 439] }
noncomputable def tq187vv : Obj := { cls := Value.type "frame", slots := #[some (Value.ref 186), some (Value.ref 3), some (Value.ref 183), none, some (Value.str (Str.ofString "clausemill.store") 415), none, some (Value.ref 0)] }
noncomputable def tq188vv : Obj := { cls := Value.type "tuple", data := Data.seq #[Value.int 100000 445] }
noncomputable def tq189vv : Obj := { cls := Value.type "tuple", data := Data.seq #[] }
noncomputable def tq190vv : Obj := { cls := Value.none, data := Data.fields #[] }
noncomputable def tq191vv : Obj := { cls := Value.type "tuple", data := Data.seq #[Value.str (Str.ofString "self") 449, Value.str (Str.ofString "symbols") 450, Value.str (Str.ofString "max_heap") 451] }
noncomputable def tq192vv : Obj := { cls := Value.type "tuple", data := Data.seq #[] }
noncomputable def tq193vv : Obj := foW (Value.none) (fdW (fdC 27 0) (Str.ofString "Cells.__init__") 0 ([]) (Value.none) (Value.none) (Value.none) (Value.none) (none) (Value.none) (Value.none) 0)
noncomputable def tq194vv : Obj := { cls := Value.type "code", data := Data.fields #[Value.str (Str.ofString "__init__") 446, Value.str (Str.ofString "Cells.__init__") 447, Value.str (Str.ofString "/claim/cut.py") 448, Value.int 100 0, Value.int 3 0, Value.int 0 0, Value.int 0 0, Value.int 3 0, Value.ref 189, Value.bool true, Value.int 181 0, Value.ref 190, Value.none, Value.ref 191, Value.ref 192, Value.ref 193, Value.int 452 0, Value.int 100 0, Value.str (Str.ofString "/claim/cut.py") 453] }
noncomputable def tq195vv : Obj := foW (Value.type "function") (fdW (fdC 27 0) (Str.ofString "Cells.__init__") 3 ([]) (Value.ref 188) (Value.none) (Value.none) (Value.str (Str.ofString "clausemill.store") 415) (none) (Value.ref 194) (Value.none) 0)
noncomputable def tq196vv : Obj := { cls := Value.type "tuple", data := Data.seq #[] }
noncomputable def tq197vv : Obj := { cls := Value.none, data := Data.fields #[] }
noncomputable def tq198vv : Obj := { cls := Value.type "tuple", data := Data.seq #[Value.str (Str.ofString "self") 458, Value.str (Str.ofString "cell") 459, Value.str (Str.ofString "address") 460] }
noncomputable def tq199vv : Obj := { cls := Value.type "tuple", data := Data.seq #[] }
noncomputable def tq200vv : Obj := foW (Value.none) (fdW (fdC 27 1) (Str.ofString "Cells.push") 0 ([]) (Value.none) (Value.none) (Value.none) (Value.none) (none) (Value.none) (Value.none) 0)
noncomputable def tq201vv : Obj := { cls := Value.type "code", data := Data.fields #[Value.str (Str.ofString "push") 455, Value.str (Str.ofString "Cells.push") 456, Value.str (Str.ofString "/claim/cut.py") 457, Value.int 109 0, Value.int 2 0, Value.int 0 0, Value.int 0 0, Value.int 3 0, Value.ref 196, Value.bool true, Value.int 181 0, Value.ref 197, Value.none, Value.ref 198, Value.ref 199, Value.ref 200, Value.int 461 0, Value.int 109 0, Value.str (Str.ofString "/claim/cut.py") 462] }
noncomputable def tq202vv : Obj := foW (Value.type "function") (fdW (fdC 27 1) (Str.ofString "Cells.push") 3 ([]) (Value.none) (Value.none) (Value.none) (Value.str (Str.ofString "clausemill.store") 415) (none) (Value.ref 201) (Value.none) 0)
noncomputable def tq203vv : Obj := { cls := Value.type "tuple", data := Data.seq #[] }
noncomputable def tq204vv : Obj := { cls := Value.none, data := Data.fields #[] }
noncomputable def tq205vv : Obj := { cls := Value.type "tuple", data := Data.seq #[Value.str (Str.ofString "self") 467, Value.str (Str.ofString "cell") 468] }
noncomputable def tq206vv : Obj := { cls := Value.type "tuple", data := Data.seq #[] }
noncomputable def tq207vv : Obj := foW (Value.none) (fdW (fdC 27 2) (Str.ofString "Cells.new_var") 0 ([]) (Value.none) (Value.none) (Value.none) (Value.none) (none) (Value.none) (Value.none) 0)
noncomputable def tq208vv : Obj := { cls := Value.type "code", data := Data.fields #[Value.str (Str.ofString "new_var") 464, Value.str (Str.ofString "Cells.new_var") 465, Value.str (Str.ofString "/claim/cut.py") 466, Value.int 116 0, Value.int 1 0, Value.int 0 0, Value.int 0 0, Value.int 3 0, Value.ref 203, Value.bool true, Value.int 181 0, Value.ref 204, Value.none, Value.ref 205, Value.ref 206, Value.ref 207, Value.int 469 0, Value.int 116 0, Value.str (Str.ofString "/claim/cut.py") 470] }
noncomputable def tq209vv : Obj := foW (Value.type "function") (fdW (fdC 27 2) (Str.ofString "Cells.new_var") 3 ([]) (Value.none) (Value.none) (Value.none) (Value.str (Str.ofString "clausemill.store") 415) (none) (Value.ref 208) (Value.none) 0)
noncomputable def tq210vv : Obj := { cls := Value.type "tuple", data := Data.seq #[] }
noncomputable def tq211vv : Obj := { cls := Value.none, data := Data.fields #[] }
noncomputable def tq212vv : Obj := { cls := Value.type "tuple", data := Data.seq #[Value.str (Str.ofString "self") 475, Value.str (Str.ofString "count") 476, Value.str (Str.ofString "first") 477, Value.str (Str.ofString "step") 478] }
noncomputable def tq213vv : Obj := { cls := Value.type "tuple", data := Data.seq #[] }
noncomputable def tq214vv : Obj := foW (Value.none) (fdW (fdC 27 3) (Str.ofString "Cells.reserve") 0 ([]) (Value.none) (Value.none) (Value.none) (Value.none) (none) (Value.none) (Value.none) 0)
noncomputable def tq215vv : Obj := { cls := Value.type "code", data := Data.fields #[Value.str (Str.ofString "reserve") 472, Value.str (Str.ofString "Cells.reserve") 473, Value.str (Str.ofString "/claim/cut.py") 474, Value.int 121 0, Value.int 2 0, Value.int 0 0, Value.int 0 0, Value.int 3 0, Value.ref 210, Value.bool true, Value.int 181 0, Value.ref 211, Value.none, Value.ref 212, Value.ref 213, Value.ref 214, Value.int 479 0, Value.int 121 0, Value.str (Str.ofString "/claim/cut.py") 480] }
noncomputable def tq216vv : Obj := foW (Value.type "function") (fdW (fdC 27 3) (Str.ofString "Cells.reserve") 3 ([]) (Value.none) (Value.none) (Value.none) (Value.str (Str.ofString "clausemill.store") 415) (none) (Value.ref 215) (Value.none) 0)
noncomputable def tq217vv : Obj := { cls := Value.type "tuple", data := Data.seq #[] }
noncomputable def tq218vv : Obj := { cls := Value.none, data := Data.fields #[] }
noncomputable def tq219vv : Obj := { cls := Value.type "tuple", data := Data.seq #[Value.str (Str.ofString "self") 485, Value.str (Str.ofString "h") 486] }
noncomputable def tq220vv : Obj := { cls := Value.type "tuple", data := Data.seq #[] }
noncomputable def tq221vv : Obj := foW (Value.none) (fdW (fdC 27 4) (Str.ofString "Cells.trim") 0 ([]) (Value.none) (Value.none) (Value.none) (Value.none) (none) (Value.none) (Value.none) 0)
noncomputable def tq222vv : Obj := { cls := Value.type "code", data := Data.fields #[Value.str (Str.ofString "trim") 482, Value.str (Str.ofString "Cells.trim") 483, Value.str (Str.ofString "/claim/cut.py") 484, Value.int 129 0, Value.int 2 0, Value.int 0 0, Value.int 0 0, Value.int 3 0, Value.ref 217, Value.bool true, Value.int 181 0, Value.ref 218, Value.none, Value.ref 219, Value.ref 220, Value.ref 221, Value.int 487 0, Value.int 129 0, Value.str (Str.ofString "/claim/cut.py") 488] }
noncomputable def tq223vv : Obj := foW (Value.type "function") (fdW (fdC 27 4) (Str.ofString "Cells.trim") 3 ([]) (Value.none) (Value.none) (Value.none) (Value.str (Str.ofString "clausemill.store") 415) (none) (Value.ref 222) (Value.none) 0)
noncomputable def tq224vv : Obj := { cls := Value.type "tuple", data := Data.seq #[] }
noncomputable def tq225vv : Obj := { cls := Value.none, data := Data.fields #[] }
noncomputable def tq226vv : Obj := { cls := Value.type "tuple", data := Data.seq #[Value.str (Str.ofString "self") 493, Value.str (Str.ofString "cell") 494, Value.str (Str.ofString "tag") 495, Value.str (Str.ofString "found") 496] }
noncomputable def tq227vv : Obj := { cls := Value.type "tuple", data := Data.seq #[] }
noncomputable def tq228vv : Obj := foW (Value.none) (fdW (fdC 27 5) (Str.ofString "Cells.deref") 0 ([]) (Value.none) (Value.none) (Value.none) (Value.none) (none) (Value.none) (Value.none) 0)
noncomputable def tq229vv : Obj := { cls := Value.type "code", data := Data.fields #[Value.str (Str.ofString "deref") 490, Value.str (Str.ofString "Cells.deref") 491, Value.str (Str.ofString "/claim/cut.py") 492, Value.int 132 0, Value.int 2 0, Value.int 0 0, Value.int 0 0, Value.int 3 0, Value.ref 224, Value.bool true, Value.int 181 0, Value.ref 225, Value.none, Value.ref 226, Value.ref 227, Value.ref 228, Value.int 497 0, Value.int 132 0, Value.str (Str.ofString "/claim/cut.py") 498] }
noncomputable def tq230vv : Obj := foW (Value.type "function") (fdW (fdC 27 5) (Str.ofString "Cells.deref") 3 ([]) (Value.none) (Value.none) (Value.none) (Value.str (Str.ofString "clausemill.store") 415) (none) (Value.ref 229) (Value.none) 0)
noncomputable def tq231vv : Obj := { cls := Value.type "tuple", data := Data.seq #[] }
noncomputable def tq232vv : Obj := { cls := Value.none, data := Data.fields #[] }
noncomputable def tq233vv : Obj := { cls := Value.type "tuple", data := Data.seq #[Value.str (Str.ofString "self") 503, Value.str (Str.ofString "cell") 504] }
noncomputable def tq234vv : Obj := { cls := Value.type "tuple", data := Data.seq #[] }
noncomputable def tq235vv : Obj := foW (Value.none) (fdW (fdC 27 6) (Str.ofString "Cells.is_unbound") 0 ([]) (Value.none) (Value.none) (Value.none) (Value.none) (none) (Value.none) (Value.none) 0)
noncomputable def tq236vv : Obj := { cls := Value.type "code", data := Data.fields #[Value.str (Str.ofString "is_unbound") 500, Value.str (Str.ofString "Cells.is_unbound") 501, Value.str (Str.ofString "/claim/cut.py") 502, Value.int 145 0, Value.int 2 0, Value.int 0 0, Value.int 0 0, Value.int 3 0, Value.ref 231, Value.bool true, Value.int 181 0, Value.ref 232, Value.none, Value.ref 233, Value.ref 234, Value.ref 235, Value.int 505 0, Value.int 145 0, Value.str (Str.ofString "/claim/cut.py") 506] }
noncomputable def tq237vv : Obj := foW (Value.type "function") (fdW (fdC 27 6) (Str.ofString "Cells.is_unbound") 3 ([]) (Value.none) (Value.none) (Value.none) (Value.str (Str.ofString "clausemill.store") 415) (none) (Value.ref 236) (Value.none) 0)
noncomputable def tq238vv : Obj := { cls := Value.type "tuple", data := Data.seq #[] }
noncomputable def tq239vv : Obj := { cls := Value.none, data := Data.fields #[] }
noncomputable def tq240vv : Obj := { cls := Value.type "tuple", data := Data.seq #[Value.str (Str.ofString "self") 511, Value.str (Str.ofString "cell") 512, Value.str (Str.ofString "value") 513, Value.str (Str.ofString "place") 514] }
noncomputable def tq241vv : Obj := { cls := Value.type "tuple", data := Data.seq #[] }
noncomputable def tq242vv : Obj := foW (Value.none) (fdW (fdC 27 7) (Str.ofString "Cells.bind") 0 ([]) (Value.none) (Value.none) (Value.none) (Value.none) (none) (Value.none) (Value.none) 0)
noncomputable def tq243vv : Obj := { cls := Value.type "code", data := Data.fields #[Value.str (Str.ofString "bind") 508, Value.str (Str.ofString "Cells.bind") 509, Value.str (Str.ofString "/claim/cut.py") 510, Value.int 148 0, Value.int 3 0, Value.int 0 0, Value.int 0 0, Value.int 3 0, Value.ref 238, Value.bool true, Value.int 181 0, Value.ref 239, Value.none, Value.ref 240, Value.ref 241, Value.ref 242, Value.int 515 0, Value.int 148 0, Value.str (Str.ofString "/claim/cut.py") 516] }
noncomputable def tq244vv : Obj := foW (Value.type "function") (fdW (fdC 27 7) (Str.ofString "Cells.bind") 3 ([]) (Value.none) (Value.none) (Value.none) (Value.str (Str.ofString "clausemill.store") 415) (none) (Value.ref 243) (Value.none) 0)
noncomputable def tq245vv : Obj := { cls := Value.type "tuple", data := Data.seq #[] }
noncomputable def tq246vv : Obj := { cls := Value.none, data := Data.fields #[] }
noncomputable def tq247vv : Obj := { cls := Value.type "tuple", data := Data.seq #[Value.str (Str.ofString "self") 521, Value.str (Str.ofString "c1") 522, Value.str (Str.ofString "c2") 523] }
noncomputable def tq248vv : Obj := { cls := Value.type "tuple", data := Data.seq #[] }
noncomputable def tq249vv : Obj := foW (Value.none) (fdW (fdC 27 8) (Str.ofString "Cells.bind_pair") 0 ([]) (Value.none) (Value.none) (Value.none) (Value.none) (none) (Value.none) (Value.none) 0)
noncomputable def tq250vv : Obj := { cls := Value.type "code", data := Data.fields #[Value.str (Str.ofString "bind_pair") 518, Value.str (Str.ofString "Cells.bind_pair") 519, Value.str (Str.ofString "/claim/cut.py") 520, Value.int 159 0, Value.int 3 0, Value.int 0 0, Value.int 0 0, Value.int 3 0, Value.ref 245, Value.bool true, Value.int 181 0, Value.ref 246, Value.none, Value.ref 247, Value.ref 248, Value.ref 249, Value.int 524 0, Value.int 159 0, Value.str (Str.ofString "/claim/cut.py") 525] }
noncomputable def tq251vv : Obj := foW (Value.type "function") (fdW (fdC 27 8) (Str.ofString "Cells.bind_pair") 3 ([]) (Value.none) (Value.none) (Value.none) (Value.str (Str.ofString "clausemill.store") 415) (none) (Value.ref 250) (Value.none) 0)
noncomputable def tq252vv : Obj := { cls := Value.type "tuple", data := Data.seq #[] }
noncomputable def tq253vv : Obj := { cls := Value.none, data := Data.fields #[] }
noncomputable def tq254vv : Obj := { cls := Value.type "tuple", data := Data.seq #[Value.str (Str.ofString "self") 530, Value.str (Str.ofString "cell") 531, Value.str (Str.ofString "fresh") 532] }
noncomputable def tq255vv : Obj := { cls := Value.type "tuple", data := Data.seq #[] }
noncomputable def tq256vv : Obj := foW (Value.none) (fdW (fdC 27 9) (Str.ofString "Cells.globalise") 0 ([]) (Value.none) (Value.none) (Value.none) (Value.none) (none) (Value.none) (Value.none) 0)
noncomputable def tq257vv : Obj := { cls := Value.type "code", data := Data.fields #[Value.str (Str.ofString "globalise") 527, Value.str (Str.ofString "Cells.globalise") 528, Value.str (Str.ofString "/claim/cut.py") 529, Value.int 162 0, Value.int 2 0, Value.int 0 0, Value.int 0 0, Value.int 3 0, Value.ref 252, Value.bool true, Value.int 181 0, Value.ref 253, Value.none, Value.ref 254, Value.ref 255, Value.ref 256, Value.int 533 0, Value.int 162 0, Value.str (Str.ofString "/claim/cut.py") 534] }
noncomputable def tq258vv : Obj := foW (Value.type "function") (fdW (fdC 27 9) (Str.ofString "Cells.globalise") 3 ([]) (Value.none) (Value.none) (Value.none) (Value.str (Str.ofString "clausemill.store") 415) (none) (Value.ref 257) (Value.none) 0)
noncomputable def tq259vv : Obj := { cls := Value.type "tuple", data := Data.seq #[] }
noncomputable def tq260vv : Obj := { cls := Value.none, data := Data.fields #[] }
noncomputable def tq261vv : Obj := { cls := Value.type "tuple", data := Data.seq #[Value.str (Str.ofString "self") 539] }
noncomputable def tq262vv : Obj := { cls := Value.type "tuple", data := Data.seq #[] }
noncomputable def tq263vv : Obj := foW (Value.none) (fdW (fdC 27 10) (Str.ofString "Cells.mark") 0 ([]) (Value.none) (Value.none) (Value.none) (Value.none) (none) (Value.none) (Value.none) 0)
noncomputable def tq264vv : Obj := { cls := Value.type "code", data := Data.fields #[Value.str (Str.ofString "mark") 536, Value.str (Str.ofString "Cells.mark") 537, Value.str (Str.ofString "/claim/cut.py") 538, Value.int 170 0, Value.int 1 0, Value.int 0 0, Value.int 0 0, Value.int 3 0, Value.ref 259, Value.bool true, Value.int 181 0, Value.ref 260, Value.none, Value.ref 261, Value.ref 262, Value.ref 263, Value.int 540 0, Value.int 170 0, Value.str (Str.ofString "/claim/cut.py") 541] }
noncomputable def tq265vv : Obj := foW (Value.type "function") (fdW (fdC 27 10) (Str.ofString "Cells.mark") 3 ([]) (Value.none) (Value.none) (Value.none) (Value.str (Str.ofString "clausemill.store") 415) (none) (Value.ref 264) (Value.none) 0)
noncomputable def tq266vv : Obj := { cls := Value.type "tuple", data := Data.seq #[] }
noncomputable def tq267vv : Obj := { cls := Value.none, data := Data.fields #[] }
noncomputable def tq268vv : Obj := { cls := Value.type "tuple", data := Data.seq #[Value.str (Str.ofString "self") 546, Value.str (Str.ofString "mark") 547] }
noncomputable def tq269vv : Obj := { cls := Value.type "tuple", data := Data.seq #[] }
noncomputable def tq270vv : Obj := foW (Value.none) (fdW (fdC 27 11) (Str.ofString "Cells.undo_to") 0 ([]) (Value.none) (Value.none) (Value.none) (Value.none) (none) (Value.none) (Value.none) 0)
noncomputable def tq271vv : Obj := { cls := Value.type "code", data := Data.fields #[Value.str (Str.ofString "undo_to") 543, Value.str (Str.ofString "Cells.undo_to") 544, Value.str (Str.ofString "/claim/cut.py") 545, Value.int 173 0, Value.int 2 0, Value.int 0 0, Value.int 0 0, Value.int 3 0, Value.ref 266, Value.bool true, Value.int 181 0, Value.ref 267, Value.none, Value.ref 268, Value.ref 269, Value.ref 270, Value.int 548 0, Value.int 173 0, Value.str (Str.ofString "/claim/cut.py") 549] }
noncomputable def tq272vv : Obj := foW (Value.type "function") (fdW (fdC 27 11) (Str.ofString "Cells.undo_to") 3 ([]) (Value.none) (Value.none) (Value.none) (Value.str (Str.ofString "clausemill.store") 415) (none) (Value.ref 271) (Value.none) 0)
noncomputable def tq273vv : Obj := { cls := Value.type "tuple", data := Data.seq #[] }
noncomputable def tq274vv : Obj := { cls := Value.none, data := Data.fields #[] }
noncomputable def tq275vv : Obj := { cls := Value.type "tuple", data := Data.seq #[Value.str (Str.ofString "self") 554, Value.str (Str.ofString "i") 555, Value.str (Str.ofString "value") 556, Value.str (Str.ofString "stack") 557] }
noncomputable def tq276vv : Obj := { cls := Value.type "tuple", data := Data.seq #[] }
noncomputable def tq277vv : Obj := foW (Value.none) (fdW (fdC 27 12) (Str.ofString "Cells.stack_put") 0 ([]) (Value.none) (Value.none) (Value.none) (Value.none) (none) (Value.none) (Value.none) 0)
noncomputable def tq278vv : Obj := { cls := Value.type "code", data := Data.fields #[Value.str (Str.ofString "stack_put") 551, Value.str (Str.ofString "Cells.stack_put") 552, Value.str (Str.ofString "/claim/cut.py") 553, Value.int 176 0, Value.int 3 0, Value.int 0 0, Value.int 0 0, Value.int 3 0, Value.ref 273, Value.bool true, Value.int 181 0, Value.ref 274, Value.none, Value.ref 275, Value.ref 276, Value.ref 277, Value.int 558 0, Value.int 176 0, Value.str (Str.ofString "/claim/cut.py") 559] }
noncomputable def tq279vv : Obj := foW (Value.type "function") (fdW (fdC 27 12) (Str.ofString "Cells.stack_put") 3 ([]) (Value.none) (Value.none) (Value.none) (Value.str (Str.ofString "clausemill.store") 415) (none) (Value.ref 278) (Value.none) 0)
noncomputable def tq280vv : Obj := { cls := Value.type "tuple", data := Data.seq #[] }
noncomputable def tq281vv : Obj := { cls := Value.none, data := Data.fields #[] }
noncomputable def tq282vv : Obj := { cls := Value.type "tuple", data := Data.seq #[Value.str (Str.ofString "self") 564, Value.str (Str.ofString "cell") 565] }
noncomputable def tq283vv : Obj := { cls := Value.type "tuple", data := Data.seq #[] }
noncomputable def tq284vv : Obj := foW (Value.none) (fdW (fdC 27 13) (Str.ofString "Cells.is_compound") 0 ([]) (Value.none) (Value.none) (Value.none) (Value.none) (none) (Value.none) (Value.none) 0)
noncomputable def tq285vv : Obj := { cls := Value.type "code", data := Data.fields #[Value.str (Str.ofString "is_compound") 561, Value.str (Str.ofString "Cells.is_compound") 562, Value.str (Str.ofString "/claim/cut.py") 563, Value.int 185 0, Value.int 2 0, Value.int 0 0, Value.int 0 0, Value.int 3 0, Value.ref 280, Value.bool true, Value.int 181 0, Value.ref 281, Value.none, Value.ref 282, Value.ref 283, Value.ref 284, Value.int 566 0, Value.int 185 0, Value.str (Str.ofString "/claim/cut.py") 567] }
noncomputable def tq286vv : Obj := foW (Value.type "function") (fdW (fdC 27 13) (Str.ofString "Cells.is_compound") 3 ([]) (Value.none) (Value.none) (Value.none) (Value.str (Str.ofString "clausemill.store") 415) (none) (Value.ref 285) (Value.none) 0)
noncomputable def tq287vv : Obj := { cls := Value.type "tuple", data := Data.seq #[] }
noncomputable def tq288vv : Obj := { cls := Value.none, data := Data.fields #[] }
noncomputable def tq289vv : Obj := { cls := Value.type "tuple", data := Data.seq #[Value.str (Str.ofString "self") 572, Value.str (Str.ofString "cell") 573, Value.str (Str.ofString "tag") 574] }
noncomputable def tq290vv : Obj := { cls := Value.type "tuple", data := Data.seq #[] }
noncomputable def tq291vv : Obj := foW (Value.none) (fdW (fdC 27 14) (Str.ofString "Cells.functor_of") 0 ([]) (Value.none) (Value.none) (Value.none) (Value.none) (none) (Value.none) (Value.none) 0)
noncomputable def tq292vv : Obj := { cls := Value.type "code", data := Data.fields #[Value.str (Str.ofString "functor_of") 569, Value.str (Str.ofString "Cells.functor_of") 570, Value.str (Str.ofString "/claim/cut.py") 571, Value.int 188 0, Value.int 2 0, Value.int 0 0, Value.int 0 0, Value.int 3 0, Value.ref 287, Value.bool true, Value.int 181 0, Value.ref 288, Value.none, Value.ref 289, Value.ref 290, Value.ref 291, Value.int 575 0, Value.int 188 0, Value.str (Str.ofString "/claim/cut.py") 576] }
noncomputable def tq293vv : Obj := foW (Value.type "function") (fdW (fdC 27 14) (Str.ofString "Cells.functor_of") 3 ([]) (Value.none) (Value.none) (Value.none) (Value.str (Str.ofString "clausemill.store") 415) (none) (Value.ref 292) (Value.none) 0)
noncomputable def tq294vv : Obj := { cls := Value.type "tuple", data := Data.seq #[] }
noncomputable def tq295vv : Obj := { cls := Value.none, data := Data.fields #[] }
noncomputable def tq296vv : Obj := { cls := Value.type "tuple", data := Data.seq #[Value.str (Str.ofString "self") 581, Value.str (Str.ofString "cell") 582] }
noncomputable def tq297vv : Obj := { cls := Value.type "tuple", data := Data.seq #[] }
noncomputable def tq298vv : Obj := foW (Value.none) (fdW (fdC 27 15) (Str.ofString "Cells.width") 0 ([]) (Value.none) (Value.none) (Value.none) (Value.none) (none) (Value.none) (Value.none) 0)
noncomputable def tq299vv : Obj := { cls := Value.type "code", data := Data.fields #[Value.str (Str.ofString "width") 578, Value.str (Str.ofString "Cells.width") 579, Value.str (Str.ofString "/claim/cut.py") 580, Value.int 198 0, Value.int 2 0, Value.int 0 0, Value.int 0 0, Value.int 3 0, Value.ref 294, Value.bool true, Value.int 181 0, Value.ref 295, Value.none, Value.ref 296, Value.ref 297, Value.ref 298, Value.int 583 0, Value.int 198 0, Value.str (Str.ofString "/claim/cut.py") 584] }
noncomputable def tq300vv : Obj := foW (Value.type "function") (fdW (fdC 27 15) (Str.ofString "Cells.width") 3 ([]) (Value.none) (Value.none) (Value.none) (Value.str (Str.ofString "clausemill.store") 415) (none) (Value.ref 299) (Value.none) 0)
noncomputable def tq301vv : Obj := { cls := Value.type "tuple", data := Data.seq #[] }
noncomputable def tq302vv : Obj := { cls := Value.none, data := Data.fields #[] }
noncomputable def tq303vv : Obj := { cls := Value.type "tuple", data := Data.seq #[Value.str (Str.ofString "self") 589, Value.str (Str.ofString "cell") 590] }
noncomputable def tq304vv : Obj := { cls := Value.type "tuple", data := Data.seq #[] }
noncomputable def tq305vv : Obj := foW (Value.none) (fdW (fdC 27 16) (Str.ofString "Cells.base") 0 ([]) (Value.none) (Value.none) (Value.none) (Value.none) (none) (Value.none) (Value.none) 0)
noncomputable def tq306vv : Obj := { cls := Value.type "code", data := Data.fields #[Value.str (Str.ofString "base") 586, Value.str (Str.ofString "Cells.base") 587, Value.str (Str.ofString "/claim/cut.py") 588, Value.int 201 0, Value.int 2 0, Value.int 0 0, Value.int 0 0, Value.int 3 0, Value.ref 301, Value.bool true, Value.int 181 0, Value.ref 302, Value.none, Value.ref 303, Value.ref 304, Value.ref 305, Value.int 591 0, Value.int 201 0, Value.str (Str.ofString "/claim/cut.py") 592] }
noncomputable def tq307vv : Obj := foW (Value.type "function") (fdW (fdC 27 16) (Str.ofString "Cells.base") 3 ([]) (Value.none) (Value.none) (Value.none) (Value.str (Str.ofString "clausemill.store") 415) (none) (Value.ref 306) (Value.none) 0)
noncomputable def tq308vv : Obj := { cls := Value.type "tuple", data := Data.seq #[] }
noncomputable def tq309vv : Obj := { cls := Value.none, data := Data.fields #[] }
noncomputable def tq310vv : Obj := { cls := Value.type "tuple", data := Data.seq #[Value.str (Str.ofString "self") 597, Value.str (Str.ofString "cell") 598, Value.str (Str.ofString "i") 599] }
noncomputable def tq311vv : Obj := { cls := Value.type "tuple", data := Data.seq #[] }
noncomputable def tq312vv : Obj := foW (Value.none) (fdW (fdC 27 17) (Str.ofString "Cells.arg") 0 ([]) (Value.none) (Value.none) (Value.none) (Value.none) (none) (Value.none) (Value.none) 0)
noncomputable def tq313vv : Obj := { cls := Value.type "code", data := Data.fields #[Value.str (Str.ofString "arg") 594, Value.str (Str.ofString "Cells.arg") 595, Value.str (Str.ofString "/claim/cut.py") 596, Value.int 206 0, Value.int 3 0, Value.int 0 0, Value.int 0 0, Value.int 3 0, Value.ref 308, Value.bool true, Value.int 181 0, Value.ref 309, Value.none, Value.ref 310, Value.ref 311, Value.ref 312, Value.int 600 0, Value.int 206 0, Value.str (Str.ofString "/claim/cut.py") 601] }
noncomputable def tq314vv : Obj := foW (Value.type "function") (fdW (fdC 27 17) (Str.ofString "Cells.arg") 3 ([]) (Value.none) (Value.none) (Value.none) (Value.str (Str.ofString "clausemill.store") 415) (none) (Value.ref 313) (Value.none) 0)
noncomputable def tq315vv : Obj := { cls := Value.type "tuple", data := Data.seq #[] }
noncomputable def tq316vv : Obj := { cls := Value.none, data := Data.fields #[] }
noncomputable def tq317vv : Obj := { cls := Value.type "tuple", data := Data.seq #[Value.str (Str.ofString "self") 606, Value.str (Str.ofString "f") 607, Value.str (Str.ofString "start") 608] }
noncomputable def tq318vv : Obj := { cls := Value.type "tuple", data := Data.seq #[] }
noncomputable def tq319vv : Obj := foW (Value.none) (fdW (fdC 27 18) (Str.ofString "Cells.new_block") 0 ([]) (Value.none) (Value.none) (Value.none) (Value.none) (none) (Value.none) (Value.none) 0)
noncomputable def tq320vv : Obj := { cls := Value.type "code", data := Data.fields #[Value.str (Str.ofString "new_block") 603, Value.str (Str.ofString "Cells.new_block") 604, Value.str (Str.ofString "/claim/cut.py") 605, Value.int 209 0, Value.int 2 0, Value.int 0 0, Value.int 0 0, Value.int 3 0, Value.ref 315, Value.bool true, Value.int 181 0, Value.ref 316, Value.none, Value.ref 317, Value.ref 318, Value.ref 319, Value.int 609 0, Value.int 209 0, Value.str (Str.ofString "/claim/cut.py") 610] }
noncomputable def tq321vv : Obj := foW (Value.type "function") (fdW (fdC 27 18) (Str.ofString "Cells.new_block") 3 ([]) (Value.none) (Value.none) (Value.none) (Value.str (Str.ofString "clausemill.store") 415) (none) (Value.ref 320) (Value.none) 0)
noncomputable def tq322vv : Obj := { cls := Value.type "tuple", data := Data.seq #[Value.str (Str.ofString "bb") 612, Value.str (Str.ofString "hb") 613, Value.str (Str.ofString "heap") 614, Value.str (Str.ofString "max_heap") 615, Value.str (Str.ofString "stack") 616, Value.str (Str.ofString "symbols") 617, Value.str (Str.ofString "trail") 618] }
noncomputable def tq323vv (P : Params) : Obj := { cls := Value.type "dict", data := Data.dict #[{ hash := PyData.keyHash P (Str.ofString "__module__"), key := Value.str (Str.ofString "__module__") 440, val := Value.str (Str.ofString "clausemill.store") 415 }, { hash := PyData.keyHash P (Str.ofString "__firstlineno__"), key := Value.str (Str.ofString "__firstlineno__") 444, val := Value.int 98 443 }, { hash := PyData.keyHash P (Str.ofString "__init__"), key := Value.str (Str.ofString "__init__") 454, val := Value.ref 195 }, { hash := PyData.keyHash P (Str.ofString "push"), key := Value.str (Str.ofString "push") 463, val := Value.ref 202 }, { hash := PyData.keyHash P (Str.ofString "new_var"), key := Value.str (Str.ofString "new_var") 471, val := Value.ref 209 }, { hash := PyData.keyHash P (Str.ofString "reserve"), key := Value.str (Str.ofString "reserve") 481, val := Value.ref 216 }, { hash := PyData.keyHash P (Str.ofString "trim"), key := Value.str (Str.ofString "trim") 489, val := Value.ref 223 }, { hash := PyData.keyHash P (Str.ofString "deref"), key := Value.str (Str.ofString "deref") 499, val := Value.ref 230 }, { hash := PyData.keyHash P (Str.ofString "is_unbound"), key := Value.str (Str.ofString "is_unbound") 507, val := Value.ref 237 }, { hash := PyData.keyHash P (Str.ofString "bind"), key := Value.str (Str.ofString "bind") 517, val := Value.ref 244 }, { hash := PyData.keyHash P (Str.ofString "bind_pair"), key := Value.str (Str.ofString "bind_pair") 526, val := Value.ref 251 }, { hash := PyData.keyHash P (Str.ofString "globalise"), key := Value.str (Str.ofString "globalise") 535, val := Value.ref 258 }, { hash := PyData.keyHash P (Str.ofString "mark"), key := Value.str (Str.ofString "mark") 542, val := Value.ref 265 }, { hash := PyData.keyHash P (Str.ofString "undo_to"), key := Value.str (Str.ofString "undo_to") 550, val := Value.ref 272 }, { hash := PyData.keyHash P (Str.ofString "stack_put"), key := Value.str (Str.ofString "stack_put") 560, val := Value.ref 279 }, { hash := PyData.keyHash P (Str.ofString "is_compound"), key := Value.str (Str.ofString "is_compound") 568, val := Value.ref 286 }, { hash := PyData.keyHash P (Str.ofString "functor_of"), key := Value.str (Str.ofString "functor_of") 577, val := Value.ref 293 }, { hash := PyData.keyHash P (Str.ofString "width"), key := Value.str (Str.ofString "width") 585, val := Value.ref 300 }, { hash := PyData.keyHash P (Str.ofString "base"), key := Value.str (Str.ofString "base") 593, val := Value.ref 307 }, { hash := PyData.keyHash P (Str.ofString "arg"), key := Value.str (Str.ofString "arg") 602, val := Value.ref 314 }, { hash := PyData.keyHash P (Str.ofString "new_block"), key := Value.str (Str.ofString "new_block") 611, val := Value.ref 321 }, { hash := PyData.keyHash P (Str.ofString "__static_attributes__"), key := Value.str (Str.ofString "__static_attributes__") 619, val := Value.ref 322 }, { hash := PyData.keyHash P (Str.ofString "__dict__"), key := Value.str (Str.ofString "__dict__") 621, val := Value.ref 325 }, { hash := PyData.keyHash P (Str.ofString "__weakref__"), key := Value.str (Str.ofString "__weakref__") 623, val := Value.ref 326 }, { hash := PyData.keyHash P (Str.ofString "__doc__"), key := Value.str (Str.ofString "__doc__") 624, val := Value.none }] 4 }
noncomputable def tq324vv : Obj := { cls := Value.type "type", data := Data.cls { name := Str.ofString "Cells", bases := [Value.type "object"], mro := [Value.ref 324, Value.type "object"], ns := 323, qualname := Str.ofString "Cells" }, slots := #[none, none, some (Value.str (Str.ofString "Cells") 433), some (Value.str (Str.ofString "Cells") 441), some (Value.builtin "object.__new__"), some (Value.bool true)] }
noncomputable def tq325vv : Obj := { cls := Value.type "getset_descriptor", data := Data.fields #[Value.str (Str.ofString "__dict__") 620, Value.ref 324, Value.builtin "function.__dict__", Value.builtin "function.__dict__#set"] }
noncomputable def tq326vv : Obj := { cls := Value.type "getset_descriptor", data := Data.fields #[Value.str (Str.ofString "__weakref__") 622, Value.ref 324, Value.builtin "ExceptionGroup.__weakref__", Value.none] }
noncomputable def tq327vv : Obj := { cls := Value.type "super", data := Data.fields #[Value.ref 324, Value.ref 324, Value.ref 324] }
noncomputable def tq328vv : Obj := { cls := Value.type "builtin_function_or_method", data := Data.fields #[Value.builtin "object.__init_subclass__", Value.ref 324] }
noncomputable def topT28 (P : Params) : BT := (.node (boot_o_0 P) (.node (boot_o_1 P) (.node (tq3vv P) (.node (boot_o_7 P) (.node tq15 (.node tq31 (.node tq63 (.node tq127v (.node tq255vv .nil .nil) .nil) (.node tq191vv (.node tq319vv .nil .nil) .nil)) (.node tq95v (.node tq159v (.node tq287vv .nil .nil) .nil) (.node tq223vv .nil .nil))) (.node tq47 (.node tq79v (.node tq143v (.node tq271vv .nil .nil) .nil) (.node tq207vv .nil .nil)) (.node tq111v (.node tq175v (.node tq303vv .nil .nil) .nil) (.node tq239vv .nil .nil)))) (.node tq23 (.node tq39 (.node tq71v (.node tq135v (.node tq263vv .nil .nil) .nil) (.node tq199vv (.node tq327vv .nil .nil) .nil)) (.node tq103v (.node tq167v (.node tq295vv .nil .nil) .nil) (.node tq231vv .nil .nil))) (.node tq55 (.node tq87v (.node tq151v (.node tq279vv .nil .nil) .nil) (.node tq215vv .nil .nil)) (.node tq119v (.node (tq183vv P) (.node tq311vv .nil .nil) .nil) (.node tq247vv .nil .nil))))) (.node topO11 (.node tq19 (.node tq35 (.node tq67 (.node tq131v (.node tq259vv .nil .nil) .nil) (.node tq195vv (.node (tq323vv P) .nil .nil) .nil)) (.node tq99v (.node tq163v (.node tq291vv .nil .nil) .nil) (.node tq227vv .nil .nil))) (.node tq51 (.node tq83v (.node tq147v (.node tq275vv .nil .nil) .nil) (.node tq211vv .nil .nil)) (.node tq115v (.node tq179v (.node tq307vv .nil .nil) .nil) (.node tq243vv .nil .nil)))) (.node tq27 (.node tq43 (.node tq75v (.node tq139v (.node tq267vv .nil .nil) .nil) (.node tq203vv .nil .nil)) (.node tq107v (.node tq171v (.node tq299vv .nil .nil) .nil) (.node tq235vv .nil .nil))) (.node tq59 (.node tq91v (.node tq155v (.node tq283vv .nil .nil) .nil) (.node tq219vv .nil .nil)) (.node tq123v (.node tq187vv (.node tq315vv .nil .nil) .nil) (.node tq251vv .nil .nil)))))) (.node (boot_o_5 P) (.node (boot_o_9 P) (.node tq17 (.node tq33 (.node tq65 (.node tq129v (.node tq257vv .nil .nil) .nil) (.node tq193vv (.node tq321vv .nil .nil) .nil)) (.node tq97v (.node tq161v (.node tq289vv .nil .nil) .nil) (.node tq225vv .nil .nil))) (.node tq49 (.node tq81v (.node tq145v (.node tq273vv .nil .nil) .nil) (.node tq209vv .nil .nil)) (.node tq113v (.node tq177v (.node tq305vv .nil .nil) .nil) (.node tq241vv .nil .nil)))) (.node tq25 (.node tq41 (.node tq73v (.node tq137v (.node tq265vv .nil .nil) .nil) (.node tq201vv .nil .nil)) (.node tq105v (.node tq169v (.node tq297vv .nil .nil) .nil) (.node tq233vv .nil .nil))) (.node tq57 (.node tq89v (.node (tq153v P) (.node tq281vv .nil .nil) .nil) (.node tq217vv .nil .nil)) (.node tq121v (.node tq185vv (.node tq313vv .nil .nil) .nil) (.node tq249vv .nil .nil))))) (.node topO13 (.node tq21 (.node (tq37 P) (.node tq69v (.node tq133v (.node tq261vv .nil .nil) .nil) (.node tq197vv (.node tq325vv .nil .nil) .nil)) (.node tq101v (.node tq165v (.node tq293vv .nil .nil) .nil) (.node tq229vv .nil .nil))) (.node tq53 (.node tq85v (.node tq149v (.node tq277vv .nil .nil) .nil) (.node tq213vv .nil .nil)) (.node tq117v (.node tq181vv (.node tq309vv .nil .nil) .nil) (.node tq245vv .nil .nil)))) (.node tq29 (.node tq45 (.node tq77v (.node tq141v (.node tq269vv .nil .nil) .nil) (.node tq205vv .nil .nil)) (.node tq109v (.node tq173v (.node tq301vv .nil .nil) .nil) (.node tq237vv .nil .nil))) (.node tq61 (.node tq93v (.node tq157v (.node tq285vv .nil .nil) .nil) (.node tq221vv .nil .nil)) (.node tq125v (.node tq189vv (.node tq317vv .nil .nil) .nil) (.node tq253vv .nil .nil))))))) (.node (tq2 P) (.node (boot_o_4 P) (.node (boot_o_8 P) (.node tq16 (.node tq32 (.node tq64 (.node tq128v (.node tq256vv .nil .nil) .nil) (.node tq192vv (.node tq320vv .nil .nil) .nil)) (.node tq96v (.node tq160v (.node tq288vv .nil .nil) .nil) (.node tq224vv .nil .nil))) (.node tq48 (.node tq80v (.node tq144v (.node tq272vv .nil .nil) .nil) (.node tq208vv .nil .nil)) (.node tq112v (.node tq176v (.node tq304vv .nil .nil) .nil) (.node tq240vv .nil .nil)))) (.node (tq24 P) (.node tq40 (.node tq72v (.node tq136v (.node tq264vv .nil .nil) .nil) (.node tq200vv (.node tq328vv .nil .nil) .nil)) (.node tq104v (.node tq168v (.node tq296vv .nil .nil) .nil) (.node tq232vv .nil .nil))) (.node tq56 (.node tq88v (.node tq152v (.node tq280vv .nil .nil) .nil) (.node tq216vv .nil .nil)) (.node tq120v (.node tq184vv (.node tq312vv .nil .nil) .nil) (.node tq248vv .nil .nil))))) (.node tq12vv (.node tq20 (.node tq36 (.node tq68v (.node tq132v (.node tq260vv .nil .nil) .nil) (.node tq196vv (.node tq324vv .nil .nil) .nil)) (.node tq100v (.node tq164v (.node tq292vv .nil .nil) .nil) (.node tq228vv .nil .nil))) (.node tq52 (.node tq84v (.node tq148v (.node tq276vv .nil .nil) .nil) (.node tq212vv .nil .nil)) (.node tq116v (.node tq180v (.node tq308vv .nil .nil) .nil) (.node tq244vv .nil .nil)))) (.node tq28 (.node tq44 (.node tq76v (.node tq140v (.node tq268vv .nil .nil) .nil) (.node tq204vv .nil .nil)) (.node tq108v (.node tq172v (.node tq300vv .nil .nil) .nil) (.node tq236vv .nil .nil))) (.node tq60 (.node tq92v (.node tq156v (.node tq284vv .nil .nil) .nil) (.node tq220vv .nil .nil)) (.node tq124v (.node tq188vv (.node tq316vv .nil .nil) .nil) (.node tq252vv .nil .nil)))))) (.node (boot_o_6 P) (.node (boot_o_10 P) (.node tq18 (.node tq34 (.node tq66 (.node tq130v (.node tq258vv .nil .nil) .nil) (.node tq194vv (.node tq322vv .nil .nil) .nil)) (.node tq98v (.node tq162v (.node tq290vv .nil .nil) .nil) (.node tq226vv .nil .nil))) (.node (tq50 P) (.node tq82v (.node tq146v (.node tq274vv .nil .nil) .nil) (.node tq210vv .nil .nil)) (.node tq114v (.node tq178v (.node tq306vv .nil .nil) .nil) (.node tq242vv .nil .nil)))) (.node tq26 (.node tq42 (.node tq74v (.node tq138v (.node tq266vv .nil .nil) .nil) (.node tq202vv .nil .nil)) (.node tq106v (.node tq170v (.node tq298vv .nil .nil) .nil) (.node tq234vv .nil .nil))) (.node tq58 (.node tq90v (.node tq154v (.node tq282vv .nil .nil) .nil) (.node tq218vv .nil .nil)) (.node tq122v (.node tq186vv (.node tq314vv .nil .nil) .nil) (.node tq250vv .nil .nil))))) (.node topO14 (.node tq22 (.node tq38 (.node (tq70v P) (.node tq134v (.node tq262vv .nil .nil) .nil) (.node tq198vv (.node tq326vv .nil .nil) .nil)) (.node tq102v (.node tq166v (.node tq294vv .nil .nil) .nil) (.node tq230vv .nil .nil))) (.node tq54 (.node tq86v (.node tq150v (.node tq278vv .nil .nil) .nil) (.node tq214vv .nil .nil)) (.node tq118v (.node tq182vv (.node tq310vv .nil .nil) .nil) (.node tq246vv .nil .nil)))) (.node (tq30 P) (.node tq46 (.node tq78v (.node tq142v (.node tq270vv .nil .nil) .nil) (.node tq206vv .nil .nil)) (.node tq110v (.node tq174v (.node tq302vv .nil .nil) .nil) (.node tq238vv .nil .nil))) (.node tq62 (.node tq94v (.node tq158v (.node tq286vv .nil .nil) .nil) (.node tq222vv .nil .nil)) (.node tq126v (.node tq190vv (.node tq318vv .nil .nil) .nil) (.node tq254vv .nil .nil))))))))
noncomputable def topS28 (w : World) (os : OsState) : SharedT := SharedT.mk (topT28 w.params) 329 ({ }) #[] ({ }) 627 os
@[reducible] noncomputable def topZ_28 : Pos := { line := 98, col := 0, endLine := 214, endCol := 27 }
noncomputable def tq3vvv (P : Params) : Obj := { cls := Value.type "dict", data := Data.dict #[{ hash := PyData.keyHash P (Str.ofString "__name__"), key := Value.str (Str.ofString "__name__") 165, val := Value.str (Str.ofString "law_no0174_01") 748 }, { hash := PyData.keyHash P (Str.ofString "__doc__"), key := Value.str (Str.ofString "__doc__") 166, val := Value.none }, { hash := PyData.keyHash P (Str.ofString "__package__"), key := Value.str (Str.ofString "__package__") 167, val := Value.none }, { hash := PyData.keyHash P (Str.ofString "__loader__"), key := Value.str (Str.ofString "__loader__") 168, val := Value.builtin "__main__.__loader__#opaque" }, { hash := PyData.keyHash P (Str.ofString "__spec__"), key := Value.str (Str.ofString "__spec__") 169, val := Value.none }, { hash := PyData.keyHash P (Str.ofString "__annotations__"), key := Value.str (Str.ofString "__annotations__") 170, val := Value.ref 6 }, { hash := PyData.keyHash P (Str.ofString "__builtins__"), key := Value.str (Str.ofString "__builtins__") 171, val := Value.ref 4 }, { hash := PyData.keyHash P (Str.ofString "__file__"), key := Value.str (Str.ofString "__file__") 173, val := Value.str (Str.ofString "/claim/cut.py") 172 }, { hash := PyData.keyHash P (Str.ofString "__cached__"), key := Value.str (Str.ofString "__cached__") 174, val := Value.none }, { hash := PyData.keyHash P (Str.ofString "_wall"), key := Value.str (Str.ofString "_wall") 193, val := Value.ref 21 }, { hash := PyData.keyHash P (Str.ofString "ClausemillError"), key := Value.str (Str.ofString "ClausemillError") 215, val := Value.ref 31 }, { hash := PyData.keyHash P (Str.ofString "PrologError"), key := Value.str (Str.ofString "PrologError") 240, val := Value.ref 51 }, { hash := PyData.keyHash P (Str.ofString "A_NIL"), key := Value.str (Str.ofString "A_NIL") 242, val := Value.int 0 241 }, { hash := PyData.keyHash P (Str.ofString "A_PLUS"), key := Value.str (Str.ofString "A_PLUS") 244, val := Value.int 4 243 }, { hash := PyData.keyHash P (Str.ofString "A_SYSTEM"), key := Value.str (Str.ofString "A_SYSTEM") 246, val := Value.int 25 245 }, { hash := PyData.keyHash P (Str.ofString "F_DOT"), key := Value.str (Str.ofString "F_DOT") 248, val := Value.int 0 247 }, { hash := PyData.keyHash P (Str.ofString "F_MINUS1"), key := Value.str (Str.ofString "F_MINUS1") 250, val := Value.int 12 249 }, { hash := PyData.keyHash P (Str.ofString "F_MINUS"), key := Value.str (Str.ofString "F_MINUS") 252, val := Value.int 13 251 }, { hash := PyData.keyHash P (Str.ofString "F_ERROR"), key := Value.str (Str.ofString "F_ERROR") 254, val := Value.int 16 253 }, { hash := PyData.keyHash P (Str.ofString "fixed_atoms"), key := Value.str (Str.ofString "fixed_atoms") 260, val := Value.ref 60 }, { hash := PyData.keyHash P (Str.ofString "fixed_functors"), key := Value.str (Str.ofString "fixed_functors") 266, val := Value.ref 67 }, { hash := PyData.keyHash P (Str.ofString "Symbols"), key := Value.str (Str.ofString "Symbols") 386, val := Value.ref 154 }, { hash := PyData.keyHash P (Str.ofString "system_error"), key := Value.str (Str.ofString "system_error") 395, val := Value.ref 165 }, { hash := PyData.keyHash P (Str.ofString "formal_of"), key := Value.str (Str.ofString "formal_of") 406, val := Value.ref 172 }, { hash := PyData.keyHash P (Str.ofString "resource_error"), key := Value.str (Str.ofString "resource_error") 414, val := Value.ref 179 }, { hash := PyData.keyHash P (Str.ofString "REF"), key := Value.str (Str.ofString "REF") 418, val := Value.int 0 417 }, { hash := PyData.keyHash P (Str.ofString "SRF"), key := Value.str (Str.ofString "SRF") 420, val := Value.int 1 419 }, { hash := PyData.keyHash P (Str.ofString "STR"), key := Value.str (Str.ofString "STR") 422, val := Value.int 2 421 }, { hash := PyData.keyHash P (Str.ofString "LIS"), key := Value.str (Str.ofString "LIS") 424, val := Value.int 3 423 }, { hash := PyData.keyHash P (Str.ofString "CON"), key := Value.str (Str.ofString "CON") 426, val := Value.int 4 425 }, { hash := PyData.keyHash P (Str.ofString "INT"), key := Value.str (Str.ofString "INT") 428, val := Value.int 5 427 }, { hash := PyData.keyHash P (Str.ofString "FUN"), key := Value.str (Str.ofString "FUN") 430, val := Value.int 6 429 }, { hash := PyData.keyHash P (Str.ofString "VOID"), key := Value.str (Str.ofString "VOID") 432, val := Value.ref 180 }, { hash := PyData.keyHash P (Str.ofString "Cells"), key := Value.str (Str.ofString "Cells") 626, val := Value.ref 324 }, { hash := PyData.keyHash P (Str.ofString "Store"), key := Value.str (Str.ofString "Store") 695, val := Value.ref 374 }, { hash := PyData.keyHash P (Str.ofString "VAR_KEY"), key := Value.str (Str.ofString "VAR_KEY") 699, val := Value.ref 377 }, { hash := PyData.keyHash P (Str.ofString "LIST_KEY"), key := Value.str (Str.ofString "LIST_KEY") 701, val := Value.ref 378 }, { hash := PyData.keyHash P (Str.ofString "const_key"), key := Value.str (Str.ofString "const_key") 708, val := Value.ref 385 }, { hash := PyData.keyHash P (Str.ofString "struct_key"), key := Value.str (Str.ofString "struct_key") 715, val := Value.ref 392 }, { hash := PyData.keyHash P (Str.ofString "matching"), key := Value.str (Str.ofString "matching") 723, val := Value.ref 399 }, { hash := PyData.keyHash P (Str.ofString "first_key"), key := Value.str (Str.ofString "first_key") 732, val := Value.ref 406 }, { hash := PyData.keyHash P (Str.ofString "term_key"), key := Value.str (Str.ofString "term_key") 740, val := Value.ref 413 }, { hash := PyData.keyHash P (Str.ofString "head_key"), key := Value.str (Str.ofString "head_key") 747, val := Value.ref 420 }, { hash := PyData.keyHash P (Str.ofString "_law_row"), key := Value.str (Str.ofString "_law_row") 760, val := Value.ref 427 }, { hash := PyData.keyHash P (Str.ofString "_law_next"), key := Value.str (Str.ofString "_law_next") 767, val := Value.ref 434 }, { hash := PyData.keyHash P (Str.ofString "_law_term"), key := Value.str (Str.ofString "_law_term") 777, val := Value.ref 441 }, { hash := PyData.keyHash P (Str.ofString "_law_key"), key := Value.str (Str.ofString "_law_key") 784, val := Value.ref 448 }, { hash := PyData.keyHash P (Str.ofString "law"), key := Value.str (Str.ofString "law") 790, val := Value.ref 453 }] 48 }
noncomputable def tq12vvv : Obj := { cls := Value.none, data := Data.fields #[Value.int 1 0, Value.int 0 0, Value.ref 20, Value.int 5 0, Value.int 0 0, Value.ref 27, Value.int 7 0, Value.int 0 0, Value.ref 40, Value.int 18 0, Value.int 0 0, Value.ref 59, Value.int 20 0, Value.int 0 0, Value.ref 66, Value.int 22 0, Value.int 0 0, Value.ref 73, Value.int 80 0, Value.int 0 0, Value.ref 164, Value.int 82 0, Value.int 0 0, Value.ref 171, Value.int 87 0, Value.int 0 0, Value.ref 178, Value.int 98 0, Value.int 0 0, Value.ref 186, Value.int 215 0, Value.int 0 0, Value.ref 334, Value.int 268 0, Value.int 0 0, Value.ref 384, Value.int 270 0, Value.int 0 0, Value.ref 391, Value.int 272 0, Value.int 0 0, Value.ref 398, Value.int 276 0, Value.int 0 0, Value.ref 405, Value.int 286 0, Value.int 0 0, Value.ref 412, Value.int 297 0, Value.int 0 0, Value.ref 419, Value.int 302 0, Value.int 0 0, Value.ref 426, Value.int 315 0, Value.int 0 0, Value.ref 433, Value.int 317 0, Value.int 0 0, Value.ref 440, Value.int 329 0, Value.int 0 0, Value.ref 447, Value.int 335 0, Value.int 0 0, Value.ref 452] }
noncomputable def tq324vvv : Obj := { cls := Value.type "type", data := Data.cls { name := Str.ofString "Cells", bases := [Value.type "object"], mro := [Value.ref 324, Value.type "object"], ns := 323, qualname := Str.ofString "Cells", subclasses := [Value.ref 374] }, slots := #[none, none, some (Value.str (Str.ofString "Cells") 433), some (Value.str (Str.ofString "Cells") 441), some (Value.builtin "object.__new__"), some (Value.bool true)] }
noncomputable def tq329vvv : Obj := { cls := Value.type "tuple", data := Data.seq #[Value.ref 324] }
noncomputable def tq330vvv : Obj := { cls := Value.type "builtin_function_or_method", data := Data.fields #[Value.builtin "type.__prepare__", Value.type "type"] }
noncomputable def tq331vvv (P : Params) : Obj := { cls := Value.type "dict", data := Data.dict #[{ hash := PyData.keyHash P (Str.ofString "__module__"), key := Value.str (Str.ofString "__module__") 634, val := Value.str (Str.ofString "clausemill.store") 415 }, { hash := PyData.keyHash P (Str.ofString "__qualname__"), key := Value.str (Str.ofString "__qualname__") 636, val := Value.str (Str.ofString "Store") 635 }, { hash := PyData.keyHash P (Str.ofString "__firstlineno__"), key := Value.str (Str.ofString "__firstlineno__") 638, val := Value.int 215 637 }, { hash := PyData.keyHash P (Str.ofString "new_struct"), key := Value.str (Str.ofString "new_struct") 647, val := Value.ref 342 }, { hash := PyData.keyHash P (Str.ofString "build_list"), key := Value.str (Str.ofString "build_list") 656, val := Value.ref 350 }, { hash := PyData.keyHash P (Str.ofString "list_cells"), key := Value.str (Str.ofString "list_cells") 664, val := Value.ref 357 }, { hash := PyData.keyHash P (Str.ofString "put_term"), key := Value.str (Str.ofString "put_term") 682, val := Value.ref 364 }, { hash := PyData.keyHash P (Str.ofString "take_term"), key := Value.str (Str.ofString "take_term") 691, val := Value.ref 371 }, { hash := PyData.keyHash P (Str.ofString "__static_attributes__"), key := Value.str (Str.ofString "__static_attributes__") 692, val := Value.ref 372 }] 9 }
noncomputable def tq332vvv : Obj := { cls := Value.type "tuple", data := Data.seq #[] }
noncomputable def tq333vvv : Obj := { cls := Value.none, data := Data.fields #[Value.int 217 0, Value.int 4 0, Value.ref 341, Value.int 220 0, Value.int 4 0, Value.ref 349, Value.int 223 0, Value.int 4 0, Value.ref 356, Value.int 226 0, Value.int 4 0, Value.ref 363, Value.int 263 0, Value.int 4 0, Value.ref 370] }
noncomputable def tq334vvv : Obj := { cls := Value.type "code", data := Data.fields #[Value.str (Str.ofString "Store") 629, Value.str (Str.ofString "Store") 630, Value.str (Str.ofString "/claim/cut.py") 631, Value.int 215 0, Value.int 0 0, Value.int 0 0, Value.int 0 0, Value.int 0 0, Value.ref 332, Value.bool false, Value.int 181 0, Value.ref 333, Value.none, Value.none, Value.none, Value.none, Value.int 632 0, Value.int 215 0, Value.str (Str.ofString "/claim/cut.py") 633] }
noncomputable def tq335vvv : Obj := { cls := Value.type "frame", slots := #[some (Value.ref 334), some (Value.ref 3), some (Value.ref 331), none, some (Value.str (Str.ofString "clausemill.store") 415), none, some (Value.ref 0)] }
noncomputable def tq336vvv : Obj := { cls := Value.type "tuple", data := Data.seq #[] }
noncomputable def tq337vvv : Obj := { cls := Value.none, data := Data.fields #[] }
noncomputable def tq338vvv : Obj := { cls := Value.type "tuple", data := Data.seq #[Value.str (Str.ofString "self") 642, Value.str (Str.ofString "f") 643, Value.str (Str.ofString "cells") 644] }
noncomputable def tq339vvv : Obj := { cls := Value.type "tuple", data := Data.seq #[] }
noncomputable def tq340vvv : Obj := foW (Value.none) (fdW (fdC 28 0) (Str.ofString "Store.new_struct") 0 ([]) (Value.none) (Value.none) (Value.none) (Value.none) (none) (Value.none) (Value.none) 0)
noncomputable def tq341vvv : Obj := { cls := Value.type "code", data := Data.fields #[Value.str (Str.ofString "new_struct") 639, Value.str (Str.ofString "Store.new_struct") 640, Value.str (Str.ofString "/claim/cut.py") 641, Value.int 217 0, Value.int 3 0, Value.int 0 0, Value.int 0 0, Value.int 3 0, Value.ref 336, Value.bool true, Value.int 181 0, Value.ref 337, Value.none, Value.ref 338, Value.ref 339, Value.ref 340, Value.int 645 0, Value.int 217 0, Value.str (Str.ofString "/claim/cut.py") 646] }
noncomputable def tq342vvv : Obj := foW (Value.type "function") (fdW (fdC 28 0) (Str.ofString "Store.new_struct") 3 ([]) (Value.none) (Value.none) (Value.none) (Value.str (Str.ofString "clausemill.store") 415) (none) (Value.ref 341) (Value.none) 0)
noncomputable def tq343vvv : Obj := { cls := Value.type "tuple", data := Data.seq #[Value.none] }
noncomputable def tq344vvv : Obj := { cls := Value.type "tuple", data := Data.seq #[] }
noncomputable def tq345vvv : Obj := { cls := Value.none, data := Data.fields #[] }
noncomputable def tq346vvv : Obj := { cls := Value.type "tuple", data := Data.seq #[Value.str (Str.ofString "self") 651, Value.str (Str.ofString "cells") 652, Value.str (Str.ofString "tail") 653] }
noncomputable def tq347vvv : Obj := { cls := Value.type "tuple", data := Data.seq #[] }
noncomputable def tq348vvv : Obj := foW (Value.none) (fdW (fdC 28 1) (Str.ofString "Store.build_list") 0 ([]) (Value.none) (Value.none) (Value.none) (Value.none) (none) (Value.none) (Value.none) 0)
noncomputable def tq349vvv : Obj := { cls := Value.type "code", data := Data.fields #[Value.str (Str.ofString "build_list") 648, Value.str (Str.ofString "Store.build_list") 649, Value.str (Str.ofString "/claim/cut.py") 650, Value.int 220 0, Value.int 3 0, Value.int 0 0, Value.int 0 0, Value.int 3 0, Value.ref 344, Value.bool true, Value.int 181 0, Value.ref 345, Value.none, Value.ref 346, Value.ref 347, Value.ref 348, Value.int 654 0, Value.int 220 0, Value.str (Str.ofString "/claim/cut.py") 655] }
noncomputable def tq350vvv : Obj := foW (Value.type "function") (fdW (fdC 28 1) (Str.ofString "Store.build_list") 3 ([]) (Value.ref 343) (Value.none) (Value.none) (Value.str (Str.ofString "clausemill.store") 415) (none) (Value.ref 349) (Value.none) 0)
noncomputable def tq351vvv : Obj := { cls := Value.type "tuple", data := Data.seq #[] }
noncomputable def tq352vvv : Obj := { cls := Value.none, data := Data.fields #[] }
noncomputable def tq353vvv : Obj := { cls := Value.type "tuple", data := Data.seq #[Value.str (Str.ofString "self") 660, Value.str (Str.ofString "cell") 661] }
noncomputable def tq354vvv : Obj := { cls := Value.type "tuple", data := Data.seq #[] }
noncomputable def tq355vvv : Obj := foW (Value.none) (fdW (fdC 28 2) (Str.ofString "Store.list_cells") 0 ([]) (Value.none) (Value.none) (Value.none) (Value.none) (none) (Value.none) (Value.none) 0)
noncomputable def tq356vvv : Obj := { cls := Value.type "code", data := Data.fields #[Value.str (Str.ofString "list_cells") 657, Value.str (Str.ofString "Store.list_cells") 658, Value.str (Str.ofString "/claim/cut.py") 659, Value.int 223 0, Value.int 2 0, Value.int 0 0, Value.int 0 0, Value.int 3 0, Value.ref 351, Value.bool true, Value.int 181 0, Value.ref 352, Value.none, Value.ref 353, Value.ref 354, Value.ref 355, Value.int 662 0, Value.int 223 0, Value.str (Str.ofString "/claim/cut.py") 663] }
noncomputable def tq357vvv : Obj := foW (Value.type "function") (fdW (fdC 28 2) (Str.ofString "Store.list_cells") 3 ([]) (Value.none) (Value.none) (Value.none) (Value.str (Str.ofString "clausemill.store") 415) (none) (Value.ref 356) (Value.none) 0)
noncomputable def tq358vvv : Obj := { cls := Value.type "tuple", data := Data.seq #[] }
noncomputable def tq359vvv : Obj := { cls := Value.none, data := Data.fields #[] }
noncomputable def tq360vvv : Obj := { cls := Value.type "tuple", data := Data.seq #[Value.str (Str.ofString "self") 668, Value.str (Str.ofString "term") 669, Value.str (Str.ofString "table") 670, Value.str (Str.ofString "k") 671, Value.str (Str.ofString "kind") 672, Value.str (Str.ofString "made") 673, Value.str (Str.ofString "waiting") 674, Value.str (Str.ofString "at") 675, Value.str (Str.ofString "place") 676, Value.str (Str.ofString "items") 677, Value.str (Str.ofString "item") 678, Value.str (Str.ofString "inner") 679] }
noncomputable def tq361vvv : Obj := { cls := Value.type "tuple", data := Data.seq #[] }
noncomputable def tq362vvv : Obj := foW (Value.none) (fdW (fdC 28 3) (Str.ofString "Store.put_term") 0 ([]) (Value.none) (Value.none) (Value.none) (Value.none) (none) (Value.none) (Value.none) 0)
noncomputable def tq363vvv : Obj := { cls := Value.type "code", data := Data.fields #[Value.str (Str.ofString "put_term") 665, Value.str (Str.ofString "Store.put_term") 666, Value.str (Str.ofString "/claim/cut.py") 667, Value.int 226 0, Value.int 3 0, Value.int 0 0, Value.int 0 0, Value.int 3 0, Value.ref 358, Value.bool true, Value.int 181 0, Value.ref 359, Value.none, Value.ref 360, Value.ref 361, Value.ref 362, Value.int 680 0, Value.int 226 0, Value.str (Str.ofString "/claim/cut.py") 681] }
noncomputable def tq364vvv : Obj := foW (Value.type "function") (fdW (fdC 28 3) (Str.ofString "Store.put_term") 3 ([]) (Value.none) (Value.none) (Value.none) (Value.str (Str.ofString "clausemill.store") 415) (none) (Value.ref 363) (Value.none) 0)
noncomputable def tq365vvv : Obj := { cls := Value.type "tuple", data := Data.seq #[] }
noncomputable def tq366vvv : Obj := { cls := Value.none, data := Data.fields #[] }
noncomputable def tq367vvv : Obj := { cls := Value.type "tuple", data := Data.seq #[Value.str (Str.ofString "self") 686, Value.str (Str.ofString "cell") 687, Value.str (Str.ofString "table") 688] }
noncomputable def tq368vvv : Obj := { cls := Value.type "tuple", data := Data.seq #[] }
noncomputable def tq369vvv : Obj := foW (Value.none) (fdW (fdC 28 4) (Str.ofString "Store.take_term") 0 ([]) (Value.none) (Value.none) (Value.none) (Value.none) (none) (Value.none) (Value.none) 0)
noncomputable def tq370vvv : Obj := { cls := Value.type "code", data := Data.fields #[Value.str (Str.ofString "take_term") 683, Value.str (Str.ofString "Store.take_term") 684, Value.str (Str.ofString "/claim/cut.py") 685, Value.int 263 0, Value.int 3 0, Value.int 0 0, Value.int 0 0, Value.int 3 0, Value.ref 365, Value.bool true, Value.int 181 0, Value.ref 366, Value.none, Value.ref 367, Value.ref 368, Value.ref 369, Value.int 689 0, Value.int 263 0, Value.str (Str.ofString "/claim/cut.py") 690] }
noncomputable def tq371vvv : Obj := foW (Value.type "function") (fdW (fdC 28 4) (Str.ofString "Store.take_term") 3 ([]) (Value.none) (Value.none) (Value.none) (Value.str (Str.ofString "clausemill.store") 415) (none) (Value.ref 370) (Value.none) 0)
noncomputable def tq372vvv : Obj := { cls := Value.type "tuple", data := Data.seq #[] }
noncomputable def tq373vvv (P : Params) : Obj := { cls := Value.type "dict", data := Data.dict #[{ hash := PyData.keyHash P (Str.ofString "__module__"), key := Value.str (Str.ofString "__module__") 634, val := Value.str (Str.ofString "clausemill.store") 415 }, { hash := PyData.keyHash P (Str.ofString "__firstlineno__"), key := Value.str (Str.ofString "__firstlineno__") 638, val := Value.int 215 637 }, { hash := PyData.keyHash P (Str.ofString "new_struct"), key := Value.str (Str.ofString "new_struct") 647, val := Value.ref 342 }, { hash := PyData.keyHash P (Str.ofString "build_list"), key := Value.str (Str.ofString "build_list") 656, val := Value.ref 350 }, { hash := PyData.keyHash P (Str.ofString "list_cells"), key := Value.str (Str.ofString "list_cells") 664, val := Value.ref 357 }, { hash := PyData.keyHash P (Str.ofString "put_term"), key := Value.str (Str.ofString "put_term") 682, val := Value.ref 364 }, { hash := PyData.keyHash P (Str.ofString "take_term"), key := Value.str (Str.ofString "take_term") 691, val := Value.ref 371 }, { hash := PyData.keyHash P (Str.ofString "__static_attributes__"), key := Value.str (Str.ofString "__static_attributes__") 692, val := Value.ref 372 }, { hash := PyData.keyHash P (Str.ofString "__doc__"), key := Value.str (Str.ofString "__doc__") 693, val := Value.none }] 2 }
noncomputable def tq374vvv : Obj := { cls := Value.type "type", data := Data.cls { name := Str.ofString "Store", bases := [Value.ref 324], mro := [Value.ref 374, Value.ref 324, Value.type "object"], ns := 373, qualname := Str.ofString "Store" }, slots := #[some (Value.ref 329), none, some (Value.str (Str.ofString "Store") 627), some (Value.str (Str.ofString "Store") 635), some (Value.builtin "object.__new__"), some (Value.bool true)] }
noncomputable def tq375vvv : Obj := { cls := Value.type "super", data := Data.fields #[Value.ref 374, Value.ref 374, Value.ref 374] }
noncomputable def tq376vvv : Obj := { cls := Value.type "builtin_function_or_method", data := Data.fields #[Value.builtin "object.__init_subclass__", Value.ref 374] }
noncomputable def tq377vvv : Obj := { cls := Value.type "tuple", data := Data.seq #[Value.str (Str.ofString "var") 698] }
noncomputable def tq378vvv : Obj := { cls := Value.type "tuple", data := Data.seq #[Value.str (Str.ofString "list") 700] }
noncomputable def tq379vvv : Obj := { cls := Value.type "tuple", data := Data.seq #[] }
noncomputable def tq380vvv : Obj := { cls := Value.none, data := Data.fields #[] }
noncomputable def tq381vvv : Obj := { cls := Value.type "tuple", data := Data.seq #[Value.str (Str.ofString "cell") 705] }
noncomputable def tq382vvv : Obj := { cls := Value.type "tuple", data := Data.seq #[] }
noncomputable def tq383vvv : Obj := foW (Value.none) (fdW (fdT 32) (Str.ofString "const_key") 0 ([]) (Value.none) (Value.none) (Value.none) (Value.none) (none) (Value.none) (Value.none) 0)
noncomputable def tq384vvv : Obj := { cls := Value.type "code", data := Data.fields #[Value.str (Str.ofString "const_key") 702, Value.str (Str.ofString "const_key") 703, Value.str (Str.ofString "/claim/cut.py") 704, Value.int 268 0, Value.int 1 0, Value.int 0 0, Value.int 0 0, Value.int 3 0, Value.ref 379, Value.bool true, Value.int 181 0, Value.ref 380, Value.none, Value.ref 381, Value.ref 382, Value.ref 383, Value.int 706 0, Value.int 268 0, Value.str (Str.ofString "/claim/cut.py") 707] }
noncomputable def tq385vvv : Obj := foW (Value.type "function") (fdW (fdT 32) (Str.ofString "const_key") 3 ([]) (Value.none) (Value.none) (Value.none) (Value.str (Str.ofString "clausemill.indexer") 696) (none) (Value.ref 384) (Value.none) 0)
noncomputable def tq386vvv : Obj := { cls := Value.type "tuple", data := Data.seq #[] }
noncomputable def tq387vvv : Obj := { cls := Value.none, data := Data.fields #[] }
noncomputable def tq388vvv : Obj := { cls := Value.type "tuple", data := Data.seq #[Value.str (Str.ofString "functor") 712] }
noncomputable def tq389vvv : Obj := { cls := Value.type "tuple", data := Data.seq #[] }
noncomputable def tq390vvv : Obj := foW (Value.none) (fdW (fdT 33) (Str.ofString "struct_key") 0 ([]) (Value.none) (Value.none) (Value.none) (Value.none) (none) (Value.none) (Value.none) 0)
noncomputable def tq391vvv : Obj := { cls := Value.type "code", data := Data.fields #[Value.str (Str.ofString "struct_key") 709, Value.str (Str.ofString "struct_key") 710, Value.str (Str.ofString "/claim/cut.py") 711, Value.int 270 0, Value.int 1 0, Value.int 0 0, Value.int 0 0, Value.int 3 0, Value.ref 386, Value.bool true, Value.int 181 0, Value.ref 387, Value.none, Value.ref 388, Value.ref 389, Value.ref 390, Value.int 713 0, Value.int 270 0, Value.str (Str.ofString "/claim/cut.py") 714] }
noncomputable def tq392vvv : Obj := foW (Value.type "function") (fdW (fdT 33) (Str.ofString "struct_key") 3 ([]) (Value.none) (Value.none) (Value.none) (Value.str (Str.ofString "clausemill.indexer") 696) (none) (Value.ref 391) (Value.none) 0)
noncomputable def tq393vvv : Obj := { cls := Value.type "tuple", data := Data.seq #[] }
noncomputable def tq394vvv : Obj := { cls := Value.none, data := Data.fields #[] }
noncomputable def tq395vvv : Obj := { cls := Value.type "tuple", data := Data.seq #[Value.str (Str.ofString "key") 719, Value.str (Str.ofString "cell_key") 720] }
noncomputable def tq396vvv : Obj := { cls := Value.type "tuple", data := Data.seq #[] }
noncomputable def tq397vvv : Obj := foW (Value.none) (fdW (fdT 34) (Str.ofString "matching") 0 ([]) (Value.none) (Value.none) (Value.none) (Value.none) (none) (Value.none) (Value.none) 0)
noncomputable def tq398vvv : Obj := { cls := Value.type "code", data := Data.fields #[Value.str (Str.ofString "matching") 716, Value.str (Str.ofString "matching") 717, Value.str (Str.ofString "/claim/cut.py") 718, Value.int 272 0, Value.int 2 0, Value.int 0 0, Value.int 0 0, Value.int 3 0, Value.ref 393, Value.bool true, Value.int 181 0, Value.ref 394, Value.none, Value.ref 395, Value.ref 396, Value.ref 397, Value.int 721 0, Value.int 272 0, Value.str (Str.ofString "/claim/cut.py") 722] }
noncomputable def tq399vvv : Obj := foW (Value.type "function") (fdW (fdT 34) (Str.ofString "matching") 3 ([]) (Value.none) (Value.none) (Value.none) (Value.str (Str.ofString "clausemill.indexer") 696) (none) (Value.ref 398) (Value.none) 0)
noncomputable def tq400vvv : Obj := { cls := Value.type "tuple", data := Data.seq #[] }
noncomputable def tq401vvv : Obj := { cls := Value.none, data := Data.fields #[] }
noncomputable def tq402vvv : Obj := { cls := Value.type "tuple", data := Data.seq #[Value.str (Str.ofString "store") 727, Value.str (Str.ofString "cell") 728, Value.str (Str.ofString "tag") 729] }
noncomputable def tq403vvv : Obj := { cls := Value.type "tuple", data := Data.seq #[] }
noncomputable def tq404vvv : Obj := foW (Value.none) (fdW (fdT 35) (Str.ofString "first_key") 0 ([]) (Value.none) (Value.none) (Value.none) (Value.none) (none) (Value.none) (Value.none) 0)
noncomputable def tq405vvv : Obj := { cls := Value.type "code", data := Data.fields #[Value.str (Str.ofString "first_key") 724, Value.str (Str.ofString "first_key") 725, Value.str (Str.ofString "/claim/cut.py") 726, Value.int 276 0, Value.int 2 0, Value.int 0 0, Value.int 0 0, Value.int 3 0, Value.ref 400, Value.bool true, Value.int 181 0, Value.ref 401, Value.none, Value.ref 402, Value.ref 403, Value.ref 404, Value.int 730 0, Value.int 276 0, Value.str (Str.ofString "/claim/cut.py") 731] }
noncomputable def tq406vvv : Obj := foW (Value.type "function") (fdW (fdT 35) (Str.ofString "first_key") 3 ([]) (Value.none) (Value.none) (Value.none) (Value.str (Str.ofString "clausemill.indexer") 696) (none) (Value.ref 405) (Value.none) 0)
noncomputable def tq407vvv : Obj := { cls := Value.type "tuple", data := Data.seq #[] }
noncomputable def tq408vvv : Obj := { cls := Value.none, data := Data.fields #[] }
noncomputable def tq409vvv : Obj := { cls := Value.type "tuple", data := Data.seq #[Value.str (Str.ofString "term") 736, Value.str (Str.ofString "kind") 737] }
noncomputable def tq410vvv : Obj := { cls := Value.type "tuple", data := Data.seq #[] }
noncomputable def tq411vvv : Obj := foW (Value.none) (fdW (fdT 36) (Str.ofString "term_key") 0 ([]) (Value.none) (Value.none) (Value.none) (Value.none) (none) (Value.none) (Value.none) 0)
noncomputable def tq412vvv : Obj := { cls := Value.type "code", data := Data.fields #[Value.str (Str.ofString "term_key") 733, Value.str (Str.ofString "term_key") 734, Value.str (Str.ofString "/claim/cut.py") 735, Value.int 286 0, Value.int 1 0, Value.int 0 0, Value.int 0 0, Value.int 3 0, Value.ref 407, Value.bool true, Value.int 181 0, Value.ref 408, Value.none, Value.ref 409, Value.ref 410, Value.ref 411, Value.int 738 0, Value.int 286 0, Value.str (Str.ofString "/claim/cut.py") 739] }
noncomputable def tq413vvv : Obj := foW (Value.type "function") (fdW (fdT 36) (Str.ofString "term_key") 3 ([]) (Value.none) (Value.none) (Value.none) (Value.str (Str.ofString "clausemill.indexer") 696) (none) (Value.ref 412) (Value.none) 0)
noncomputable def tq414vvv : Obj := { cls := Value.type "tuple", data := Data.seq #[] }
noncomputable def tq415vvv : Obj := { cls := Value.none, data := Data.fields #[] }
noncomputable def tq416vvv : Obj := { cls := Value.type "tuple", data := Data.seq #[Value.str (Str.ofString "head") 744] }
noncomputable def tq417vvv : Obj := { cls := Value.type "tuple", data := Data.seq #[] }
noncomputable def tq418vvv : Obj := foW (Value.none) (fdW (fdT 37) (Str.ofString "head_key") 0 ([]) (Value.none) (Value.none) (Value.none) (Value.none) (none) (Value.none) (Value.none) 0)
noncomputable def tq419vvv : Obj := { cls := Value.type "code", data := Data.fields #[Value.str (Str.ofString "head_key") 741, Value.str (Str.ofString "head_key") 742, Value.str (Str.ofString "/claim/cut.py") 743, Value.int 297 0, Value.int 1 0, Value.int 0 0, Value.int 0 0, Value.int 3 0, Value.ref 414, Value.bool true, Value.int 181 0, Value.ref 415, Value.none, Value.ref 416, Value.ref 417, Value.ref 418, Value.int 745 0, Value.int 297 0, Value.str (Str.ofString "/claim/cut.py") 746] }
noncomputable def tq420vvv : Obj := foW (Value.type "function") (fdW (fdT 37) (Str.ofString "head_key") 3 ([]) (Value.none) (Value.none) (Value.none) (Value.str (Str.ofString "clausemill.indexer") 696) (none) (Value.ref 419) (Value.none) 0)
noncomputable def tq421vvv : Obj := { cls := Value.type "tuple", data := Data.seq #[] }
noncomputable def tq422vvv : Obj := { cls := Value.none, data := Data.fields #[] }
noncomputable def tq423vvv : Obj := { cls := Value.type "tuple", data := Data.seq #[Value.str (Str.ofString "script") 753, Value.str (Str.ofString "row") 754, Value.str (Str.ofString "cell") 755, Value.str (Str.ofString "number") 756, Value.str (Str.ofString "turn") 757] }
noncomputable def tq424vvv : Obj := { cls := Value.type "tuple", data := Data.seq #[] }
noncomputable def tq425vvv : Obj := foW (Value.none) (fdW (fdT 39) (Str.ofString "_law_row") 0 ([]) (Value.none) (Value.none) (Value.none) (Value.none) (none) (Value.none) (Value.none) 0)
noncomputable def tq426vvv : Obj := { cls := Value.type "code", data := Data.fields #[Value.str (Str.ofString "_law_row") 750, Value.str (Str.ofString "_law_row") 751, Value.str (Str.ofString "/claim/cut.py") 752, Value.int 302 0, Value.int 1 0, Value.int 0 0, Value.int 0 0, Value.int 3 0, Value.ref 421, Value.bool true, Value.int 181 0, Value.ref 422, Value.none, Value.ref 423, Value.ref 424, Value.ref 425, Value.int 758 0, Value.int 302 0, Value.str (Str.ofString "/claim/cut.py") 759] }
noncomputable def tq427vvv : Obj := foW (Value.type "function") (fdW (fdT 39) (Str.ofString "_law_row") 3 ([]) (Value.none) (Value.none) (Value.none) (Value.str (Str.ofString "law_no0174_01") 748) (none) (Value.ref 426) (Value.none) 0)
noncomputable def tq428vvv : Obj := { cls := Value.type "tuple", data := Data.seq #[] }
noncomputable def tq429vvv : Obj := { cls := Value.none, data := Data.fields #[] }
noncomputable def tq430vvv : Obj := { cls := Value.type "tuple", data := Data.seq #[Value.str (Str.ofString "row") 764] }
noncomputable def tq431vvv : Obj := { cls := Value.type "tuple", data := Data.seq #[] }
noncomputable def tq432vvv : Obj := foW (Value.none) (fdW (fdT 40) (Str.ofString "_law_next") 0 ([]) (Value.none) (Value.none) (Value.none) (Value.none) (none) (Value.none) (Value.none) 0)
noncomputable def tq433vvv : Obj := { cls := Value.type "code", data := Data.fields #[Value.str (Str.ofString "_law_next") 761, Value.str (Str.ofString "_law_next") 762, Value.str (Str.ofString "/claim/cut.py") 763, Value.int 315 0, Value.int 1 0, Value.int 0 0, Value.int 0 0, Value.int 3 0, Value.ref 428, Value.bool true, Value.int 181 0, Value.ref 429, Value.none, Value.ref 430, Value.ref 431, Value.ref 432, Value.int 765 0, Value.int 315 0, Value.str (Str.ofString "/claim/cut.py") 766] }
noncomputable def tq434vvv : Obj := foW (Value.type "function") (fdW (fdT 40) (Str.ofString "_law_next") 3 ([]) (Value.none) (Value.none) (Value.none) (Value.str (Str.ofString "law_no0174_01") 748) (none) (Value.ref 433) (Value.none) 0)
noncomputable def tq435vvv : Obj := { cls := Value.type "tuple", data := Data.seq #[] }
noncomputable def tq436vvv : Obj := { cls := Value.none, data := Data.fields #[] }
noncomputable def tq437vvv : Obj := { cls := Value.type "tuple", data := Data.seq #[Value.str (Str.ofString "row") 771, Value.str (Str.ofString "deep") 772, Value.str (Str.ofString "kind") 773, Value.str (Str.ofString "first") 774] }
noncomputable def tq438vvv : Obj := { cls := Value.type "tuple", data := Data.seq #[] }
noncomputable def tq439vvv : Obj := foW (Value.none) (fdW (fdT 41) (Str.ofString "_law_term") 0 ([]) (Value.none) (Value.none) (Value.none) (Value.none) (none) (Value.none) (Value.none) 0)
noncomputable def tq440vvv : Obj := { cls := Value.type "code", data := Data.fields #[Value.str (Str.ofString "_law_term") 768, Value.str (Str.ofString "_law_term") 769, Value.str (Str.ofString "/claim/cut.py") 770, Value.int 317 0, Value.int 2 0, Value.int 0 0, Value.int 0 0, Value.int 3 0, Value.ref 435, Value.bool true, Value.int 181 0, Value.ref 436, Value.none, Value.ref 437, Value.ref 438, Value.ref 439, Value.int 775 0, Value.int 317 0, Value.str (Str.ofString "/claim/cut.py") 776] }
noncomputable def tq441vvv : Obj := foW (Value.type "function") (fdW (fdT 41) (Str.ofString "_law_term") 3 ([]) (Value.none) (Value.none) (Value.none) (Value.str (Str.ofString "law_no0174_01") 748) (none) (Value.ref 440) (Value.none) 0)
noncomputable def tq442vvv : Obj := { cls := Value.type "tuple", data := Data.seq #[] }
noncomputable def tq443vvv : Obj := { cls := Value.none, data := Data.fields #[] }
noncomputable def tq444vvv : Obj := { cls := Value.type "tuple", data := Data.seq #[Value.str (Str.ofString "term") 781] }
noncomputable def tq445vvv : Obj := { cls := Value.type "tuple", data := Data.seq #[] }
noncomputable def tq446vvv : Obj := foW (Value.none) (fdW (fdT 42) (Str.ofString "_law_key") 0 ([]) (Value.none) (Value.none) (Value.none) (Value.none) (none) (Value.none) (Value.none) 0)
noncomputable def tq447vvv : Obj := { cls := Value.type "code", data := Data.fields #[Value.str (Str.ofString "_law_key") 778, Value.str (Str.ofString "_law_key") 779, Value.str (Str.ofString "/claim/cut.py") 780, Value.int 329 0, Value.int 1 0, Value.int 0 0, Value.int 0 0, Value.int 3 0, Value.ref 442, Value.bool true, Value.int 181 0, Value.ref 443, Value.none, Value.ref 444, Value.ref 445, Value.ref 446, Value.int 782 0, Value.int 329 0, Value.str (Str.ofString "/claim/cut.py") 783] }
noncomputable def tq448vvv : Obj := foW (Value.type "function") (fdW (fdT 42) (Str.ofString "_law_key") 3 ([]) (Value.none) (Value.none) (Value.none) (Value.str (Str.ofString "law_no0174_01") 748) (none) (Value.ref 447) (Value.none) 0)
noncomputable def tq449vvv : Obj := { cls := Value.type "tuple", data := Data.seq #[] }
noncomputable def tq450vvv : Obj := { cls := Value.none, data := Data.fields #[] }
noncomputable def tq451vvv : Obj := foW (Value.none) (fdW (fdT 43) (Str.ofString "law") 0 ([]) (Value.none) (Value.none) (Value.none) (Value.none) (none) (Value.none) (Value.none) 0)
noncomputable def tq452vvv : Obj := { cls := Value.type "code", data := Data.fields #[Value.str (Str.ofString "law") 785, Value.str (Str.ofString "law") 786, Value.str (Str.ofString "/claim/cut.py") 787, Value.int 335 0, Value.int 1 0, Value.int 0 0, Value.int 0 0, Value.int 3 0, Value.ref 449, Value.bool true, Value.int 181 0, Value.ref 450, Value.none, Value.none, Value.none, Value.ref 451, Value.int 788 0, Value.int 335 0, Value.str (Str.ofString "/claim/cut.py") 789] }
noncomputable def tq453vvv : Obj := foW (Value.type "function") (fdW (fdT 43) (Str.ofString "law") 3 ([]) (Value.none) (Value.none) (Value.none) (Value.str (Str.ofString "law_no0174_01") 748) (none) (Value.ref 452) (Value.none) 0)
noncomputable def topT44 (P : Params) : BT := (.node (boot_o_0 P) (.node (boot_o_1 P) (.node (tq3vvv P) (.node (boot_o_7 P) (.node tq15 (.node tq31 (.node tq63 (.node tq127v (.node tq255vv .nil .nil) (.node tq383vvv .nil .nil)) (.node tq191vv (.node tq319vv .nil .nil) (.node tq447vvv .nil .nil))) (.node tq95v (.node tq159v (.node tq287vv .nil .nil) (.node tq415vvv .nil .nil)) (.node tq223vv (.node tq351vvv .nil .nil) .nil))) (.node tq47 (.node tq79v (.node tq143v (.node tq271vv .nil .nil) (.node tq399vvv .nil .nil)) (.node tq207vv (.node tq335vvv .nil .nil) .nil)) (.node tq111v (.node tq175v (.node tq303vv .nil .nil) (.node tq431vvv .nil .nil)) (.node tq239vv (.node tq367vvv .nil .nil) .nil)))) (.node tq23 (.node tq39 (.node tq71v (.node tq135v (.node tq263vv .nil .nil) (.node tq391vvv .nil .nil)) (.node tq199vv (.node tq327vv .nil .nil) .nil)) (.node tq103v (.node tq167v (.node tq295vv .nil .nil) (.node tq423vvv .nil .nil)) (.node tq231vv (.node tq359vvv .nil .nil) .nil))) (.node tq55 (.node tq87v (.node tq151v (.node tq279vv .nil .nil) (.node tq407vvv .nil .nil)) (.node tq215vv (.node tq343vvv .nil .nil) .nil)) (.node tq119v (.node (tq183vv P) (.node tq311vv .nil .nil) (.node tq439vvv .nil .nil)) (.node tq247vv (.node tq375vvv .nil .nil) .nil))))) (.node topO11 (.node tq19 (.node tq35 (.node tq67 (.node tq131v (.node tq259vv .nil .nil) (.node tq387vvv .nil .nil)) (.node tq195vv (.node (tq323vv P) .nil .nil) (.node tq451vvv .nil .nil))) (.node tq99v (.node tq163v (.node tq291vv .nil .nil) (.node tq419vvv .nil .nil)) (.node tq227vv (.node tq355vvv .nil .nil) .nil))) (.node tq51 (.node tq83v (.node tq147v (.node tq275vv .nil .nil) (.node tq403vvv .nil .nil)) (.node tq211vv (.node tq339vvv .nil .nil) .nil)) (.node tq115v (.node tq179v (.node tq307vv .nil .nil) (.node tq435vvv .nil .nil)) (.node tq243vv (.node tq371vvv .nil .nil) .nil)))) (.node tq27 (.node tq43 (.node tq75v (.node tq139v (.node tq267vv .nil .nil) (.node tq395vvv .nil .nil)) (.node tq203vv (.node (tq331vvv P) .nil .nil) .nil)) (.node tq107v (.node tq171v (.node tq299vv .nil .nil) (.node tq427vvv .nil .nil)) (.node tq235vv (.node tq363vvv .nil .nil) .nil))) (.node tq59 (.node tq91v (.node tq155v (.node tq283vv .nil .nil) (.node tq411vvv .nil .nil)) (.node tq219vv (.node tq347vvv .nil .nil) .nil)) (.node tq123v (.node tq187vv (.node tq315vv .nil .nil) (.node tq443vvv .nil .nil)) (.node tq251vv (.node tq379vvv .nil .nil) .nil)))))) (.node (boot_o_5 P) (.node (boot_o_9 P) (.node tq17 (.node tq33 (.node tq65 (.node tq129v (.node tq257vv .nil .nil) (.node tq385vvv .nil .nil)) (.node tq193vv (.node tq321vv .nil .nil) (.node tq449vvv .nil .nil))) (.node tq97v (.node tq161v (.node tq289vv .nil .nil) (.node tq417vvv .nil .nil)) (.node tq225vv (.node tq353vvv .nil .nil) .nil))) (.node tq49 (.node tq81v (.node tq145v (.node tq273vv .nil .nil) (.node tq401vvv .nil .nil)) (.node tq209vv (.node tq337vvv .nil .nil) .nil)) (.node tq113v (.node tq177v (.node tq305vv .nil .nil) (.node tq433vvv .nil .nil)) (.node tq241vv (.node tq369vvv .nil .nil) .nil)))) (.node tq25 (.node tq41 (.node tq73v (.node tq137v (.node tq265vv .nil .nil) (.node tq393vvv .nil .nil)) (.node tq201vv (.node tq329vvv .nil .nil) .nil)) (.node tq105v (.node tq169v (.node tq297vv .nil .nil) (.node tq425vvv .nil .nil)) (.node tq233vv (.node tq361vvv .nil .nil) .nil))) (.node tq57 (.node tq89v (.node (tq153v P) (.node tq281vv .nil .nil) (.node tq409vvv .nil .nil)) (.node tq217vv (.node tq345vvv .nil .nil) .nil)) (.node tq121v (.node tq185vv (.node tq313vv .nil .nil) (.node tq441vvv .nil .nil)) (.node tq249vv (.node tq377vvv .nil .nil) .nil))))) (.node topO13 (.node tq21 (.node (tq37 P) (.node tq69v (.node tq133v (.node tq261vv .nil .nil) (.node tq389vvv .nil .nil)) (.node tq197vv (.node tq325vv .nil .nil) (.node tq453vvv .nil .nil))) (.node tq101v (.node tq165v (.node tq293vv .nil .nil) (.node tq421vvv .nil .nil)) (.node tq229vv (.node tq357vvv .nil .nil) .nil))) (.node tq53 (.node tq85v (.node tq149v (.node tq277vv .nil .nil) (.node tq405vvv .nil .nil)) (.node tq213vv (.node tq341vvv .nil .nil) .nil)) (.node tq117v (.node tq181vv (.node tq309vv .nil .nil) (.node tq437vvv .nil .nil)) (.node tq245vv (.node (tq373vvv P) .nil .nil) .nil)))) (.node tq29 (.node tq45 (.node tq77v (.node tq141v (.node tq269vv .nil .nil) (.node tq397vvv .nil .nil)) (.node tq205vv (.node tq333vvv .nil .nil) .nil)) (.node tq109v (.node tq173v (.node tq301vv .nil .nil) (.node tq429vvv .nil .nil)) (.node tq237vv (.node tq365vvv .nil .nil) .nil))) (.node tq61 (.node tq93v (.node tq157v (.node tq285vv .nil .nil) (.node tq413vvv .nil .nil)) (.node tq221vv (.node tq349vvv .nil .nil) .nil)) (.node tq125v (.node tq189vv (.node tq317vv .nil .nil) (.node tq445vvv .nil .nil)) (.node tq253vv (.node tq381vvv .nil .nil) .nil))))))) (.node (tq2 P) (.node (boot_o_4 P) (.node (boot_o_8 P) (.node tq16 (.node tq32 (.node tq64 (.node tq128v (.node tq256vv .nil .nil) (.node tq384vvv .nil .nil)) (.node tq192vv (.node tq320vv .nil .nil) (.node tq448vvv .nil .nil))) (.node tq96v (.node tq160v (.node tq288vv .nil .nil) (.node tq416vvv .nil .nil)) (.node tq224vv (.node tq352vvv .nil .nil) .nil))) (.node tq48 (.node tq80v (.node tq144v (.node tq272vv .nil .nil) (.node tq400vvv .nil .nil)) (.node tq208vv (.node tq336vvv .nil .nil) .nil)) (.node tq112v (.node tq176v (.node tq304vv .nil .nil) (.node tq432vvv .nil .nil)) (.node tq240vv (.node tq368vvv .nil .nil) .nil)))) (.node (tq24 P) (.node tq40 (.node tq72v (.node tq136v (.node tq264vv .nil .nil) (.node tq392vvv .nil .nil)) (.node tq200vv (.node tq328vv .nil .nil) .nil)) (.node tq104v (.node tq168v (.node tq296vv .nil .nil) (.node tq424vvv .nil .nil)) (.node tq232vv (.node tq360vvv .nil .nil) .nil))) (.node tq56 (.node tq88v (.node tq152v (.node tq280vv .nil .nil) (.node tq408vvv .nil .nil)) (.node tq216vv (.node tq344vvv .nil .nil) .nil)) (.node tq120v (.node tq184vv (.node tq312vv .nil .nil) (.node tq440vvv .nil .nil)) (.node tq248vv (.node tq376vvv .nil .nil) .nil))))) (.node tq12vvv (.node tq20 (.node tq36 (.node tq68v (.node tq132v (.node tq260vv .nil .nil) (.node tq388vvv .nil .nil)) (.node tq196vv (.node tq324vvv .nil .nil) (.node tq452vvv .nil .nil))) (.node tq100v (.node tq164v (.node tq292vv .nil .nil) (.node tq420vvv .nil .nil)) (.node tq228vv (.node tq356vvv .nil .nil) .nil))) (.node tq52 (.node tq84v (.node tq148v (.node tq276vv .nil .nil) (.node tq404vvv .nil .nil)) (.node tq212vv (.node tq340vvv .nil .nil) .nil)) (.node tq116v (.node tq180v (.node tq308vv .nil .nil) (.node tq436vvv .nil .nil)) (.node tq244vv (.node tq372vvv .nil .nil) .nil)))) (.node tq28 (.node tq44 (.node tq76v (.node tq140v (.node tq268vv .nil .nil) (.node tq396vvv .nil .nil)) (.node tq204vv (.node tq332vvv .nil .nil) .nil)) (.node tq108v (.node tq172v (.node tq300vv .nil .nil) (.node tq428vvv .nil .nil)) (.node tq236vv (.node tq364vvv .nil .nil) .nil))) (.node tq60 (.node tq92v (.node tq156v (.node tq284vv .nil .nil) (.node tq412vvv .nil .nil)) (.node tq220vv (.node tq348vvv .nil .nil) .nil)) (.node tq124v (.node tq188vv (.node tq316vv .nil .nil) (.node tq444vvv .nil .nil)) (.node tq252vv (.node tq380vvv .nil .nil) .nil)))))) (.node (boot_o_6 P) (.node (boot_o_10 P) (.node tq18 (.node tq34 (.node tq66 (.node tq130v (.node tq258vv .nil .nil) (.node tq386vvv .nil .nil)) (.node tq194vv (.node tq322vv .nil .nil) (.node tq450vvv .nil .nil))) (.node tq98v (.node tq162v (.node tq290vv .nil .nil) (.node tq418vvv .nil .nil)) (.node tq226vv (.node tq354vvv .nil .nil) .nil))) (.node (tq50 P) (.node tq82v (.node tq146v (.node tq274vv .nil .nil) (.node tq402vvv .nil .nil)) (.node tq210vv (.node tq338vvv .nil .nil) .nil)) (.node tq114v (.node tq178v (.node tq306vv .nil .nil) (.node tq434vvv .nil .nil)) (.node tq242vv (.node tq370vvv .nil .nil) .nil)))) (.node tq26 (.node tq42 (.node tq74v (.node tq138v (.node tq266vv .nil .nil) (.node tq394vvv .nil .nil)) (.node tq202vv (.node tq330vvv .nil .nil) .nil)) (.node tq106v (.node tq170v (.node tq298vv .nil .nil) (.node tq426vvv .nil .nil)) (.node tq234vv (.node tq362vvv .nil .nil) .nil))) (.node tq58 (.node tq90v (.node tq154v (.node tq282vv .nil .nil) (.node tq410vvv .nil .nil)) (.node tq218vv (.node tq346vvv .nil .nil) .nil)) (.node tq122v (.node tq186vv (.node tq314vv .nil .nil) (.node tq442vvv .nil .nil)) (.node tq250vv (.node tq378vvv .nil .nil) .nil))))) (.node topO14 (.node tq22 (.node tq38 (.node (tq70v P) (.node tq134v (.node tq262vv .nil .nil) (.node tq390vvv .nil .nil)) (.node tq198vv (.node tq326vv .nil .nil) .nil)) (.node tq102v (.node tq166v (.node tq294vv .nil .nil) (.node tq422vvv .nil .nil)) (.node tq230vv (.node tq358vvv .nil .nil) .nil))) (.node tq54 (.node tq86v (.node tq150v (.node tq278vv .nil .nil) (.node tq406vvv .nil .nil)) (.node tq214vv (.node tq342vvv .nil .nil) .nil)) (.node tq118v (.node tq182vv (.node tq310vv .nil .nil) (.node tq438vvv .nil .nil)) (.node tq246vv (.node tq374vvv .nil .nil) .nil)))) (.node (tq30 P) (.node tq46 (.node tq78v (.node tq142v (.node tq270vv .nil .nil) (.node tq398vvv .nil .nil)) (.node tq206vv (.node tq334vvv .nil .nil) .nil)) (.node tq110v (.node tq174v (.node tq302vv .nil .nil) (.node tq430vvv .nil .nil)) (.node tq238vv (.node tq366vvv .nil .nil) .nil))) (.node tq62 (.node tq94v (.node tq158v (.node tq286vv .nil .nil) (.node tq414vvv .nil .nil)) (.node tq222vv (.node tq350vvv .nil .nil) .nil)) (.node tq126v (.node tq190vv (.node tq318vv .nil .nil) (.node tq446vvv .nil .nil)) (.node tq254vv (.node tq382vvv .nil .nil) .nil))))))))
noncomputable def topS44 (w : World) (os : OsState) : SharedT := SharedT.mk (topT44 w.params) 454 ({ }) #[] ({ }) 791 os
@[reducible] noncomputable def topZ_44 : Pos := { line := 335, col := 0, endLine := 373, endCol := 45 }
theorem top_fin (w : World) (s : Shared) : topRun treeTable prg w 11 (some (Value.ref 6)) 2 s ⟨doneF .next, topC, topZ1, [topFrame topZ0]⟩ = some s := by
  kernel_rfl
noncomputable def topB1 : List Stmt := topB.take 13
noncomputable def topB2 : List Stmt := (topB.drop 13).take 14
noncomputable def topB3 : List Stmt := (topB.drop 27).take 1
noncomputable def topB4 : List Stmt := topB.drop 28
theorem top_c1 (w : World) (os : OsState) : segRunT treeTable prg w 11 (some (Value.ref 6)) 1 599 (topSb w os) (piecesOf topB1 topEnv topC topZ0 [topFrame topZ0]) = some (.next, topS13 w os, topC, topZ_13) := by
  rw [Fast.te10110043849684766642, Fast.te14364793385576792824]
  kernel_rfl
theorem top_c2 (w : World) (os : OsState) : segRunT treeTable prg w 11 (some (Value.ref 6)) 1 740 (topS13 w os) (piecesOf topB2 topEnv topC topZ_13 [topFrame topZ0]) = some (.next, topS27 w os, topC, topZ_27) := by
  rw [Fast.te10110043849684766642, Fast.te14364793385576792824]
  kernel_rfl
theorem top_c3 (w : World) (os : OsState) : segRunT treeTable prg w 11 (some (Value.ref 6)) 1 821 (topS27 w os) (piecesOf topB3 topEnv topC topZ_27 [topFrame topZ0]) = some (.next, topS28 w os, topC, topZ_28) := by
  rw [Fast.te10110043849684766642, Fast.te14364793385576792824]
  kernel_rfl
theorem top_c4 (w : World) (os : OsState) : segRunT treeTable prg w 11 (some (Value.ref 6)) 1 754 (topS28 w os) (piecesOf topB4 topEnv topC topZ_28 [topFrame topZ0]) = some (.next, topS44 w os, topC, topZ1) := by
  rw [Fast.te10110043849684766642, Fast.te14364793385576792824]
  kernel_rfl
theorem top_k1 (w : World) (os : OsState) : staticsOk (importedModules prg.main.body) (boot_heap w.params) (topS44 w os).abs.heap = true := by kernel_rfl
theorem top_k2 (w : World) (os : OsState) : namesBound prg (topS44 w os).abs.heap = true := by kernel_rfl
theorem top_k3 (w : World) (os : OsState) : gensDone (topS44 w os).abs = true := by kernel_rfl
theorem top_k4 (w : World) (os : OsState) : laidKept (boot_heap w.params) (topS44 w os).abs.heap = true := by kernel_rfl
theorem top_k5 (w : World) (os : OsState) : openSeen hk.view_1 topLs (importedModules prg.main.body) topX true (topS44 w os).abs = openGood hk.view_1 topLs := by
  rw [Fast.te4187177175401517315]
  kernel_rfl
theorem top_k6 (w : World) (os : OsState) : topK.obs (topS44 w os).abs = topK.val w := by kernel_rfl
theorem top_parts : topB = topB1 ++ (topB2 ++ (topB3 ++ (topB4 ++ []))) := by kernel_rfl
theorem top_tot (w : World) (os : OsState) : ∃ s', topRun treeTable prg w 11 (some (Value.ref 6)) (599 + (740 + (821 + (754 + 2)))) (topSb w os).abs (restOf topB topEnv topC topZ0 [topFrame topZ0]) = some s' ∧
        (staticsOk (importedModules prg.main.body) (boot_heap w.params) s'.heap && namesBound prg s'.heap && gensDone s' && laidKept (boot_heap w.params) s'.heap) = true ∧ openSeen hk.view_1 topLs (importedModules prg.main.body) topX true s' = openGood hk.view_1 topLs ∧ topK.obs s' = topK.val w := by
  refine ⟨(topS44 w os).abs, ?_, by rw [top_k1, top_k2, top_k3, top_k4]; rfl, top_k5 w os, top_k6 w os⟩
  rw [top_parts]
  exact piece_app (segRun_of (top_c1 w os)) (piece_app (segRun_of (top_c2 w os)) (piece_app (segRun_of (top_c3 w os)) (piece_app (segRun_of (top_c4 w os)) (piece_nil (top_fin w (topS44 w os).abs)))))
theorem top_left : LeftO prg hk.view_1 topLs topX topK.obs topK.val 5946 := LeftO.of_run top_open top_size top_pre top_block top_tot (by kernel_rfl)
end
variable {w : World}
theorem room0 {a c d : Nat} (h : a + c < d) : a < d := Nat.lt_of_le_of_lt (Nat.le_add_right _ _) h
theorem room1 {a b c d : Nat} (h : a + c < d) (e : Nat.ble b c = true) : a + b < d := Nat.lt_of_le_of_lt (Nat.add_le_add_left (Nat.le_of_ble_eq_true e) _) h
theorem room2 {a b b' c d : Nat} (h : a + c < d) (e : Nat.ble (b + b') c = true) : a + b + b' < d := by rw [Nat.add_assoc]; exact room1 h e
theorem room3 {a b b' b'' c d : Nat} (h : a + c < d) (e : Nat.ble (b + b' + b'') c = true) : a + b + b' + b'' < d := by rw [Nat.add_assoc, Nat.add_assoc, ← Nat.add_assoc b]; exact room1 h e
local macro_rules | `(tactic| k_room) => `(tactic| ((try simp only [depth_under_make, depth_under_kw, depth_in1, depth_deeper, depth_caller, recursionLimit, units_under_make, units_in1, units_deeper, Around.mark_units, cLine] at *); first | assumption | (refine' room1 ?h9 ?e9; (case h9 => assumption); (case e9 => exact rfl)) | (refine' room0 ?h9; (case h9 => assumption)) | (refine' room2 ?h9 ?e9; (case h9 => assumption); (case e9 => exact rfl)) | (refine' room3 ?h9 ?e9; (case h9 => assumption); (case e9 => exact rfl)) | omega))
local macro_rules | `(tactic| k_units) => `(tactic| k_room)
local macro_rules | `(tactic| units_room) => `(tactic| k_room)
local macro_rules | `(tactic| k_all) => `(tactic| first | assumption | exact off_gt (by assumption) | exact off_lt (by assumption) | exact off_lt' (by assumption))
local macro_rules | `(tactic| kpa_ne) => `(tactic| exact row_pos (by assumption) (by assumption))
local macro_rules | `(tactic| kpa_room) => `(tactic| (rw [PySem.sizeLine_eq]; omega))
local macro_rules | `(tactic| ktn_step) => `(tactic| (
  (case kB => k_asm); (case kF => k_asm); (case kX => k_asm); (case kN => k_asm); (case kT => k_asm); (case kA => first | assumption | exact rfl | exact deeper_frames _ (by assumption) | exact deeper_frames _ (deeper_frames _ (by assumption))); (case kf => exact rfl); (case kk => first | exact rfl | assumption); (case kh => first | assumption | exact rfl); (case kd => k_room); (case ku => k_units)))
local macro_rules | `(tactic| k_lt $h) => `(tactic| (replace $h := allLt_of $h; (try simp only [AllLt, allLt_append, and_true, true_and] at $h:ident); (repeat (rename _ ∧ _ => hc9; obtain ⟨_, _⟩ := hc9))))
local macro_rules | `(tactic| k_updF) => `(tactic| (refine' updF_app ?a ?b; (case a => k_all); (case b => k_updF)))
local macro_rules | `(tactic| k_upd) => `(tactic| (refine' upd_app ?a ?b; (case a => k_all); (case b => k_upd)))
local macro_rules | `(tactic| k_all) => `(tactic| (refine List.forall_mem_append.mpr ⟨?a, ?b⟩; (case a => k_all); (case b => k_all)))
local macro_rules | `(tactic| kqd_sub) => `(tactic| (intro p9 hp9; simp only [List.mem_cons, List.mem_append, List.cons_append, List.append_assoc, List.mem_nil_iff, or_false] at hp9 ⊢; grind only))
local macro_rules | `(tactic| k_mem) => `(tactic| ((repeat' (first | with_reducible exact List.mem_cons_self | with_reducible assumption | ktr_member | (refine List.mem_append.mpr (Or.inl ?_); first | with_reducible assumption | ktr_member) | refine List.mem_append.mpr (Or.inr ?_) | refine List.mem_cons_of_mem _ ?_)); done))
local macro_rules | `(tactic| ksa_idx) => `(tactic| ((try simp only [List.length_append, List.length_cons, List.length_nil, List.length_set, List.length_map] at *); omega))
local macro_rules | `(tactic| k_subL) => `(tactic| first | (refine' Del.head ?a; (case a => k_all)) | (refine' del_app ?a ?b; (case a => k_all); (case b => k_subL)) | (refine' Del.tail ?a ?b; (case a => k_ne); (case b => k_subL)))
local macro_rules | `(tactic| walk_at "UnrEnd") => `(tactic| (k_dflt (refine' unrEnd4 ?F ?N ?D ?_; (case F => k_asm); (case N => k_asm); (case D => k_subL))))
local macro_rules | `(tactic| walk_at "pyIter ref") => `(tactic| ((with_reducible show wpAny _ _ (pyIter (Value.ref _)) (fun it s₂ => LoopAtV _ _ _ _ _ _ _ _ _ it s₂) _ _); (rename Fr _ _ _ _ => lF'); (rename News _ _ _ _ => lN'); (with_unfolding_all first | refine iter_rangeUnr (n := 2) (by assumption) (by assumption) (by decide) (by decide) lF' lN' ?_ | refine iter_rangeUnr (n := 3) (by assumption) (by assumption) (by decide) (by decide) lF' lN' ?_); clear lF' lN'; intro i' l1; (try k_lt l1)))
local macro_rules | `(tactic| k_ne) => `(tactic| first | assumption | exact Ne.symm (by assumption) | exact Nat.ne_of_gt (by assumption) | exact Nat.ne_of_lt (by assumption))
section
theorem walk_off_S2 : True := by
  w_top off
  trivial
section
variable {prog : Program} {A : Around} {E : Value → Shared → Prop} {s : Shared}
theorem slice_to2 {sl : Addr} {n : Nat} {u : Tok} {Q : Int × Int × Nat → Shared → Prop} (hs : s.heap.IsSliceOf sl .none (.int 2 u) .none) (hn : 2 ≤ n) (h : Q (0, 1, 2) s) :
    wpAny (model prog w) A (Builtin.Slice.sliceApplied (.ref sl) (pure (n : Int))) Q E s := by
  obtain ⟨os, hos, hcs, hds⟩ := id hs
  unfold Builtin.Slice.sliceApplied Builtin.Slice.sliceFields
  refine wpAny_bind (wpAny_bind (wpAny_field hos hds (x := .none) rfl (wpAny_bind (wpAny_field hos hds (x := .int 2 u) rfl (wpAny_bind (wpAny_field hos hds (x := .none) rfl (wpAny_pure ?_)))))))
  refine wpAny_bind (slicePart_none ?_)
  show wpAny _ _ (if ((1 : Int) == 0) = true then _ else _) _ _ s
  rw [if_neg (by decide)]
  refine wpAny_bind (slicePart_none (wpAny_bind (slicePart_int (wpAny_bind (wpAny_pure ?_)))))
  have e : Builtin.Slice.sliceAdjust none (some (2 : Int)) 1 (n : Int) = ((0 : Int), (2 : Int)) := by
    unfold Builtin.Slice.sliceAdjust
    have h1 : ¬ ((1 : Int) < 0) := by omega
    have h2 : ¬ ((2 : Int) < 0) := by omega
    simp only [h1, h2, if_false]
    congr 1
    omega
  show wpAny _ _ (match Builtin.Slice.sliceAdjust none (some (2 : Int)) 1 (n : Int) with | (lo, hi) => pure (lo, (1 : Int), Builtin.Slice.slicePlaces lo hi 1)) _ _ s
  rw [e]
  exact wpAny_pure h
theorem getItem_t2 {t sl : Addr} {x y : Value} {u : Tok} {Q : Value → Shared → Prop} (ht : IsTup s.heap t #[x, y]) (hs : s.heap.IsSliceOf sl .none (.int 2 u) .none) (h : Q (.ref t) s) : wpAny (model prog w) A (getItem (.ref t) (.ref sl)) Q E s := by
  obtain ⟨os, hos, hcs, hds⟩ := id hs
  have hTs : s.TypeIs (.ref sl) "slice" := ⟨os, hos, hcs⟩
  unfold getItem
  try with_reducible refine wpAny_holding ?_
  first | refine wpAny_bind (wpAny_pure ?_) | skip
  refine wpAny_bind (wpAny_sequenceKey ht.typeIs (by decide) ?_)
  refine wpAny_bind (wpAny_callSpecial?_slot (name := Str.ofString "__getitem__") ht.typeIs slot_tuple_getitem
    (wpAny_call_entry slot_tuple_getitem ht.typeIs entry_tuple_getitem ?_ (args_tuple_getitem _ _)))
  show wpAny _ _ (Builtin.Tuple.tupleItemsOf (.ref t) >>= _) _ _ s
  refine wpAny_bind (tupleItemsOf_ ht ?_)
  refine wpAny_bind (wpAny_typeOf hTs ?_)
  rw [if_pos (by decide)]
  refine wpAny_bind (slice_to2 hs (Nat.le_refl _) ?_)
  show wpAny _ _ (if ((0 : Int) == 0 && (1 : Int) == 1 && (2 : Nat) == 2) = true then _ else _) _ _ s
  rw [if_pos (by decide)]
  refine wpAny_bind (wpAny_bind (wpAny_typeOf ht.typeIs (wpAny_pure ?_)))
  rw [if_pos (by decide)]
  first
    | exact wpAny_bind (wpAny_rule (wpAny_pure ⟨_, rfl, wpAny_pure h⟩))
    | exact wpAny_bind (wpAny_pure (wpAny_pure ⟨_, rfl, wpAny_pure h⟩))
    | exact wpAny_bind (wpAny_of_eq (a := ()) rfl (wpAny_pure ⟨_, rfl, wpAny_pure h⟩))
    | exact wpAny_pure ⟨_, rfl, wpAny_pure h⟩
theorem getItem_t3 {t sl : Addr} {x y z : Value} {u : Tok} {Q : Value → Shared → Prop} (ht : IsTup s.heap t #[x, y, z]) (hs : s.heap.IsSliceOf sl .none (.int 2 u) .none)
    (h : Q (.ref s.heap.objs.size) { s with heap := s.heap.push { cls := .type "tuple", data := .seq #[x, y] } }) : wpAny (model prog w) A (getItem (.ref t) (.ref sl)) Q E s := by
  obtain ⟨os, hos, hcs, hds⟩ := id hs
  have hTs : s.TypeIs (.ref sl) "slice" := ⟨os, hos, hcs⟩
  unfold getItem
  try with_reducible refine wpAny_holding ?_
  first | refine wpAny_bind (wpAny_pure ?_) | skip
  refine wpAny_bind (wpAny_sequenceKey ht.typeIs (by decide) ?_)
  refine wpAny_bind (wpAny_callSpecial?_slot (name := Str.ofString "__getitem__") ht.typeIs slot_tuple_getitem
    (wpAny_call_entry slot_tuple_getitem ht.typeIs entry_tuple_getitem ?_ (args_tuple_getitem _ _)))
  show wpAny _ _ (Builtin.Tuple.tupleItemsOf (.ref t) >>= _) _ _ s
  refine wpAny_bind (tupleItemsOf_ ht ?_)
  refine wpAny_bind (wpAny_typeOf hTs ?_)
  rw [if_pos (by decide)]
  refine wpAny_bind (slice_to2 hs (n := 3) (by decide) ?_)
  show wpAny _ _ (if ((0 : Int) == 0 && (1 : Int) == 1 && (2 : Nat) == 3) = true then _ else _) _ _ s
  rw [if_neg (by decide)]
  have hdrop : sizeOk (.seq #[x, y]) := by
    show #[x, y].size ≤ sizeLine
    size_fits
  first
    | exact wpAny_bind (m := Builtin.Tuple.tupleExact _) (wpAny_newObj_type (wpAny_pure ⟨_, rfl, wpAny_pure h⟩) hdrop)
    | exact wpAny_bind (m := Builtin.Tuple.tupleExact _) (wpAny_newObj_type (wpAny_bind (wpAny_pure (wpAny_pure ⟨_, rfl, wpAny_pure h⟩))) hdrop)
    | exact wpAny_bind (wpAny_bind (m := Builtin.Tuple.tupleExact _) (wpAny_newObj_type (wpAny_pure (wpAny_pure ⟨_, rfl, wpAny_pure h⟩)) hdrop))
    | exact wpAny_bind (wpAny_bind (m := Builtin.Tuple.tupleExact _) (wpAny_newObj_type (wpAny_pure ⟨_, rfl, wpAny_pure h⟩) hdrop))
theorem tail_t2 {g : Heap} {L : Addr} {m : Str → Option Value} {news : List (Addr × Obj)} {value slice : PySem.Expr} {t : Addr} {x y : Value} {u : Tok} {n : Nat} {Q : Value → Shared → Prop}
    (F : Fr g L s.heap m) (N : News g L s.heap news) (hm : (t, tupAt [x, y] n) ∈ news) (h : ∀ h', Fr g L h' m → News g L h' news → Q (.ref t) { s with heap := h' })
    (hs : subscripted slice false (.ref t) (.ref s.heap.objs.size) = operate [.ref s.heap.objs.size, .ref t] (getItem (.ref t) (.ref s.heap.objs.size)) := by with_unfolding_all rfl)
    (hg : ∀ r, letTemporaryGo value (.ref t) r = pure () := by intro _; with_unfolding_all rfl) :
    wpAny (model prog w) A (subscriptTail value slice (.ref t) (.ref s.heap.objs.size)) Q E { s with heap := s.heap.push { cls := .type "slice", data := .fields #[.none, .int 2 u, .none] } } := by
  have ht : IsTup s.heap t #[x, y] := N.isTup hm
  have ht' : IsTup (s.heap.push { cls := .type "slice", data := .fields #[.none, .int 2 u, .none] }) t #[x, y] := ht.keeps fun _ _ e => Heap.get?_push_of_some _ e
  exact subscriptTail_ops (s := { s with heap := s.heap.push { cls := .type "slice", data := .fields #[.none, .int 2 u, .none] } }) ht'.typeIs slot_tuple_getitem.lookup
    (getItem_t2 ht' (Heap.IsSliceOf.new ..) (h _ (F.push _) (N.grown fun _ _ e => Heap.get?_push_of_some _ e))) hs hg
theorem tail_t3 {g : Heap} {L : Addr} {m : Str → Option Value} {news : List (Addr × Obj)} {value slice : PySem.Expr} {t : Addr} {x y z : Value} {u : Tok} {n : Nat} {Q : Value → Shared → Prop}
    (F : Fr g L s.heap m) (N : News g L s.heap news) (hm : (t, tupAt [x, y, z] n) ∈ news) (h : ∀ D h', Fr g L h' m → News g L h' ((D, tupAt [x, y] 0) :: news) → Q (.ref D) { s with heap := h' })
    (hs : subscripted slice false (.ref t) (.ref s.heap.objs.size) = operate [.ref s.heap.objs.size, .ref t] (getItem (.ref t) (.ref s.heap.objs.size)) := by with_unfolding_all rfl)
    (hg : ∀ r, letTemporaryGo value (.ref t) r = pure () := by intro _; with_unfolding_all rfl) :
    wpAny (model prog w) A (subscriptTail value slice (.ref t) (.ref s.heap.objs.size)) Q E { s with heap := s.heap.push { cls := .type "slice", data := .fields #[.none, .int 2 u, .none] } } := by
  have ht : IsTup s.heap t #[x, y, z] := N.isTup hm
  have ht' : IsTup (s.heap.push { cls := .type "slice", data := .fields #[.none, .int 2 u, .none] }) t #[x, y, z] := ht.keeps fun _ _ e => Heap.get?_push_of_some _ e
  refine subscriptTail_ops (s := { s with heap := s.heap.push { cls := .type "slice", data := .fields #[.none, .int 2 u, .none] } }) ht'.typeIs slot_tuple_getitem.lookup
    (getItem_t3 ht' (Heap.IsSliceOf.new ..) ?_) hs hg
  have N1 := News.push (F.push { cls := .type "slice", data := .fields #[.none, .int 2 u, .none] }) (N.grown fun _ _ e => Heap.get?_push_of_some _ e) { cls := .type "tuple", data := .seq #[x, y] }
  exact h _ _ ((F.push _).push _) N1
end
end
section
theorem walk_off_P1 : True := by
  w_top off
  trivial
theorem next_spec (row : Addr) (o : Obj) (ho : RowIs o) (rest : List (Addr × Obj)) (hr : ∀ p ∈ rest, p.1 ≠ row) :
   Spec w 434 [.ref row] ((row, o) :: rest) 1 100 (fun v post => ∃ o' new, post = (row, o') :: (new ++ rest) ∧ Fresh row rest new ∧ (new = [] ∧ RowIs o' ∧ ∃ k t, v = .int k t)) := by
  refine wr_mp ?_
  simp (disch := (k_dflt (
      obtain ⟨vs, ns, n, rfl, hi, hl⟩ := ho
      unfold Spec
      k_fill
      intro p loose mean mg mb A A₀ env outer base h₀ L m s R B F X N T hA hf hke hh hd hu hret
      ( refine' code_def ?k1z9 ?k2z9 ?k3z9 ?k4z9 ?k5z9 ?kAz9 ?kFz9 ?kKz9 ?k6z9 ?k7z9 ?k8z9 ?k9z9 ?kBz9 ?_ ?c2z9 ?c3z9 ?c4z9 ?c5z9; (case kAz9 => assumption); (case kFz9 => assumption); (case kKz9 => assumption); (case k1z9 => k_asm); (case k2z9 => k_asm); (case k3z9 => k_asm); (case k4z9 => k_asm); (case k5z9 => k_asm); (case k6z9 => k_is); (case k7z9 => k_is); (case k8z9 => k_room); (case k9z9 => exact BindsTo.of_eq rfl); (case c5z9 => decide); (case kBz9 => exact locs rfl); (case c2z9 => exact rfl); (case c3z9 => exact rfl); (case c4z9 => exact rfl); k_whole; intro _ _ _ _ _ _ _ _ _; (with_reducible refine wp_never ?_); (try dsimp only); (try k_fold))
      (repeat' (first | (k_unfold; (try dsimp only)) | (k_here; (with_reducible show wpAny _ _ (setItem (Value.ref _) (Value.int _ _) _) _ _ _); k_dflt (refine' set_led ?Fz9 ?Nz9 ?Uz9 ?az9 ?bz9 ?zz9 ?_; (case Fz9 => k_asm); (case Nz9 => k_asm); (case Uz9 => k_upd); (case az9 => ksa_idx); (case bz9 => ksa_idx); (case zz9 => ksa_idx); k_whole); intro _ _ _; (try k_sweep)) | (k_here; (with_reducible show wpAny _ _ (call (Value.builtin "list.append") [Value.ref _, _]) _ _ _); k_dflt (refine' append_led ?Fz9 ?Nz9 ?Uz9 ?zz9 ?_; (case Fz9 => k_asm); (case Nz9 => k_asm); (case Uz9 => k_upd); (case zz9 => ksa_idx); k_whole); intro _ _ _; (try k_sweep)) | (k_here; (with_reducible show wpAny _ _ (call (Value.builtin "len") [Value.ref _]) _ _ _); k_dflt (refine' len_led ?Nz9 ?mz9 ?zz9 ?_; (case Nz9 => k_asm); (case mz9 => k_mem); (case zz9 => ksa_idx); k_whole); intro _ _) | (k_here; (with_reducible show wpAny _ _ (subscriptTail _ _ (Value.ref _) (Value.int _ _)) _ _ _); k_dflt (refine' item_led ?Nz9 ?mz9 ?az9 ?bz9 ?xz9 ?_; (case Nz9 => k_asm); (case mz9 => k_mem); (case az9 => omega); (case bz9 => omega); (case xz9 => assumption))) | (k_end; kc_close) | (k_end; wrow_close) | walk1 | (dsimp only; walk1) | (leave1; (try dsimp only)) | fail "no step"))
      · rename_i kF kN _ _
        exact hret _ _ _ _ kF (fun p hp => kN p (.tail _ hp)) ⟨_, [], rfl, Fresh.nil, rfl, ⟨vs, ns, n, rfl, hi, hl⟩, _, _, rfl⟩
      · rename_i hI kF kN _ _
        exact hret _ _ _ _ kF (fun p hp => kN p (.tail _ hp)) ⟨_, [], rfl, Fresh.nil, rfl, ⟨_, _, _, rfl, hI, by simp; omega⟩, _, _, rfl⟩))) only [↓wr_true]
end
section
theorem walk_off_P3 : True := by
  w_top off
  trivial
noncomputable abbrev tupOf (vs : List Value) : Obj := { cls := .type "tuple", data := .seq vs.toArray }
/-- what a call of _law_term leaves -/
noncomputable def TermPost {T : Type} (ok : T → Prop) (d : T → Dat) (row : Addr) (rest : List (Addr × Obj)) (v : Value) (post : List (Addr × Obj)) : Prop :=
  ∃ o' new, post = (row, o') :: (new ++ rest) ∧ Fresh row rest new ∧ (RowIs o' ∧ ∃ T : T, ok T ∧ DatIn new v (d T))
theorem term_leaf {T : Type} {ok : T → Prop} {dd : T → Dat} {row D : Addr} {rest : List (Addr × Obj)} {o' : Obj} {c : Str} {k : Int} {t u : Tok} (ho : RowIs o') (h1 : @LT.lt Nat _ row D) (h2 : AllLt D rest) (x : T) (hx : ok x) (e : dd x = .tuple [.str c, .int k]) :
    TermPost ok dd row rest (.ref D) ((row, o') :: ([(D, tupOf [.str c t, .int k u])] ++ rest)) :=
  ⟨_, [_], rfl, .cons h1 h2 .nil, ho, x, hx, e ▸ .tuple (.head _) (.cons (.str _ _) (.cons (.int _ _) .nil))⟩
theorem term_s1 {h₀ h : Heap} {L row D D1 : Addr} {rest n1 : List (Addr × Obj)} {o' : Obj} {t u : Tok} {v1 : Value} {x : Lf} (N : News h₀ L h ((D, tupOf [.str (Str.ofString "s") t, .int 12 u, .ref D1]) :: (D1, tupOf [v1]) :: (n1 ++ (row, o') :: rest)))
    (l1 : @LT.lt Nat _ row D1) (l1' : AllLt D1 rest) (l2 : @LT.lt Nat _ row D) (l2' : AllLt D rest)
    (hf : ∀ p ∈ n1, @LT.lt Nat _ row p.1) (hf' : ∀ p ∈ n1, ∀ q ∈ rest, @LT.lt Nat _ q.1 p.1) (hd : DatIn n1 v1 x.d) (hx : x.ok) (ho : RowIs o') :
    ∃ post, News h₀ L h post ∧ TermPost Tm.ok Tm.d row rest (.ref D) post :=
  ⟨_, News.sub (l' := (row, o') :: (((D, tupOf [.str (Str.ofString "s") t, .int 12 u, .ref D1]) :: (D1, tupOf [v1]) :: n1) ++ rest)) N (by kqd_sub), _, _, rfl, .cons l2 l2' (.cons l1 l1' fun p hp => ⟨hf p hp, hf' p hp⟩), ho, .s 12 [x], ⟨by simpa using hx, .inl ⟨rfl, rfl⟩⟩,
    .tuple (.head _) (.cons (.str _ _) (.cons (.int _ _) (.cons (.tuple (.tail _ (.head _)) (.cons (hd.mono fun p hp => .tail _ (.tail _ hp)) .nil)) .nil)))⟩
theorem term_s2 {h₀ h : Heap} {L row D D1 : Addr} {rest n1 n2 : List (Addr × Obj)} {o' : Obj} {t u : Tok} {f : Int} {v1 v2 : Value} {x y : Lf} (N : News h₀ L h ((D, tupOf [.str (Str.ofString "s") t, .int f u, .ref D1]) :: (D1, tupOf [v1, v2]) :: (n2 ++ (n1 ++ (row, o') :: rest))))
    (l1 : @LT.lt Nat _ row D1) (l1' : AllLt D1 rest) (l2 : @LT.lt Nat _ row D) (l2' : AllLt D rest)
    (hf : ∀ p ∈ n1, @LT.lt Nat _ row p.1) (hf' : ∀ p ∈ n1, ∀ q ∈ rest, @LT.lt Nat _ q.1 p.1) (hg : ∀ p ∈ n2, @LT.lt Nat _ row p.1) (hg' : ∀ p ∈ n2, ∀ q ∈ rest, @LT.lt Nat _ q.1 p.1) (hd : DatIn n1 v1 x.d) (hd2 : DatIn n2 v2 y.d) (hx : x.ok) (hy : y.ok) (ho : RowIs o') (hF : f = 0 ∨ f = 13) :
    ∃ post, News h₀ L h post ∧ TermPost Tm.ok Tm.d row rest (.ref D) post :=
  ⟨_, News.sub (l' := (row, o') :: (((D, tupOf [.str (Str.ofString "s") t, .int f u, .ref D1]) :: (D1, tupOf [v1, v2]) :: (n2 ++ n1)) ++ rest)) N (by kqd_sub), _, _, rfl, .cons l2 l2' (.cons l1 l1' (Fresh.app (fun p hp => ⟨hg p hp, hg' p hp⟩) fun p hp => ⟨hf p hp, hf' p hp⟩)), ho, .s f [x, y], ⟨by simp [hx, hy], .inr ⟨hF, rfl⟩⟩,
    .tuple (.head _) (.cons (.str _ _) (.cons (.int _ _) (.cons (.tuple (.tail _ (.head _)) (.cons (hd.mono fun p hp => .tail _ (.tail _ (List.mem_append.mpr (.inr hp)))) (.cons (hd2.mono fun p hp => .tail _ (.tail _ (List.mem_append.mpr (.inl hp)))) .nil))) .nil)))⟩
theorem term0_spec (row : Addr) (tk0 : Tok) (o : Obj) (ho : RowIs o) (rest : List (Addr × Obj)) (hr : ∀ p ∈ rest, p.1 ≠ row) :
   Spec w 441 [.ref row, .int 0 tk0] ((row, o) :: rest) 3 150 (TermPost Lf.ok Lf.d row rest) := by
  refine wr_mp ?_
  simp (disch := (k_dflt (
      unfold Spec
      k_fill
      intro p loose mean mg mb A A₀ env outer base h₀ L m s R B F X N T hA hf hke hh hd hu hret
      ( refine' code_def ?k1z9 ?k2z9 ?k3z9 ?k4z9 ?k5z9 ?kAz9 ?kFz9 ?kKz9 ?k6z9 ?k7z9 ?k8z9 ?k9z9 ?kBz9 ?_ ?c2z9 ?c3z9 ?c4z9 ?c5z9; (case kAz9 => assumption); (case kFz9 => assumption); (case kKz9 => assumption); (case k1z9 => k_asm); (case k2z9 => k_asm); (case k3z9 => k_asm); (case k4z9 => k_asm); (case k5z9 => k_asm); (case k6z9 => k_is); (case k7z9 => k_is); (case k8z9 => k_room); (case k9z9 => exact BindsTo.of_eq rfl); (case c5z9 => decide); (case kBz9 => exact locs rfl); (case c2z9 => exact rfl); (case c3z9 => exact rfl); (case c4z9 => exact rfl); k_whole; intro _ _ _ _ _ _ _ _ _; (with_reducible refine wp_never ?_); (try dsimp only); (try k_fold))
      (repeat' (first | (k_unfold; (try dsimp only)) | (k_here; (with_reducible show wpAny _ _ (call (Value.ref 434) _) _ _ _); k_dflt (refine' Spec.use (Spec.upd (fun rest hr _ => next_spec _ _ ?ho rest hr) ?kU) ?kB ?kF ?kX ?kN ?kT ?kA ?kf ?kk ?kh ?kd ?ku ?_; ktn_step; (case kU => (intro o9; k_upd)); (case ho => assumption); intro v9 post9 h9 tk9 F9 N9 hp9; obtain ⟨o9, new9, e9, hne9, hfr9, f9, ho9, k9, t9, i9⟩ := hp9; subst e9; subst f9; subst i9; (try dsimp only [List.nil_append] at N9); clear hfr9 hne9; (try dsimp only); (try k_fold))) | (k_here; (with_reducible show wpAny _ _ (setItem (Value.ref _) (Value.int _ _) _) _ _ _); k_dflt (refine' set_led ?Fz9 ?Nz9 ?Uz9 ?az9 ?bz9 ?zz9 ?_; (case Fz9 => k_asm); (case Nz9 => k_asm); (case Uz9 => k_upd); (case az9 => ksa_idx); (case bz9 => ksa_idx); (case zz9 => ksa_idx); k_whole); intro _ _ _; (try k_sweep)) | (k_here; (with_reducible show wpAny _ _ (call (Value.builtin "list.append") [Value.ref _, _]) _ _ _); k_dflt (refine' append_led ?Fz9 ?Nz9 ?Uz9 ?zz9 ?_; (case Fz9 => k_asm); (case Nz9 => k_asm); (case Uz9 => k_upd); (case zz9 => ksa_idx); k_whole); intro _ _ _; (try k_sweep)) | (k_here; (with_reducible show wpAny _ _ (call (Value.builtin "len") [Value.ref _]) _ _ _); k_dflt (refine' len_led ?Nz9 ?mz9 ?zz9 ?_; (case Nz9 => k_asm); (case mz9 => k_mem); (case zz9 => ksa_idx); k_whole); intro _ _) | (k_here; (with_reducible show wpAny _ _ (subscriptTail _ _ (Value.ref _) (Value.int _ _)) _ _ _); k_dflt (refine' item_led ?Nz9 ?mz9 ?az9 ?bz9 ?xz9 ?_; (case Nz9 => k_asm); (case mz9 => k_mem); (case az9 => omega); (case bz9 => omega); (case xz9 => assumption))) | (k_end; kc_close) | (k_end; wrow_close) | walk1 | (dsimp only; walk1) | (leave1; (try dsimp only)) | fail "no step"))
      case _ => 
        rename_i kF kN _ _
        exact hret _ _ _ _ kF (News.sub kN (by kqd_sub)) (term_leaf (by assumption) (by assumption) (by assumption) (.a _) trivial rfl)
      case _ => 
        rename_i kF kN _ _
        exact hret _ _ _ _ kF (News.sub kN (by kqd_sub)) (term_leaf (by assumption) (by assumption) (by assumption) (.i _) trivial rfl)
      case _ =>
        rename (Int.fmod _ _ = 4) => hk
        exact (fmod_no hk).elim
      case _ => 
        rename_i kF kN _ _
        exact hret _ _ _ _ kF (News.sub kN (by kqd_sub)) (term_leaf (by assumption) (by assumption) (by assumption) (.v _) (fmod_ok (by decide)) rfl)))) only [↓wr_true]
theorem term1_spec (row : Addr) (tk0 : Tok) (o : Obj) (ho : RowIs o) (rest : List (Addr × Obj)) (hr : ∀ p ∈ rest, p.1 ≠ row) :
   Spec w 441 [.ref row, .int 1 tk0] ((row, o) :: rest) 6 160 (TermPost Tm.ok Tm.d row rest) := by
  refine wr_mp ?_
  simp (disch := (k_dflt (
      unfold Spec
      k_fill
      intro p loose mean mg mb A A₀ env outer base h₀ L m s R B F X N T hA hf hke hh hd hu hret
      ( refine' code_def ?k1z9 ?k2z9 ?k3z9 ?k4z9 ?k5z9 ?kAz9 ?kFz9 ?kKz9 ?k6z9 ?k7z9 ?k8z9 ?k9z9 ?kBz9 ?_ ?c2z9 ?c3z9 ?c4z9 ?c5z9; (case kAz9 => assumption); (case kFz9 => assumption); (case kKz9 => assumption); (case k1z9 => k_asm); (case k2z9 => k_asm); (case k3z9 => k_asm); (case k4z9 => k_asm); (case k5z9 => k_asm); (case k6z9 => k_is); (case k7z9 => k_is); (case k8z9 => k_room); (case k9z9 => exact BindsTo.of_eq rfl); (case c5z9 => decide); (case kBz9 => exact locs rfl); (case c2z9 => exact rfl); (case c3z9 => exact rfl); (case c4z9 => exact rfl); k_whole; intro _ _ _ _ _ _ _ _ _; (with_reducible refine wp_never ?_); (try dsimp only); (try k_fold))
      (repeat' (first | (k_unfold; (try dsimp only)) | (k_here; (with_reducible show wpAny _ _ (call (Value.ref 441) _) _ _ _); k_dflt (refine' Spec.use (Spec.upd (fun rest hr _ => term0_spec _ _ _ ?ho rest hr) ?kU) ?kB ?kF ?kX ?kN ?kT ?kA ?kf ?kk ?kh ?kd ?ku ?_; ktn_step; (case kU => (intro o9; k_upd)); (case ho => assumption); intro v9 post9 h9 tk9 F9 N9 hp9; obtain ⟨o9, new9, e9, hne9, hfr9, ho9, T9, hT9, hD9⟩ := hp9; subst e9; (try simp only [List.forall_mem_cons, List.forall_mem_append, List.forall_mem_nil, imp_and, forall_and, and_true, implies_true] at hfr9); (repeat (rename _ ∧ _ => hc9; obtain ⟨_, _⟩ := hc9)); (try dsimp only); (try k_fold))) | (k_here; (with_reducible show wpAny _ _ (call (Value.ref 434) _) _ _ _); k_dflt (refine' Spec.use (Spec.upd (fun rest hr _ => next_spec _ _ ?ho rest hr) ?kU) ?kB ?kF ?kX ?kN ?kT ?kA ?kf ?kk ?kh ?kd ?ku ?_; ktn_step; (case kU => (intro o9; k_upd)); (case ho => assumption); intro v9 post9 h9 tk9 F9 N9 hp9; obtain ⟨o9, new9, e9, hne9, hfr9, f9, ho9, k9, t9, i9⟩ := hp9; subst e9; subst f9; subst i9; (try dsimp only [List.nil_append] at N9); clear hfr9 hne9; (try dsimp only); (try k_fold))) | (k_here; (with_reducible show wpAny _ _ (setItem (Value.ref _) (Value.int _ _) _) _ _ _); k_dflt (refine' set_led ?Fz9 ?Nz9 ?Uz9 ?az9 ?bz9 ?zz9 ?_; (case Fz9 => k_asm); (case Nz9 => k_asm); (case Uz9 => k_upd); (case az9 => ksa_idx); (case bz9 => ksa_idx); (case zz9 => ksa_idx); k_whole); intro _ _ _; (try k_sweep)) | (k_here; (with_reducible show wpAny _ _ (call (Value.builtin "list.append") [Value.ref _, _]) _ _ _); k_dflt (refine' append_led ?Fz9 ?Nz9 ?Uz9 ?zz9 ?_; (case Fz9 => k_asm); (case Nz9 => k_asm); (case Uz9 => k_upd); (case zz9 => ksa_idx); k_whole); intro _ _ _; (try k_sweep)) | (k_here; (with_reducible show wpAny _ _ (call (Value.builtin "len") [Value.ref _]) _ _ _); k_dflt (refine' len_led ?Nz9 ?mz9 ?zz9 ?_; (case Nz9 => k_asm); (case mz9 => k_mem); (case zz9 => ksa_idx); k_whole); intro _ _) | (k_here; (with_reducible show wpAny _ _ (subscriptTail _ _ (Value.ref _) (Value.int _ _)) _ _ _); k_dflt (refine' item_led ?Nz9 ?mz9 ?az9 ?bz9 ?xz9 ?_; (case Nz9 => k_asm); (case mz9 => k_mem); (case az9 => omega); (case bz9 => omega); (case xz9 => assumption))) | (k_end; kc_close) | (k_end; wrow_close) | walk1 | (dsimp only; walk1) | (leave1; (try dsimp only)) | fail "no step"))
      case _ => 
        rename_i kF kN _ _
        exact hret _ _ _ _ kF (News.sub kN (by kqd_sub)) (term_leaf (by assumption) (by assumption) (by assumption) (.lf (.a _)) trivial rfl)
      case _ => 
        rename_i kF kN _ _
        exact hret _ _ _ _ kF (News.sub kN (by kqd_sub)) (term_leaf (by assumption) (by assumption) (by assumption) (.lf (.i _)) trivial rfl)
      case _ =>
        rename_i kF kN _ _
        obtain ⟨post, N', P'⟩ := term_s1 kN (by assumption) (by assumption) (by assumption) (by assumption) (by assumption) (by assumption) (by assumption) (by assumption) (by assumption) 
        exact hret _ _ _ _ kF N' P'
      case _ =>
        rename_i kF kN _ _
        obtain ⟨post, N', P'⟩ := term_s2 kN (by assumption) (by assumption) (by assumption) (by assumption) (by assumption) (by assumption) (by assumption) (by assumption) (by assumption) (by assumption) (by assumption) (by assumption) (by assumption)  (.inl rfl)
        exact hret _ _ _ _ kF N' P'
      case _ =>
        rename_i kF kN _ _
        obtain ⟨post, N', P'⟩ := term_s2 kN (by assumption) (by assumption) (by assumption) (by assumption) (by assumption) (by assumption) (by assumption) (by assumption) (by assumption) (by assumption) (by assumption) (by assumption) (by assumption)  (.inr rfl)
        exact hret _ _ _ _ kF N' P'
      case _ => 
        rename_i kF kN _ _
        exact hret _ _ _ _ kF (News.sub kN (by kqd_sub)) (term_leaf (by assumption) (by assumption) (by assumption) (.lf (.v _)) (fmod_ok (by decide)) rfl)))) only [↓wr_true]
end
section
theorem walk_off_P4 : True := by
  w_top off
  trivial
theorem pure_one' {h₀ h : Heap} {L D : Addr} {x : Obj} {rest R : List (Addr × Obj)} {d : Dat} (N : News h₀ L h ((D, x) :: rest)) (l1 : AllLt D rest) (hd : DatIn ((D, x) :: R) (.ref D) d) :
    ∃ post, News h₀ L h post ∧ PurePost rest R d (.ref D) post :=
  ⟨_, N, [(D, x)], rfl, (fun p hp => by rw [List.mem_singleton.mp hp]; exact ktn_ltOf l1), hd⟩
theorem pure_two {h₀ h : Heap} {L D D1 : Addr} {x y : Obj} {rest R : List (Addr × Obj)} {d : Dat} (N : News h₀ L h ((D, x) :: (D1, y) :: rest)) (l1 : AllLt D1 rest) (l2 : AllLt D rest) (hd : DatIn ((D, x) :: (D1, y) :: R) (.ref D) d) :
    ∃ post, News h₀ L h post ∧ PurePost rest R d (.ref D) post :=
  ⟨_, N, [(D, x), (D1, y)], rfl, (fun p hp => by
    rcases List.mem_cons.mp hp with rfl | hp
    · exact ktn_ltOf l2
    · rw [List.mem_singleton.mp hp]; exact ktn_ltOf l1), hd⟩
theorem lawkey_spec (v : Value) (T : Tm) (rest RD : List (Addr × Obj)) (hT : DatIn rest v T.d) :
   Spec w 448 [v] rest 3 100 (PurePost rest RD T.key.d) := by
  refine wr_mp ?_
  simp (disch := (k_dflt (
      unfold Spec
      k_fill
      intro p loose mean mg mb A A₀ env outer base h₀ L m s R B F X N T9 hA hf hke hh hd hu hret
      rcases T with (n | k | k) | ⟨f, xs⟩
      · obtain ⟨a, n, t, u, rfl, hm⟩ := dat_ci hT
        ( refine' code_def ?k1z9 ?k2z9 ?k3z9 ?k4z9 ?k5z9 ?kAz9 ?kFz9 ?kKz9 ?k6z9 ?k7z9 ?k8z9 ?k9z9 ?kBz9 ?_ ?c2z9 ?c3z9 ?c4z9 ?c5z9; (case kAz9 => assumption); (case kFz9 => assumption); (case kKz9 => assumption); (case k1z9 => k_asm); (case k2z9 => k_asm); (case k3z9 => k_asm); (case k4z9 => k_asm); (case k5z9 => k_asm); (case k6z9 => k_is); (case k7z9 => k_is); (case k8z9 => k_room); (case k9z9 => exact BindsTo.of_eq rfl); (case c5z9 => decide); (case kBz9 => exact locs rfl); (case c2z9 => exact rfl); (case c3z9 => exact rfl); (case c4z9 => exact rfl); k_whole; intro _ _ _ _ _ _ _ _ _; (with_reducible refine wp_never ?_); (try dsimp only); (try k_fold))
        (repeat' (first | (k_unfold; (try dsimp only)) | (k_here; (with_reducible show wpAny _ _ (setItem (Value.ref _) (Value.int _ _) _) _ _ _); k_dflt (refine' set_led ?Fz9 ?Nz9 ?Uz9 ?az9 ?bz9 ?zz9 ?_; (case Fz9 => k_asm); (case Nz9 => k_asm); (case Uz9 => k_upd); (case az9 => ksa_idx); (case bz9 => ksa_idx); (case zz9 => ksa_idx); k_whole); intro _ _ _; (try k_sweep)) | (k_here; (with_reducible show wpAny _ _ (call (Value.builtin "list.append") [Value.ref _, _]) _ _ _); k_dflt (refine' append_led ?Fz9 ?Nz9 ?Uz9 ?zz9 ?_; (case Fz9 => k_asm); (case Nz9 => k_asm); (case Uz9 => k_upd); (case zz9 => ksa_idx); k_whole); intro _ _ _; (try k_sweep)) | (k_here; (with_reducible show wpAny _ _ (call (Value.builtin "len") [Value.ref _]) _ _ _); k_dflt (refine' len_led ?Nz9 ?mz9 ?zz9 ?_; (case Nz9 => k_asm); (case mz9 => k_mem); (case zz9 => ksa_idx); k_whole); intro _ _) | (k_here; (with_reducible show wpAny _ _ (subscriptTail _ _ (Value.ref _) (Value.int _ _)) _ _ _); k_dflt (refine' item_led ?Nz9 ?mz9 ?az9 ?bz9 ?xz9 ?_; (case Nz9 => k_asm); (case mz9 => k_mem); (case az9 => omega); (case bz9 => omega); (case xz9 => assumption))) | (k_end; kc_close) | (k_end; wrow_close) | walk1 | (dsimp only; walk1) | (leave1; (try dsimp only)) | fail "no step"))
        rename_i kF kN _ _
        obtain ⟨post, N', P'⟩ := pure_one' (R := RD) kN (by assumption) (.tuple (.head _) (.cons (.str _ _) .nil))
        exact hret _ _ _ _ kF N' P'
      · obtain ⟨a, n, t, u, rfl, hm⟩ := dat_ci hT
        ( refine' code_def ?k1z9 ?k2z9 ?k3z9 ?k4z9 ?k5z9 ?kAz9 ?kFz9 ?kKz9 ?k6z9 ?k7z9 ?k8z9 ?k9z9 ?kBz9 ?_ ?c2z9 ?c3z9 ?c4z9 ?c5z9; (case kAz9 => assumption); (case kFz9 => assumption); (case kKz9 => assumption); (case k1z9 => k_asm); (case k2z9 => k_asm); (case k3z9 => k_asm); (case k4z9 => k_asm); (case k5z9 => k_asm); (case k6z9 => k_is); (case k7z9 => k_is); (case k8z9 => k_room); (case k9z9 => exact BindsTo.of_eq rfl); (case c5z9 => decide); (case kBz9 => exact locs rfl); (case c2z9 => exact rfl); (case c3z9 => exact rfl); (case c4z9 => exact rfl); k_whole; intro _ _ _ _ _ _ _ _ _; (with_reducible refine wp_never ?_); (try dsimp only); (try k_fold))
        (repeat' (first | (k_unfold; (try dsimp only)) | (k_here; (with_reducible show wpAny _ _ (setItem (Value.ref _) (Value.int _ _) _) _ _ _); k_dflt (refine' set_led ?Fz9 ?Nz9 ?Uz9 ?az9 ?bz9 ?zz9 ?_; (case Fz9 => k_asm); (case Nz9 => k_asm); (case Uz9 => k_upd); (case az9 => ksa_idx); (case bz9 => ksa_idx); (case zz9 => ksa_idx); k_whole); intro _ _ _; (try k_sweep)) | (k_here; (with_reducible show wpAny _ _ (call (Value.builtin "list.append") [Value.ref _, _]) _ _ _); k_dflt (refine' append_led ?Fz9 ?Nz9 ?Uz9 ?zz9 ?_; (case Fz9 => k_asm); (case Nz9 => k_asm); (case Uz9 => k_upd); (case zz9 => ksa_idx); k_whole); intro _ _ _; (try k_sweep)) | (k_here; (with_reducible show wpAny _ _ (call (Value.builtin "len") [Value.ref _]) _ _ _); k_dflt (refine' len_led ?Nz9 ?mz9 ?zz9 ?_; (case Nz9 => k_asm); (case mz9 => k_mem); (case zz9 => ksa_idx); k_whole); intro _ _) | (k_here; (with_reducible show wpAny _ _ (subscriptTail _ _ (Value.ref _) (Value.int _ _)) _ _ _); k_dflt (refine' item_led ?Nz9 ?mz9 ?az9 ?bz9 ?xz9 ?_; (case Nz9 => k_asm); (case mz9 => k_mem); (case az9 => omega); (case bz9 => omega); (case xz9 => assumption))) | (k_end; kc_close) | (k_end; wrow_close) | walk1 | (dsimp only; walk1) | (leave1; (try dsimp only)) | fail "no step"))
        rename_i kF kN _ _
        obtain ⟨post, N', P'⟩ := pure_two (R := RD) kN (by assumption) (by assumption) (.tuple (.head _) (.cons (.str _ _) (.cons (.tuple (.tail _ (.head _)) (.cons (.int _ _) (.cons (.int _ _) .nil))) .nil)))
        exact hret _ _ _ _ kF N' P'
      · obtain ⟨a, n, t, u, rfl, hm⟩ := dat_ci hT
        ( refine' code_def ?k1z9 ?k2z9 ?k3z9 ?k4z9 ?k5z9 ?kAz9 ?kFz9 ?kKz9 ?k6z9 ?k7z9 ?k8z9 ?k9z9 ?kBz9 ?_ ?c2z9 ?c3z9 ?c4z9 ?c5z9; (case kAz9 => assumption); (case kFz9 => assumption); (case kKz9 => assumption); (case k1z9 => k_asm); (case k2z9 => k_asm); (case k3z9 => k_asm); (case k4z9 => k_asm); (case k5z9 => k_asm); (case k6z9 => k_is); (case k7z9 => k_is); (case k8z9 => k_room); (case k9z9 => exact BindsTo.of_eq rfl); (case c5z9 => decide); (case kBz9 => exact locs rfl); (case c2z9 => exact rfl); (case c3z9 => exact rfl); (case c4z9 => exact rfl); k_whole; intro _ _ _ _ _ _ _ _ _; (with_reducible refine wp_never ?_); (try dsimp only); (try k_fold))
        (repeat' (first | (k_unfold; (try dsimp only)) | (k_here; (with_reducible show wpAny _ _ (setItem (Value.ref _) (Value.int _ _) _) _ _ _); k_dflt (refine' set_led ?Fz9 ?Nz9 ?Uz9 ?az9 ?bz9 ?zz9 ?_; (case Fz9 => k_asm); (case Nz9 => k_asm); (case Uz9 => k_upd); (case az9 => ksa_idx); (case bz9 => ksa_idx); (case zz9 => ksa_idx); k_whole); intro _ _ _; (try k_sweep)) | (k_here; (with_reducible show wpAny _ _ (call (Value.builtin "list.append") [Value.ref _, _]) _ _ _); k_dflt (refine' append_led ?Fz9 ?Nz9 ?Uz9 ?zz9 ?_; (case Fz9 => k_asm); (case Nz9 => k_asm); (case Uz9 => k_upd); (case zz9 => ksa_idx); k_whole); intro _ _ _; (try k_sweep)) | (k_here; (with_reducible show wpAny _ _ (call (Value.builtin "len") [Value.ref _]) _ _ _); k_dflt (refine' len_led ?Nz9 ?mz9 ?zz9 ?_; (case Nz9 => k_asm); (case mz9 => k_mem); (case zz9 => ksa_idx); k_whole); intro _ _) | (k_here; (with_reducible show wpAny _ _ (subscriptTail _ _ (Value.ref _) (Value.int _ _)) _ _ _); k_dflt (refine' item_led ?Nz9 ?mz9 ?az9 ?bz9 ?xz9 ?_; (case Nz9 => k_asm); (case mz9 => k_mem); (case az9 => omega); (case bz9 => omega); (case xz9 => assumption))) | (k_end; kc_close) | (k_end; wrow_close) | walk1 | (dsimp only; walk1) | (leave1; (try dsimp only)) | fail "no step"))
        rename_i kF kN _ _
        obtain ⟨post, N', P'⟩ := pure_two (R := RD) kN (by assumption) (by assumption) (.tuple (.head _) (.cons (.str _ _) (.cons (.tuple (.tail _ (.head _)) (.cons (.int _ _) (.cons (.int _ _) .nil))) .nil)))
        exact hret _ _ _ _ kF N' P'
      · obtain ⟨a, n, t, u, b, m, ws, rfl, hm, hb, hws⟩ := dat_s hT
        ( refine' code_def ?k1z9 ?k2z9 ?k3z9 ?k4z9 ?k5z9 ?kAz9 ?kFz9 ?kKz9 ?k6z9 ?k7z9 ?k8z9 ?k9z9 ?kBz9 ?_ ?c2z9 ?c3z9 ?c4z9 ?c5z9; (case kAz9 => assumption); (case kFz9 => assumption); (case kKz9 => assumption); (case k1z9 => k_asm); (case k2z9 => k_asm); (case k3z9 => k_asm); (case k4z9 => k_asm); (case k5z9 => k_asm); (case k6z9 => k_is); (case k7z9 => k_is); (case k8z9 => k_room); (case k9z9 => exact BindsTo.of_eq rfl); (case c5z9 => decide); (case kBz9 => exact locs rfl); (case c2z9 => exact rfl); (case c3z9 => exact rfl); (case c4z9 => exact rfl); k_whole; intro _ _ _ _ _ _ _ _ _; (with_reducible refine wp_never ?_); (try dsimp only); (try k_fold))
        (repeat' (first | (k_unfold; (try dsimp only)) | (k_here; (with_reducible show wpAny _ _ (setItem (Value.ref _) (Value.int _ _) _) _ _ _); k_dflt (refine' set_led ?Fz9 ?Nz9 ?Uz9 ?az9 ?bz9 ?zz9 ?_; (case Fz9 => k_asm); (case Nz9 => k_asm); (case Uz9 => k_upd); (case az9 => ksa_idx); (case bz9 => ksa_idx); (case zz9 => ksa_idx); k_whole); intro _ _ _; (try k_sweep)) | (k_here; (with_reducible show wpAny _ _ (call (Value.builtin "list.append") [Value.ref _, _]) _ _ _); k_dflt (refine' append_led ?Fz9 ?Nz9 ?Uz9 ?zz9 ?_; (case Fz9 => k_asm); (case Nz9 => k_asm); (case Uz9 => k_upd); (case zz9 => ksa_idx); k_whole); intro _ _ _; (try k_sweep)) | (k_here; (with_reducible show wpAny _ _ (call (Value.builtin "len") [Value.ref _]) _ _ _); k_dflt (refine' len_led ?Nz9 ?mz9 ?zz9 ?_; (case Nz9 => k_asm); (case mz9 => k_mem); (case zz9 => ksa_idx); k_whole); intro _ _) | (k_here; (with_reducible show wpAny _ _ (subscriptTail _ _ (Value.ref _) (Value.int _ _)) _ _ _); k_dflt (refine' item_led ?Nz9 ?mz9 ?az9 ?bz9 ?xz9 ?_; (case Nz9 => k_asm); (case mz9 => k_mem); (case az9 => omega); (case bz9 => omega); (case xz9 => assumption))) | (k_end; kc_close) | (k_end; wrow_close) | walk1 | (dsimp only; walk1) | (leave1; (try dsimp only)) | fail "no step"))
        · rename_i kF kN _ _
          obtain ⟨post, N', P'⟩ := pure_one' (R := RD) (d := (Tm.s f xs).key.d) kN (by assumption) (by rw [show (Tm.s f xs).key = .list from if_pos (by assumption)]; exact .tuple (.head _) (.cons (.str _ _) .nil))
          exact hret _ _ _ _ kF N' P'
        · rename_i kF kN _ _
          obtain ⟨post, N', P'⟩ := pure_one' (R := RD) (d := (Tm.s f xs).key.d) kN (by assumption) (by rw [show (Tm.s f xs).key = .struct f from if_neg (by assumption)]; exact .tuple (.head _) (.cons (.str _ _) (.cons (.int _ _) .nil)))
          exact hret _ _ _ _ kF N' P'))) only [↓wr_true]
end
section
theorem walk_off_P5 : True := by
  w_top off
  trivial
theorem deref_spec (S H T : Addr) (oH oT : Obj) (hs ss : List (Int × Int)) (rest R : List (Addr × Obj)) (hZ : ∀ p ∈ R, p ∈ rest) (hS : StoreIs rest S H T) (hH : (H, oH) ∈ rest) (hT : (T, oT) ∈ rest) (cH : CellsAt R oH hs) (cT : CellsAt R oT ss)
   (c r : Int × Int) (hD : Deref hs ss c r) (v : Value) (hv : DatIn R v (cd c)) :
   Spec w 230 [.ref S, v] rest 3 200 (fun v' post => post = rest ∧ DatIn R v' (cd r)) := by
  unfold Spec
  k_fill
  intro p loose mean mg mb A A₀ env outer base h₀ L m s R B F X N T9 hA hf hke hh hd hu hret
  refine StoreIs.elim hS ?_
  intro SD SY TR h1 h2 h3 h4 h5 h6 h7 t1 t2 t3 t4 t5 t6 t7 u1 u2 u3 n hm1 hm2 _
  obtain ⟨vs, n1, rfl, dH, lH⟩ := cH.out
  obtain ⟨us, n2, rfl, dT, lT⟩ := cT.out
  ( refine' code_def ?k1z9 ?k2z9 ?k3z9 ?k4z9 ?k5z9 ?kAz9 ?kFz9 ?kKz9 ?k6z9 ?k7z9 ?k8z9 ?k9z9 ?kBz9 ?_ ?c2z9 ?c3z9 ?c4z9 ?c5z9; (case kAz9 => assumption); (case kFz9 => assumption); (case kKz9 => assumption); (case k1z9 => k_asm); (case k2z9 => k_asm); (case k3z9 => k_asm); (case k4z9 => k_asm); (case k5z9 => k_asm); (case k6z9 => k_is); (case k7z9 => k_is); (case k8z9 => k_room); (case k9z9 => exact BindsTo.of_eq rfl); (case c5z9 => decide); (case kBz9 => exact locs rfl); (case c2z9 => exact rfl); (case c3z9 => exact rfl); (case c4z9 => exact rfl); k_whole; intro _ _ _ _ _ _ _ _ _; (with_reducible refine wp_never ?_); (try dsimp only); (try k_fold))
  walk1
  refine wpAny_execs_cons ?_
  refine whl_start 1 ?_
  rename Fr _ _ _ _ => F'
  obtain ⟨u9, F2⟩ := fr_std F' (x := Str.ofString "self") (y := Str.ofString "cell") rfl rfl
  clear F'
  rename_i g0 L0 h0 FG0 N0 B0 X0 T0
  induction hD generalizing v h0 u9 tk with
  | @halt c e1 e2 =>
    obtain ⟨t, x⟩ := c
    obtain ⟨a, n', t', u', rfl, hm⟩ := dat_xy hv
    have hm := hZ _ hm
    dsimp only at e1 e2
    refine turn_to (k := 0) (fun _ => False) (fun _ h => h.elim) PassesOwn.never ?_
    (repeat' (first | (k_unfold; (try dsimp only)) | (k_here; (with_reducible show wpAny _ _ (setItem (Value.ref _) (Value.int _ _) _) _ _ _); k_dflt (refine' set_led ?Fz9 ?Nz9 ?Uz9 ?az9 ?bz9 ?zz9 ?_; (case Fz9 => k_asm); (case Nz9 => k_asm); (case Uz9 => k_upd); (case az9 => ksa_idx); (case bz9 => ksa_idx); (case zz9 => ksa_idx); k_whole); intro _ _ _; (try k_sweep)) | (k_here; (with_reducible show wpAny _ _ (call (Value.builtin "list.append") [Value.ref _, _]) _ _ _); k_dflt (refine' append_led ?Fz9 ?Nz9 ?Uz9 ?zz9 ?_; (case Fz9 => k_asm); (case Nz9 => k_asm); (case Uz9 => k_upd); (case zz9 => ksa_idx); k_whole); intro _ _ _; (try k_sweep)) | (k_here; (with_reducible show wpAny _ _ (call (Value.builtin "len") [Value.ref _]) _ _ _); k_dflt (refine' len_led ?Nz9 ?mz9 ?zz9 ?_; (case Nz9 => k_asm); (case mz9 => k_mem); (case zz9 => ksa_idx); k_whole); intro _ _) | (k_here; (with_reducible show wpAny _ _ (subscriptTail _ _ (Value.ref _) (Value.int _ _)) _ _ _); k_dflt (refine' item_led ?Nz9 ?mz9 ?az9 ?bz9 ?xz9 ?_; (case Nz9 => k_asm); (case mz9 => k_mem); (case az9 => omega); (case bz9 => omega); (case xz9 => assumption))) | (k_end; kc_close) | (k_end; wrow_close) | walk1 | (dsimp only; walk1) | (leave1; (try dsimp only)) | fail "no step"))
    · exact absurd (by assumption) e1
    · exact absurd (by assumption) e2
    · rename_i kF kN _ _
      exact hret _ _ _ _ kF kN ⟨rfl, hv⟩
  | selfH hx => 
    obtain ⟨a, n', t', u', rfl, hm⟩ := dat_xy hv
    have hm := hZ _ hm
    obtain ⟨v', hv1, hv2, hl⟩ := datAll_at dH hx
    obtain ⟨a', n', t', u', rfl, hm'⟩ := dat_xy hv2
    have hm' := hZ _ hm'
    refine turn_to (k := 0) (fun _ => False) (fun _ h => h.elim) PassesOwn.never ?_
    (repeat' (first | (k_unfold; (try dsimp only)) | (k_here; (with_reducible show wpAny _ _ (setItem (Value.ref _) (Value.int _ _) _) _ _ _); k_dflt (refine' set_led ?Fz9 ?Nz9 ?Uz9 ?az9 ?bz9 ?zz9 ?_; (case Fz9 => k_asm); (case Nz9 => k_asm); (case Uz9 => k_upd); (case az9 => ksa_idx); (case bz9 => ksa_idx); (case zz9 => ksa_idx); k_whole); intro _ _ _; (try k_sweep)) | (k_here; (with_reducible show wpAny _ _ (call (Value.builtin "list.append") [Value.ref _, _]) _ _ _); k_dflt (refine' append_led ?Fz9 ?Nz9 ?Uz9 ?zz9 ?_; (case Fz9 => k_asm); (case Nz9 => k_asm); (case Uz9 => k_upd); (case zz9 => ksa_idx); k_whole); intro _ _ _; (try k_sweep)) | (k_here; (with_reducible show wpAny _ _ (call (Value.builtin "len") [Value.ref _]) _ _ _); k_dflt (refine' len_led ?Nz9 ?mz9 ?zz9 ?_; (case Nz9 => k_asm); (case mz9 => k_mem); (case zz9 => ksa_idx); k_whole); intro _ _) | (k_here; (with_reducible show wpAny _ _ (subscriptTail _ _ (Value.ref _) (Value.int _ _)) _ _ _); k_dflt (refine' item_led ?Nz9 ?mz9 ?az9 ?bz9 ?xz9 ?_; (case Nz9 => k_asm); (case mz9 => k_mem); (case az9 => omega); (case bz9 => omega); (case xz9 => assumption))) | (k_end; kc_close) | (k_end; wrow_close) | walk1 | (dsimp only; walk1) | (leave1; (try dsimp only)) | fail "no step"))
    rename_i kF kN _ _
    exact hret _ _ _ _ kF kN ⟨rfl, hv⟩
  | selfS hx => 
    obtain ⟨a, n', t', u', rfl, hm⟩ := dat_xy hv
    have hm := hZ _ hm
    obtain ⟨v', hv1, hv2, hl⟩ := datAll_at dT hx
    obtain ⟨a', n', t', u', rfl, hm'⟩ := dat_xy hv2
    have hm' := hZ _ hm'
    refine turn_to (k := 0) (fun _ => False) (fun _ h => h.elim) PassesOwn.never ?_
    (repeat' (first | (k_unfold; (try dsimp only)) | (k_here; (with_reducible show wpAny _ _ (setItem (Value.ref _) (Value.int _ _) _) _ _ _); k_dflt (refine' set_led ?Fz9 ?Nz9 ?Uz9 ?az9 ?bz9 ?zz9 ?_; (case Fz9 => k_asm); (case Nz9 => k_asm); (case Uz9 => k_upd); (case az9 => ksa_idx); (case bz9 => ksa_idx); (case zz9 => ksa_idx); k_whole); intro _ _ _; (try k_sweep)) | (k_here; (with_reducible show wpAny _ _ (call (Value.builtin "list.append") [Value.ref _, _]) _ _ _); k_dflt (refine' append_led ?Fz9 ?Nz9 ?Uz9 ?zz9 ?_; (case Fz9 => k_asm); (case Nz9 => k_asm); (case Uz9 => k_upd); (case zz9 => ksa_idx); k_whole); intro _ _ _; (try k_sweep)) | (k_here; (with_reducible show wpAny _ _ (call (Value.builtin "len") [Value.ref _]) _ _ _); k_dflt (refine' len_led ?Nz9 ?mz9 ?zz9 ?_; (case Nz9 => k_asm); (case mz9 => k_mem); (case zz9 => ksa_idx); k_whole); intro _ _) | (k_here; (with_reducible show wpAny _ _ (subscriptTail _ _ (Value.ref _) (Value.int _ _)) _ _ _); k_dflt (refine' item_led ?Nz9 ?mz9 ?az9 ?bz9 ?xz9 ?_; (case Nz9 => k_asm); (case mz9 => k_mem); (case az9 => omega); (case bz9 => omega); (case xz9 => assumption))) | (k_end; kc_close) | (k_end; wrow_close) | walk1 | (dsimp only; walk1) | (leave1; (try dsimp only)) | fail "no step"))
    rename_i kF kN _ _
    exact hret _ _ _ _ kF kN ⟨rfl, hv⟩
  | @stepH x c r hx hne hc ih => 
    obtain ⟨a, n', t', u', rfl, hm⟩ := dat_xy hv
    have hm := hZ _ hm
    obtain ⟨v', hv1, hv2, hl⟩ := datAll_at dH hx
    obtain ⟨y, z⟩ := c
    obtain ⟨a', n', t', u', rfl, hm'⟩ := dat_xy hv2
    have hm' := hZ _ hm'
    refine turn_to (k := 0) (fun s' => ∃ h' tk' u', s' = { s with heap := h', toks := tk' } ∧ Fr g0 L0 h' (std (Str.ofString "self") (Str.ofString "cell") (.ref S) (.ref a') u') ∧ News g0 L0 h' rest) ?_ PassesOwn.never ?_
    · rintro s' ⟨h', tk', u', rfl, F', N'⟩
      exact ih _ hv2 hret _ N' _ _ F'
    (repeat' (first | (k_unfold; (try dsimp only)) | (k_here; (with_reducible show wpAny _ _ (setItem (Value.ref _) (Value.int _ _) _) _ _ _); k_dflt (refine' set_led ?Fz9 ?Nz9 ?Uz9 ?az9 ?bz9 ?zz9 ?_; (case Fz9 => k_asm); (case Nz9 => k_asm); (case Uz9 => k_upd); (case az9 => ksa_idx); (case bz9 => ksa_idx); (case zz9 => ksa_idx); k_whole); intro _ _ _; (try k_sweep)) | (k_here; (with_reducible show wpAny _ _ (call (Value.builtin "list.append") [Value.ref _, _]) _ _ _); k_dflt (refine' append_led ?Fz9 ?Nz9 ?Uz9 ?zz9 ?_; (case Fz9 => k_asm); (case Nz9 => k_asm); (case Uz9 => k_upd); (case zz9 => ksa_idx); k_whole); intro _ _ _; (try k_sweep)) | (k_here; (with_reducible show wpAny _ _ (call (Value.builtin "len") [Value.ref _]) _ _ _); k_dflt (refine' len_led ?Nz9 ?mz9 ?zz9 ?_; (case Nz9 => k_asm); (case mz9 => k_mem); (case zz9 => ksa_idx); k_whole); intro _ _) | (k_here; (with_reducible show wpAny _ _ (subscriptTail _ _ (Value.ref _) (Value.int _ _)) _ _ _); k_dflt (refine' item_led ?Nz9 ?mz9 ?az9 ?bz9 ?xz9 ?_; (case Nz9 => k_asm); (case mz9 => k_mem); (case az9 => omega); (case bz9 => omega); (case xz9 => assumption))) | (k_end; kc_close) | (k_end; wrow_close) | walk1 | (dsimp only; walk1) | (leave1; (try dsimp only)) | fail "no step"))
    · exact absurd (by simpa using (by assumption : (y == 0 && z == (x : Int)) = true)) hne
    · show Stop9 _
      rename Fr _ _ _ _ => F'
      rename News _ _ _ _ => N'
      obtain ⟨u', F''⟩ := fr_std F' (x := Str.ofString "self") (y := Str.ofString "cell") rfl rfl
      exact ⟨_, _, u', rfl, F'', N'⟩
  | @stepS x c r hx hne hc ih => 
    obtain ⟨a, n', t', u', rfl, hm⟩ := dat_xy hv
    have hm := hZ _ hm
    obtain ⟨v', hv1, hv2, hl⟩ := datAll_at dT hx
    obtain ⟨y, z⟩ := c
    obtain ⟨a', n', t', u', rfl, hm'⟩ := dat_xy hv2
    have hm' := hZ _ hm'
    refine turn_to (k := 0) (fun s' => ∃ h' tk' u', s' = { s with heap := h', toks := tk' } ∧ Fr g0 L0 h' (std (Str.ofString "self") (Str.ofString "cell") (.ref S) (.ref a') u') ∧ News g0 L0 h' rest) ?_ PassesOwn.never ?_
    · rintro s' ⟨h', tk', u', rfl, F', N'⟩
      exact ih _ hv2 hret _ N' _ _ F'
    (repeat' (first | (k_unfold; (try dsimp only)) | (k_here; (with_reducible show wpAny _ _ (setItem (Value.ref _) (Value.int _ _) _) _ _ _); k_dflt (refine' set_led ?Fz9 ?Nz9 ?Uz9 ?az9 ?bz9 ?zz9 ?_; (case Fz9 => k_asm); (case Nz9 => k_asm); (case Uz9 => k_upd); (case az9 => ksa_idx); (case bz9 => ksa_idx); (case zz9 => ksa_idx); k_whole); intro _ _ _; (try k_sweep)) | (k_here; (with_reducible show wpAny _ _ (call (Value.builtin "list.append") [Value.ref _, _]) _ _ _); k_dflt (refine' append_led ?Fz9 ?Nz9 ?Uz9 ?zz9 ?_; (case Fz9 => k_asm); (case Nz9 => k_asm); (case Uz9 => k_upd); (case zz9 => ksa_idx); k_whole); intro _ _ _; (try k_sweep)) | (k_here; (with_reducible show wpAny _ _ (call (Value.builtin "len") [Value.ref _]) _ _ _); k_dflt (refine' len_led ?Nz9 ?mz9 ?zz9 ?_; (case Nz9 => k_asm); (case mz9 => k_mem); (case zz9 => ksa_idx); k_whole); intro _ _) | (k_here; (with_reducible show wpAny _ _ (subscriptTail _ _ (Value.ref _) (Value.int _ _)) _ _ _); k_dflt (refine' item_led ?Nz9 ?mz9 ?az9 ?bz9 ?xz9 ?_; (case Nz9 => k_asm); (case mz9 => k_mem); (case az9 => omega); (case bz9 => omega); (case xz9 => assumption))) | (k_end; kc_close) | (k_end; wrow_close) | walk1 | (dsimp only; walk1) | (leave1; (try dsimp only)) | fail "no step"))
    · exact absurd (by simpa using (by assumption : (y == 1 && z == (x : Int)) = true)) hne
    · show Stop9 _
      rename Fr _ _ _ _ => F'
      rename News _ _ _ _ => N'
      obtain ⟨u', F''⟩ := fr_std F' (x := Str.ofString "self") (y := Str.ofString "cell") rfl rfl
      exact ⟨_, _, u', rfl, F'', N'⟩
end
section
section
theorem walk_off_P6 : True := by
  w_top off
  trivial
theorem newvar_spec (S H T : Addr) (o : Obj) (hs : List (Int × Int)) (rest R : List (Addr × Obj)) (hr : ∀ p ∈ rest, p.1 ≠ H) (hS : StoreIs rest S H T) (hc : CellsAt R o hs) (hl : hs.length ≤ 500) :
   Spec w 209 [.ref S] ((H, o) :: rest) 5 200 (HPost H rest R (hs ++ [(0, (hs.length : Int))]) (cd (0, (hs.length : Int)))) := by
  refine wr_mp ?_
  simp (disch := (k_dflt (
      unfold Spec
      k_fill
      intro p loose mean mg mb A A₀ env outer base h₀ L m s R B F X N T9 hA hf hke hh hd hu hret
      refine StoreIs.elim hS ?_
      intro SD SY TR h1 h2 h3 h4 h5 h6 h7 t1 t2 t3 t4 t5 t6 t7 u1 u2 u3 n hm1 hm2 _
      obtain ⟨vs, n1, rfl, dH, lH⟩ := hc.out
      have hvl := cells_len dH
      ( refine' code_def ?k1z9 ?k2z9 ?k3z9 ?k4z9 ?k5z9 ?kAz9 ?kFz9 ?kKz9 ?k6z9 ?k7z9 ?k8z9 ?k9z9 ?kBz9 ?_ ?c2z9 ?c3z9 ?c4z9 ?c5z9; (case kAz9 => assumption); (case kFz9 => assumption); (case kKz9 => assumption); (case k1z9 => k_asm); (case k2z9 => k_asm); (case k3z9 => k_asm); (case k4z9 => k_asm); (case k5z9 => k_asm); (case k6z9 => k_is); (case k7z9 => k_is); (case k8z9 => k_room); (case k9z9 => exact BindsTo.of_eq rfl); (case c5z9 => decide); (case kBz9 => exact locs rfl); (case c2z9 => exact rfl); (case c3z9 => exact rfl); (case c4z9 => exact rfl); k_whole; intro _ _ _ _ _ _ _ _ _; (with_reducible refine wp_never ?_); (try dsimp only); (try k_fold))
      (repeat' (first | (k_unfold; (try dsimp only)) | (k_here; (with_reducible show wpAny _ _ (call (Value.ref _) _) _ _ _); k_dflt (refine wpAny_call ?_; ( refine' code_def ?k1z9 ?k2z9 ?k3z9 ?k4z9 ?k5z9 ?kAz9 ?kFz9 ?kKz9 ?k6z9 ?k7z9 ?k8z9 ?k9z9 ?kBz9 ?_ ?c2z9 ?c3z9 ?c4z9 ?c5z9; (case kAz9 => first | exact deeper_frames _ (by assumption) | exact deeper_frames _ (deeper_frames _ (by assumption)) | exact deeper_frames _ (deeper_frames _ (deeper_frames _ (by assumption)))); (case kFz9 => exact rfl); (case kKz9 => exact rfl); (case k1z9 => k_asm); (case k2z9 => k_asm); (case k3z9 => k_asm); (case k4z9 => k_asm); (case k5z9 => k_asm); (case k6z9 => k_is); (case k7z9 => k_is); (case k8z9 => k_room); (case k9z9 => exact BindsTo.of_eq rfl); (case c5z9 => decide); (case kBz9 => exact locs rfl); (case c2z9 => exact rfl); (case c3z9 => exact rfl); (case c4z9 => exact rfl); k_whole; intro _ _ _ _ _ _ _ _ _; (with_reducible refine wp_never ?_); (try dsimp only); (try k_fold)))) | (k_here; (with_reducible show wpAny _ _ (setItem (Value.ref _) (Value.int _ _) _) _ _ _); k_dflt (refine' set_led ?Fz9 ?Nz9 ?Uz9 ?az9 ?bz9 ?zz9 ?_; (case Fz9 => k_asm); (case Nz9 => k_asm); (case Uz9 => k_upd); (case az9 => ksa_idx); (case bz9 => ksa_idx); (case zz9 => ksa_idx); k_whole); intro _ _ _; (try k_sweep)) | (k_here; (with_reducible show wpAny _ _ (call (Value.builtin "list.append") [Value.ref _, _]) _ _ _); k_dflt (refine' append_led ?Fz9 ?Nz9 ?Uz9 ?zz9 ?_; (case Fz9 => k_asm); (case Nz9 => k_asm); (case Uz9 => k_upd); (case zz9 => ksa_idx); k_whole); intro _ _ _; (try k_sweep)) | (k_here; (with_reducible show wpAny _ _ (call (Value.builtin "len") [Value.ref _]) _ _ _); k_dflt (refine' len_led ?Nz9 ?mz9 ?zz9 ?_; (case Nz9 => k_asm); (case mz9 => k_mem); (case zz9 => ksa_idx); k_whole); intro _ _) | (k_here; (with_reducible show wpAny _ _ (subscriptTail _ _ (Value.ref _) (Value.int _ _)) _ _ _); k_dflt (refine' item_led ?Nz9 ?mz9 ?az9 ?bz9 ?xz9 ?_; (case Nz9 => k_asm); (case mz9 => k_mem); (case az9 => omega); (case bz9 => omega); (case xz9 => assumption))) | (k_end; kc_close) | (k_end; wrow_close) | walk1 | (dsimp only; walk1) | (leave1; (try dsimp only)) | fail "no step"))
      rename_i kF kN _ _
      obtain ⟨post, N', P'⟩ := hpost_end (new := [_]) kN (.cons (by assumption) (by assumption) .nil) (CellsAt.push dH sub_right (cell_at (.head _) (by omega : _ = (hs.length : Int))) (by omega)) (cell_at (.head _) (by omega : _ = (hs.length : Int)))
      exact hret _ _ _ _ kF N' P'))) only [↓wr_true]
end
section
theorem walk_off_P7 : True := by
  w_top off
  trivial
theorem bind_spec (S H T : Addr) (o : Obj) (hs : List (Int × Int)) (rest R : List (Addr × Obj)) (hr : ∀ p ∈ rest, p.1 ≠ H) (hS : StoreIs rest S H T) (hc : CellsAt R o hs) (x : Nat) (hx : x < hs.length) (c' : Int × Int) (v v' : Value) (hv : DatIn rest v (cd (0, (x : Int)))) (hv' : DatIn R v' (cd c')) :
   Spec w 244 [.ref S, v, v'] ((H, o) :: rest) 5 200 (fun _ post => ∃ o' new, post = (H, o') :: (new ++ rest) ∧ Fresh H rest new ∧ (new = [] ∧ CellsAt R o' (hs.set x c'))) := by
  refine wr_mp ?_
  simp (disch := (k_dflt (
      unfold Spec
      k_fill
      intro p loose mean mg mb A A₀ env outer base h₀ L m s R B F X N T9 hA hf hke hh hd hu hret
      refine StoreIs.elim hS ?_
      intro SD SY TR h1 h2 h3 h4 h5 h6 h7 t1 t2 t3 t4 t5 t6 t7 u1 u2 u3 n hm1 hm2 _
      obtain ⟨vs, n1, rfl, dH, lH⟩ := hc.out
      have hvl := cells_len dH
      obtain ⟨a, n', t', u', rfl, hm⟩ := dat_xy hv
      ( refine' code_def ?k1z9 ?k2z9 ?k3z9 ?k4z9 ?k5z9 ?kAz9 ?kFz9 ?kKz9 ?k6z9 ?k7z9 ?k8z9 ?k9z9 ?kBz9 ?_ ?c2z9 ?c3z9 ?c4z9 ?c5z9; (case kAz9 => assumption); (case kFz9 => assumption); (case kKz9 => assumption); (case k1z9 => k_asm); (case k2z9 => k_asm); (case k3z9 => k_asm); (case k4z9 => k_asm); (case k5z9 => k_asm); (case k6z9 => k_is); (case k7z9 => k_is); (case k8z9 => k_room); (case k9z9 => exact BindsTo.of_eq rfl); (case c5z9 => decide); (case kBz9 => exact locs rfl); (case c2z9 => exact rfl); (case c3z9 => exact rfl); (case c4z9 => exact rfl); k_whole; intro _ _ _ _ _ _ _ _ _; (with_reducible refine wp_never ?_); (try dsimp only); (try k_fold))
      (repeat' (first | (k_unfold; (try dsimp only)) | (k_here; (with_reducible show wpAny _ _ (call (Value.ref _) _) _ _ _); k_dflt (refine wpAny_call ?_; ( refine' code_def ?k1z9 ?k2z9 ?k3z9 ?k4z9 ?k5z9 ?kAz9 ?kFz9 ?kKz9 ?k6z9 ?k7z9 ?k8z9 ?k9z9 ?kBz9 ?_ ?c2z9 ?c3z9 ?c4z9 ?c5z9; (case kAz9 => first | exact deeper_frames _ (by assumption) | exact deeper_frames _ (deeper_frames _ (by assumption)) | exact deeper_frames _ (deeper_frames _ (deeper_frames _ (by assumption)))); (case kFz9 => exact rfl); (case kKz9 => exact rfl); (case k1z9 => k_asm); (case k2z9 => k_asm); (case k3z9 => k_asm); (case k4z9 => k_asm); (case k5z9 => k_asm); (case k6z9 => k_is); (case k7z9 => k_is); (case k8z9 => k_room); (case k9z9 => exact BindsTo.of_eq rfl); (case c5z9 => decide); (case kBz9 => exact locs rfl); (case c2z9 => exact rfl); (case c3z9 => exact rfl); (case c4z9 => exact rfl); k_whole; intro _ _ _ _ _ _ _ _ _; (with_reducible refine wp_never ?_); (try dsimp only); (try k_fold)))) | (k_here; (with_reducible show wpAny _ _ (setItem (Value.ref _) (Value.int _ _) _) _ _ _); k_dflt (refine' set_led ?Fz9 ?Nz9 ?Uz9 ?az9 ?bz9 ?zz9 ?_; (case Fz9 => k_asm); (case Nz9 => k_asm); (case Uz9 => k_upd); (case az9 => ksa_idx); (case bz9 => ksa_idx); (case zz9 => ksa_idx); k_whole); intro _ _ _; (try k_sweep)) | (k_here; (with_reducible show wpAny _ _ (call (Value.builtin "list.append") [Value.ref _, _]) _ _ _); k_dflt (refine' append_led ?Fz9 ?Nz9 ?Uz9 ?zz9 ?_; (case Fz9 => k_asm); (case Nz9 => k_asm); (case Uz9 => k_upd); (case zz9 => ksa_idx); k_whole); intro _ _ _; (try k_sweep)) | (k_here; (with_reducible show wpAny _ _ (call (Value.builtin "len") [Value.ref _]) _ _ _); k_dflt (refine' len_led ?Nz9 ?mz9 ?zz9 ?_; (case Nz9 => k_asm); (case mz9 => k_mem); (case zz9 => ksa_idx); k_whole); intro _ _) | (k_here; (with_reducible show wpAny _ _ (subscriptTail _ _ (Value.ref _) (Value.int _ _)) _ _ _); k_dflt (refine' item_led ?Nz9 ?mz9 ?az9 ?bz9 ?xz9 ?_; (case Nz9 => k_asm); (case mz9 => k_mem); (case az9 => omega); (case bz9 => omega); (case xz9 => assumption))) | (k_end; kc_close) | (k_end; wrow_close) | walk1 | (dsimp only; walk1) | (leave1; (try dsimp only)) | fail "no step"))
      rename_i kF kN _ _
      exact hret _ _ _ _ kF kN ⟨_, [], rfl, .nil, rfl, by simpa using CellsAt.set (n' := n1) dH (fun _ h => h) hv' lH x⟩))) only [↓wr_true]
theorem block_list_spec (S H T : Addr) (o : Obj) (hs : List (Int × Int)) (rest R : List (Addr × Obj)) (hr : ∀ p ∈ rest, p.1 ≠ H) (hS : StoreIs rest S H T) (hc : CellsAt R o hs) (hl : hs.length ≤ 500) (tk0 : Tok) :
   Spec w 321 [.ref S, .int 0 tk0] ((H, o) :: rest) 8 250 (HPost H rest R (hs ++ [(0, (hs.length : Int))] ++ [(0, (hs.length : Int) + 1)]) (cd (3, (hs.length : Int)))) := by
  refine wr_mp ?_
  simp (disch := (k_dflt (
      unfold Spec
      k_fill
      intro p loose mean mg mb A A₀ env outer base h₀ L m s R B F X N T9 hA hf hke hh hd hu hret
      refine StoreIs.elim hS ?_
      intro SD SY TR h1 h2 h3 h4 h5 h6 h7 t1 t2 t3 t4 t5 t6 t7 u1 u2 u3 n hm1 hm2 _
      obtain ⟨vs, n1, rfl, dH, lH⟩ := hc.out
      have hvl := cells_len dH
      ( refine' code_def ?k1z9 ?k2z9 ?k3z9 ?k4z9 ?k5z9 ?kAz9 ?kFz9 ?kKz9 ?k6z9 ?k7z9 ?k8z9 ?k9z9 ?kBz9 ?_ ?c2z9 ?c3z9 ?c4z9 ?c5z9; (case kAz9 => assumption); (case kFz9 => assumption); (case kKz9 => assumption); (case k1z9 => k_asm); (case k2z9 => k_asm); (case k3z9 => k_asm); (case k4z9 => k_asm); (case k5z9 => k_asm); (case k6z9 => k_is); (case k7z9 => k_is); (case k8z9 => k_room); (case k9z9 => exact BindsTo.of_eq rfl); (case c5z9 => decide); (case kBz9 => exact locs rfl); (case c2z9 => exact rfl); (case c3z9 => exact rfl); (case c4z9 => exact rfl); k_whole; intro _ _ _ _ _ _ _ _ _; (with_reducible refine wp_never ?_); (try dsimp only); (try k_fold))
      (repeat' (first | (k_unfold; (try dsimp only)) | (k_here; (with_reducible show wpAny _ _ (call (Value.ref _) _) _ _ _); k_dflt (refine wpAny_call ?_; ( refine' code_def ?k1z9 ?k2z9 ?k3z9 ?k4z9 ?k5z9 ?kAz9 ?kFz9 ?kKz9 ?k6z9 ?k7z9 ?k8z9 ?k9z9 ?kBz9 ?_ ?c2z9 ?c3z9 ?c4z9 ?c5z9; (case kAz9 => first | exact deeper_frames _ (by assumption) | exact deeper_frames _ (deeper_frames _ (by assumption)) | exact deeper_frames _ (deeper_frames _ (deeper_frames _ (by assumption)))); (case kFz9 => exact rfl); (case kKz9 => exact rfl); (case k1z9 => k_asm); (case k2z9 => k_asm); (case k3z9 => k_asm); (case k4z9 => k_asm); (case k5z9 => k_asm); (case k6z9 => k_is); (case k7z9 => k_is); (case k8z9 => k_room); (case k9z9 => exact BindsTo.of_eq rfl); (case c5z9 => decide); (case kBz9 => exact locs rfl); (case c2z9 => exact rfl); (case c3z9 => exact rfl); (case c4z9 => exact rfl); k_whole; intro _ _ _ _ _ _ _ _ _; (with_reducible refine wp_never ?_); (try dsimp only); (try k_fold)))) | (k_here; (with_reducible show wpAny _ _ (setItem (Value.ref _) (Value.int _ _) _) _ _ _); k_dflt (refine' set_led ?Fz9 ?Nz9 ?Uz9 ?az9 ?bz9 ?zz9 ?_; (case Fz9 => k_asm); (case Nz9 => k_asm); (case Uz9 => k_upd); (case az9 => ksa_idx); (case bz9 => ksa_idx); (case zz9 => ksa_idx); k_whole); intro _ _ _; (try k_sweep)) | (k_here; (with_reducible show wpAny _ _ (call (Value.builtin "list.append") [Value.ref _, _]) _ _ _); k_dflt (refine' append_led ?Fz9 ?Nz9 ?Uz9 ?zz9 ?_; (case Fz9 => k_asm); (case Nz9 => k_asm); (case Uz9 => k_upd); (case zz9 => ksa_idx); k_whole); intro _ _ _; (try k_sweep)) | (k_here; (with_reducible show wpAny _ _ (call (Value.builtin "len") [Value.ref _]) _ _ _); k_dflt (refine' len_led ?Nz9 ?mz9 ?zz9 ?_; (case Nz9 => k_asm); (case mz9 => k_mem); (case zz9 => ksa_idx); k_whole); intro _ _) | (k_here; (with_reducible show wpAny _ _ (subscriptTail _ _ (Value.ref _) (Value.int _ _)) _ _ _); k_dflt (refine' item_led ?Nz9 ?mz9 ?az9 ?bz9 ?xz9 ?_; (case Nz9 => k_asm); (case mz9 => k_mem); (case az9 => omega); (case bz9 => omega); (case xz9 => assumption))) | (k_end; kc_close) | (k_end; wrow_close) | walk1 | (dsimp only; walk1) | (leave1; (try dsimp only)) | fail "no step"))
      rename_i kF kN _ _
      obtain ⟨post, N', P'⟩ := hpost_end (new := [_, _, _]) kN (.cons (by assumption) (by assumption) (.cons (by assumption) (by assumption) (.cons (by assumption) (by assumption) .nil)))
        (CellsAt.push2 dH sub_right (cell_at (.tail _ (.tail _ (.head _))) (by omega : _ = (hs.length : Int))) (cell_at (.tail _ (.head _)) (by omega : _ = (hs.length : Int) + 1)) (by omega)) (cell_at (.head _) (by omega : _ = (hs.length : Int)))
      exact hret _ _ _ _ kF N' P'))) only [↓wr_true]
theorem block_s_spec (S H T : Addr) (o : Obj) (hs : List (Int × Int)) (rest R : List (Addr × Obj)) (hr : ∀ p ∈ rest, p.1 ≠ H) (hS : StoreIs rest S H T) (hc : CellsAt R o hs) (hl : hs.length ≤ 500) (tk0 : Tok) :
   Spec w 321 [.ref S, .int 12 tk0] ((H, o) :: rest) 8 250 (HPost H rest R (hs ++ [(6, 12)] ++ [(0, (hs.length : Int) + 1)]) (cd (2, (hs.length : Int)))) := by
  refine wr_mp ?_
  simp (disch := (k_dflt (
      unfold Spec
      k_fill
      intro p loose mean mg mb A A₀ env outer base h₀ L m s R B F X N T9 hA hf hke hh hd hu hret
      refine StoreIs.elim hS ?_
      intro SD SY TR h1 h2 h3 h4 h5 h6 h7 t1 t2 t3 t4 t5 t6 t7 u1 u2 u3 n hm1 hm2 hY
      refine SymIs.elim hY ?_
      intro SYD TX AN FU FN g1 g2 g3 g4 q1 q2 q3 q4 n2 fv m2 fds k1 k2 k3 k4 k5 z1 k6 z2 k7
      obtain ⟨vs, n1, rfl, dH, lH⟩ := hc.out
      have hvl := cells_len dH
      obtain ⟨v12, f1, f2⟩ := datAll_pick k4 k6
      obtain ⟨b12, n12, i12, j12, rfl, e12⟩ := dat_xy f2
      ( refine' code_def ?k1z9 ?k2z9 ?k3z9 ?k4z9 ?k5z9 ?kAz9 ?kFz9 ?kKz9 ?k6z9 ?k7z9 ?k8z9 ?k9z9 ?kBz9 ?_ ?c2z9 ?c3z9 ?c4z9 ?c5z9; (case kAz9 => assumption); (case kFz9 => assumption); (case kKz9 => assumption); (case k1z9 => k_asm); (case k2z9 => k_asm); (case k3z9 => k_asm); (case k4z9 => k_asm); (case k5z9 => k_asm); (case k6z9 => k_is); (case k7z9 => k_is); (case k8z9 => k_room); (case k9z9 => exact BindsTo.of_eq rfl); (case c5z9 => decide); (case kBz9 => exact locs rfl); (case c2z9 => exact rfl); (case c3z9 => exact rfl); (case c4z9 => exact rfl); k_whole; intro _ _ _ _ _ _ _ _ _; (with_reducible refine wp_never ?_); (try dsimp only); (try k_fold))
      (repeat' (first | (k_unfold; (try dsimp only)) | ((with_reducible show wpAny _ _ (call (Value.type _) [Value.int (1 + 2) _]) _ _ _); rw [show (1 : Int) + 2 = 3 from rfl]) | ((with_reducible show wpAny _ _ (call (Value.type _) [Value.int (1 + 1) _]) _ _ _); rw [show (1 : Int) + 1 = 2 from rfl]) | (k_here; (with_reducible show wpAny _ _ (call (Value.ref _) _) _ _ _); k_dflt (refine wpAny_call ?_; ( refine' code_def ?k1z9 ?k2z9 ?k3z9 ?k4z9 ?k5z9 ?kAz9 ?kFz9 ?kKz9 ?k6z9 ?k7z9 ?k8z9 ?k9z9 ?kBz9 ?_ ?c2z9 ?c3z9 ?c4z9 ?c5z9; (case kAz9 => first | exact deeper_frames _ (by assumption) | exact deeper_frames _ (deeper_frames _ (by assumption)) | exact deeper_frames _ (deeper_frames _ (deeper_frames _ (by assumption)))); (case kFz9 => exact rfl); (case kKz9 => exact rfl); (case k1z9 => k_asm); (case k2z9 => k_asm); (case k3z9 => k_asm); (case k4z9 => k_asm); (case k5z9 => k_asm); (case k6z9 => k_is); (case k7z9 => k_is); (case k8z9 => k_room); (case k9z9 => exact BindsTo.of_eq rfl); (case c5z9 => decide); (case kBz9 => exact locs rfl); (case c2z9 => exact rfl); (case c3z9 => exact rfl); (case c4z9 => exact rfl); k_whole; intro _ _ _ _ _ _ _ _ _; (with_reducible refine wp_never ?_); (try dsimp only); (try k_fold)))) | (k_here; (with_reducible show wpAny _ _ (setItem (Value.ref _) (Value.int _ _) _) _ _ _); k_dflt (refine' set_led ?Fz9 ?Nz9 ?Uz9 ?az9 ?bz9 ?zz9 ?_; (case Fz9 => k_asm); (case Nz9 => k_asm); (case Uz9 => k_upd); (case az9 => ksa_idx); (case bz9 => ksa_idx); (case zz9 => ksa_idx); k_whole); intro _ _ _; (try k_sweep)) | (k_here; (with_reducible show wpAny _ _ (call (Value.builtin "list.append") [Value.ref _, _]) _ _ _); k_dflt (refine' append_led ?Fz9 ?Nz9 ?Uz9 ?zz9 ?_; (case Fz9 => k_asm); (case Nz9 => k_asm); (case Uz9 => k_upd); (case zz9 => ksa_idx); k_whole); intro _ _ _; (try k_sweep)) | (k_here; (with_reducible show wpAny _ _ (call (Value.builtin "len") [Value.ref _]) _ _ _); k_dflt (refine' len_led ?Nz9 ?mz9 ?zz9 ?_; (case Nz9 => k_asm); (case mz9 => k_mem); (case zz9 => ksa_idx); k_whole); intro _ _) | (k_here; (with_reducible show wpAny _ _ (subscriptTail _ _ (Value.ref _) (Value.int _ _)) _ _ _); k_dflt (refine' item_led ?Nz9 ?mz9 ?az9 ?bz9 ?xz9 ?_; (case Nz9 => k_asm); (case mz9 => k_mem); (case az9 => omega); (case bz9 => omega); (case xz9 => assumption))) | (k_end; kc_close) | (k_end; wrow_close) | walk1 | (dsimp only; walk1) | (leave1; (try dsimp only)) | fail "no step"))
      rename_i kF kN _ _
      obtain ⟨post, N', P'⟩ := hpost_end (new := [_, _, _, _]) kN (.cons (by assumption) (by assumption) (.cons (by assumption) (by assumption) (.cons (by assumption) (by assumption) (.cons (by assumption) (by assumption) .nil))))
        (CellsAt.push2s dH sub_right (cell_at (.tail _ (.head _)) (rfl : _ = (12 : Int))) (cell_at (.tail _ (.tail _ (.head _))) (by omega : _ = (hs.length : Int) + 1)) (by omega)) (cell_at (.head _) (by omega : _ = (hs.length : Int)))
      exact hret _ _ _ _ kF N' P'))) only [↓wr_true]
theorem block_m_spec (S H T : Addr) (o : Obj) (hs : List (Int × Int)) (rest R : List (Addr × Obj)) (hr : ∀ p ∈ rest, p.1 ≠ H) (hS : StoreIs rest S H T) (hc : CellsAt R o hs) (hl : hs.length ≤ 500) (tk0 : Tok) :
   Spec w 321 [.ref S, .int 13 tk0] ((H, o) :: rest) 8 250 (HPost H rest R (hs ++ [(6, 13)] ++ [(0, (hs.length : Int) + 1)] ++ [(0, (hs.length : Int) + 2)]) (cd (2, (hs.length : Int)))) := by
  refine wr_mp ?_
  simp (disch := (k_dflt (
      unfold Spec
      k_fill
      intro p loose mean mg mb A A₀ env outer base h₀ L m s R B F X N T9 hA hf hke hh hd hu hret
      refine StoreIs.elim hS ?_
      intro SD SY TR h1 h2 h3 h4 h5 h6 h7 t1 t2 t3 t4 t5 t6 t7 u1 u2 u3 n hm1 hm2 hY
      refine SymIs.elim hY ?_
      intro SYD TX AN FU FN g1 g2 g3 g4 q1 q2 q3 q4 n2 fv m2 fds k1 k2 k3 k4 k5 z1 k6 z2 k7
      obtain ⟨vs, n1, rfl, dH, lH⟩ := hc.out
      have hvl := cells_len dH
      obtain ⟨v12, f1, f2⟩ := datAll_pick k4 k7
      obtain ⟨b12, n12, i12, j12, rfl, e12⟩ := dat_xy f2
      ( refine' code_def ?k1z9 ?k2z9 ?k3z9 ?k4z9 ?k5z9 ?kAz9 ?kFz9 ?kKz9 ?k6z9 ?k7z9 ?k8z9 ?k9z9 ?kBz9 ?_ ?c2z9 ?c3z9 ?c4z9 ?c5z9; (case kAz9 => assumption); (case kFz9 => assumption); (case kKz9 => assumption); (case k1z9 => k_asm); (case k2z9 => k_asm); (case k3z9 => k_asm); (case k4z9 => k_asm); (case k5z9 => k_asm); (case k6z9 => k_is); (case k7z9 => k_is); (case k8z9 => k_room); (case k9z9 => exact BindsTo.of_eq rfl); (case c5z9 => decide); (case kBz9 => exact locs rfl); (case c2z9 => exact rfl); (case c3z9 => exact rfl); (case c4z9 => exact rfl); k_whole; intro _ _ _ _ _ _ _ _ _; (with_reducible refine wp_never ?_); (try dsimp only); (try k_fold))
      (repeat' (first | (k_unfold; (try dsimp only)) | ((with_reducible show wpAny _ _ (call (Value.type _) [Value.int (1 + 2) _]) _ _ _); rw [show (1 : Int) + 2 = 3 from rfl]) | ((with_reducible show wpAny _ _ (call (Value.type _) [Value.int (1 + 1) _]) _ _ _); rw [show (1 : Int) + 1 = 2 from rfl]) | (k_here; (with_reducible show wpAny _ _ (call (Value.ref _) _) _ _ _); k_dflt (refine wpAny_call ?_; ( refine' code_def ?k1z9 ?k2z9 ?k3z9 ?k4z9 ?k5z9 ?kAz9 ?kFz9 ?kKz9 ?k6z9 ?k7z9 ?k8z9 ?k9z9 ?kBz9 ?_ ?c2z9 ?c3z9 ?c4z9 ?c5z9; (case kAz9 => first | exact deeper_frames _ (by assumption) | exact deeper_frames _ (deeper_frames _ (by assumption)) | exact deeper_frames _ (deeper_frames _ (deeper_frames _ (by assumption)))); (case kFz9 => exact rfl); (case kKz9 => exact rfl); (case k1z9 => k_asm); (case k2z9 => k_asm); (case k3z9 => k_asm); (case k4z9 => k_asm); (case k5z9 => k_asm); (case k6z9 => k_is); (case k7z9 => k_is); (case k8z9 => k_room); (case k9z9 => exact BindsTo.of_eq rfl); (case c5z9 => decide); (case kBz9 => exact locs rfl); (case c2z9 => exact rfl); (case c3z9 => exact rfl); (case c4z9 => exact rfl); k_whole; intro _ _ _ _ _ _ _ _ _; (with_reducible refine wp_never ?_); (try dsimp only); (try k_fold)))) | (k_here; (with_reducible show wpAny _ _ (setItem (Value.ref _) (Value.int _ _) _) _ _ _); k_dflt (refine' set_led ?Fz9 ?Nz9 ?Uz9 ?az9 ?bz9 ?zz9 ?_; (case Fz9 => k_asm); (case Nz9 => k_asm); (case Uz9 => k_upd); (case az9 => ksa_idx); (case bz9 => ksa_idx); (case zz9 => ksa_idx); k_whole); intro _ _ _; (try k_sweep)) | (k_here; (with_reducible show wpAny _ _ (call (Value.builtin "list.append") [Value.ref _, _]) _ _ _); k_dflt (refine' append_led ?Fz9 ?Nz9 ?Uz9 ?zz9 ?_; (case Fz9 => k_asm); (case Nz9 => k_asm); (case Uz9 => k_upd); (case zz9 => ksa_idx); k_whole); intro _ _ _; (try k_sweep)) | (k_here; (with_reducible show wpAny _ _ (call (Value.builtin "len") [Value.ref _]) _ _ _); k_dflt (refine' len_led ?Nz9 ?mz9 ?zz9 ?_; (case Nz9 => k_asm); (case mz9 => k_mem); (case zz9 => ksa_idx); k_whole); intro _ _) | (k_here; (with_reducible show wpAny _ _ (subscriptTail _ _ (Value.ref _) (Value.int _ _)) _ _ _); k_dflt (refine' item_led ?Nz9 ?mz9 ?az9 ?bz9 ?xz9 ?_; (case Nz9 => k_asm); (case mz9 => k_mem); (case az9 => omega); (case bz9 => omega); (case xz9 => assumption))) | (k_end; kc_close) | (k_end; wrow_close) | walk1 | (dsimp only; walk1) | (leave1; (try dsimp only)) | fail "no step"))
      rename_i kF kN _ _
      obtain ⟨post, N', P'⟩ := hpost_end (new := [_, _, _, _, _]) kN (.cons (by assumption) (by assumption) (.cons (by assumption) (by assumption) (.cons (by assumption) (by assumption) (.cons (by assumption) (by assumption) (.cons (by assumption) (by assumption) .nil)))))
        (CellsAt.push3s dH sub_right (cell_at (.tail _ (.head _)) (rfl : _ = (13 : Int))) (cell_at (.tail _ (.tail _ (.tail _ (.head _)))) (by omega : _ = (hs.length : Int) + 1)) (cell_at (.tail _ (.tail _ (.head _))) (by omega : _ = (hs.length : Int) + 2)) (by omega)) (cell_at (.head _) (by omega : _ = (hs.length : Int)))
      exact hret _ _ _ _ kF N' P'))) only [↓wr_true]
end
section
theorem walk_off_P8 : True := by
  w_top off
  trivial
noncomputable def stdL : List (Str × Value) → (Str → Option Value) → Str → Option Value
  | [], m => m
  | (x, a) :: l, m => fun z => if z = x then some a else stdL l m z
theorem stdL_eq {m : Str → Option Value} : ∀ l : List (Str × Value), (∀ p ∈ l, m p.1 = some p.2) → stdL l m = m
  | [], _ => rfl
  | (x, a) :: l, k => by
    funext z
    show (if z = x then some a else stdL l m z) = _
    rw [stdL_eq l fun p hp => k p (.tail _ hp)]
    by_cases h1 : z = x
    · rw [if_pos h1, h1]; exact (k _ (.head _)).symm
    · rw [if_neg h1]
theorem fr_stdL {h₀ h : Heap} {L : Addr} {m : Str → Option Value} (F : Fr h₀ L h m) (l : List (Str × Value)) (k : ∀ p ∈ l, m p.1 = some p.2) : Fr h₀ L h (stdL l m) := by rw [stdL_eq l k]; exact F
/-- the items of a table: cells of references to the heap -/
noncomputable def TabOk (w : World) (R : List (Addr × Obj)) (ok : Obj) (b : Nat) : Prop := ∃ kvs : List (Int × Value), ok.IsDictOf (intKind prg w) kvs ∧ kvs.length ≤ b ∧ ∀ n v, valueAt kvs n = some v → ∃ j : Int, DatIn R v (cd (0, j))
noncomputable def clsBody (l : List Stmt) : List Stmt := match l with
  | (.ClassDef (body := b) ..) :: _ => b
  | _ => []
noncomputable def defOf (l : List Stmt) : List Stmt × Scope := match l with
  | (.FunctionDef (body := b) (scope := s) ..) :: _ => (b, s)
  | _ => ([], { kind := .function, names := [], isGenerator := false, isCoroutine := false })
noncomputable def loopBody (l : List Stmt) : List Stmt := match l with
  | (.For (body := b) ..) :: _ => b
  | (.While (body := b) ..) :: _ => b
  | _ => []
noncomputable def putDef : List Stmt × Scope := defOf ((clsBody (PySem.Challenge.pw_no0174_01.main.body.drop 28)).drop 3)
noncomputable def putWhile : List Stmt := loopBody (putDef.1.drop 8)
noncomputable def putFor : List Stmt := loopBody (putWhile.drop 2)
noncomputable abbrev putEnv (L : Addr) : Env := envOf (Str.ofString "Store.put_term") putDef.2 L 364 (.ref 363)
structure Tab (w : World) (T : Nat → List (Addr × Obj) → Obj → Prop) : Prop where
  get : ∀ i R ok (n : Int), T i R ok → 0 ≤ n → n < 3 → ∃ kvs : List (Int × Value), ok.IsDictOf (intKind prg w) kvs ∧ kvs.length ≤ sizeLine ∧
    ((∃ v c, valueAt kvs n = some v ∧ DatIn R v (cd c)) ∨ (valueAt kvs n = none ∧ ∀ R' ok' v j, (∀ p ∈ R, p ∈ R') → DatIn R' v (cd (0, j)) → ok'.IsDictOf (intKind prg w) (stored kvs n v) → T (i + 1) R' ok'))
  mono : ∀ i i' R R' ok, T i R ok → i ≤ i' → (∀ p ∈ R, p ∈ R') → T i' R' ok
local macro_rules | `(tactic| walk_at "compareOp In int ref") => `(tactic| (k_here; k_dflt (first
  | (refine' kda_in (knd := intKind _ _) ?N ?m ?d ?lo (intKind_is _ _ _ _) true ?b ?_; (case d => assumption); (case N => k_asm); (case m => k_mem); (case lo => assumption); (case b => first | assumption | (rw [‹valueAt _ _ = some _›]; rfl)))
  | (refine' kda_in (knd := intKind _ _) ?N ?m ?d ?lo (intKind_is _ _ _ _) false ?b ?_; (case d => assumption); (case N => k_asm); (case m => k_mem); (case lo => assumption); (case b => rw [‹valueAt _ _ = none›]; rfl)))))
theorem turn_ledger {h₀ h : Heap} {L I H K : Addr} {io o ok : Obj} {R : List (Addr × Obj)} (new : List (Addr × Obj)) (N : News h₀ L h (new ++ (I, io) :: (H, o) :: (K, ok) :: R)) : News h₀ L h ((I, io) :: (H, o) :: (K, ok) :: (new ++ R)) :=
  News.sub N (by
    intro p hp
    simp only [List.mem_cons, List.mem_append, List.not_mem_nil, or_false] at hp ⊢
    rcases hp with hp | hp | hp | hp | hp <;> simp [hp])
theorem fresh_one {D I H K : Addr} {x io o ok : Obj} {R : List (Addr × Obj)} (a : @LT.lt Nat _ I D) (b : @LT.lt Nat _ H D) (c : @LT.lt Nat _ K D) (d : AllLt D R) : ∀ p ∈ [(D, x)], ∀ q ∈ (I, io) :: (H, o) :: (K, ok) :: R, @LT.lt Nat _ q.1 p.1 := by
  intro p hp q hq
  rw [List.mem_singleton.mp hp]
  simp only [List.mem_cons, List.mem_append, List.not_mem_nil, or_false] at hq
  rcases hq with rfl | rfl | rfl | hq
  · exact a
  · exact b
  · exact c
  · exact ktn_ltOf d q hq
theorem set_far {α : Type} {l : List α} {k : Int} {x : α} (h : 0 ≤ k) : ∀ j : Nat, (j : Int) < k → (l.set k.toNat x)[j]? = l[j]? := fun j hj => List.getElem?_set_ne (by omega)
theorem put_turn {T : Nat → List (Addr × Obj) → Obj → Prop} (hT : Tab w T) {p : Program} {loose : List Str} {mean : ExcName → Option Value} {mg mb : Str → Option Value} {A : Around} {env : Env} {outer : List Env} {base g h : Heap} {L : Addr} {s : Shared} {tk : Nat} {m : Str → Option Value} {Q : Flow → Shared → Prop}
   (B : Below A base (env :: outer) g) (X : (hk.heap_1 w.params).In g) (T9 : Top p loose mean mg mb g) (hh : A.handled = none) (hu : A.units + 300 < 9900)
   (S H K I : Addr) (io o ok : Obj) (hs : List (Int × Int)) (R Z : List (Addr × Obj)) (hZ : ∀ p ∈ R, p ∈ Z) (hHK : @Ne Nat K H) (hIH : @Ne Nat I H) (hIK : @Ne Nat I K) (hRH : ∀ p ∈ Z, p.1 ≠ H) (hRK : ∀ p ∈ Z, p.1 ≠ K) (hKs : (K == sysModules) = false)
   (st : Addr) (hS : StoreIs Z S H st) (hc : CellsAt R o hs) (i : Nat) (ht : T i R ok) (pl : Int) (t0 : Tok) (h0 : 0 ≤ pl) (h1 : pl < hs.length) (x : Lf) (hx : x.ok) (v : Value) (hv : DatIn R v x.d)
   (F : Fr g L h (fun z => if z = Str.ofString "item" then some v else m z)) (hm1 : m (Str.ofString "self") = some (.ref S)) (hm2 : m (Str.ofString "table") = some (.ref K)) (hm3 : m (Str.ofString "place") = some (.int pl t0))
   (N : News g L h ((I, io) :: (H, o) :: (K, ok) :: Z))
   (hQ : ∀ h' tk' m' t' o' ok' new hs', Fr g L h' m' → News g L h' ((I, io) :: (H, o') :: (K, ok') :: (new ++ Z)) → (∀ p ∈ new, ∀ q ∈ (I, io) :: (H, o) :: (K, ok) :: Z, @LT.lt Nat _ q.1 p.1) →
     CellsAt (new ++ R) o' hs' → hs'.length = hs.length → (∀ j : Nat, (j : Int) < pl → hs'[j]? = hs[j]?) → T (i + 1) (new ++ R) ok' → m' (Str.ofString "place") = some (.int (pl + 1) t') →
     (∀ z, z ≠ Str.ofString "place" → z ≠ Str.ofString "item" → z ≠ Str.ofString "kind" → m' z = m z) → Q .next { s with heap := h', toks := tk' }) :
   wpAny (model prg w) (A.deeper (putEnv L)) (execs putFor (putEnv L)) Q (fun _ _ => False) { s with heap := h, toks := tk } := by
  unfold putFor putEnv prg
  conv in (execs _ _) => arg 1; whnf
  conv in (occs := *) putDef.2 => all_goals whnf
  revert X
  k_fill
  intro X
  have hl : ∀ q ∈ [(Str.ofString "self", Value.ref S), (Str.ofString "table", .ref K), (Str.ofString "place", .int pl t0), (Str.ofString "item", v)], (fun z => if z = Str.ofString "item" then some v else m z) q.1 = some q.2 := by
    intro q hq
    simp only [List.mem_cons, List.not_mem_nil, or_false] at hq
    rcases hq with rfl | rfl | rfl | rfl
    · exact hm1
    · exact hm2
    · exact hm3
    · rfl
  have F' := fr_stdL F _ hl
  clear F
  obtain ⟨vs, n1, rfl, dH, lH⟩ := hc.out
  have hvl := cells_len dH
  refine StoreIs.elim hS ?_
  intro SD SY TR h1' h2 h3 h4 h5 h6 h7 t1 t2 t3 t4 t5 t6 t7 u1 u2 u3 n hm4 hm5 _
  cases x with
  | a k =>
    obtain ⟨a, n', t', u', rfl, hm⟩ := dat_ci hv
    have hm := hZ _ hm
    (repeat' (first | (k_unfold; (try dsimp only)) | (k_here; (with_reducible show wpAny _ _ (setItem (Value.ref _) (Value.int _ _) _) _ _ _); k_dflt (refine' kda_set (knd := intKind _ _) ?F ?N ?U ?d (intKind_is _ _ _ _) ?z ?_; (case d => assumption); (case F => k_asm); (case N => k_asm); (case U => k_updF); (case z => assumption)); intro h' o' F' N' hd'; (try dsimp only at N')) | (k_here; (with_reducible show wpAny _ _ (subscriptTail _ _ (Value.ref _) (Value.int _ _)) _ _ _); k_dflt (refine' kda_item (knd := intKind _ _) ?N ?m ?d (intKind_is _ _ _ _) ?l ?_; (case d => assumption); (case N => k_asm); (case m => k_mem); (case l => assumption))) | (k_here; (with_reducible show wpAny _ _ (call (Value.ref _) _) _ _ _); k_dflt (refine wpAny_call ?_; ( refine' code_def ?k1z9 ?k2z9 ?k3z9 ?k4z9 ?k5z9 ?kAz9 ?kFz9 ?kKz9 ?k6z9 ?k7z9 ?k8z9 ?k9z9 ?kBz9 ?_ ?c2z9 ?c3z9 ?c4z9 ?c5z9; (case kAz9 => first | exact deeper_frames _ (by assumption) | exact deeper_frames _ (deeper_frames _ (by assumption)) | exact deeper_frames _ (deeper_frames _ (deeper_frames _ (by assumption)))); (case kFz9 => exact rfl); (case kKz9 => exact rfl); (case k1z9 => k_asm); (case k2z9 => k_asm); (case k3z9 => k_asm); (case k4z9 => k_asm); (case k5z9 => k_asm); (case k6z9 => k_is); (case k7z9 => k_is); (case k8z9 => k_room); (case k9z9 => exact BindsTo.of_eq rfl); (case c5z9 => decide); (case kBz9 => exact locs rfl); (case c2z9 => exact rfl); (case c3z9 => exact rfl); (case c4z9 => exact rfl); k_whole; intro _ _ _ _ _ _ _ _ _; (with_reducible refine wp_never ?_); (try dsimp only); (try k_fold)))) | (k_here; (with_reducible show wpAny _ _ (setItem (Value.ref _) (Value.int _ _) _) _ _ _); k_dflt (refine' set_led ?Fz9 ?Nz9 ?Uz9 ?az9 ?bz9 ?zz9 ?_; (case Fz9 => k_asm); (case Nz9 => k_asm); (case Uz9 => k_upd); (case az9 => ksa_idx); (case bz9 => ksa_idx); (case zz9 => ksa_idx); k_whole); intro _ _ _; (try k_sweep)) | (k_here; (with_reducible show wpAny _ _ (call (Value.builtin "list.append") [Value.ref _, _]) _ _ _); k_dflt (refine' append_led ?Fz9 ?Nz9 ?Uz9 ?zz9 ?_; (case Fz9 => k_asm); (case Nz9 => k_asm); (case Uz9 => k_upd); (case zz9 => ksa_idx); k_whole); intro _ _ _; (try k_sweep)) | (k_here; (with_reducible show wpAny _ _ (call (Value.builtin "len") [Value.ref _]) _ _ _); k_dflt (refine' len_led ?Nz9 ?mz9 ?zz9 ?_; (case Nz9 => k_asm); (case mz9 => k_mem); (case zz9 => ksa_idx); k_whole); intro _ _) | (k_here; (with_reducible show wpAny _ _ (subscriptTail _ _ (Value.ref _) (Value.int _ _)) _ _ _); k_dflt (refine' item_led ?Nz9 ?mz9 ?az9 ?bz9 ?xz9 ?_; (case Nz9 => k_asm); (case mz9 => k_mem); (case az9 => omega); (case bz9 => omega); (case xz9 => assumption))) | (k_end; kc_close) | (k_end; wrow_close) | walk1 | (dsimp only; walk1) | (leave1; (try dsimp only)) | fail "no step"))
    (rename Fr _ _ _ _ => kF); (rename News _ _ _ _ => kN)
    refine hQ _ _ _ _ _ _ [_] (hs.set pl.toNat (4, k)) kF (turn_ledger [_] kN) (fresh_one (by assumption) (by assumption) (by assumption) (by assumption)) (CellsAt.set dH sub_right (cell_in (.head _)) lH _) (by simp) (set_far h0) (hT.mono _ _ _ _ _ ht (by omega) sub_right) rfl ?_
    intro z z1 z2 z3
    rw [if_neg z1, if_neg z3, stdL_eq _ hl]; exact if_neg z2
  | i k =>
    obtain ⟨a, n', t', u', rfl, hm⟩ := dat_ci hv
    have hm := hZ _ hm
    (repeat' (first | (k_unfold; (try dsimp only)) | (k_here; (with_reducible show wpAny _ _ (setItem (Value.ref _) (Value.int _ _) _) _ _ _); k_dflt (refine' kda_set (knd := intKind _ _) ?F ?N ?U ?d (intKind_is _ _ _ _) ?z ?_; (case d => assumption); (case F => k_asm); (case N => k_asm); (case U => k_updF); (case z => assumption)); intro h' o' F' N' hd'; (try dsimp only at N')) | (k_here; (with_reducible show wpAny _ _ (subscriptTail _ _ (Value.ref _) (Value.int _ _)) _ _ _); k_dflt (refine' kda_item (knd := intKind _ _) ?N ?m ?d (intKind_is _ _ _ _) ?l ?_; (case d => assumption); (case N => k_asm); (case m => k_mem); (case l => assumption))) | (k_here; (with_reducible show wpAny _ _ (call (Value.ref _) _) _ _ _); k_dflt (refine wpAny_call ?_; ( refine' code_def ?k1z9 ?k2z9 ?k3z9 ?k4z9 ?k5z9 ?kAz9 ?kFz9 ?kKz9 ?k6z9 ?k7z9 ?k8z9 ?k9z9 ?kBz9 ?_ ?c2z9 ?c3z9 ?c4z9 ?c5z9; (case kAz9 => first | exact deeper_frames _ (by assumption) | exact deeper_frames _ (deeper_frames _ (by assumption)) | exact deeper_frames _ (deeper_frames _ (deeper_frames _ (by assumption)))); (case kFz9 => exact rfl); (case kKz9 => exact rfl); (case k1z9 => k_asm); (case k2z9 => k_asm); (case k3z9 => k_asm); (case k4z9 => k_asm); (case k5z9 => k_asm); (case k6z9 => k_is); (case k7z9 => k_is); (case k8z9 => k_room); (case k9z9 => exact BindsTo.of_eq rfl); (case c5z9 => decide); (case kBz9 => exact locs rfl); (case c2z9 => exact rfl); (case c3z9 => exact rfl); (case c4z9 => exact rfl); k_whole; intro _ _ _ _ _ _ _ _ _; (with_reducible refine wp_never ?_); (try dsimp only); (try k_fold)))) | (k_here; (with_reducible show wpAny _ _ (setItem (Value.ref _) (Value.int _ _) _) _ _ _); k_dflt (refine' set_led ?Fz9 ?Nz9 ?Uz9 ?az9 ?bz9 ?zz9 ?_; (case Fz9 => k_asm); (case Nz9 => k_asm); (case Uz9 => k_upd); (case az9 => ksa_idx); (case bz9 => ksa_idx); (case zz9 => ksa_idx); k_whole); intro _ _ _; (try k_sweep)) | (k_here; (with_reducible show wpAny _ _ (call (Value.builtin "list.append") [Value.ref _, _]) _ _ _); k_dflt (refine' append_led ?Fz9 ?Nz9 ?Uz9 ?zz9 ?_; (case Fz9 => k_asm); (case Nz9 => k_asm); (case Uz9 => k_upd); (case zz9 => ksa_idx); k_whole); intro _ _ _; (try k_sweep)) | (k_here; (with_reducible show wpAny _ _ (call (Value.builtin "len") [Value.ref _]) _ _ _); k_dflt (refine' len_led ?Nz9 ?mz9 ?zz9 ?_; (case Nz9 => k_asm); (case mz9 => k_mem); (case zz9 => ksa_idx); k_whole); intro _ _) | (k_here; (with_reducible show wpAny _ _ (subscriptTail _ _ (Value.ref _) (Value.int _ _)) _ _ _); k_dflt (refine' item_led ?Nz9 ?mz9 ?az9 ?bz9 ?xz9 ?_; (case Nz9 => k_asm); (case mz9 => k_mem); (case az9 => omega); (case bz9 => omega); (case xz9 => assumption))) | (k_end; kc_close) | (k_end; wrow_close) | walk1 | (dsimp only; walk1) | (leave1; (try dsimp only)) | fail "no step"))
    (rename Fr _ _ _ _ => kF); (rename News _ _ _ _ => kN)
    refine hQ _ _ _ _ _ _ [_] (hs.set pl.toNat (5, k)) kF (turn_ledger [_] kN) (fresh_one (by assumption) (by assumption) (by assumption) (by assumption)) (CellsAt.set dH sub_right (cell_in (.head _)) lH _) (by simp) (set_far h0) (hT.mono _ _ _ _ _ ht (by omega) sub_right) rfl ?_
    intro z z1 z2 z3
    rw [if_neg z1, if_neg z3, stdL_eq _ hl]; exact if_neg z2
  | v n9 =>
    obtain ⟨a, n', t', u', rfl, hm⟩ := dat_ci hv
    have hm := hZ _ hm
    obtain ⟨kvs, hd1, hd2, ⟨v9, c9, hd3, hd4⟩ | ⟨hd3, hd4⟩⟩ := hT.get _ _ _ n9 ht hx.1 hx.2
    · (repeat' (first | (k_unfold; (try dsimp only)) | (k_here; (with_reducible show wpAny _ _ (setItem (Value.ref _) (Value.int _ _) _) _ _ _); k_dflt (refine' kda_set (knd := intKind _ _) ?F ?N ?U ?d (intKind_is _ _ _ _) ?z ?_; (case d => assumption); (case F => k_asm); (case N => k_asm); (case U => k_updF); (case z => assumption)); intro h' o' F' N' hd'; (try dsimp only at N')) | (k_here; (with_reducible show wpAny _ _ (subscriptTail _ _ (Value.ref _) (Value.int _ _)) _ _ _); k_dflt (refine' kda_item (knd := intKind _ _) ?N ?m ?d (intKind_is _ _ _ _) ?l ?_; (case d => assumption); (case N => k_asm); (case m => k_mem); (case l => assumption))) | (k_here; (with_reducible show wpAny _ _ (call (Value.ref _) _) _ _ _); k_dflt (refine wpAny_call ?_; ( refine' code_def ?k1z9 ?k2z9 ?k3z9 ?k4z9 ?k5z9 ?kAz9 ?kFz9 ?kKz9 ?k6z9 ?k7z9 ?k8z9 ?k9z9 ?kBz9 ?_ ?c2z9 ?c3z9 ?c4z9 ?c5z9; (case kAz9 => first | exact deeper_frames _ (by assumption) | exact deeper_frames _ (deeper_frames _ (by assumption)) | exact deeper_frames _ (deeper_frames _ (deeper_frames _ (by assumption)))); (case kFz9 => exact rfl); (case kKz9 => exact rfl); (case k1z9 => k_asm); (case k2z9 => k_asm); (case k3z9 => k_asm); (case k4z9 => k_asm); (case k5z9 => k_asm); (case k6z9 => k_is); (case k7z9 => k_is); (case k8z9 => k_room); (case k9z9 => exact BindsTo.of_eq rfl); (case c5z9 => decide); (case kBz9 => exact locs rfl); (case c2z9 => exact rfl); (case c3z9 => exact rfl); (case c4z9 => exact rfl); k_whole; intro _ _ _ _ _ _ _ _ _; (with_reducible refine wp_never ?_); (try dsimp only); (try k_fold)))) | (k_here; (with_reducible show wpAny _ _ (setItem (Value.ref _) (Value.int _ _) _) _ _ _); k_dflt (refine' set_led ?Fz9 ?Nz9 ?Uz9 ?az9 ?bz9 ?zz9 ?_; (case Fz9 => k_asm); (case Nz9 => k_asm); (case Uz9 => k_upd); (case az9 => ksa_idx); (case bz9 => ksa_idx); (case zz9 => ksa_idx); k_whole); intro _ _ _; (try k_sweep)) | (k_here; (with_reducible show wpAny _ _ (call (Value.builtin "list.append") [Value.ref _, _]) _ _ _); k_dflt (refine' append_led ?Fz9 ?Nz9 ?Uz9 ?zz9 ?_; (case Fz9 => k_asm); (case Nz9 => k_asm); (case Uz9 => k_upd); (case zz9 => ksa_idx); k_whole); intro _ _ _; (try k_sweep)) | (k_here; (with_reducible show wpAny _ _ (call (Value.builtin "len") [Value.ref _]) _ _ _); k_dflt (refine' len_led ?Nz9 ?mz9 ?zz9 ?_; (case Nz9 => k_asm); (case mz9 => k_mem); (case zz9 => ksa_idx); k_whole); intro _ _) | (k_here; (with_reducible show wpAny _ _ (subscriptTail _ _ (Value.ref _) (Value.int _ _)) _ _ _); k_dflt (refine' item_led ?Nz9 ?mz9 ?az9 ?bz9 ?xz9 ?_; (case Nz9 => k_asm); (case mz9 => k_mem); (case az9 => omega); (case bz9 => omega); (case xz9 => assumption))) | (k_end; kc_close) | (k_end; wrow_close) | walk1 | (dsimp only; walk1) | (leave1; (try dsimp only)) | fail "no step"))
      (rename Fr _ _ _ _ => kF); (rename News _ _ _ _ => kN)
      refine hQ _ _ _ _ _ _ [] (hs.set pl.toNat c9) kF kN (fun _ h => nomatch h) (CellsAt.set dH (fun _ h => h) hd4 lH _) (by simp) (set_far h0) (hT.mono _ _ _ _ _ ht (by omega) fun _ h => h) rfl ?_
      intro z z1 z2 z3
      rw [if_neg z1, if_neg z3, stdL_eq _ hl]; exact if_neg z2
    · (repeat' (first | (k_unfold; (try dsimp only)) | (k_here; (with_reducible show wpAny _ _ (setItem (Value.ref _) (Value.int _ _) _) _ _ _); k_dflt (refine' kda_set (knd := intKind _ _) ?F ?N ?U ?d (intKind_is _ _ _ _) ?z ?_; (case d => assumption); (case F => k_asm); (case N => k_asm); (case U => k_updF); (case z => assumption)); intro h' o' F' N' hd'; (try dsimp only at N')) | (k_here; (with_reducible show wpAny _ _ (subscriptTail _ _ (Value.ref _) (Value.int _ _)) _ _ _); k_dflt (refine' kda_item (knd := intKind _ _) ?N ?m ?d (intKind_is _ _ _ _) ?l ?_; (case d => assumption); (case N => k_asm); (case m => k_mem); (case l => assumption))) | (k_here; (with_reducible show wpAny _ _ (call (Value.ref _) _) _ _ _); k_dflt (refine wpAny_call ?_; ( refine' code_def ?k1z9 ?k2z9 ?k3z9 ?k4z9 ?k5z9 ?kAz9 ?kFz9 ?kKz9 ?k6z9 ?k7z9 ?k8z9 ?k9z9 ?kBz9 ?_ ?c2z9 ?c3z9 ?c4z9 ?c5z9; (case kAz9 => first | exact deeper_frames _ (by assumption) | exact deeper_frames _ (deeper_frames _ (by assumption)) | exact deeper_frames _ (deeper_frames _ (deeper_frames _ (by assumption)))); (case kFz9 => exact rfl); (case kKz9 => exact rfl); (case k1z9 => k_asm); (case k2z9 => k_asm); (case k3z9 => k_asm); (case k4z9 => k_asm); (case k5z9 => k_asm); (case k6z9 => k_is); (case k7z9 => k_is); (case k8z9 => k_room); (case k9z9 => exact BindsTo.of_eq rfl); (case c5z9 => decide); (case kBz9 => exact locs rfl); (case c2z9 => exact rfl); (case c3z9 => exact rfl); (case c4z9 => exact rfl); k_whole; intro _ _ _ _ _ _ _ _ _; (with_reducible refine wp_never ?_); (try dsimp only); (try k_fold)))) | (k_here; (with_reducible show wpAny _ _ (setItem (Value.ref _) (Value.int _ _) _) _ _ _); k_dflt (refine' set_led ?Fz9 ?Nz9 ?Uz9 ?az9 ?bz9 ?zz9 ?_; (case Fz9 => k_asm); (case Nz9 => k_asm); (case Uz9 => k_upd); (case az9 => ksa_idx); (case bz9 => ksa_idx); (case zz9 => ksa_idx); k_whole); intro _ _ _; (try k_sweep)) | (k_here; (with_reducible show wpAny _ _ (call (Value.builtin "list.append") [Value.ref _, _]) _ _ _); k_dflt (refine' append_led ?Fz9 ?Nz9 ?Uz9 ?zz9 ?_; (case Fz9 => k_asm); (case Nz9 => k_asm); (case Uz9 => k_upd); (case zz9 => ksa_idx); k_whole); intro _ _ _; (try k_sweep)) | (k_here; (with_reducible show wpAny _ _ (call (Value.builtin "len") [Value.ref _]) _ _ _); k_dflt (refine' len_led ?Nz9 ?mz9 ?zz9 ?_; (case Nz9 => k_asm); (case mz9 => k_mem); (case zz9 => ksa_idx); k_whole); intro _ _) | (k_here; (with_reducible show wpAny _ _ (subscriptTail _ _ (Value.ref _) (Value.int _ _)) _ _ _); k_dflt (refine' item_led ?Nz9 ?mz9 ?az9 ?bz9 ?xz9 ?_; (case Nz9 => k_asm); (case mz9 => k_mem); (case az9 => omega); (case bz9 => omega); (case xz9 => assumption))) | (k_end; kc_close) | (k_end; wrow_close) | walk1 | (dsimp only; walk1) | (leave1; (try dsimp only)) | fail "no step"))
      (rename Fr _ _ _ _ => kF); (rename News _ _ _ _ => kN); clear hd1; (rename Obj.IsDictOf _ _ _ => kD)
      refine hQ _ _ _ _ _ _ [_] hs kF (turn_ledger [_] kN) (fresh_one (by assumption) (by assumption) (by assumption) (by assumption)) (CellsAt.mono hc sub_right) rfl (fun _ _ => rfl) (hd4 _ _ _ pl sub_right (cell_in (.head _)) kD) rfl ?_
      intro z z1 z2 z3
      rw [if_neg z1, if_neg z3, stdL_eq _ hl]; exact if_neg z2
end
section
theorem walk_off_P13 : True := by
  w_top off
  trivial
/-- a key: made, or one of the two that stand at the top -/
noncomputable def KyIn (R : List (Addr × Obj)) (v : Value) (k : Ky) : Prop := DatIn R v k.d ∨ (v = .ref 377 ∧ k = .var) ∨ (v = .ref 378 ∧ k = .list)
theorem KyIn.mono {R R' : List (Addr × Obj)} {v : Value} {k : Ky} (h : KyIn R v k) (hs : ∀ p ∈ R, p ∈ R') : KyIn R' v k := h.imp (fun h => h.mono hs) fun h => h
noncomputable def Hd (h : Heap) (v : Value) (d : Dat) : Prop := ∃ as, Reads h v (kqdP d) as
theorem Ky.ok (k : Ky) : kqdOk 8 k.d = true := by
  cases k <;> simp [kqdOk, Ky.d, cd] <;> decide +kernel
theorem Ky.ok9 (k : Ky) : kqdOk 9 k.d = true := by
  cases k <;> simp [kqdOk, Ky.d, cd] <;> decide +kernel
theorem Ky.inj {a b : Ky} (h : a.d = b.d) : a = b := by
  cases a <;> cases b <;> simp_all [Ky.d, cd, Prod.ext_iff] <;> exact absurd h (by decide +kernel)
theorem DatIn.hd {h₀ h : Heap} {L : Addr} {R : List (Addr × Obj)} {v : Value} {d : Dat} (N : News h₀ L h R) (hk : DatIn R v d) (ok : kqdOk 8 d = true) : Hd h v d := kqd_in N 8 hk ok
theorem key_objs0 : PySem.Challenge.rw_no0174_01.row.prog = PySem.Challenge.rw_no0174_01.row.prog → ∃ t n t' n', (hk.heap_1 w.params).lookup 377 = some (tupAt [.str (Str.ofString "var") t] n) ∧ (hk.heap_1 w.params).lookup 378 = some (tupAt [.str (Str.ofString "list") t'] n') := by
  k_fill
  intro _
  exact ⟨_, _, _, _, (by k_is), (by k_is)⟩
theorem key_objs : ∃ t n t' n', (hk.heap_1 w.params).lookup 377 = some (tupAt [.str (Str.ofString "var") t] n) ∧ (hk.heap_1 w.params).lookup 378 = some (tupAt [.str (Str.ofString "list") t'] n') := key_objs0 rfl
theorem KyIn.hd {g h : Heap} {L : Addr} {m : Str → Option Value} {R : List (Addr × Obj)} {v : Value} {k : Ky} (X : (hk.heap_1 w.params).In g) (F : Fr g L h m) (N : News g L h R) (hk : KyIn R v k) : Hd h v k.d := by
  obtain ⟨t, n, t', n', k1, k2⟩ := key_objs (w := w)
  rcases hk with hk | ⟨rfl, rfl⟩ | ⟨rfl, rfl⟩
  · exact DatIn.hd N hk k.ok
  · exact ⟨_, reads_tuple_at (F.keep _ _ (X _ _ k1)) rfl rfl (ReadsAll.cons (Reads.str _ _) ReadsAll.nil)⟩
  · exact ⟨_, reads_tuple_at (F.keep _ _ (X _ _ k2)) rfl rfl (ReadsAll.cons (Reads.str _ _) ReadsAll.nil)⟩
theorem KyIn.ref {R : List (Addr × Obj)} {v : Value} {k : Ky} (h : KyIn R v k) : ∃ a, v = .ref a := by
  rcases h with h | ⟨rfl, _⟩ | ⟨rfl, _⟩
  · cases k <;> (cases h; exact ⟨_, rfl⟩)
  · exact ⟨_, rfl⟩
  · exact ⟨_, rfl⟩
section
variable {A : Around} {E : Value → Shared → Prop} {s : Shared} {Q : Value → Shared → Prop} {a b : Value} {da db : Dat}
theorem shaped_ok {d : Dat} (h : kqdOk 9 d = true) : SeqAt.shaped (kqdP d) = true := by
  have l := kqd_lay 9 d h
  unfold SeqAt.shaped
  rw [l.1, Bool.true_and]
  exact decide_eq_true (Nat.le_trans l.2 (by decide))
open Classical in
theorem eqv_dec (ha : kqdOk 9 da = true) (hb : kqdOk 9 db = true) : PyData.eqv (kqdP da) (kqdP db) = decide (da = db) := by
  have q := kqd_eqv 9 da db 9 ha hb
  by_cases hq : da = db
  · rw [decide_eq_true hq]; exact q.mpr hq
  · rw [decide_eq_false hq]; exact Bool.eq_false_iff.mpr fun x => hq (q.mp x)
theorem eq_hd (ra : Hd s.heap a da) (rb : Hd s.heap b db) (ha : kqdOk 9 da = true) (hb : kqdOk 9 db = true) (hu : A.units + 64 < cLine) (c : Bool) (hc : da = db ↔ c = true) (h : Q (.bool c) s) : wpAny (model prg w) A (compareOp .Eq a b) Q E s := by
  obtain ⟨as, ra⟩ := ra
  obtain ⟨bs, rb⟩ := rb
  refine eq_dataH ra rb (shaped_ok ha) (shaped_ok hb) hu ?_
  have e : PyData.eqv (kqdP da) (kqdP db) = c := Bool.eq_iff_iff.mpr ((kqd_eqv 9 da db 9 ha hb).trans hc)
  rw [e]; exact h
theorem ne_hd (ra : Hd s.heap a da) (rb : Hd s.heap b db) (ha : kqdOk 9 da = true) (hb : kqdOk 9 db = true) (hu : A.units + 64 < cLine) (c : Bool) (hc : da = db ↔ c = true) (h : Q (.bool (!c)) s) : wpAny (model prg w) A (compareOp .NotEq a b) Q E s := by
  obtain ⟨as, ra⟩ := ra
  obtain ⟨bs, rb⟩ := rb
  refine ne_dataH ra rb (shaped_ok ha) (shaped_ok hb) hu ?_
  have e : PyData.eqv (kqdP da) (kqdP db) = c := Bool.eq_iff_iff.mpr ((kqd_eqv 9 da db 9 ha hb).trans hc)
  rw [e]; exact h
theorem eq_ky {g : Heap} {L : Addr} {m : Str → Option Value} {R : List (Addr × Obj)} {k k' : Ky} (X : (hk.heap_1 w.params).In g) (F : Fr g L s.heap m) (N : News g L s.heap R) (ha : KyIn R a k) (hb : KyIn R b k') (hu : A.units + 64 < cLine) (c : Bool) (hc : decide (k = k') = c) (h : Q (.bool c) s) : wpAny (model prg w) A (compareOp .Eq a b) Q E s :=
  eq_hd (ha.hd X F N) (hb.hd X F N) k.ok9 k'.ok9 hu c (by rw [← hc, decide_eq_true_eq]; exact ⟨Ky.inj, fun h => h ▸ rfl⟩) h
theorem ne_ky {g : Heap} {L : Addr} {m : Str → Option Value} {R : List (Addr × Obj)} {k k' : Ky} (X : (hk.heap_1 w.params).In g) (F : Fr g L s.heap m) (N : News g L s.heap R) (ha : KyIn R a k) (hb : KyIn R b k') (hu : A.units + 64 < cLine) (c : Bool) (hc : decide (k = k') = c) (h : Q (.bool (!c)) s) : wpAny (model prg w) A (compareOp .NotEq a b) Q E s :=
  ne_hd (ha.hd X F N) (hb.hd X F N) k.ok9 k'.ok9 hu c (by rw [← hc, decide_eq_true_eq]; exact ⟨Ky.inj, fun h => h ▸ rfl⟩) h
end
local macro_rules | `(tactic| walk_at "compareOp Eq ref ref") => `(tactic| (k_here; k_dflt (first
  | (refine' eq_ky ?X ?F ?N ?a ?b ?u true ?c ?_; (case X => k_asm); (case F => k_asm); (case N => k_asm); (case a => assumption); (case b => first | assumption | exact .inr (.inl ⟨rfl, rfl⟩)); (case u => units_room); (case c => exact decide_eq_true (by assumption)))
  | (refine' eq_ky ?X ?F ?N ?a ?b ?u false ?c ?_; (case X => k_asm); (case F => k_asm); (case N => k_asm); (case a => assumption); (case b => first | assumption | exact .inr (.inl ⟨rfl, rfl⟩)); (case u => units_room); (case c => exact decide_eq_false (by assumption))))))
local macro_rules | `(tactic| walk_at "zz0") => `(tactic| skip)
theorem matching_spec (v v' : Value) (a b : Ky) (rest : List (Addr × Obj)) (ha : KyIn rest v a) (hb : KyIn rest v' b) :
   Spec w 399 [v, v'] rest 3 200 (fun r post => r = .bool (decide (a = .var) || decide (b = .var) || decide (a = b)) ∧ post = rest) := by
  refine wr_mp ?_
  simp (disch := (k_dflt (
      unfold Spec
      k_fill
      intro p loose mean mg mb A A₀ env outer base h₀ L m s R B F X N T9 hA hf hke hh hd hu hret
      obtain ⟨x, rfl⟩ := ha.ref
      obtain ⟨y, rfl⟩ := hb.ref
      by_cases h1 : a = .var
      · ( refine' code_def ?k1z9 ?k2z9 ?k3z9 ?k4z9 ?k5z9 ?kAz9 ?kFz9 ?kKz9 ?k6z9 ?k7z9 ?k8z9 ?k9z9 ?kBz9 ?_ ?c2z9 ?c3z9 ?c4z9 ?c5z9; (case kAz9 => assumption); (case kFz9 => assumption); (case kKz9 => assumption); (case k1z9 => k_asm); (case k2z9 => k_asm); (case k3z9 => k_asm); (case k4z9 => k_asm); (case k5z9 => k_asm); (case k6z9 => k_is); (case k7z9 => k_is); (case k8z9 => k_room); (case k9z9 => exact BindsTo.of_eq rfl); (case c5z9 => decide); (case kBz9 => exact locs rfl); (case c2z9 => exact rfl); (case c3z9 => exact rfl); (case c4z9 => exact rfl); k_whole; intro _ _ _ _ _ _ _ _ _; (with_reducible refine wp_never ?_); (try dsimp only); (try k_fold))
        (repeat' (first | (k_unfold; (try dsimp only)) | (k_here; (with_reducible show wpAny _ _ (call (Value.ref _) _) _ _ _); k_dflt (refine wpAny_call ?_; ( refine' code_def ?k1z9 ?k2z9 ?k3z9 ?k4z9 ?k5z9 ?kAz9 ?kFz9 ?kKz9 ?k6z9 ?k7z9 ?k8z9 ?k9z9 ?kBz9 ?_ ?c2z9 ?c3z9 ?c4z9 ?c5z9; (case kAz9 => first | exact deeper_frames _ (by assumption) | exact deeper_frames _ (deeper_frames _ (by assumption)) | exact deeper_frames _ (deeper_frames _ (deeper_frames _ (by assumption)))); (case kFz9 => exact rfl); (case kKz9 => exact rfl); (case k1z9 => k_asm); (case k2z9 => k_asm); (case k3z9 => k_asm); (case k4z9 => k_asm); (case k5z9 => k_asm); (case k6z9 => k_is); (case k7z9 => k_is); (case k8z9 => k_room); (case k9z9 => exact BindsTo.of_eq rfl); (case c5z9 => decide); (case kBz9 => exact locs rfl); (case c2z9 => exact rfl); (case c3z9 => exact rfl); (case c4z9 => exact rfl); k_whole; intro _ _ _ _ _ _ _ _ _; (with_reducible refine wp_never ?_); (try dsimp only); (try k_fold)))) | (k_here; (with_reducible show wpAny _ _ (setItem (Value.ref _) (Value.int _ _) _) _ _ _); k_dflt (refine' set_led ?Fz9 ?Nz9 ?Uz9 ?az9 ?bz9 ?zz9 ?_; (case Fz9 => k_asm); (case Nz9 => k_asm); (case Uz9 => k_upd); (case az9 => ksa_idx); (case bz9 => ksa_idx); (case zz9 => ksa_idx); k_whole); intro _ _ _; (try k_sweep)) | (k_here; (with_reducible show wpAny _ _ (call (Value.builtin "list.append") [Value.ref _, _]) _ _ _); k_dflt (refine' append_led ?Fz9 ?Nz9 ?Uz9 ?zz9 ?_; (case Fz9 => k_asm); (case Nz9 => k_asm); (case Uz9 => k_upd); (case zz9 => ksa_idx); k_whole); intro _ _ _; (try k_sweep)) | (k_here; (with_reducible show wpAny _ _ (call (Value.builtin "len") [Value.ref _]) _ _ _); k_dflt (refine' len_led ?Nz9 ?mz9 ?zz9 ?_; (case Nz9 => k_asm); (case mz9 => k_mem); (case zz9 => ksa_idx); k_whole); intro _ _) | (k_here; (with_reducible show wpAny _ _ (subscriptTail _ _ (Value.ref _) (Value.int _ _)) _ _ _); k_dflt (refine' item_led ?Nz9 ?mz9 ?az9 ?bz9 ?xz9 ?_; (case Nz9 => k_asm); (case mz9 => k_mem); (case az9 => omega); (case bz9 => omega); (case xz9 => assumption))) | (k_end; kc_close) | (k_end; wrow_close) | walk1 | (dsimp only; walk1) | (leave1; (try dsimp only)) | fail "no step"))
        (rename Fr _ _ _ _ => kF); (rename News _ _ _ _ => kN)
        exact hret _ _ _ _ kF kN ⟨by simp [h1], rfl⟩
      by_cases h2 : b = .var
      · ( refine' code_def ?k1z9 ?k2z9 ?k3z9 ?k4z9 ?k5z9 ?kAz9 ?kFz9 ?kKz9 ?k6z9 ?k7z9 ?k8z9 ?k9z9 ?kBz9 ?_ ?c2z9 ?c3z9 ?c4z9 ?c5z9; (case kAz9 => assumption); (case kFz9 => assumption); (case kKz9 => assumption); (case k1z9 => k_asm); (case k2z9 => k_asm); (case k3z9 => k_asm); (case k4z9 => k_asm); (case k5z9 => k_asm); (case k6z9 => k_is); (case k7z9 => k_is); (case k8z9 => k_room); (case k9z9 => exact BindsTo.of_eq rfl); (case c5z9 => decide); (case kBz9 => exact locs rfl); (case c2z9 => exact rfl); (case c3z9 => exact rfl); (case c4z9 => exact rfl); k_whole; intro _ _ _ _ _ _ _ _ _; (with_reducible refine wp_never ?_); (try dsimp only); (try k_fold))
        (repeat' (first | (k_unfold; (try dsimp only)) | (k_here; (with_reducible show wpAny _ _ (call (Value.ref _) _) _ _ _); k_dflt (refine wpAny_call ?_; ( refine' code_def ?k1z9 ?k2z9 ?k3z9 ?k4z9 ?k5z9 ?kAz9 ?kFz9 ?kKz9 ?k6z9 ?k7z9 ?k8z9 ?k9z9 ?kBz9 ?_ ?c2z9 ?c3z9 ?c4z9 ?c5z9; (case kAz9 => first | exact deeper_frames _ (by assumption) | exact deeper_frames _ (deeper_frames _ (by assumption)) | exact deeper_frames _ (deeper_frames _ (deeper_frames _ (by assumption)))); (case kFz9 => exact rfl); (case kKz9 => exact rfl); (case k1z9 => k_asm); (case k2z9 => k_asm); (case k3z9 => k_asm); (case k4z9 => k_asm); (case k5z9 => k_asm); (case k6z9 => k_is); (case k7z9 => k_is); (case k8z9 => k_room); (case k9z9 => exact BindsTo.of_eq rfl); (case c5z9 => decide); (case kBz9 => exact locs rfl); (case c2z9 => exact rfl); (case c3z9 => exact rfl); (case c4z9 => exact rfl); k_whole; intro _ _ _ _ _ _ _ _ _; (with_reducible refine wp_never ?_); (try dsimp only); (try k_fold)))) | (k_here; (with_reducible show wpAny _ _ (setItem (Value.ref _) (Value.int _ _) _) _ _ _); k_dflt (refine' set_led ?Fz9 ?Nz9 ?Uz9 ?az9 ?bz9 ?zz9 ?_; (case Fz9 => k_asm); (case Nz9 => k_asm); (case Uz9 => k_upd); (case az9 => ksa_idx); (case bz9 => ksa_idx); (case zz9 => ksa_idx); k_whole); intro _ _ _; (try k_sweep)) | (k_here; (with_reducible show wpAny _ _ (call (Value.builtin "list.append") [Value.ref _, _]) _ _ _); k_dflt (refine' append_led ?Fz9 ?Nz9 ?Uz9 ?zz9 ?_; (case Fz9 => k_asm); (case Nz9 => k_asm); (case Uz9 => k_upd); (case zz9 => ksa_idx); k_whole); intro _ _ _; (try k_sweep)) | (k_here; (with_reducible show wpAny _ _ (call (Value.builtin "len") [Value.ref _]) _ _ _); k_dflt (refine' len_led ?Nz9 ?mz9 ?zz9 ?_; (case Nz9 => k_asm); (case mz9 => k_mem); (case zz9 => ksa_idx); k_whole); intro _ _) | (k_here; (with_reducible show wpAny _ _ (subscriptTail _ _ (Value.ref _) (Value.int _ _)) _ _ _); k_dflt (refine' item_led ?Nz9 ?mz9 ?az9 ?bz9 ?xz9 ?_; (case Nz9 => k_asm); (case mz9 => k_mem); (case az9 => omega); (case bz9 => omega); (case xz9 => assumption))) | (k_end; kc_close) | (k_end; wrow_close) | walk1 | (dsimp only; walk1) | (leave1; (try dsimp only)) | fail "no step"))
        (rename Fr _ _ _ _ => kF); (rename News _ _ _ _ => kN)
        exact hret _ _ _ _ kF kN ⟨by simp [h2], rfl⟩
      by_cases h3 : a = b
      · ( refine' code_def ?k1z9 ?k2z9 ?k3z9 ?k4z9 ?k5z9 ?kAz9 ?kFz9 ?kKz9 ?k6z9 ?k7z9 ?k8z9 ?k9z9 ?kBz9 ?_ ?c2z9 ?c3z9 ?c4z9 ?c5z9; (case kAz9 => assumption); (case kFz9 => assumption); (case kKz9 => assumption); (case k1z9 => k_asm); (case k2z9 => k_asm); (case k3z9 => k_asm); (case k4z9 => k_asm); (case k5z9 => k_asm); (case k6z9 => k_is); (case k7z9 => k_is); (case k8z9 => k_room); (case k9z9 => exact BindsTo.of_eq rfl); (case c5z9 => decide); (case kBz9 => exact locs rfl); (case c2z9 => exact rfl); (case c3z9 => exact rfl); (case c4z9 => exact rfl); k_whole; intro _ _ _ _ _ _ _ _ _; (with_reducible refine wp_never ?_); (try dsimp only); (try k_fold))
        (repeat' (first | (k_unfold; (try dsimp only)) | (k_here; (with_reducible show wpAny _ _ (call (Value.ref _) _) _ _ _); k_dflt (refine wpAny_call ?_; ( refine' code_def ?k1z9 ?k2z9 ?k3z9 ?k4z9 ?k5z9 ?kAz9 ?kFz9 ?kKz9 ?k6z9 ?k7z9 ?k8z9 ?k9z9 ?kBz9 ?_ ?c2z9 ?c3z9 ?c4z9 ?c5z9; (case kAz9 => first | exact deeper_frames _ (by assumption) | exact deeper_frames _ (deeper_frames _ (by assumption)) | exact deeper_frames _ (deeper_frames _ (deeper_frames _ (by assumption)))); (case kFz9 => exact rfl); (case kKz9 => exact rfl); (case k1z9 => k_asm); (case k2z9 => k_asm); (case k3z9 => k_asm); (case k4z9 => k_asm); (case k5z9 => k_asm); (case k6z9 => k_is); (case k7z9 => k_is); (case k8z9 => k_room); (case k9z9 => exact BindsTo.of_eq rfl); (case c5z9 => decide); (case kBz9 => exact locs rfl); (case c2z9 => exact rfl); (case c3z9 => exact rfl); (case c4z9 => exact rfl); k_whole; intro _ _ _ _ _ _ _ _ _; (with_reducible refine wp_never ?_); (try dsimp only); (try k_fold)))) | (k_here; (with_reducible show wpAny _ _ (setItem (Value.ref _) (Value.int _ _) _) _ _ _); k_dflt (refine' set_led ?Fz9 ?Nz9 ?Uz9 ?az9 ?bz9 ?zz9 ?_; (case Fz9 => k_asm); (case Nz9 => k_asm); (case Uz9 => k_upd); (case az9 => ksa_idx); (case bz9 => ksa_idx); (case zz9 => ksa_idx); k_whole); intro _ _ _; (try k_sweep)) | (k_here; (with_reducible show wpAny _ _ (call (Value.builtin "list.append") [Value.ref _, _]) _ _ _); k_dflt (refine' append_led ?Fz9 ?Nz9 ?Uz9 ?zz9 ?_; (case Fz9 => k_asm); (case Nz9 => k_asm); (case Uz9 => k_upd); (case zz9 => ksa_idx); k_whole); intro _ _ _; (try k_sweep)) | (k_here; (with_reducible show wpAny _ _ (call (Value.builtin "len") [Value.ref _]) _ _ _); k_dflt (refine' len_led ?Nz9 ?mz9 ?zz9 ?_; (case Nz9 => k_asm); (case mz9 => k_mem); (case zz9 => ksa_idx); k_whole); intro _ _) | (k_here; (with_reducible show wpAny _ _ (subscriptTail _ _ (Value.ref _) (Value.int _ _)) _ _ _); k_dflt (refine' item_led ?Nz9 ?mz9 ?az9 ?bz9 ?xz9 ?_; (case Nz9 => k_asm); (case mz9 => k_mem); (case az9 => omega); (case bz9 => omega); (case xz9 => assumption))) | (k_end; kc_close) | (k_end; wrow_close) | walk1 | (dsimp only; walk1) | (leave1; (try dsimp only)) | fail "no step"))
        (rename Fr _ _ _ _ => kF); (rename News _ _ _ _ => kN)
        exact hret _ _ _ _ kF kN ⟨by simp [h3], rfl⟩
      · ( refine' code_def ?k1z9 ?k2z9 ?k3z9 ?k4z9 ?k5z9 ?kAz9 ?kFz9 ?kKz9 ?k6z9 ?k7z9 ?k8z9 ?k9z9 ?kBz9 ?_ ?c2z9 ?c3z9 ?c4z9 ?c5z9; (case kAz9 => assumption); (case kFz9 => assumption); (case kKz9 => assumption); (case k1z9 => k_asm); (case k2z9 => k_asm); (case k3z9 => k_asm); (case k4z9 => k_asm); (case k5z9 => k_asm); (case k6z9 => k_is); (case k7z9 => k_is); (case k8z9 => k_room); (case k9z9 => exact BindsTo.of_eq rfl); (case c5z9 => decide); (case kBz9 => exact locs rfl); (case c2z9 => exact rfl); (case c3z9 => exact rfl); (case c4z9 => exact rfl); k_whole; intro _ _ _ _ _ _ _ _ _; (with_reducible refine wp_never ?_); (try dsimp only); (try k_fold))
        (repeat' (first | (k_unfold; (try dsimp only)) | (k_here; (with_reducible show wpAny _ _ (call (Value.ref _) _) _ _ _); k_dflt (refine wpAny_call ?_; ( refine' code_def ?k1z9 ?k2z9 ?k3z9 ?k4z9 ?k5z9 ?kAz9 ?kFz9 ?kKz9 ?k6z9 ?k7z9 ?k8z9 ?k9z9 ?kBz9 ?_ ?c2z9 ?c3z9 ?c4z9 ?c5z9; (case kAz9 => first | exact deeper_frames _ (by assumption) | exact deeper_frames _ (deeper_frames _ (by assumption)) | exact deeper_frames _ (deeper_frames _ (deeper_frames _ (by assumption)))); (case kFz9 => exact rfl); (case kKz9 => exact rfl); (case k1z9 => k_asm); (case k2z9 => k_asm); (case k3z9 => k_asm); (case k4z9 => k_asm); (case k5z9 => k_asm); (case k6z9 => k_is); (case k7z9 => k_is); (case k8z9 => k_room); (case k9z9 => exact BindsTo.of_eq rfl); (case c5z9 => decide); (case kBz9 => exact locs rfl); (case c2z9 => exact rfl); (case c3z9 => exact rfl); (case c4z9 => exact rfl); k_whole; intro _ _ _ _ _ _ _ _ _; (with_reducible refine wp_never ?_); (try dsimp only); (try k_fold)))) | (k_here; (with_reducible show wpAny _ _ (setItem (Value.ref _) (Value.int _ _) _) _ _ _); k_dflt (refine' set_led ?Fz9 ?Nz9 ?Uz9 ?az9 ?bz9 ?zz9 ?_; (case Fz9 => k_asm); (case Nz9 => k_asm); (case Uz9 => k_upd); (case az9 => ksa_idx); (case bz9 => ksa_idx); (case zz9 => ksa_idx); k_whole); intro _ _ _; (try k_sweep)) | (k_here; (with_reducible show wpAny _ _ (call (Value.builtin "list.append") [Value.ref _, _]) _ _ _); k_dflt (refine' append_led ?Fz9 ?Nz9 ?Uz9 ?zz9 ?_; (case Fz9 => k_asm); (case Nz9 => k_asm); (case Uz9 => k_upd); (case zz9 => ksa_idx); k_whole); intro _ _ _; (try k_sweep)) | (k_here; (with_reducible show wpAny _ _ (call (Value.builtin "len") [Value.ref _]) _ _ _); k_dflt (refine' len_led ?Nz9 ?mz9 ?zz9 ?_; (case Nz9 => k_asm); (case mz9 => k_mem); (case zz9 => ksa_idx); k_whole); intro _ _) | (k_here; (with_reducible show wpAny _ _ (subscriptTail _ _ (Value.ref _) (Value.int _ _)) _ _ _); k_dflt (refine' item_led ?Nz9 ?mz9 ?az9 ?bz9 ?xz9 ?_; (case Nz9 => k_asm); (case mz9 => k_mem); (case az9 => omega); (case bz9 => omega); (case xz9 => assumption))) | (k_end; kc_close) | (k_end; wrow_close) | walk1 | (dsimp only; walk1) | (leave1; (try dsimp only)) | fail "no step"))
        (rename Fr _ _ _ _ => kF); (rename News _ _ _ _ => kN)
        exact hret _ _ _ _ kF kN ⟨by simp [h1, h2, h3], rfl⟩))) only [↓wr_true]
end
section
theorem walk_off_P14 : True := by
  w_top off
  trivial
noncomputable def KyPost (rest R : List (Addr × Obj)) (k : Ky) (v : Value) (post : List (Addr × Obj)) : Prop :=
  ∃ new, post = new ++ rest ∧ (∀ p ∈ new, ∀ q ∈ rest, @LT.lt Nat _ q.1 p.1) ∧ KyIn (new ++ R) v k
theorem ky_nil {rest R : List (Addr × Obj)} {k : Ky} {v : Value} (h : KyIn R v k) : KyPost rest R k v rest := ⟨[], rfl, (fun _ h => nomatch h), h⟩
theorem PurePost.ky {rest R post : List (Addr × Obj)} {k : Ky} {v : Value} (h : PurePost rest R k.d v post) : KyPost rest R k v post := let ⟨new, a, b, c⟩ := h; ⟨new, a, b, .inl c⟩
theorem termkey_spec (v : Value) (T : Tm) (rest RD : List (Addr × Obj)) (hT : DatIn rest v T.d) :
   Spec w 413 [v] rest 5 200 (KyPost rest RD T.key) := by
  refine wr_mp ?_
  simp (disch := (k_dflt (
      unfold Spec
      k_fill
      intro p loose mean mg mb A A₀ env outer base h₀ L m s R B F X N T9 hA hf hke hh hd hu hret
      rcases T with (n | k | k) | ⟨f, xs⟩
      · obtain ⟨a, n, t, u, rfl, hm⟩ := dat_ci hT
        ( refine' code_def ?k1z9 ?k2z9 ?k3z9 ?k4z9 ?k5z9 ?kAz9 ?kFz9 ?kKz9 ?k6z9 ?k7z9 ?k8z9 ?k9z9 ?kBz9 ?_ ?c2z9 ?c3z9 ?c4z9 ?c5z9; (case kAz9 => assumption); (case kFz9 => assumption); (case kKz9 => assumption); (case k1z9 => k_asm); (case k2z9 => k_asm); (case k3z9 => k_asm); (case k4z9 => k_asm); (case k5z9 => k_asm); (case k6z9 => k_is); (case k7z9 => k_is); (case k8z9 => k_room); (case k9z9 => exact BindsTo.of_eq rfl); (case c5z9 => decide); (case kBz9 => exact locs rfl); (case c2z9 => exact rfl); (case c3z9 => exact rfl); (case c4z9 => exact rfl); k_whole; intro _ _ _ _ _ _ _ _ _; (with_reducible refine wp_never ?_); (try dsimp only); (try k_fold))
        (repeat' (first | (k_unfold; (try dsimp only)) | (k_here; (with_reducible show wpAny _ _ (call (Value.ref _) _) _ _ _); k_dflt (refine wpAny_call ?_; ( refine' code_def ?k1z9 ?k2z9 ?k3z9 ?k4z9 ?k5z9 ?kAz9 ?kFz9 ?kKz9 ?k6z9 ?k7z9 ?k8z9 ?k9z9 ?kBz9 ?_ ?c2z9 ?c3z9 ?c4z9 ?c5z9; (case kAz9 => first | exact deeper_frames _ (by assumption) | exact deeper_frames _ (deeper_frames _ (by assumption)) | exact deeper_frames _ (deeper_frames _ (deeper_frames _ (by assumption)))); (case kFz9 => exact rfl); (case kKz9 => exact rfl); (case k1z9 => k_asm); (case k2z9 => k_asm); (case k3z9 => k_asm); (case k4z9 => k_asm); (case k5z9 => k_asm); (case k6z9 => k_is); (case k7z9 => k_is); (case k8z9 => k_room); (case k9z9 => exact BindsTo.of_eq rfl); (case c5z9 => decide); (case kBz9 => exact locs rfl); (case c2z9 => exact rfl); (case c3z9 => exact rfl); (case c4z9 => exact rfl); k_whole; intro _ _ _ _ _ _ _ _ _; (with_reducible refine wp_never ?_); (try dsimp only); (try k_fold)))) | (k_here; (with_reducible show wpAny _ _ (setItem (Value.ref _) (Value.int _ _) _) _ _ _); k_dflt (refine' set_led ?Fz9 ?Nz9 ?Uz9 ?az9 ?bz9 ?zz9 ?_; (case Fz9 => k_asm); (case Nz9 => k_asm); (case Uz9 => k_upd); (case az9 => ksa_idx); (case bz9 => ksa_idx); (case zz9 => ksa_idx); k_whole); intro _ _ _; (try k_sweep)) | (k_here; (with_reducible show wpAny _ _ (call (Value.builtin "list.append") [Value.ref _, _]) _ _ _); k_dflt (refine' append_led ?Fz9 ?Nz9 ?Uz9 ?zz9 ?_; (case Fz9 => k_asm); (case Nz9 => k_asm); (case Uz9 => k_upd); (case zz9 => ksa_idx); k_whole); intro _ _ _; (try k_sweep)) | (k_here; (with_reducible show wpAny _ _ (call (Value.builtin "len") [Value.ref _]) _ _ _); k_dflt (refine' len_led ?Nz9 ?mz9 ?zz9 ?_; (case Nz9 => k_asm); (case mz9 => k_mem); (case zz9 => ksa_idx); k_whole); intro _ _) | (k_here; (with_reducible show wpAny _ _ (subscriptTail _ _ (Value.ref _) (Value.int _ _)) _ _ _); k_dflt (refine' item_led ?Nz9 ?mz9 ?az9 ?bz9 ?xz9 ?_; (case Nz9 => k_asm); (case mz9 => k_mem); (case az9 => omega); (case bz9 => omega); (case xz9 => assumption))) | (k_end; kc_close) | (k_end; wrow_close) | walk1 | (dsimp only; walk1) | (leave1; (try dsimp only)) | fail "no step"))
        (rename Fr _ _ _ _ => kF); (rename News _ _ _ _ => kN)
        exact hret _ _ _ _ kF kN (ky_nil (.inr (.inl ⟨rfl, rfl⟩)))
      · obtain ⟨a, n, t, u, rfl, hm⟩ := dat_ci hT
        ( refine' code_def ?k1z9 ?k2z9 ?k3z9 ?k4z9 ?k5z9 ?kAz9 ?kFz9 ?kKz9 ?k6z9 ?k7z9 ?k8z9 ?k9z9 ?kBz9 ?_ ?c2z9 ?c3z9 ?c4z9 ?c5z9; (case kAz9 => assumption); (case kFz9 => assumption); (case kKz9 => assumption); (case k1z9 => k_asm); (case k2z9 => k_asm); (case k3z9 => k_asm); (case k4z9 => k_asm); (case k5z9 => k_asm); (case k6z9 => k_is); (case k7z9 => k_is); (case k8z9 => k_room); (case k9z9 => exact BindsTo.of_eq rfl); (case c5z9 => decide); (case kBz9 => exact locs rfl); (case c2z9 => exact rfl); (case c3z9 => exact rfl); (case c4z9 => exact rfl); k_whole; intro _ _ _ _ _ _ _ _ _; (with_reducible refine wp_never ?_); (try dsimp only); (try k_fold))
        (repeat' (first | (k_unfold; (try dsimp only)) | (k_here; (with_reducible show wpAny _ _ (call (Value.ref _) _) _ _ _); k_dflt (refine wpAny_call ?_; ( refine' code_def ?k1z9 ?k2z9 ?k3z9 ?k4z9 ?k5z9 ?kAz9 ?kFz9 ?kKz9 ?k6z9 ?k7z9 ?k8z9 ?k9z9 ?kBz9 ?_ ?c2z9 ?c3z9 ?c4z9 ?c5z9; (case kAz9 => first | exact deeper_frames _ (by assumption) | exact deeper_frames _ (deeper_frames _ (by assumption)) | exact deeper_frames _ (deeper_frames _ (deeper_frames _ (by assumption)))); (case kFz9 => exact rfl); (case kKz9 => exact rfl); (case k1z9 => k_asm); (case k2z9 => k_asm); (case k3z9 => k_asm); (case k4z9 => k_asm); (case k5z9 => k_asm); (case k6z9 => k_is); (case k7z9 => k_is); (case k8z9 => k_room); (case k9z9 => exact BindsTo.of_eq rfl); (case c5z9 => decide); (case kBz9 => exact locs rfl); (case c2z9 => exact rfl); (case c3z9 => exact rfl); (case c4z9 => exact rfl); k_whole; intro _ _ _ _ _ _ _ _ _; (with_reducible refine wp_never ?_); (try dsimp only); (try k_fold)))) | (k_here; (with_reducible show wpAny _ _ (setItem (Value.ref _) (Value.int _ _) _) _ _ _); k_dflt (refine' set_led ?Fz9 ?Nz9 ?Uz9 ?az9 ?bz9 ?zz9 ?_; (case Fz9 => k_asm); (case Nz9 => k_asm); (case Uz9 => k_upd); (case az9 => ksa_idx); (case bz9 => ksa_idx); (case zz9 => ksa_idx); k_whole); intro _ _ _; (try k_sweep)) | (k_here; (with_reducible show wpAny _ _ (call (Value.builtin "list.append") [Value.ref _, _]) _ _ _); k_dflt (refine' append_led ?Fz9 ?Nz9 ?Uz9 ?zz9 ?_; (case Fz9 => k_asm); (case Nz9 => k_asm); (case Uz9 => k_upd); (case zz9 => ksa_idx); k_whole); intro _ _ _; (try k_sweep)) | (k_here; (with_reducible show wpAny _ _ (call (Value.builtin "len") [Value.ref _]) _ _ _); k_dflt (refine' len_led ?Nz9 ?mz9 ?zz9 ?_; (case Nz9 => k_asm); (case mz9 => k_mem); (case zz9 => ksa_idx); k_whole); intro _ _) | (k_here; (with_reducible show wpAny _ _ (subscriptTail _ _ (Value.ref _) (Value.int _ _)) _ _ _); k_dflt (refine' item_led ?Nz9 ?mz9 ?az9 ?bz9 ?xz9 ?_; (case Nz9 => k_asm); (case mz9 => k_mem); (case az9 => omega); (case bz9 => omega); (case xz9 => assumption))) | (k_end; kc_close) | (k_end; wrow_close) | walk1 | (dsimp only; walk1) | (leave1; (try dsimp only)) | fail "no step"))
        (rename Fr _ _ _ _ => kF); (rename News _ _ _ _ => kN)
        obtain ⟨post, N', P'⟩ := pure_two (R := RD) kN (by assumption) (by assumption) (.tuple (.head _) (.cons (.str _ _) (.cons (.tuple (.tail _ (.head _)) (.cons (.int _ _) (.cons (.int _ _) .nil))) .nil)))
        exact hret _ _ _ _ kF N' (P'.ky (k := .const (4, k)))
      · obtain ⟨a, n, t, u, rfl, hm⟩ := dat_ci hT
        ( refine' code_def ?k1z9 ?k2z9 ?k3z9 ?k4z9 ?k5z9 ?kAz9 ?kFz9 ?kKz9 ?k6z9 ?k7z9 ?k8z9 ?k9z9 ?kBz9 ?_ ?c2z9 ?c3z9 ?c4z9 ?c5z9; (case kAz9 => assumption); (case kFz9 => assumption); (case kKz9 => assumption); (case k1z9 => k_asm); (case k2z9 => k_asm); (case k3z9 => k_asm); (case k4z9 => k_asm); (case k5z9 => k_asm); (case k6z9 => k_is); (case k7z9 => k_is); (case k8z9 => k_room); (case k9z9 => exact BindsTo.of_eq rfl); (case c5z9 => decide); (case kBz9 => exact locs rfl); (case c2z9 => exact rfl); (case c3z9 => exact rfl); (case c4z9 => exact rfl); k_whole; intro _ _ _ _ _ _ _ _ _; (with_reducible refine wp_never ?_); (try dsimp only); (try k_fold))
        (repeat' (first | (k_unfold; (try dsimp only)) | (k_here; (with_reducible show wpAny _ _ (call (Value.ref _) _) _ _ _); k_dflt (refine wpAny_call ?_; ( refine' code_def ?k1z9 ?k2z9 ?k3z9 ?k4z9 ?k5z9 ?kAz9 ?kFz9 ?kKz9 ?k6z9 ?k7z9 ?k8z9 ?k9z9 ?kBz9 ?_ ?c2z9 ?c3z9 ?c4z9 ?c5z9; (case kAz9 => first | exact deeper_frames _ (by assumption) | exact deeper_frames _ (deeper_frames _ (by assumption)) | exact deeper_frames _ (deeper_frames _ (deeper_frames _ (by assumption)))); (case kFz9 => exact rfl); (case kKz9 => exact rfl); (case k1z9 => k_asm); (case k2z9 => k_asm); (case k3z9 => k_asm); (case k4z9 => k_asm); (case k5z9 => k_asm); (case k6z9 => k_is); (case k7z9 => k_is); (case k8z9 => k_room); (case k9z9 => exact BindsTo.of_eq rfl); (case c5z9 => decide); (case kBz9 => exact locs rfl); (case c2z9 => exact rfl); (case c3z9 => exact rfl); (case c4z9 => exact rfl); k_whole; intro _ _ _ _ _ _ _ _ _; (with_reducible refine wp_never ?_); (try dsimp only); (try k_fold)))) | (k_here; (with_reducible show wpAny _ _ (setItem (Value.ref _) (Value.int _ _) _) _ _ _); k_dflt (refine' set_led ?Fz9 ?Nz9 ?Uz9 ?az9 ?bz9 ?zz9 ?_; (case Fz9 => k_asm); (case Nz9 => k_asm); (case Uz9 => k_upd); (case az9 => ksa_idx); (case bz9 => ksa_idx); (case zz9 => ksa_idx); k_whole); intro _ _ _; (try k_sweep)) | (k_here; (with_reducible show wpAny _ _ (call (Value.builtin "list.append") [Value.ref _, _]) _ _ _); k_dflt (refine' append_led ?Fz9 ?Nz9 ?Uz9 ?zz9 ?_; (case Fz9 => k_asm); (case Nz9 => k_asm); (case Uz9 => k_upd); (case zz9 => ksa_idx); k_whole); intro _ _ _; (try k_sweep)) | (k_here; (with_reducible show wpAny _ _ (call (Value.builtin "len") [Value.ref _]) _ _ _); k_dflt (refine' len_led ?Nz9 ?mz9 ?zz9 ?_; (case Nz9 => k_asm); (case mz9 => k_mem); (case zz9 => ksa_idx); k_whole); intro _ _) | (k_here; (with_reducible show wpAny _ _ (subscriptTail _ _ (Value.ref _) (Value.int _ _)) _ _ _); k_dflt (refine' item_led ?Nz9 ?mz9 ?az9 ?bz9 ?xz9 ?_; (case Nz9 => k_asm); (case mz9 => k_mem); (case az9 => omega); (case bz9 => omega); (case xz9 => assumption))) | (k_end; kc_close) | (k_end; wrow_close) | walk1 | (dsimp only; walk1) | (leave1; (try dsimp only)) | fail "no step"))
        (rename Fr _ _ _ _ => kF); (rename News _ _ _ _ => kN)
        obtain ⟨post, N', P'⟩ := pure_two (R := RD) kN (by assumption) (by assumption) (.tuple (.head _) (.cons (.str _ _) (.cons (.tuple (.tail _ (.head _)) (.cons (.int _ _) (.cons (.int _ _) .nil))) .nil)))
        exact hret _ _ _ _ kF N' (P'.ky (k := .const (5, k)))
      · obtain ⟨a, n, t, u, b, m, ws, rfl, hm, hb, hws⟩ := dat_s hT
        ( refine' code_def ?k1z9 ?k2z9 ?k3z9 ?k4z9 ?k5z9 ?kAz9 ?kFz9 ?kKz9 ?k6z9 ?k7z9 ?k8z9 ?k9z9 ?kBz9 ?_ ?c2z9 ?c3z9 ?c4z9 ?c5z9; (case kAz9 => assumption); (case kFz9 => assumption); (case kKz9 => assumption); (case k1z9 => k_asm); (case k2z9 => k_asm); (case k3z9 => k_asm); (case k4z9 => k_asm); (case k5z9 => k_asm); (case k6z9 => k_is); (case k7z9 => k_is); (case k8z9 => k_room); (case k9z9 => exact BindsTo.of_eq rfl); (case c5z9 => decide); (case kBz9 => exact locs rfl); (case c2z9 => exact rfl); (case c3z9 => exact rfl); (case c4z9 => exact rfl); k_whole; intro _ _ _ _ _ _ _ _ _; (with_reducible refine wp_never ?_); (try dsimp only); (try k_fold))
        (repeat' (first | (k_unfold; (try dsimp only)) | (k_here; (with_reducible show wpAny _ _ (call (Value.ref _) _) _ _ _); k_dflt (refine wpAny_call ?_; ( refine' code_def ?k1z9 ?k2z9 ?k3z9 ?k4z9 ?k5z9 ?kAz9 ?kFz9 ?kKz9 ?k6z9 ?k7z9 ?k8z9 ?k9z9 ?kBz9 ?_ ?c2z9 ?c3z9 ?c4z9 ?c5z9; (case kAz9 => first | exact deeper_frames _ (by assumption) | exact deeper_frames _ (deeper_frames _ (by assumption)) | exact deeper_frames _ (deeper_frames _ (deeper_frames _ (by assumption)))); (case kFz9 => exact rfl); (case kKz9 => exact rfl); (case k1z9 => k_asm); (case k2z9 => k_asm); (case k3z9 => k_asm); (case k4z9 => k_asm); (case k5z9 => k_asm); (case k6z9 => k_is); (case k7z9 => k_is); (case k8z9 => k_room); (case k9z9 => exact BindsTo.of_eq rfl); (case c5z9 => decide); (case kBz9 => exact locs rfl); (case c2z9 => exact rfl); (case c3z9 => exact rfl); (case c4z9 => exact rfl); k_whole; intro _ _ _ _ _ _ _ _ _; (with_reducible refine wp_never ?_); (try dsimp only); (try k_fold)))) | (k_here; (with_reducible show wpAny _ _ (setItem (Value.ref _) (Value.int _ _) _) _ _ _); k_dflt (refine' set_led ?Fz9 ?Nz9 ?Uz9 ?az9 ?bz9 ?zz9 ?_; (case Fz9 => k_asm); (case Nz9 => k_asm); (case Uz9 => k_upd); (case az9 => ksa_idx); (case bz9 => ksa_idx); (case zz9 => ksa_idx); k_whole); intro _ _ _; (try k_sweep)) | (k_here; (with_reducible show wpAny _ _ (call (Value.builtin "list.append") [Value.ref _, _]) _ _ _); k_dflt (refine' append_led ?Fz9 ?Nz9 ?Uz9 ?zz9 ?_; (case Fz9 => k_asm); (case Nz9 => k_asm); (case Uz9 => k_upd); (case zz9 => ksa_idx); k_whole); intro _ _ _; (try k_sweep)) | (k_here; (with_reducible show wpAny _ _ (call (Value.builtin "len") [Value.ref _]) _ _ _); k_dflt (refine' len_led ?Nz9 ?mz9 ?zz9 ?_; (case Nz9 => k_asm); (case mz9 => k_mem); (case zz9 => ksa_idx); k_whole); intro _ _) | (k_here; (with_reducible show wpAny _ _ (subscriptTail _ _ (Value.ref _) (Value.int _ _)) _ _ _); k_dflt (refine' item_led ?Nz9 ?mz9 ?az9 ?bz9 ?xz9 ?_; (case Nz9 => k_asm); (case mz9 => k_mem); (case az9 => omega); (case bz9 => omega); (case xz9 => assumption))) | (k_end; kc_close) | (k_end; wrow_close) | walk1 | (dsimp only; walk1) | (leave1; (try dsimp only)) | fail "no step"))
        · (rename Fr _ _ _ _ => kF); (rename News _ _ _ _ => kN)
          exact hret _ _ _ _ kF kN (ky_nil (.inr (.inr ⟨rfl, if_pos (by assumption)⟩)))
        · (rename Fr _ _ _ _ => kF); (rename News _ _ _ _ => kN)
          obtain ⟨post, N', P'⟩ := pure_one' (R := RD) (d := (Ky.struct f).d) kN (by assumption) (.tuple (.head _) (.cons (.str _ _) (.cons (.int _ _) .nil)))
          exact hret _ _ _ _ kF N' (by rw [show (Tm.s f xs).key = .struct f from if_neg (by assumption)]; exact P'.ky)))) only [↓wr_true]
/-- the first argument of a head -/
theorem headkey_spec (v : Value) (f : Int) (T : Tm) (d : Dat) (rest RD : List (Addr × Obj)) (hT : DatIn rest v (.tuple [.str (Str.ofString "s"), .int f, .tuple [T.d, d]])) :
   Spec w 420 [v] rest 10 400 (KyPost rest RD T.key) := by
  unfold Spec
  k_fill
  intro p loose mean mg mb A A₀ env outer base h₀ L m s R B F X N T9 hA hf hke hh hd hu hret
  obtain ⟨a, n, t, u, b, m, ws, rfl, hm, hb, hws⟩ := dat_s hT
  cases hws with
  | cons hv1 r => cases r with
    | cons hv2 r => cases r with
      | nil =>
        ( refine' code_def ?k1z9 ?k2z9 ?k3z9 ?k4z9 ?k5z9 ?kAz9 ?kFz9 ?kKz9 ?k6z9 ?k7z9 ?k8z9 ?k9z9 ?kBz9 ?_ ?c2z9 ?c3z9 ?c4z9 ?c5z9; (case kAz9 => assumption); (case kFz9 => assumption); (case kKz9 => assumption); (case k1z9 => k_asm); (case k2z9 => k_asm); (case k3z9 => k_asm); (case k4z9 => k_asm); (case k5z9 => k_asm); (case k6z9 => k_is); (case k7z9 => k_is); (case k8z9 => k_room); (case k9z9 => exact BindsTo.of_eq rfl); (case c5z9 => decide); (case kBz9 => exact locs rfl); (case c2z9 => exact rfl); (case c3z9 => exact rfl); (case c4z9 => exact rfl); k_whole; intro _ _ _ _ _ _ _ _ _; (with_reducible refine wp_never ?_); (try dsimp only); (try k_fold))
        (repeat' (first | (k_unfold; (try dsimp only)) | (k_here; (with_reducible show wpAny _ _ (call (Value.ref 413) _) _ _ _); k_dflt (refine' Spec.use (termkey_spec _ _ _ [] ?hv) ?kB ?kF ?kX ?kN ?kT ?kA ?kf ?kk ?kh ?kd ?ku ?_; ktn_step; (case hv => first | assumption | (refine' DatIn.mono ?s99 ?h99; (case h99 => assumption); (case s99 => kqd_sub))); intro v9 post9 h9 tk9 F9 N9 hp9; obtain ⟨new9, e9, fr9, hk9⟩ := hp9; subst e9; (try dsimp only); (try k_fold))) | (k_here; (with_reducible show wpAny _ _ (call (Value.ref _) _) _ _ _); k_dflt (refine wpAny_call ?_; ( refine' code_def ?k1z9 ?k2z9 ?k3z9 ?k4z9 ?k5z9 ?kAz9 ?kFz9 ?kKz9 ?k6z9 ?k7z9 ?k8z9 ?k9z9 ?kBz9 ?_ ?c2z9 ?c3z9 ?c4z9 ?c5z9; (case kAz9 => first | exact deeper_frames _ (by assumption) | exact deeper_frames _ (deeper_frames _ (by assumption)) | exact deeper_frames _ (deeper_frames _ (deeper_frames _ (by assumption)))); (case kFz9 => exact rfl); (case kKz9 => exact rfl); (case k1z9 => k_asm); (case k2z9 => k_asm); (case k3z9 => k_asm); (case k4z9 => k_asm); (case k5z9 => k_asm); (case k6z9 => k_is); (case k7z9 => k_is); (case k8z9 => k_room); (case k9z9 => exact BindsTo.of_eq rfl); (case c5z9 => decide); (case kBz9 => exact locs rfl); (case c2z9 => exact rfl); (case c3z9 => exact rfl); (case c4z9 => exact rfl); k_whole; intro _ _ _ _ _ _ _ _ _; (with_reducible refine wp_never ?_); (try dsimp only); (try k_fold)))) | (k_here; (with_reducible show wpAny _ _ (setItem (Value.ref _) (Value.int _ _) _) _ _ _); k_dflt (refine' set_led ?Fz9 ?Nz9 ?Uz9 ?az9 ?bz9 ?zz9 ?_; (case Fz9 => k_asm); (case Nz9 => k_asm); (case Uz9 => k_upd); (case az9 => ksa_idx); (case bz9 => ksa_idx); (case zz9 => ksa_idx); k_whole); intro _ _ _; (try k_sweep)) | (k_here; (with_reducible show wpAny _ _ (call (Value.builtin "list.append") [Value.ref _, _]) _ _ _); k_dflt (refine' append_led ?Fz9 ?Nz9 ?Uz9 ?zz9 ?_; (case Fz9 => k_asm); (case Nz9 => k_asm); (case Uz9 => k_upd); (case zz9 => ksa_idx); k_whole); intro _ _ _; (try k_sweep)) | (k_here; (with_reducible show wpAny _ _ (call (Value.builtin "len") [Value.ref _]) _ _ _); k_dflt (refine' len_led ?Nz9 ?mz9 ?zz9 ?_; (case Nz9 => k_asm); (case mz9 => k_mem); (case zz9 => ksa_idx); k_whole); intro _ _) | (k_here; (with_reducible show wpAny _ _ (subscriptTail _ _ (Value.ref _) (Value.int _ _)) _ _ _); k_dflt (refine' item_led ?Nz9 ?mz9 ?az9 ?bz9 ?xz9 ?_; (case Nz9 => k_asm); (case mz9 => k_mem); (case az9 => omega); (case bz9 => omega); (case xz9 => assumption))) | (k_end; kc_close) | (k_end; wrow_close) | walk1 | (dsimp only; walk1) | (leave1; (try dsimp only)) | fail "no step"))
        (rename Fr _ _ _ _ => kF); (rename News _ _ _ _ => kN)
        exact hret _ _ _ _ kF kN ⟨_, rfl, by assumption, KyIn.mono (by assumption) (fun p hp => List.mem_append.mpr (.inl (by simpa using hp)))⟩
theorem headatom_spec (v : Value) (k : Int) (rest RD : List (Addr × Obj)) (hT : DatIn rest v (Lf.a k).d) :
   Spec w 420 [v] rest 10 400 (KyPost rest RD .var) := by
  refine wr_mp ?_
  simp (disch := (k_dflt (
      unfold Spec
      k_fill
      intro p loose mean mg mb A A₀ env outer base h₀ L m s R B F X N T9 hA hf hke hh hd hu hret
      obtain ⟨a, n, t, u, rfl, hm⟩ := dat_ci hT
      ( refine' code_def ?k1z9 ?k2z9 ?k3z9 ?k4z9 ?k5z9 ?kAz9 ?kFz9 ?kKz9 ?k6z9 ?k7z9 ?k8z9 ?k9z9 ?kBz9 ?_ ?c2z9 ?c3z9 ?c4z9 ?c5z9; (case kAz9 => assumption); (case kFz9 => assumption); (case kKz9 => assumption); (case k1z9 => k_asm); (case k2z9 => k_asm); (case k3z9 => k_asm); (case k4z9 => k_asm); (case k5z9 => k_asm); (case k6z9 => k_is); (case k7z9 => k_is); (case k8z9 => k_room); (case k9z9 => exact BindsTo.of_eq rfl); (case c5z9 => decide); (case kBz9 => exact locs rfl); (case c2z9 => exact rfl); (case c3z9 => exact rfl); (case c4z9 => exact rfl); k_whole; intro _ _ _ _ _ _ _ _ _; (with_reducible refine wp_never ?_); (try dsimp only); (try k_fold))
      (repeat' (first | (k_unfold; (try dsimp only)) | (k_here; (with_reducible show wpAny _ _ (call (Value.ref 413) _) _ _ _); k_dflt (refine' Spec.use (termkey_spec _ _ _ [] ?hv) ?kB ?kF ?kX ?kN ?kT ?kA ?kf ?kk ?kh ?kd ?ku ?_; ktn_step; (case hv => first | assumption | (refine' DatIn.mono ?s99 ?h99; (case h99 => assumption); (case s99 => kqd_sub))); intro v9 post9 h9 tk9 F9 N9 hp9; obtain ⟨new9, e9, fr9, hk9⟩ := hp9; subst e9; (try dsimp only); (try k_fold))) | (k_here; (with_reducible show wpAny _ _ (call (Value.ref _) _) _ _ _); k_dflt (refine wpAny_call ?_; ( refine' code_def ?k1z9 ?k2z9 ?k3z9 ?k4z9 ?k5z9 ?kAz9 ?kFz9 ?kKz9 ?k6z9 ?k7z9 ?k8z9 ?k9z9 ?kBz9 ?_ ?c2z9 ?c3z9 ?c4z9 ?c5z9; (case kAz9 => first | exact deeper_frames _ (by assumption) | exact deeper_frames _ (deeper_frames _ (by assumption)) | exact deeper_frames _ (deeper_frames _ (deeper_frames _ (by assumption)))); (case kFz9 => exact rfl); (case kKz9 => exact rfl); (case k1z9 => k_asm); (case k2z9 => k_asm); (case k3z9 => k_asm); (case k4z9 => k_asm); (case k5z9 => k_asm); (case k6z9 => k_is); (case k7z9 => k_is); (case k8z9 => k_room); (case k9z9 => exact BindsTo.of_eq rfl); (case c5z9 => decide); (case kBz9 => exact locs rfl); (case c2z9 => exact rfl); (case c3z9 => exact rfl); (case c4z9 => exact rfl); k_whole; intro _ _ _ _ _ _ _ _ _; (with_reducible refine wp_never ?_); (try dsimp only); (try k_fold)))) | (k_here; (with_reducible show wpAny _ _ (setItem (Value.ref _) (Value.int _ _) _) _ _ _); k_dflt (refine' set_led ?Fz9 ?Nz9 ?Uz9 ?az9 ?bz9 ?zz9 ?_; (case Fz9 => k_asm); (case Nz9 => k_asm); (case Uz9 => k_upd); (case az9 => ksa_idx); (case bz9 => ksa_idx); (case zz9 => ksa_idx); k_whole); intro _ _ _; (try k_sweep)) | (k_here; (with_reducible show wpAny _ _ (call (Value.builtin "list.append") [Value.ref _, _]) _ _ _); k_dflt (refine' append_led ?Fz9 ?Nz9 ?Uz9 ?zz9 ?_; (case Fz9 => k_asm); (case Nz9 => k_asm); (case Uz9 => k_upd); (case zz9 => ksa_idx); k_whole); intro _ _ _; (try k_sweep)) | (k_here; (with_reducible show wpAny _ _ (call (Value.builtin "len") [Value.ref _]) _ _ _); k_dflt (refine' len_led ?Nz9 ?mz9 ?zz9 ?_; (case Nz9 => k_asm); (case mz9 => k_mem); (case zz9 => ksa_idx); k_whole); intro _ _) | (k_here; (with_reducible show wpAny _ _ (subscriptTail _ _ (Value.ref _) (Value.int _ _)) _ _ _); k_dflt (refine' item_led ?Nz9 ?mz9 ?az9 ?bz9 ?xz9 ?_; (case Nz9 => k_asm); (case mz9 => k_mem); (case az9 => omega); (case bz9 => omega); (case xz9 => assumption))) | (k_end; kc_close) | (k_end; wrow_close) | walk1 | (dsimp only; walk1) | (leave1; (try dsimp only)) | fail "no step"))
      (rename Fr _ _ _ _ => kF); (rename News _ _ _ _ => kN)
      exact hret _ _ _ _ kF kN (ky_nil (.inr (.inl ⟨rfl, rfl⟩)))))) only [↓wr_true]
/-- the key that a cell at the chain's end has -/
inductive CellKey (hs : List (Int × Int)) : Int × Int → Ky → Prop where
  | con (k : Int) : CellKey hs (4, k) (.const (4, k))
  | int (k : Int) : CellKey hs (5, k) (.const (5, k))
  | lis (k : Int) : CellKey hs (3, k) .list
  | str (j : Nat) (f : Int) : hs[j]? = some (6, f) → CellKey hs (2, (j : Int)) (.struct f)
  | ref (k : Int) : CellKey hs (0, k) .var
  | srf (k : Int) : CellKey hs (1, k) .var
theorem firstkey_spec (S H T : Addr) (oH oT : Obj) (hs ss : List (Int × Int)) (rest RD : List (Addr × Obj)) (hZ : ∀ p ∈ RD, p ∈ rest) (hS : StoreIs rest S H T) (hH : (H, oH) ∈ rest) (hT : (T, oT) ∈ rest) (cH : CellsAt RD oH hs) (cT : CellsAt RD oT ss)
   (c r : Int × Int) (hD : Deref hs ss c r) (k : Ky) (hk : CellKey hs r k) (v : Value) (hv : DatIn RD v (cd c)) :
   Spec w 406 [.ref S, v] rest 10 500 (KyPost rest RD k) := by
  unfold Spec
  k_fill
  intro p loose mean mg mb A A₀ env outer base h₀ L m s R B F X N T9 hA hf hke hh hd hu hret
  refine StoreIs.elim hS ?_
  intro SD SY TR h1 h2 h3 h4 h5 h6 h7 t1 t2 t3 t4 t5 t6 t7 u1 u2 u3 n hm1 hm2 _
  obtain ⟨vs, n1, rfl, dH, lH⟩ := id cH.out
  cases hk with
  | con k =>
    ( refine' code_def ?k1z9 ?k2z9 ?k3z9 ?k4z9 ?k5z9 ?kAz9 ?kFz9 ?kKz9 ?k6z9 ?k7z9 ?k8z9 ?k9z9 ?kBz9 ?_ ?c2z9 ?c3z9 ?c4z9 ?c5z9; (case kAz9 => assumption); (case kFz9 => assumption); (case kKz9 => assumption); (case k1z9 => k_asm); (case k2z9 => k_asm); (case k3z9 => k_asm); (case k4z9 => k_asm); (case k5z9 => k_asm); (case k6z9 => k_is); (case k7z9 => k_is); (case k8z9 => k_room); (case k9z9 => exact BindsTo.of_eq rfl); (case c5z9 => decide); (case kBz9 => exact locs rfl); (case c2z9 => exact rfl); (case c3z9 => exact rfl); (case c4z9 => exact rfl); k_whole; intro _ _ _ _ _ _ _ _ _; (with_reducible refine wp_never ?_); (try dsimp only); (try k_fold))
    (repeat' (first | (k_unfold; (try dsimp only)) | (k_here; (with_reducible show wpAny _ _ (call (Value.ref 230) _) _ _ _); k_dflt (refine' Spec.use (deref_spec _ _ _ _ _ _ _ _ _ ?hZ ?hS ?hH ?hT ?cH ?cT _ _ ?hD _ ?hv) ?kB ?kF ?kX ?kN ?kT ?kA ?kf ?kk ?kh ?kd ?ku ?_; ktn_step; (case hZ => assumption); (case hS => assumption); (case hD => assumption); (case cH => assumption); (case cT => assumption); (case hH => assumption); (case hT => assumption); (case hv => assumption); intro v9 post9 h9 tk9 F9 N9 hp9; obtain ⟨e9, hr9⟩ := hp9; (rw [e9] at N9); clear e9; obtain ⟨ra9, rn9, rt9, ru9, re9, rm9⟩ := dat_xy hr9; subst re9; (have rmz9 := (by assumption : ∀ p : Addr × Obj, p ∈ (_ : List (Addr × Obj)) → p ∈ (_ : List (Addr × Obj))) _ rm9); (try dsimp only); (try k_fold))) | (k_here; (with_reducible show wpAny _ _ (call (Value.ref 413) _) _ _ _); k_dflt (refine' Spec.use (termkey_spec _ _ _ [] ?hv) ?kB ?kF ?kX ?kN ?kT ?kA ?kf ?kk ?kh ?kd ?ku ?_; ktn_step; (case hv => first | assumption | (refine' DatIn.mono ?s99 ?h99; (case h99 => assumption); (case s99 => kqd_sub))); intro v9 post9 h9 tk9 F9 N9 hp9; obtain ⟨new9, e9, fr9, hk9⟩ := hp9; subst e9; (try dsimp only); (try k_fold))) | (k_here; (with_reducible show wpAny _ _ (call (Value.ref _) _) _ _ _); k_dflt (refine wpAny_call ?_; ( refine' code_def ?k1z9 ?k2z9 ?k3z9 ?k4z9 ?k5z9 ?kAz9 ?kFz9 ?kKz9 ?k6z9 ?k7z9 ?k8z9 ?k9z9 ?kBz9 ?_ ?c2z9 ?c3z9 ?c4z9 ?c5z9; (case kAz9 => first | exact deeper_frames _ (by assumption) | exact deeper_frames _ (deeper_frames _ (by assumption)) | exact deeper_frames _ (deeper_frames _ (deeper_frames _ (by assumption)))); (case kFz9 => exact rfl); (case kKz9 => exact rfl); (case k1z9 => k_asm); (case k2z9 => k_asm); (case k3z9 => k_asm); (case k4z9 => k_asm); (case k5z9 => k_asm); (case k6z9 => k_is); (case k7z9 => k_is); (case k8z9 => k_room); (case k9z9 => exact BindsTo.of_eq rfl); (case c5z9 => decide); (case kBz9 => exact locs rfl); (case c2z9 => exact rfl); (case c3z9 => exact rfl); (case c4z9 => exact rfl); k_whole; intro _ _ _ _ _ _ _ _ _; (with_reducible refine wp_never ?_); (try dsimp only); (try k_fold)))) | (k_here; (with_reducible show wpAny _ _ (setItem (Value.ref _) (Value.int _ _) _) _ _ _); k_dflt (refine' set_led ?Fz9 ?Nz9 ?Uz9 ?az9 ?bz9 ?zz9 ?_; (case Fz9 => k_asm); (case Nz9 => k_asm); (case Uz9 => k_upd); (case az9 => ksa_idx); (case bz9 => ksa_idx); (case zz9 => ksa_idx); k_whole); intro _ _ _; (try k_sweep)) | (k_here; (with_reducible show wpAny _ _ (call (Value.builtin "list.append") [Value.ref _, _]) _ _ _); k_dflt (refine' append_led ?Fz9 ?Nz9 ?Uz9 ?zz9 ?_; (case Fz9 => k_asm); (case Nz9 => k_asm); (case Uz9 => k_upd); (case zz9 => ksa_idx); k_whole); intro _ _ _; (try k_sweep)) | (k_here; (with_reducible show wpAny _ _ (call (Value.builtin "len") [Value.ref _]) _ _ _); k_dflt (refine' len_led ?Nz9 ?mz9 ?zz9 ?_; (case Nz9 => k_asm); (case mz9 => k_mem); (case zz9 => ksa_idx); k_whole); intro _ _) | (k_here; (with_reducible show wpAny _ _ (subscriptTail _ _ (Value.ref _) (Value.int _ _)) _ _ _); k_dflt (refine' item_led ?Nz9 ?mz9 ?az9 ?bz9 ?xz9 ?_; (case Nz9 => k_asm); (case mz9 => k_mem); (case az9 => omega); (case bz9 => omega); (case xz9 => assumption))) | (k_end; kc_close) | (k_end; wrow_close) | walk1 | (dsimp only; walk1) | (leave1; (try dsimp only)) | fail "no step"))
    (rename Fr _ _ _ _ => kF); (rename News _ _ _ _ => kN)
    rename DatIn _ (Value.ref _) _ => hr
    obtain ⟨post, N', P'⟩ := pure_one' (R := RD) kN (by assumption) (.tuple (.head _) (.cons (.str _ _) (.cons (hr.mono fun _ h => .tail _ h) .nil)))
    exact hret _ _ _ _ kF N' (P'.ky (k := .const (4, k)))
  | int k =>
    ( refine' code_def ?k1z9 ?k2z9 ?k3z9 ?k4z9 ?k5z9 ?kAz9 ?kFz9 ?kKz9 ?k6z9 ?k7z9 ?k8z9 ?k9z9 ?kBz9 ?_ ?c2z9 ?c3z9 ?c4z9 ?c5z9; (case kAz9 => assumption); (case kFz9 => assumption); (case kKz9 => assumption); (case k1z9 => k_asm); (case k2z9 => k_asm); (case k3z9 => k_asm); (case k4z9 => k_asm); (case k5z9 => k_asm); (case k6z9 => k_is); (case k7z9 => k_is); (case k8z9 => k_room); (case k9z9 => exact BindsTo.of_eq rfl); (case c5z9 => decide); (case kBz9 => exact locs rfl); (case c2z9 => exact rfl); (case c3z9 => exact rfl); (case c4z9 => exact rfl); k_whole; intro _ _ _ _ _ _ _ _ _; (with_reducible refine wp_never ?_); (try dsimp only); (try k_fold))
    (repeat' (first | (k_unfold; (try dsimp only)) | (k_here; (with_reducible show wpAny _ _ (call (Value.ref 230) _) _ _ _); k_dflt (refine' Spec.use (deref_spec _ _ _ _ _ _ _ _ _ ?hZ ?hS ?hH ?hT ?cH ?cT _ _ ?hD _ ?hv) ?kB ?kF ?kX ?kN ?kT ?kA ?kf ?kk ?kh ?kd ?ku ?_; ktn_step; (case hZ => assumption); (case hS => assumption); (case hD => assumption); (case cH => assumption); (case cT => assumption); (case hH => assumption); (case hT => assumption); (case hv => assumption); intro v9 post9 h9 tk9 F9 N9 hp9; obtain ⟨e9, hr9⟩ := hp9; (rw [e9] at N9); clear e9; obtain ⟨ra9, rn9, rt9, ru9, re9, rm9⟩ := dat_xy hr9; subst re9; (have rmz9 := (by assumption : ∀ p : Addr × Obj, p ∈ (_ : List (Addr × Obj)) → p ∈ (_ : List (Addr × Obj))) _ rm9); (try dsimp only); (try k_fold))) | (k_here; (with_reducible show wpAny _ _ (call (Value.ref 413) _) _ _ _); k_dflt (refine' Spec.use (termkey_spec _ _ _ [] ?hv) ?kB ?kF ?kX ?kN ?kT ?kA ?kf ?kk ?kh ?kd ?ku ?_; ktn_step; (case hv => first | assumption | (refine' DatIn.mono ?s99 ?h99; (case h99 => assumption); (case s99 => kqd_sub))); intro v9 post9 h9 tk9 F9 N9 hp9; obtain ⟨new9, e9, fr9, hk9⟩ := hp9; subst e9; (try dsimp only); (try k_fold))) | (k_here; (with_reducible show wpAny _ _ (call (Value.ref _) _) _ _ _); k_dflt (refine wpAny_call ?_; ( refine' code_def ?k1z9 ?k2z9 ?k3z9 ?k4z9 ?k5z9 ?kAz9 ?kFz9 ?kKz9 ?k6z9 ?k7z9 ?k8z9 ?k9z9 ?kBz9 ?_ ?c2z9 ?c3z9 ?c4z9 ?c5z9; (case kAz9 => first | exact deeper_frames _ (by assumption) | exact deeper_frames _ (deeper_frames _ (by assumption)) | exact deeper_frames _ (deeper_frames _ (deeper_frames _ (by assumption)))); (case kFz9 => exact rfl); (case kKz9 => exact rfl); (case k1z9 => k_asm); (case k2z9 => k_asm); (case k3z9 => k_asm); (case k4z9 => k_asm); (case k5z9 => k_asm); (case k6z9 => k_is); (case k7z9 => k_is); (case k8z9 => k_room); (case k9z9 => exact BindsTo.of_eq rfl); (case c5z9 => decide); (case kBz9 => exact locs rfl); (case c2z9 => exact rfl); (case c3z9 => exact rfl); (case c4z9 => exact rfl); k_whole; intro _ _ _ _ _ _ _ _ _; (with_reducible refine wp_never ?_); (try dsimp only); (try k_fold)))) | (k_here; (with_reducible show wpAny _ _ (setItem (Value.ref _) (Value.int _ _) _) _ _ _); k_dflt (refine' set_led ?Fz9 ?Nz9 ?Uz9 ?az9 ?bz9 ?zz9 ?_; (case Fz9 => k_asm); (case Nz9 => k_asm); (case Uz9 => k_upd); (case az9 => ksa_idx); (case bz9 => ksa_idx); (case zz9 => ksa_idx); k_whole); intro _ _ _; (try k_sweep)) | (k_here; (with_reducible show wpAny _ _ (call (Value.builtin "list.append") [Value.ref _, _]) _ _ _); k_dflt (refine' append_led ?Fz9 ?Nz9 ?Uz9 ?zz9 ?_; (case Fz9 => k_asm); (case Nz9 => k_asm); (case Uz9 => k_upd); (case zz9 => ksa_idx); k_whole); intro _ _ _; (try k_sweep)) | (k_here; (with_reducible show wpAny _ _ (call (Value.builtin "len") [Value.ref _]) _ _ _); k_dflt (refine' len_led ?Nz9 ?mz9 ?zz9 ?_; (case Nz9 => k_asm); (case mz9 => k_mem); (case zz9 => ksa_idx); k_whole); intro _ _) | (k_here; (with_reducible show wpAny _ _ (subscriptTail _ _ (Value.ref _) (Value.int _ _)) _ _ _); k_dflt (refine' item_led ?Nz9 ?mz9 ?az9 ?bz9 ?xz9 ?_; (case Nz9 => k_asm); (case mz9 => k_mem); (case az9 => omega); (case bz9 => omega); (case xz9 => assumption))) | (k_end; kc_close) | (k_end; wrow_close) | walk1 | (dsimp only; walk1) | (leave1; (try dsimp only)) | fail "no step"))
    (rename Fr _ _ _ _ => kF); (rename News _ _ _ _ => kN)
    rename DatIn _ (Value.ref _) _ => hr
    obtain ⟨post, N', P'⟩ := pure_one' (R := RD) kN (by assumption) (.tuple (.head _) (.cons (.str _ _) (.cons (hr.mono fun _ h => .tail _ h) .nil)))
    exact hret _ _ _ _ kF N' (P'.ky (k := .const (5, k)))
  | lis k =>
    ( refine' code_def ?k1z9 ?k2z9 ?k3z9 ?k4z9 ?k5z9 ?kAz9 ?kFz9 ?kKz9 ?k6z9 ?k7z9 ?k8z9 ?k9z9 ?kBz9 ?_ ?c2z9 ?c3z9 ?c4z9 ?c5z9; (case kAz9 => assumption); (case kFz9 => assumption); (case kKz9 => assumption); (case k1z9 => k_asm); (case k2z9 => k_asm); (case k3z9 => k_asm); (case k4z9 => k_asm); (case k5z9 => k_asm); (case k6z9 => k_is); (case k7z9 => k_is); (case k8z9 => k_room); (case k9z9 => exact BindsTo.of_eq rfl); (case c5z9 => decide); (case kBz9 => exact locs rfl); (case c2z9 => exact rfl); (case c3z9 => exact rfl); (case c4z9 => exact rfl); k_whole; intro _ _ _ _ _ _ _ _ _; (with_reducible refine wp_never ?_); (try dsimp only); (try k_fold))
    (repeat' (first | (k_unfold; (try dsimp only)) | (k_here; (with_reducible show wpAny _ _ (call (Value.ref 230) _) _ _ _); k_dflt (refine' Spec.use (deref_spec _ _ _ _ _ _ _ _ _ ?hZ ?hS ?hH ?hT ?cH ?cT _ _ ?hD _ ?hv) ?kB ?kF ?kX ?kN ?kT ?kA ?kf ?kk ?kh ?kd ?ku ?_; ktn_step; (case hZ => assumption); (case hS => assumption); (case hD => assumption); (case cH => assumption); (case cT => assumption); (case hH => assumption); (case hT => assumption); (case hv => assumption); intro v9 post9 h9 tk9 F9 N9 hp9; obtain ⟨e9, hr9⟩ := hp9; (rw [e9] at N9); clear e9; obtain ⟨ra9, rn9, rt9, ru9, re9, rm9⟩ := dat_xy hr9; subst re9; (have rmz9 := (by assumption : ∀ p : Addr × Obj, p ∈ (_ : List (Addr × Obj)) → p ∈ (_ : List (Addr × Obj))) _ rm9); (try dsimp only); (try k_fold))) | (k_here; (with_reducible show wpAny _ _ (call (Value.ref 413) _) _ _ _); k_dflt (refine' Spec.use (termkey_spec _ _ _ [] ?hv) ?kB ?kF ?kX ?kN ?kT ?kA ?kf ?kk ?kh ?kd ?ku ?_; ktn_step; (case hv => first | assumption | (refine' DatIn.mono ?s99 ?h99; (case h99 => assumption); (case s99 => kqd_sub))); intro v9 post9 h9 tk9 F9 N9 hp9; obtain ⟨new9, e9, fr9, hk9⟩ := hp9; subst e9; (try dsimp only); (try k_fold))) | (k_here; (with_reducible show wpAny _ _ (call (Value.ref _) _) _ _ _); k_dflt (refine wpAny_call ?_; ( refine' code_def ?k1z9 ?k2z9 ?k3z9 ?k4z9 ?k5z9 ?kAz9 ?kFz9 ?kKz9 ?k6z9 ?k7z9 ?k8z9 ?k9z9 ?kBz9 ?_ ?c2z9 ?c3z9 ?c4z9 ?c5z9; (case kAz9 => first | exact deeper_frames _ (by assumption) | exact deeper_frames _ (deeper_frames _ (by assumption)) | exact deeper_frames _ (deeper_frames _ (deeper_frames _ (by assumption)))); (case kFz9 => exact rfl); (case kKz9 => exact rfl); (case k1z9 => k_asm); (case k2z9 => k_asm); (case k3z9 => k_asm); (case k4z9 => k_asm); (case k5z9 => k_asm); (case k6z9 => k_is); (case k7z9 => k_is); (case k8z9 => k_room); (case k9z9 => exact BindsTo.of_eq rfl); (case c5z9 => decide); (case kBz9 => exact locs rfl); (case c2z9 => exact rfl); (case c3z9 => exact rfl); (case c4z9 => exact rfl); k_whole; intro _ _ _ _ _ _ _ _ _; (with_reducible refine wp_never ?_); (try dsimp only); (try k_fold)))) | (k_here; (with_reducible show wpAny _ _ (setItem (Value.ref _) (Value.int _ _) _) _ _ _); k_dflt (refine' set_led ?Fz9 ?Nz9 ?Uz9 ?az9 ?bz9 ?zz9 ?_; (case Fz9 => k_asm); (case Nz9 => k_asm); (case Uz9 => k_upd); (case az9 => ksa_idx); (case bz9 => ksa_idx); (case zz9 => ksa_idx); k_whole); intro _ _ _; (try k_sweep)) | (k_here; (with_reducible show wpAny _ _ (call (Value.builtin "list.append") [Value.ref _, _]) _ _ _); k_dflt (refine' append_led ?Fz9 ?Nz9 ?Uz9 ?zz9 ?_; (case Fz9 => k_asm); (case Nz9 => k_asm); (case Uz9 => k_upd); (case zz9 => ksa_idx); k_whole); intro _ _ _; (try k_sweep)) | (k_here; (with_reducible show wpAny _ _ (call (Value.builtin "len") [Value.ref _]) _ _ _); k_dflt (refine' len_led ?Nz9 ?mz9 ?zz9 ?_; (case Nz9 => k_asm); (case mz9 => k_mem); (case zz9 => ksa_idx); k_whole); intro _ _) | (k_here; (with_reducible show wpAny _ _ (subscriptTail _ _ (Value.ref _) (Value.int _ _)) _ _ _); k_dflt (refine' item_led ?Nz9 ?mz9 ?az9 ?bz9 ?xz9 ?_; (case Nz9 => k_asm); (case mz9 => k_mem); (case az9 => omega); (case bz9 => omega); (case xz9 => assumption))) | (k_end; kc_close) | (k_end; wrow_close) | walk1 | (dsimp only; walk1) | (leave1; (try dsimp only)) | fail "no step"))
    (rename Fr _ _ _ _ => kF); (rename News _ _ _ _ => kN)
    exact hret _ _ _ _ kF kN (ky_nil (.inr (.inr ⟨rfl, rfl⟩)))
  | ref k =>
    ( refine' code_def ?k1z9 ?k2z9 ?k3z9 ?k4z9 ?k5z9 ?kAz9 ?kFz9 ?kKz9 ?k6z9 ?k7z9 ?k8z9 ?k9z9 ?kBz9 ?_ ?c2z9 ?c3z9 ?c4z9 ?c5z9; (case kAz9 => assumption); (case kFz9 => assumption); (case kKz9 => assumption); (case k1z9 => k_asm); (case k2z9 => k_asm); (case k3z9 => k_asm); (case k4z9 => k_asm); (case k5z9 => k_asm); (case k6z9 => k_is); (case k7z9 => k_is); (case k8z9 => k_room); (case k9z9 => exact BindsTo.of_eq rfl); (case c5z9 => decide); (case kBz9 => exact locs rfl); (case c2z9 => exact rfl); (case c3z9 => exact rfl); (case c4z9 => exact rfl); k_whole; intro _ _ _ _ _ _ _ _ _; (with_reducible refine wp_never ?_); (try dsimp only); (try k_fold))
    (repeat' (first | (k_unfold; (try dsimp only)) | (k_here; (with_reducible show wpAny _ _ (call (Value.ref 230) _) _ _ _); k_dflt (refine' Spec.use (deref_spec _ _ _ _ _ _ _ _ _ ?hZ ?hS ?hH ?hT ?cH ?cT _ _ ?hD _ ?hv) ?kB ?kF ?kX ?kN ?kT ?kA ?kf ?kk ?kh ?kd ?ku ?_; ktn_step; (case hZ => assumption); (case hS => assumption); (case hD => assumption); (case cH => assumption); (case cT => assumption); (case hH => assumption); (case hT => assumption); (case hv => assumption); intro v9 post9 h9 tk9 F9 N9 hp9; obtain ⟨e9, hr9⟩ := hp9; (rw [e9] at N9); clear e9; obtain ⟨ra9, rn9, rt9, ru9, re9, rm9⟩ := dat_xy hr9; subst re9; (have rmz9 := (by assumption : ∀ p : Addr × Obj, p ∈ (_ : List (Addr × Obj)) → p ∈ (_ : List (Addr × Obj))) _ rm9); (try dsimp only); (try k_fold))) | (k_here; (with_reducible show wpAny _ _ (call (Value.ref 413) _) _ _ _); k_dflt (refine' Spec.use (termkey_spec _ _ _ [] ?hv) ?kB ?kF ?kX ?kN ?kT ?kA ?kf ?kk ?kh ?kd ?ku ?_; ktn_step; (case hv => first | assumption | (refine' DatIn.mono ?s99 ?h99; (case h99 => assumption); (case s99 => kqd_sub))); intro v9 post9 h9 tk9 F9 N9 hp9; obtain ⟨new9, e9, fr9, hk9⟩ := hp9; subst e9; (try dsimp only); (try k_fold))) | (k_here; (with_reducible show wpAny _ _ (call (Value.ref _) _) _ _ _); k_dflt (refine wpAny_call ?_; ( refine' code_def ?k1z9 ?k2z9 ?k3z9 ?k4z9 ?k5z9 ?kAz9 ?kFz9 ?kKz9 ?k6z9 ?k7z9 ?k8z9 ?k9z9 ?kBz9 ?_ ?c2z9 ?c3z9 ?c4z9 ?c5z9; (case kAz9 => first | exact deeper_frames _ (by assumption) | exact deeper_frames _ (deeper_frames _ (by assumption)) | exact deeper_frames _ (deeper_frames _ (deeper_frames _ (by assumption)))); (case kFz9 => exact rfl); (case kKz9 => exact rfl); (case k1z9 => k_asm); (case k2z9 => k_asm); (case k3z9 => k_asm); (case k4z9 => k_asm); (case k5z9 => k_asm); (case k6z9 => k_is); (case k7z9 => k_is); (case k8z9 => k_room); (case k9z9 => exact BindsTo.of_eq rfl); (case c5z9 => decide); (case kBz9 => exact locs rfl); (case c2z9 => exact rfl); (case c3z9 => exact rfl); (case c4z9 => exact rfl); k_whole; intro _ _ _ _ _ _ _ _ _; (with_reducible refine wp_never ?_); (try dsimp only); (try k_fold)))) | (k_here; (with_reducible show wpAny _ _ (setItem (Value.ref _) (Value.int _ _) _) _ _ _); k_dflt (refine' set_led ?Fz9 ?Nz9 ?Uz9 ?az9 ?bz9 ?zz9 ?_; (case Fz9 => k_asm); (case Nz9 => k_asm); (case Uz9 => k_upd); (case az9 => ksa_idx); (case bz9 => ksa_idx); (case zz9 => ksa_idx); k_whole); intro _ _ _; (try k_sweep)) | (k_here; (with_reducible show wpAny _ _ (call (Value.builtin "list.append") [Value.ref _, _]) _ _ _); k_dflt (refine' append_led ?Fz9 ?Nz9 ?Uz9 ?zz9 ?_; (case Fz9 => k_asm); (case Nz9 => k_asm); (case Uz9 => k_upd); (case zz9 => ksa_idx); k_whole); intro _ _ _; (try k_sweep)) | (k_here; (with_reducible show wpAny _ _ (call (Value.builtin "len") [Value.ref _]) _ _ _); k_dflt (refine' len_led ?Nz9 ?mz9 ?zz9 ?_; (case Nz9 => k_asm); (case mz9 => k_mem); (case zz9 => ksa_idx); k_whole); intro _ _) | (k_here; (with_reducible show wpAny _ _ (subscriptTail _ _ (Value.ref _) (Value.int _ _)) _ _ _); k_dflt (refine' item_led ?Nz9 ?mz9 ?az9 ?bz9 ?xz9 ?_; (case Nz9 => k_asm); (case mz9 => k_mem); (case az9 => omega); (case bz9 => omega); (case xz9 => assumption))) | (k_end; kc_close) | (k_end; wrow_close) | walk1 | (dsimp only; walk1) | (leave1; (try dsimp only)) | fail "no step"))
    (rename Fr _ _ _ _ => kF); (rename News _ _ _ _ => kN)
    exact hret _ _ _ _ kF kN (ky_nil (.inr (.inl ⟨rfl, rfl⟩)))
  | srf k =>
    ( refine' code_def ?k1z9 ?k2z9 ?k3z9 ?k4z9 ?k5z9 ?kAz9 ?kFz9 ?kKz9 ?k6z9 ?k7z9 ?k8z9 ?k9z9 ?kBz9 ?_ ?c2z9 ?c3z9 ?c4z9 ?c5z9; (case kAz9 => assumption); (case kFz9 => assumption); (case kKz9 => assumption); (case k1z9 => k_asm); (case k2z9 => k_asm); (case k3z9 => k_asm); (case k4z9 => k_asm); (case k5z9 => k_asm); (case k6z9 => k_is); (case k7z9 => k_is); (case k8z9 => k_room); (case k9z9 => exact BindsTo.of_eq rfl); (case c5z9 => decide); (case kBz9 => exact locs rfl); (case c2z9 => exact rfl); (case c3z9 => exact rfl); (case c4z9 => exact rfl); k_whole; intro _ _ _ _ _ _ _ _ _; (with_reducible refine wp_never ?_); (try dsimp only); (try k_fold))
    (repeat' (first | (k_unfold; (try dsimp only)) | (k_here; (with_reducible show wpAny _ _ (call (Value.ref 230) _) _ _ _); k_dflt (refine' Spec.use (deref_spec _ _ _ _ _ _ _ _ _ ?hZ ?hS ?hH ?hT ?cH ?cT _ _ ?hD _ ?hv) ?kB ?kF ?kX ?kN ?kT ?kA ?kf ?kk ?kh ?kd ?ku ?_; ktn_step; (case hZ => assumption); (case hS => assumption); (case hD => assumption); (case cH => assumption); (case cT => assumption); (case hH => assumption); (case hT => assumption); (case hv => assumption); intro v9 post9 h9 tk9 F9 N9 hp9; obtain ⟨e9, hr9⟩ := hp9; (rw [e9] at N9); clear e9; obtain ⟨ra9, rn9, rt9, ru9, re9, rm9⟩ := dat_xy hr9; subst re9; (have rmz9 := (by assumption : ∀ p : Addr × Obj, p ∈ (_ : List (Addr × Obj)) → p ∈ (_ : List (Addr × Obj))) _ rm9); (try dsimp only); (try k_fold))) | (k_here; (with_reducible show wpAny _ _ (call (Value.ref 413) _) _ _ _); k_dflt (refine' Spec.use (termkey_spec _ _ _ [] ?hv) ?kB ?kF ?kX ?kN ?kT ?kA ?kf ?kk ?kh ?kd ?ku ?_; ktn_step; (case hv => first | assumption | (refine' DatIn.mono ?s99 ?h99; (case h99 => assumption); (case s99 => kqd_sub))); intro v9 post9 h9 tk9 F9 N9 hp9; obtain ⟨new9, e9, fr9, hk9⟩ := hp9; subst e9; (try dsimp only); (try k_fold))) | (k_here; (with_reducible show wpAny _ _ (call (Value.ref _) _) _ _ _); k_dflt (refine wpAny_call ?_; ( refine' code_def ?k1z9 ?k2z9 ?k3z9 ?k4z9 ?k5z9 ?kAz9 ?kFz9 ?kKz9 ?k6z9 ?k7z9 ?k8z9 ?k9z9 ?kBz9 ?_ ?c2z9 ?c3z9 ?c4z9 ?c5z9; (case kAz9 => first | exact deeper_frames _ (by assumption) | exact deeper_frames _ (deeper_frames _ (by assumption)) | exact deeper_frames _ (deeper_frames _ (deeper_frames _ (by assumption)))); (case kFz9 => exact rfl); (case kKz9 => exact rfl); (case k1z9 => k_asm); (case k2z9 => k_asm); (case k3z9 => k_asm); (case k4z9 => k_asm); (case k5z9 => k_asm); (case k6z9 => k_is); (case k7z9 => k_is); (case k8z9 => k_room); (case k9z9 => exact BindsTo.of_eq rfl); (case c5z9 => decide); (case kBz9 => exact locs rfl); (case c2z9 => exact rfl); (case c3z9 => exact rfl); (case c4z9 => exact rfl); k_whole; intro _ _ _ _ _ _ _ _ _; (with_reducible refine wp_never ?_); (try dsimp only); (try k_fold)))) | (k_here; (with_reducible show wpAny _ _ (setItem (Value.ref _) (Value.int _ _) _) _ _ _); k_dflt (refine' set_led ?Fz9 ?Nz9 ?Uz9 ?az9 ?bz9 ?zz9 ?_; (case Fz9 => k_asm); (case Nz9 => k_asm); (case Uz9 => k_upd); (case az9 => ksa_idx); (case bz9 => ksa_idx); (case zz9 => ksa_idx); k_whole); intro _ _ _; (try k_sweep)) | (k_here; (with_reducible show wpAny _ _ (call (Value.builtin "list.append") [Value.ref _, _]) _ _ _); k_dflt (refine' append_led ?Fz9 ?Nz9 ?Uz9 ?zz9 ?_; (case Fz9 => k_asm); (case Nz9 => k_asm); (case Uz9 => k_upd); (case zz9 => ksa_idx); k_whole); intro _ _ _; (try k_sweep)) | (k_here; (with_reducible show wpAny _ _ (call (Value.builtin "len") [Value.ref _]) _ _ _); k_dflt (refine' len_led ?Nz9 ?mz9 ?zz9 ?_; (case Nz9 => k_asm); (case mz9 => k_mem); (case zz9 => ksa_idx); k_whole); intro _ _) | (k_here; (with_reducible show wpAny _ _ (subscriptTail _ _ (Value.ref _) (Value.int _ _)) _ _ _); k_dflt (refine' item_led ?Nz9 ?mz9 ?az9 ?bz9 ?xz9 ?_; (case Nz9 => k_asm); (case mz9 => k_mem); (case az9 => omega); (case bz9 => omega); (case xz9 => assumption))) | (k_end; kc_close) | (k_end; wrow_close) | walk1 | (dsimp only; walk1) | (leave1; (try dsimp only)) | fail "no step"))
    (rename Fr _ _ _ _ => kF); (rename News _ _ _ _ => kN)
    exact hret _ _ _ _ kF kN (ky_nil (.inr (.inl ⟨rfl, rfl⟩)))
  | str j f hj =>
    obtain ⟨v', hv1, hv2, hl⟩ := datAll_at dH hj
    obtain ⟨a', n', t', u', rfl, hm'⟩ := dat_xy hv2
    have hmz := hZ _ hm'
    ( refine' code_def ?k1z9 ?k2z9 ?k3z9 ?k4z9 ?k5z9 ?kAz9 ?kFz9 ?kKz9 ?k6z9 ?k7z9 ?k8z9 ?k9z9 ?kBz9 ?_ ?c2z9 ?c3z9 ?c4z9 ?c5z9; (case kAz9 => assumption); (case kFz9 => assumption); (case kKz9 => assumption); (case k1z9 => k_asm); (case k2z9 => k_asm); (case k3z9 => k_asm); (case k4z9 => k_asm); (case k5z9 => k_asm); (case k6z9 => k_is); (case k7z9 => k_is); (case k8z9 => k_room); (case k9z9 => exact BindsTo.of_eq rfl); (case c5z9 => decide); (case kBz9 => exact locs rfl); (case c2z9 => exact rfl); (case c3z9 => exact rfl); (case c4z9 => exact rfl); k_whole; intro _ _ _ _ _ _ _ _ _; (with_reducible refine wp_never ?_); (try dsimp only); (try k_fold))
    (repeat' (first | (k_unfold; (try dsimp only)) | (k_here; (with_reducible show wpAny _ _ (call (Value.ref 230) _) _ _ _); k_dflt (refine' Spec.use (deref_spec _ _ _ _ _ _ _ _ _ ?hZ ?hS ?hH ?hT ?cH ?cT _ _ ?hD _ ?hv) ?kB ?kF ?kX ?kN ?kT ?kA ?kf ?kk ?kh ?kd ?ku ?_; ktn_step; (case hZ => assumption); (case hS => assumption); (case hD => assumption); (case cH => assumption); (case cT => assumption); (case hH => assumption); (case hT => assumption); (case hv => assumption); intro v9 post9 h9 tk9 F9 N9 hp9; obtain ⟨e9, hr9⟩ := hp9; (rw [e9] at N9); clear e9; obtain ⟨ra9, rn9, rt9, ru9, re9, rm9⟩ := dat_xy hr9; subst re9; (have rmz9 := (by assumption : ∀ p : Addr × Obj, p ∈ (_ : List (Addr × Obj)) → p ∈ (_ : List (Addr × Obj))) _ rm9); (try dsimp only); (try k_fold))) | (k_here; (with_reducible show wpAny _ _ (call (Value.ref 413) _) _ _ _); k_dflt (refine' Spec.use (termkey_spec _ _ _ [] ?hv) ?kB ?kF ?kX ?kN ?kT ?kA ?kf ?kk ?kh ?kd ?ku ?_; ktn_step; (case hv => first | assumption | (refine' DatIn.mono ?s99 ?h99; (case h99 => assumption); (case s99 => kqd_sub))); intro v9 post9 h9 tk9 F9 N9 hp9; obtain ⟨new9, e9, fr9, hk9⟩ := hp9; subst e9; (try dsimp only); (try k_fold))) | (k_here; (with_reducible show wpAny _ _ (call (Value.ref _) _) _ _ _); k_dflt (refine wpAny_call ?_; ( refine' code_def ?k1z9 ?k2z9 ?k3z9 ?k4z9 ?k5z9 ?kAz9 ?kFz9 ?kKz9 ?k6z9 ?k7z9 ?k8z9 ?k9z9 ?kBz9 ?_ ?c2z9 ?c3z9 ?c4z9 ?c5z9; (case kAz9 => first | exact deeper_frames _ (by assumption) | exact deeper_frames _ (deeper_frames _ (by assumption)) | exact deeper_frames _ (deeper_frames _ (deeper_frames _ (by assumption)))); (case kFz9 => exact rfl); (case kKz9 => exact rfl); (case k1z9 => k_asm); (case k2z9 => k_asm); (case k3z9 => k_asm); (case k4z9 => k_asm); (case k5z9 => k_asm); (case k6z9 => k_is); (case k7z9 => k_is); (case k8z9 => k_room); (case k9z9 => exact BindsTo.of_eq rfl); (case c5z9 => decide); (case kBz9 => exact locs rfl); (case c2z9 => exact rfl); (case c3z9 => exact rfl); (case c4z9 => exact rfl); k_whole; intro _ _ _ _ _ _ _ _ _; (with_reducible refine wp_never ?_); (try dsimp only); (try k_fold)))) | (k_here; (with_reducible show wpAny _ _ (setItem (Value.ref _) (Value.int _ _) _) _ _ _); k_dflt (refine' set_led ?Fz9 ?Nz9 ?Uz9 ?az9 ?bz9 ?zz9 ?_; (case Fz9 => k_asm); (case Nz9 => k_asm); (case Uz9 => k_upd); (case az9 => ksa_idx); (case bz9 => ksa_idx); (case zz9 => ksa_idx); k_whole); intro _ _ _; (try k_sweep)) | (k_here; (with_reducible show wpAny _ _ (call (Value.builtin "list.append") [Value.ref _, _]) _ _ _); k_dflt (refine' append_led ?Fz9 ?Nz9 ?Uz9 ?zz9 ?_; (case Fz9 => k_asm); (case Nz9 => k_asm); (case Uz9 => k_upd); (case zz9 => ksa_idx); k_whole); intro _ _ _; (try k_sweep)) | (k_here; (with_reducible show wpAny _ _ (call (Value.builtin "len") [Value.ref _]) _ _ _); k_dflt (refine' len_led ?Nz9 ?mz9 ?zz9 ?_; (case Nz9 => k_asm); (case mz9 => k_mem); (case zz9 => ksa_idx); k_whole); intro _ _) | (k_here; (with_reducible show wpAny _ _ (subscriptTail _ _ (Value.ref _) (Value.int _ _)) _ _ _); k_dflt (refine' item_led ?Nz9 ?mz9 ?az9 ?bz9 ?xz9 ?_; (case Nz9 => k_asm); (case mz9 => k_mem); (case az9 => omega); (case bz9 => omega); (case xz9 => assumption))) | (k_end; kc_close) | (k_end; wrow_close) | walk1 | (dsimp only; walk1) | (leave1; (try dsimp only)) | fail "no step"))
    (rename Fr _ _ _ _ => kF); (rename News _ _ _ _ => kN)
    obtain ⟨post, N', P'⟩ := pure_one' (R := RD) (d := (Ky.struct f).d) kN (by assumption) (.tuple (.head _) (.cons (.str _ _) (.cons (.int _ _) .nil)))
    exact hret _ _ _ _ kF N' P'.ky
end
end
section
theorem walk_off_P9 : True := by
  w_top off
  trivial
theorem stop9 {p : Prop} (h : Stop9 p) : p := h
theorem base_spec (S : Addr) (rest : List (Addr × Obj)) (v : Value) (c : Int × Int) (hv : DatIn rest v (cd c)) :
   Spec w 307 [.ref S, v] rest 3 200 (fun v' post => (∃ t, v' = .int (if c.1 = 3 then c.2 else c.2 + 1) t) ∧ post = rest) := by
  refine wr_mp ?_
  simp (disch := (k_dflt (
      unfold Spec
      k_fill
      intro p loose mean mg mb A A₀ env outer base h₀ L m s R B F X N T9 hA hf hke hh hd hu hret
      obtain ⟨a, n', t', u', rfl, hm⟩ := dat_ii hv
      ( refine' code_def ?k1z9 ?k2z9 ?k3z9 ?k4z9 ?k5z9 ?kAz9 ?kFz9 ?kKz9 ?k6z9 ?k7z9 ?k8z9 ?k9z9 ?kBz9 ?_ ?c2z9 ?c3z9 ?c4z9 ?c5z9; (case kAz9 => assumption); (case kFz9 => assumption); (case kKz9 => assumption); (case k1z9 => k_asm); (case k2z9 => k_asm); (case k3z9 => k_asm); (case k4z9 => k_asm); (case k5z9 => k_asm); (case k6z9 => k_is); (case k7z9 => k_is); (case k8z9 => k_room); (case k9z9 => exact BindsTo.of_eq rfl); (case c5z9 => decide); (case kBz9 => exact locs rfl); (case c2z9 => exact rfl); (case c3z9 => exact rfl); (case c4z9 => exact rfl); k_whole; intro _ _ _ _ _ _ _ _ _; (with_reducible refine wp_never ?_); (try dsimp only); (try k_fold))
      (repeat' (first | (k_unfold; (try dsimp only)) | (k_here; (with_reducible show wpAny _ _ (setItem (Value.ref _) (Value.int _ _) _) _ _ _); k_dflt (refine' set_led ?Fz9 ?Nz9 ?Uz9 ?az9 ?bz9 ?zz9 ?_; (case Fz9 => k_asm); (case Nz9 => k_asm); (case Uz9 => k_upd); (case az9 => ksa_idx); (case bz9 => ksa_idx); (case zz9 => ksa_idx); k_whole); intro _ _ _; (try k_sweep)) | (k_here; (with_reducible show wpAny _ _ (call (Value.builtin "list.append") [Value.ref _, _]) _ _ _); k_dflt (refine' append_led ?Fz9 ?Nz9 ?Uz9 ?zz9 ?_; (case Fz9 => k_asm); (case Nz9 => k_asm); (case Uz9 => k_upd); (case zz9 => ksa_idx); k_whole); intro _ _ _; (try k_sweep)) | (k_here; (with_reducible show wpAny _ _ (call (Value.builtin "len") [Value.ref _]) _ _ _); k_dflt (refine' len_led ?Nz9 ?mz9 ?zz9 ?_; (case Nz9 => k_asm); (case mz9 => k_mem); (case zz9 => ksa_idx); k_whole); intro _ _) | (k_here; (with_reducible show wpAny _ _ (subscriptTail _ _ (Value.ref _) (Value.int _ _)) _ _ _); k_dflt (refine' item_led ?Nz9 ?mz9 ?az9 ?bz9 ?xz9 ?_; (case Nz9 => k_asm); (case mz9 => k_mem); (case az9 => omega); (case bz9 => omega); (case xz9 => assumption))) | (k_end; kc_close) | (k_end; wrow_close) | walk1 | (dsimp only; walk1) | (leave1; (try dsimp only)) | fail "no step"))
      all_goals (rename Fr _ _ _ _ => kF)
      all_goals (rename News _ _ _ _ => kN)
      · rename c.1 = 3 => e
        exact hret _ _ _ _ kF kN ⟨⟨_, by rw [if_pos e]⟩, rfl⟩
      · rename ¬ c.1 = 3 => e
        exact hret _ _ _ _ kF kN ⟨⟨_, by rw [if_neg e]⟩, rfl⟩))) only [↓wr_true]
noncomputable def loopVar (l : List Stmt) : PySem.Expr := match l with
  | (.For (target := b) ..) :: _ => b
  | _ => .Constant (.int 0) 0 default
theorem put_items {T : Nat → List (Addr × Obj) → Obj → Prop} (hT : Tab w T) {p : Program} {loose : List Str} {mean : ExcName → Option Value} {mg mb : Str → Option Value} {A : Around} {env : Env} {outer : List Env} {base g : Heap} {L : Addr} {s : Shared} {Q : Flow → Shared → Prop}
   (B : Below A base (env :: outer) g) (X : (hk.heap_1 w.params).In g) (T9 : Top p loose mean mg mb g) (hh : A.handled = none) (hu : A.units + 300 < 9900)
   (S H K I st : Addr) (kp : Addr × Obj) (hHK : @Ne Nat K H) (hIH : @Ne Nat I H) (hIK : @Ne Nat I K) (hKs : (K == sysModules) = false) :
   ∀ (xs : List Lf) (ws : List Value) (i : Nat) (pl : Int) (t0 : Tok) (o ok : Obj) (hs : List (Int × Int)) (R Z : List (Addr × Obj)) (m : Str → Option Value), (∀ p ∈ R, p ∈ Z) → DatAll R ws (xs.map Lf.d) → (∀ x ∈ xs, x.ok) → CellsAt R o hs → T i R ok → 0 ≤ pl → pl + xs.length ≤ hs.length → StoreIs Z S H st →
     (∀ p ∈ Z, p.1 ≠ H) → (∀ p ∈ Z, p.1 ≠ K) → (∀ p ∈ Z, p.1 ≠ I) → kp ∈ Z → m (Str.ofString "self") = some (.ref S) → m (Str.ofString "table") = some (.ref K) → m (Str.ofString "place") = some (.int pl t0) →
     (∀ h' tk' m' o' ok' new hs', Fr g L h' m' → News g L h' ((H, o') :: (K, ok') :: (new ++ Z)) → (∀ p ∈ new, ∀ q ∈ (H, o) :: (K, ok) :: Z, @LT.lt Nat _ q.1 p.1) → CellsAt (new ++ R) o' hs' → hs'.length = hs.length → (∀ j : Nat, (j : Int) < pl → hs'[j]? = hs[j]?) → T (i + xs.length) (new ++ R) ok' →
       (∀ z, z ≠ Str.ofString "place" → z ≠ Str.ofString "item" → z ≠ Str.ofString "kind" → m' z = m z) → Q .next { s with heap := h', toks := tk' }) →
     ItemsRest prg w (A.deeper (putEnv L)) (fun _ _ => False) g (putEnv L) (loopVar (putWhile.drop 2)) putFor Q s [(I, "tuple_iterator")] [kp] (ws.map .val) m ((H, o) :: (K, ok) :: Z)
  | [], _, i, pl, t0, o, ok, hs, R, Z, m, _, .nil, _, hc, ht, _, _, _, _, _, _, _, _, _, _, hQ => by
    refine ItemsRest.zero fun h tk F N => ?_
    exact hQ h tk m o ok [] hs F N (fun _ h => nomatch h) hc rfl (fun _ _ => rfl) ht fun _ _ _ _ => rfl
  | x :: xs, _, i, pl, t0, o, ok, hs, R, Z, m, hZ, .cons (v := v) hv hvs, hx, hc, ht, h0, h1, hS, hRH, hRK, hRI, hkp, m1, m2, m3, hQ => by
    refine ItemsRest.val fun h tk F => ?_
    intro io hio N
    have e1 : ((x :: xs).length : Int) = xs.length + 1 := by simp
    rw [e1] at h1
    conv in (assign _ _ _) => arg 1; whnf
    revert X
    k_fill
    intro X
    walk1
    walk1
    (rename Fr _ _ _ _ => F'); (rename News _ _ _ _ => N')
    refine put_turn hT B X T9 hh hu S H K I io o ok hs R Z hZ hHK hIH hIK hRH hRK hKs st hS hc i ht pl t0 h0 (by omega) x (hx x (.head _)) v hv F' m1 m2 m3 N' ?_
    intro h' tk' m' t' o' ok' new hs' F2 N2 fr2 c2 l2 p2 T2 pl2 m2'
    have off : ∀ p ∈ new ++ Z, p.1 ≠ H ∧ p.1 ≠ K ∧ p.1 ≠ I := fun p hp => by
      rcases List.mem_append.mp hp with hp | hp
      · exact ⟨Nat.ne_of_gt (fr2 p hp _ (.tail _ (.head _))), Nat.ne_of_gt (fr2 p hp _ (.tail _ (.tail _ (.head _)))), Nat.ne_of_gt (fr2 p hp _ (.head _))⟩
      · exact ⟨hRH p hp, hRK p hp, hRI p hp⟩
    show UnrEndW _ _ _ _ _ _
    refine ⟨h', tk', m', (H, o') :: (K, ok') :: (new ++ Z), rfl, F2, N2, ?_, ⟨⟨.tail _ (.tail _ (List.mem_append.mpr (.inr hkp))), trivial⟩, ?_⟩⟩
    · intro p hp q hq
      rw [List.mem_singleton.mp hq]
      rcases List.mem_cons.mp hp with rfl | hp
      · exact Ne.symm hIH
      · rcases List.mem_cons.mp hp with rfl | hp
        · exact Ne.symm hIK
        · exact (off p hp).2.2
    · refine put_items hT B X T9 hh hu S H K I st kp hHK hIH hIK hKs xs _ (i + 1) (pl + 1) t' o' ok' hs' (new ++ R) (new ++ Z) m' (sub_app hZ) (hvs.mono sub_right) (fun y hy => hx y (.tail _ hy)) c2 T2 (by omega) (by omega) (hS.mono sub_right)
        (fun p hp => (off p hp).1) (fun p hp => (off p hp).2.1) (fun p hp => (off p hp).2.2) (List.mem_append.mpr (.inr hkp)) ?_ ?_ pl2 ?_
      · rw [m2' _ (by decide) (by decide) (by decide)]; exact m1
      · rw [m2' _ (by decide) (by decide) (by decide)]; exact m2
      · intro h3 tk3 m3' o3 ok3 new3 hs3 F3 N3 fr3 c3 l3 p3 T3 m3''
        refine hQ h3 tk3 m3' o3 ok3 (new3 ++ new) hs3 F3 (by rw [List.append_assoc]; exact N3) (fun p hp q hq => ?_) (by rw [List.append_assoc]; exact c3) (by omega) (fun j hj => by rw [p3 j (by omega), p2 j hj]) (by rw [List.append_assoc]; have e2 : i + (x :: xs).length = i + 1 + xs.length := (by simp; omega); rw [e2]; exact T3) (fun z z1 z2 z3 => by rw [m3'' z z1 z2 z3, m2' z z1 z2 z3])
        rcases List.mem_append.mp hp with hp | hp
        · rcases List.mem_cons.mp hq with rfl | hq
          · exact fr3 p hp (H, o') (.head _)
          · rcases List.mem_cons.mp hq with rfl | hq
            · exact fr3 p hp (K, ok') (.tail _ (.head _))
            · exact fr3 p hp q (.tail _ (.tail _ (List.mem_append.mpr (.inr hq))))
        · exact fr2 p hp q (.tail _ hq)
local macro_rules | `(tactic| walk_at "pyIter ref") => `(tactic| (k_here; (with_reducible show wpAny _ _ (pyIter (Value.ref _)) (fun it s₂ => TurnsAt _ _ _ _ _ _ _ _ _ it s₂) _ _); k_dflt (refine' iter_tupTurns ?hh ?F ?N ?m ?c ?d ?_; (case F => k_asm); (case N => k_asm); (case m => k_mem); (case c => exact rfl); (case d => exact rfl); (case hh => first | assumption | exact ‹_ = none›)); intro i' l1; (try k_lt l1); refine stop9 ?_))
theorem items_sub {prog : Program} {w : World} {A : Around} {E : Value → Shared → Prop} {h₀ : Heap} {env : Env} {target : PySem.Expr} {body : List Stmt} {Q : Flow → Shared → Prop} {s : Shared} {ws : List (Addr × String)} {keep : List (Addr × Obj)} {m : Str → Option Value} {news news' : List (Addr × Obj)} (hs : ∀ p ∈ news', p ∈ news) :
    ∀ {xs : List Itm}, ItemsRest prog w A E h₀ env target body Q s ws keep xs m news' → ItemsRest prog w A E h₀ env target body Q s ws keep xs m news
  | [], h => fun h' tk F N => h h' tk F (News.sub N hs)
  | _ :: _, h => fun v h' tk e F => by
    have k := h v h' tk e F
    refine all_sub (fun its x N => x (News.sub N fun p hp => ?_)) k
    rcases List.mem_append.mp hp with hp | hp
    · exact List.mem_append.mpr (.inl hp)
    · exact List.mem_append.mpr (.inr (hs p hp))
where
  all_sub {ws : List (Addr × String)} : ∀ {P P' : List (Addr × Obj) → Prop}, (∀ its, P its → P' its) → AllObj ws P → AllObj ws P' := by
    induction ws with
    | nil => exact fun h k => h _ k
    | cons w r ih => exact fun h k o e => ih (fun its => h _) (k o e)
theorem put_tail {T : Nat → List (Addr × Obj) → Obj → Prop} (hT : Tab w T) {p : Program} {loose : List Str} {mean : ExcName → Option Value} {mg mb : Str → Option Value} {A : Around} {env : Env} {outer : List Env} {base g h : Heap} {L : Addr} {s : Shared} {tk : Nat} {m : Str → Option Value} {Q : Flow → Shared → Prop}
   (B : Below A base (env :: outer) g) (X : (hk.heap_1 w.params).In g) (T9 : Top p loose mean mg mb g) (hA : A.frames = some (env :: outer)) (hh : A.handled = none) (hd : A.depth + 10 < 1000) (hu : A.units + 400 < 9900)
   (S H K : Addr) (o ok : Obj) (hs : List (Int × Int)) (R Z : List (Addr × Obj)) (hZ : ∀ p ∈ R, p ∈ Z) (hHK : @Ne Nat K H) (hRH : ∀ p ∈ Z, p.1 ≠ H) (hRK : ∀ p ∈ Z, p.1 ≠ K) (hKs : (K == sysModules) = false)
   (st : Addr) (hS : StoreIs Z S H st) (hc : CellsAt R o hs) (i : Nat) (ht : T i R ok) (tv mv : Value) (c : Int × Int) (hmv : DatIn R mv (cd c)) (f : Int) (xs : List Lf) (htv : DatIn R tv (Tm.s f xs).d) (hx : ∀ x ∈ xs, x.ok) (pl : Int) (hpl : pl = if c.1 = 3 then c.2 else c.2 + 1) (h0 : 0 ≤ pl) (h1 : pl + xs.length ≤ hs.length)
   (F : Fr g L h m) (hm1 : m (Str.ofString "self") = some (.ref S)) (hm2 : m (Str.ofString "table") = some (.ref K)) (hm3 : m (Str.ofString "made") = some mv) (hm4 : m (Str.ofString "term") = some tv)
   (N : News g L h ((H, o) :: (K, ok) :: Z))
   (hQ : ∀ h' tk' m' o' ok' new hs', Fr g L h' m' → News g L h' ((H, o') :: (K, ok') :: (new ++ Z)) → (∀ p ∈ new, ∀ q ∈ (H, o) :: (K, ok) :: Z, @LT.lt Nat _ q.1 p.1) →
     CellsAt (new ++ R) o' hs' → hs'.length = hs.length → (∀ j : Nat, (j : Int) < pl → hs'[j]? = hs[j]?) → T (i + xs.length) (new ++ R) ok' → Q (.ret mv) { s with heap := h', toks := tk' }) :
   wpAny (model prg w) (A.deeper (putEnv L)) (execs (putDef.1.drop 6) (putEnv L)) Q (fun _ _ => False) { s with heap := h, toks := tk } := by
  refine wr_mp ?_
  simp (disch := (k_dflt (
      unfold putEnv prg
      conv in (execs _ _) => arg 1; whnf
      conv in (occs := *) putDef.2 => all_goals whnf
      revert X
      k_fill
      intro X
      have hl : ∀ q ∈ [(Str.ofString "self", Value.ref S), (Str.ofString "table", .ref K), (Str.ofString "made", mv), (Str.ofString "term", tv)], m q.1 = some q.2 := by
        intro q hq
        simp only [List.mem_cons, List.not_mem_nil, or_false] at hq
        rcases hq with rfl | rfl | rfl | rfl
        · exact hm1
        · exact hm2
        · exact hm3
        · exact hm4
      have F' := fr_stdL F _ hl
      clear F
      obtain ⟨vs, n1, rfl, dH, lH⟩ := hc.out
      have hvl := cells_len dH
      refine StoreIs.elim hS ?_
      intro SD SY TR h1' h2 h3 h4 h5 h6 h7 t1 t2 t3 t4 t5 t6 t7 u1 u2 u3 n hm4 hm5 _
      obtain ⟨a, n', t', u', b, m', ws, rfl, hm6, hm7, hm8⟩ := dat_s htv
      have hm6 := hZ _ hm6
      have hm7 := hZ _ hm7
      have hmv := hmv.mono hZ
      (repeat' (first | (k_unfold; (try dsimp only)) | (k_here; (with_reducible show wpAny _ _ (assign (Expr.Tuple _ _ _) _ (Value.ref _)) _ _ _); k_dflt (refine' unpackN_ ?F ?N ?T ?k1 ?k2 ?k3 ?_; (case F => k_asm); (case N => k_asm); (case T => first | with_reducible assumption | (refine News.isTup (by k_asm) (by k_mem))); (case k1 => first | exact rfl | assumption); (case k2 => exact rfl); (case k3 => exact rfl)); intro h' F' N'; (try k_sweep)) | (k_here; (with_reducible show wpAny _ _ (exec (Stmt.For _ _ _ _ _) _) _ _ _); (rename Fr _ _ _ _ => lF'); (with_unfolding_all refine' For_turns lF' ?_); k_whole) | (k_here; (with_reducible show wpAny _ _ (exec (Stmt.For _ _ _ _ _) _) _ _ _); (rename Fr _ _ _ _ => lF'); (with_unfolding_all refine' For_turns lF' ?_); k_whole) | (k_here; (with_reducible show wpAny _ _ (exec (Stmt.While _ _ _ _) _) _ _ _); k_dflt (refine whl_start 1 ?_); refine stop9 ?_) | (k_here; (with_reducible show wpAny _ _ (call (Value.ref 307) _) _ _ _); k_dflt (refine' Spec.use (base_spec _ _ _ _ ?hv) ?kB ?kF ?kX ?kN ?kT ?kA ?kf ?kk ?kh ?kd ?ku ?_; ktn_step; (case hv => first | assumption | (refine' DatIn.mono ?s99 ?h99; (case h99 => assumption); (case s99 => kqd_sub))); intro v9 post9 h9 tk9 F9 N9 hp9; obtain ⟨⟨t9, e9⟩, f9⟩ := hp9; subst e9; subst f9; (try dsimp only); (try k_fold))) | (k_here; (with_reducible show wpAny _ _ (setItem (Value.ref _) (Value.int _ _) _) _ _ _); k_dflt (refine' set_led ?Fz9 ?Nz9 ?Uz9 ?az9 ?bz9 ?zz9 ?_; (case Fz9 => k_asm); (case Nz9 => k_asm); (case Uz9 => k_upd); (case az9 => ksa_idx); (case bz9 => ksa_idx); (case zz9 => ksa_idx); k_whole); intro _ _ _; (try k_sweep)) | (k_here; (with_reducible show wpAny _ _ (call (Value.builtin "list.append") [Value.ref _, _]) _ _ _); k_dflt (refine' append_led ?Fz9 ?Nz9 ?Uz9 ?zz9 ?_; (case Fz9 => k_asm); (case Nz9 => k_asm); (case Uz9 => k_upd); (case zz9 => ksa_idx); k_whole); intro _ _ _; (try k_sweep)) | (k_here; (with_reducible show wpAny _ _ (call (Value.builtin "len") [Value.ref _]) _ _ _); k_dflt (refine' len_led ?Nz9 ?mz9 ?zz9 ?_; (case Nz9 => k_asm); (case mz9 => k_mem); (case zz9 => ksa_idx); k_whole); intro _ _) | (k_here; (with_reducible show wpAny _ _ (subscriptTail _ _ (Value.ref _) (Value.int _ _)) _ _ _); k_dflt (refine' item_led ?Nz9 ?mz9 ?az9 ?bz9 ?xz9 ?_; (case Nz9 => k_asm); (case mz9 => k_mem); (case az9 => omega); (case bz9 => omega); (case xz9 => assumption))) | (k_end; kc_close) | (k_end; wrow_close) | walk1 | (dsimp only; walk1) | (leave1; (try dsimp only)) | fail "no step"))
      unfold Stop9
      rename_i t9 D hh1 l1 l2 l3 W hh2 l4 l5 l6 l7 hh3 hh4 kF kN
      refine turn_to (k := 0) (fun s' => ∃ h' tk' m' o' ok' new hs' W wv t9, s' = { s with heap := h', toks := tk' } ∧ Fr g L h' m' ∧ News g L h' ((H, o') :: (K, ok') :: (new ++ Z)) ∧ (∀ p ∈ new, ∀ q ∈ (H, listOf vs.toArray n1) :: (K, ok) :: Z, @LT.lt Nat _ q.1 p.1) ∧
         CellsAt (new ++ R) o' hs' ∧ hs'.length = hs.length ∧ (∀ j : Nat, (j : Int) < pl → hs'[j]? = hs[j]?) ∧ T (i + xs.length) (new ++ R) ok' ∧ m' (Str.ofString "made") = some mv ∧ m' (Str.ofString "at") = some (.int 1 t9) ∧ m' (Str.ofString "waiting") = some (.ref W) ∧ (W, listOf (List.toArray [wv]) 0) ∈ new) ?_ PassesOwn.never ?_
      · rintro s' ⟨h', tk', m', o', ok', new, hs', W, wv, t9, rfl, F2, N2, fr2, c2, l2, p2, T2, q1, q2, q3, q4⟩
        clear kF kN hl
        have hl : ∀ q ∈ [(Str.ofString "made", mv), (Str.ofString "at", .int 1 t9), (Str.ofString "waiting", Value.ref W)], m' q.1 = some q.2 := by
          intro q hq
          simp only [List.mem_cons, List.not_mem_nil, or_false] at hq
          rcases hq with rfl | rfl | rfl
          · exact q1
          · exact q2
          · exact q3
        have F' := fr_stdL F2 _ hl
        clear F2
        refine turn_to (k := 0) (fun _ => False) (fun _ h => h.elim) PassesOwn.never ?_
        (repeat' (first | (k_unfold; (try dsimp only)) | (k_here; (with_reducible show wpAny _ _ (assign (Expr.Tuple _ _ _) _ (Value.ref _)) _ _ _); k_dflt (refine' unpackN_ ?F ?N ?T ?k1 ?k2 ?k3 ?_; (case F => k_asm); (case N => k_asm); (case T => first | with_reducible assumption | (refine News.isTup (by k_asm) (by k_mem))); (case k1 => first | exact rfl | assumption); (case k2 => exact rfl); (case k3 => exact rfl)); intro h' F' N'; (try k_sweep)) | (k_here; (with_reducible show wpAny _ _ (exec (Stmt.For _ _ _ _ _) _) _ _ _); (rename Fr _ _ _ _ => lF'); (with_unfolding_all refine' For_turns lF' ?_); k_whole) | (k_here; (with_reducible show wpAny _ _ (exec (Stmt.For _ _ _ _ _) _) _ _ _); (rename Fr _ _ _ _ => lF'); (with_unfolding_all refine' For_turns lF' ?_); k_whole) | (k_here; (with_reducible show wpAny _ _ (exec (Stmt.While _ _ _ _) _) _ _ _); k_dflt (refine whl_start 1 ?_); refine stop9 ?_) | (k_here; (with_reducible show wpAny _ _ (call (Value.ref 307) _) _ _ _); k_dflt (refine' Spec.use (base_spec _ _ _ _ ?hv) ?kB ?kF ?kX ?kN ?kT ?kA ?kf ?kk ?kh ?kd ?ku ?_; ktn_step; (case hv => first | assumption | (refine' DatIn.mono ?s99 ?h99; (case h99 => assumption); (case s99 => kqd_sub))); intro v9 post9 h9 tk9 F9 N9 hp9; obtain ⟨⟨t9, e9⟩, f9⟩ := hp9; subst e9; subst f9; (try dsimp only); (try k_fold))) | (k_here; (with_reducible show wpAny _ _ (setItem (Value.ref _) (Value.int _ _) _) _ _ _); k_dflt (refine' set_led ?Fz9 ?Nz9 ?Uz9 ?az9 ?bz9 ?zz9 ?_; (case Fz9 => k_asm); (case Nz9 => k_asm); (case Uz9 => k_upd); (case az9 => ksa_idx); (case bz9 => ksa_idx); (case zz9 => ksa_idx); k_whole); intro _ _ _; (try k_sweep)) | (k_here; (with_reducible show wpAny _ _ (call (Value.builtin "list.append") [Value.ref _, _]) _ _ _); k_dflt (refine' append_led ?Fz9 ?Nz9 ?Uz9 ?zz9 ?_; (case Fz9 => k_asm); (case Nz9 => k_asm); (case Uz9 => k_upd); (case zz9 => ksa_idx); k_whole); intro _ _ _; (try k_sweep)) | (k_here; (with_reducible show wpAny _ _ (call (Value.builtin "len") [Value.ref _]) _ _ _); k_dflt (refine' len_led ?Nz9 ?mz9 ?zz9 ?_; (case Nz9 => k_asm); (case mz9 => k_mem); (case zz9 => ksa_idx); k_whole); intro _ _) | (k_here; (with_reducible show wpAny _ _ (subscriptTail _ _ (Value.ref _) (Value.int _ _)) _ _ _); k_dflt (refine' item_led ?Nz9 ?mz9 ?az9 ?bz9 ?xz9 ?_; (case Nz9 => k_asm); (case mz9 => k_mem); (case az9 => omega); (case bz9 => omega); (case xz9 => assumption))) | (k_end; kc_close) | (k_end; wrow_close) | walk1 | (dsimp only; walk1) | (leave1; (try dsimp only)) | fail "no step"))
        (rename Fr _ _ _ _ => kF); (rename News _ _ _ _ => kN)
        exact hQ _ _ _ _ _ _ _ kF kN fr2 c2 l2 p2 T2
      (repeat' (first | (k_unfold; (try dsimp only)) | (k_here; (with_reducible show wpAny _ _ (assign (Expr.Tuple _ _ _) _ (Value.ref _)) _ _ _); k_dflt (refine' unpackN_ ?F ?N ?T ?k1 ?k2 ?k3 ?_; (case F => k_asm); (case N => k_asm); (case T => first | with_reducible assumption | (refine News.isTup (by k_asm) (by k_mem))); (case k1 => first | exact rfl | assumption); (case k2 => exact rfl); (case k3 => exact rfl)); intro h' F' N'; (try k_sweep)) | (k_here; (with_reducible show wpAny _ _ (exec (Stmt.For _ _ _ _ _) _) _ _ _); (rename Fr _ _ _ _ => lF'); (with_unfolding_all refine' For_turns lF' ?_); k_whole) | (k_here; (with_reducible show wpAny _ _ (exec (Stmt.For _ _ _ _ _) _) _ _ _); (rename Fr _ _ _ _ => lF'); (with_unfolding_all refine' For_turns lF' ?_); k_whole) | (k_here; (with_reducible show wpAny _ _ (exec (Stmt.While _ _ _ _) _) _ _ _); k_dflt (refine whl_start 1 ?_); refine stop9 ?_) | (k_here; (with_reducible show wpAny _ _ (call (Value.ref 307) _) _ _ _); k_dflt (refine' Spec.use (base_spec _ _ _ _ ?hv) ?kB ?kF ?kX ?kN ?kT ?kA ?kf ?kk ?kh ?kd ?ku ?_; ktn_step; (case hv => first | assumption | (refine' DatIn.mono ?s99 ?h99; (case h99 => assumption); (case s99 => kqd_sub))); intro v9 post9 h9 tk9 F9 N9 hp9; obtain ⟨⟨t9, e9⟩, f9⟩ := hp9; subst e9; subst f9; (try dsimp only); (try k_fold))) | (k_here; (with_reducible show wpAny _ _ (setItem (Value.ref _) (Value.int _ _) _) _ _ _); k_dflt (refine' set_led ?Fz9 ?Nz9 ?Uz9 ?az9 ?bz9 ?zz9 ?_; (case Fz9 => k_asm); (case Nz9 => k_asm); (case Uz9 => k_upd); (case az9 => ksa_idx); (case bz9 => ksa_idx); (case zz9 => ksa_idx); k_whole); intro _ _ _; (try k_sweep)) | (k_here; (with_reducible show wpAny _ _ (call (Value.builtin "list.append") [Value.ref _, _]) _ _ _); k_dflt (refine' append_led ?Fz9 ?Nz9 ?Uz9 ?zz9 ?_; (case Fz9 => k_asm); (case Nz9 => k_asm); (case Uz9 => k_upd); (case zz9 => ksa_idx); k_whole); intro _ _ _; (try k_sweep)) | (k_here; (with_reducible show wpAny _ _ (call (Value.builtin "len") [Value.ref _]) _ _ _); k_dflt (refine' len_led ?Nz9 ?mz9 ?zz9 ?_; (case Nz9 => k_asm); (case mz9 => k_mem); (case zz9 => ksa_idx); k_whole); intro _ _) | (k_here; (with_reducible show wpAny _ _ (subscriptTail _ _ (Value.ref _) (Value.int _ _)) _ _ _); k_dflt (refine' item_led ?Nz9 ?mz9 ?az9 ?bz9 ?xz9 ?_; (case Nz9 => k_asm); (case mz9 => k_mem); (case az9 => omega); (case bz9 => omega); (case xz9 => assumption))) | (k_end; kc_close) | (k_end; wrow_close) | walk1 | (dsimp only; walk1) | (leave1; (try dsimp only)) | fail "no step"))
      unfold Stop9
      rename_i lF lN I j1 j2 j3 j4 j5
      have nr : ∀ {d : Addr}, AllLt d Z → ∀ p ∈ Z, p.1 ≠ d := fun h p hp => Nat.ne_of_lt (ktn_ltOf h p hp)
      have sub : ∀ p ∈ Z, p ∈ (W, listOf #[Value.ref D] 0) :: (D, ({ cls := Value.type "tuple", data := Data.seq #[Value.int (if c.1 = 3 then c.2 else c.2 + 1) t9, Value.ref b] } : Obj)) :: Z := fun p hp => .tail _ (.tail _ hp)
      refine items_sub (news' := (H, listOf vs.toArray n1) :: (K, ok) :: (W, listOf #[Value.ref D] 0) :: (D, ({ cls := Value.type "tuple", data := Data.seq #[Value.int (if c.1 = 3 then c.2 else c.2 + 1) t9, Value.ref b] } : Obj)) :: Z) ?_ ?_
      · intro p hp
        simp only [List.mem_cons] at hp ⊢
        rcases hp with hp | hp | hp | hp | hp <;> simp [hp]
      subst hpl
      refine put_items hT B X T9 hh (by omega) S H K I st _ hHK (Ne.symm (Nat.ne_of_lt j3)) (Ne.symm (Nat.ne_of_lt j4)) hKs xs ws i _ t9 _ ok hs R _ _ (fun p hp => sub _ (hZ p hp)) hm8 hx hc ht h0 h1 (hS.mono sub) ?_ ?_ ?_ (sub _ hm7) rfl rfl rfl ?_
      · intro p hp
        rcases List.mem_cons.mp hp with rfl | hp
        · exact Nat.ne_of_gt l5
        · rcases List.mem_cons.mp hp with rfl | hp
          · exact Nat.ne_of_gt l1
          · exact hRH p hp
      · intro p hp
        rcases List.mem_cons.mp hp with rfl | hp
        · exact Nat.ne_of_gt l6
        · rcases List.mem_cons.mp hp with rfl | hp
          · exact Nat.ne_of_gt l2
          · exact hRK p hp
      · intro p hp
        rcases List.mem_cons.mp hp with rfl | hp
        · exact Nat.ne_of_lt j1
        · rcases List.mem_cons.mp hp with rfl | hp
          · exact Nat.ne_of_lt j2
          · exact nr j5 p hp
      intro h' tk' m9 o' ok' new hs' F2 N2 fr2 c2 l2' p2 T2 q9
      (repeat' (first | (k_unfold; (try dsimp only)) | (k_here; (with_reducible show wpAny _ _ (assign (Expr.Tuple _ _ _) _ (Value.ref _)) _ _ _); k_dflt (refine' unpackN_ ?F ?N ?T ?k1 ?k2 ?k3 ?_; (case F => k_asm); (case N => k_asm); (case T => first | with_reducible assumption | (refine News.isTup (by k_asm) (by k_mem))); (case k1 => first | exact rfl | assumption); (case k2 => exact rfl); (case k3 => exact rfl)); intro h' F' N'; (try k_sweep)) | (k_here; (with_reducible show wpAny _ _ (exec (Stmt.For _ _ _ _ _) _) _ _ _); (rename Fr _ _ _ _ => lF'); (with_unfolding_all refine' For_turns lF' ?_); k_whole) | (k_here; (with_reducible show wpAny _ _ (exec (Stmt.For _ _ _ _ _) _) _ _ _); (rename Fr _ _ _ _ => lF'); (with_unfolding_all refine' For_turns lF' ?_); k_whole) | (k_here; (with_reducible show wpAny _ _ (exec (Stmt.While _ _ _ _) _) _ _ _); k_dflt (refine whl_start 1 ?_); refine stop9 ?_) | (k_here; (with_reducible show wpAny _ _ (call (Value.ref 307) _) _ _ _); k_dflt (refine' Spec.use (base_spec _ _ _ _ ?hv) ?kB ?kF ?kX ?kN ?kT ?kA ?kf ?kk ?kh ?kd ?ku ?_; ktn_step; (case hv => first | assumption | (refine' DatIn.mono ?s99 ?h99; (case h99 => assumption); (case s99 => kqd_sub))); intro v9 post9 h9 tk9 F9 N9 hp9; obtain ⟨⟨t9, e9⟩, f9⟩ := hp9; subst e9; subst f9; (try dsimp only); (try k_fold))) | (k_here; (with_reducible show wpAny _ _ (setItem (Value.ref _) (Value.int _ _) _) _ _ _); k_dflt (refine' set_led ?Fz9 ?Nz9 ?Uz9 ?az9 ?bz9 ?zz9 ?_; (case Fz9 => k_asm); (case Nz9 => k_asm); (case Uz9 => k_upd); (case az9 => ksa_idx); (case bz9 => ksa_idx); (case zz9 => ksa_idx); k_whole); intro _ _ _; (try k_sweep)) | (k_here; (with_reducible show wpAny _ _ (call (Value.builtin "list.append") [Value.ref _, _]) _ _ _); k_dflt (refine' append_led ?Fz9 ?Nz9 ?Uz9 ?zz9 ?_; (case Fz9 => k_asm); (case Nz9 => k_asm); (case Uz9 => k_upd); (case zz9 => ksa_idx); k_whole); intro _ _ _; (try k_sweep)) | (k_here; (with_reducible show wpAny _ _ (call (Value.builtin "len") [Value.ref _]) _ _ _); k_dflt (refine' len_led ?Nz9 ?mz9 ?zz9 ?_; (case Nz9 => k_asm); (case mz9 => k_mem); (case zz9 => ksa_idx); k_whole); intro _ _) | (k_here; (with_reducible show wpAny _ _ (subscriptTail _ _ (Value.ref _) (Value.int _ _)) _ _ _); k_dflt (refine' item_led ?Nz9 ?mz9 ?az9 ?bz9 ?xz9 ?_; (case Nz9 => k_asm); (case mz9 => k_mem); (case az9 => omega); (case bz9 => omega); (case xz9 => assumption))) | (k_end; kc_close) | (k_end; wrow_close) | walk1 | (dsimp only; walk1) | (leave1; (try dsimp only)) | fail "no step"))
      show Stop9 _
      (rename Fr _ _ _ _ => F2); (rename News _ _ _ _ => N2)
      have e9 : new ++ (W, listOf #[Value.ref D] 0) :: (D, ({ cls := Value.type "tuple", data := Data.seq #[Value.int (if c.1 = 3 then c.2 else c.2 + 1) t9, Value.ref b] } : Obj)) :: Z = (new ++ [(W, listOf #[Value.ref D] 0), (D, ({ cls := Value.type "tuple", data := Data.seq #[Value.int (if c.1 = 3 then c.2 else c.2 + 1) t9, Value.ref b] } : Obj))]) ++ Z := by simp
      rw [e9] at N2
      have sb : ∀ l : List (Addr × Obj), ∀ p ∈ new ++ R, p ∈ (new ++ l) ++ R := fun l p hp => (List.mem_append.mp hp).elim (fun h' => List.mem_append.mpr (.inl (List.mem_append.mpr (.inl h')))) fun h' => List.mem_append.mpr (.inr h')
      obtain ⟨t10, q10⟩ : ∃ t, m9 (Str.ofString "at") = some (.int 1 t) := ⟨_, (q9 _ (by decide) (by decide) (by decide)).trans rfl⟩
      refine ⟨h', tk', m9, o', ok', _, hs', W, _, t10, rfl, F2, N2, ?_, c2.mono (sb _), l2', p2, hT.mono _ _ _ _ _ T2 (Nat.le_refl _) (sb _), ?_, q10, ?_, List.mem_append.mpr (.inr (.head _))⟩
      · intro p hp q hq
        rcases List.mem_append.mp hp with hp | hp
        · refine fr2 p hp q ?_
          simp only [List.mem_cons] at hq ⊢
          rcases hq with hq | hq | hq <;> simp [hq]
        · have a1 : AllLt W ((H, listOf vs.toArray n1) :: (K, ok) :: Z) := ⟨l5, l6, l7⟩
          have a2 : AllLt D ((H, listOf vs.toArray n1) :: (K, ok) :: Z) := ⟨l1, l2, l3⟩
          rcases List.mem_cons.mp hp with rfl | hp
          · exact ktn_ltOf a1 q hq
          · rw [List.mem_singleton.mp hp]; exact ktn_ltOf a2 q hq
      · rw [q9 _ (by decide) (by decide) (by decide)]; rfl
      · rw [q9 _ (by decide) (by decide) (by decide)]; rfl))) only [↓wr_true]
end
section
theorem walk_off_P10 : True := by
  w_top off
  trivial
noncomputable def BlockPost (H : Addr) (rest R : List (Addr × Obj)) (hs : List (Int × Int)) (f : Int) (k : Nat) (v : Value) (post : List (Addr × Obj)) : Prop :=
  ∃ c blk, HPost H rest R (hs ++ blk) (cd c) v post ∧ blk.length ≤ 3 ∧ (hs.length : Int) ≤ (if c.1 = 3 then c.2 else c.2 + 1) ∧ (if c.1 = 3 then c.2 else c.2 + 1) + k ≤ (hs ++ blk).length ∧ (if f = 0 then c.1 = 3 else c = (2, (hs.length : Int)) ∧ blk[0]? = some (6, f))
theorem block_spec (S H T : Addr) (o : Obj) (hs : List (Int × Int)) (rest R : List (Addr × Obj)) (hr : ∀ p ∈ rest, p.1 ≠ H) (hS : StoreIs rest S H T) (hc : CellsAt R o hs) (hl : hs.length ≤ 500) (tk0 : Tok) (f : Int) (k : Nat) (hf : (f = 12 ∧ k = 1) ∨ ((f = 0 ∨ f = 13) ∧ k = 2)) :
   Spec w 321 [.ref S, .int f tk0] ((H, o) :: rest) 8 250 (BlockPost H rest R hs f k) := by
  rcases hf with ⟨rfl, rfl⟩ | ⟨rfl | rfl, rfl⟩
  · refine (block_s_spec S H T o hs rest R hr hS hc hl tk0).mono (Nat.le_refl _) (Nat.le_refl _) fun v post h => ?_
    rw [List.append_assoc] at h
    exact ⟨_, _, h, by simp, by simp; omega, by simp; omega, by simp⟩
  · refine (block_list_spec S H T o hs rest R hr hS hc hl tk0).mono (Nat.le_refl _) (Nat.le_refl _) fun v post h => ?_
    rw [List.append_assoc] at h
    exact ⟨_, _, h, by simp, by simp, by simp, by simp⟩
  · refine (block_m_spec S H T o hs rest R hr hS hc hl tk0).mono (Nat.le_refl _) (Nat.le_refl _) fun v post h => ?_
    rw [List.append_assoc, List.append_assoc] at h
    exact ⟨_, _, h, by simp, by simp; omega, by simp; omega, by simp⟩
noncomputable def TopOk (hs : List (Int × Int)) : Tm → Int × Int → Prop
  | .lf (.v n), c => c = (0, n)
  | .lf (.a k), c => c = (4, k)
  | .lf (.i k), c => c = (5, k)
  | .s f _, c => if f = 0 then c.1 = 3 else c.1 = 2 ∧ ∃ j : Nat, c.2 = j ∧ hs[j]? = some (6, f)
theorem ext_of {α : Type} {hs hs' : List α} (h : ∀ j, j < hs.length → hs'[j]? = hs[j]?) (hl : hs.length ≤ hs'.length) : ∃ ext, hs' = hs ++ ext := by
  refine ⟨hs'.drop hs.length, ?_⟩
  have e : hs'.take hs.length = hs := by
    apply List.ext_getElem?
    intro j
    by_cases hj : j < hs.length
    · rw [List.getElem?_take_of_lt hj]; exact h j hj
    · rw [List.getElem?_eq_none (by simp; omega), List.getElem?_eq_none (by omega)]
  conv => lhs; rw [← List.take_append_drop hs.length hs', e]
/-- what put_term leaves -/
noncomputable def PutPost (T : Nat → List (Addr × Obj) → Obj → Prop) (H K : Addr) (o ok : Obj) (R Z : List (Addr × Obj)) (hs : List (Int × Int)) (t : Tm) (i : Nat) (v : Value) (post : List (Addr × Obj)) : Prop :=
  ∃ o' ok' new ext c, post = (H, o') :: (K, ok') :: (new ++ Z) ∧ (∀ p ∈ new, ∀ q ∈ (H, o) :: (K, ok) :: Z, @LT.lt Nat _ q.1 p.1) ∧ CellsAt (new ++ R) o' (hs ++ ext) ∧ ext.length ≤ 3 ∧ T (i + 2) (new ++ R) ok' ∧ DatIn (new ++ R) v (cd c) ∧ TopOk (hs ++ ext) t c
theorem Tab.noTup {T : Nat → List (Addr × Obj) → Obj → Prop} (hT : Tab w T) {i : Nat} {R : List (Addr × Obj)} {ok : Obj} (h : T i R ok) (l : List Value) (n : Nat) : ok ≠ tupAt l n := by
  intro e
  obtain ⟨kvs, hd, _⟩ := hT.get i R ok 0 h (by decide) (by decide)
  obtain ⟨es, ep, hx, _⟩ := hd
  rw [e] at hx
  exact absurd (Value.type.inj hx.1) (by decide)
theorem drop_cell {X Y : List (Addr × Obj)} {K : Addr} {ok : Obj} (hk : ∀ l n, ok ≠ tupAt l n) {v : Value} {c : Int × Int} (h : DatIn (X ++ (K, ok) :: Y) v (cd c)) : DatIn (X ++ Y) v (cd c) := by
  obtain ⟨a, n, t, u, rfl, hm⟩ := dat_ii h
  refine cell_in (x := c.1) (y := c.2) (t := t) (u := u) (n := n) ?_
  rcases List.mem_append.mp hm with hm | hm
  · exact List.mem_append.mpr (.inl hm)
  · rcases List.mem_cons.mp hm with e | hm
    · exact absurd (Prod.mk.inj e).2.symm (hk _ _)
    · exact List.mem_append.mpr (.inr hm)
theorem drop_cells {X Y : List (Addr × Obj)} {K : Addr} {ok : Obj} (hk : ∀ l n, ok ≠ tupAt l n) : ∀ {vs : List Value} {cs : List (Int × Int)}, DatAll (X ++ (K, ok) :: Y) vs (cs.map cd) → DatAll (X ++ Y) vs (cs.map cd)
  | _, [], .nil => .nil
  | _, _ :: _, .cons h r => .cons (drop_cell hk h) (drop_cells hk r)
theorem CellsAt.drop {X Y : List (Addr × Obj)} {K : Addr} {ok o : Obj} {hs : List (Int × Int)} (hk : ∀ l n, ok ≠ tupAt l n) (h : CellsAt (X ++ (K, ok) :: Y) o hs) : CellsAt (X ++ Y) o hs := by
  obtain ⟨vs, n, e, d, l⟩ := h.out
  exact ⟨vs, n, e, drop_cells hk d, l⟩
local macro_rules | `(tactic| walk_at "compareOp NotIn int ref") => `(tactic| (k_here; k_dflt (
  (refine' kdg_notin (knd := intKind _ _) ?N ?m ?d ?lo (intKind_is _ _ _ _) true ?b ?_; (case d => assumption); (case N => k_asm); (case m => k_mem); (case lo => assumption); (case b => assumption)))))
local macro_rules | `(tactic| walk_at "subscriptTail") => `(tactic| (k_here; (with_reducible show wpAny _ _ (subscriptTail _ _ (Value.ref _) (Value.int _ _)) _ _ _); k_dflt (refine' kda_item (knd := intKind _ _) ?N ?m ?d (intKind_is _ _ _ _) ?l ?_; (case d => assumption); (case N => k_asm); (case m => k_mem); (case l => assumption))))
local macro_rules | `(tactic| walk_at "execs cons") => `(tactic| (k_here; (with_reducible show wpAny _ _ (execs (Stmt.Assign [Expr.Name (Str.ofString "waiting") _] _ _ :: _) _) _ _ _); refine stop9 ?_))
local macro_rules | `(tactic| walk_at "call ref") => `(tactic| (k_here; (with_reducible show wpAny _ _ (call (Value.ref 321) _) _ _ _); k_dflt (refine' Spec.use (block_spec _ _ _ _ _ _ _ ?hr ?hS ?hc ?hl _ _ _ ?hk) ?kB ?kF ?kX ?kN ?kT ?kA ?kf ?kk ?kh ?kd ?ku ?_; ktn_step; (case hr => assumption); (case hS => assumption); (case hc => assumption); (case hl => assumption); (case hk => assumption); intro v9 post9 h9 tk9 F9 N9 hp9; obtain ⟨c9, blk9, ⟨o9, new9, e9, fr9, hc9, hd9⟩, hb9, hp9, hq9, ht9⟩ := hp9; subst e9; (try dsimp only); (try k_fold))))
theorem turn_sub {H K : Addr} {o ok : Obj} {R : List (Addr × Obj)} (new : List (Addr × Obj)) : ∀ p ∈ (H, o) :: (K, ok) :: (new ++ R), p ∈ new ++ (H, o) :: (K, ok) :: R := by
  intro p hp
  simp only [List.mem_cons, List.mem_append] at hp ⊢
  rcases hp with hp | hp | hp | hp <;> simp [hp]
theorem put_rest {T : Nat → List (Addr × Obj) → Obj → Prop} (hT : Tab w T) {p : Program} {loose : List Str} {mean : ExcName → Option Value} {mg mb : Str → Option Value} {A : Around} {env : Env} {outer : List Env} {base g h : Heap} {L : Addr} {s : Shared} {tk : Nat} {m : Str → Option Value} {Q : Flow → Shared → Prop}
   (B : Below A base (env :: outer) g) (X : (hk.heap_1 w.params).In g) (T9 : Top p loose mean mg mb g) (hA : A.frames = some (env :: outer)) (hh : A.handled = none) (hd : A.depth + 20 < 1000) (hu : A.units + 500 < 9900)
   (S H K : Addr) (o ok : Obj) (hs : List (Int × Int)) (R Z : List (Addr × Obj)) (hZ : ∀ p ∈ R, p ∈ Z) (hHK : @Ne Nat K H) (hRH : ∀ p ∈ Z, p.1 ≠ H) (hRK : ∀ p ∈ Z, p.1 ≠ K) (hKs : (K == sysModules) = false)
   (st : Addr) (hS : StoreIs Z S H st) (hc : CellsAt R o hs) (hl : hs.length ≤ 500) (i : Nat) (ht : T i R ok) (tv : Value) (t : Tm) (htv : DatIn R tv t.d) (hto : t.ok)
   (hvv : ∀ n, t = .lf (.v n) → ∃ kvs v, ok.IsDictOf (intKind prg w) kvs ∧ valueAt kvs n = some v ∧ DatIn R v (cd (0, n)))
   (F : Fr g L h m) (hm1 : m (Str.ofString "self") = some (.ref S)) (hm2 : m (Str.ofString "table") = some (.ref K)) (hm3 : m (Str.ofString "term") = some tv)
   (N : News g L h ((H, o) :: (K, ok) :: Z))
   (hQ : ∀ h' tk' m' v post, Fr g L h' m' → News g L h' post → PutPost T H K o ok R Z hs t i v post → Q (.ret v) { s with heap := h', toks := tk' }) :
   wpAny (model prg w) (A.deeper (putEnv L)) (execs (putDef.1.drop 1) (putEnv L)) Q (fun _ _ => False) { s with heap := h, toks := tk } := by
  unfold putEnv prg
  conv in (execs _ _) => arg 1; whnf
  conv in (occs := *) putDef.2 => all_goals whnf
  revert X
  k_fill
  intro X
  have hm : ∀ q ∈ [(Str.ofString "self", Value.ref S), (Str.ofString "table", .ref K), (Str.ofString "term", tv)], m q.1 = some q.2 := by
    intro q hq
    simp only [List.mem_cons, List.not_mem_nil, or_false] at hq
    rcases hq with rfl | rfl | rfl
    · exact hm1
    · exact hm2
    · exact hm3
  have F' := fr_stdL F _ hm
  clear F
  obtain ⟨vs, n1, rfl, dH, lH⟩ := hc.out
  have hvl := cells_len dH
  refine StoreIs.elim hS ?_
  intro SD SY TR h1' h2 h3 h4 h5 h6 h7 t1 t2 t3 t4 t5 t6 t7 u1 u2 u3 n hm4 hm5 _
  have put_same : ∀ {v c t D x} (_ : AllLt D ((H, listOf vs.toArray n1) :: (K, ok) :: Z)) (_ : DatIn ([(D, x)] ++ R) v (cd c)) (_ : TopOk hs t c), PutPost T H K (listOf vs.toArray n1) ok R Z hs t i v ((H, listOf vs.toArray n1) :: (K, ok) :: ([(D, x)] ++ Z)) := fun {v c t D x} l d e =>
    ⟨_, _, _, [], c, rfl, fun p hp q hq => by rw [List.mem_singleton.mp hp]; exact ktn_ltOf l q hq, by rw [List.append_nil]; exact hc.mono sub_right, by simp, hT.mono _ _ _ _ _ ht (by omega) sub_right, d, by rw [List.append_nil]; exact e⟩
  cases t with
  | lf l =>
    cases l with
    | a k =>
      obtain ⟨a, n', t', u', rfl, hmt⟩ := dat_ci htv
      have hmz := hZ _ hmt
      (repeat' (first | (k_unfold; (try dsimp only)) | (k_here; (with_reducible show wpAny _ _ (setItem (Value.ref _) (Value.int _ _) _) _ _ _); k_dflt (refine' set_led ?Fz9 ?Nz9 ?Uz9 ?az9 ?bz9 ?zz9 ?_; (case Fz9 => k_asm); (case Nz9 => k_asm); (case Uz9 => k_upd); (case az9 => ksa_idx); (case bz9 => ksa_idx); (case zz9 => ksa_idx); k_whole); intro _ _ _; (try k_sweep)) | (k_here; (with_reducible show wpAny _ _ (call (Value.builtin "list.append") [Value.ref _, _]) _ _ _); k_dflt (refine' append_led ?Fz9 ?Nz9 ?Uz9 ?zz9 ?_; (case Fz9 => k_asm); (case Nz9 => k_asm); (case Uz9 => k_upd); (case zz9 => ksa_idx); k_whole); intro _ _ _; (try k_sweep)) | (k_here; (with_reducible show wpAny _ _ (call (Value.builtin "len") [Value.ref _]) _ _ _); k_dflt (refine' len_led ?Nz9 ?mz9 ?zz9 ?_; (case Nz9 => k_asm); (case mz9 => k_mem); (case zz9 => ksa_idx); k_whole); intro _ _) | (k_here; (with_reducible show wpAny _ _ (subscriptTail _ _ (Value.ref _) (Value.int _ _)) _ _ _); k_dflt (refine' item_led ?Nz9 ?mz9 ?az9 ?bz9 ?xz9 ?_; (case Nz9 => k_asm); (case mz9 => k_mem); (case az9 => omega); (case bz9 => omega); (case xz9 => assumption))) | (k_end; kc_close) | (k_end; wrow_close) | walk1 | (dsimp only; walk1) | (leave1; (try dsimp only)) | fail "no step"))
      (rename Fr _ _ _ _ => kF); (rename News _ _ _ _ => kN)
      exact hQ _ _ _ _ _ kF (News.sub kN (turn_sub [_])) (put_same ⟨by assumption, by assumption, by assumption⟩ (cell_in (.head _)) rfl)
    | i k =>
      obtain ⟨a, n', t', u', rfl, hmt⟩ := dat_ci htv
      have hmz := hZ _ hmt
      (repeat' (first | (k_unfold; (try dsimp only)) | (k_here; (with_reducible show wpAny _ _ (setItem (Value.ref _) (Value.int _ _) _) _ _ _); k_dflt (refine' set_led ?Fz9 ?Nz9 ?Uz9 ?az9 ?bz9 ?zz9 ?_; (case Fz9 => k_asm); (case Nz9 => k_asm); (case Uz9 => k_upd); (case az9 => ksa_idx); (case bz9 => ksa_idx); (case zz9 => ksa_idx); k_whole); intro _ _ _; (try k_sweep)) | (k_here; (with_reducible show wpAny _ _ (call (Value.builtin "list.append") [Value.ref _, _]) _ _ _); k_dflt (refine' append_led ?Fz9 ?Nz9 ?Uz9 ?zz9 ?_; (case Fz9 => k_asm); (case Nz9 => k_asm); (case Uz9 => k_upd); (case zz9 => ksa_idx); k_whole); intro _ _ _; (try k_sweep)) | (k_here; (with_reducible show wpAny _ _ (call (Value.builtin "len") [Value.ref _]) _ _ _); k_dflt (refine' len_led ?Nz9 ?mz9 ?zz9 ?_; (case Nz9 => k_asm); (case mz9 => k_mem); (case zz9 => ksa_idx); k_whole); intro _ _) | (k_here; (with_reducible show wpAny _ _ (subscriptTail _ _ (Value.ref _) (Value.int _ _)) _ _ _); k_dflt (refine' item_led ?Nz9 ?mz9 ?az9 ?bz9 ?xz9 ?_; (case Nz9 => k_asm); (case mz9 => k_mem); (case az9 => omega); (case bz9 => omega); (case xz9 => assumption))) | (k_end; kc_close) | (k_end; wrow_close) | walk1 | (dsimp only; walk1) | (leave1; (try dsimp only)) | fail "no step"))
      (rename Fr _ _ _ _ => kF); (rename News _ _ _ _ => kN)
      exact hQ _ _ _ _ _ kF (News.sub kN (turn_sub [_])) (put_same ⟨by assumption, by assumption, by assumption⟩ (cell_in (.head _)) rfl)
    | v k =>
      obtain ⟨a, n', t', u', rfl, hmt⟩ := dat_ci htv
      have hmz := hZ _ hmt
      obtain ⟨kvs, v, hd1, hd2, hd3⟩ := hvv _ rfl
      have hd4 : (valueAt kvs k).isSome = true := by rw [hd2]; rfl
      (repeat' (first | (k_unfold; (try dsimp only)) | (k_here; (with_reducible show wpAny _ _ (setItem (Value.ref _) (Value.int _ _) _) _ _ _); k_dflt (refine' set_led ?Fz9 ?Nz9 ?Uz9 ?az9 ?bz9 ?zz9 ?_; (case Fz9 => k_asm); (case Nz9 => k_asm); (case Uz9 => k_upd); (case az9 => ksa_idx); (case bz9 => ksa_idx); (case zz9 => ksa_idx); k_whole); intro _ _ _; (try k_sweep)) | (k_here; (with_reducible show wpAny _ _ (call (Value.builtin "list.append") [Value.ref _, _]) _ _ _); k_dflt (refine' append_led ?Fz9 ?Nz9 ?Uz9 ?zz9 ?_; (case Fz9 => k_asm); (case Nz9 => k_asm); (case Uz9 => k_upd); (case zz9 => ksa_idx); k_whole); intro _ _ _; (try k_sweep)) | (k_here; (with_reducible show wpAny _ _ (call (Value.builtin "len") [Value.ref _]) _ _ _); k_dflt (refine' len_led ?Nz9 ?mz9 ?zz9 ?_; (case Nz9 => k_asm); (case mz9 => k_mem); (case zz9 => ksa_idx); k_whole); intro _ _) | (k_here; (with_reducible show wpAny _ _ (subscriptTail _ _ (Value.ref _) (Value.int _ _)) _ _ _); k_dflt (refine' item_led ?Nz9 ?mz9 ?az9 ?bz9 ?xz9 ?_; (case Nz9 => k_asm); (case mz9 => k_mem); (case az9 => omega); (case bz9 => omega); (case xz9 => assumption))) | (k_end; kc_close) | (k_end; wrow_close) | walk1 | (dsimp only; walk1) | (leave1; (try dsimp only)) | fail "no step"))
      (rename Fr _ _ _ _ => kF); (rename News _ _ _ _ => kN)
      exact hQ _ _ _ _ _ kF kN ⟨_, _, [], [], (0, k), rfl, (fun _ h => nomatch h), by rw [List.append_nil]; exact hc, by simp, hT.mono _ _ _ _ _ ht (by omega) (fun _ h => h), hd3, rfl⟩
  | s f xs =>
    obtain ⟨a, n', t', u', b, m', ws, rfl, hm6, hm7, hm8⟩ := dat_s htv
    have hm6 := hZ _ hm6
    have hm7 := hZ _ hm7
    have hk := hto.2
    have hr : ∀ p ∈ (K, ok) :: Z, p.1 ≠ H := fun p hp => by
      rcases List.mem_cons.mp hp with rfl | hp
      · exact hHK
      · exact hRH p hp
    have sub : ∀ p ∈ Z, p ∈ (K, ok) :: Z := fun p hp => .tail _ hp
    have hS2 := hS.mono sub
    (repeat' (first | (k_unfold; (try dsimp only)) | (k_here; (with_reducible show wpAny _ _ (setItem (Value.ref _) (Value.int _ _) _) _ _ _); k_dflt (refine' set_led ?Fz9 ?Nz9 ?Uz9 ?az9 ?bz9 ?zz9 ?_; (case Fz9 => k_asm); (case Nz9 => k_asm); (case Uz9 => k_upd); (case az9 => ksa_idx); (case bz9 => ksa_idx); (case zz9 => ksa_idx); k_whole); intro _ _ _; (try k_sweep)) | (k_here; (with_reducible show wpAny _ _ (call (Value.builtin "list.append") [Value.ref _, _]) _ _ _); k_dflt (refine' append_led ?Fz9 ?Nz9 ?Uz9 ?zz9 ?_; (case Fz9 => k_asm); (case Nz9 => k_asm); (case Uz9 => k_upd); (case zz9 => ksa_idx); k_whole); intro _ _ _; (try k_sweep)) | (k_here; (with_reducible show wpAny _ _ (call (Value.builtin "len") [Value.ref _]) _ _ _); k_dflt (refine' len_led ?Nz9 ?mz9 ?zz9 ?_; (case Nz9 => k_asm); (case mz9 => k_mem); (case zz9 => ksa_idx); k_whole); intro _ _) | (k_here; (with_reducible show wpAny _ _ (subscriptTail _ _ (Value.ref _) (Value.int _ _)) _ _ _); k_dflt (refine' item_led ?Nz9 ?mz9 ?az9 ?bz9 ?xz9 ?_; (case Nz9 => k_asm); (case mz9 => k_mem); (case az9 => omega); (case bz9 => omega); (case xz9 => assumption))) | (k_end; kc_close) | (k_end; wrow_close) | walk1 | (dsimp only; walk1) | (leave1; (try dsimp only)) | fail "no step"))
    unfold Stop9
    (rename Fr _ _ _ _ => kF); (rename News _ _ _ _ => kN)
    rename_i c9 blk9 o9 new9 fr9 hc9 hd9 hb9 hp9 hq9 ht9 hx9
    have fr3 : ∀ p ∈ new9, ∀ q ∈ (H, listOf vs.toArray n1) :: (K, ok) :: Z, @LT.lt Nat _ q.1 p.1 := fun p hp q hq => by
      rcases List.mem_cons.mp hq with rfl | hq
      · exact (fr9 p hp).1
      · exact (fr9 p hp).2 q hq
    have sub2 : ∀ p ∈ R, p ∈ new9 ++ R := sub_right
    have sub3 : ∀ p ∈ Z, p ∈ new9 ++ Z := sub_right
    refine put_tail hT B X T9 hA hh (by omega) (by omega) S H K o9 ok _ (new9 ++ R) (new9 ++ Z) (sub_app hZ) hHK ?_ ?_ hKs st (hS.mono sub3) hc9 i (hT.mono _ _ _ _ _ ht (Nat.le_refl _) sub2) _ _ _ hd9 f xs (htv.mono sub2) hto.1 _ rfl (by omega) hq9 kF rfl rfl rfl rfl ?_ ?_
    · intro p hp
      rcases List.mem_append.mp hp with hp | hp
      · exact Nat.ne_of_gt (fr3 p hp _ (.head _))
      · exact hRH p hp
    · intro p hp
      rcases List.mem_append.mp hp with hp | hp
      · exact Nat.ne_of_gt (fr3 p hp _ (.tail _ (.head _)))
      · exact hRK p hp
    · refine News.sub kN ?_
      intro p hp
      simp only [List.mem_cons, List.mem_append] at hp ⊢
      rcases hp with hp | hp | hp | hp <;> simp [hp]
    intro h' tk' m9 o' ok' new hs' F2 N2 fr2 c2 l2 p2 T2
    rw [← List.append_assoc] at N2 c2 T2
    obtain ⟨ext, rfl⟩ := ext_of (hs := hs) (hs' := hs') (fun j hj => by rw [p2 j (by omega), List.getElem?_append_left hj]) (by rw [l2, List.length_append]; omega)
    have hlx : ext.length = blk9.length := by simpa using l2
    refine hQ _ _ _ _ _ F2 N2 ⟨o', ok', _, ext, c9, rfl, fun p hp q hq => ?_, c2, by omega, hT.mono _ _ _ _ _ T2 (by omega) (fun _ h => h), DatIn.mono (fun p hp => by (rw [List.append_assoc]; exact List.mem_append.mpr (.inr hp))) hd9, ?_⟩
    · rcases List.mem_append.mp hp with hp | hp
      · rcases List.mem_cons.mp hq with rfl | hq
        · exact fr2 p hp (H, o9) (.head _)
        · rcases List.mem_cons.mp hq with rfl | hq
          · exact fr2 p hp _ (.tail _ (.head _))
          · exact fr2 p hp q (.tail _ (.tail _ (List.mem_append.mpr (.inr hq))))
      · exact fr3 p hp q hq
    · show if f = 0 then _ else _
      by_cases e : f = 0
      · rw [if_pos e] at ht9 ⊢; exact ht9
      · rw [if_neg e] at ht9 ⊢
        obtain ⟨rfl, ht9⟩ := ht9
        refine ⟨rfl, hs.length, rfl, ?_⟩
        rw [p2 _ (by simp; omega), List.getElem?_append_right (Nat.le_refl _), Nat.sub_self]
        exact ht9
end
section
theorem walk_off_P11 : True := by
  w_top off
  trivial
theorem list_dict {A : Around} {E : Value → Shared → Prop} {s : Shared} {h₀ : Heap} {L d : Addr} {m : Str → Option Value} {news : List (Addr × Obj)} {ok : Obj} {kvs : List (Int × Value)} {Q : Value → Shared → Prop} (hh : A.handled = none) (F : Fr h₀ L s.heap m) (N : News h₀ L s.heap news) (hm : (d, ok) ∈ news) (hd : ok.IsDictOf (intKind prg w) kvs) (lo : (d == sysModules) = false) (hn : kvs.length ≤ sizeLine)
    (h : ∀ (D : Addr) c h' tk (vs : List Value), Fr h₀ L h' m → News h₀ L h' ((D, listOf vs.toArray c) :: news) → (∀ q ∈ news, q.1 < D) → (∀ v ∈ vs, ∃ k x t, (k, x) ∈ kvs ∧ v = .int k t) → Q (.ref D) { s with heap := h', toks := tk }) :
    wpAny (model prg w) A (call (.type "list") [.ref d]) Q E s := by
  obtain ⟨es, ep, r1, r2, r3⟩ := hd
  have hok : s.heap.DictAt (intKind prg w) d kvs ep := ⟨ok, es, (N _ hm).1, r1, r2, r3⟩
  refine kdl_N (kdl_dict (knd := intKind prg w) lo) hh F N hok hn fun D c h' tk vs F' N' l _ hv => h D c h' tk vs F' N' l fun v hmem => ?_
  obtain ⟨j, hj⟩ := List.mem_iff_getElem?.mp hmem
  obtain ⟨k, x, hk, hi⟩ := hv j v hj
  obtain ⟨t, rfl⟩ := Value.isInt_shape hi
  exact ⟨k, x, t, List.mem_of_getElem? hk, rfl⟩
theorem items_pure {prog : Program} {w : World} {A : Around} {E : Value → Shared → Prop} {h₀ : Heap} {env : Env} {target : PySem.Expr} {body : List Stmt} {Q : Flow → Shared → Prop} {s : Shared} {I : Addr} {ty : String} {kp : Addr × Obj} {news : List (Addr × Obj)} (hkp : kp ∈ news) (hI : ∀ p ∈ news, p.1 ≠ I) (J : (Str → Option Value) → Prop)
    (done : ∀ h tk m, J m → Fr h₀ env.locals h m → News h₀ env.locals h news → Q .next { s with heap := h, toks := tk }) :
    ∀ (xs : List Value), (∀ v ∈ xs, ∀ m h tk io, J m → Fr h₀ env.locals h m → News h₀ env.locals h ((I, io) :: news) →
      wpAny (model prog w) A (assign target env v) (fun _ s₂ => wpAny (model prog w) A (execs body env) (fun f s' => Stop9 (f = .next ∧ ∃ h' tk' m', s' = { s with heap := h', toks := tk' } ∧ Fr h₀ env.locals h' m' ∧ News h₀ env.locals h' ((I, io) :: news) ∧ J m')) E s₂) E { s with heap := h, toks := tk }) →
    ∀ m, J m → ItemsRest prog w A E h₀ env target body Q s [(I, ty)] [kp] (xs.map .val) m news
  | [], _, m, hJ => ItemsRest.zero fun h tk F N => done h tk m hJ F N
  | v :: xs, step, m, hJ => by
    refine ItemsRest.val fun h tk F => ?_
    intro io hio N
    refine wpAny_mono (step v (.head _) m h tk io hJ F N) (fun _ s₂ h₂ => wpAny_mono h₂ (fun f s₃ h₃ => ?_) fun _ _ x => x) fun _ _ x => x
    obtain ⟨rfl, h', tk', m', rfl, F', N', hJ'⟩ := h₃
    exact ⟨h', tk', m', news, rfl, F', N', fun p hp q hq => by rw [List.mem_singleton.mp hq]; exact hI p hp, ⟨hkp, trivial⟩, items_pure hkp hI J done xs (fun v hv => step v (.tail _ hv)) m' hJ'⟩
local macro_rules | `(tactic| walk_at "exec For Name Call cons nil") => `(tactic| (k_here; (with_reducible show wpAny _ _ (exec (Stmt.For _ _ _ _ _) _) _ _ _); (rename Fr _ _ _ _ => lF'); (with_unfolding_all refine' For_turns lF' ?_); k_whole))
local macro_rules | `(tactic| walk_at "pyIter ref") => `(tactic| (k_here; (with_reducible show wpAny _ _ (pyIter (Value.ref _)) (fun it s₂ => TurnsAt _ _ _ _ _ _ _ _ _ it s₂) _ _); k_dflt (refine' iter_listTurns ?hh ?F ?N ?m ?c ?d ?_; (case F => k_asm); (case N => k_asm); (case m => k_mem); (case c => exact rfl); (case d => exact rfl); (case hh => first | assumption | exact ‹_ = none›)); intro i' l1; (try k_lt l1); refine stop9 ?_))
local macro_rules | `(tactic| walk_at "call type:list") => `(tactic| (k_here; (with_reducible show wpAny _ _ (call (Value.type _) [Value.ref _]) _ _ _); k_dflt (refine' list_dict ?hh ?F ?N ?m ?d ?lo ?n ?_; (case d => assumption); (case F => k_asm); (case N => k_asm); (case m => k_mem); (case lo => assumption); (case n => assumption); (case hh => first | assumption | exact ‹_ = none›)); intro D' c' h' tk' vs9 F' N' l1 hv9; (try k_lt l1); (try k_sweep)))
local macro_rules | `(tactic| walk_at "subscriptTail") => `(tactic| (k_here; (with_reducible show wpAny _ _ (subscriptTail _ _ (Value.ref _) (Value.int _ _)) _ _ _); k_dflt (refine' kda_item (knd := intKind _ _) ?N ?m ?d (intKind_is _ _ _ _) ?l ?_; (case d => assumption); (case N => k_asm); (case m => k_mem); (case l => assumption))))
local macro_rules | `(tactic| walk_at "zz1") => `(tactic| skip)
theorem put_spec {T : Nat → List (Addr × Obj) → Obj → Prop} (hT : Tab w T) (S H K : Addr) (o ok : Obj) (hs : List (Int × Int)) (R Z : List (Addr × Obj)) (hZ : ∀ p ∈ R, p ∈ Z) (hHK : @Ne Nat K H) (hRH : ∀ p ∈ Z, p.1 ≠ H) (hRK : ∀ p ∈ Z, p.1 ≠ K) (hKs : (K == sysModules) = false)
   (st : Addr) (hS : StoreIs Z S H st) (hc : CellsAt R o hs) (hl : hs.length ≤ 500) (i : Nat) (ht : T i R ok) (tv : Value) (t : Tm) (htv : DatIn R tv t.d) (hto : t.ok)
   (kvs : List (Int × Value)) (hdk : ok.IsDictOf (intKind prg w) kvs) (hkl : kvs.length ≤ sizeLine) (hkv : ∀ k x, (k, x) ∈ kvs → valueAt kvs k = some x ∧ ∃ j : Int, DatIn R x (cd (0, j)))
   (hvv : ∀ n, t = .lf (.v n) → ∃ kvs v, ok.IsDictOf (intKind prg w) kvs ∧ valueAt kvs n = some v ∧ DatIn R v (cd (0, n))) :
   Spec w 364 [.ref S, tv, .ref K] ((H, o) :: (K, ok) :: Z) 40 700 (PutPost T H K o ok R Z hs t i) := by
  refine wr_mp ?_
  simp (disch := (k_dflt (
      unfold Spec
      k_fill
      intro p loose mean mg mb A A₀ env outer base h₀ L m s R9 B F X N T9 hA hf hke hh hd hu hret
      ( refine' code_def ?k1z9 ?k2z9 ?k3z9 ?k4z9 ?k5z9 ?kAz9 ?kFz9 ?kKz9 ?k6z9 ?k7z9 ?k8z9 ?k9z9 ?kBz9 ?_ ?c2z9 ?c3z9 ?c4z9 ?c5z9; (case kAz9 => assumption); (case kFz9 => assumption); (case kKz9 => assumption); (case k1z9 => k_asm); (case k2z9 => k_asm); (case k3z9 => k_asm); (case k4z9 => k_asm); (case k5z9 => k_asm); (case k6z9 => k_is); (case k7z9 => k_is); (case k8z9 => k_room); (case k9z9 => exact BindsTo.of_eq rfl); (case c5z9 => decide); (case kBz9 => exact locs rfl); (case c2z9 => exact rfl); (case c3z9 => exact rfl); (case c4z9 => exact rfl); k_whole; intro _ _ _ _ _ _ _ _ _; (with_reducible refine wp_never ?_); (try dsimp only); (try k_fold))
      (repeat' (first | (k_unfold; (try dsimp only)) | (k_here; (with_reducible show wpAny _ _ (setItem (Value.ref _) (Value.int _ _) _) _ _ _); k_dflt (refine' set_led ?Fz9 ?Nz9 ?Uz9 ?az9 ?bz9 ?zz9 ?_; (case Fz9 => k_asm); (case Nz9 => k_asm); (case Uz9 => k_upd); (case az9 => ksa_idx); (case bz9 => ksa_idx); (case zz9 => ksa_idx); k_whole); intro _ _ _; (try k_sweep)) | (k_here; (with_reducible show wpAny _ _ (call (Value.builtin "list.append") [Value.ref _, _]) _ _ _); k_dflt (refine' append_led ?Fz9 ?Nz9 ?Uz9 ?zz9 ?_; (case Fz9 => k_asm); (case Nz9 => k_asm); (case Uz9 => k_upd); (case zz9 => ksa_idx); k_whole); intro _ _ _; (try k_sweep)) | (k_here; (with_reducible show wpAny _ _ (call (Value.builtin "len") [Value.ref _]) _ _ _); k_dflt (refine' len_led ?Nz9 ?mz9 ?zz9 ?_; (case Nz9 => k_asm); (case mz9 => k_mem); (case zz9 => ksa_idx); k_whole); intro _ _) | (k_here; (with_reducible show wpAny _ _ (subscriptTail _ _ (Value.ref _) (Value.int _ _)) _ _ _); k_dflt (refine' item_led ?Nz9 ?mz9 ?az9 ?bz9 ?xz9 ?_; (case Nz9 => k_asm); (case mz9 => k_mem); (case az9 => omega); (case bz9 => omega); (case xz9 => assumption))) | (k_end; kc_close) | (k_end; wrow_close) | walk1 | (dsimp only; walk1) | (leave1; (try dsimp only)) | fail "no step"))
      unfold Stop9
      rename_i g9 L9 h9' FG9 B9 X9 T99 D c9 h10 tk10 vs9 F9 N9 hv9 a1 a2 a3 I b1 b2 b3 b4
      have hlt : AllLt I ((D, listOf vs9.toArray c9) :: (H, o) :: (K, ok) :: Z) := ⟨b1, b2, b3, b4⟩
      refine items_pure (.head _) (fun p hp => Nat.ne_of_lt (ktn_ltOf hlt p hp)) (fun m' => m' (Str.ofString "self") = some (.ref S) ∧ m' (Str.ofString "table") = some (.ref K) ∧ m' (Str.ofString "term") = some tv) ?_ vs9 ?_ _ ⟨rfl, rfl, rfl⟩
      · rintro h' tk' m' ⟨j1, j2, j3⟩ F' N'
        clear F9 N9
        refine put_rest hT (h := h') (L := L9) (tk := tk') B9 X9 T99 hA hh (by omega) (by omega) S H K o ok hs R Z hZ hHK hRH hRK hKs st hS hc hl i ht tv t htv hto hvv F' j1 j2 j3 (News.sub N' fun p hp => .tail _ hp) ?_
        intro h2 tk2 m2 v post F2 N2 P2
        clear F' N'
        (repeat' (first | (k_unfold; (try dsimp only)) | (k_here; (with_reducible show wpAny _ _ (setItem (Value.ref _) (Value.int _ _) _) _ _ _); k_dflt (refine' set_led ?Fz9 ?Nz9 ?Uz9 ?az9 ?bz9 ?zz9 ?_; (case Fz9 => k_asm); (case Nz9 => k_asm); (case Uz9 => k_upd); (case az9 => ksa_idx); (case bz9 => ksa_idx); (case zz9 => ksa_idx); k_whole); intro _ _ _; (try k_sweep)) | (k_here; (with_reducible show wpAny _ _ (call (Value.builtin "list.append") [Value.ref _, _]) _ _ _); k_dflt (refine' append_led ?Fz9 ?Nz9 ?Uz9 ?zz9 ?_; (case Fz9 => k_asm); (case Nz9 => k_asm); (case Uz9 => k_upd); (case zz9 => ksa_idx); k_whole); intro _ _ _; (try k_sweep)) | (k_here; (with_reducible show wpAny _ _ (call (Value.builtin "len") [Value.ref _]) _ _ _); k_dflt (refine' len_led ?Nz9 ?mz9 ?zz9 ?_; (case Nz9 => k_asm); (case mz9 => k_mem); (case zz9 => ksa_idx); k_whole); intro _ _) | (k_here; (with_reducible show wpAny _ _ (subscriptTail _ _ (Value.ref _) (Value.int _ _)) _ _ _); k_dflt (refine' item_led ?Nz9 ?mz9 ?az9 ?bz9 ?xz9 ?_; (case Nz9 => k_asm); (case mz9 => k_mem); (case az9 => omega); (case bz9 => omega); (case xz9 => assumption))) | (k_end; kc_close) | (k_end; wrow_close) | walk1 | (dsimp only; walk1) | (leave1; (try dsimp only)) | fail "no step"))
        (rename Fr _ _ _ _ => kF); (rename News _ _ _ _ => kN)
        exact hret _ _ _ _ kF kN P2
      · rintro v hv m' h' tk' io ⟨j1, j2, j3⟩ F' N'
        clear F9 N9
        obtain ⟨k, x, t, hk, rfl⟩ := hv9 v hv
        obtain ⟨hx, j, hj⟩ := hkv k x hk
        obtain ⟨a, n', t', u', rfl, hm⟩ := dat_xy hj
        have hm := hZ _ hm
        have hm9 : ∀ q ∈ [(Str.ofString "self", Value.ref S), (Str.ofString "table", .ref K), (Str.ofString "term", tv)], m' q.1 = some q.2 := by
          intro q hq
          simp only [List.mem_cons, List.not_mem_nil, or_false] at hq
          rcases hq with rfl | rfl | rfl
          · exact j1
          · exact j2
          · exact j3
        have F2 := fr_stdL F' _ hm9
        clear F'
        (repeat' (first | (k_unfold; (try dsimp only)) | (k_here; (with_reducible show wpAny _ _ (setItem (Value.ref _) (Value.int _ _) _) _ _ _); k_dflt (refine' set_led ?Fz9 ?Nz9 ?Uz9 ?az9 ?bz9 ?zz9 ?_; (case Fz9 => k_asm); (case Nz9 => k_asm); (case Uz9 => k_upd); (case az9 => ksa_idx); (case bz9 => ksa_idx); (case zz9 => ksa_idx); k_whole); intro _ _ _; (try k_sweep)) | (k_here; (with_reducible show wpAny _ _ (call (Value.builtin "list.append") [Value.ref _, _]) _ _ _); k_dflt (refine' append_led ?Fz9 ?Nz9 ?Uz9 ?zz9 ?_; (case Fz9 => k_asm); (case Nz9 => k_asm); (case Uz9 => k_upd); (case zz9 => ksa_idx); k_whole); intro _ _ _; (try k_sweep)) | (k_here; (with_reducible show wpAny _ _ (call (Value.builtin "len") [Value.ref _]) _ _ _); k_dflt (refine' len_led ?Nz9 ?mz9 ?zz9 ?_; (case Nz9 => k_asm); (case mz9 => k_mem); (case zz9 => ksa_idx); k_whole); intro _ _) | (k_here; (with_reducible show wpAny _ _ (subscriptTail _ _ (Value.ref _) (Value.int _ _)) _ _ _); k_dflt (refine' item_led ?Nz9 ?mz9 ?az9 ?bz9 ?xz9 ?_; (case Nz9 => k_asm); (case mz9 => k_mem); (case az9 => omega); (case bz9 => omega); (case xz9 => assumption))) | (k_end; kc_close) | (k_end; wrow_close) | walk1 | (dsimp only; walk1) | (leave1; (try dsimp only)) | fail "no step"))
        unfold Stop9
        (rename Fr _ _ _ _ => kF); (rename News _ _ _ _ => kN)
        exact ⟨rfl, _, _, _, rfl, kF, kN, rfl, rfl, rfl⟩))) only [↓wr_true]
/-- the table of the three variables -/
noncomputable def Known (w : World) (R : List (Addr × Obj)) (K : Addr) : Prop := ∃ ok v0 v1 v2, (K, ok) ∈ R ∧ (K == sysModules) = false ∧ ok.IsDictOf (intKind prg w) [((0 : Int), v0), (1, v1), (2, v2)] ∧ DatIn R v0 (cd (0, 0)) ∧ DatIn R v1 (cd (0, 1)) ∧ DatIn R v2 (cd (0, 2))
noncomputable def putA (T : List (Addr × Obj) → Value → Obj → List (Addr × Obj) → Prop) := T
/-- what put_term leaves, the table in what stays -/
noncomputable def PutA (hs : List (Int × Int)) (t : Tm) (rest : List (Addr × Obj)) (v : Value) (o' : Obj) (new : List (Addr × Obj)) : Prop :=
  ∃ ext c, CellsAt (new ++ rest) o' (hs ++ ext) ∧ ext.length ≤ 3 ∧ DatIn (new ++ rest) v (cd c) ∧ TopOk (hs ++ ext) t c
theorem dat_drop {R R' : List (Addr × Obj)} {v : Value} {c : Int × Int} (h : DatIn R v (cd c)) (hm : ∀ a l n, (a, tupAt l n) ∈ R → (a, tupAt l n) ∈ R') : DatIn R' v (cd c) := by
  obtain ⟨a, n, t, u, rfl, h1⟩ := dat_ii h
  exact cell_in (x := c.1) (y := c.2) (t := t) (u := u) (n := n) (hm _ _ _ h1)
theorem CellsAt.drop' {R R' : List (Addr × Obj)} {o : Obj} {hs : List (Int × Int)} (h : CellsAt R o hs) (hm : ∀ a l n, (a, tupAt l n) ∈ R → (a, tupAt l n) ∈ R') : CellsAt R' o hs := by
  obtain ⟨vs, n, e, d, l⟩ := h.out
  refine ⟨vs, n, e, ?_, l⟩
  clear e l h
  induction hs generalizing vs with
  | nil => cases d; exact .nil
  | cons c cs ih => cases d with
    | cons h r => exact .cons (dat_drop h hm) (ih _ r)
end
section
theorem walk_off_P12 : True := by
  w_top off
  trivial
theorem Spec.updR {w : World} {f : Addr} {args : List Value} {d : Addr} {o : Obj} {dd uu : Nat} {P : List (Addr × Obj) → Value → Obj → List (Addr × Obj) → Prop}
    {news : List (Addr × Obj)} {g : Obj → List (Addr × Obj)}
    (S : ∀ rest, (∀ p ∈ rest, p.1 ≠ d) → (∀ p ∈ news, p.1 ≠ d → p ∈ rest) → (∀ p ∈ rest, p ∈ news) → Spec w f args ((d, o) :: rest) dd uu fun v post => ∃ o' new, post = (d, o') :: (new ++ rest) ∧ Fresh d rest new ∧ P rest v o' new)
    (U : ∀ o', Upd d o o' news (g o')) :
    Spec w f args news dd uu fun v post => ∃ o' new rest, post = new ++ g o' ∧ (∀ p ∈ new, ∀ q ∈ news, @LT.lt Nat _ q.1 p.1) ∧ (∀ p ∈ rest, p ∈ g o') ∧ P rest v o' new := by
  intro p loose mean mg mb A A₀ env outer base h₀ L m s R B F X N T hA hf hke hh hd' hu' hret
  have hm := upd_mem (U o)
  have hin : ∀ o', ∀ p ∈ news.filter fun p => p.1 != d, p ∈ g o' := fun o' p hp => by
    obtain ⟨pre, post, e1, e2, _, _⟩ := (U o').split
    obtain ⟨h1, h2⟩ := List.mem_filter.mp hp
    rw [e2]
    rw [e1] at h1
    rcases List.mem_append.mp h1 with h | h
    · exact List.mem_append.mpr (.inl h)
    · rcases List.mem_cons.mp h with rfl | h
      · simp at h2
      · exact List.mem_append.mpr (.inr (.tail _ h))
  refine S (news.filter fun p => p.1 != d) (fun p hp => by simpa using (List.mem_filter.mp hp).2) (fun p hp hn => List.mem_filter.mpr ⟨hp, by simpa using hn⟩) (fun p hp => (List.mem_filter.mp hp).1) p loose mean mg mb A A₀ env outer base h₀ L m s R B F X (fun p hp => ?_) T hA hf hke hh hd' hu' ?_
  · rcases List.mem_cons.mp hp with rfl | hp
    · exact N _ hm
    · exact N _ (List.mem_filter.mp hp).1
  · rintro v post h' tk' F' N' ⟨o', new, rfl, hn, hP⟩
    refine hret v _ h' tk' F' (fun p hp => N' p ?_) ⟨o', new, _, rfl, fun p hp q hq => ?_, hin o', hP⟩
    · rcases List.mem_append.mp hp with hp | hp
      · exact .tail _ (List.mem_append.mpr (.inl hp))
      · rcases upd_pull (U o') p hp with rfl | ⟨a, b⟩
        · exact .head _
        · exact .tail _ (List.mem_append.mpr (.inr (List.mem_filter.mpr ⟨a, by simpa using b⟩)))
    · by_cases e : q.1 = d
      · rw [e]; exact (hn p hp).1
      · exact (hn p hp).2 q (List.mem_filter.mpr ⟨hq, by simpa using e⟩)
/-- as updR, a second object stands apart: it stays as it is -/
theorem Spec.updK {w : World} {f : Addr} {args : List Value} {d K : Addr} {o ok : Obj} {dd uu : Nat} {P : List (Addr × Obj) → Value → Obj → List (Addr × Obj) → Prop}
    {news : List (Addr × Obj)} {g : Obj → List (Addr × Obj)} (hK : (K, ok) ∈ news)
    (mono : ∀ rest rest' v o' new, (∀ p ∈ rest, p ∈ rest') → P rest v o' new → P rest' v o' new) (hKd : K ≠ d) (one : ∀ p ∈ news, p.1 = K → p = (K, ok))
    (S : ∀ rest, (∀ p ∈ rest, p.1 ≠ d) → (∀ p ∈ rest, p.1 ≠ K) → (∀ p ∈ news, p.1 ≠ d → p.1 ≠ K → p ∈ rest) → (∀ p ∈ rest, p ∈ news) → Spec w f args ((d, o) :: (K, ok) :: rest) dd uu fun v post => ∃ o' new, post = (d, o') :: (K, ok) :: (new ++ rest) ∧ (∀ p ∈ new, ∀ q ∈ (d, o) :: (K, ok) :: rest, @LT.lt Nat _ q.1 p.1) ∧ P rest v o' new)
    (U : ∀ o', Upd d o o' news (g o')) :
    Spec w f args news dd uu fun v post => ∃ o' new rest, post = new ++ g o' ∧ (∀ p ∈ new, ∀ q ∈ news, @LT.lt Nat _ q.1 p.1) ∧ (∀ p ∈ rest, p ∈ g o') ∧ P rest v o' new := by
  refine Spec.updR (fun rest h1 h2 h3 => ?_) U
  intro p loose mean mg mb A A₀ env outer base h₀ L m s R B F X N T hA hf hke hh hd' hu' hret
  have hm : (K, ok) ∈ rest := h2 _ hK hKd
  refine S (rest.filter fun p => p.1 != K) (fun p hp => h1 p (List.mem_filter.mp hp).1) (fun p hp => by simpa using (List.mem_filter.mp hp).2) (fun p hp hn hk => List.mem_filter.mpr ⟨h2 p hp hn, by simpa using hk⟩) (fun p hp => h3 p (List.mem_filter.mp hp).1) p loose mean mg mb A A₀ env outer base h₀ L m s R B F X (fun p hp => ?_) T hA hf hke hh hd' hu' ?_
  · rcases List.mem_cons.mp hp with rfl | hp
    · exact N _ (.head _)
    · rcases List.mem_cons.mp hp with rfl | hp
      · exact N _ (.tail _ hm)
      · exact N _ (.tail _ (List.mem_filter.mp hp).1)
  · rintro v post h' tk' F' N' ⟨o', new, rfl, hn, hP⟩
    refine hret v _ h' tk' F' (fun p hp => N' p ?_) ⟨o', new, rfl, fun p hp => ⟨hn p hp _ (.head _), fun q hq => ?_⟩, ?_⟩
    · rcases List.mem_cons.mp hp with rfl | hp
      · exact .head _
      · rcases List.mem_append.mp hp with hp | hp
        · exact .tail _ (.tail _ (List.mem_append.mpr (.inl hp)))
        · by_cases e : p.1 = K
          · rw [one p (h3 p hp) e]; exact .tail _ (.head _)
          · exact .tail _ (.tail _ (List.mem_append.mpr (.inr (List.mem_filter.mpr ⟨hp, by simpa using e⟩))))
    · by_cases e : q.1 = K
      · rw [one q (h3 q hq) e]; exact hn p hp _ (.tail _ (.head _))
      · exact hn p hp q (.tail _ (.tail _ (List.mem_filter.mpr ⟨hq, by simpa using e⟩)))
    · exact mono _ _ _ _ _ (fun p hp => (List.mem_filter.mp hp).1) hP
theorem Spec.updB {w : World} {f : Addr} {args : List Value} {d K : Addr} {o ok : Obj} {dd uu : Nat} {P : List (Addr × Obj) → Value → Obj → List (Addr × Obj) → Prop}
    {news : List (Addr × Obj)} {g : Obj → List (Addr × Obj)}
    (S : ∀ rest, (∀ p ∈ rest, p.1 ≠ d) → (∀ p ∈ news, p.1 ≠ d → p ∈ rest) → (∀ p ∈ rest, p ∈ news) → Spec w f args ((d, o) :: (K, ok) :: rest) dd uu fun v post => ∃ o' ok' new, post = (d, o') :: (K, ok') :: (new ++ rest) ∧ (∀ p ∈ new, ∀ q ∈ (d, o) :: (K, ok) :: rest, @LT.lt Nat _ q.1 p.1) ∧ P rest v o' new)
    (U : ∀ o', Upd d o o' news (g o')) :
    Spec w f args ((K, ok) :: news) dd uu fun v post => ∃ o' new rest, post = new ++ g o' ∧ (∀ p ∈ new, ∀ q ∈ news, @LT.lt Nat _ q.1 p.1) ∧ (∀ p ∈ rest, p ∈ g o') ∧ P rest v o' new := by
  intro p loose mean mg mb A A₀ env outer base h₀ L m s R B F X N T hA hf hke hh hd' hu' hret
  have hm := upd_mem (U o)
  have hin : ∀ o', ∀ p ∈ news.filter fun p => p.1 != d, p ∈ g o' := fun o' p hp => by
    obtain ⟨pre, post, e1, e2, _, _⟩ := (U o').split
    obtain ⟨h1, h2⟩ := List.mem_filter.mp hp
    rw [e2]
    rw [e1] at h1
    rcases List.mem_append.mp h1 with h | h
    · exact List.mem_append.mpr (.inl h)
    · rcases List.mem_cons.mp h with rfl | h
      · simp at h2
      · exact List.mem_append.mpr (.inr (.tail _ h))
  refine S (news.filter fun p => p.1 != d) (fun p hp => by simpa using (List.mem_filter.mp hp).2) (fun p hp hn => List.mem_filter.mpr ⟨hp, by simpa using hn⟩) (fun p hp => (List.mem_filter.mp hp).1) p loose mean mg mb A A₀ env outer base h₀ L m s R B F X (fun p hp => ?_) T hA hf hke hh hd' hu' ?_
  · rcases List.mem_cons.mp hp with rfl | hp
    · exact N _ (.tail _ hm)
    · rcases List.mem_cons.mp hp with rfl | hp
      · exact N _ (.head _)
      · exact N _ (.tail _ (List.mem_filter.mp hp).1)
  · rintro v post h' tk' F' N' ⟨o', ok', new, rfl, hn, hP⟩
    refine hret v _ h' tk' F' (fun p hp => N' p ?_) ⟨o', new, _, rfl, fun p hp q hq => ?_, hin o', hP⟩
    · rcases List.mem_append.mp hp with hp | hp
      · exact .tail _ (.tail _ (List.mem_append.mpr (.inl hp)))
      · rcases upd_pull (U o') p hp with rfl | ⟨a, b⟩
        · exact .head _
        · exact .tail _ (.tail _ (List.mem_append.mpr (.inr (List.mem_filter.mpr ⟨a, by simpa using b⟩))))
    · by_cases e : q.1 = d
      · rw [e]; exact hn p hp (d, o) (.head _)
      · exact hn p hp q (.tail _ (.tail _ (List.mem_filter.mpr ⟨hq, by simpa using e⟩)))
noncomputable def TabA (w : World) (kvs : List (Int × Value)) (ok₀ : Obj) (_ : Nat) (R : List (Addr × Obj)) (ok : Obj) : Prop :=
  ok = ok₀ ∧ ok₀.IsDictOf (intKind prg w) kvs ∧ kvs.length ≤ 3 ∧ ∀ n : Int, 0 ≤ n → n < 3 → ∃ v, valueAt kvs n = some v ∧ DatIn R v (cd (0, n))
theorem three_le : (3 : Nat) ≤ sizeLine := by rw [PySem.sizeLine_eq]; decide
theorem tabA (kvs : List (Int × Value)) (ok₀ : Obj) : Tab w (TabA w kvs ok₀) where
  get := fun i R ok n ⟨e, h, h2, h3⟩ h0 h1 => ⟨kvs, e ▸ h, Nat.le_trans h2 three_le, .inl (let ⟨v, a, b⟩ := h3 n h0 h1; ⟨v, _, a, b⟩)⟩
  mono := fun i i' R R' ok ⟨e, h, h2, h3⟩ _ hs => ⟨e, h, h2, fun n h0 h1 => let ⟨v, a, b⟩ := h3 n h0 h1; ⟨v, a, b.mono hs⟩⟩
noncomputable def TabB (w : World) (_ : Nat) (R : List (Addr × Obj)) (ok : Obj) : Prop :=
  ∃ kvs : List (Int × Value), ok.IsDictOf (intKind prg w) kvs ∧ ∀ k x, (k, x) ∈ kvs → (0 ≤ k ∧ k < 3) ∧ ∃ j : Int, DatIn R x (cd (0, j))
theorem at_some {kvs : List (Int × Value)} {n : Int} {v : Value} (h : valueAt kvs n = some v) : (n, v) ∈ kvs := by
  unfold valueAt at h
  cases e : kvs.find? fun kv => kv.1 = n with
  | none => rw [e] at h; cases h
  | some p =>
    rw [e] at h
    have h1 : p.1 = n := by simpa using List.find?_some e
    have h2 : p.2 = v := by simpa using h
    have h3 := List.mem_of_find?_eq_some e
    rw [← h1, ← h2]; exact h3
theorem nodup3 {l : List Int} (hn : l.Nodup) (h : ∀ k ∈ l, 0 ≤ k ∧ k < 3) : l.length ≤ 3 := by
  match l with
  | [] => simp
  | [_] => simp
  | [_, _] => simp
  | [_, _, _] => simp
  | a :: b :: c :: d :: r =>
    exfalso
    have h1 := h a (by simp)
    have h2 := h b (by simp)
    have h3 := h c (by simp)
    have h4 := h d (by simp)
    simp only [List.nodup_cons, List.mem_cons, not_or] at hn
    omega
theorem tabB : Tab w (TabB w) where
  get := fun i R ok n h h0 h1 => by
    obtain ⟨kvs, hd, hk⟩ := h
    have hl : kvs.length ≤ 3 := by
      obtain ⟨es, ep, _, _, _, _, hn⟩ := hd
      have := nodup3 hn (fun k hk' => by
        obtain ⟨p, hp, rfl⟩ := List.mem_map.mp hk'
        exact (hk p.1 p.2 hp).1)
      simpa using this
    refine ⟨kvs, hd, Nat.le_trans hl three_le, ?_⟩
    cases e : valueAt kvs n with
    | some v =>
      obtain ⟨_, j, hj⟩ := hk n v (at_some e)
      exact .inl ⟨v, _, rfl, hj⟩
    | none =>
      refine .inr ⟨rfl, fun R' ok' v j hs hv hd' => ⟨_, hd', fun k x hm => ?_⟩⟩
      rw [stored_absent e] at hm
      rcases List.mem_append.mp hm with hm | hm
      · obtain ⟨a, j', b⟩ := hk k x hm
        exact ⟨a, j', b.mono hs⟩
      · obtain ⟨rfl, rfl⟩ := Prod.mk.inj (List.mem_singleton.mp hm)
        exact ⟨⟨h0, h1⟩, j, hv⟩
  mono := fun i i' R R' ok h _ hs => by
    obtain ⟨kvs, hd, hk⟩ := h
    exact ⟨kvs, hd, fun k x hm => let ⟨a, j, b⟩ := hk k x hm; ⟨a, j, b.mono hs⟩⟩
/-- put_term with the table of the known -/
theorem put_known (S H K : Addr) (o ok : Obj) (hs : List (Int × Int)) (kvs : List (Int × Value)) (R₀ news : List (Addr × Obj)) {g : Obj → List (Addr × Obj)} (U : ∀ o', Upd H o o' news (g o'))
    (hK : (K, ok) ∈ news) (one : ∀ p ∈ news, p.1 = K → p = (K, ok)) (hHK : @Ne Nat K H) (hR : ∀ p ∈ R₀, p ∈ news) (hRH : ∀ p ∈ R₀, p.1 ≠ H) (hRK : ∀ p ∈ R₀, p.1 ≠ K) (hKs : (K == sysModules) = false)
    (st : Addr) (hS : StoreIs R₀ S H st) (hc : CellsAt R₀ o hs) (hl : hs.length ≤ 500) (tv : Value) (t : Tm) (htv : DatIn R₀ tv t.d) (hto : t.ok)
    (hk1 : ok.IsDictOf (intKind prg w) kvs) (hk2 : kvs.length ≤ 3) (hk3 : ∀ k x, (k, x) ∈ kvs → valueAt kvs k = some x ∧ ∃ j : Int, DatIn R₀ x (cd (0, j))) (hk4 : ∀ n : Int, 0 ≤ n → n < 3 → ∃ v, valueAt kvs n = some v ∧ DatIn R₀ v (cd (0, n))) :
    Spec w 364 [.ref S, tv, .ref K] news 40 700 fun v post => ∃ o' new, post = new ++ g o' ∧ (∀ p ∈ new, ∀ q ∈ news, @LT.lt Nat _ q.1 p.1) ∧ PutA hs t R₀ v o' new := by
  refine Spec.mono (Spec.updK (P := fun _ v o' new => PutA hs t R₀ v o' new) hK (fun _ _ _ _ _ _ h => h) hHK one (fun rest h1 h2 h3 h4 => ?_) U) (Nat.le_refl _) (Nat.le_refl _) fun v post h => let ⟨o', new, _, a, b, _, c⟩ := h; ⟨o', new, a, b, c⟩
  have sub : ∀ p ∈ R₀, p ∈ rest := fun p hp => h3 p (hR p hp) (hRH p hp) (hRK p hp)
  refine (put_spec (tabA (w := w) kvs ok) S H K o ok hs R₀ rest sub hHK h1 h2 hKs st (hS.mono sub) hc hl 0 ⟨rfl, hk1, hk2, hk4⟩ tv t htv hto kvs hk1 (Nat.le_trans hk2 three_le)
    hk3 (fun n e => ?_)).mono (Nat.le_refl _) (Nat.le_refl _) fun v post h => ?_
  · subst e
    obtain ⟨v, a, b⟩ := hk4 n hto.1 hto.2
    exact ⟨kvs, v, hk1, a, b⟩
  · obtain ⟨o', ok', new, ext, c, rfl, h5, h6, h7, h8, h9, h10⟩ := h
    obtain rfl := h8.1
    exact ⟨o', new, rfl, h5, ext, c, h6, h7, h9, h10⟩
/-- put_term with an empty table -/
theorem put_fresh (S H K : Addr) (o ok : Obj) (hs : List (Int × Int)) (R₀ news : List (Addr × Obj)) {g : Obj → List (Addr × Obj)} (U : ∀ o', Upd H o o' news (g o'))
    (hHK : @Ne Nat K H) (hnK : ∀ p ∈ news, p.1 ≠ K) (hR : ∀ p ∈ R₀, p ∈ news) (hRH : ∀ p ∈ R₀, p.1 ≠ H) (hKs : (K == sysModules) = false)
    (st : Addr) (hS : StoreIs R₀ S H st) (hc : CellsAt R₀ o hs) (hl : hs.length ≤ 500) (tv : Value) (t : Tm) (htv : DatIn R₀ tv t.d) (hto : t.ok) (hnv : ∀ n, t ≠ .lf (.v n)) (hk1 : ok.IsDictOf (intKind prg w) []) :
    Spec w 364 [.ref S, tv, .ref K] ((K, ok) :: news) 40 700 fun v post => ∃ o' new, post = new ++ g o' ∧ (∀ p ∈ new, ∀ q ∈ news, @LT.lt Nat _ q.1 p.1) ∧ PutA hs t R₀ v o' new := by
  refine Spec.mono (Spec.updB (P := fun _ v o' new => PutA hs t R₀ v o' new) (fun rest h1 h3 h4 => ?_) U) (Nat.le_refl _) (Nat.le_refl _) fun v post h => let ⟨o', new, _, a, b, _, c⟩ := h; ⟨o', new, a, b, c⟩
  have sub : ∀ p ∈ R₀, p ∈ rest := fun p hp => h3 p (hR p hp) (hRH p hp)
  refine (put_spec (tabB (w := w)) S H K o ok hs R₀ rest sub hHK h1 (fun p hp => hnK p (h4 p hp)) hKs st (hS.mono sub) hc hl 0 ⟨[], hk1, fun _ _ h => nomatch h⟩ tv t htv hto [] hk1 (Nat.zero_le _)
    (fun k x hm => nomatch hm) (fun n e => absurd e (hnv n))).mono (Nat.le_refl _) (Nat.le_refl _) fun v post h => ?_
  obtain ⟨o', ok', new, ext, c, rfl, h5, h6, h7, h8, h9, h10⟩ := h
  exact ⟨o', ok', new, rfl, h5, ext, c, h6, h7, h9, h10⟩
end
section
theorem walk_off_P15 : True := by
  w_top off
  trivial
noncomputable def litStr : PySem.Expr → Option Str
  | .Constant (.str x) _ _ => some x
  | _ => none
noncomputable def litInt : PySem.Expr → Option Int
  | .Constant (.int x) _ _ => some x
  | _ => none
noncomputable def litPair : PySem.Expr → Option (Str × Int)
  | .Tuple [a, b] _ _ => match litStr a, litInt b with
    | some x, some k => some (x, k)
    | _, _ => none
  | _ => none
noncomputable def retTuple (l : List Stmt) : List PySem.Expr := match l with
  | (.Return (some (.Tuple es _ _)) _) :: _ => es
  | _ => []
noncomputable def atomExprs : List PySem.Expr := retTuple (defOf (PySem.Challenge.pw_no0174_01.main.body.drop 11)).1
noncomputable def functorExprs : List PySem.Expr := retTuple (defOf (PySem.Challenge.pw_no0174_01.main.body.drop 12)).1
noncomputable def atoms : List Str := atomExprs.filterMap litStr
noncomputable def functors : List (Str × Int) := functorExprs.filterMap litPair
noncomputable def fnD (p : Str × Int) : Dat := .tuple [.str p.1, .int p.2]
section
variable {A : Around} {E : Value → Shared → Prop} {env : Env} {pos : Pos}
theorem args_strs {R : List (Addr × Obj)} : ∀ (es : List PySem.Expr) (xs : List Str) {s : Shared} {Q : List Value → Shared → Prop}, es.map litStr = xs.map some →
    (∀ vs tk', DatAll R vs (xs.map .str) → Q vs { s with toks := tk' }) → wpAny (model prg w) A (spliced (backTo pos (starEach es env))) Q E s
  | [], xs, s, Q, h, k => by
    cases xs with
    | nil => exact args_nil (k [] s.toks .nil)
    | cons _ _ => simp at h
  | e :: es, xs, s, Q, h, k => by
    cases xs with
    | nil => simp at h
    | cons x xs =>
      simp only [List.map_cons, List.cons.injEq] at h
      obtain ⟨h1, h2⟩ := h
      unfold litStr at h1
      split at h1
      · obtain rfl := Option.some.inj h1
        exact args_cons (Constant_str (args_strs es xs h2 fun vs tk' hv => k _ tk' (.cons (.str _ _) hv)))
      · cases h1
theorem args_pairs {g : Heap} {L : Addr} {m : Str → Option Value} {R : List (Addr × Obj)} : ∀ (es : List PySem.Expr) (xs : List (Str × Int)) {s : Shared} {Q : List Value → Shared → Prop} (new : List (Addr × Obj)), es.map litPair = xs.map some →
    Fr g L s.heap m → News g L s.heap (new ++ R) → (∀ p ∈ new, ∀ q ∈ R, @LT.lt Nat _ q.1 p.1) →
    (∀ vs h' tk' new', Fr g L h' m → News g L h' (new' ++ R) → (∀ p ∈ new, p ∈ new') → (∀ p ∈ new', ∀ q ∈ R, @LT.lt Nat _ q.1 p.1) → DatAll new' vs (xs.map fnD) → Q vs { s with heap := h', toks := tk' }) → wpAny (model prg w) A (spliced (backTo pos (starEach es env))) Q E s
  | [], xs, s, Q, new, h, F, N, fr, k => by
    cases xs with
    | nil => exact args_nil (k [] s.heap s.toks new F N (fun _ h => h) fr .nil)
    | cons _ _ => simp at h
  | e :: es, xs, s, Q, new, h, F, N, fr, k => by
    cases xs with
    | nil => simp at h
    | cons x xs =>
      simp only [List.map_cons, List.cons.injEq] at h
      obtain ⟨h1, h2⟩ := h
      unfold litPair at h1
      split at h1
      · split at h1
        · rename_i a b kk pp y k2 ha hb
          obtain rfl := Option.some.inj h1
          unfold litStr at ha
          unfold litInt at hb
          split at ha
          · split at hb
            · obtain rfl := Option.some.inj ha
              obtain rfl := Option.some.inj hb
              refine args_cons (Tuple_ (args_cons (Constant_str (args_cons (wpAny_Constant_int (args_nil ?_))))))
              refine kup_newTuple F N (fun D h' F' N' l => ?_) (Nat.le_trans (by decide : 2 ≤ 3) three_le)
              refine args_pairs es xs ((D, _) :: new) h2 F' N' ?_ ?_
              · intro p hp q hq
                rcases List.mem_cons.mp hp with rfl | hp
                · exact l q (List.mem_append.mpr (.inr hq))
                · exact fr p hp q hq
              · intro vs h3 tk3 new' F3 N3 s3 fr3 hv
                refine k _ h3 tk3 new' F3 N3 (fun p hp => s3 p (.tail _ hp)) fr3 (.cons (.tuple (s3 _ (.head _)) (.cons (.str _ _) (.cons (.int _ _) .nil))) hv)
            · cases hb
          · cases ha
        · cases h1
      · cases h1
end
theorem lits_some {α : Type} {f : PySem.Expr → Option α} : ∀ (es : List PySem.Expr), (es.all fun e => (f e).isSome) = true → es.map f = (es.filterMap f).map some
  | [], _ => rfl
  | e :: es, h => by
    rw [List.all_cons, Bool.and_eq_true] at h
    obtain ⟨x, hx⟩ := Option.isSome_iff_exists.mp h.1
    rw [List.map_cons, List.filterMap_cons_some hx, List.map_cons, lits_some es h.2, hx]
theorem atoms_lit : atomExprs.map litStr = atoms.map some := lits_some _ (by decide +kernel)
theorem atoms_len : atoms.length = 29 := by decide +kernel
theorem functors_lit : functorExprs.map litPair = functors.map some := lits_some _ (by decide +kernel)
theorem functors_len : functors.length = 32 := by decide +kernel
theorem atoms_spec (rest : List (Addr × Obj)) :
   Spec w 60 [] rest 3 200 (fun v post => ∃ a vs n, v = .ref a ∧ post = (a, tupAt vs n) :: rest ∧ AllLt a rest ∧ DatAll rest vs (atoms.map .str)) := by
  refine wr_mp ?_
  simp (disch := (k_dflt (
      unfold Spec
      k_fill
      intro p loose mean mg mb A A₀ env outer base h₀ L m s R B F X N T9 hA hf hke hh hd hu hret
      ( refine' code_def ?k1z9 ?k2z9 ?k3z9 ?k4z9 ?k5z9 ?kAz9 ?kFz9 ?kKz9 ?k6z9 ?k7z9 ?k8z9 ?k9z9 ?kBz9 ?_ ?c2z9 ?c3z9 ?c4z9 ?c5z9; (case kAz9 => assumption); (case kFz9 => assumption); (case kKz9 => assumption); (case k1z9 => k_asm); (case k2z9 => k_asm); (case k3z9 => k_asm); (case k4z9 => k_asm); (case k5z9 => k_asm); (case k6z9 => k_is); (case k7z9 => k_is); (case k8z9 => k_room); (case k9z9 => exact BindsTo.of_eq rfl); (case c5z9 => decide); (case kBz9 => exact locs rfl); (case c2z9 => exact rfl); (case c3z9 => exact rfl); (case c4z9 => exact rfl); k_whole; intro _ _ _ _ _ _ _ _ _; (with_reducible refine wp_never ?_); (try dsimp only); (try k_fold))
      walk1
      walk1
      walk1
      walk1
      refine args_strs (R := rest) _ atoms ?h ?_
      case h => exact atoms_lit
      intro vs tk' hv
      have hl : vs.length ≤ sizeLine := by rw [hv.length, List.length_map, atoms_len, PySem.sizeLine_eq]; decide
      (rename Fr _ _ _ _ => kF); (rename News _ _ _ _ => kN)
      refine' kup_newTuple kF kN ?_ hl
      intro D h' F' N' l1
      clear kF kN
      (repeat' (first | (k_unfold; (try dsimp only)) | (k_here; (with_reducible show wpAny _ _ (setItem (Value.ref _) (Value.int _ _) _) _ _ _); k_dflt (refine' set_led ?Fz9 ?Nz9 ?Uz9 ?az9 ?bz9 ?zz9 ?_; (case Fz9 => k_asm); (case Nz9 => k_asm); (case Uz9 => k_upd); (case az9 => ksa_idx); (case bz9 => ksa_idx); (case zz9 => ksa_idx); k_whole); intro _ _ _; (try k_sweep)) | (k_here; (with_reducible show wpAny _ _ (call (Value.builtin "list.append") [Value.ref _, _]) _ _ _); k_dflt (refine' append_led ?Fz9 ?Nz9 ?Uz9 ?zz9 ?_; (case Fz9 => k_asm); (case Nz9 => k_asm); (case Uz9 => k_upd); (case zz9 => ksa_idx); k_whole); intro _ _ _; (try k_sweep)) | (k_here; (with_reducible show wpAny _ _ (call (Value.builtin "len") [Value.ref _]) _ _ _); k_dflt (refine' len_led ?Nz9 ?mz9 ?zz9 ?_; (case Nz9 => k_asm); (case mz9 => k_mem); (case zz9 => ksa_idx); k_whole); intro _ _) | (k_here; (with_reducible show wpAny _ _ (subscriptTail _ _ (Value.ref _) (Value.int _ _)) _ _ _); k_dflt (refine' item_led ?Nz9 ?mz9 ?az9 ?bz9 ?xz9 ?_; (case Nz9 => k_asm); (case mz9 => k_mem); (case az9 => omega); (case bz9 => omega); (case xz9 => assumption))) | (k_end; kc_close) | (k_end; wrow_close) | walk1 | (dsimp only; walk1) | (leave1; (try dsimp only)) | fail "no step"))
      (rename Fr _ _ _ _ => kF); (rename News _ _ _ _ => kN)
      exact hret _ _ _ _ kF kN ⟨_, _, _, rfl, rfl, allLt_of l1, hv⟩))) only [↓wr_true]
theorem functors_spec (rest : List (Addr × Obj)) :
   Spec w 67 [] rest 3 200 (fun v post => ∃ a vs n new, v = .ref a ∧ post = (a, tupAt vs n) :: (new ++ rest) ∧ AllLt a (new ++ rest) ∧ (∀ p ∈ new, ∀ q ∈ rest, @LT.lt Nat _ q.1 p.1) ∧ DatAll new vs (functors.map fnD)) := by
  refine wr_mp ?_
  simp (disch := (k_dflt (
      unfold Spec
      k_fill
      intro p loose mean mg mb A A₀ env outer base h₀ L m s R B F X N T9 hA hf hke hh hd hu hret
      ( refine' code_def ?k1z9 ?k2z9 ?k3z9 ?k4z9 ?k5z9 ?kAz9 ?kFz9 ?kKz9 ?k6z9 ?k7z9 ?k8z9 ?k9z9 ?kBz9 ?_ ?c2z9 ?c3z9 ?c4z9 ?c5z9; (case kAz9 => assumption); (case kFz9 => assumption); (case kKz9 => assumption); (case k1z9 => k_asm); (case k2z9 => k_asm); (case k3z9 => k_asm); (case k4z9 => k_asm); (case k5z9 => k_asm); (case k6z9 => k_is); (case k7z9 => k_is); (case k8z9 => k_room); (case k9z9 => exact BindsTo.of_eq rfl); (case c5z9 => decide); (case kBz9 => exact locs rfl); (case c2z9 => exact rfl); (case c3z9 => exact rfl); (case c4z9 => exact rfl); k_whole; intro _ _ _ _ _ _ _ _ _; (with_reducible refine wp_never ?_); (try dsimp only); (try k_fold))
      walk1
      walk1
      walk1
      walk1
      (rename Fr _ _ _ _ => F9); (rename News _ _ _ _ => N9)
      have hf := functors_lit
      have hfl := functors_len
      conv in (starEach _ _) => arg 1; change functorExprs
      revert hf hfl
      generalize functorExprs = es
      generalize functors = fs at *
      intro hf hfl
      refine args_pairs (R := rest) es fs [] hf F9 N9 (fun _ h => nomatch h) ?_
      clear F9 N9
      intro vs h3 tk' new kF kN _ fr hv
      have hl : vs.length ≤ sizeLine := by rw [hv.length, List.length_map, hfl, PySem.sizeLine_eq]; decide
      refine' kup_newTuple kF kN ?_ hl
      intro D h' F' N' l1
      clear kF kN
      (repeat' (first | (k_unfold; (try dsimp only)) | (k_here; (with_reducible show wpAny _ _ (setItem (Value.ref _) (Value.int _ _) _) _ _ _); k_dflt (refine' set_led ?Fz9 ?Nz9 ?Uz9 ?az9 ?bz9 ?zz9 ?_; (case Fz9 => k_asm); (case Nz9 => k_asm); (case Uz9 => k_upd); (case az9 => ksa_idx); (case bz9 => ksa_idx); (case zz9 => ksa_idx); k_whole); intro _ _ _; (try k_sweep)) | (k_here; (with_reducible show wpAny _ _ (call (Value.builtin "list.append") [Value.ref _, _]) _ _ _); k_dflt (refine' append_led ?Fz9 ?Nz9 ?Uz9 ?zz9 ?_; (case Fz9 => k_asm); (case Nz9 => k_asm); (case Uz9 => k_upd); (case zz9 => ksa_idx); k_whole); intro _ _ _; (try k_sweep)) | (k_here; (with_reducible show wpAny _ _ (call (Value.builtin "len") [Value.ref _]) _ _ _); k_dflt (refine' len_led ?Nz9 ?mz9 ?zz9 ?_; (case Nz9 => k_asm); (case mz9 => k_mem); (case zz9 => ksa_idx); k_whole); intro _ _) | (k_here; (with_reducible show wpAny _ _ (subscriptTail _ _ (Value.ref _) (Value.int _ _)) _ _ _); k_dflt (refine' item_led ?Nz9 ?mz9 ?az9 ?bz9 ?xz9 ?_; (case Nz9 => k_asm); (case mz9 => k_mem); (case az9 => omega); (case bz9 => omega); (case xz9 => assumption))) | (k_end; kc_close) | (k_end; wrow_close) | walk1 | (dsimp only; walk1) | (leave1; (try dsimp only)) | fail "no step"))
      (rename Fr _ _ _ _ => kF); (rename News _ _ _ _ => kN)
      exact hret _ _ _ _ kF kN ⟨_, _, _, new, rfl, rfl, allLt_of l1, fr, hv⟩))) only [↓wr_true]
end
section
theorem walk_off_P16 : True := by
  w_top off
  trivial
/-- what stands of the symbols' object while it is filled -/
noncomputable def SymAt (R : List (Addr × Obj)) (SY TX AN FU FN : Addr) : Prop := ∃ SYD h1 h2 h3 h4 t1 t2 t3 t4 n, (SY, instObj 154 SYD) ∈ R ∧
  (SYD, dictOf [⟨h1, .str (Str.ofString "texts") t1, .ref TX⟩, ⟨h2, .str (Str.ofString "atom_numbers") t2, .ref AN⟩, ⟨h3, .str (Str.ofString "functors") t3, .ref FU⟩, ⟨h4, .str (Str.ofString "functor_numbers") t4, .ref FN⟩] n) ∈ R
theorem SymAt.elim {R : List (Addr × Obj)} {SY TX AN FU FN : Addr} {P : Prop} (h : SymAt R SY TX AN FU FN)
    (k : ∀ SYD h1 h2 h3 h4 t1 t2 t3 t4 n, (SY, instObj 154 SYD) ∈ R →
  (SYD, dictOf [⟨h1, .str (Str.ofString "texts") t1, .ref TX⟩, ⟨h2, .str (Str.ofString "atom_numbers") t2, .ref AN⟩, ⟨h3, .str (Str.ofString "functors") t3, .ref FU⟩, ⟨h4, .str (Str.ofString "functor_numbers") t4, .ref FN⟩] n) ∈ R → P) : P := by
  obtain ⟨SYD, h1, h2, h3, h4, t1, t2, t3, t4, n, a, b⟩ := h
  exact k SYD h1 h2 h3 h4 t1 t2 t3 t4 n a b
local macro_rules | `(tactic| walk_at "call builtin:dict.get") => `(tactic| (k_here; k_dflt (first
  | (refine' kdg_get2 (knd := strKind prg w) ?N ?m ?d ?lo (strKind_is _ _ _ _) (some _) ?l ?_; (case d => assumption); (case l => assumption); (case N => k_asm); (case m => k_mem); (case lo => assumption))
  | (refine' kdg_get2 (knd := strKind prg w) ?N ?m ?d ?lo (strKind_is _ _ _ _) none ?l ?_; (case d => assumption); (case l => assumption); (case N => k_asm); (case m => k_mem); (case lo => assumption))); (try dsimp only [Option.getD])))
local macro_rules | `(tactic| walk_at "setItem ref str") => `(tactic| (k_here; k_dflt (refine' kda_set (knd := strKind prg w) ?F ?N ?U ?d (strKind_is _ _ _ _) ?z ?_; (case d => assumption); (case F => k_asm); (case N => k_asm); (case U => k_updF); (case z => assumption)); intro h' o' F' N' hd'; (try dsimp only at N')))
theorem atom_old (SY TX AN FU FN : Addr) (od : Obj) (rest : List (Addr × Obj)) (hS : SymAt rest SY TX AN FU FN) (hA9 : (AN, od) ∈ rest) (hl : (AN == sysModules) = false) (kvs : List (Str × Value)) (hk : od.IsDictOf (strKind prg w) kvs) (x : Str) (tx : Tok) (k : Int) (tk0 : Tok) (hv : valueAt kvs x = some (.int k tk0)) (h0 : 0 ≤ k) :
   Spec w 88 [.ref SY, .str x tx] rest 3 200 (fun v post => v = .int k tk0 ∧ post = rest) := by
  refine wr_mp ?_
  simp (disch := (k_dflt (
      unfold Spec
      k_fill
      intro p loose mean mg mb A A₀ env outer base h₀ L m s R B F X N T9 hA hf hke hh hd hu hret
      refine SymAt.elim hS ?_
      intro SYD h1 h2 h3 h4 t1 t2 t3 t4 n hm1 hm2
      clear hS
      ( refine' code_def ?k1z9 ?k2z9 ?k3z9 ?k4z9 ?k5z9 ?kAz9 ?kFz9 ?kKz9 ?k6z9 ?k7z9 ?k8z9 ?k9z9 ?kBz9 ?_ ?c2z9 ?c3z9 ?c4z9 ?c5z9; (case kAz9 => assumption); (case kFz9 => assumption); (case kKz9 => assumption); (case k1z9 => k_asm); (case k2z9 => k_asm); (case k3z9 => k_asm); (case k4z9 => k_asm); (case k5z9 => k_asm); (case k6z9 => k_is); (case k7z9 => k_is); (case k8z9 => k_room); (case k9z9 => exact BindsTo.of_eq rfl); (case c5z9 => decide); (case kBz9 => exact locs rfl); (case c2z9 => exact rfl); (case c3z9 => exact rfl); (case c4z9 => exact rfl); k_whole; intro _ _ _ _ _ _ _ _ _; (with_reducible refine wp_never ?_); (try dsimp only); (try k_fold))
      (repeat' (first | (k_unfold; (try dsimp only)) | (k_here; (with_reducible show wpAny _ _ (getMethod (Value.ref _) (Str.ofString "get") _) _ _ _); k_dflt (refine' kdg_method (knd := strKind prg w) ?N ?m ?d ?_; (case d => assumption); (case N => k_asm); (case m => k_mem))) | (k_here; (with_reducible show wpAny _ _ (setItem (Value.ref _) (Value.int _ _) _) _ _ _); k_dflt (refine' set_led ?Fz9 ?Nz9 ?Uz9 ?az9 ?bz9 ?zz9 ?_; (case Fz9 => k_asm); (case Nz9 => k_asm); (case Uz9 => k_upd); (case az9 => ksa_idx); (case bz9 => ksa_idx); (case zz9 => ksa_idx); k_whole); intro _ _ _; (try k_sweep)) | (k_here; (with_reducible show wpAny _ _ (call (Value.builtin "list.append") [Value.ref _, _]) _ _ _); k_dflt (refine' append_led ?Fz9 ?Nz9 ?Uz9 ?zz9 ?_; (case Fz9 => k_asm); (case Nz9 => k_asm); (case Uz9 => k_upd); (case zz9 => ksa_idx); k_whole); intro _ _ _; (try k_sweep)) | (k_here; (with_reducible show wpAny _ _ (call (Value.builtin "len") [Value.ref _]) _ _ _); k_dflt (refine' len_led ?Nz9 ?mz9 ?zz9 ?_; (case Nz9 => k_asm); (case mz9 => k_mem); (case zz9 => ksa_idx); k_whole); intro _ _) | (k_here; (with_reducible show wpAny _ _ (subscriptTail _ _ (Value.ref _) (Value.int _ _)) _ _ _); k_dflt (refine' item_led ?Nz9 ?mz9 ?az9 ?bz9 ?xz9 ?_; (case Nz9 => k_asm); (case mz9 => k_mem); (case az9 => omega); (case bz9 => omega); (case xz9 => assumption))) | (k_end; kc_close) | (k_end; wrow_close) | walk1 | (dsimp only; walk1) | (leave1; (try dsimp only)) | fail "no step"))
      (rename Fr _ _ _ _ => kF); (rename News _ _ _ _ => kN)
      exact hret _ _ _ _ kF kN ⟨rfl, rfl⟩))) only [↓wr_true]
theorem atom_new (SY TX AN FU FN : Addr) (vs : List Value) (n1 : Nat) (od : Obj) (rest : List (Addr × Obj)) (hS : SymAt rest SY TX AN FU FN) (hl : (AN == sysModules) = false) (kvs : List (Str × Value)) (hk : od.IsDictOf (strKind prg w) kvs) (x : Str) (tx : Tok) (hv : valueAt kvs x = none) (hz : kvs.length ≤ sizeLine) (hvs : vs.length ≤ 100)
   (hTA : @Ne Nat TX AN) (hrT : ∀ p ∈ rest, p.1 ≠ TX) (hrA : ∀ p ∈ rest, p.1 ≠ AN) :
   Spec w 88 [.ref SY, .str x tx] ((TX, listOf vs.toArray n1) :: (AN, od) :: rest) 3 200 (fun v post => ∃ t o', v = .int (vs.length : Int) t ∧ post = (TX, listOf (vs ++ [Value.str x tx]).toArray (n1 + 1)) :: (AN, o') :: rest ∧ o'.IsDictOf (strKind prg w) (stored kvs x (.int (vs.length : Int) t))) := by
  refine wr_mp ?_
  simp (disch := (k_dflt (
      unfold Spec
      k_fill
      intro p loose mean mg mb A A₀ env outer base h₀ L m s R B F X N T9 hA hf hke hh hd hu hret
      refine SymAt.elim hS ?_
      intro SYD h1 h2 h3 h4 t1 t2 t3 t4 n hm1 hm2
      clear hS
      ( refine' code_def ?k1z9 ?k2z9 ?k3z9 ?k4z9 ?k5z9 ?kAz9 ?kFz9 ?kKz9 ?k6z9 ?k7z9 ?k8z9 ?k9z9 ?kBz9 ?_ ?c2z9 ?c3z9 ?c4z9 ?c5z9; (case kAz9 => assumption); (case kFz9 => assumption); (case kKz9 => assumption); (case k1z9 => k_asm); (case k2z9 => k_asm); (case k3z9 => k_asm); (case k4z9 => k_asm); (case k5z9 => k_asm); (case k6z9 => k_is); (case k7z9 => k_is); (case k8z9 => k_room); (case k9z9 => exact BindsTo.of_eq rfl); (case c5z9 => decide); (case kBz9 => exact locs rfl); (case c2z9 => exact rfl); (case c3z9 => exact rfl); (case c4z9 => exact rfl); k_whole; intro _ _ _ _ _ _ _ _ _; (with_reducible refine wp_never ?_); (try dsimp only); (try k_fold))
      (repeat' (first | (k_unfold; (try dsimp only)) | (k_here; (with_reducible show wpAny _ _ (getMethod (Value.ref _) (Str.ofString "get") _) _ _ _); k_dflt (refine' kdg_method (knd := strKind prg w) ?N ?m ?d ?_; (case d => assumption); (case N => k_asm); (case m => k_mem))) | (k_here; (with_reducible show wpAny _ _ (setItem (Value.ref _) (Value.int _ _) _) _ _ _); k_dflt (refine' set_led ?Fz9 ?Nz9 ?Uz9 ?az9 ?bz9 ?zz9 ?_; (case Fz9 => k_asm); (case Nz9 => k_asm); (case Uz9 => k_upd); (case az9 => ksa_idx); (case bz9 => ksa_idx); (case zz9 => ksa_idx); k_whole); intro _ _ _; (try k_sweep)) | (k_here; (with_reducible show wpAny _ _ (call (Value.builtin "list.append") [Value.ref _, _]) _ _ _); k_dflt (refine' append_led ?Fz9 ?Nz9 ?Uz9 ?zz9 ?_; (case Fz9 => k_asm); (case Nz9 => k_asm); (case Uz9 => k_upd); (case zz9 => ksa_idx); k_whole); intro _ _ _; (try k_sweep)) | (k_here; (with_reducible show wpAny _ _ (call (Value.builtin "len") [Value.ref _]) _ _ _); k_dflt (refine' len_led ?Nz9 ?mz9 ?zz9 ?_; (case Nz9 => k_asm); (case mz9 => k_mem); (case zz9 => ksa_idx); k_whole); intro _ _) | (k_here; (with_reducible show wpAny _ _ (subscriptTail _ _ (Value.ref _) (Value.int _ _)) _ _ _); k_dflt (refine' item_led ?Nz9 ?mz9 ?az9 ?bz9 ?xz9 ?_; (case Nz9 => k_asm); (case mz9 => k_mem); (case az9 => omega); (case bz9 => omega); (case xz9 => assumption))) | (k_end; kc_close) | (k_end; wrow_close) | walk1 | (dsimp only; walk1) | (leave1; (try dsimp only)) | fail "no step"))
      (rename Fr _ _ _ _ => kF); (rename News _ _ _ _ => kN)
      clear hk
      (rename Obj.IsDictOf _ _ _ => kD)
      exact hret _ _ _ _ kF kN ⟨_, _, rfl, rfl, kD⟩))) only [↓wr_true]
/-- the table of functors: its keys are tuples of the ledger -/
noncomputable def FTab (w : World) (R : List (Addr × Obj)) (o : Obj) (xs : List (List Int × Addr × Value)) : Prop :=
  ∃ es ep, o.ExactDict ∧ o.data = .dict es ep ∧ es.toList = xs.map (entryOfKey (tupleKind (intKind prg w))) ∧ (xs.map (·.1)).Nodup ∧ ∀ x ∈ xs, ∃ ok, (x.2.1, ok) ∈ R ∧ TupKeyObj (intKind prg w) x.1 ok
section
variable {A : Around} {E : Value → Shared → Prop} {s : Shared} {g : Heap} {L d a : Addr} {m : Str → Option Value} {news R R' : List (Addr × Obj)} {gg : Obj → List (Addr × Obj)} {o ok : Obj} {xs : List (List Int × Addr × Value)} {ks : List Int}
theorem ftab_at (N : News g L s.heap news) (hm : (d, o) ∈ news) (T : FTab w R o xs) (hR : ∀ p ∈ R, p ∈ news) : s.heap.DictOfH (tupleKind (intKind prg w)) d xs :=
  let ⟨es, ep, hc, hd, he, hn, hk⟩ := T
  ⟨o, es, ep, N.get hm, hc, hd, he, fun x hx => let ⟨_, hmk, t⟩ := hk x hx; t.key (N.get (hR _ hmk)), hn⟩
theorem ftab_method {pl : Sem Bool} {Q : Value × List Value → Shared → Prop} (N : News g L s.heap news) (hm : (d, o) ∈ news) (T : FTab w R o xs) (hR : ∀ p ∈ R, p ∈ news) (h : Q (.builtin "dict.get", [.ref d]) s) : wpAny (model prg w) A (getMethod (.ref d) "get" pl) Q E s :=
  have hD := ftab_at N hm T hR
  getMethod_builtin hD.typeIs PySem.F.plainAttrs_dict PySem.F.slot_dict_get PySem.F.type_dict_get (dictOfH_noDict hD) h
theorem ftab_get {Q : Value → Shared → Prop} {dflt : Value} (hu : A.units + 1 < cLine) (N : News g L s.heap news) (hm : (d, o) ∈ news) (T : FTab w R o xs) (hR : ∀ p ∈ R, p ∈ news) (lo : (d == sysModules) = false) (hka : (a, ok) ∈ news) (tk : TupKeyObj (intKind prg w) ks ok)
    (hn : atKey xs ks = none) (h : Q dflt { s with toks := s.toks + (ks.length + 1) }) : wpAny (model prg w) A (call (.builtin "dict.get") [.ref d, .ref a, dflt]) Q E s := by
  have hD := ftab_at N hm T hR
  refine call_meetsIn PySem.F.slot_dict_get hD.typeIs PySem.F.entry_dict_get (PySem.F.args_dict_get_3 _ _ _) (meetsH_dict_get_default (tupleKind (intKind prg w)) d a lo dflt) ⟨tupleKind_room_in1 hu, ks, xs, tk.key (N.get hka), hD, ?_⟩
  rw [hn]; exact h
theorem ftab_set {Q : Unit → Shared → Prop} {v : Value} (hu : A.units + 1 < cLine) (F : Fr g L s.heap m) (N : News g L s.heap news) (U : UpdF d o news gg) (T : FTab w R o xs) (hR : ∀ p ∈ R, p ∈ news) (hRd : ∀ p ∈ R, p.1 ≠ d) (hka : (a, ok) ∈ news) (tk : TupKeyObj (intKind prg w) ks ok)
    (hn : atKey xs ks = none) (hz : xs.length ≤ sizeLine)
    (h : ∀ h' o', Fr g L h' m → News g L h' (gg o') → FTab w ((a, ok) :: R) o' (xs ++ [(ks, a, v)]) → Q () { s with heap := h', toks := s.toks + (ks.length + 1) }) : wpAny (model prg w) A (setItem (.ref d) (.ref a) v) Q E s := by
  obtain ⟨pre, post, rfl, hg, aa, bb⟩ := U.split
  have hm : (d, o) ∈ pre ++ (d, o) :: post := List.mem_append_right _ (.head _)
  have hD := ftab_at N hm T hR
  refine wpAny_setItem_heap (hsz := hz) (knd := tupleKind (intKind prg w)) (tupleKind_room_in1 hu) (tk.key (N.get hka)) hD fun h' hm' hs => ?_
  obtain ⟨o', es', ep', ho', hc', hd', he', _, hn'⟩ := hm'
  obtain ⟨es, ep, hc, hd, he, hn2, hk⟩ := T
  refine h h' o' (F.change hs (N _ hm).2.1 (N.fresh hm)) (hg o' ▸ N.setIn aa bb hs ho') ⟨es', ep', hc', hd', ?_, ?_, fun x hx => ?_⟩
  · rw [← storedH_new hn]; exact he'
  · rw [← storedH_new hn]; exact hn'
  · rcases List.mem_append.mp hx with hx | hx
    · obtain ⟨oky, hmk, t⟩ := hk x hx
      exact ⟨oky, .tail _ hmk, t⟩
    · rw [List.mem_singleton.mp hx]
      exact ⟨ok, .head _, tk⟩
end
end
section
theorem walk_off_P17 : True := by
  w_top off
  trivial
theorem stop9z {p : Prop} (h : Stop9 p) : p := h
local macro_rules | `(tactic| walk_at "call builtin:dict.get") => `(tactic| (k_here; k_dflt (refine' ftab_get ?u ?N ?m ?d ?R ?lo ?ka ?tk ?hn ?_; (case d => assumption); (case hn => assumption); (case N => k_asm); (case m => k_mem); (case R => kqd_sub); (case lo => assumption); (case u => units_room); (case ka => k_mem); (case tk => exact TupKeyObj.made (.cons (intKind_is _ _ _ _) (.cons (intKind_is _ _ _ _) .nil))))))
local macro_rules | `(tactic| walk_at "setItem ref ref") => `(tactic| (k_here; k_dflt (refine' ftab_set ?u ?F ?N ?U ?d ?R ?Rd ?ka ?tk ?hn ?z ?_; (case d => assumption); (case hn => assumption); (case F => k_asm); (case N => k_asm); (case U => k_updF); (case R => kqd_sub); (case Rd => assumption); (case u => units_room); (case ka => k_mem); (case z => assumption); (case tk => exact TupKeyObj.made (.cons (intKind_is _ _ _ _) (.cons (intKind_is _ _ _ _) .nil)))); intro h' o' F' N' hd'; (try dsimp only at N')))
local macro_rules | `(tactic| walk_at "zz2") => `(tactic| skip)
theorem functor_new (SY TX AN FU FN : Addr) (fv : List Value) (n1 : Nat) (o : Obj) (rest : List (Addr × Obj)) (hS : SymAt rest SY TX AN FU FN) (hl : (FN == sysModules) = false) (xs : List (List Int × Addr × Value)) (hk : FTab w rest o xs) (i j : Int) (ti tj : Tok) (hv : atKey xs [i, j] = none) (hz : xs.length ≤ sizeLine) (hvs : fv.length ≤ 100)
   (hTA : @Ne Nat FU FN) (hrT : ∀ p ∈ rest, p.1 ≠ FU) (hrA : ∀ p ∈ rest, p.1 ≠ FN) :
   Spec w 102 [.ref SY, .int i ti, .int j tj] ((FU, listOf fv.toArray n1) :: (FN, o) :: rest) 3 200 (fun v post => ∃ D x n2 o', post = (FU, listOf (fv ++ [Value.ref D]).toArray n2) :: (FN, o') :: ((D, x) :: rest) ∧ DatIn [(D, x)] (.ref D) (.tuple [.int i, .int j]) ∧ FTab w ((D, x) :: rest) o' (xs ++ [([i, j], D, v)]) ∧ @LT.lt Nat _ FU D ∧ @LT.lt Nat _ FN D ∧ AllLt D rest) := by
  refine wr_mp ?_
  simp (disch := (k_dflt (
      unfold Spec
      k_fill
      intro p loose mean mg mb A A₀ env outer base h₀ L m s R B F X N T9 hA hf hke hh hd hu hret
      refine SymAt.elim hS ?_
      intro SYD h1 h2 h3 h4 t1 t2 t3 t4 n hm1 hm2
      clear hS
      ( refine' code_def ?k1z9 ?k2z9 ?k3z9 ?k4z9 ?k5z9 ?kAz9 ?kFz9 ?kKz9 ?k6z9 ?k7z9 ?k8z9 ?k9z9 ?kBz9 ?_ ?c2z9 ?c3z9 ?c4z9 ?c5z9; (case kAz9 => assumption); (case kFz9 => assumption); (case kKz9 => assumption); (case k1z9 => k_asm); (case k2z9 => k_asm); (case k3z9 => k_asm); (case k4z9 => k_asm); (case k5z9 => k_asm); (case k6z9 => k_is); (case k7z9 => k_is); (case k8z9 => k_room); (case k9z9 => exact BindsTo.of_eq rfl); (case c5z9 => decide); (case kBz9 => exact locs rfl); (case c2z9 => exact rfl); (case c3z9 => exact rfl); (case c4z9 => exact rfl); k_whole; intro _ _ _ _ _ _ _ _ _; (with_reducible refine wp_never ?_); (try dsimp only); (try k_fold))
      (repeat' (first | (k_unfold; (try dsimp only)) | (k_here; (with_reducible show wpAny _ _ (getMethod (Value.ref _) (Str.ofString "get") _) _ _ _); k_dflt (refine' ftab_method ?N ?m ?d ?R ?_; (case d => assumption); (case N => k_asm); (case m => k_mem); (case R => kqd_sub))) | (k_here; (with_reducible show wpAny _ _ (setItem (Value.ref _) (Value.int _ _) _) _ _ _); k_dflt (refine' set_led ?Fz9 ?Nz9 ?Uz9 ?az9 ?bz9 ?zz9 ?_; (case Fz9 => k_asm); (case Nz9 => k_asm); (case Uz9 => k_upd); (case az9 => ksa_idx); (case bz9 => ksa_idx); (case zz9 => ksa_idx); k_whole); intro _ _ _; (try k_sweep)) | (k_here; (with_reducible show wpAny _ _ (call (Value.builtin "list.append") [Value.ref _, _]) _ _ _); k_dflt (refine' append_led ?Fz9 ?Nz9 ?Uz9 ?zz9 ?_; (case Fz9 => k_asm); (case Nz9 => k_asm); (case Uz9 => k_upd); (case zz9 => ksa_idx); k_whole); intro _ _ _; (try k_sweep)) | (k_here; (with_reducible show wpAny _ _ (call (Value.builtin "len") [Value.ref _]) _ _ _); k_dflt (refine' len_led ?Nz9 ?mz9 ?zz9 ?_; (case Nz9 => k_asm); (case mz9 => k_mem); (case zz9 => ksa_idx); k_whole); intro _ _) | (k_here; (with_reducible show wpAny _ _ (subscriptTail _ _ (Value.ref _) (Value.int _ _)) _ _ _); k_dflt (refine' item_led ?Nz9 ?mz9 ?az9 ?bz9 ?xz9 ?_; (case Nz9 => k_asm); (case mz9 => k_mem); (case az9 => omega); (case bz9 => omega); (case xz9 => assumption))) | (k_end; kc_close) | (k_end; wrow_close) | walk1 | (dsimp only; walk1) | (leave1; (try dsimp only)) | fail "no step"))
      (rename Fr _ _ _ _ => kF); (rename News _ _ _ _ => kN)
      clear hk
      (rename FTab _ _ _ _ => kD)
      refine hret _ _ _ _ kF (News.sub kN ?_) ⟨_, _, n1 + 1, _, rfl, .tuple (.head _) (.cons (.int _ _) (.cons (.int _ _) .nil)), kD, by assumption, by assumption, by assumption⟩
      intro p hp
      simp only [List.mem_cons] at hp ⊢
      rcases hp with hp | hp | hp | hp <;> simp [hp]))) only [↓wr_true]
theorem at_app {K : Type} [DecidableEq K] {kvs : List (K × Value)} {x y : K} {v : Value} : valueAt (kvs ++ [(x, v)]) y = (valueAt kvs y).or (if x = y then some v else none) := by
  unfold valueAt
  rw [List.find?_append]
  cases h : kvs.find? fun kv => kv.1 = y with
  | some p => simp
  | none =>
    by_cases e : x = y <;> simp [e]
/-- the table of atoms after some of the texts -/
noncomputable def AtomTab (w : World) (done : List Str) (od : Obj) : Prop := ∃ kvs : List (Str × Value), od.IsDictOf (strKind prg w) kvs ∧ kvs.length = done.length ∧ (∀ (i : Nat) x, done[i]? = some x → ∃ t, valueAt kvs x = some (.int (i : Int) t)) ∧ ∀ x, x ∉ done → valueAt kvs x = none
theorem AtomTab.next {done : List Str} {kvs : List (Str × Value)} {od' : Obj} {x : Str} {t : Tok} (hl : kvs.length = done.length) (h1 : ∀ (i : Nat) x, done[i]? = some x → ∃ t, valueAt kvs x = some (.int (i : Int) t)) (h2 : ∀ x, x ∉ done → valueAt kvs x = none) (hx : x ∉ done)
    (hd : od'.IsDictOf (strKind prg w) (stored kvs x (.int (done.length : Int) t))) : AtomTab w (done ++ [x]) od' := by
  rw [stored_absent (h2 x hx)] at hd
  refine ⟨_, hd, by simp [hl], fun i y hi => ?_, fun y hy => ?_⟩
  · rw [at_app]
    by_cases hlt : i < done.length
    · rw [List.getElem?_append_left hlt] at hi
      obtain ⟨t', e⟩ := h1 i y hi
      exact ⟨t', by rw [e]; rfl⟩
    · rw [List.getElem?_append_right (by omega)] at hi
      have e0 : i - done.length = 0 := by
        rcases Nat.eq_zero_or_pos (i - done.length) with h | h
        · exact h
        · rw [List.getElem?_eq_none (by simp only [List.length_cons, List.length_nil]; omega)] at hi; cases hi
      rw [e0] at hi
      obtain rfl : x = y := by simpa using hi
      refine ⟨t, ?_⟩
      rw [h2 x hx, if_pos rfl]
      have : i = done.length := by omega
      rw [this]; rfl
  · have h3 : y ∉ done := fun h => hy (List.mem_append.mpr (.inl h))
    have h4 : x ≠ y := fun h => hy (by simp [h])
    rw [at_app, h2 y h3, if_neg h4]; rfl
end
section
theorem walk_off_P18 : True := by
  w_top off
  trivial
noncomputable def symDef : List Stmt × Scope := defOf (clsBody (PySem.Challenge.pw_no0174_01.main.body.drop 13))
noncomputable abbrev symEnv (L : Addr) : Env := envOf (Str.ofString "Symbols.__init__") symDef.2 L 81 (.ref 80)
noncomputable def symFor1 : List Stmt := loopBody (symDef.1.drop 4)
noncomputable def symFor2 : List Stmt := loopBody (symDef.1.drop 5)
local macro_rules | `(tactic| walk_at "call ref") => `(tactic| (k_here; (with_reducible show wpAny _ _ (call (Value.ref 88) _) _ _ _); k_dflt (refine' Spec.use (atom_new _ _ _ _ _ _ _ _ _ ?hS ?hl _ ?hk _ _ ?hv ?hz ?hvs ?hTA ?hrT ?hrA) ?kB ?kF ?kX ?kN ?kT ?kA ?kf ?kk ?kh ?kd ?ku ?_; ktn_step; (case hS => assumption); (case hk => assumption); (case hv => assumption); (case hl => assumption); (case hz => assumption); (case hvs => assumption); (case hTA => assumption); (case hrT => assumption); (case hrA => assumption); intro v9 post9 h9 tk9 F9 N9 hp9; obtain ⟨t9, o9, e9, f9, k9⟩ := hp9; subst e9; subst f9; (try dsimp only); (try k_fold))))
theorem atoms_turn {p : Program} {loose : List Str} {mean : ExcName → Option Value} {mg mb : Str → Option Value} {A : Around} {env : Env} {outer : List Env} {base g h : Heap} {L : Addr} {s : Shared} {tk : Nat} {m : Str → Option Value} {Q : Flow → Shared → Prop}
   (B : Below A base (env :: outer) g) (X : (hk.heap_1 w.params).In g) (T9 : Top p loose mean mg mb g) (hA : A.frames = some (env :: outer)) (hh : A.handled = none) (hd : A.depth + 20 < 1000) (hu : A.units + 500 < 9900)
   (SY TX AN FU FN I : Addr) (io od : Obj) (done : List Str) (vs : List Value) (n1 : Nat) (R : List (Addr × Obj)) (hS : SymAt R SY TX AN FU FN) (hl : (AN == sysModules) = false) (hT : AtomTab w done od) (hvl : vs.length = done.length) (hdl : done.length ≤ 90)
   (x : Str) (v : Value) (hx : x ∉ done) (hv : DatIn R v (.str x)) (hTA : @Ne Nat TX AN) (hrT : ∀ p ∈ (I, io) :: R, p.1 ≠ TX) (hrA : ∀ p ∈ (I, io) :: R, p.1 ≠ AN)
   (F : Fr g L h (fun z => if z = Str.ofString "text" then some v else m z)) (hm : m (Str.ofString "self") = some (.ref SY)) (N : News g L h ((I, io) :: (TX, listOf vs.toArray n1) :: (AN, od) :: R))
   (hQ : ∀ h' tk' o', Fr g L h' (fun z => if z = Str.ofString "text" then some v else m z) → News g L h' ((I, io) :: (TX, listOf (vs ++ [v]).toArray (n1 + 1)) :: (AN, o') :: R) → AtomTab w (done ++ [x]) o' → Q .next { s with heap := h', toks := tk' }) :
   wpAny (model prg w) (A.deeper (symEnv L)) (execs symFor1 (symEnv L)) Q (fun _ _ => False) { s with heap := h, toks := tk } := by
  unfold symFor1 symEnv prg
  conv in (execs _ _) => arg 1; whnf
  conv in (occs := *) symDef.2 => all_goals whnf
  revert X
  k_fill
  intro X
  have hl9 : ∀ q ∈ [(Str.ofString "self", Value.ref SY), (Str.ofString "text", v)], (fun z => if z = Str.ofString "text" then some v else m z) q.1 = some q.2 := by
    intro q hq
    simp only [List.mem_cons, List.not_mem_nil, or_false] at hq
    rcases hq with rfl | rfl
    · exact hm
    · rfl
  have F' := fr_stdL F _ hl9
  have hst := stdL_eq (m := fun z => if z = Str.ofString "text" then some v else m z) _ hl9
  clear F
  obtain ⟨kvs, k1, k2, k3, k4⟩ := hT
  have k5 := k4 x hx
  have hz : kvs.length ≤ sizeLine := by rw [PySem.sizeLine_eq]; omega
  have hvs : vs.length ≤ 100 := by omega
  have hS2 : SymAt ((I, io) :: R) SY TX AN FU FN := by
    refine SymAt.elim hS ?_
    intro a1 a2 a3 a4 a5 a6 a7 a8 a9 a10 b1 b2
    clear hS
    exact ⟨a1, a2, a3, a4, a5, a6, a7, a8, a9, a10, .tail _ b1, .tail _ b2⟩
  refine SymAt.elim hS ?_
  intro SYD h1 h2 h3 h4 t1 t2 t3 t4 n hm1 hm2
  clear hS
  have N' : News g L h ((TX, listOf vs.toArray n1) :: (AN, od) :: (I, io) :: R) := News.sub N (by
    intro p hp
    simp only [List.mem_cons] at hp ⊢
    rcases hp with hp | hp | hp | hp <;> simp [hp])
  clear N
  cases hv with
  | str _ tx =>
    (repeat' (first | (k_unfold; (try dsimp only)) | (k_here; (with_reducible show wpAny _ _ (setItem (Value.ref _) (Value.int _ _) _) _ _ _); k_dflt (refine' set_led ?Fz9 ?Nz9 ?Uz9 ?az9 ?bz9 ?zz9 ?_; (case Fz9 => k_asm); (case Nz9 => k_asm); (case Uz9 => k_upd); (case az9 => ksa_idx); (case bz9 => ksa_idx); (case zz9 => ksa_idx); k_whole); intro _ _ _; (try k_sweep)) | (k_here; (with_reducible show wpAny _ _ (call (Value.builtin "list.append") [Value.ref _, _]) _ _ _); k_dflt (refine' append_led ?Fz9 ?Nz9 ?Uz9 ?zz9 ?_; (case Fz9 => k_asm); (case Nz9 => k_asm); (case Uz9 => k_upd); (case zz9 => ksa_idx); k_whole); intro _ _ _; (try k_sweep)) | (k_here; (with_reducible show wpAny _ _ (call (Value.builtin "len") [Value.ref _]) _ _ _); k_dflt (refine' len_led ?Nz9 ?mz9 ?zz9 ?_; (case Nz9 => k_asm); (case mz9 => k_mem); (case zz9 => ksa_idx); k_whole); intro _ _) | (k_here; (with_reducible show wpAny _ _ (subscriptTail _ _ (Value.ref _) (Value.int _ _)) _ _ _); k_dflt (refine' item_led ?Nz9 ?mz9 ?az9 ?bz9 ?xz9 ?_; (case Nz9 => k_asm); (case mz9 => k_mem); (case az9 => omega); (case bz9 => omega); (case xz9 => assumption))) | (k_end; kc_close) | (k_end; wrow_close) | walk1 | (dsimp only; walk1) | (leave1; (try dsimp only)) | fail "no step"))
    (rename Fr _ _ _ _ => kF); (rename News _ _ _ _ => kN)
    rename_i kD
    rw [hst] at kF
    rw [hvl] at kD
    refine hQ _ _ _ kF (News.sub kN ?_) (AtomTab.next k2 k3 k4 hx kD)
    intro p hp
    simp only [List.mem_cons] at hp ⊢
    rcases hp with hp | hp | hp | hp <;> simp [hp]
theorem atoms_items {p : Program} {loose : List Str} {mean : ExcName → Option Value} {mg mb : Str → Option Value} {A : Around} {env : Env} {outer : List Env} {base g : Heap} {L : Addr} {s : Shared} {Q : Flow → Shared → Prop}
   (B : Below A base (env :: outer) g) (X : (hk.heap_1 w.params).In g) (T9 : Top p loose mean mg mb g) (hA : A.frames = some (env :: outer)) (hh : A.handled = none) (hd : A.depth + 20 < 1000) (hu : A.units + 500 < 9900)
   (SY TX AN FU FN I : Addr) (R : List (Addr × Obj)) (kp : Addr × Obj) (hkp : kp ∈ R) (hS : SymAt R SY TX AN FU FN) (hl : (AN == sysModules) = false) (hTA : @Ne Nat TX AN) (hIT : @Ne Nat I TX) (hIA : @Ne Nat I AN) (hrT : ∀ p ∈ R, p.1 ≠ TX) (hrA : ∀ p ∈ R, p.1 ≠ AN) (hrI : ∀ p ∈ R, p.1 ≠ I) :
   ∀ (xs : List Str) (ws : List Value) (done : List Str) (vs : List Value) (n1 : Nat) (od : Obj) (m : Str → Option Value), DatAll R ws (xs.map .str) → (done ++ xs).Nodup → AtomTab w done od → vs.length = done.length → done.length + xs.length ≤ 90 → m (Str.ofString "self") = some (.ref SY) →
     (∀ h' tk' m' vs' n' o', Fr g L h' m' → News g L h' ((TX, listOf (List.toArray vs') n') :: (AN, o') :: R) → vs'.length = vs.length + xs.length → AtomTab w (done ++ xs) o' → m' (Str.ofString "self") = some (.ref SY) → Q .next { s with heap := h', toks := tk' }) →
     ItemsRest prg w (A.deeper (symEnv L)) (fun _ _ => False) g (symEnv L) (loopVar (symDef.1.drop 4)) symFor1 Q s [(I, "tuple_iterator")] [kp] (ws.map .val) m ((TX, listOf vs.toArray n1) :: (AN, od) :: R)
  | [], _, done, vs, n1, od, m, .nil, _, hT, _, _, hm, hQ => by
    refine ItemsRest.zero fun h tk F N => ?_
    exact hQ h tk m vs n1 od F N rfl (by rw [List.append_nil]; exact hT) hm
  | x :: xs, _, done, vs, n1, od, m, .cons (v := v) hv hvs, hn, hT, hvl, hle, hm, hQ => by
    refine ItemsRest.val fun h tk F => ?_
    intro io hio N
    have hx : x ∉ done := fun hx => by
      have := (List.nodup_append.mp hn).2.2 x hx x (.head _)
      exact this rfl
    have hle' : done.length + xs.length + 1 ≤ 90 := by simpa [Nat.add_assoc] using hle
    conv in (assign _ _ _) => arg 1; whnf
    revert X
    k_fill
    intro X
    walk1
    walk1
    (rename Fr _ _ _ _ => F'); (rename News _ _ _ _ => N')
    refine atoms_turn B X T9 hA hh hd hu SY TX AN FU FN I io od done vs n1 R hS hl hT hvl (by omega) x v hx hv hTA ?_ ?_ F' hm N' ?_
    · intro p hp
      rcases List.mem_cons.mp hp with rfl | hp
      · exact hIT
      · exact hrT p hp
    · intro p hp
      rcases List.mem_cons.mp hp with rfl | hp
      · exact hIA
      · exact hrA p hp
    intro h' tk' o' F2 N2 T2
    show UnrEndW _ _ _ _ _ _
    refine ⟨h', tk', _, (TX, listOf (vs ++ [v]).toArray (n1 + 1)) :: (AN, o') :: R, rfl, F2, N2, ?_, ⟨⟨.tail _ (.tail _ hkp), trivial⟩, ?_⟩⟩
    · intro p hp q hq
      rw [List.mem_singleton.mp hq]
      rcases List.mem_cons.mp hp with rfl | hp
      · exact Ne.symm hIT
      · rcases List.mem_cons.mp hp with rfl | hp
        · exact Ne.symm hIA
        · exact hrI p hp
    · refine atoms_items B X T9 hA hh hd hu SY TX AN FU FN I R kp hkp hS hl hTA hIT hIA hrT hrA hrI xs _ (done ++ [x]) (vs ++ [v]) (n1 + 1) o' _ hvs (by rw [List.append_assoc]; exact hn) T2 (by simp [hvl]) (by simp; omega) hm ?_
      intro h3 tk3 m3 vs3 n3 o3 F3 N3 l3 T3 hm3
      refine hQ h3 tk3 m3 vs3 n3 o3 F3 N3 (by rw [l3]; simp; omega) (by rw [List.append_assoc] at T3; exact T3) hm3
end
section
theorem walk_off_P19 : True := by
  w_top off
  trivial
noncomputable def keyOf (p : Str × Int) : List Int := [(atoms.idxOf p.1 : Int), p.2]
noncomputable def datOf (p : Str × Int) : Dat := .tuple [.int (atoms.idxOf p.1 : Int), .int p.2]
theorem keys_nodup : (functors.map keyOf).Nodup := by decide +kernel
theorem texts_in : ∀ p ∈ functors, p.1 ∈ atoms := by decide +kernel
theorem f12 : (functors[12]?).map (·.2) = some 1 := by decide +kernel
theorem f13 : (functors[13]?).map (·.2) = some 2 := by decide +kernel
theorem atoms_nodup : atoms.Nodup := by decide +kernel
local macro_rules | `(tactic| ktr_enter) => `(tactic| (
  refine' code_def ?k1 ?k2 ?k3 ?k4 ?k5 ?kA ?kF ?kK ?k6 ?k7 ?k8 ?k9 ?kB ?_ ?c2 ?c3 ?c4 ?c5; (case kA => first | exact deeper_frames _ (by assumption) | exact deeper_frames _ (deeper_frames _ (by assumption)) | exact deeper_frames _ (deeper_frames _ (deeper_frames _ (by assumption)))); (case kF => exact rfl); (case kK => exact rfl); (case k1 => k_asm); (case k2 => k_asm); (case k3 => k_asm); (case k4 => k_asm); (case k5 => k_asm); (case k6 => k_is); (case k7 => k_is); (case k8 => k_room); (case k9 => exact BindsTo.of_eq rfl); (case c5 => decide); (case kB => exact locs rfl); (case c2 => exact rfl); (case c3 => exact rfl); (case c4 => exact rfl); k_whole; intro g' L' h' FG' F' N' B' X' T'; (with_reducible refine wp_never ?_); (try dsimp only); (try k_fold)))
theorem idx_at {x : Str} {l : List Str} (h : x ∈ l) : l[l.idxOf x]? = some x := by
  have h1 := List.idxOf_lt_length_iff.mpr h
  rw [List.getElem?_eq_getElem h1, List.getElem_idxOf]
theorem ftab_drop {X Y : List (Addr × Obj)} {I : Addr} {io o : Obj} {xs : List (List Int × Addr × Value)} (hio : io.cls = .type "tuple_iterator") (h : FTab w (X ++ (I, io) :: Y) o xs) : FTab w (X ++ Y) o xs := by
  obtain ⟨es, ep, a1, a2, a3, a4, a5⟩ := h
  refine ⟨es, ep, a1, a2, a3, a4, fun x hx => ?_⟩
  obtain ⟨ok, b1, b2⟩ := a5 x hx
  refine ⟨ok, ?_, b2⟩
  rcases List.mem_append.mp b1 with b | b
  · exact List.mem_append.mpr (.inl b)
  · rcases List.mem_cons.mp b with e | b
    · have e2 := (Prod.mk.inj e).2
      have h3 := b2.1
      rw [e2, hio] at h3
      exact absurd (Value.type.inj h3) (by decide)
    · exact List.mem_append.mpr (.inr b)
theorem fled {g h : Heap} {L FU FN D I : Addr} {a o x io : Obj} {R : List (Addr × Obj)} (N : News g L h ((FU, a) :: (FN, o) :: (D, x) :: (I, io) :: R)) : News g L h ((I, io) :: (FU, a) :: (FN, o) :: (D, x) :: R) := News.sub N (by
  intro p hp
  simp only [List.mem_cons] at hp ⊢
  rcases hp with hp | hp | hp | hp | hp <;> simp [hp])
noncomputable def FDone (w : World) (R : List (Addr × Obj)) (done : List (Str × Int)) (fv : List Value) (o : Obj) : Prop :=
  ∃ xs : List (List Int × Addr × Value), FTab w R o xs ∧ xs.map (·.1) = done.map keyOf ∧ DatAll R fv (done.map datOf)
theorem functors_turn {p : Program} {loose : List Str} {mean : ExcName → Option Value} {mg mb : Str → Option Value} {A : Around} {env : Env} {outer : List Env} {base g h : Heap} {L : Addr} {s : Shared} {tk : Nat} {m : Str → Option Value} {Q : Flow → Shared → Prop}
   (B : Below A base (env :: outer) g) (X : (hk.heap_1 w.params).In g) (T9 : Top p loose mean mg mb g) (hA : A.frames = some (env :: outer)) (hh : A.handled = none) (hd : A.depth + 20 < 1000) (hu : A.units + 500 < 9900)
   (SY TX AN FU FN I : Addr) (io od o : Obj) (hio : io.cls = .type "tuple_iterator") (done : List (Str × Int)) (fv : List Value) (n1 : Nat) (R : List (Addr × Obj)) (hS : SymAt R SY TX AN FU FN) (hAN : (AN == sysModules) = false) (hFN : (FN == sysModules) = false) (hAm : (AN, od) ∈ R) (hAt : AtomTab w atoms od) (hF : FDone w R done fv o) (hdl : done.length ≤ 90)
   (x : Str × Int) (v : Value) (hx : keyOf x ∉ done.map keyOf) (hxa : x.1 ∈ atoms) (hv : DatIn R v (fnD x)) (hTA : @Ne Nat FU FN) (hrT : ∀ p ∈ (I, io) :: R, p.1 ≠ FU) (hrA : ∀ p ∈ (I, io) :: R, p.1 ≠ FN)
   (F : Fr g L h (fun z => if z = Str.ofString "row" then some v else m z)) (hm : m (Str.ofString "self") = some (.ref SY)) (N : News g L h ((I, io) :: (FU, listOf fv.toArray n1) :: (FN, o) :: R))
   (hQ : ∀ h' tk' n' o' D y, Fr g L h' (fun z => if z = Str.ofString "row" then some v else m z) → News g L h' ((I, io) :: (FU, listOf (List.toArray (fv ++ [Value.ref D])) n') :: (FN, o') :: ((D, y) :: R)) → @LT.lt Nat _ FU D → @LT.lt Nat _ FN D → AllLt D ((I, io) :: R) → FDone w ((D, y) :: R) (done ++ [x]) (fv ++ [.ref D]) o' → Q .next { s with heap := h', toks := tk' }) :
   wpAny (model prg w) (A.deeper (symEnv L)) (execs symFor2 (symEnv L)) Q (fun _ _ => False) { s with heap := h, toks := tk } := by
  refine wr_mp ?_
  simp (disch := (k_dflt (
      unfold symFor2 symEnv prg
      conv in (execs _ _) => arg 1; whnf
      conv in (occs := *) symDef.2 => all_goals whnf
      revert X
      k_fill
      intro X
      have hl9 : ∀ q ∈ [(Str.ofString "self", Value.ref SY), (Str.ofString "row", v)], (fun z => if z = Str.ofString "row" then some v else m z) q.1 = some q.2 := by
        intro q hq
        simp only [List.mem_cons, List.not_mem_nil, or_false] at hq
        rcases hq with rfl | rfl
        · exact hm
        · rfl
      have F' := fr_stdL F _ hl9
      have hst := stdL_eq (m := fun z => if z = Str.ofString "row" then some v else m z) _ hl9
      clear F
      obtain ⟨kvs, k1, k2, k3, k4⟩ := hAt
      obtain ⟨t9, k5⟩ := k3 (atoms.idxOf x.1) x.1 (idx_at hxa)
      have k6 : (0 : Int) ≤ (atoms.idxOf x.1 : Nat) := Int.natCast_nonneg _
      obtain ⟨xs, f1, f2, f3⟩ := hF
      have hfl : fv.length = done.length := by rw [f3.length, List.length_map]
      have hxl : xs.length = done.length := by have := congrArg List.length f2; simpa using this
      have hz : xs.length ≤ sizeLine := by rw [PySem.sizeLine_eq]; omega
      have hvs : fv.length ≤ 100 := by omega
      have hn : atKey xs [((atoms.idxOf x.1 : Nat) : Int), x.2] = none := by
        unfold atKey
        rw [Option.map_eq_none_iff, List.find?_eq_none]
        intro q hq e
        refine hx ?_
        rw [← f2]
        have e2 : q.1 = keyOf x := of_decide_eq_true e
        rw [← e2]
        exact List.mem_map_of_mem hq
      have sub : ∀ p ∈ R, p ∈ (I, io) :: R := fun p hp => .tail _ hp
      refine SymAt.elim hS ?_
      intro SYD h1 h2 h3 h4 t1 t2 t3 t4 n hm1 hm2
      clear hS
      have hS2 : SymAt ((I, io) :: R) SY TX AN FU FN := ⟨SYD, h1, h2, h3, h4, t1, t2, t3, t4, n, .tail _ hm1, .tail _ hm2⟩
      have hS3 : SymAt ((FU, listOf fv.toArray n1) :: (FN, o) :: (I, io) :: R) SY TX AN FU FN := ⟨SYD, h1, h2, h3, h4, t1, t2, t3, t4, n, .tail _ (.tail _ (.tail _ hm1)), .tail _ (.tail _ (.tail _ hm2))⟩
      have f1' : FTab w ((I, io) :: R) o xs := by
        obtain ⟨es, ep, a1, a2, a3, a4, a5⟩ := f1
        exact ⟨es, ep, a1, a2, a3, a4, fun x hx => let ⟨ok, b1, b2⟩ := a5 x hx; ⟨ok, .tail _ b1, b2⟩⟩
      have N' : News g L h ((FU, listOf fv.toArray n1) :: (FN, o) :: (I, io) :: R) := News.sub N (by
        intro p hp
        simp only [List.mem_cons] at hp ⊢
        rcases hp with hp | hp | hp | hp <;> simp [hp])
      clear N
      obtain ⟨y, k⟩ := x
      obtain ⟨a, n', t', u', rfl, hm3⟩ := dat_ci hv
      dsimp only at k5 k6 hn hxa
      (repeat' (first | (k_unfold; (try dsimp only)) | (k_here; (with_reducible show wpAny _ _ (call (Value.ref 102) _) _ _ _); k_dflt (refine' Spec.use (functor_new _ _ _ _ _ _ _ _ _ ?hS ?hl _ ?hk _ _ _ _ ?hv ?hz ?hvs ?hTA ?hrT ?hrA) ?kB ?kF ?kX ?kN ?kT ?kA ?kf ?kk ?kh ?kd ?ku ?_; ktn_step; (case hS => assumption); (case hk => assumption); (case hv => assumption); (case hl => assumption); (case hz => assumption); (case hvs => assumption); (case hTA => assumption); (case hrT => assumption); (case hrA => assumption); intro v9 post9 h9 tk9 F9 N9 hp9; obtain ⟨D9, x9, n9, o9, e9, d9, k9, l9, l8, l7⟩ := hp9; subst e9; (try dsimp only); (try k_fold))) | (k_here; (with_reducible show wpAny _ _ (call (Value.ref 88) _) _ _ _); k_dflt (refine' Spec.use (atom_old _ _ _ _ _ _ _ ?hS ?hA9 ?hl _ ?hk _ _ _ _ ?hv ?h0) ?kB ?kF ?kX ?kN ?kT ?kA ?kf ?kk ?kh ?kd ?ku ?_; ktn_step; (case hS => assumption); (case hk => assumption); (case hv => assumption); (case hl => assumption); (case hA9 => k_mem); (case h0 => assumption); intro v9 post9 h9 tk9 F9 N9 hp9; obtain ⟨e9, f9⟩ := hp9; subst e9; (rw [f9] at N9); clear f9; (try dsimp only); (try k_fold))) | (k_here; (with_reducible show wpAny _ _ (call (Value.ref _) _) _ _ _); k_dflt (refine wpAny_call ?_; ktr_enter)) | (k_here; (with_reducible show wpAny _ _ (setItem (Value.ref _) (Value.int _ _) _) _ _ _); k_dflt (refine' set_led ?Fz9 ?Nz9 ?Uz9 ?az9 ?bz9 ?zz9 ?_; (case Fz9 => k_asm); (case Nz9 => k_asm); (case Uz9 => k_upd); (case az9 => ksa_idx); (case bz9 => ksa_idx); (case zz9 => ksa_idx); k_whole); intro _ _ _; (try k_sweep)) | (k_here; (with_reducible show wpAny _ _ (call (Value.builtin "list.append") [Value.ref _, _]) _ _ _); k_dflt (refine' append_led ?Fz9 ?Nz9 ?Uz9 ?zz9 ?_; (case Fz9 => k_asm); (case Nz9 => k_asm); (case Uz9 => k_upd); (case zz9 => ksa_idx); k_whole); intro _ _ _; (try k_sweep)) | (k_here; (with_reducible show wpAny _ _ (call (Value.builtin "len") [Value.ref _]) _ _ _); k_dflt (refine' len_led ?Nz9 ?mz9 ?zz9 ?_; (case Nz9 => k_asm); (case mz9 => k_mem); (case zz9 => ksa_idx); k_whole); intro _ _) | (k_here; (with_reducible show wpAny _ _ (subscriptTail _ _ (Value.ref _) (Value.int _ _)) _ _ _); k_dflt (refine' item_led ?Nz9 ?mz9 ?az9 ?bz9 ?xz9 ?_; (case Nz9 => k_asm); (case mz9 => k_mem); (case az9 => omega); (case bz9 => omega); (case xz9 => assumption))) | (k_end; kc_close) | (k_end; wrow_close) | walk1 | (dsimp only; walk1) | (leave1; (try dsimp only)) | fail "no step"))
      (rename Fr _ _ _ _ => kF); (rename News _ _ _ _ => kN)
      rename FTab w (_ :: _) _ _ => kT
      rename DatIn [_] _ _ => kD
      rw [hst] at kF
      refine hQ _ _ _ _ _ _ kF (fled kN) (by assumption) (by assumption) (by assumption) ⟨_, ftab_drop (X := [_]) hio kT, ?_, ?_⟩
      · rw [List.map_append, f2, List.map_append]; rfl
      · rw [List.map_append]
        exact (f3.mono fun p hp => .tail _ hp).append (.cons (kD.mono fun p hp => by rw [List.mem_singleton.mp hp]; exact .head _) .nil)))) only [↓wr_true]
end
section
theorem walk_off_P20 : True := by
  w_top off
  trivial
theorem functors_items {p : Program} {loose : List Str} {mean : ExcName → Option Value} {mg mb : Str → Option Value} {A : Around} {env : Env} {outer : List Env} {base g : Heap} {L : Addr} {s : Shared} {Q : Flow → Shared → Prop}
   (B : Below A base (env :: outer) g) (X : (hk.heap_1 w.params).In g) (T9 : Top p loose mean mg mb g) (hA : A.frames = some (env :: outer)) (hh : A.handled = none) (hd : A.depth + 20 < 1000) (hu : A.units + 500 < 9900)
   (SY TX AN FU FN I : Addr) (od : Obj) (kp : Addr × Obj) (hAN : (AN == sysModules) = false) (hFN : (FN == sysModules) = false) (hAt : AtomTab w atoms od) (hTA : @Ne Nat FU FN) (hIT : @Ne Nat I FU) (hIA : @Ne Nat I FN) :
   ∀ (xs : List (Str × Int)) (ws : List Value) (done : List (Str × Int)) (fv : List Value) (n1 : Nat) (o : Obj) (R : List (Addr × Obj)) (m : Str → Option Value), DatAll R ws (xs.map fnD) → ((done ++ xs).map keyOf).Nodup → (∀ x ∈ xs, x.1 ∈ atoms) → FDone w R done fv o → done.length + xs.length ≤ 90 → SymAt R SY TX AN FU FN → (AN, od) ∈ R → kp ∈ R →
     (∀ p ∈ R, p.1 ≠ FU) → (∀ p ∈ R, p.1 ≠ FN) → (∀ p ∈ R, p.1 ≠ I) → m (Str.ofString "self") = some (.ref SY) →
     (∀ h' tk' m' fv' n' o' new, Fr g L h' m' → News g L h' ((FU, listOf (List.toArray fv') n') :: (FN, o') :: (new ++ R)) → (∀ p ∈ new, ∀ q ∈ (FU, listOf fv.toArray n1) :: (FN, o) :: R, @LT.lt Nat _ q.1 p.1) → FDone w (new ++ R) (done ++ xs) fv' o' → Q .next { s with heap := h', toks := tk' }) →
     ItemsRest prg w (A.deeper (symEnv L)) (fun _ _ => False) g (symEnv L) (loopVar (symDef.1.drop 5)) symFor2 Q s [(I, "tuple_iterator")] [kp] (ws.map .val) m ((FU, listOf fv.toArray n1) :: (FN, o) :: R)
  | [], _, done, fv, n1, o, R, m, .nil, _, _, hF, _, _, _, _, _, _, _, hm, hQ => by
    refine ItemsRest.zero fun h tk F N => ?_
    exact hQ h tk m fv n1 o [] F N (fun _ h => nomatch h) (by rw [List.append_nil]; exact hF)
  | x :: xs, _, done, fv, n1, o, R, m, .cons (v := v) hv hvs, hn, hxa, hF, hle, hS, hAm, hkp, hrT, hrA, hrI, hm, hQ => by
    refine ItemsRest.val fun h tk F => ?_
    intro io hio N
    have hx : keyOf x ∉ done.map keyOf := fun hx => by
      rw [List.map_append] at hn
      exact (List.nodup_append.mp hn).2.2 _ hx _ (.head _) rfl
    have hle' : done.length + xs.length + 1 ≤ 90 := by simpa [Nat.add_assoc] using hle
    conv in (assign _ _ _) => arg 1; whnf
    revert X
    k_fill
    intro X
    walk1
    walk1
    (rename Fr _ _ _ _ => F'); (rename News _ _ _ _ => N')
    refine functors_turn B X T9 hA hh hd hu SY TX AN FU FN I io od o hio done fv n1 R hS hAN hFN hAm hAt hF (by omega) x v hx (hxa x (.head _)) hv hTA ?_ ?_ F' hm N' ?_
    · intro p hp
      rcases List.mem_cons.mp hp with rfl | hp
      · exact hIT
      · exact hrT p hp
    · intro p hp
      rcases List.mem_cons.mp hp with rfl | hp
      · exact hIA
      · exact hrA p hp
    intro h' tk' n' o' D y F2 N2 l1 l2 l3 T2
    have l4 := ktn_ltOf l3
    have lI : @LT.lt Nat _ I D := l4 _ (.head _)
    show UnrEndW _ _ _ _ _ _
    refine ⟨h', tk', _, (FU, listOf (List.toArray (fv ++ [Value.ref D])) n') :: (FN, o') :: ((D, y) :: R), rfl, F2, N2, ?_, ⟨⟨.tail _ (.tail _ (.tail _ hkp)), trivial⟩, ?_⟩⟩
    · intro p hp q hq
      rw [List.mem_singleton.mp hq]
      rcases List.mem_cons.mp hp with rfl | hp
      · exact Ne.symm hIT
      · rcases List.mem_cons.mp hp with rfl | hp
        · exact Ne.symm hIA
        · rcases List.mem_cons.mp hp with rfl | hp
          · exact Nat.ne_of_gt lI
          · exact hrI p hp
    · have sub : ∀ p ∈ R, p ∈ (D, y) :: R := fun p hp => .tail _ hp
      have hS2 : SymAt ((D, y) :: R) SY TX AN FU FN := by
        refine SymAt.elim hS ?_
        intro a1 a2 a3 a4 a5 a6 a7 a8 a9 a10 b1 b2
        clear hS
        exact ⟨a1, a2, a3, a4, a5, a6, a7, a8, a9, a10, .tail _ b1, .tail _ b2⟩
      refine functors_items B X T9 hA hh hd hu SY TX AN FU FN I od kp hAN hFN hAt hTA hIT hIA xs _ (done ++ [x]) (fv ++ [.ref D]) n' o' ((D, y) :: R) (fun z => if z = Str.ofString "row" then some v else m z) (hvs.mono sub) (by rw [List.append_assoc]; exact hn) (fun x hx => hxa x (.tail _ hx)) T2 (by simp; omega) hS2 (sub _ hAm) (sub _ hkp) ?_ ?_ ?_ hm ?_
      · intro p hp
        rcases List.mem_cons.mp hp with rfl | hp
        · exact Nat.ne_of_gt l1
        · exact hrT p hp
      · intro p hp
        rcases List.mem_cons.mp hp with rfl | hp
        · exact Nat.ne_of_gt l2
        · exact hrA p hp
      · intro p hp
        rcases List.mem_cons.mp hp with rfl | hp
        · exact Nat.ne_of_gt lI
        · exact hrI p hp
      · intro h3 tk3 m3 fv3 n3 o3 new3 F3 N3 fr3 T3
        have e9 : new3 ++ (D, y) :: R = (new3 ++ [(D, y)]) ++ R := by simp
        rw [e9] at N3 T3
        rw [List.append_assoc done] at T3
        refine hQ h3 tk3 m3 fv3 n3 o3 _ F3 N3 (fun p hp q hq => ?_) T3
        rcases List.mem_append.mp hp with hp | hp
        · rcases List.mem_cons.mp hq with rfl | hq
          · exact fr3 p hp (FU, listOf (List.toArray (fv ++ [Value.ref D])) n') (.head _)
          · rcases List.mem_cons.mp hq with rfl | hq
            · exact fr3 p hp (FN, o') (.tail _ (.head _))
            · exact fr3 p hp q (.tail _ (.tail _ (.tail _ hq)))
        · rw [List.mem_singleton.mp hp]
          rcases List.mem_cons.mp hq with rfl | hq
          · exact l1
          · rcases List.mem_cons.mp hq with rfl | hq
            · exact l2
            · exact l4 q (.tail _ hq)
end
section
theorem walk_off_P21 : True := by
  w_top off
  trivial
theorem stop9y {p : Prop} (h : Stop9 p) : p := h
local macro_rules | `(tactic| walk_at "call ref") => `(tactic| (k_here; (with_reducible show wpAny _ _ (call (Value.ref 60) _) _ _ _); k_dflt (refine' Spec.use (atoms_spec _) ?kB ?kF ?kX ?kN ?kT ?kA ?kf ?kk ?kh ?kd ?ku ?_; ktn_step;  intro v9 post9 h9 tk9 F9 N9 hp9; obtain ⟨a9, v9, n9, e9, f9, l9, d9⟩ := hp9; subst e9; subst f9; replace l9 := ktn_ltOf l9; k_lt l9; (try dsimp only); (try k_fold))))
local macro_rules | `(tactic| walk_at "call ref") => `(tactic| (k_here; (with_reducible show wpAny _ _ (call (Value.ref 67) _) _ _ _); k_dflt (refine' Spec.use (functors_spec _) ?kB ?kF ?kX ?kN ?kT ?kA ?kf ?kk ?kh ?kd ?ku ?_; ktn_step;  intro v9 post9 h9 tk9 F9 N9 hp9; obtain ⟨a9, v9, n9, w9, e9, f9, l9, fr9, d9⟩ := hp9; subst e9; subst f9; replace l9 := ktn_ltOf l9; k_lt l9; (try dsimp only); (try k_fold))))
local macro_rules | `(tactic| walk_at "exec For Name Call cons nil") => `(tactic| (k_here; (with_reducible show wpAny _ _ (exec (Stmt.For _ _ _ _ _) _) _ _ _); (rename Fr _ _ _ _ => lF'); (with_unfolding_all refine' For_turns lF' ?_); k_whole))
local macro_rules | `(tactic| walk_at "pyIter ref") => `(tactic| (k_here; (with_reducible show wpAny _ _ (pyIter (Value.ref _)) (fun it s₂ => TurnsAt _ _ _ _ _ _ _ _ _ it s₂) _ _); k_dflt (refine' iter_tupTurns ?hh ?F ?N ?m ?c ?d ?_; (case F => k_asm); (case N => k_asm); (case m => k_mem); (case c => exact rfl); (case d => exact rfl); (case hh => first | assumption | exact ‹_ = none›)); intro i' l1; (try k_lt l1); refine stop9y ?_))
theorem strs_any {R R' : List (Addr × Obj)} : ∀ {vs : List Value} {xs : List Str}, DatAll R vs (xs.map .str) → DatAll R' vs (xs.map .str)
  | _, [], .nil => .nil
  | _, _ :: _, .cons h r => by cases h; exact .cons (.str _ _) (strs_any r)
/-- the two loops of the symbols' making -/
theorem sym_loops {p : Program} {loose : List Str} {mean : ExcName → Option Value} {mg mb : Str → Option Value} {A : Around} {env : Env} {outer : List Env} {base g h : Heap} {L : Addr} {s : Shared} {tk : Nat} {m : Str → Option Value} {Q : Flow → Shared → Prop}
   (B : Below A base (env :: outer) g) (X : (hk.heap_1 w.params).In g) (T9 : Top p loose mean mg mb g) (hA : A.frames = some (env :: outer)) (hh : A.handled = none) (hd : A.depth + 30 < 1000) (hu : A.units + 800 < 9900)
   (SY TX AN FU FN : Addr) (oA oF : Obj) (R : List (Addr × Obj)) (hS : SymAt R SY TX AN FU FN) (hAN : (AN == sysModules) = false) (hFN : (FN == sysModules) = false) (hA1 : oA.IsDictOf (strKind prg w) []) (hF1 : oF.IsDictOf (strKind prg w) [])
   (l1 : @LT.lt Nat _ TX AN) (l2 : @LT.lt Nat _ AN FU) (l3 : @LT.lt Nat _ FU FN) (l4 : AllLt TX R)
   (F : Fr g L h m) (hm1 : m (Str.ofString "self") = some (.ref SY))
   (N : News g L h ((FN, oF) :: (FU, listOf #[] 0) :: (AN, oA) :: (TX, listOf #[] 0) :: R))
   (hQ : ∀ h' tk' m' new, Fr g L h' m' → News g L h' (new ++ R) → SymIs (new ++ R) SY → (∀ p ∈ new, ∀ q ∈ R, @LT.lt Nat _ q.1 p.1) → Q .next { s with heap := h', toks := tk' }) :
   wpAny (model prg w) (A.deeper (symEnv L)) (execs (symDef.1.drop 4) (symEnv L)) Q (fun _ _ => False) { s with heap := h, toks := tk } := by
  refine wr_mp ?_
  simp (disch := (k_dflt (
      unfold symEnv prg
      conv in (execs _ _) => arg 1; whnf
      conv in (occs := *) symDef.2 => all_goals whnf
      revert X
      k_fill
      intro X
      have hl : ∀ q ∈ [(Str.ofString "self", Value.ref SY)], m q.1 = some q.2 := by
        intro q hq
        rw [List.mem_singleton.mp hq]; exact hm1
      have F' := fr_stdL F _ hl
      clear F
      (repeat' (first | (k_unfold; (try dsimp only)) | (k_here; (with_reducible show wpAny _ _ (setItem (Value.ref _) (Value.int _ _) _) _ _ _); k_dflt (refine' set_led ?Fz9 ?Nz9 ?Uz9 ?az9 ?bz9 ?zz9 ?_; (case Fz9 => k_asm); (case Nz9 => k_asm); (case Uz9 => k_upd); (case az9 => ksa_idx); (case bz9 => ksa_idx); (case zz9 => ksa_idx); k_whole); intro _ _ _; (try k_sweep)) | (k_here; (with_reducible show wpAny _ _ (call (Value.builtin "list.append") [Value.ref _, _]) _ _ _); k_dflt (refine' append_led ?Fz9 ?Nz9 ?Uz9 ?zz9 ?_; (case Fz9 => k_asm); (case Nz9 => k_asm); (case Uz9 => k_upd); (case zz9 => ksa_idx); k_whole); intro _ _ _; (try k_sweep)) | (k_here; (with_reducible show wpAny _ _ (call (Value.builtin "len") [Value.ref _]) _ _ _); k_dflt (refine' len_led ?Nz9 ?mz9 ?zz9 ?_; (case Nz9 => k_asm); (case mz9 => k_mem); (case zz9 => ksa_idx); k_whole); intro _ _) | (k_here; (with_reducible show wpAny _ _ (subscriptTail _ _ (Value.ref _) (Value.int _ _)) _ _ _); k_dflt (refine' item_led ?Nz9 ?mz9 ?az9 ?bz9 ?xz9 ?_; (case Nz9 => k_asm); (case mz9 => k_mem); (case az9 => omega); (case bz9 => omega); (case xz9 => assumption))) | (k_end; kc_close) | (k_end; wrow_close) | walk1 | (dsimp only; walk1) | (leave1; (try dsimp only)) | fail "no step"))
      unfold Stop9
      rename_i h9 tk9 F9 TU v9 n9 d9 N9 u1 u2 u3 u4 u5 I r1 r2 r3 r4 r5 r6
      have hSm : ∀ R', (∀ p ∈ R, p ∈ R') → SymAt R' SY TX AN FU FN := fun R' hs => by
        refine SymAt.elim hS ?_
        intro a1 a2 a3 a4 a5 a6 a7 a8 a9 a10 b1 b2
        clear hS
        exact ⟨a1, a2, a3, a4, a5, a6, a7, a8, a9, a10, hs _ b1, hs _ b2⟩
      have nr : ∀ {d : Addr}, AllLt d R → ∀ p ∈ R, p.1 ≠ d := fun h p hp => Nat.ne_of_lt (ktn_ltOf h p hp)
      have lR : ∀ {d : Addr}, TX < d → ∀ p ∈ R, p.1 ≠ d := fun h p hp => Nat.ne_of_lt (Nat.lt_trans (ktn_ltOf l4 p hp) h)
      have e1 : TX < FU := Nat.lt_trans l1 l2
      have e2 : TX < FN := Nat.lt_trans e1 l3
      have e3 : AN < FN := Nat.lt_trans l2 l3
      have sub1 : ∀ p ∈ R, p ∈ (TU, tupAt v9 n9) :: (FN, oF) :: (FU, listOf #[] 0) :: R := fun p hp => .tail _ (.tail _ (.tail _ hp))
      refine items_sub (news' := (TX, listOf (List.toArray []) 0) :: (AN, oA) :: (TU, tupAt v9 n9) :: (FN, oF) :: (FU, listOf #[] 0) :: R) ?_ ?_
      · intro p hp
        simp only [List.mem_cons] at hp ⊢
        rcases hp with hp | hp | hp | hp | hp | hp <;> simp [hp]
      refine atoms_items B X T9 hA hh (by omega) (by omega) SY TX AN FU FN I ((TU, tupAt v9 n9) :: (FN, oF) :: (FU, listOf #[] 0) :: R) _ (.head _) (hSm _ sub1) hAN (Nat.ne_of_lt l1) (Nat.ne_of_gt r5) (Nat.ne_of_gt r4) ?_ ?_ ?_ atoms v9 [] [] 0 oA _ (strs_any d9) (by simpa using atoms_nodup) ?_ rfl (by rw [atoms_len]; decide) rfl ?_
      · intro p hp
        rcases List.mem_cons.mp hp with rfl | hp
        · exact Nat.ne_of_gt u4
        rcases List.mem_cons.mp hp with rfl | hp
        · exact Nat.ne_of_gt e2
        rcases List.mem_cons.mp hp with rfl | hp
        · exact Nat.ne_of_gt e1
        · exact nr l4 p hp
      · intro p hp
        rcases List.mem_cons.mp hp with rfl | hp
        · exact Nat.ne_of_gt u3
        rcases List.mem_cons.mp hp with rfl | hp
        · exact Nat.ne_of_gt e3
        rcases List.mem_cons.mp hp with rfl | hp
        · exact Nat.ne_of_gt l2
        · exact lR l1 p hp
      · intro p hp
        rcases List.mem_cons.mp hp with rfl | hp
        · exact Nat.ne_of_lt r1
        rcases List.mem_cons.mp hp with rfl | hp
        · exact Nat.ne_of_lt r2
        rcases List.mem_cons.mp hp with rfl | hp
        · exact Nat.ne_of_lt r3
        · exact nr r6 p hp
      · exact ⟨[], hA1, rfl, fun i x h => by simp at h, fun _ _ => rfl⟩
      intro h2 tk2 m2 vs2 n2 oA2 F2 N2 _ T2 hm2
      clear F9 N9 d9
      have hl2 : ∀ q ∈ [(Str.ofString "self", Value.ref SY)], m2 q.1 = some q.2 := by
        intro q hq
        rw [List.mem_singleton.mp hq]; exact hm2
      have F3 := fr_stdL F2 _ hl2
      clear F2
      (repeat' (first | (k_unfold; (try dsimp only)) | (k_here; (with_reducible show wpAny _ _ (setItem (Value.ref _) (Value.int _ _) _) _ _ _); k_dflt (refine' set_led ?Fz9 ?Nz9 ?Uz9 ?az9 ?bz9 ?zz9 ?_; (case Fz9 => k_asm); (case Nz9 => k_asm); (case Uz9 => k_upd); (case az9 => ksa_idx); (case bz9 => ksa_idx); (case zz9 => ksa_idx); k_whole); intro _ _ _; (try k_sweep)) | (k_here; (with_reducible show wpAny _ _ (call (Value.builtin "list.append") [Value.ref _, _]) _ _ _); k_dflt (refine' append_led ?Fz9 ?Nz9 ?Uz9 ?zz9 ?_; (case Fz9 => k_asm); (case Nz9 => k_asm); (case Uz9 => k_upd); (case zz9 => ksa_idx); k_whole); intro _ _ _; (try k_sweep)) | (k_here; (with_reducible show wpAny _ _ (call (Value.builtin "len") [Value.ref _]) _ _ _); k_dflt (refine' len_led ?Nz9 ?mz9 ?zz9 ?_; (case Nz9 => k_asm); (case mz9 => k_mem); (case zz9 => ksa_idx); k_whole); intro _ _) | (k_here; (with_reducible show wpAny _ _ (subscriptTail _ _ (Value.ref _) (Value.int _ _)) _ _ _); k_dflt (refine' item_led ?Nz9 ?mz9 ?az9 ?bz9 ?xz9 ?_; (case Nz9 => k_asm); (case mz9 => k_mem); (case az9 => omega); (case bz9 => omega); (case xz9 => assumption))) | (k_end; kc_close) | (k_end; wrow_close) | walk1 | (dsimp only; walk1) | (leave1; (try dsimp only)) | fail "no step"))
      unfold Stop9
      rename_i h9 tk9 F9 TF v8 n8 w8 fr8 d8 N8 c1 c2 c3 c4 c5 c6 c7 J j1 j2 j3 j4 j5 j6 j7 j8
      rw [List.nil_append] at T2
      refine items_sub (news' := (FU, listOf (List.toArray []) 0) :: (FN, oF) :: ((TF, tupAt v8 n8) :: (w8 ++ (TX, listOf vs2.toArray n2) :: (AN, oA2) :: (TU, tupAt v9 n9) :: R))) ?_ ?_
      · intro p hp
        simp only [List.mem_cons, List.mem_append] at hp ⊢
        rcases hp with hp | hp | hp | hp | hp | hp | hp | hp <;> simp [hp]
      have sub2 : ∀ p ∈ R, p ∈ (TF, tupAt v8 n8) :: (w8 ++ (TX, listOf vs2.toArray n2) :: (AN, oA2) :: (TU, tupAt v9 n9) :: R) := fun p hp => .tail _ (List.mem_append.mpr (.inr (.tail _ (.tail _ (.tail _ hp)))))
      have off : ∀ {d : Addr}, TF ≠ d → (∀ p ∈ w8, p.1 ≠ d) → TX ≠ d → AN ≠ d → TU ≠ d → (∀ p ∈ R, p.1 ≠ d) → ∀ p ∈ (TF, tupAt v8 n8) :: (w8 ++ (TX, listOf vs2.toArray n2) :: (AN, oA2) :: (TU, tupAt v9 n9) :: R), p.1 ≠ d := by
        intro d a b c e f k p hp
        rcases List.mem_cons.mp hp with rfl | hp
        · exact a
        rcases List.mem_append.mp hp with hp | hp
        · exact b p hp
        rcases List.mem_cons.mp hp with rfl | hp
        · exact c
        rcases List.mem_cons.mp hp with rfl | hp
        · exact e
        rcases List.mem_cons.mp hp with rfl | hp
        · exact f
        · exact k p hp
      refine functors_items B X T9 hA hh (by omega) (by omega) SY TX AN FU FN J oA2 _ hAN hFN T2 (Nat.ne_of_lt l3) (Nat.ne_of_gt j7) (Nat.ne_of_gt j6) functors v8 [] [] 0 oF ((TF, tupAt v8 n8) :: (w8 ++ (TX, listOf vs2.toArray n2) :: (AN, oA2) :: (TU, tupAt v9 n9) :: R)) _ (d8.mono fun p hp => .tail _ (List.mem_append.mpr (.inl hp))) (by simpa using keys_nodup) texts_in ?_ (by rw [functors_len]; decide) (hSm _ sub2) (.tail _ (List.mem_append.mpr (.inr (.tail _ (.head _))))) (.head _) ?_ ?_ ?_ rfl ?_
      · obtain ⟨es, ep, a1, a2, a3, a4, a5⟩ := hF1
        have he : es.toList = [] := List.length_eq_zero_iff.mp a4.length
        exact ⟨[], ⟨es, ep, a1, a2, he, List.nodup_nil, fun _ h => nomatch h⟩, rfl, .nil⟩
      · exact off (Nat.ne_of_gt c6) (fun p hp => Nat.ne_of_gt (fr8 p hp (FU, listOf #[] 0) (by simp))) (Nat.ne_of_lt e1) (Nat.ne_of_lt l2) (Nat.ne_of_gt u2) (lR e1)
      · exact off (Nat.ne_of_gt c5) (fun p hp => Nat.ne_of_gt (fr8 p hp (FN, oF) (by simp))) (Nat.ne_of_lt e2) (Nat.ne_of_lt e3) (Nat.ne_of_gt u1) (lR e2)
      · exact off (Nat.ne_of_lt j1) (fun p hp => Nat.ne_of_lt (ktn_ltOf j2 p hp)) (Nat.ne_of_lt j3) (Nat.ne_of_lt j4) (Nat.ne_of_lt j5) (nr j8)
      intro h3 tk3 m3 fv3 n3 o3 new3 F3' N3 fr3 D3
      clear F9 N8 d8 N2
      (repeat' (first | (k_unfold; (try dsimp only)) | (k_here; (with_reducible show wpAny _ _ (setItem (Value.ref _) (Value.int _ _) _) _ _ _); k_dflt (refine' set_led ?Fz9 ?Nz9 ?Uz9 ?az9 ?bz9 ?zz9 ?_; (case Fz9 => k_asm); (case Nz9 => k_asm); (case Uz9 => k_upd); (case az9 => ksa_idx); (case bz9 => ksa_idx); (case zz9 => ksa_idx); k_whole); intro _ _ _; (try k_sweep)) | (k_here; (with_reducible show wpAny _ _ (call (Value.builtin "list.append") [Value.ref _, _]) _ _ _); k_dflt (refine' append_led ?Fz9 ?Nz9 ?Uz9 ?zz9 ?_; (case Fz9 => k_asm); (case Nz9 => k_asm); (case Uz9 => k_upd); (case zz9 => ksa_idx); k_whole); intro _ _ _; (try k_sweep)) | (k_here; (with_reducible show wpAny _ _ (call (Value.builtin "len") [Value.ref _]) _ _ _); k_dflt (refine' len_led ?Nz9 ?mz9 ?zz9 ?_; (case Nz9 => k_asm); (case mz9 => k_mem); (case zz9 => ksa_idx); k_whole); intro _ _) | (k_here; (with_reducible show wpAny _ _ (subscriptTail _ _ (Value.ref _) (Value.int _ _)) _ _ _); k_dflt (refine' item_led ?Nz9 ?mz9 ?az9 ?bz9 ?xz9 ?_; (case Nz9 => k_asm); (case mz9 => k_mem); (case az9 => omega); (case bz9 => omega); (case xz9 => assumption))) | (k_end; kc_close) | (k_end; wrow_close) | walk1 | (dsimp only; walk1) | (leave1; (try dsimp only)) | fail "no step"))
      (rename Fr _ _ _ _ => kF); (rename News _ _ _ _ => kN)
      obtain ⟨xs, _, _, dF⟩ := D3
      rw [List.nil_append] at dF
      have e9 : (FU, listOf fv3.toArray n3) :: (FN, o3) :: (new3 ++ (TF, tupAt v8 n8) :: (w8 ++ (TX, listOf vs2.toArray n2) :: (AN, oA2) :: (TU, tupAt v9 n9) :: R)) = ((FU, listOf fv3.toArray n3) :: (FN, o3) :: (new3 ++ (TF, tupAt v8 n8) :: (w8 ++ [(TX, listOf vs2.toArray n2), (AN, oA2), (TU, tupAt v9 n9)]))) ++ R := by simp
      rw [e9] at kN
      refine hQ h3 tk3 m3 _ kF kN ?_ ?_
      · refine SymAt.elim hS ?_
        intro a1 a2 a3 a4 a5 a6 a7 a8 a9 a10 b1 b2
        clear hS
        have f12' := f12
        have f13' := f13
        rw [Option.map_eq_some_iff] at f12' f13'
        obtain ⟨⟨y12, z12⟩, g12, rfl⟩ := f12'
        obtain ⟨⟨y13, z13⟩, g13, rfl⟩ := f13'
        refine ⟨a1, TX, AN, FU, FN, a2, a3, a4, a5, a6, a7, a8, a9, a10, fv3, n3, functors.map datOf, List.mem_append.mpr (.inr b1), List.mem_append.mpr (.inr b2), List.mem_append.mpr (.inl (.head _)), dF.mono ?_, ⟨by rw [List.length_map, functors_len], fun d hd => let ⟨q, _, e⟩ := List.mem_map.mp hd; ⟨(_, q.2), e.symm⟩⟩, ⟨((atoms.idxOf y12 : Nat) : Int), ?_⟩, ⟨((atoms.idxOf y13 : Nat) : Int), ?_⟩⟩
        · intro p hp
          rw [← e9]
          exact .tail _ (.tail _ hp)
        · rw [List.getElem?_map, g12]; rfl
        · rw [List.getElem?_map, g13]; rfl
      · have tR : ∀ {d : Addr}, TX < d → ∀ q ∈ R, @LT.lt Nat _ q.1 d := fun h q hq => Nat.lt_trans (ktn_ltOf l4 q hq) h
        intro p hp q hq
        rcases List.mem_cons.mp hp with rfl | hp
        · exact tR e1 q hq
        rcases List.mem_cons.mp hp with rfl | hp
        · exact tR e2 q hq
        rcases List.mem_append.mp hp with hp | hp
        · exact fr3 p hp q (.tail _ (.tail _ (sub2 q hq)))
        rcases List.mem_cons.mp hp with rfl | hp
        · exact ktn_ltOf c7 q hq
        rcases List.mem_append.mp hp with hp | hp
        · exact fr8 p hp q (by simp [hq])
        rcases List.mem_cons.mp hp with rfl | hp
        · exact ktn_ltOf l4 q hq
        rcases List.mem_cons.mp hp with rfl | hp
        · exact tR l1 q hq
        · rw [List.mem_singleton.mp hp]; exact ktn_ltOf u5 q hq))) only [↓wr_true]
end
section
section
theorem walk_off_P22 : True := by
  w_top off
  trivial
theorem stop9x {p : Prop} (h : Stop9 p) : p := h
local macro_rules | `(tactic| walk_at "execs cons") => `(tactic| (k_here; (with_reducible show wpAny _ _ (execs (Stmt.For (Expr.Name (Str.ofString "text") _) _ _ _ _ :: _) _) _ _ _); refine stop9x ?_))
theorem under_frames {A : Around} {l : List Env} {a : Args} (h : A.frames = some l) : (A.under (.builtin "type.__call__" a)).frames = some l := by
  have e : (A.under (.builtin "type.__call__" a)).frames = pushEnvs [] A.frames := rfl
  rw [e, h]; rfl
local macro_rules | `(tactic| ktr_enter) => `(tactic| (
  refine' code_def ?k1 ?k2 ?k3 ?k4 ?k5 ?kA ?kF ?kK ?k6 ?k7 ?k8 ?k9 ?kB ?_ ?c2 ?c3 ?c4 ?c5; (case kA => exact under_frames (by assumption)); (case kF => assumption); (case kK => assumption); (case k1 => k_asm); (case k2 => k_asm); (case k3 => k_asm); (case k4 => k_asm); (case k5 => k_asm); (case k6 => k_is); (case k7 => k_is); (case k8 => k_room); (case k9 => exact BindsTo.of_eq rfl); (case c5 => decide); (case kB => exact locs rfl); (case c2 => exact rfl); (case c3 => exact rfl); (case c4 => exact rfl); k_whole; intro g' L' h' FG' F' N' B' X' T'; (with_reducible refine wp_never ?_); (try dsimp only); (try k_fold)))
local macro_rules | `(tactic| walk_at "call ref") => `(tactic| (k_here; (with_reducible show wpAny _ _ (call (Value.ref 154) _) _ _ _); k_dflt (refine' call_cls ?k1 ?k2 ?k3 ?k4 ?k5 ?k6 ?_; (case k1 => k_asm); (case k2 => k_asm); (case k3 => k_asm); (case k4 => k_is); (case k5 => k_is); (case k6 => k_is); k_whole; intro x' d' h' F' N' l1 l2; (try k_lt l1); (try k_lt2 l2); (try k_sweep); ktr_enter)))
theorem split2 {P : List (Addr × Obj) → Prop} {new news : List (Addr × Obj)} {a b : Addr × Obj} (h : P (new ++ a :: b :: news)) : P ((new ++ [a, b]) ++ news) := by
  rw [List.append_assoc]; exact h
theorem sym_call {p : Program} {loose : List Str} {mean : ExcName → Option Value} {mg mb : Str → Option Value} {A A₀ : Around} {env : Env} {outer : List Env} {base h₀ : Heap} {L : Addr} {m : Str → Option Value} {s : Shared} {Q E : Value → Shared → Prop} (news : List (Addr × Obj))
    (B : Below A₀ base outer h₀) (F : Fr h₀ L s.heap m) (X : (hk.heap_1 w.params).In h₀) (N : News h₀ L s.heap news) (T : Top p loose mean mg mb h₀) (hA : A.frames = some (env :: outer)) (hf : env.frame = some L) (hk : env.scope.kind = .function) (hh : A.handled = none)
    (hd : A.depth + 50 < 1000) (hu : A.units + 1000 < 9900)
    (h : ∀ SY new h' tk', Fr h₀ L h' m → News h₀ L h' (new ++ news) → SymIs (new ++ news) SY → (∀ p ∈ new, ∀ q ∈ news, @LT.lt Nat _ q.1 p.1) → Q (.ref SY) { s with heap := h', toks := tk' }) :
    wpAny (model prg w) A (call (.ref 154) []) Q E s := by
  refine wr_mp ?_
  simp (disch := (k_dflt (
      revert X
      unfold prg
      k_fill
      intro X
      (repeat' (first | (k_unfold; (try dsimp only)) | (k_here; (with_reducible show wpAny _ _ (call (Value.ref _) _) _ _ _); k_dflt (refine wpAny_call ?_; ( refine' code_def ?k1z9 ?k2z9 ?k3z9 ?k4z9 ?k5z9 ?kAz9 ?kFz9 ?kKz9 ?k6z9 ?k7z9 ?k8z9 ?k9z9 ?kBz9 ?_ ?c2z9 ?c3z9 ?c4z9 ?c5z9; (case kAz9 => first | exact deeper_frames _ (by assumption) | exact deeper_frames _ (deeper_frames _ (by assumption)) | exact deeper_frames _ (deeper_frames _ (deeper_frames _ (by assumption)))); (case kFz9 => exact rfl); (case kKz9 => exact rfl); (case k1z9 => k_asm); (case k2z9 => k_asm); (case k3z9 => k_asm); (case k4z9 => k_asm); (case k5z9 => k_asm); (case k6z9 => k_is); (case k7z9 => k_is); (case k8z9 => k_room); (case k9z9 => exact BindsTo.of_eq rfl); (case c5z9 => decide); (case kBz9 => exact locs rfl); (case c2z9 => exact rfl); (case c3z9 => exact rfl); (case c4z9 => exact rfl); k_whole; intro _ _ _ _ _ _ _ _ _; (with_reducible refine wp_never ?_); (try dsimp only); (try k_fold)))) | (k_here; (with_reducible show wpAny _ _ (setItem (Value.ref _) (Value.int _ _) _) _ _ _); k_dflt (refine' set_led ?Fz9 ?Nz9 ?Uz9 ?az9 ?bz9 ?zz9 ?_; (case Fz9 => k_asm); (case Nz9 => k_asm); (case Uz9 => k_upd); (case az9 => ksa_idx); (case bz9 => ksa_idx); (case zz9 => ksa_idx); k_whole); intro _ _ _; (try k_sweep)) | (k_here; (with_reducible show wpAny _ _ (call (Value.builtin "list.append") [Value.ref _, _]) _ _ _); k_dflt (refine' append_led ?Fz9 ?Nz9 ?Uz9 ?zz9 ?_; (case Fz9 => k_asm); (case Nz9 => k_asm); (case Uz9 => k_upd); (case zz9 => ksa_idx); k_whole); intro _ _ _; (try k_sweep)) | (k_here; (with_reducible show wpAny _ _ (call (Value.builtin "len") [Value.ref _]) _ _ _); k_dflt (refine' len_led ?Nz9 ?mz9 ?zz9 ?_; (case Nz9 => k_asm); (case mz9 => k_mem); (case zz9 => ksa_idx); k_whole); intro _ _) | (k_here; (with_reducible show wpAny _ _ (subscriptTail _ _ (Value.ref _) (Value.int _ _)) _ _ _); k_dflt (refine' item_led ?Nz9 ?mz9 ?az9 ?bz9 ?xz9 ?_; (case Nz9 => k_asm); (case mz9 => k_mem); (case az9 => omega); (case bz9 => omega); (case xz9 => assumption))) | (k_end; kc_close) | (k_end; wrow_close) | walk1 | (dsimp only; walk1) | (leave1; (try dsimp only)) | fail "no step"))
      unfold Stop9
      (rename Fr _ _ _ _ => kF); (rename News _ _ _ _ => kN)
      rename_i SY D9 h1 F1 N1 l0 l00 g9 L9 h2 FG B9 X9 T9 tk1 TX h3 b1 b2 b3 h4 tk2 AN h5 oA hAN hA1 _ _ _ c1 c2 c3 c4 h6 FU h7 e1 e2 e3 e4 e5 h8 FN h9 oF hFN hF1 _ _ _ f1 f2 f3 f4 f5 f6 h10
      refine sym_loops B9 X9 T9 (under_frames hA) hh (by k_room) (by k_units) SY TX AN FU FN oA oF _ ?hS hAN hFN hA1 hF1 c1 e1 f1 ?hl kF rfl kN ?_
      case hl => exact ⟨b1, b2, b3⟩
      case hS => exact ⟨_, _, _, _, _, _, _, _, _, _, .head _, .tail _ (.head _)⟩
      clear kF kN
      intro h' tk' m' new F2 N2 S2 fr2
      (repeat' (first | (k_unfold; (try dsimp only)) | (k_here; (with_reducible show wpAny _ _ (call (Value.ref _) _) _ _ _); k_dflt (refine wpAny_call ?_; ( refine' code_def ?k1z9 ?k2z9 ?k3z9 ?k4z9 ?k5z9 ?kAz9 ?kFz9 ?kKz9 ?k6z9 ?k7z9 ?k8z9 ?k9z9 ?kBz9 ?_ ?c2z9 ?c3z9 ?c4z9 ?c5z9; (case kAz9 => first | exact deeper_frames _ (by assumption) | exact deeper_frames _ (deeper_frames _ (by assumption)) | exact deeper_frames _ (deeper_frames _ (deeper_frames _ (by assumption)))); (case kFz9 => exact rfl); (case kKz9 => exact rfl); (case k1z9 => k_asm); (case k2z9 => k_asm); (case k3z9 => k_asm); (case k4z9 => k_asm); (case k5z9 => k_asm); (case k6z9 => k_is); (case k7z9 => k_is); (case k8z9 => k_room); (case k9z9 => exact BindsTo.of_eq rfl); (case c5z9 => decide); (case kBz9 => exact locs rfl); (case c2z9 => exact rfl); (case c3z9 => exact rfl); (case c4z9 => exact rfl); k_whole; intro _ _ _ _ _ _ _ _ _; (with_reducible refine wp_never ?_); (try dsimp only); (try k_fold)))) | (k_here; (with_reducible show wpAny _ _ (setItem (Value.ref _) (Value.int _ _) _) _ _ _); k_dflt (refine' set_led ?Fz9 ?Nz9 ?Uz9 ?az9 ?bz9 ?zz9 ?_; (case Fz9 => k_asm); (case Nz9 => k_asm); (case Uz9 => k_upd); (case az9 => ksa_idx); (case bz9 => ksa_idx); (case zz9 => ksa_idx); k_whole); intro _ _ _; (try k_sweep)) | (k_here; (with_reducible show wpAny _ _ (call (Value.builtin "list.append") [Value.ref _, _]) _ _ _); k_dflt (refine' append_led ?Fz9 ?Nz9 ?Uz9 ?zz9 ?_; (case Fz9 => k_asm); (case Nz9 => k_asm); (case Uz9 => k_upd); (case zz9 => ksa_idx); k_whole); intro _ _ _; (try k_sweep)) | (k_here; (with_reducible show wpAny _ _ (call (Value.builtin "len") [Value.ref _]) _ _ _); k_dflt (refine' len_led ?Nz9 ?mz9 ?zz9 ?_; (case Nz9 => k_asm); (case mz9 => k_mem); (case zz9 => ksa_idx); k_whole); intro _ _) | (k_here; (with_reducible show wpAny _ _ (subscriptTail _ _ (Value.ref _) (Value.int _ _)) _ _ _); k_dflt (refine' item_led ?Nz9 ?mz9 ?az9 ?bz9 ?xz9 ?_; (case Nz9 => k_asm); (case mz9 => k_mem); (case az9 => omega); (case bz9 => omega); (case xz9 => assumption))) | (k_end; kc_close) | (k_end; wrow_close) | walk1 | (dsimp only; walk1) | (leave1; (try dsimp only)) | fail "no step"))
      (rename Fr _ _ _ _ => kF); (rename News _ _ _ _ => kN)
      refine h SY _ _ _ kF (split2 (P := fun l => News _ _ _ l) kN) (split2 (P := fun l => SymIs l _) S2) ?_
      intro p hp q hq
      rcases List.mem_append.mp hp with hp | hp
      · exact fr2 p hp q (.tail _ (.tail _ hq))
      · rcases List.mem_cons.mp hp with rfl | hp
        · exact Nat.lt_trans (ktn_ltOf l0 q hq) l00
        · rw [List.mem_singleton.mp hp]; exact ktn_ltOf l0 q hq))) only [↓wr_true]
end
end
section
theorem walk_off_P23 : True := by
  w_top off
  trivial
theorem stop9v {p : Prop} (h : Stop9 p) : p := h
section
variable {prog : Program} {A : Around} {E : Value → Shared → Prop} {h₀ : Heap} {env : Env} {target : PySem.Expr} {x : Str} {body : List Stmt} {Q : Flow → Shared → Prop} {s : Shared} {I : Addr}
theorem items_led {ty : String} {kp : Addr × Obj} (n : Nat) (J : Nat → (Str → Option Value) → List (Addr × Obj) → Prop) (hk : ∀ i m nx, J i m nx → kp ∈ nx ∧ ∀ p ∈ nx, p.1 ≠ I)
    (done : ∀ h tk m nx, J n m nx → Fr h₀ env.locals h m → News h₀ env.locals h nx → Q .next { s with heap := h, toks := tk }) :
    ∀ (xs : List Value) (i : Nat), i + xs.length = n → (∀ v ∈ xs, ∀ i m nx h tk io, J i m nx → i < n → Fr h₀ env.locals h m → News h₀ env.locals h ((I, io) :: nx) →
      wpAny (model prog w) A (assign target env v) (fun _ s₂ => wpAny (model prog w) A (execs body env) (fun f s' => Stop9 (f = .next ∧ ∃ h' tk' m' nx', s' = { s with heap := h', toks := tk' } ∧ Fr h₀ env.locals h' m' ∧ News h₀ env.locals h' ((I, io) :: nx') ∧ J (i + 1) m' nx')) E s₂) E { s with heap := h, toks := tk }) →
    ∀ m nx, J i m nx → ItemsRest prog w A E h₀ env target body Q s [(I, ty)] [kp] (xs.map .val) m nx
  | [], i, e, _, m, nx, hJ => ItemsRest.zero fun h tk F N => done h tk m nx (by simp at e; exact e ▸ hJ) F N
  | v :: xs, i, e, step, m, nx, hJ => by
    refine ItemsRest.val fun h tk F => ?_
    intro io hio N
    have hi : i < n := by simp at e; omega
    refine wpAny_mono (step v (.head _) i m nx h tk io hJ hi F N) (fun _ s₂ h₂ => wpAny_mono h₂ (fun f s₃ h₃ => ?_) fun _ _ x => x) fun _ _ x => x
    obtain ⟨rfl, h', tk', m', nx', rfl, F', N', hJ'⟩ := h₃
    refine ⟨h', tk', m', nx', rfl, F', N', fun p hp q hq => by rw [List.mem_singleton.mp hq]; exact (hk _ _ _ hJ').2 p hp, ⟨(hk _ _ _ hJ').1, trivial⟩, ?_⟩
    exact items_led n J hk done xs (i + 1) (by simp at e; omega) (fun v hv => step v (.tail _ hv)) m' nx' hJ'
theorem range_led {a : Int} (n : Nat) (J : Nat → (Str → Option Value) → List (Addr × Obj) → Prop) (hk : ∀ i m nx, J i m nx → ∀ p ∈ nx, p.1 ≠ I)
    (done : ∀ h tk m nx, J n m nx → Fr h₀ env.locals h m → News h₀ env.locals h nx → Q .next { s with heap := h, toks := tk })
    (step : ∀ k : Int, ∀ i m nx h tk t io, J i m nx → i < n → Fr h₀ env.locals h (fun y => if y = x then some (.int k t) else m y) → News h₀ env.locals h ((I, io) :: nx) →
      wpAny (model prog w) A (execs body env) (fun f s' => Stop9 (f = .next ∧ ∃ h' tk' m' nx', s' = { s with heap := h', toks := tk' } ∧ Fr h₀ env.locals h' m' ∧ News h₀ env.locals h' ((I, io) :: nx') ∧ J (i + 1) m' nx')) E { s with heap := h, toks := tk }) :
    ∀ (k i : Nat), i + k = n → ∀ m nx, J i m nx → RangeRest prog w A E h₀ env x body Q s I a n k i m nx
  | 0, i, e, m, nx, hJ => RangeRest.zero fun h tk F N => done h tk m nx (by simp at e; exact e ▸ hJ) F N
  | k + 1, i, e, m, nx, hJ => by
    refine RangeRest.succ fun t h tk F N => ?_
    refine wpAny_mono (step _ i m nx h tk t _ hJ (by omega) F N) (fun f s₃ h₃ => ?_) fun _ _ x => x
    obtain ⟨rfl, h', tk', m', nx', rfl, F', N', hJ'⟩ := h₃
    exact ⟨h', tk', m', nx', rfl, F', N', hk _ _ _ hJ', range_led n J hk done step k (i + 1) (by omega) m' nx' hJ'⟩
end
local macro_rules | `(tactic| walk_at "exec For Name Subscript cons nil") => `(tactic| (k_here; (with_reducible show wpAny _ _ (exec (Stmt.For _ _ _ _ _) _) _ _ _); (rename Fr _ _ _ _ => lF'); (with_unfolding_all refine' For_turns lF' ?_); k_whole))
local macro_rules | `(tactic| walk_at "pyIter ref") => `(tactic| (k_here; (with_reducible show wpAny _ _ (pyIter (Value.ref _)) (fun it s₂ => TurnsAt _ _ _ _ _ _ _ _ _ it s₂) _ _); k_dflt (refine' iter_listTurns ?hh ?F ?N ?m ?c ?d ?_; (case F => k_asm); (case N => k_asm); (case m => k_mem); (case c => exact rfl); (case d => exact rfl); (case hh => first | assumption | exact ‹_ = none›)); intro i' l1; (try k_lt l1); refine stop9v ?_))
local macro_rules | `(tactic| walk_at "pyIter ref") => `(tactic| ((with_reducible show wpAny _ _ (pyIter (Value.ref _)) (fun it s₂ => LoopAtV _ _ _ _ _ _ _ _ _ it s₂) _ _); (rename Fr _ _ _ _ => lF'); (rename News _ _ _ _ => lN'); (with_unfolding_all refine iter_rangeUnr (n := 30) (by assumption) (by assumption) (by decide) (by decide) lF' lN' ?_); clear lF' lN'; intro i' l1; (try k_lt l1); refine stop9v ?_))
theorem rev_room {ws : List Value} {ks : List Int} (h : IntsAre ws (List.take 120 ks)) : ws.toArray.toList.length ≤ sizeLine := by
  rw [PySem.sizeLine_eq]
  have := h.length
  simp only [List.toList_toArray, List.length_take] at *
  omega
local macro_rules | `(tactic| walk_at "call builtin:list.reverse") => `(tactic| (k_here; k_dflt (refine' kl_reverse ?F ?N ?e ?U ?z ?_; (case F => k_asm); (case N => k_asm); (case U => k_upd); (case e => exact rfl); (case z => exact rev_room (by assumption))); intro h' F' N'; (try k_sweep)))
theorem row_call {p : Program} {loose : List Str} {mean : ExcName → Option Value} {mg mb : Str → Option Value} {A A₀ : Around} {env : Env} {outer : List Env} {base h₀ : Heap} {L : Addr} {m : Str → Option Value} {s : Shared} {Q E : Value → Shared → Prop} (news : List (Addr × Obj))
    (B : Below A₀ base outer h₀) (F : Fr h₀ L s.heap m) (X : (hk.heap_1 w.params).In h₀) (N : News h₀ L s.heap news) (T : Top p loose mean mg mb h₀) (hA : A.frames = some (env :: outer)) (hf : env.frame = some L) (hk : env.scope.kind = .function) (hh : A.handled = none)
    (hd : A.depth + 50 < 1000) (hu : A.units + 1000 < 9900) (a : Addr) (vs : List Value) (ns : List Int) (hl : h₀.IsList a vs.toArray) (hi : IntsAre vs ns) (hn : ns.length ≤ 100)
    (h : ∀ row o h' tk', Fr h₀ L h' m → News h₀ L h' ((row, o) :: news) → RowIs o → (∀ q ∈ news, @LT.lt Nat _ q.1 row) → Q (.ref row) { s with heap := h', toks := tk' }) :
    wpAny (model prg w) A (call (.ref 427) [.ref a]) Q E s := by
  refine wr_mp ?_
  simp (disch := (k_dflt (
      revert X
      unfold prg
      k_fill
      intro X
      refine wpAny_call ?_
      ( refine' code_def ?k1z9 ?k2z9 ?k3z9 ?k4z9 ?k5z9 ?kAz9 ?kFz9 ?kKz9 ?k6z9 ?k7z9 ?k8z9 ?k9z9 ?kBz9 ?_ ?c2z9 ?c3z9 ?c4z9 ?c5z9; (case kAz9 => assumption); (case kFz9 => assumption); (case kKz9 => assumption); (case k1z9 => k_asm); (case k2z9 => k_asm); (case k3z9 => k_asm); (case k4z9 => k_asm); (case k5z9 => k_asm); (case k6z9 => k_is); (case k7z9 => k_is); (case k8z9 => k_room); (case k9z9 => exact BindsTo.of_eq rfl); (case c5z9 => decide); (case kBz9 => exact locs rfl); (case c2z9 => exact rfl); (case c3z9 => exact rfl); (case c4z9 => exact rfl); k_whole; intro _ _ _ _ _ _ _ _ _; (with_reducible refine wp_never ?_); (try dsimp only); (try k_fold))
      rename_i FG9 _ _ _ _ _
      have hl' := hl.at fun o e => Fr.keep FG9 _ _ e
      (repeat' (first | (k_unfold; (try dsimp only)) | (k_here; (with_reducible show wpAny _ _ (setItem (Value.ref _) (Value.int _ _) _) _ _ _); k_dflt (refine' set_led ?Fz9 ?Nz9 ?Uz9 ?az9 ?bz9 ?zz9 ?_; (case Fz9 => k_asm); (case Nz9 => k_asm); (case Uz9 => k_upd); (case az9 => ksa_idx); (case bz9 => ksa_idx); (case zz9 => ksa_idx); k_whole); intro _ _ _; (try k_sweep)) | (k_here; (with_reducible show wpAny _ _ (call (Value.builtin "list.append") [Value.ref _, _]) _ _ _); k_dflt (refine' append_led ?Fz9 ?Nz9 ?Uz9 ?zz9 ?_; (case Fz9 => k_asm); (case Nz9 => k_asm); (case Uz9 => k_upd); (case zz9 => ksa_idx); k_whole); intro _ _ _; (try k_sweep)) | (k_here; (with_reducible show wpAny _ _ (call (Value.builtin "len") [Value.ref _]) _ _ _); k_dflt (refine' len_led ?Nz9 ?mz9 ?zz9 ?_; (case Nz9 => k_asm); (case mz9 => k_mem); (case zz9 => ksa_idx); k_whole); intro _ _) | (k_here; (with_reducible show wpAny _ _ (subscriptTail _ _ (Value.ref _) (Value.int _ _)) _ _ _); k_dflt (refine' item_led ?Nz9 ?mz9 ?az9 ?bz9 ?xz9 ?_; (case Nz9 => k_asm); (case mz9 => k_mem); (case az9 => omega); (case bz9 => omega); (case xz9 => assumption))) | (k_end; kc_close) | (k_end; wrow_close) | walk1 | (dsimp only; walk1) | (leave1; (try dsimp only)) | fail "no step"))
      unfold Stop9
      rename_i ROW _ lR _ D ws _ FD ND hI hC hL d1 d2 I i1 i2 i3
      have hw := hI.length
      refine items_led ws.length (fun i m' nx => ∃ rs ks c, nx = (D, W.listOf ws.toArray 0) :: (ROW, W.listOf (List.toArray rs) c) :: news ∧ IntsAre rs ks ∧ rs.length ≤ 31 * i ∧ m' (Str.ofString "row") = some (.ref ROW)) ?_ ?_ ws 0 (by simp) ?_ _ _ ⟨[], [], 0, rfl, ?_, by simp, rfl⟩
      · rintro i m' nx ⟨rs, ks, c, rfl, _, _, _⟩
        refine ⟨.head _, fun p hp => ?_⟩
        rcases List.mem_cons.mp hp with rfl | hp
        · exact Nat.ne_of_lt i1
        rcases List.mem_cons.mp hp with rfl | hp
        · exact Nat.ne_of_lt i2
        · exact Nat.ne_of_lt (ktn_ltOf i3 p hp)
      · rintro h2 tk2 m2 nx ⟨rs, ks, c, rfl, hI2, hr2, hm2⟩ F2 N2
        clear FD ND
        have hm9 : ∀ q ∈ [(Str.ofString "row", Value.ref ROW)], m2 q.1 = some q.2 := by
          intro q hq
          rw [List.mem_singleton.mp hq]; exact hm2
        have F3 := fr_stdL F2 _ hm9
        clear F2
        have hrl : rs.length ≤ 2000 := by omega
        (repeat' (first | (k_unfold; (try dsimp only)) | (k_here; (with_reducible show wpAny _ _ (setItem (Value.ref _) (Value.int _ _) _) _ _ _); k_dflt (refine' set_led ?Fz9 ?Nz9 ?Uz9 ?az9 ?bz9 ?zz9 ?_; (case Fz9 => k_asm); (case Nz9 => k_asm); (case Uz9 => k_upd); (case az9 => ksa_idx); (case bz9 => ksa_idx); (case zz9 => ksa_idx); k_whole); intro _ _ _; (try k_sweep)) | (k_here; (with_reducible show wpAny _ _ (call (Value.builtin "list.append") [Value.ref _, _]) _ _ _); k_dflt (refine' append_led ?Fz9 ?Nz9 ?Uz9 ?zz9 ?_; (case Fz9 => k_asm); (case Nz9 => k_asm); (case Uz9 => k_upd); (case zz9 => ksa_idx); k_whole); intro _ _ _; (try k_sweep)) | (k_here; (with_reducible show wpAny _ _ (call (Value.builtin "len") [Value.ref _]) _ _ _); k_dflt (refine' len_led ?Nz9 ?mz9 ?zz9 ?_; (case Nz9 => k_asm); (case mz9 => k_mem); (case zz9 => ksa_idx); k_whole); intro _ _) | (k_here; (with_reducible show wpAny _ _ (subscriptTail _ _ (Value.ref _) (Value.int _ _)) _ _ _); k_dflt (refine' item_led ?Nz9 ?mz9 ?az9 ?bz9 ?xz9 ?_; (case Nz9 => k_asm); (case mz9 => k_mem); (case az9 => omega); (case bz9 => omega); (case xz9 => assumption))) | (k_end; kc_close) | (k_end; wrow_close) | walk1 | (dsimp only; walk1) | (leave1; (try dsimp only)) | fail "no step"))
        (rename Fr _ _ _ _ => kF); (rename News _ _ _ _ => kN)
        rename_i D3 ws3 _ _ _ hI3 hC3 hL3 p1 p2 p3 _ _ _ _ _ _
        refine h D3 (W.listOf ws3.reverse.toArray 0) _ _ kF (News.sub kN ?_) ⟨_, _, 0, rfl, IntsAre.reverse hI3, ?_⟩ (ktn_ltOf p3)
        · intro p hp
          rcases List.mem_cons.mp hp with rfl | hp
          · exact .head _
          · exact .tail _ (.tail _ (.tail _ hp))
        · have := hI3.length
          simp; omega
      · rintro v hv i m2 nx h2 tk2 io ⟨rs, ks, c, rfl, hI2, hr2, hm2⟩ hi2 F2 N2
        clear FD ND
        have hm9 : ∀ q ∈ [(Str.ofString "row", Value.ref ROW)], m2 q.1 = some q.2 := by
          intro q hq
          rw [List.mem_singleton.mp hq]; exact hm2
        have F3 := fr_stdL F2 _ hm9
        clear F2
        obtain ⟨k, t, rfl⟩ := hI.all v hv
        have hi3 : i < 40 := by omega
        (repeat' (first | (k_unfold; (try dsimp only)) | (k_here; (with_reducible show wpAny _ _ (setItem (Value.ref _) (Value.int _ _) _) _ _ _); k_dflt (refine' set_led ?Fz9 ?Nz9 ?Uz9 ?az9 ?bz9 ?zz9 ?_; (case Fz9 => k_asm); (case Nz9 => k_asm); (case Uz9 => k_upd); (case az9 => ksa_idx); (case bz9 => ksa_idx); (case zz9 => ksa_idx); k_whole); intro _ _ _; (try k_sweep)) | (k_here; (with_reducible show wpAny _ _ (call (Value.builtin "list.append") [Value.ref _, _]) _ _ _); k_dflt (refine' append_led ?Fz9 ?Nz9 ?Uz9 ?zz9 ?_; (case Fz9 => k_asm); (case Nz9 => k_asm); (case Uz9 => k_upd); (case zz9 => ksa_idx); k_whole); intro _ _ _; (try k_sweep)) | (k_here; (with_reducible show wpAny _ _ (call (Value.builtin "len") [Value.ref _]) _ _ _); k_dflt (refine' len_led ?Nz9 ?mz9 ?zz9 ?_; (case Nz9 => k_asm); (case mz9 => k_mem); (case zz9 => ksa_idx); k_whole); intro _ _) | (k_here; (with_reducible show wpAny _ _ (subscriptTail _ _ (Value.ref _) (Value.int _ _)) _ _ _); k_dflt (refine' item_led ?Nz9 ?mz9 ?az9 ?bz9 ?xz9 ?_; (case Nz9 => k_asm); (case mz9 => k_mem); (case az9 => omega); (case bz9 => omega); (case xz9 => assumption))) | (k_end; kc_close) | (k_end; wrow_close) | walk1 | (dsimp only; walk1) | (leave1; (try dsimp only)) | fail "no step"))
        all_goals
          unfold Stop9
          rename_i I2 j1 j2 j3 j4
          refine range_led 30 (fun j m' nx => ∃ rs' ks' c' kk tt, nx = (I, io) :: (D, W.listOf ws.toArray 0) :: (ROW, W.listOf (List.toArray rs') c') :: news ∧ IntsAre rs' ks' ∧ rs'.length ≤ 31 * i + 1 + j ∧ m' (Str.ofString "row") = some (.ref ROW) ∧ m' (Str.ofString "number") = some (.int kk tt)) ?_ ?_ ?_ 30 0 rfl _ _ ⟨_, _, _, _, _, rfl, .append hI2 (.cons _ _ .nil), by simp; omega, rfl, rfl⟩
          · rintro j m' nx ⟨rs', ks', c', kk, tt, rfl, _, _, _, _⟩ p hp
            rcases List.mem_cons.mp hp with rfl | hp
            · exact Nat.ne_of_lt j1
            rcases List.mem_cons.mp hp with rfl | hp
            · exact Nat.ne_of_lt j2
            rcases List.mem_cons.mp hp with rfl | hp
            · exact Nat.ne_of_lt j3
            · exact Nat.ne_of_lt (ktn_ltOf j4 p hp)
          · rintro h3 tk3 m3 nx ⟨rs', ks', c', kk, tt, rfl, e1, e2, e3, e4⟩ F4 N4
            walk1
            exact ⟨rfl, _, _, _, _, rfl, F4, N4, _, _, _, rfl, e1, by omega, e3⟩
          · rintro k3 j m3 nx h3 tk3 t3 io3 ⟨rs', ks', c', kk, tt, rfl, e1, e2, e3, e4⟩ hj F4 N4
            clear F3
            have hm8 : ∀ q ∈ [(Str.ofString "row", Value.ref ROW), (Str.ofString "number", Value.int kk tt)], (fun y => if y = Str.ofString "turn" then some (Value.int k3 t3) else m3 y) q.1 = some q.2 := by
              intro q hq
              simp only [List.mem_cons, List.not_mem_nil, or_false] at hq
              rcases hq with rfl | rfl
              · exact e3
              · exact e4
            have F5 := fr_stdL F4 _ hm8
            clear F4
            have hrl : rs'.length ≤ 2000 := by omega
            by_cases hkk : 0 < kk
            · (repeat' (first | (k_unfold; (try dsimp only)) | (k_here; (with_reducible show wpAny _ _ (setItem (Value.ref _) (Value.int _ _) _) _ _ _); k_dflt (refine' set_led ?Fz9 ?Nz9 ?Uz9 ?az9 ?bz9 ?zz9 ?_; (case Fz9 => k_asm); (case Nz9 => k_asm); (case Uz9 => k_upd); (case az9 => ksa_idx); (case bz9 => ksa_idx); (case zz9 => ksa_idx); k_whole); intro _ _ _; (try k_sweep)) | (k_here; (with_reducible show wpAny _ _ (call (Value.builtin "list.append") [Value.ref _, _]) _ _ _); k_dflt (refine' append_led ?Fz9 ?Nz9 ?Uz9 ?zz9 ?_; (case Fz9 => k_asm); (case Nz9 => k_asm); (case Uz9 => k_upd); (case zz9 => ksa_idx); k_whole); intro _ _ _; (try k_sweep)) | (k_here; (with_reducible show wpAny _ _ (call (Value.builtin "len") [Value.ref _]) _ _ _); k_dflt (refine' len_led ?Nz9 ?mz9 ?zz9 ?_; (case Nz9 => k_asm); (case mz9 => k_mem); (case zz9 => ksa_idx); k_whole); intro _ _) | (k_here; (with_reducible show wpAny _ _ (subscriptTail _ _ (Value.ref _) (Value.int _ _)) _ _ _); k_dflt (refine' item_led ?Nz9 ?mz9 ?az9 ?bz9 ?xz9 ?_; (case Nz9 => k_asm); (case mz9 => k_mem); (case az9 => omega); (case bz9 => omega); (case xz9 => assumption))) | (k_end; kc_close) | (k_end; wrow_close) | walk1 | (dsimp only; walk1) | (leave1; (try dsimp only)) | fail "no step"))
              (rename Fr _ _ _ _ => kF); (rename News _ _ _ _ => kN)
              exact ⟨rfl, _, _, _, _, rfl, kF, kN, _, _, _, _, _, rfl, .append e1 (.cons _ _ .nil), by simp; omega, rfl, rfl⟩
            · (repeat' (first | (k_unfold; (try dsimp only)) | (k_here; (with_reducible show wpAny _ _ (setItem (Value.ref _) (Value.int _ _) _) _ _ _); k_dflt (refine' set_led ?Fz9 ?Nz9 ?Uz9 ?az9 ?bz9 ?zz9 ?_; (case Fz9 => k_asm); (case Nz9 => k_asm); (case Uz9 => k_upd); (case az9 => ksa_idx); (case bz9 => ksa_idx); (case zz9 => ksa_idx); k_whole); intro _ _ _; (try k_sweep)) | (k_here; (with_reducible show wpAny _ _ (call (Value.builtin "list.append") [Value.ref _, _]) _ _ _); k_dflt (refine' append_led ?Fz9 ?Nz9 ?Uz9 ?zz9 ?_; (case Fz9 => k_asm); (case Nz9 => k_asm); (case Uz9 => k_upd); (case zz9 => ksa_idx); k_whole); intro _ _ _; (try k_sweep)) | (k_here; (with_reducible show wpAny _ _ (call (Value.builtin "len") [Value.ref _]) _ _ _); k_dflt (refine' len_led ?Nz9 ?mz9 ?zz9 ?_; (case Nz9 => k_asm); (case mz9 => k_mem); (case zz9 => ksa_idx); k_whole); intro _ _) | (k_here; (with_reducible show wpAny _ _ (subscriptTail _ _ (Value.ref _) (Value.int _ _)) _ _ _); k_dflt (refine' item_led ?Nz9 ?mz9 ?az9 ?bz9 ?xz9 ?_; (case Nz9 => k_asm); (case mz9 => k_mem); (case az9 => omega); (case bz9 => omega); (case xz9 => assumption))) | (k_end; kc_close) | (k_end; wrow_close) | walk1 | (dsimp only; walk1) | (leave1; (try dsimp only)) | fail "no step"))
              (rename Fr _ _ _ _ => kF); (rename News _ _ _ _ => kN)
              exact ⟨rfl, _, _, _, _, rfl, kF, kN, _, _, _, _, _, rfl, e1, by omega, rfl, rfl⟩
      · exact .nil))) only [↓wr_true]
end
section
section
theorem walk_off_P24 : True := by
  w_top off
  trivial
theorem stop9u {p : Prop} (h : Stop9 p) : p := h
noncomputable def lawDef : List Stmt × Scope := defOf (PySem.Challenge.pw_no0174_01.main.body.drop 43)
noncomputable def lawRest (k : Nat) : List Stmt := lawDef.1.drop k
noncomputable abbrev lawEnv (L : Addr) : Env := envOfC (Str.ofString "law") lawDef.2 L 453 (.ref 452)
/-- not a tuple -/
noncomputable def NT (o : Obj) : Prop := ∀ l n, o ≠ tupAt l n
theorem nt_cls {o : Obj} (h : o.cls ≠ .type "tuple") : NT o := fun l n e => h (by rw [e])
theorem nt_list {vs : Array Value} {n : Nat} : NT (W.listOf vs n) := nt_cls (by simp [W.listOf])
theorem nt_dict {α : Type} [DecidableEq α] {knd : PySem.KeyKind prg w α} {o : Obj} {kvs : List (α × Value)} (h : o.IsDictOf knd kvs) : NT o := nt_cls (by
  obtain ⟨_, _, hc, _⟩ := h
  rw [hc.1]; simp)
theorem RowIs.nt {o : Obj} (h : RowIs o) : NT o := by
  obtain ⟨_, _, _, rfl, _⟩ := h
  exact nt_list
theorem CellsAt.nt {R : List (Addr × Obj)} {o : Obj} {hs : List (Int × Int)} (h : CellsAt R o hs) : NT o := by
  obtain ⟨_, _, rfl, _⟩ := h.out
  exact nt_list
/-- what stands in the law's frame: the row, the heap's list, the stack's, the table, the store -/
structure LP (w : World) (L : Addr) (ROW H T K S : Addr) (oR oH oT oK : Obj) (hs ss : List (Int × Int)) (R : List (Addr × Obj)) : Prop where
  nRH : @Ne Nat ROW H
  nRT : @Ne Nat ROW T
  nRK : @Ne Nat ROW K
  nHT : @Ne Nat H T
  nHK : @Ne Nat H K
  nTK : @Ne Nat T K
  fR : ∀ p ∈ R, p.1 ≠ ROW
  fH : ∀ p ∈ R, p.1 ≠ H
  fT : ∀ p ∈ R, p.1 ≠ T
  fK : ∀ p ∈ R, p.1 ≠ K
  st : StoreIs R S H T
  cS : ∃ c : Obj, (L + 1, c) ∈ R ∧ c.data = .cell (some (.ref S))
  cK : ∃ c : Obj, (L + 1 + 1, c) ∈ R ∧ c.data = .cell (some (.ref K))
  ro : RowIs oR
  ch : CellsAt R oH hs
  ct : CellsAt R oT ss
  nK : NT oK
  lk : (K == sysModules) = false
theorem all_cons {P : Addr × Obj → Prop} {a : Addr × Obj} {l : List (Addr × Obj)} (h : P a) (k : ∀ p ∈ l, P p) : ∀ p ∈ a :: l, P p := fun p hp => by
  rcases List.mem_cons.mp hp with rfl | hp
  · exact h
  · exact k p hp
theorem all_app {P : Addr × Obj → Prop} {l l' : List (Addr × Obj)} (h : ∀ p ∈ l, P p) (k : ∀ p ∈ l', P p) : ∀ p ∈ l ++ l', P p := fun p hp => by
  rcases List.mem_append.mp hp with hp | hp
  · exact h p hp
  · exact k p hp
theorem all_nil {P : Addr × Obj → Prop} : ∀ p ∈ ([] : List (Addr × Obj)), P p := fun _ h => nomatch h
theorem datAll_drop {R R' : List (Addr × Obj)} (hm : ∀ a l n, (a, tupAt l n) ∈ R → (a, tupAt l n) ∈ R') : ∀ {vs : List Value} {ds : List Dat}, DatAll R vs ds → (∀ d ∈ ds, ∃ c, d = cd c) → DatAll R' vs ds
  | _, _, .nil, _ => .nil
  | _, _, .cons h r, k => .cons (by obtain ⟨c, e⟩ := k _ (.head _); subst e; exact dat_drop h hm) (datAll_drop hm r fun d hd => k d (.tail _ hd))
theorem SymIs.drop {A A' : List (Addr × Obj)} {ROW a1 a2 SY : Addr} {oR c1 c2 : Obj} {u1 u2 : Option Value} (h : SymIs (A ++ [(ROW, oR), (a2, c2), (a1, c1)]) SY) (ro : RowIs oR) (d1 : c1.data = .cell u1) (d2 : c2.data = .cell u2) (hs : ∀ p ∈ A, p ∈ A') : SymIs A' SY := by
  obtain ⟨SYD, TX, AN, FU, FN, h1, h2, h3, h4, t1, t2, t3, t4, n, fv, m, fds, a, b, c, d, e, ⟨k1, e1⟩, e2⟩ := h
  obtain ⟨vs, ns, n', rfl, hi, _⟩ := ro
  have key : ∀ (x : Addr) (o : Obj), (x, o) ∈ A ++ [(ROW, listOf vs.toArray n'), (a2, c2), (a1, c1)] → o ≠ listOf vs.toArray n' → (∀ u, o.data ≠ .cell u) → (x, o) ∈ A' := by
    intro x o hm h1 h2
    rcases List.mem_append.mp hm with hm | hm
    · exact hs _ hm
    · exfalso
      simp only [List.mem_cons, List.not_mem_nil, or_false, Prod.mk.injEq] at hm
      rcases hm with ⟨_, e⟩ | ⟨_, e⟩ | ⟨_, e⟩
      · exact h1 e
      · exact h2 _ (e ▸ d2)
      · exact h2 _ (e ▸ d1)
  refine ⟨SYD, TX, AN, FU, FN, h1, h2, h3, h4, t1, t2, t3, t4, n, fv, m, fds, key _ _ a (fun q => ?_) (fun _ q => ?_), key _ _ b (fun q => ?_) (fun _ q => ?_), key _ _ c (fun q => ?_) (fun _ q => ?_), ?_, e, ⟨k1, e1⟩, e2⟩
  · exact absurd (congrArg Obj.data q) (by simp [W.listOf])
  · exact absurd q (by simp)
  · exact absurd (congrArg Obj.data q) (by simp [W.listOf])
  · exact absurd q (by simp)
  · have q2 : fv = vs := by (have q3 := congrArg Obj.data q; simp [W.listOf] at q3; exact q3.1)
    subst q2
    obtain ⟨v, hv, hd⟩ := datAll_pick d e1
    obtain ⟨j, t, rfl⟩ := hi.all v (List.mem_of_getElem? hv)
    cases hd
  · exact absurd q (by simp)
  · refine datAll_drop (fun x l k hm => key x _ hm (fun q => ?_) fun _ q => ?_) d e.2
    · exact absurd (congrArg Obj.cls q) (by simp [W.listOf])
    · exact absurd q (by simp)
theorem ls_start {g h : Heap} {L : Addr} {ROW H T K S TR SD SY : Addr} {oR oK cs ck c1 c2 : Obj} {new : List (Addr × Obj)} {h1 h2 h3 h4 h5 h6 h7 : Int} {t1 t2 t3 t4 t5 t6 t7 u1 u2 u3 : Tok} {n : Nat}
    (nK : NT oK) (N : News g L h ((K, oK) :: (TR, W.listOf #[] 0) :: (T, W.listOf #[] 0) :: (H, W.listOf #[] 0) :: (S, instObj 374 SD) :: (SD, dictOf [⟨h1, .str (Str.ofString "symbols") t1, .ref SY⟩, ⟨h2, .str (Str.ofString "max_heap") t2, .int 100000 u1⟩, ⟨h3, .str (Str.ofString "heap") t3, .ref H⟩, ⟨h4, .str (Str.ofString "stack") t4, .ref T⟩, ⟨h5, .str (Str.ofString "trail") t5, .ref TR⟩, ⟨h6, .str (Str.ofString "hb") t6, .int 0 u2⟩, ⟨h7, .str (Str.ofString "bb") t7, .int 0 u3⟩] n) :: (new ++ [(ROW, oR), (L + 1 + 1, ck), (L + 1, cs)])))
    (ro : RowIs oR) (lk : (K == sysModules) = false) (hS : SymIs (new ++ [(ROW, oR), (L + 1 + 1, c2), (L + 1, c1)]) SY) (d1 : c1.data = .cell none) (d2 : c2.data = .cell none) (e1 : cs.data = .cell (some (.ref S))) (e2 : ck.data = .cell (some (.ref K)))
    (k1 : AllLt K ((TR, W.listOf #[] 0) :: (T, W.listOf #[] 0) :: (H, W.listOf #[] 0) :: (S, instObj 374 SD) :: (SD, oR) :: (new ++ [(ROW, oR), (L + 1 + 1, ck), (L + 1, cs)])))
    (k2 : AllLt TR ((T, W.listOf #[] 0) :: (H, W.listOf #[] 0) :: (S, instObj 374 SD) :: (SD, oR) :: (new ++ [(ROW, oR), (L + 1 + 1, ck), (L + 1, cs)])))
    (k3 : AllLt T ((H, W.listOf #[] 0) :: (S, instObj 374 SD) :: (SD, oR) :: (new ++ [(ROW, oR), (L + 1 + 1, ck), (L + 1, cs)])))
    (k4 : AllLt H ((S, instObj 374 SD) :: (SD, oR) :: (new ++ [(ROW, oR), (L + 1 + 1, ck), (L + 1, cs)])))
    (k5 : SD < S) (k6 : AllLt SD (new ++ [(ROW, oR), (L + 1 + 1, ck), (L + 1, cs)])) (k7 : ∀ p ∈ new, @LT.lt Nat _ ROW p.1) (k8 : L + 1 + 1 < ROW) :
    ∃ R, News g L h ((ROW, oR) :: (H, W.listOf #[] 0) :: (T, W.listOf #[] 0) :: (K, oK) :: R) ∧ LP w L ROW H T K S oR (W.listOf #[] 0) (W.listOf #[] 0) oK [] [] R := by
  have m1 := ktn_ltOf k1
  have m2 := ktn_ltOf k2
  have m3 := ktn_ltOf k3
  have m4 := ktn_ltOf k4
  have m6 := ktn_ltOf k6
  have r4 : ROW < H := m4 (ROW, oR) (by simp)
  have r6 : ROW < SD := m6 (ROW, oR) (by simp)
  refine ⟨(TR, W.listOf #[] 0) :: (S, instObj 374 SD) :: (SD, dictOf [⟨h1, .str (Str.ofString "symbols") t1, .ref SY⟩, ⟨h2, .str (Str.ofString "max_heap") t2, .int 100000 u1⟩, ⟨h3, .str (Str.ofString "heap") t3, .ref H⟩, ⟨h4, .str (Str.ofString "stack") t4, .ref T⟩, ⟨h5, .str (Str.ofString "trail") t5, .ref TR⟩, ⟨h6, .str (Str.ofString "hb") t6, .int 0 u2⟩, ⟨h7, .str (Str.ofString "bb") t7, .int 0 u3⟩] n) :: (new ++ [(L + 1 + 1, ck), (L + 1, cs)]), News.sub N ?_, ?_⟩
  · intro p hp
    simp only [List.mem_cons, List.mem_append, List.not_mem_nil, or_false] at hp ⊢
    rcases hp with hp | hp | hp | hp | hp | hp | hp | hp | hp | hp <;> simp [hp]
  have all : ∀ {d : Addr}, TR ≠ d → S ≠ d → SD ≠ d → (∀ p ∈ new, p.1 ≠ d) → L + 1 + 1 ≠ d → L + 1 ≠ d → ∀ od, ∀ p ∈ (TR, W.listOf #[] 0) :: (S, instObj 374 SD) :: (SD, od) :: (new ++ [(L + 1 + 1, ck), (L + 1, cs)]), p.1 ≠ d :=
    fun a b c e f k od => all_cons a (all_cons b (all_cons c (all_app e (all_cons f (all_cons k all_nil)))))
  refine ⟨Nat.ne_of_lt r4, Nat.ne_of_lt (m3 (ROW, oR) (by simp)), Nat.ne_of_lt (m1 (ROW, oR) (by simp)), Nat.ne_of_lt (m3 (H, W.listOf #[] 0) (.head _)), Nat.ne_of_lt (m1 (H, W.listOf #[] 0) (by simp)), Nat.ne_of_lt (m1 (T, W.listOf #[] 0) (by simp)), ?_, ?_, ?_, ?_, ⟨SD, SY, TR, h1, h2, h3, h4, h5, h6, h7, t1, t2, t3, t4, t5, t6, t7, u1, u2, u3, n, .tail _ (.head _), .tail _ (.tail _ (.head _)), ?_⟩,
    ⟨cs, by simp, e1⟩, ⟨ck, by simp, e2⟩, ro, ⟨[], 0, rfl, .nil, by simp⟩, ⟨[], 0, rfl, .nil, by simp⟩, nK, lk⟩
  · exact all (Nat.ne_of_gt (m2 (ROW, oR) (by simp))) (Nat.ne_of_gt (Nat.lt_trans r6 k5)) (Nat.ne_of_gt r6) (fun p hp => Nat.ne_of_gt (k7 p hp)) (Nat.ne_of_lt k8) (Nat.ne_of_lt (Nat.lt_of_succ_lt k8)) _
  · exact all (Nat.ne_of_gt (m2 (H, W.listOf #[] 0) (by simp))) (Nat.ne_of_lt (m4 (S, instObj 374 SD) (.head _))) (Nat.ne_of_lt (m4 (SD, oR) (by simp))) (fun p hp => Nat.ne_of_lt (m4 p (by simp [hp]))) (Nat.ne_of_lt (m4 (L + 1 + 1, ck) (by simp))) (Nat.ne_of_lt (m4 (L + 1, cs) (by simp))) _
  · exact all (Nat.ne_of_gt (m2 (T, W.listOf #[] 0) (by simp))) (Nat.ne_of_lt (m3 (S, instObj 374 SD) (by simp))) (Nat.ne_of_lt (m3 (SD, oR) (by simp))) (fun p hp => Nat.ne_of_lt (m3 p (by simp [hp]))) (Nat.ne_of_lt (m3 (L + 1 + 1, ck) (by simp))) (Nat.ne_of_lt (m3 (L + 1, cs) (by simp))) _
  · exact all (Nat.ne_of_lt (m1 (TR, W.listOf #[] 0) (.head _))) (Nat.ne_of_lt (m1 (S, instObj 374 SD) (by simp))) (Nat.ne_of_lt (m1 (SD, oR) (by simp))) (fun p hp => Nat.ne_of_lt (m1 p (by simp [hp]))) (Nat.ne_of_lt (m1 (L + 1 + 1, ck) (by simp))) (Nat.ne_of_lt (m1 (L + 1, cs) (by simp))) _
  · exact SymIs.drop hS ro d1 d2 (fun p hp => by simp [hp])

/-- the first four statements, up to the loop -/
theorem seg1 {p : Program} {loose : List Str} {mean : ExcName → Option Value} {mg mb : Str → Option Value} {g h : Heap} {L : Addr} {s : Shared} {tk : Nat} {m : Str → Option Value} {Q : Flow → Shared → Prop}
   (K0 : Below callerA g [] g) (X : (hk.heap_1 w.params).In g) (T9 : Top p loose mean mg mb g) (a : Addr) (vs : List Value) (ns : List Int) (hl : g.IsList a vs.toArray) (hi : IntsAre vs ns) (hn : ns.length ≤ 100)
   (c1 c2 : Obj) (d1 : c1.data = .cell none) (d2 : c2.data = .cell none)
   (F : Fr g L h m) (hm1 : m (Str.ofString "script") = some (.ref a)) (N : News g L h [(L + 1 + 1, c2), (L + 1, c1)])
   (hQ : ∀ h' tk' m' ROW H T K S oR oK R, Fr g L h' m' → News g L h' ((ROW, oR) :: (H, W.listOf #[] 0) :: (T, W.listOf #[] 0) :: (K, oK) :: R) → m' (Str.ofString "row") = some (.ref ROW) → LP w L ROW H T K S oR (W.listOf #[] 0) (W.listOf #[] 0) oK [] [] R → oK.IsDictOf (intKind prg w) [] → Stop9 (wpAny (model prg w) (callerA.deeper (lawEnv L)) (execs (lawRest 3) (lawEnv L)) Q (fun _ _ => False) { s with heap := h', toks := tk' })) :
   wpAny (model prg w) (callerA.deeper (lawEnv L)) (execs (lawRest 0) (lawEnv L)) Q (fun _ _ => False) { s with heap := h, toks := tk } := by
  refine wr_mp ?_
  simp (disch := (k_dflt (
      unfold lawEnv prg
      conv in (execs _ _) => arg 1; whnf
      conv in (occs := *) lawDef.2 => all_goals whnf
      revert X
      k_fill
      intro X
      have hl9 : ∀ q ∈ [(Str.ofString "script", Value.ref a)], m q.1 = some q.2 := by
        intro q hq
        rw [List.mem_singleton.mp hq]; exact hm1
      have F' := fr_stdL F _ hl9
      clear F
      (repeat' (first | (k_unfold; (try dsimp only)) | (k_here; (with_reducible show wpAny _ _ (execs (Stmt.For (Expr.Name (Str.ofString "k") _) _ _ _ _ :: _) _) _ _ _); refine stop9u ?_) | (k_here; (with_reducible show wpAny _ _ (call (Value.ref 154) _) _ _ _); k_dflt (refine' sym_call _ ?kB ?kF ?kX ?kN ?kT ?kA ?kf ?kk ?kh ?kd ?ku ?_; ktn_step; intro SY9 new9 h9 tk9 F9 N9 hS9 fr9; (try simp only [List.forall_mem_cons, List.forall_mem_append, List.forall_mem_nil, imp_and, forall_and, and_true, implies_true] at fr9); (repeat (rename _ ∧ _ => hc9; obtain ⟨_, _⟩ := hc9)); (try dsimp only); (try k_fold))) | (k_here; (with_reducible show wpAny _ _ (call (Value.ref 427) _) _ _ _); k_dflt (refine' row_call _ ?kB ?kF ?kX ?kN ?kT ?kA ?kf ?kk ?kh ?kd ?ku _ _ _ ?hl ?hi ?hn ?_; ktn_step; (case hl => assumption); (case hi => assumption); (case hn => assumption); intro row9 o9 h9 tk9 F9 N9 ho9 l9; k_lt l9; (try dsimp only); (try k_fold))) | (k_here; (with_reducible show wpAny _ _ (call (Value.ref _) _) _ _ _); k_dflt (refine wpAny_call ?_; ( refine' code_def ?k1z9 ?k2z9 ?k3z9 ?k4z9 ?k5z9 ?kAz9 ?kFz9 ?kKz9 ?k6z9 ?k7z9 ?k8z9 ?k9z9 ?kBz9 ?_ ?c2z9 ?c3z9 ?c4z9 ?c5z9; (case kAz9 => first | exact deeper_frames _ (by assumption) | exact deeper_frames _ (deeper_frames _ (by assumption)) | exact deeper_frames _ (deeper_frames _ (deeper_frames _ (by assumption)))); (case kFz9 => exact rfl); (case kKz9 => exact rfl); (case k1z9 => k_asm); (case k2z9 => k_asm); (case k3z9 => k_asm); (case k4z9 => k_asm); (case k5z9 => k_asm); (case k6z9 => k_is); (case k7z9 => k_is); (case k8z9 => k_room); (case k9z9 => exact BindsTo.of_eq rfl); (case c5z9 => decide); (case kBz9 => exact locs rfl); (case c2z9 => exact rfl); (case c3z9 => exact rfl); (case c4z9 => exact rfl); k_whole; intro _ _ _ _ _ _ _ _ _; (with_reducible refine wp_never ?_); (try dsimp only); (try k_fold)))) | (k_here; (with_reducible show wpAny _ _ (setItem (Value.ref _) (Value.int _ _) _) _ _ _); k_dflt (refine' set_led ?Fz9 ?Nz9 ?Uz9 ?az9 ?bz9 ?zz9 ?_; (case Fz9 => k_asm); (case Nz9 => k_asm); (case Uz9 => k_upd); (case az9 => ksa_idx); (case bz9 => ksa_idx); (case zz9 => ksa_idx); k_whole); intro _ _ _; (try k_sweep)) | (k_here; (with_reducible show wpAny _ _ (call (Value.builtin "list.append") [Value.ref _, _]) _ _ _); k_dflt (refine' append_led ?Fz9 ?Nz9 ?Uz9 ?zz9 ?_; (case Fz9 => k_asm); (case Nz9 => k_asm); (case Uz9 => k_upd); (case zz9 => ksa_idx); k_whole); intro _ _ _; (try k_sweep)) | (k_here; (with_reducible show wpAny _ _ (call (Value.builtin "len") [Value.ref _]) _ _ _); k_dflt (refine' len_led ?Nz9 ?mz9 ?zz9 ?_; (case Nz9 => k_asm); (case mz9 => k_mem); (case zz9 => ksa_idx); k_whole); intro _ _) | (k_here; (with_reducible show wpAny _ _ (subscriptTail _ _ (Value.ref _) (Value.int _ _)) _ _ _); k_dflt (refine' item_led ?Nz9 ?mz9 ?az9 ?bz9 ?xz9 ?_; (case Nz9 => k_asm); (case mz9 => k_mem); (case az9 => omega); (case bz9 => omega); (case xz9 => assumption))) | (k_end; kc_close) | (k_end; wrow_close) | walk1 | (dsimp only; walk1) | (leave1; (try dsimp only)) | fail "no step"))
      unfold Stop9
      (rename Fr _ _ _ _ => kF); (rename News _ _ _ _ => kN); (rename Obj.IsDictOf (intKind _ _) _ _ => kI)
      obtain ⟨R, N2, P2⟩ := ls_start (w := w) (nt_dict kI) kN (by assumption) (by assumption) (by assumption) (by assumption) (by assumption) (by assumption) (by assumption) (by repeat' (first | assumption | exact trivial | refine allLt_append.mpr ⟨?_, ?_⟩ | refine ⟨?_, ?_⟩)) (by repeat' (first | assumption | exact trivial | refine allLt_append.mpr ⟨?_, ?_⟩ | refine ⟨?_, ?_⟩)) (by repeat' (first | assumption | exact trivial | refine allLt_append.mpr ⟨?_, ?_⟩ | refine ⟨?_, ?_⟩)) (by repeat' (first | assumption | exact trivial | refine allLt_append.mpr ⟨?_, ?_⟩ | refine ⟨?_, ?_⟩)) (by assumption) (by repeat' (first | assumption | exact trivial | refine allLt_append.mpr ⟨?_, ?_⟩ | refine ⟨?_, ?_⟩)) (by assumption) (by assumption)
      exact hQ _ _ _ _ _ _ _ _ _ _ _ kF N2 rfl P2 kI))) only [↓wr_true]
end
section
theorem walk_off_P25 : True := by
  w_top off
  trivial
theorem stop9t {p : Prop} (h : Stop9 p) : p := h
section
variable {L ROW H T K S : Addr} {oR oH oT oK : Obj} {hs ss : List (Int × Int)} {R new : List (Addr × Obj)}
theorem StoreIs.app (h : StoreIs R S H T) : StoreIs (new ++ R) S H T := h.mono sub_right
/-- the frame's objects after a call that made something and turned objects -/
theorem LP.grow (lp : LP w L ROW H T K S oR oH oT oK hs ss R) (hn : ∀ p ∈ new, ROW ≠ p.1 ∧ H ≠ p.1 ∧ T ≠ p.1 ∧ K ≠ p.1) : LP w L ROW H T K S oR oH oT oK hs ss (new ++ R) :=
  ⟨lp.nRH, lp.nRT, lp.nRK, lp.nHT, lp.nHK, lp.nTK, all_app (fun p hp => Ne.symm (hn p hp).1) lp.fR, all_app (fun p hp => Ne.symm (hn p hp).2.1) lp.fH, all_app (fun p hp => Ne.symm (hn p hp).2.2.1) lp.fT, all_app (fun p hp => Ne.symm (hn p hp).2.2.2) lp.fK,
    lp.st.app, let ⟨c, a, b⟩ := lp.cS; ⟨c, sub_right _ a, b⟩, let ⟨c, a, b⟩ := lp.cK; ⟨c, sub_right _ a, b⟩, lp.ro, lp.ch.mono sub_right, lp.ct.mono sub_right, lp.nK, lp.lk⟩
theorem LP.row (lp : LP w L ROW H T K S oR oH oT oK hs ss R) {o : Obj} (ro : RowIs o) : LP w L ROW H T K S o oH oT oK hs ss R := { lp with ro }
theorem LP.heap (lp : LP w L ROW H T K S oR oH oT oK hs ss R) {o : Obj} {hs' : List (Int × Int)} (ch : CellsAt R o hs') : LP w L ROW H T K S oR o oT oK hs' ss R := { lp with ch }
theorem LP.stack (lp : LP w L ROW H T K S oR oH oT oK hs ss R) {o : Obj} {ss' : List (Int × Int)} (ct : CellsAt R o ss') : LP w L ROW H T K S oR oH o oK hs ss' R := { lp with ct }
theorem LP.table (lp : LP w L ROW H T K S oR oH oT oK hs ss R) {o : Obj} (nK : NT o) : LP w L ROW H T K S oR oH oT o hs ss R := { lp with nK }
variable {news : List (Addr × Obj)} {g' : Obj → List (Addr × Obj)}
theorem above4 (hin : ∀ p ∈ (ROW, oR) :: (T, oT) :: (K, oK) :: R, p ∈ news) (hH : (H, oH) ∈ news) (hlt : ∀ p ∈ new, ∀ q ∈ news, @LT.lt Nat _ q.1 p.1) : ∀ p ∈ new, ROW ≠ p.1 ∧ H ≠ p.1 ∧ T ≠ p.1 ∧ K ≠ p.1 := fun p hp =>
  ⟨Nat.ne_of_lt (hlt p hp _ (hin _ (.head _))), Nat.ne_of_lt (hlt p hp _ hH), Nat.ne_of_lt (hlt p hp _ (hin _ (.tail _ (.head _)))), Nat.ne_of_lt (hlt p hp _ (hin _ (.tail _ (.tail _ (.head _)))))⟩
theorem lp_newvar (lp : LP w L ROW H T K S oR oH oT oK hs ss R) (U : ∀ o', Upd H oH o' news (g' o')) (hin : ∀ p ∈ (ROW, oR) :: (T, oT) :: (K, oK) :: R, p ∈ news) (hl : hs.length ≤ 500) :
    Spec w 209 [.ref S] news 5 200 (fun v post => ∃ o' new, post = new ++ g' o' ∧ (∀ p ∈ new, ∀ q ∈ news, @LT.lt Nat _ q.1 p.1) ∧ LP w L ROW H T K S oR o' oT oK (hs ++ [(0, (hs.length : Int))]) ss (new ++ R) ∧ DatIn (new ++ R) v (cd (0, (hs.length : Int)))) := by
  refine (Spec.upd (P := fun v o' new => CellsAt (new ++ R) o' (hs ++ [(0, (hs.length : Int))]) ∧ DatIn (new ++ R) v (cd (0, (hs.length : Int)))) (fun rest h1 h2 => ?_) U).mono (Nat.le_refl _) (Nat.le_refl _) fun v post h => ?_
  · have sub : ∀ p ∈ R, p ∈ rest := fun p hp => h2 p (hin p (.tail _ (.tail _ (.tail _ hp)))) (lp.fH p hp)
    exact newvar_spec S H T oH hs rest R h1 (lp.st.mono sub) lp.ch hl
  · obtain ⟨o', new, e, _, h1, h3, h4⟩ := h
    exact ⟨o', new, e, h1, (lp.grow (above4 hin (upd_mem (U oH)) h1)).heap h3, h4⟩
theorem lp_term (lp : LP w L ROW H T K S oR oH oT oK hs ss R) (tk0 : Tok) (U : ∀ o', Upd ROW oR o' news (g' o')) (hin : ∀ p ∈ (H, oH) :: (T, oT) :: (K, oK) :: R, p ∈ news) :
    Spec w 441 [.ref ROW, .int 1 tk0] news 6 160 (fun v post => ∃ o' new, post = new ++ g' o' ∧ (∀ p ∈ new, ∀ q ∈ news, @LT.lt Nat _ q.1 p.1) ∧ LP w L ROW H T K S o' oH oT oK hs ss (new ++ R) ∧ ∃ t : Tm, t.ok ∧ DatIn new v t.d) := by
  refine (Spec.upd (P := fun v o' new => RowIs o' ∧ ∃ t : Tm, t.ok ∧ DatIn new v t.d) (fun rest hr _ => term1_spec ROW tk0 oR lp.ro rest hr) U).mono (Nat.le_refl _) (Nat.le_refl _) fun v post h => ?_
  obtain ⟨o', new, e, _, h1, h2, h3⟩ := h
  refine ⟨o', new, e, h1, (lp.grow fun p hp => ?_).row h2, h3⟩
  exact ⟨Nat.ne_of_lt (h1 p hp _ (upd_mem (U oR))), Nat.ne_of_lt (h1 p hp _ (hin _ (.head _))), Nat.ne_of_lt (h1 p hp _ (hin _ (.tail _ (.head _)))), Nat.ne_of_lt (h1 p hp _ (hin _ (.tail _ (.tail _ (.head _)))))⟩
theorem lp_next (lp : LP w L ROW H T K S oR oH oT oK hs ss R) (U : ∀ o', Upd ROW oR o' news (g' o')) :
    Spec w 434 [.ref ROW] news 1 100 (fun v post => ∃ o', post = g' o' ∧ LP w L ROW H T K S o' oH oT oK hs ss R ∧ ∃ k t, v = .int k t) := by
  refine (Spec.upd (P := fun v o' new => new = [] ∧ RowIs o' ∧ ∃ k t, v = .int k t) (fun rest hr _ => next_spec ROW oR lp.ro rest hr) U).mono (Nat.le_refl _) (Nat.le_refl _) fun v post h => ?_
  obtain ⟨o', new, e, _, _, rfl, h2, h3⟩ := h
  exact ⟨o', e, lp.row h2, h3⟩
end
/-- the table's entries -/
structure KV (i : Nat) (kvs : List (Int × Value)) (R : List (Addr × Obj)) : Prop where
  len : kvs.length = i
  mem : ∀ k x, (k, x) ∈ kvs → valueAt kvs k = some x ∧ 0 ≤ k ∧ k < i ∧ DatIn R x (cd (0, k))
  has : ∀ n : Int, 0 ≤ n → n < i → ∃ v, valueAt kvs n = some v ∧ DatIn R v (cd (0, n))
theorem valueAt_app {kvs : List (Int × Value)} {a k : Int} {v : Value} : valueAt (kvs ++ [(a, v)]) k = (valueAt kvs k).or (if a = k then some v else none) := by
  unfold valueAt
  rw [List.find?_append]
  cases kvs.find? (fun kv => kv.1 = k) with
  | some p => rfl
  | none =>
    by_cases h : a = k
    · simp [h]
    · simp [h]
theorem KV.none {i : Nat} {kvs : List (Int × Value)} {R : List (Addr × Obj)} (h : KV i kvs R) : valueAt kvs (i : Int) = none := by
  cases e : valueAt kvs (i : Int) with
  | none => rfl
  | some v =>
    have := (h.mem _ _ (at_some e)).2.2.1
    omega
theorem KV.step {i : Nat} {kvs : List (Int × Value)} {R new : List (Addr × Obj)} (h : KV i kvs R) {v : Value} (hv : DatIn (new ++ R) v (cd (0, (i : Int)))) : KV (i + 1) (stored kvs (i : Int) v) (new ++ R) := by
  rw [stored_absent h.none]
  have old : ∀ {k x}, (k, x) ∈ kvs → valueAt (kvs ++ [((i : Int), v)]) k = some x := fun hm => by rw [valueAt_app, (h.mem _ _ hm).1]; rfl
  have new' : valueAt (kvs ++ [((i : Int), v)]) (i : Int) = some v := by rw [valueAt_app, h.none]; simp
  refine ⟨by simp [h.len], fun k x hm => ?_, fun n h0 h1 => ?_⟩
  · rcases List.mem_append.mp hm with hm | hm
    · have q := h.mem _ _ hm
      exact ⟨old hm, q.2.1, by omega, q.2.2.2.mono sub_right⟩
    · obtain ⟨rfl, rfl⟩ := Prod.mk.inj (List.mem_singleton.mp hm)
      exact ⟨new', by omega, by omega, hv⟩
  · by_cases e : n < i
    · obtain ⟨x, a, b⟩ := h.has n h0 e
      exact ⟨x, by rw [valueAt_app, a]; rfl, b.mono sub_right⟩
    · have : n = i := by omega
      subst this
      exact ⟨v, new', hv⟩
theorem KV.mono {i : Nat} {kvs : List (Int × Value)} {R R' : List (Addr × Obj)} (h : KV i kvs R) (hs : ∀ p ∈ R, p ∈ R') : KV i kvs R' :=
  ⟨h.len, fun k x hm => let ⟨a, b, c, d⟩ := h.mem k x hm; ⟨a, b, c, d.mono hs⟩, fun n h0 h1 => let ⟨v, a, b⟩ := h.has n h0 h1; ⟨v, a, b.mono hs⟩⟩
noncomputable def cellsN (i : Nat) : List (Int × Int) := (List.range i).map fun j : Nat => (0, (j : Int))
theorem cellsN_succ (i : Nat) : cellsN (i + 1) = cellsN i ++ [(0, ((cellsN i).length : Int))] := by simp [cellsN, List.range_succ]
theorem range_led2 {prog : Program} {A : Around} {E : Value → Shared → Prop} {h₀ : Heap} {env : Env} {x : Str} {body : List Stmt} {Q : Flow → Shared → Prop} {s : Shared} {I : Addr} {a : Int} (n : Nat) (J : Nat → (Str → Option Value) → List (Addr × Obj) → Prop) (hk : ∀ i m nx, J i m nx → ∀ p ∈ nx, p.1 ≠ I)
    (done : ∀ h tk m nx, J n m nx → Fr h₀ env.locals h m → News h₀ env.locals h nx → Q .next { s with heap := h, toks := tk })
    (step : ∀ i m nx h tk t io, NT io → J i m nx → i < n → Fr h₀ env.locals h (fun y => if y = x then some (.int (a + (i : Int)) t) else m y) → News h₀ env.locals h ((I, io) :: nx) →
      wpAny (model prog w) A (execs body env) (fun f s' => Stop9 (match f with | .next => ∃ h' tk' m' nx', s' = { s with heap := h', toks := tk' } ∧ Fr h₀ env.locals h' m' ∧ News h₀ env.locals h' ((I, io) :: nx') ∧ J (i + 1) m' nx' | .ret v => Q (.ret v) s' | _ => False)) E { s with heap := h, toks := tk }) :
    ∀ (k i : Nat), i + k = n → ∀ m nx, J i m nx → RangeRest prog w A E h₀ env x body Q s I a n k i m nx
  | 0, i, e, m, nx, hJ => RangeRest.zero fun h tk F N => done h tk m nx (by simp at e; exact e ▸ hJ) F N
  | k + 1, i, e, m, nx, hJ => by
    refine RangeRest.succ fun t h tk F N => ?_
    refine wpAny_mono (step i m nx h tk t _ (nt_cls (by simp [itR])) hJ (by omega) F N) (fun f s₃ h₃ => ?_) fun _ _ x => x
    cases f with
    | next =>
      obtain ⟨h', tk', m', nx', rfl, F', N', hJ'⟩ := h₃
      exact ⟨h', tk', m', nx', rfl, F', N', hk _ _ _ hJ', range_led2 n J hk done step k (i + 1) (by omega) m' nx' hJ'⟩
    | ret v => exact h₃
    | brk => exact h₃.elim
    | cont => exact h₃.elim
end
section
theorem walk_off_P26 : True := by
  w_top off
  trivial
theorem stop9s {p : Prop} (h : Stop9 p) : p := h
local macro_rules | `(tactic| walk_at "pyIter ref") => `(tactic| ((with_reducible show wpAny _ _ (pyIter (Value.ref _)) (fun it s₂ => LoopAtV _ _ _ _ _ _ _ _ _ it s₂) _ _); (rename Fr _ _ _ _ => lF'); (rename News _ _ _ _ => lN'); (with_unfolding_all refine iter_rangeUnr (n := 3) (by first | assumption | exact rfl) (by assumption) (by decide) (by decide) lF' lN' ?_); clear lF' lN'; intro i' l1; (try k_lt l1); refine stop9s ?_))
theorem seg2 {p : Program} {loose : List Str} {mean : ExcName → Option Value} {mg mb : Str → Option Value} {g h : Heap} {L : Addr} {s : Shared} {tk : Nat} {m : Str → Option Value} {Q : Flow → Shared → Prop}
   (K0 : Below callerA g [] g) (X : (hk.heap_1 w.params).In g) (T9 : Top p loose mean mg mb g) {ROW H T K S : Addr} {oR oH oT oK : Obj} {R : List (Addr × Obj)}
   (F : Fr g L h m) (N : News g L h ((ROW, oR) :: (H, oH) :: (T, oT) :: (K, oK) :: R)) (hm1 : m (Str.ofString "row") = some (.ref ROW)) (lp : LP w L ROW H T K S oR oH oT oK [] [] R) (hK : oK.IsDictOf (intKind prg w) [])
   (hQ : ∀ h' tk' m' oH' oK' kvs R', Fr g L h' m' → News g L h' ((ROW, oR) :: (H, oH') :: (T, oT) :: (K, oK') :: R') → m' (Str.ofString "row") = some (.ref ROW) → LP w L ROW H T K S oR oH' oT oK' (cellsN 3) [] R' → oK'.IsDictOf (intKind prg w) kvs → KV 3 kvs R' →
      Stop9 (wpAny (model prg w) (callerA.deeper (lawEnv L)) (execs (lawRest 4) (lawEnv L)) Q (fun _ _ => False) { s with heap := h', toks := tk' })) :
   wpAny (model prg w) (callerA.deeper (lawEnv L)) (execs (lawRest 3) (lawEnv L)) Q (fun _ _ => False) { s with heap := h, toks := tk } := by
  refine wr_mp ?_
  simp (disch := (k_dflt (
      unfold lawEnv prg
      conv in (execs _ _) => arg 1; whnf
      conv in (occs := *) lawDef.2 => all_goals whnf
      revert X
      k_fill
      intro X
      have hl9 : ∀ q ∈ [(Str.ofString "row", Value.ref ROW)], m q.1 = some q.2 := by
        intro q hq
        rw [List.mem_singleton.mp hq]; exact hm1
      have F' := fr_stdL F _ hl9
      clear F
      (repeat' (first | (k_unfold; (try dsimp only)) | (k_here; (with_reducible show wpAny _ _ (setItem (Value.ref _) (Value.int _ _) _) _ _ _); k_dflt (refine' kda_set (knd := intKind _ _) ?F ?N ?U ?d (intKind_is _ _ _ _) ?z ?_; (case d => assumption); (case F => k_asm); (case N => k_asm); (case U => k_updF); (case z => assumption)); intro h' o' F' N' hd'; (try dsimp only at N')) | (k_here; (with_reducible show wpAny _ _ (call (Value.ref 209) _) _ _ _); k_dflt (refine' Spec.use (lp_newvar ?lp ?U ?hin ?hl) ?kB ?kF ?kX ?kN ?kT ?kA ?kf ?kk ?kh ?kd ?ku ?_; (case lp => assumption); ktn_step; (case U => (intro o9; k_upd)); (case hin => kqd_sub); (case hl => assumption); intro v9 post9 h9 tk9 F9 N9 hp9; obtain ⟨o9, new9, e9, fr9, lp9, hd9⟩ := hp9; subst e9; (try simp only [List.forall_mem_cons, List.forall_mem_append, List.forall_mem_nil, imp_and, forall_and, and_true, implies_true] at fr9); (repeat (rename _ ∧ _ => hc9; obtain ⟨_, _⟩ := hc9)); (try dsimp only); (try k_fold))) | (k_here; (with_reducible show wpAny _ _ (call (Value.ref _) _) _ _ _); k_dflt (refine wpAny_call ?_; ( refine' code_def ?k1z9 ?k2z9 ?k3z9 ?k4z9 ?k5z9 ?kAz9 ?kFz9 ?kKz9 ?k6z9 ?k7z9 ?k8z9 ?k9z9 ?kBz9 ?_ ?c2z9 ?c3z9 ?c4z9 ?c5z9; (case kAz9 => first | exact deeper_frames _ (by assumption) | exact deeper_frames _ (deeper_frames _ (by assumption)) | exact deeper_frames _ (deeper_frames _ (deeper_frames _ (by assumption)))); (case kFz9 => exact rfl); (case kKz9 => exact rfl); (case k1z9 => k_asm); (case k2z9 => k_asm); (case k3z9 => k_asm); (case k4z9 => k_asm); (case k5z9 => k_asm); (case k6z9 => k_is); (case k7z9 => k_is); (case k8z9 => k_room); (case k9z9 => exact BindsTo.of_eq rfl); (case c5z9 => decide); (case kBz9 => exact locs rfl); (case c2z9 => exact rfl); (case c3z9 => exact rfl); (case c4z9 => exact rfl); k_whole; intro _ _ _ _ _ _ _ _ _; (with_reducible refine wp_never ?_); (try dsimp only); (try k_fold)))) | (k_here; (with_reducible show wpAny _ _ (setItem (Value.ref _) (Value.int _ _) _) _ _ _); k_dflt (refine' set_led ?Fz9 ?Nz9 ?Uz9 ?az9 ?bz9 ?zz9 ?_; (case Fz9 => k_asm); (case Nz9 => k_asm); (case Uz9 => k_upd); (case az9 => ksa_idx); (case bz9 => ksa_idx); (case zz9 => ksa_idx); k_whole); intro _ _ _; (try k_sweep)) | (k_here; (with_reducible show wpAny _ _ (call (Value.builtin "list.append") [Value.ref _, _]) _ _ _); k_dflt (refine' append_led ?Fz9 ?Nz9 ?Uz9 ?zz9 ?_; (case Fz9 => k_asm); (case Nz9 => k_asm); (case Uz9 => k_upd); (case zz9 => ksa_idx); k_whole); intro _ _ _; (try k_sweep)) | (k_here; (with_reducible show wpAny _ _ (call (Value.builtin "len") [Value.ref _]) _ _ _); k_dflt (refine' len_led ?Nz9 ?mz9 ?zz9 ?_; (case Nz9 => k_asm); (case mz9 => k_mem); (case zz9 => ksa_idx); k_whole); intro _ _) | (k_here; (with_reducible show wpAny _ _ (subscriptTail _ _ (Value.ref _) (Value.int _ _)) _ _ _); k_dflt (refine' item_led ?Nz9 ?mz9 ?az9 ?bz9 ?xz9 ?_; (case Nz9 => k_asm); (case mz9 => k_mem); (case az9 => omega); (case bz9 => omega); (case xz9 => assumption))) | (k_end; kc_close) | (k_end; wrow_close) | walk1 | (dsimp only; walk1) | (leave1; (try dsimp only)) | fail "no step"))
      unfold Stop9
      rename_i I i1 i2 i3 i4 i5
      refine range_led2 (w := w) 3 (fun i m' nx => ∃ oH' oK' kvs R', nx = (ROW, oR) :: (H, oH') :: (T, oT) :: (K, oK') :: R' ∧ LP w L ROW H T K S oR oH' oT oK' (cellsN i) [] R' ∧ oK'.IsDictOf (intKind prg w) kvs ∧ KV i kvs R' ∧ (∀ p ∈ R', p.1 ≠ I) ∧ m' (Str.ofString "row") = some (.ref ROW)) ?_ ?_ ?_ 3 0 rfl _ _ ⟨oH, oK, [], R, rfl, lp, hK, ⟨rfl, fun _ _ h => (nomatch h), fun n a b => absurd (Int.lt_of_le_of_lt a b) (by decide)⟩, fun p hp => Nat.ne_of_lt (ktn_ltOf i5 p hp), rfl⟩
      · rintro i m' nx ⟨oH', oK', kvs, R', rfl, _, _, _, hI, _⟩
        exact all_cons (Nat.ne_of_lt i1) (all_cons (Nat.ne_of_lt i2) (all_cons (Nat.ne_of_lt i3) (all_cons (Nat.ne_of_lt i4) hI)))
      · rintro h2 tk2 m2 nx ⟨oH', oK', kvs, R', rfl, lp', hK', kv, _, hr⟩ F2 N2
        exact hQ _ _ _ _ _ _ _ F2 N2 hr lp' hK' kv
      · rintro i m2 nx h2 tk2 t2 io nio ⟨oH', oK', kvs, R', rfl, lp', hK', kv, hI, hr⟩ hi F2 N2
        rename (Fr g L _ (stdL _ _)) => F0
        clear F0 hK lp
        have hm8 : ∀ q ∈ [(Str.ofString "row", Value.ref ROW), (Str.ofString "k", Value.int (0 + (i : Int)) t2)], (fun y => if y = Str.ofString "k" then some (Value.int (0 + (i : Int)) t2) else m2 y) q.1 = some q.2 := by
          intro q hq
          simp only [List.mem_cons, List.not_mem_nil, or_false] at hq
          rcases hq with rfl | rfl
          · exact hr
          · rfl
        have F5 := fr_stdL F2 _ hm8
        clear F2
        rw [Int.zero_add] at F5
        obtain ⟨c1, hc1, hd1⟩ := lp'.cS
        obtain ⟨c2, hc2, hd2⟩ := lp'.cK
        refine StoreIs.elim lp'.st ?_
        intro SD SY TR h1 h2 h3 h4 h5 h6 h7 t1 t2 t3 t4 t5 t6 t7 u1 u2 u3 n hs1 hs2 _
        have n1 := lp'.nRH
        have n2 := lp'.nRT
        have n3 := lp'.nRK
        have n4 := lp'.nHT
        have n5 := lp'.nHK
        have n6 := lp'.nTK
        have f1 := lp'.fR
        have f2 := lp'.fH
        have f3 := lp'.fT
        have f4 := lp'.fK
        have hlk := lp'.lk
        have hln : (cellsN i).length ≤ 500 := by simp [cellsN]; omega
        have hkz : kvs.length ≤ sizeLine := by rw [kv.len, PySem.sizeLine_eq]; omega
        (repeat' (first | (k_unfold; (try dsimp only)) | (k_here; (with_reducible show wpAny _ _ (setItem (Value.ref _) (Value.int _ _) _) _ _ _); k_dflt (refine' kda_set (knd := intKind _ _) ?F ?N ?U ?d (intKind_is _ _ _ _) ?z ?_; (case d => assumption); (case F => k_asm); (case N => k_asm); (case U => k_updF); (case z => assumption)); intro h' o' F' N' hd'; (try dsimp only at N')) | (k_here; (with_reducible show wpAny _ _ (call (Value.ref 209) _) _ _ _); k_dflt (refine' Spec.use (lp_newvar ?lp ?U ?hin ?hl) ?kB ?kF ?kX ?kN ?kT ?kA ?kf ?kk ?kh ?kd ?ku ?_; (case lp => assumption); ktn_step; (case U => (intro o9; k_upd)); (case hin => kqd_sub); (case hl => assumption); intro v9 post9 h9 tk9 F9 N9 hp9; obtain ⟨o9, new9, e9, fr9, lp9, hd9⟩ := hp9; subst e9; (try simp only [List.forall_mem_cons, List.forall_mem_append, List.forall_mem_nil, imp_and, forall_and, and_true, implies_true] at fr9); (repeat (rename _ ∧ _ => hc9; obtain ⟨_, _⟩ := hc9)); (try dsimp only); (try k_fold))) | (k_here; (with_reducible show wpAny _ _ (call (Value.ref _) _) _ _ _); k_dflt (refine wpAny_call ?_; ( refine' code_def ?k1z9 ?k2z9 ?k3z9 ?k4z9 ?k5z9 ?kAz9 ?kFz9 ?kKz9 ?k6z9 ?k7z9 ?k8z9 ?k9z9 ?kBz9 ?_ ?c2z9 ?c3z9 ?c4z9 ?c5z9; (case kAz9 => first | exact deeper_frames _ (by assumption) | exact deeper_frames _ (deeper_frames _ (by assumption)) | exact deeper_frames _ (deeper_frames _ (deeper_frames _ (by assumption)))); (case kFz9 => exact rfl); (case kKz9 => exact rfl); (case k1z9 => k_asm); (case k2z9 => k_asm); (case k3z9 => k_asm); (case k4z9 => k_asm); (case k5z9 => k_asm); (case k6z9 => k_is); (case k7z9 => k_is); (case k8z9 => k_room); (case k9z9 => exact BindsTo.of_eq rfl); (case c5z9 => decide); (case kBz9 => exact locs rfl); (case c2z9 => exact rfl); (case c3z9 => exact rfl); (case c4z9 => exact rfl); k_whole; intro _ _ _ _ _ _ _ _ _; (with_reducible refine wp_never ?_); (try dsimp only); (try k_fold)))) | (k_here; (with_reducible show wpAny _ _ (setItem (Value.ref _) (Value.int _ _) _) _ _ _); k_dflt (refine' set_led ?Fz9 ?Nz9 ?Uz9 ?az9 ?bz9 ?zz9 ?_; (case Fz9 => k_asm); (case Nz9 => k_asm); (case Uz9 => k_upd); (case az9 => ksa_idx); (case bz9 => ksa_idx); (case zz9 => ksa_idx); k_whole); intro _ _ _; (try k_sweep)) | (k_here; (with_reducible show wpAny _ _ (call (Value.builtin "list.append") [Value.ref _, _]) _ _ _); k_dflt (refine' append_led ?Fz9 ?Nz9 ?Uz9 ?zz9 ?_; (case Fz9 => k_asm); (case Nz9 => k_asm); (case Uz9 => k_upd); (case zz9 => ksa_idx); k_whole); intro _ _ _; (try k_sweep)) | (k_here; (with_reducible show wpAny _ _ (call (Value.builtin "len") [Value.ref _]) _ _ _); k_dflt (refine' len_led ?Nz9 ?mz9 ?zz9 ?_; (case Nz9 => k_asm); (case mz9 => k_mem); (case zz9 => ksa_idx); k_whole); intro _ _) | (k_here; (with_reducible show wpAny _ _ (subscriptTail _ _ (Value.ref _) (Value.int _ _)) _ _ _); k_dflt (refine' item_led ?Nz9 ?mz9 ?az9 ?bz9 ?xz9 ?_; (case Nz9 => k_asm); (case mz9 => k_mem); (case az9 => omega); (case bz9 => omega); (case xz9 => assumption))) | (k_end; kc_close) | (k_end; wrow_close) | walk1 | (dsimp only; walk1) | (leave1; (try dsimp only)) | fail "no step"))
        unfold Stop9
        (rename Fr _ _ _ _ => kF); (rename News _ _ _ _ => kN)
        rename (LP w L ROW H T K S oR _ oT oK' _ [] (_ ++ R')) => lp9
        rename (DatIn (_ ++ R') _ _) => hd9
        rename (Obj.IsDictOf _ _ (stored _ _ _)) => hd8
        have q1 : ∀ {l : List (Addr × Obj)}, (∀ x : Addr × Obj, x ∈ l → @LT.lt Nat _ I x.fst) → ∀ p ∈ l, p.1 ≠ I := fun h p hp => Nat.ne_of_gt (h p hp)
        have hll : (cellsN i).length = i := by simp [cellsN]
        rw [hll] at hd9
        have lp8 := lp9.table (nt_dict hd8)
        rw [← cellsN_succ] at lp8
        refine ⟨_, _, _, _, rfl, kF, News.sub kN ?_, _, _, _, _, rfl, lp8, hd8, KV.step kv hd9, all_app (q1 (by assumption)) hI, rfl⟩
        · intro p hp
          simp only [List.mem_cons, List.mem_append] at hp ⊢
          rcases hp with hp | hp | hp | hp | hp | hp | hp <;> simp [hp]))) only [↓wr_true]
end
section
local macro_rules | `(tactic| k_ne) => `(tactic| first | assumption | exact Ne.symm (by assumption) | exact Nat.ne_of_gt (by assumption) | exact Nat.ne_of_lt (by assumption))
section
theorem walk_off_P27 : True := by
  w_top off
  trivial
theorem stop9r {p : Prop} (h : Stop9 p) : p := h
theorem news3 {g h : Heap} {L : Addr} {n0 n1 n2 R : List (Addr × Obj)} {a b c d e : Addr × Obj} (N : News g L h (n0 ++ a :: (n1 ++ (n2 ++ b :: c :: d :: e :: R)))) : News g L h (a :: b :: c :: d :: e :: (n0 ++ (n1 ++ (n2 ++ R)))) := News.sub N (by
  intro p hp
  simp only [List.mem_cons, List.mem_append] at hp ⊢
  rcases hp with hp | hp | hp | hp | hp | hp | hp | hp | hp <;> simp [hp])
theorem seg3 {p : Program} {loose : List Str} {mean : ExcName → Option Value} {mg mb : Str → Option Value} {g h : Heap} {L : Addr} {s : Shared} {tk : Nat} {m : Str → Option Value} {Q : Flow → Shared → Prop}
   (K0 : Below callerA g [] g) (X : (hk.heap_1 w.params).In g) (T9 : Top p loose mean mg mb g) {ROW H T K S : Addr} {oR oH oT oK : Obj} {hs ss : List (Int × Int)} {R : List (Addr × Obj)}
   (F : Fr g L h m) (N : News g L h ((ROW, oR) :: (H, oH) :: (T, oT) :: (K, oK) :: R)) (hm1 : m (Str.ofString "row") = some (.ref ROW)) (lp : LP w L ROW H T K S oR oH oT oK hs ss R)
   (hQ : ∀ h' tk' m' oR' R' TL c v0 v1 vv t0 t1 tv, Fr g L h' m' → News g L h' ((TL, W.listOf #[v0, v1] c) :: (ROW, oR') :: (H, oH) :: (T, oT) :: (K, oK) :: R') → m' (Str.ofString "row") = some (.ref ROW) → m' (Str.ofString "terms") = some (.ref TL) → m' (Str.ofString "value") = some vv →
      LP w L ROW H T K S oR' oH oT oK hs ss R' → (∀ p ∈ R, p ∈ R') → (∀ p ∈ (ROW, oR') :: (H, oH) :: (T, oT) :: (K, oK) :: R', p.1 ≠ TL) → DatIn R' v0 (Tm.d t0) → DatIn R' v1 (Tm.d t1) → DatIn R' vv (Tm.d tv) → Tm.ok t0 → Tm.ok t1 → Tm.ok tv →
      Stop9 (wpAny (model prg w) (callerA.deeper (lawEnv L)) (execs (lawRest 6) (lawEnv L)) Q (fun _ _ => False) { s with heap := h', toks := tk' })) :
   wpAny (model prg w) (callerA.deeper (lawEnv L)) (execs (lawRest 4) (lawEnv L)) Q (fun _ _ => False) { s with heap := h, toks := tk } := by
  refine wr_mp ?_
  simp (disch := (k_dflt (
      unfold lawEnv prg
      conv in (execs _ _) => arg 1; whnf
      conv in (occs := *) lawDef.2 => all_goals whnf
      revert X
      k_fill
      intro X
      have hl9 : ∀ q ∈ [(Str.ofString "row", Value.ref ROW)], m q.1 = some q.2 := by
        intro q hq
        rw [List.mem_singleton.mp hq]; exact hm1
      have F' := fr_stdL F _ hl9
      clear F
      have n1 := lp.nRH
      have n2 := lp.nRT
      have n3 := lp.nRK
      have f1 := lp.fR
      (repeat' (first | (k_unfold; (try dsimp only)) | (k_here; (with_reducible show wpAny _ _ (execs (Stmt.If _ _ _ _ :: _) _) _ _ _); refine stop9r ?_) | (k_here; (with_reducible show wpAny _ _ (call (Value.ref 434) _) _ _ _); k_dflt (refine' Spec.use (lp_next ?lp ?U) ?kB ?kF ?kX ?kN ?kT ?kA ?kf ?kk ?kh ?kd ?ku ?_; (case lp => assumption); ktn_step; (case U => (intro o9; k_upd)); intro v9 post9 h9 tk9 F9 N9 hp9; obtain ⟨o9, e9, lp9, k9, tt9, ev9⟩ := hp9; subst e9; subst ev9; (try dsimp only at N9); (try dsimp only); (try k_fold))) | (k_here; (with_reducible show wpAny _ _ (call (Value.ref 441) _) _ _ _); k_dflt (refine' Spec.use (lp_term ?lp _ ?U ?hin) ?kB ?kF ?kX ?kN ?kT ?kA ?kf ?kk ?kh ?kd ?ku ?_; (case lp => assumption); ktn_step; (case U => (intro o9; k_upd)); (case hin => kqd_sub); intro v9 post9 h9 tk9 F9 N9 hp9; obtain ⟨o9, new9, e9, fr9, lp9, t9, ok9, hd9⟩ := hp9; subst e9; (try simp only [List.forall_mem_cons, List.forall_mem_append, List.forall_mem_nil, imp_and, forall_and, and_true, implies_true] at fr9); (repeat (rename _ ∧ _ => hc9; obtain ⟨_, _⟩ := hc9)); (try dsimp only); (try k_fold))) | (k_here; (with_reducible show wpAny _ _ (call (Value.ref _) _) _ _ _); k_dflt (refine wpAny_call ?_; ( refine' code_def ?k1z9 ?k2z9 ?k3z9 ?k4z9 ?k5z9 ?kAz9 ?kFz9 ?kKz9 ?k6z9 ?k7z9 ?k8z9 ?k9z9 ?kBz9 ?_ ?c2z9 ?c3z9 ?c4z9 ?c5z9; (case kAz9 => first | exact deeper_frames _ (by assumption) | exact deeper_frames _ (deeper_frames _ (by assumption)) | exact deeper_frames _ (deeper_frames _ (deeper_frames _ (by assumption)))); (case kFz9 => exact rfl); (case kKz9 => exact rfl); (case k1z9 => k_asm); (case k2z9 => k_asm); (case k3z9 => k_asm); (case k4z9 => k_asm); (case k5z9 => k_asm); (case k6z9 => k_is); (case k7z9 => k_is); (case k8z9 => k_room); (case k9z9 => exact BindsTo.of_eq rfl); (case c5z9 => decide); (case kBz9 => exact locs rfl); (case c2z9 => exact rfl); (case c3z9 => exact rfl); (case c4z9 => exact rfl); k_whole; intro _ _ _ _ _ _ _ _ _; (with_reducible refine wp_never ?_); (try dsimp only); (try k_fold)))) | (k_here; (with_reducible show wpAny _ _ (setItem (Value.ref _) (Value.int _ _) _) _ _ _); k_dflt (refine' set_led ?Fz9 ?Nz9 ?Uz9 ?az9 ?bz9 ?zz9 ?_; (case Fz9 => k_asm); (case Nz9 => k_asm); (case Uz9 => k_upd); (case az9 => ksa_idx); (case bz9 => ksa_idx); (case zz9 => ksa_idx); k_whole); intro _ _ _; (try k_sweep)) | (k_here; (with_reducible show wpAny _ _ (call (Value.builtin "list.append") [Value.ref _, _]) _ _ _); k_dflt (refine' append_led ?Fz9 ?Nz9 ?Uz9 ?zz9 ?_; (case Fz9 => k_asm); (case Nz9 => k_asm); (case Uz9 => k_upd); (case zz9 => ksa_idx); k_whole); intro _ _ _; (try k_sweep)) | (k_here; (with_reducible show wpAny _ _ (call (Value.builtin "len") [Value.ref _]) _ _ _); k_dflt (refine' len_led ?Nz9 ?mz9 ?zz9 ?_; (case Nz9 => k_asm); (case mz9 => k_mem); (case zz9 => ksa_idx); k_whole); intro _ _) | (k_here; (with_reducible show wpAny _ _ (subscriptTail _ _ (Value.ref _) (Value.int _ _)) _ _ _); k_dflt (refine' item_led ?Nz9 ?mz9 ?az9 ?bz9 ?xz9 ?_; (case Nz9 => k_asm); (case mz9 => k_mem); (case az9 => omega); (case bz9 => omega); (case xz9 => assumption))) | (k_end; kc_close) | (k_end; wrow_close) | walk1 | (dsimp only; walk1) | (leave1; (try dsimp only)) | fail "no step"))
      unfold Stop9
      (rename Fr _ _ _ _ => kF); (rename News _ _ _ _ => kN)
      have gt : ∀ {d : Addr} {l : List (Addr × Obj)}, (∀ x : Addr × Obj, x ∈ l → @LT.lt Nat _ d x.fst) → ∀ p ∈ l, p.1 ≠ d := fun h p hp => Nat.ne_of_gt (h p hp)
      have lt : ∀ {d : Addr} {l : List (Addr × Obj)}, AllLt d l → ∀ p ∈ l, p.1 ≠ d := fun h p hp => Nat.ne_of_lt (ktn_ltOf h p hp)
      refine hQ _ _ _ _ (_ ++ (_ ++ (_ ++ R))) _ _ _ _ _ _ _ _ kF (news3 kN) rfl rfl rfl (by assumption) ?_ ?_ (by refine DatIn.mono ?_ (by assumption); intro p hp; simp [hp]) (by refine DatIn.mono ?_ (by assumption); intro p hp; simp [hp]) (by refine DatIn.mono ?_ (by assumption); intro p hp; simp [hp]) (by assumption) (by assumption) (by assumption)
      · intro p hp; simp [hp]
      · exact all_cons (Nat.ne_of_lt (by assumption)) (all_cons (Nat.ne_of_lt (by assumption)) (all_cons (Nat.ne_of_lt (by assumption)) (all_cons (Nat.ne_of_lt (by assumption)) (all_app (gt (by assumption)) (all_app (lt (by assumption)) (all_app (lt (by assumption)) (lt (by assumption))))))))))) only [↓wr_true]
end
section
theorem walk_off_P28 : True := by
  w_top off
  trivial
theorem stop9q {p : Prop} (h : Stop9 p) : p := h
/-- the value that the law takes: a variable is turned to 7 -/
noncomputable def Tm.val : Tm → Tm
  | .lf (.v _) => .lf (.i 7)
  | t => t
theorem Tm.val_ok {t : Tm} (h : t.ok) : t.val.ok := by
  unfold Tm.val
  split
  · trivial
  · exact h
theorem Tm.val_nv (t : Tm) : ∀ n, t.val ≠ .lf (.v n) := by
  intro n
  unfold Tm.val
  split
  · simp
  · rename_i h
    exact h n
theorem seg4 {p : Program} {loose : List Str} {mean : ExcName → Option Value} {mg mb : Str → Option Value} {g h : Heap} {L : Addr} {s : Shared} {tk : Nat} {m : Str → Option Value} {Q : Flow → Shared → Prop}
   (K0 : Below callerA g [] g) (X : (hk.heap_1 w.params).In g) (T9 : Top p loose mean mg mb g) {ROW TL : Addr} {news R : List (Addr × Obj)} {vv : Value} {tv : Tm}
   (F : Fr g L h m) (N : News g L h news) (hR : ∀ p ∈ R, p ∈ news) (hm1 : m (Str.ofString "row") = some (.ref ROW)) (hm2 : m (Str.ofString "terms") = some (.ref TL)) (hm3 : m (Str.ofString "value") = some vv) (hv : DatIn R vv tv.d)
   (hQ : ∀ h' tk' m' new vv', Fr g L h' m' → News g L h' (new ++ news) → (∀ p ∈ new, ∀ q ∈ news, @LT.lt Nat _ q.1 p.1) → m' (Str.ofString "row") = some (.ref ROW) → m' (Str.ofString "terms") = some (.ref TL) → m' (Str.ofString "value") = some vv' → DatIn (new ++ R) vv' (Tm.val tv).d →
      Stop9 (wpAny (model prg w) (callerA.deeper (lawEnv L)) (execs (lawRest 7) (lawEnv L)) Q (fun _ _ => False) { s with heap := h', toks := tk' })) :
   wpAny (model prg w) (callerA.deeper (lawEnv L)) (execs (lawRest 6) (lawEnv L)) Q (fun _ _ => False) { s with heap := h, toks := tk } := by
  refine wr_mp ?_
  simp (disch := (k_dflt (
      unfold lawEnv prg
      conv in (execs _ _) => arg 1; whnf
      conv in (occs := *) lawDef.2 => all_goals whnf
      revert X
      k_fill
      intro X
      have hl9 : ∀ q ∈ [(Str.ofString "row", Value.ref ROW), (Str.ofString "terms", .ref TL), (Str.ofString "value", vv)], m q.1 = some q.2 := by
        intro q hq
        simp only [List.mem_cons, List.not_mem_nil, or_false] at hq
        rcases hq with rfl | rfl | rfl
        · exact hm1
        · exact hm2
        · exact hm3
      have F' := fr_stdL F _ hl9
      clear F
      rcases tv with (n | k | k) | ⟨f, xs⟩
      · obtain ⟨a, n9, t, u, rfl, hm⟩ := dat_ci hv
        have hm9 := hR _ hm
        (repeat' (first | (k_unfold; (try dsimp only)) | (k_here; (with_reducible show wpAny _ _ (execs (Stmt.Expr _ _ :: _) _) _ _ _); refine stop9q ?_) | (k_here; (with_reducible show wpAny _ _ (call (Value.ref 434) _) _ _ _); k_dflt (refine' Spec.use (lp_next ?lp ?U) ?kB ?kF ?kX ?kN ?kT ?kA ?kf ?kk ?kh ?kd ?ku ?_; (case lp => assumption); ktn_step; (case U => (intro o9; k_upd)); intro v9 post9 h9 tk9 F9 N9 hp9; obtain ⟨o9, e9, lp9, k9, tt9, ev9⟩ := hp9; subst e9; subst ev9; (try dsimp only at N9); (try dsimp only); (try k_fold))) | (k_here; (with_reducible show wpAny _ _ (call (Value.ref 441) _) _ _ _); k_dflt (refine' Spec.use (lp_term ?lp _ ?U ?hin) ?kB ?kF ?kX ?kN ?kT ?kA ?kf ?kk ?kh ?kd ?ku ?_; (case lp => assumption); ktn_step; (case U => (intro o9; k_upd)); (case hin => kqd_sub); intro v9 post9 h9 tk9 F9 N9 hp9; obtain ⟨o9, new9, e9, fr9, lp9, t9, ok9, hd9⟩ := hp9; subst e9; (try simp only [List.forall_mem_cons, List.forall_mem_append, List.forall_mem_nil, imp_and, forall_and, and_true, implies_true] at fr9); (repeat (rename _ ∧ _ => hc9; obtain ⟨_, _⟩ := hc9)); (try dsimp only); (try k_fold))) | (k_here; (with_reducible show wpAny _ _ (call (Value.ref _) _) _ _ _); k_dflt (refine wpAny_call ?_; ( refine' code_def ?k1z9 ?k2z9 ?k3z9 ?k4z9 ?k5z9 ?kAz9 ?kFz9 ?kKz9 ?k6z9 ?k7z9 ?k8z9 ?k9z9 ?kBz9 ?_ ?c2z9 ?c3z9 ?c4z9 ?c5z9; (case kAz9 => first | exact deeper_frames _ (by assumption) | exact deeper_frames _ (deeper_frames _ (by assumption)) | exact deeper_frames _ (deeper_frames _ (deeper_frames _ (by assumption)))); (case kFz9 => exact rfl); (case kKz9 => exact rfl); (case k1z9 => k_asm); (case k2z9 => k_asm); (case k3z9 => k_asm); (case k4z9 => k_asm); (case k5z9 => k_asm); (case k6z9 => k_is); (case k7z9 => k_is); (case k8z9 => k_room); (case k9z9 => exact BindsTo.of_eq rfl); (case c5z9 => decide); (case kBz9 => exact locs rfl); (case c2z9 => exact rfl); (case c3z9 => exact rfl); (case c4z9 => exact rfl); k_whole; intro _ _ _ _ _ _ _ _ _; (with_reducible refine wp_never ?_); (try dsimp only); (try k_fold)))) | (k_here; (with_reducible show wpAny _ _ (setItem (Value.ref _) (Value.int _ _) _) _ _ _); k_dflt (refine' set_led ?Fz9 ?Nz9 ?Uz9 ?az9 ?bz9 ?zz9 ?_; (case Fz9 => k_asm); (case Nz9 => k_asm); (case Uz9 => k_upd); (case az9 => ksa_idx); (case bz9 => ksa_idx); (case zz9 => ksa_idx); k_whole); intro _ _ _; (try k_sweep)) | (k_here; (with_reducible show wpAny _ _ (call (Value.builtin "list.append") [Value.ref _, _]) _ _ _); k_dflt (refine' append_led ?Fz9 ?Nz9 ?Uz9 ?zz9 ?_; (case Fz9 => k_asm); (case Nz9 => k_asm); (case Uz9 => k_upd); (case zz9 => ksa_idx); k_whole); intro _ _ _; (try k_sweep)) | (k_here; (with_reducible show wpAny _ _ (call (Value.builtin "len") [Value.ref _]) _ _ _); k_dflt (refine' len_led ?Nz9 ?mz9 ?zz9 ?_; (case Nz9 => k_asm); (case mz9 => k_mem); (case zz9 => ksa_idx); k_whole); intro _ _) | (k_here; (with_reducible show wpAny _ _ (subscriptTail _ _ (Value.ref _) (Value.int _ _)) _ _ _); k_dflt (refine' item_led ?Nz9 ?mz9 ?az9 ?bz9 ?xz9 ?_; (case Nz9 => k_asm); (case mz9 => k_mem); (case az9 => omega); (case bz9 => omega); (case xz9 => assumption))) | (k_end; kc_close) | (k_end; wrow_close) | walk1 | (dsimp only; walk1) | (leave1; (try dsimp only)) | fail "no step"))
        unfold Stop9
        (rename Fr _ _ _ _ => kF); (rename News _ _ _ _ => kN)
        refine hQ _ _ _ [_] _ kF kN ?_ rfl rfl rfl (.tuple (.head _) (.cons (.str _ _) (.cons (.int _ _) .nil)))
        intro p hp
        rw [List.mem_singleton.mp hp]
        exact ktn_ltOf (by assumption)
      · obtain ⟨a, n9, t, u, rfl, hm⟩ := dat_ci hv
        have hm9 := hR _ hm
        (repeat' (first | (k_unfold; (try dsimp only)) | (k_here; (with_reducible show wpAny _ _ (execs (Stmt.Expr _ _ :: _) _) _ _ _); refine stop9q ?_) | (k_here; (with_reducible show wpAny _ _ (call (Value.ref 434) _) _ _ _); k_dflt (refine' Spec.use (lp_next ?lp ?U) ?kB ?kF ?kX ?kN ?kT ?kA ?kf ?kk ?kh ?kd ?ku ?_; (case lp => assumption); ktn_step; (case U => (intro o9; k_upd)); intro v9 post9 h9 tk9 F9 N9 hp9; obtain ⟨o9, e9, lp9, k9, tt9, ev9⟩ := hp9; subst e9; subst ev9; (try dsimp only at N9); (try dsimp only); (try k_fold))) | (k_here; (with_reducible show wpAny _ _ (call (Value.ref 441) _) _ _ _); k_dflt (refine' Spec.use (lp_term ?lp _ ?U ?hin) ?kB ?kF ?kX ?kN ?kT ?kA ?kf ?kk ?kh ?kd ?ku ?_; (case lp => assumption); ktn_step; (case U => (intro o9; k_upd)); (case hin => kqd_sub); intro v9 post9 h9 tk9 F9 N9 hp9; obtain ⟨o9, new9, e9, fr9, lp9, t9, ok9, hd9⟩ := hp9; subst e9; (try simp only [List.forall_mem_cons, List.forall_mem_append, List.forall_mem_nil, imp_and, forall_and, and_true, implies_true] at fr9); (repeat (rename _ ∧ _ => hc9; obtain ⟨_, _⟩ := hc9)); (try dsimp only); (try k_fold))) | (k_here; (with_reducible show wpAny _ _ (call (Value.ref _) _) _ _ _); k_dflt (refine wpAny_call ?_; ( refine' code_def ?k1z9 ?k2z9 ?k3z9 ?k4z9 ?k5z9 ?kAz9 ?kFz9 ?kKz9 ?k6z9 ?k7z9 ?k8z9 ?k9z9 ?kBz9 ?_ ?c2z9 ?c3z9 ?c4z9 ?c5z9; (case kAz9 => first | exact deeper_frames _ (by assumption) | exact deeper_frames _ (deeper_frames _ (by assumption)) | exact deeper_frames _ (deeper_frames _ (deeper_frames _ (by assumption)))); (case kFz9 => exact rfl); (case kKz9 => exact rfl); (case k1z9 => k_asm); (case k2z9 => k_asm); (case k3z9 => k_asm); (case k4z9 => k_asm); (case k5z9 => k_asm); (case k6z9 => k_is); (case k7z9 => k_is); (case k8z9 => k_room); (case k9z9 => exact BindsTo.of_eq rfl); (case c5z9 => decide); (case kBz9 => exact locs rfl); (case c2z9 => exact rfl); (case c3z9 => exact rfl); (case c4z9 => exact rfl); k_whole; intro _ _ _ _ _ _ _ _ _; (with_reducible refine wp_never ?_); (try dsimp only); (try k_fold)))) | (k_here; (with_reducible show wpAny _ _ (setItem (Value.ref _) (Value.int _ _) _) _ _ _); k_dflt (refine' set_led ?Fz9 ?Nz9 ?Uz9 ?az9 ?bz9 ?zz9 ?_; (case Fz9 => k_asm); (case Nz9 => k_asm); (case Uz9 => k_upd); (case az9 => ksa_idx); (case bz9 => ksa_idx); (case zz9 => ksa_idx); k_whole); intro _ _ _; (try k_sweep)) | (k_here; (with_reducible show wpAny _ _ (call (Value.builtin "list.append") [Value.ref _, _]) _ _ _); k_dflt (refine' append_led ?Fz9 ?Nz9 ?Uz9 ?zz9 ?_; (case Fz9 => k_asm); (case Nz9 => k_asm); (case Uz9 => k_upd); (case zz9 => ksa_idx); k_whole); intro _ _ _; (try k_sweep)) | (k_here; (with_reducible show wpAny _ _ (call (Value.builtin "len") [Value.ref _]) _ _ _); k_dflt (refine' len_led ?Nz9 ?mz9 ?zz9 ?_; (case Nz9 => k_asm); (case mz9 => k_mem); (case zz9 => ksa_idx); k_whole); intro _ _) | (k_here; (with_reducible show wpAny _ _ (subscriptTail _ _ (Value.ref _) (Value.int _ _)) _ _ _); k_dflt (refine' item_led ?Nz9 ?mz9 ?az9 ?bz9 ?xz9 ?_; (case Nz9 => k_asm); (case mz9 => k_mem); (case az9 => omega); (case bz9 => omega); (case xz9 => assumption))) | (k_end; kc_close) | (k_end; wrow_close) | walk1 | (dsimp only; walk1) | (leave1; (try dsimp only)) | fail "no step"))
        unfold Stop9
        (rename Fr _ _ _ _ => kF); (rename News _ _ _ _ => kN)
        exact hQ _ _ _ [] _ kF kN (fun _ h => nomatch h) rfl rfl rfl hv
      · obtain ⟨a, n9, t, u, rfl, hm⟩ := dat_ci hv
        have hm9 := hR _ hm
        (repeat' (first | (k_unfold; (try dsimp only)) | (k_here; (with_reducible show wpAny _ _ (execs (Stmt.Expr _ _ :: _) _) _ _ _); refine stop9q ?_) | (k_here; (with_reducible show wpAny _ _ (call (Value.ref 434) _) _ _ _); k_dflt (refine' Spec.use (lp_next ?lp ?U) ?kB ?kF ?kX ?kN ?kT ?kA ?kf ?kk ?kh ?kd ?ku ?_; (case lp => assumption); ktn_step; (case U => (intro o9; k_upd)); intro v9 post9 h9 tk9 F9 N9 hp9; obtain ⟨o9, e9, lp9, k9, tt9, ev9⟩ := hp9; subst e9; subst ev9; (try dsimp only at N9); (try dsimp only); (try k_fold))) | (k_here; (with_reducible show wpAny _ _ (call (Value.ref 441) _) _ _ _); k_dflt (refine' Spec.use (lp_term ?lp _ ?U ?hin) ?kB ?kF ?kX ?kN ?kT ?kA ?kf ?kk ?kh ?kd ?ku ?_; (case lp => assumption); ktn_step; (case U => (intro o9; k_upd)); (case hin => kqd_sub); intro v9 post9 h9 tk9 F9 N9 hp9; obtain ⟨o9, new9, e9, fr9, lp9, t9, ok9, hd9⟩ := hp9; subst e9; (try simp only [List.forall_mem_cons, List.forall_mem_append, List.forall_mem_nil, imp_and, forall_and, and_true, implies_true] at fr9); (repeat (rename _ ∧ _ => hc9; obtain ⟨_, _⟩ := hc9)); (try dsimp only); (try k_fold))) | (k_here; (with_reducible show wpAny _ _ (call (Value.ref _) _) _ _ _); k_dflt (refine wpAny_call ?_; ( refine' code_def ?k1z9 ?k2z9 ?k3z9 ?k4z9 ?k5z9 ?kAz9 ?kFz9 ?kKz9 ?k6z9 ?k7z9 ?k8z9 ?k9z9 ?kBz9 ?_ ?c2z9 ?c3z9 ?c4z9 ?c5z9; (case kAz9 => first | exact deeper_frames _ (by assumption) | exact deeper_frames _ (deeper_frames _ (by assumption)) | exact deeper_frames _ (deeper_frames _ (deeper_frames _ (by assumption)))); (case kFz9 => exact rfl); (case kKz9 => exact rfl); (case k1z9 => k_asm); (case k2z9 => k_asm); (case k3z9 => k_asm); (case k4z9 => k_asm); (case k5z9 => k_asm); (case k6z9 => k_is); (case k7z9 => k_is); (case k8z9 => k_room); (case k9z9 => exact BindsTo.of_eq rfl); (case c5z9 => decide); (case kBz9 => exact locs rfl); (case c2z9 => exact rfl); (case c3z9 => exact rfl); (case c4z9 => exact rfl); k_whole; intro _ _ _ _ _ _ _ _ _; (with_reducible refine wp_never ?_); (try dsimp only); (try k_fold)))) | (k_here; (with_reducible show wpAny _ _ (setItem (Value.ref _) (Value.int _ _) _) _ _ _); k_dflt (refine' set_led ?Fz9 ?Nz9 ?Uz9 ?az9 ?bz9 ?zz9 ?_; (case Fz9 => k_asm); (case Nz9 => k_asm); (case Uz9 => k_upd); (case az9 => ksa_idx); (case bz9 => ksa_idx); (case zz9 => ksa_idx); k_whole); intro _ _ _; (try k_sweep)) | (k_here; (with_reducible show wpAny _ _ (call (Value.builtin "list.append") [Value.ref _, _]) _ _ _); k_dflt (refine' append_led ?Fz9 ?Nz9 ?Uz9 ?zz9 ?_; (case Fz9 => k_asm); (case Nz9 => k_asm); (case Uz9 => k_upd); (case zz9 => ksa_idx); k_whole); intro _ _ _; (try k_sweep)) | (k_here; (with_reducible show wpAny _ _ (call (Value.builtin "len") [Value.ref _]) _ _ _); k_dflt (refine' len_led ?Nz9 ?mz9 ?zz9 ?_; (case Nz9 => k_asm); (case mz9 => k_mem); (case zz9 => ksa_idx); k_whole); intro _ _) | (k_here; (with_reducible show wpAny _ _ (subscriptTail _ _ (Value.ref _) (Value.int _ _)) _ _ _); k_dflt (refine' item_led ?Nz9 ?mz9 ?az9 ?bz9 ?xz9 ?_; (case Nz9 => k_asm); (case mz9 => k_mem); (case az9 => omega); (case bz9 => omega); (case xz9 => assumption))) | (k_end; kc_close) | (k_end; wrow_close) | walk1 | (dsimp only; walk1) | (leave1; (try dsimp only)) | fail "no step"))
        unfold Stop9
        (rename Fr _ _ _ _ => kF); (rename News _ _ _ _ => kN)
        exact hQ _ _ _ [] _ kF kN (fun _ h => nomatch h) rfl rfl rfl hv
      · obtain ⟨a, n9, t, u, b, m9, ws, rfl, hm, hb, hws⟩ := dat_s hv
        have hm9 := hR _ hm
        (repeat' (first | (k_unfold; (try dsimp only)) | (k_here; (with_reducible show wpAny _ _ (execs (Stmt.Expr _ _ :: _) _) _ _ _); refine stop9q ?_) | (k_here; (with_reducible show wpAny _ _ (call (Value.ref 434) _) _ _ _); k_dflt (refine' Spec.use (lp_next ?lp ?U) ?kB ?kF ?kX ?kN ?kT ?kA ?kf ?kk ?kh ?kd ?ku ?_; (case lp => assumption); ktn_step; (case U => (intro o9; k_upd)); intro v9 post9 h9 tk9 F9 N9 hp9; obtain ⟨o9, e9, lp9, k9, tt9, ev9⟩ := hp9; subst e9; subst ev9; (try dsimp only at N9); (try dsimp only); (try k_fold))) | (k_here; (with_reducible show wpAny _ _ (call (Value.ref 441) _) _ _ _); k_dflt (refine' Spec.use (lp_term ?lp _ ?U ?hin) ?kB ?kF ?kX ?kN ?kT ?kA ?kf ?kk ?kh ?kd ?ku ?_; (case lp => assumption); ktn_step; (case U => (intro o9; k_upd)); (case hin => kqd_sub); intro v9 post9 h9 tk9 F9 N9 hp9; obtain ⟨o9, new9, e9, fr9, lp9, t9, ok9, hd9⟩ := hp9; subst e9; (try simp only [List.forall_mem_cons, List.forall_mem_append, List.forall_mem_nil, imp_and, forall_and, and_true, implies_true] at fr9); (repeat (rename _ ∧ _ => hc9; obtain ⟨_, _⟩ := hc9)); (try dsimp only); (try k_fold))) | (k_here; (with_reducible show wpAny _ _ (call (Value.ref _) _) _ _ _); k_dflt (refine wpAny_call ?_; ( refine' code_def ?k1z9 ?k2z9 ?k3z9 ?k4z9 ?k5z9 ?kAz9 ?kFz9 ?kKz9 ?k6z9 ?k7z9 ?k8z9 ?k9z9 ?kBz9 ?_ ?c2z9 ?c3z9 ?c4z9 ?c5z9; (case kAz9 => first | exact deeper_frames _ (by assumption) | exact deeper_frames _ (deeper_frames _ (by assumption)) | exact deeper_frames _ (deeper_frames _ (deeper_frames _ (by assumption)))); (case kFz9 => exact rfl); (case kKz9 => exact rfl); (case k1z9 => k_asm); (case k2z9 => k_asm); (case k3z9 => k_asm); (case k4z9 => k_asm); (case k5z9 => k_asm); (case k6z9 => k_is); (case k7z9 => k_is); (case k8z9 => k_room); (case k9z9 => exact BindsTo.of_eq rfl); (case c5z9 => decide); (case kBz9 => exact locs rfl); (case c2z9 => exact rfl); (case c3z9 => exact rfl); (case c4z9 => exact rfl); k_whole; intro _ _ _ _ _ _ _ _ _; (with_reducible refine wp_never ?_); (try dsimp only); (try k_fold)))) | (k_here; (with_reducible show wpAny _ _ (setItem (Value.ref _) (Value.int _ _) _) _ _ _); k_dflt (refine' set_led ?Fz9 ?Nz9 ?Uz9 ?az9 ?bz9 ?zz9 ?_; (case Fz9 => k_asm); (case Nz9 => k_asm); (case Uz9 => k_upd); (case az9 => ksa_idx); (case bz9 => ksa_idx); (case zz9 => ksa_idx); k_whole); intro _ _ _; (try k_sweep)) | (k_here; (with_reducible show wpAny _ _ (call (Value.builtin "list.append") [Value.ref _, _]) _ _ _); k_dflt (refine' append_led ?Fz9 ?Nz9 ?Uz9 ?zz9 ?_; (case Fz9 => k_asm); (case Nz9 => k_asm); (case Uz9 => k_upd); (case zz9 => ksa_idx); k_whole); intro _ _ _; (try k_sweep)) | (k_here; (with_reducible show wpAny _ _ (call (Value.builtin "len") [Value.ref _]) _ _ _); k_dflt (refine' len_led ?Nz9 ?mz9 ?zz9 ?_; (case Nz9 => k_asm); (case mz9 => k_mem); (case zz9 => ksa_idx); k_whole); intro _ _) | (k_here; (with_reducible show wpAny _ _ (subscriptTail _ _ (Value.ref _) (Value.int _ _)) _ _ _); k_dflt (refine' item_led ?Nz9 ?mz9 ?az9 ?bz9 ?xz9 ?_; (case Nz9 => k_asm); (case mz9 => k_mem); (case az9 => omega); (case bz9 => omega); (case xz9 => assumption))) | (k_end; kc_close) | (k_end; wrow_close) | walk1 | (dsimp only; walk1) | (leave1; (try dsimp only)) | fail "no step"))
        unfold Stop9
        (rename Fr _ _ _ _ => kF); (rename News _ _ _ _ => kN)
        exact hQ _ _ _ [] _ kF kN (fun _ h => nomatch h) rfl rfl rfl hv))) only [↓wr_true]
end
section
theorem walk_off_P29 : True := by
  w_top off
  trivial
theorem stop9p {p : Prop} (h : Stop9 p) : p := h
theorem news5 {g h : Heap} {L : Addr} {R : List (Addr × Obj)} {x y a b c d e : Addr × Obj} (N : News g L h (x :: y :: a :: b :: c :: d :: e :: R)) : News g L h (a :: b :: c :: d :: e :: x :: y :: R) := News.sub N (by
  intro p hp
  simp only [List.mem_cons] at hp ⊢
  rcases hp with hp | hp | hp | hp | hp | hp | hp | hp <;> simp [hp])
theorem seg5 {p : Program} {loose : List Str} {mean : ExcName → Option Value} {mg mb : Str → Option Value} {g h : Heap} {L : Addr} {s : Shared} {tk : Nat} {m : Str → Option Value} {Q : Flow → Shared → Prop}
   (K0 : Below callerA g [] g) (X : (hk.heap_1 w.params).In g) (T9 : Top p loose mean mg mb g) {ROW H T K S TL : Addr} {oL oR oH oT oK : Obj} {hs : List (Int × Int)} {R : List (Addr × Obj)} {vv : Value}
   (F : Fr g L h m) (N : News g L h ((TL, oL) :: (ROW, oR) :: (H, oH) :: (T, oT) :: (K, oK) :: R)) (hm1 : m (Str.ofString "row") = some (.ref ROW)) (hm2 : m (Str.ofString "terms") = some (.ref TL)) (hm3 : m (Str.ofString "value") = some vv)
   (lp : LP w L ROW H T K S oR oH oT oK hs [] R) (hTL : ∀ p ∈ (ROW, oR) :: (H, oH) :: (T, oT) :: (K, oK) :: R, p.1 ≠ TL)
   (hQ : ∀ h' tk' m' oT' R', Fr g L h' m' → News g L h' ((TL, oL) :: (ROW, oR) :: (H, oH) :: (T, oT') :: (K, oK) :: R') → m' (Str.ofString "row") = some (.ref ROW) → m' (Str.ofString "terms") = some (.ref TL) → m' (Str.ofString "value") = some vv →
      LP w L ROW H T K S oR oH oT' oK hs [(1, 0), (1, 0)] R' → (∀ p ∈ R, p ∈ R') → (∀ p ∈ (ROW, oR) :: (H, oH) :: (T, oT') :: (K, oK) :: R', p.1 ≠ TL) →
      Stop9 (wpAny (model prg w) (callerA.deeper (lawEnv L)) (execs (lawRest 9) (lawEnv L)) Q (fun _ _ => False) { s with heap := h', toks := tk' })) :
   wpAny (model prg w) (callerA.deeper (lawEnv L)) (execs (lawRest 7) (lawEnv L)) Q (fun _ _ => False) { s with heap := h, toks := tk } := by
  refine wr_mp ?_
  simp (disch := (k_dflt (
      unfold lawEnv prg
      conv in (execs _ _) => arg 1; whnf
      conv in (occs := *) lawDef.2 => all_goals whnf
      revert X
      k_fill
      intro X
      have hl9 : ∀ q ∈ [(Str.ofString "row", Value.ref ROW), (Str.ofString "terms", .ref TL), (Str.ofString "value", vv)], m q.1 = some q.2 := by
        intro q hq
        simp only [List.mem_cons, List.not_mem_nil, or_false] at hq
        rcases hq with rfl | rfl | rfl
        · exact hm1
        · exact hm2
        · exact hm3
      have F' := fr_stdL F _ hl9
      clear F
      have hTL' : @Ne Nat ROW TL ∧ @Ne Nat H TL ∧ @Ne Nat T TL ∧ @Ne Nat K TL ∧ ∀ p ∈ R, p.1 ≠ TL := ⟨hTL _ (.head _), hTL _ (.tail _ (.head _)), hTL _ (.tail _ (.tail _ (.head _))), hTL _ (.tail _ (.tail _ (.tail _ (.head _)))), fun p hp => hTL p (.tail _ (.tail _ (.tail _ (.tail _ hp))))⟩
      obtain ⟨l1, l2, l3, l4, l5⟩ := hTL'
      obtain ⟨c1, hc1, hd1⟩ := lp.cS
      refine StoreIs.elim lp.st ?_
      intro SD SY TR h1 h2 h3 h4 h5 h6 h7 t1 t2 t3 t4 t5 t6 t7 u1 u2 u3 n hs1 hs2 _
      have n1 := lp.nRH
      have n2 := lp.nRT
      have n3 := lp.nRK
      have n4 := lp.nHT
      have n5 := lp.nHK
      have n6 := lp.nTK
      have f3 := lp.fT
      obtain ⟨vs, k9, rfl, dT, _⟩ := id lp.ct.out
      cases dT
      (repeat' (first | (k_unfold; (try dsimp only)) | (k_here; (with_reducible show wpAny _ _ (call (Value.builtin "len") [Value.ref _]) _ _ _); k_dflt (refine' len_led ?N ?m ?z ?_; (case N => k_asm); (case m => k_mem); (case z => ksa_idx); k_whole); intro _ _; (try dsimp only [List.nil_append, List.length_cons, List.length_nil])) | (k_here; (with_reducible show wpAny _ _ (execs (Stmt.Assign [Expr.Name (Str.ofString "cells") _] _ _ :: _) _) _ _ _); refine stop9p ?_) | (k_here; (with_reducible show wpAny _ _ (call (Value.ref 434) _) _ _ _); k_dflt (refine' Spec.use (lp_next ?lp ?U) ?kB ?kF ?kX ?kN ?kT ?kA ?kf ?kk ?kh ?kd ?ku ?_; (case lp => assumption); ktn_step; (case U => (intro o9; k_upd)); intro v9 post9 h9 tk9 F9 N9 hp9; obtain ⟨o9, e9, lp9, k9, tt9, ev9⟩ := hp9; subst e9; subst ev9; (try dsimp only at N9); (try dsimp only); (try k_fold))) | (k_here; (with_reducible show wpAny _ _ (call (Value.ref 441) _) _ _ _); k_dflt (refine' Spec.use (lp_term ?lp _ ?U ?hin) ?kB ?kF ?kX ?kN ?kT ?kA ?kf ?kk ?kh ?kd ?ku ?_; (case lp => assumption); ktn_step; (case U => (intro o9; k_upd)); (case hin => kqd_sub); intro v9 post9 h9 tk9 F9 N9 hp9; obtain ⟨o9, new9, e9, fr9, lp9, t9, ok9, hd9⟩ := hp9; subst e9; (try simp only [List.forall_mem_cons, List.forall_mem_append, List.forall_mem_nil, imp_and, forall_and, and_true, implies_true] at fr9); (repeat (rename _ ∧ _ => hc9; obtain ⟨_, _⟩ := hc9)); (try dsimp only); (try k_fold))) | (k_here; (with_reducible show wpAny _ _ (call (Value.ref _) _) _ _ _); k_dflt (refine wpAny_call ?_; ( refine' code_def ?k1z9 ?k2z9 ?k3z9 ?k4z9 ?k5z9 ?kAz9 ?kFz9 ?kKz9 ?k6z9 ?k7z9 ?k8z9 ?k9z9 ?kBz9 ?_ ?c2z9 ?c3z9 ?c4z9 ?c5z9; (case kAz9 => first | exact deeper_frames _ (by assumption) | exact deeper_frames _ (deeper_frames _ (by assumption)) | exact deeper_frames _ (deeper_frames _ (deeper_frames _ (by assumption)))); (case kFz9 => exact rfl); (case kKz9 => exact rfl); (case k1z9 => k_asm); (case k2z9 => k_asm); (case k3z9 => k_asm); (case k4z9 => k_asm); (case k5z9 => k_asm); (case k6z9 => k_is); (case k7z9 => k_is); (case k8z9 => k_room); (case k9z9 => exact BindsTo.of_eq rfl); (case c5z9 => decide); (case kBz9 => exact locs rfl); (case c2z9 => exact rfl); (case c3z9 => exact rfl); (case c4z9 => exact rfl); k_whole; intro _ _ _ _ _ _ _ _ _; (with_reducible refine wp_never ?_); (try dsimp only); (try k_fold)))) | (k_here; (with_reducible show wpAny _ _ (setItem (Value.ref _) (Value.int _ _) _) _ _ _); k_dflt (refine' set_led ?Fz9 ?Nz9 ?Uz9 ?az9 ?bz9 ?zz9 ?_; (case Fz9 => k_asm); (case Nz9 => k_asm); (case Uz9 => k_upd); (case az9 => ksa_idx); (case bz9 => ksa_idx); (case zz9 => ksa_idx); k_whole); intro _ _ _; (try k_sweep)) | (k_here; (with_reducible show wpAny _ _ (call (Value.builtin "list.append") [Value.ref _, _]) _ _ _); k_dflt (refine' append_led ?Fz9 ?Nz9 ?Uz9 ?zz9 ?_; (case Fz9 => k_asm); (case Nz9 => k_asm); (case Uz9 => k_upd); (case zz9 => ksa_idx); k_whole); intro _ _ _; (try k_sweep)) | (k_here; (with_reducible show wpAny _ _ (call (Value.builtin "len") [Value.ref _]) _ _ _); k_dflt (refine' len_led ?Nz9 ?mz9 ?zz9 ?_; (case Nz9 => k_asm); (case mz9 => k_mem); (case zz9 => ksa_idx); k_whole); intro _ _) | (k_here; (with_reducible show wpAny _ _ (subscriptTail _ _ (Value.ref _) (Value.int _ _)) _ _ _); k_dflt (refine' item_led ?Nz9 ?mz9 ?az9 ?bz9 ?xz9 ?_; (case Nz9 => k_asm); (case mz9 => k_mem); (case az9 => omega); (case bz9 => omega); (case xz9 => assumption))) | (k_end; kc_close) | (k_end; wrow_close) | walk1 | (dsimp only; walk1) | (leave1; (try dsimp only)) | fail "no step"))
      unfold Stop9
      (rename Fr _ _ _ _ => kF); (rename News _ _ _ _ => kN)
      have nT : ∀ {D : Addr} {o : Obj}, D ≠ TL → (D, o).1 ≠ TL := fun h => h
      refine hQ _ _ _ _ (_ :: _ :: R) kF (news5 kN) rfl rfl rfl ?_ (fun p hp => .tail _ (.tail _ hp)) ?_
      · refine ((lp.grow (new := [_, _]) ?_).stack ⟨_, _, rfl, .cons (cell_in (.tail _ (.head _))) (.cons (cell_in (.head _)) .nil), by simp⟩)
        exact all_cons ⟨Nat.ne_of_lt (by assumption), Nat.ne_of_lt (by assumption), Nat.ne_of_lt (by assumption), Nat.ne_of_lt (by assumption)⟩ (all_cons ⟨Nat.ne_of_lt (by assumption), Nat.ne_of_lt (by assumption), Nat.ne_of_lt (by assumption), Nat.ne_of_lt (by assumption)⟩ all_nil)
      · exact all_cons l1 (all_cons l2 (all_cons l3 (all_cons l4 (all_cons (Nat.ne_of_gt (by assumption)) (all_cons (Nat.ne_of_gt (by assumption)) l5)))))))) only [↓wr_true]
end
section
theorem walk_off_P30 : True := by
  w_top off
  trivial
theorem compEnd_app {h₀ h' : Heap} {L I C D : Addr} {m : Str → Option Value} {s₁ : Shared} {tk : Nat} {oI oC oD : Obj} {S : List (Addr × Obj) → Prop} {rest : Value → List (Addr × Obj) → Prop} {y : Value} {new rest' : List (Addr × Obj)} (F : Fr h₀ L h' m) (N : News h₀ L h' (new ++ (I, oI) :: (C, oC) :: (D, oD) :: rest'))
    (h1 : ∀ p ∈ new ++ rest', p.1 ≠ I) (h2 : ∀ p ∈ new ++ rest', p.1 ≠ C) (h3 : ∀ p ∈ new ++ rest', p.1 ≠ D) (hS : S (new ++ rest')) (r : rest y (new ++ rest')) : LCg.CompEnd h₀ L m s₁ I oI C oC D oD S rest y { s₁ with heap := h', toks := tk } :=
  ⟨h', tk, _, rfl, F, News.sub N (by
    intro p hp
    simp only [List.mem_cons, List.mem_append] at hp ⊢
    rcases hp with hp | hp | hp | hp | hp <;> simp [hp]), LCg.Off3.of fun p hp => ⟨h1 p hp, h2 p hp, h3 p hp⟩, hS, r⟩
local macro_rules | `(tactic| walk_at "CompRest") => `(tactic| (k_dflt (refine LCg.CompRest.succ ?_); intro v9 I9 oI9 C9 oC9 D9 m9 h9 tk9 E9 hP9 hC9 hx9 F9 N9 off9 ne9; simp at hP9; subst hP9; replace off9 := LCg.Off3.mem off9; (try simp only [List.forall_mem_cons, List.forall_mem_append, List.forall_mem_nil, imp_and, forall_and, and_true, implies_true] at off9); (repeat (rename _ ∧ _ => hc9; obtain ⟨_, _⟩ := hc9)); (try dsimp only)))
local macro_rules | `(tactic| walk_at "CompEnd") => `(tactic| (k_dflt (refine' compEnd_app ?F ?N ?h1 ?h2 ?h3 ?hS ?r; (case F => k_asm); (case N => k_asm); (case h1 => (repeat' (first | k_all | (refine all_cons ?_ ?_) | (refine all_app ?_ ?_) | exact all_nil | k_ne))); (case h2 => (repeat' (first | k_all | (refine all_cons ?_ ?_) | (refine all_app ?_ ?_) | exact all_nil | k_ne))); (case h3 => (repeat' (first | k_all | (refine all_cons ?_ ?_) | (refine all_app ?_ ?_) | exact all_nil | k_ne))); (case hS => exact Or.inr ⟨_, (by k_mem), rfl, _, rfl⟩)); (try dsimp only)))
theorem stop9o {p : Prop} (h : Stop9 p) : p := h
theorem lp_put {L ROW H T K S : Addr} {oR oH oT oK : Obj} {hs ss : List (Int × Int)} {R news : List (Addr × Obj)} {g' : Obj → List (Addr × Obj)} (lp : LP w L ROW H T K S oR oH oT oK hs ss R) {kvs : List (Int × Value)} (hdk : oK.IsDictOf (intKind prg w) kvs) (kv : KV 3 kvs R)
    (U : ∀ o', Upd H oH o' news (g' o')) (hin : ∀ p ∈ (ROW, oR) :: (T, oT) :: (K, oK) :: R, p ∈ news) (one : ∀ p ∈ news, p.1 = K → p = (K, oK)) (hl : hs.length ≤ 500) (tv : Value) (t : Tm) (htv : DatIn R tv t.d) (hto : t.ok) :
    Spec w 364 [.ref S, tv, .ref K] news 40 700 (fun v post => ∃ o' new, post = new ++ g' o' ∧ (∀ p ∈ new, ∀ q ∈ news, @LT.lt Nat _ q.1 p.1) ∧ ∃ ext c, LP w L ROW H T K S oR o' oT oK (hs ++ ext) ss (new ++ R) ∧ ext.length ≤ 3 ∧ DatIn (new ++ R) v (cd c) ∧ TopOk (hs ++ ext) t c) := by
  refine (put_known S H K oH oK hs kvs R news U (hin _ (.tail _ (.tail _ (.head _)))) one (Ne.symm lp.nHK) (fun p hp => hin p (.tail _ (.tail _ (.tail _ hp)))) lp.fH lp.fK lp.lk T lp.st lp.ch hl tv t htv hto hdk (Nat.le_of_eq kv.len) (fun k x hm => ⟨(kv.mem k x hm).1, k, (kv.mem k x hm).2.2.2⟩) kv.has).mono (Nat.le_refl _) (Nat.le_refl _) fun v post h => ?_
  obtain ⟨o', new, e, h1, ext, c, h3, h4, h5, h6⟩ := h
  exact ⟨o', new, e, h1, ext, c, (lp.grow (above4 hin (upd_mem (U oH)) h1)).heap h3, h4, h5, h6⟩
theorem TopOk.app {hs ext : List (Int × Int)} {t : Tm} {c : Int × Int} (h : TopOk hs t c) : TopOk (hs ++ ext) t c := by
  cases t with
  | lf l => cases l <;> exact h
  | s f xs =>
    have h' : if f = 0 then c.1 = 3 else c.1 = 2 ∧ ∃ j : Nat, c.2 = j ∧ hs[j]? = some (6, f) := h
    show if f = 0 then c.1 = 3 else c.1 = 2 ∧ ∃ j : Nat, c.2 = j ∧ (hs ++ ext)[j]? = some (6, f)
    by_cases e : f = 0
    · rw [if_pos e] at h' ⊢; exact h'
    · rw [if_neg e] at h' ⊢
      obtain ⟨a, j, b, d⟩ := h'
      exact ⟨a, j, b, by rw [List.getElem?_append_left (List.getElem?_eq_some_iff.mp d).1]; exact d⟩
theorem off1_mem {D : Addr} : ∀ {l : List (Addr × Obj)}, LCg.Off1 D l → ∀ p ∈ l, p.1 ≠ D
  | [], _, _, h => nomatch h
  | _ :: _, x, p, h => by
    rcases List.mem_cons.mp h with rfl | h
    · exact x.1
    · exact off1_mem x.2 p h
theorem news6 {g h : Heap} {L : Addr} {n1 n2 R : List (Addr × Obj)} {x a b c d e : Addr × Obj} (N : News g L h (x :: (n2 ++ (n1 ++ a :: b :: c :: d :: e :: R)))) : News g L h (x :: a :: b :: c :: d :: e :: (n2 ++ (n1 ++ R))) := News.sub N (by
  intro p hp
  simp only [List.mem_cons, List.mem_append] at hp ⊢
  rcases hp with hp | hp | hp | hp | hp | hp | hp | hp | hp <;> simp [hp])
theorem off6 {D : Addr} {n1 n2 R : List (Addr × Obj)} {a a' b c d e : Addr × Obj} (o : LCg.Off1 D (n2 ++ (n1 ++ a :: b :: c :: d :: e :: R))) (h : a'.1 = a.1) : ∀ p ∈ a' :: b :: c :: d :: e :: (n2 ++ (n1 ++ R)), p.1 ≠ D := fun p hp => by
  have k := off1_mem o
  rcases List.mem_cons.mp hp with rfl | hp
  · rw [h]; exact k a (by simp)
  · refine k p ?_
    simp only [List.mem_cons, List.mem_append] at hp ⊢
    rcases hp with hp | hp | hp | hp | hp | hp | hp <;> simp [hp]
theorem seg6 {p : Program} {loose : List Str} {mean : ExcName → Option Value} {mg mb : Str → Option Value} {g h : Heap} {L : Addr} {s : Shared} {tk : Nat} {m : Str → Option Value} {Q : Flow → Shared → Prop}
   (K0 : Below callerA g [] g) (X : (hk.heap_1 w.params).In g) (T9 : Top p loose mean mg mb g) {ROW H T K S TL : Addr} {oR oH oT oK : Obj} {hs ss : List (Int × Int)} {R : List (Addr × Obj)} {vv v0 v1 : Value} {c : Nat} {t0 t1 : Tm} {kvs : List (Int × Value)}
   (F : Fr g L h m) (N : News g L h ((TL, W.listOf #[v0, v1] c) :: (ROW, oR) :: (H, oH) :: (T, oT) :: (K, oK) :: R)) (hm1 : m (Str.ofString "row") = some (.ref ROW)) (hm2 : m (Str.ofString "terms") = some (.ref TL)) (hm3 : m (Str.ofString "value") = some vv)
   (lp : LP w L ROW H T K S oR oH oT oK hs ss R) (hTL : ∀ p ∈ (ROW, oR) :: (H, oH) :: (T, oT) :: (K, oK) :: R, p.1 ≠ TL) (hdk : oK.IsDictOf (intKind prg w) kvs) (kv : KV 3 kvs R) (hl : hs.length ≤ 100)
   (hv0 : DatIn R v0 (Tm.d t0)) (hv1 : DatIn R v1 (Tm.d t1)) (ok0 : t0.ok) (ok1 : t1.ok)
   (hQ : ∀ h' tk' m' oH' R' ext CL u0 u1 c0 c1 k, Fr g L h' m' → News g L h' ((CL, W.listOf #[u0, u1] k) :: (TL, W.listOf #[v0, v1] c) :: (ROW, oR) :: (H, oH') :: (T, oT) :: (K, oK) :: R') → m' (Str.ofString "row") = some (.ref ROW) → m' (Str.ofString "terms") = some (.ref TL) → m' (Str.ofString "value") = some vv → m' (Str.ofString "cells") = some (.ref CL) →
      LP w L ROW H T K S oR oH' oT oK (hs ++ ext) ss R' → ext.length ≤ 6 → (∀ p ∈ R, p ∈ R') → (∀ p ∈ (ROW, oR) :: (H, oH') :: (T, oT) :: (K, oK) :: R', p.1 ≠ TL) → (∀ p ∈ (TL, oK) :: (ROW, oR) :: (H, oH') :: (T, oT) :: (K, oK) :: R', p.1 ≠ CL) → DatIn R' u0 (cd c0) → DatIn R' u1 (cd c1) → TopOk (hs ++ ext) t0 c0 → TopOk (hs ++ ext) t1 c1 →
      Stop9 (wpAny (model prg w) (callerA.deeper (lawEnv L)) (execs (lawRest 10) (lawEnv L)) Q (fun _ _ => False) { s with heap := h', toks := tk' })) :
   wpAny (model prg w) (callerA.deeper (lawEnv L)) (execs (lawRest 9) (lawEnv L)) Q (fun _ _ => False) { s with heap := h, toks := tk } := by
  refine wr_mp ?_
  simp (disch := (k_dflt (
      unfold lawEnv prg
      conv in (execs _ _) => arg 1; whnf
      conv in (occs := *) lawDef.2 => all_goals whnf
      revert X
      k_fill
      intro X
      have hl9 : ∀ q ∈ [(Str.ofString "row", Value.ref ROW), (Str.ofString "terms", .ref TL), (Str.ofString "value", vv)], m q.1 = some q.2 := by
        intro q hq
        simp only [List.mem_cons, List.not_mem_nil, or_false] at hq
        rcases hq with rfl | rfl | rfl
        · exact hm1
        · exact hm2
        · exact hm3
      have F' := fr_stdL F _ hl9
      clear F
      have hTL' : @Ne Nat ROW TL ∧ @Ne Nat H TL ∧ @Ne Nat T TL ∧ @Ne Nat K TL ∧ ∀ p ∈ R, p.1 ≠ TL := ⟨hTL _ (.head _), hTL _ (.tail _ (.head _)), hTL _ (.tail _ (.tail _ (.head _))), hTL _ (.tail _ (.tail _ (.tail _ (.head _)))), fun p hp => hTL p (.tail _ (.tail _ (.tail _ (.tail _ hp))))⟩
      obtain ⟨l1, l2, l3, l4, l5⟩ := hTL'
      obtain ⟨c1, hc1, hd1⟩ := lp.cS
      obtain ⟨c2, hc2, hd2⟩ := lp.cK
      refine StoreIs.elim lp.st ?_
      intro SD SY TR h1 h2 h3 h4 h5 h6 h7 q1 q2 q3 q4 q5 q6 q7 u1 u2 u3 n hs1 hs2 _
      have n1 := lp.nRH
      have n2 := lp.nRT
      have n3 := lp.nRK
      have n4 := lp.nHT
      have n5 := lp.nHK
      have n6 := lp.nTK
      have f2 := lp.fH
      have f4 := lp.fK
      (repeat' (first | (k_unfold; (try dsimp only)) | (k_here; (with_reducible show wpAny _ _ (execs (Stmt.Assign [Expr.Name (Str.ofString "bound") _] _ _ :: _) _) _ _ _); refine stop9o ?_) | (k_here; (with_reducible show wpAny _ _ (call (Value.ref 364) _) _ _ _); k_dflt (refine' Spec.use (lp_put ?lp ?hdk ?kv ?U ?hin ?one ?hl _ _ ?htv ?hto) ?kB ?kF ?kX ?kN ?kT ?kA ?kf ?kk ?kh ?kd ?ku ?_; (case lp => assumption); (case hdk => assumption); (case kv => first | assumption | exact KV.mono (by assumption) sub_right); (case htv => first | assumption | exact DatIn.mono sub_right (by assumption)); (case hto => assumption); ktn_step; (case U => (intro o9; k_upd)); (case hin => kqd_sub); (case one => (repeat' (first | k_ne | (refine all_cons (fun _ => rfl) ?_) | (refine all_cons (fun e => absurd e ?_) ?_) | (refine all_app (fun p9 hp9 e9 => absurd e9 (off_gt (by assumption) p9 hp9)) ?_) | (intro p9 hp9 e9; exact absurd e9 (LP.fK (by assumption) p9 hp9))))); (case hl => first | assumption | ((try simp only [List.length_append]); omega)); intro v9 post9 h9 tk9 F9 N9 hp9; obtain ⟨o9, new9, e9, fr9, ext9, c9, lp9, xl9, hd9, top9⟩ := hp9; subst e9; (try simp only [List.forall_mem_cons, List.forall_mem_append, List.forall_mem_nil, imp_and, forall_and, and_true, implies_true] at fr9); (repeat (rename _ ∧ _ => hc9; obtain ⟨_, _⟩ := hc9)); (try dsimp only); (try k_fold))) | (k_here; (with_reducible show wpAny _ _ (call (Value.ref 434) _) _ _ _); k_dflt (refine' Spec.use (lp_next ?lp ?U) ?kB ?kF ?kX ?kN ?kT ?kA ?kf ?kk ?kh ?kd ?ku ?_; (case lp => assumption); ktn_step; (case U => (intro o9; k_upd)); intro v9 post9 h9 tk9 F9 N9 hp9; obtain ⟨o9, e9, lp9, k9, tt9, ev9⟩ := hp9; subst e9; subst ev9; (try dsimp only at N9); (try dsimp only); (try k_fold))) | (k_here; (with_reducible show wpAny _ _ (call (Value.ref 441) _) _ _ _); k_dflt (refine' Spec.use (lp_term ?lp _ ?U ?hin) ?kB ?kF ?kX ?kN ?kT ?kA ?kf ?kk ?kh ?kd ?ku ?_; (case lp => assumption); ktn_step; (case U => (intro o9; k_upd)); (case hin => kqd_sub); intro v9 post9 h9 tk9 F9 N9 hp9; obtain ⟨o9, new9, e9, fr9, lp9, t9, ok9, hd9⟩ := hp9; subst e9; (try simp only [List.forall_mem_cons, List.forall_mem_append, List.forall_mem_nil, imp_and, forall_and, and_true, implies_true] at fr9); (repeat (rename _ ∧ _ => hc9; obtain ⟨_, _⟩ := hc9)); (try dsimp only); (try k_fold))) | (k_here; (with_reducible show wpAny _ _ (call (Value.ref _) _) _ _ _); k_dflt (refine wpAny_call ?_; ( refine' code_def ?k1z9 ?k2z9 ?k3z9 ?k4z9 ?k5z9 ?kAz9 ?kFz9 ?kKz9 ?k6z9 ?k7z9 ?k8z9 ?k9z9 ?kBz9 ?_ ?c2z9 ?c3z9 ?c4z9 ?c5z9; (case kAz9 => first | exact deeper_frames _ (by assumption) | exact deeper_frames _ (deeper_frames _ (by assumption)) | exact deeper_frames _ (deeper_frames _ (deeper_frames _ (by assumption)))); (case kFz9 => exact rfl); (case kKz9 => exact rfl); (case k1z9 => k_asm); (case k2z9 => k_asm); (case k3z9 => k_asm); (case k4z9 => k_asm); (case k5z9 => k_asm); (case k6z9 => k_is); (case k7z9 => k_is); (case k8z9 => k_room); (case k9z9 => exact BindsTo.of_eq rfl); (case c5z9 => decide); (case kBz9 => exact locs rfl); (case c2z9 => exact rfl); (case c3z9 => exact rfl); (case c4z9 => exact rfl); k_whole; intro _ _ _ _ _ _ _ _ _; (with_reducible refine wp_never ?_); (try dsimp only); (try k_fold)))) | (k_here; (with_reducible show wpAny _ _ (setItem (Value.ref _) (Value.int _ _) _) _ _ _); k_dflt (refine' set_led ?Fz9 ?Nz9 ?Uz9 ?az9 ?bz9 ?zz9 ?_; (case Fz9 => k_asm); (case Nz9 => k_asm); (case Uz9 => k_upd); (case az9 => ksa_idx); (case bz9 => ksa_idx); (case zz9 => ksa_idx); k_whole); intro _ _ _; (try k_sweep)) | (k_here; (with_reducible show wpAny _ _ (call (Value.builtin "list.append") [Value.ref _, _]) _ _ _); k_dflt (refine' append_led ?Fz9 ?Nz9 ?Uz9 ?zz9 ?_; (case Fz9 => k_asm); (case Nz9 => k_asm); (case Uz9 => k_upd); (case zz9 => ksa_idx); k_whole); intro _ _ _; (try k_sweep)) | (k_here; (with_reducible show wpAny _ _ (call (Value.builtin "len") [Value.ref _]) _ _ _); k_dflt (refine' len_led ?Nz9 ?mz9 ?zz9 ?_; (case Nz9 => k_asm); (case mz9 => k_mem); (case zz9 => ksa_idx); k_whole); intro _ _) | (k_here; (with_reducible show wpAny _ _ (subscriptTail _ _ (Value.ref _) (Value.int _ _)) _ _ _); k_dflt (refine' item_led ?Nz9 ?mz9 ?az9 ?bz9 ?xz9 ?_; (case Nz9 => k_asm); (case mz9 => k_mem); (case az9 => omega); (case bz9 => omega); (case xz9 => assumption))) | (k_end; kc_close) | (k_end; wrow_close) | walk1 | (dsimp only; walk1) | (leave1; (try dsimp only)) | fail "no step"))
      refine' compEnd_app ?F ?N ?h1 ?h2 ?h3 ?hS ?r
      (case F => k_asm); (case N => k_asm)
      (case h1 => (repeat' (first | k_all | (refine all_cons ?_ ?_) | (refine all_app ?_ ?_) | exact all_nil | k_ne)))
      (case h2 => (repeat' (first | k_all | (refine all_cons ?_ ?_) | (refine all_app ?_ ?_) | exact all_nil | k_ne)))
      (case h3 => (repeat' (first | k_all | (refine all_cons ?_ ?_) | (refine all_app ?_ ?_) | exact all_nil | k_ne)))
      (case hS => exact Or.inr ⟨_, (by k_mem), rfl, _, rfl⟩)
      (try dsimp only)
      (repeat' (first | (k_unfold; (try dsimp only)) | (k_here; (with_reducible show wpAny _ _ (execs (Stmt.Assign [Expr.Name (Str.ofString "bound") _] _ _ :: _) _) _ _ _); refine stop9o ?_) | (k_here; (with_reducible show wpAny _ _ (call (Value.ref 364) _) _ _ _); k_dflt (refine' Spec.use (lp_put ?lp ?hdk ?kv ?U ?hin ?one ?hl _ _ ?htv ?hto) ?kB ?kF ?kX ?kN ?kT ?kA ?kf ?kk ?kh ?kd ?ku ?_; (case lp => assumption); (case hdk => assumption); (case kv => first | assumption | exact KV.mono (by assumption) sub_right); (case htv => first | assumption | exact DatIn.mono sub_right (by assumption)); (case hto => assumption); ktn_step; (case U => (intro o9; k_upd)); (case hin => kqd_sub); (case one => (repeat' (first | k_ne | (refine all_cons (fun _ => rfl) ?_) | (refine all_cons (fun e => absurd e ?_) ?_) | (refine all_app (fun p9 hp9 e9 => absurd e9 (off_gt (by assumption) p9 hp9)) ?_) | (intro p9 hp9 e9; exact absurd e9 (LP.fK (by assumption) p9 hp9))))); (case hl => first | assumption | ((try simp only [List.length_append]); omega)); intro v9 post9 h9 tk9 F9 N9 hp9; obtain ⟨o9, new9, e9, fr9, ext9, c9, lp9, xl9, hd9, top9⟩ := hp9; subst e9; (try simp only [List.forall_mem_cons, List.forall_mem_append, List.forall_mem_nil, imp_and, forall_and, and_true, implies_true] at fr9); (repeat (rename _ ∧ _ => hc9; obtain ⟨_, _⟩ := hc9)); (try dsimp only); (try k_fold))) | (k_here; (with_reducible show wpAny _ _ (call (Value.ref 434) _) _ _ _); k_dflt (refine' Spec.use (lp_next ?lp ?U) ?kB ?kF ?kX ?kN ?kT ?kA ?kf ?kk ?kh ?kd ?ku ?_; (case lp => assumption); ktn_step; (case U => (intro o9; k_upd)); intro v9 post9 h9 tk9 F9 N9 hp9; obtain ⟨o9, e9, lp9, k9, tt9, ev9⟩ := hp9; subst e9; subst ev9; (try dsimp only at N9); (try dsimp only); (try k_fold))) | (k_here; (with_reducible show wpAny _ _ (call (Value.ref 441) _) _ _ _); k_dflt (refine' Spec.use (lp_term ?lp _ ?U ?hin) ?kB ?kF ?kX ?kN ?kT ?kA ?kf ?kk ?kh ?kd ?ku ?_; (case lp => assumption); ktn_step; (case U => (intro o9; k_upd)); (case hin => kqd_sub); intro v9 post9 h9 tk9 F9 N9 hp9; obtain ⟨o9, new9, e9, fr9, lp9, t9, ok9, hd9⟩ := hp9; subst e9; (try simp only [List.forall_mem_cons, List.forall_mem_append, List.forall_mem_nil, imp_and, forall_and, and_true, implies_true] at fr9); (repeat (rename _ ∧ _ => hc9; obtain ⟨_, _⟩ := hc9)); (try dsimp only); (try k_fold))) | (k_here; (with_reducible show wpAny _ _ (call (Value.ref _) _) _ _ _); k_dflt (refine wpAny_call ?_; ( refine' code_def ?k1z9 ?k2z9 ?k3z9 ?k4z9 ?k5z9 ?kAz9 ?kFz9 ?kKz9 ?k6z9 ?k7z9 ?k8z9 ?k9z9 ?kBz9 ?_ ?c2z9 ?c3z9 ?c4z9 ?c5z9; (case kAz9 => first | exact deeper_frames _ (by assumption) | exact deeper_frames _ (deeper_frames _ (by assumption)) | exact deeper_frames _ (deeper_frames _ (deeper_frames _ (by assumption)))); (case kFz9 => exact rfl); (case kKz9 => exact rfl); (case k1z9 => k_asm); (case k2z9 => k_asm); (case k3z9 => k_asm); (case k4z9 => k_asm); (case k5z9 => k_asm); (case k6z9 => k_is); (case k7z9 => k_is); (case k8z9 => k_room); (case k9z9 => exact BindsTo.of_eq rfl); (case c5z9 => decide); (case kBz9 => exact locs rfl); (case c2z9 => exact rfl); (case c3z9 => exact rfl); (case c4z9 => exact rfl); k_whole; intro _ _ _ _ _ _ _ _ _; (with_reducible refine wp_never ?_); (try dsimp only); (try k_fold)))) | (k_here; (with_reducible show wpAny _ _ (setItem (Value.ref _) (Value.int _ _) _) _ _ _); k_dflt (refine' set_led ?Fz9 ?Nz9 ?Uz9 ?az9 ?bz9 ?zz9 ?_; (case Fz9 => k_asm); (case Nz9 => k_asm); (case Uz9 => k_upd); (case az9 => ksa_idx); (case bz9 => ksa_idx); (case zz9 => ksa_idx); k_whole); intro _ _ _; (try k_sweep)) | (k_here; (with_reducible show wpAny _ _ (call (Value.builtin "list.append") [Value.ref _, _]) _ _ _); k_dflt (refine' append_led ?Fz9 ?Nz9 ?Uz9 ?zz9 ?_; (case Fz9 => k_asm); (case Nz9 => k_asm); (case Uz9 => k_upd); (case zz9 => ksa_idx); k_whole); intro _ _ _; (try k_sweep)) | (k_here; (with_reducible show wpAny _ _ (call (Value.builtin "len") [Value.ref _]) _ _ _); k_dflt (refine' len_led ?Nz9 ?mz9 ?zz9 ?_; (case Nz9 => k_asm); (case mz9 => k_mem); (case zz9 => ksa_idx); k_whole); intro _ _) | (k_here; (with_reducible show wpAny _ _ (subscriptTail _ _ (Value.ref _) (Value.int _ _)) _ _ _); k_dflt (refine' item_led ?Nz9 ?mz9 ?az9 ?bz9 ?xz9 ?_; (case Nz9 => k_asm); (case mz9 => k_mem); (case az9 => omega); (case bz9 => omega); (case xz9 => assumption))) | (k_end; kc_close) | (k_end; wrow_close) | walk1 | (dsimp only; walk1) | (leave1; (try dsimp only)) | fail "no step"))
      unfold Stop9
      (rename Fr _ _ _ _ => kF); (rename News _ _ _ _ => kN)
      rename LCg.Off1 _ _ => o1
      have gt : ∀ {d : Addr} {l : List (Addr × Obj)}, (∀ x : Addr × Obj, x ∈ l → @LT.lt Nat _ d x.fst) → ∀ p ∈ l, p.1 ≠ d := fun h p hp => Nat.ne_of_gt (h p hp)
      rename (LP w L ROW H T K S oR _ oT oK (_ ++ _ ++ _) _ _) => lpz
      rename TopOk (_ ++ _ ++ _) t1 _ => topz
      rename TopOk _ t0 _ => topy
      rename DatIn (_ ++ (_ ++ R)) _ _ => datz
      rename DatIn (_ ++ R) _ _ => daty
      rw [List.append_assoc] at lpz topz
      exact hQ _ _ _ _ _ _ _ _ _ _ _ _ kF (news6 kN) rfl rfl rfl rfl lpz (by simp only [List.length_append]; omega) (fun p hp => sub_right _ (sub_right _ hp)) (all_cons l1 (all_cons l2 (all_cons l3 (all_cons l4 (all_app (gt (by assumption)) (all_app (gt (by assumption)) l5)))))) (off6 o1 rfl) (daty.mono sub_right) datz (by rw [← List.append_assoc]; exact topy.app) topz))) only [↓wr_true]
end
section
theorem walk_off_P31 : True := by
  w_top off
  trivial
theorem stop9n {p : Prop} (h : Stop9 p) : p := h
theorem lp_bind {L ROW H T K S : Addr} {oR oH oT oK : Obj} {hs ss : List (Int × Int)} {R news : List (Addr × Obj)} {g' : Obj → List (Addr × Obj)} (lp : LP w L ROW H T K S oR oH oT oK hs ss R)
    (U : ∀ o', Upd H oH o' news (g' o')) (hin : ∀ p ∈ R, p ∈ news) (x : Nat) (hx : x < hs.length) (c' : Int × Int) (v v' : Value) (hv : DatIn R v (cd (0, (x : Int)))) (hv' : DatIn R v' (cd c')) :
    Spec w 244 [.ref S, v, v'] news 5 200 (fun _ post => ∃ o', post = g' o' ∧ LP w L ROW H T K S oR o' oT oK (hs.set x c') ss R) := by
  refine (Spec.upd (P := fun _ o' new => new = [] ∧ CellsAt R o' (hs.set x c')) (fun rest h1 h2 => ?_) U).mono (Nat.le_refl _) (Nat.le_refl _) fun v post h => ?_
  · have sub : ∀ p ∈ R, p ∈ rest := fun p hp => h2 p (hin p hp) (lp.fH p hp)
    exact bind_spec S H T oH hs rest R h1 (lp.st.mono sub) lp.ch x hx c' v v' (hv.mono sub) hv'
  · obtain ⟨o', new, e, _, _, rfl, h3⟩ := h
    exact ⟨o', e, lp.heap h3⟩
/-- what the law's frame bears from the cells on -/
structure LQ (w : World) (L : Addr) (ROW H T K S TL CL : Addr) (oR oH oT oK : Obj) (hs ss : List (Int × Int)) (R : List (Addr × Obj)) (u0 u1 : Value) (c0 c1 : Int × Int) (v0 v1 : Value) (t0 t1 : Tm) : Prop where
  lp : LP w L ROW H T K S oR oH oT oK hs ss R
  fTL : ∀ p ∈ R, p.1 ≠ TL
  fCL : ∀ p ∈ R, p.1 ≠ CL
  tR : @Ne Nat ROW TL
  tH : @Ne Nat H TL
  tT : @Ne Nat T TL
  tK : @Ne Nat K TL
  cR : @Ne Nat ROW CL
  cH : @Ne Nat H CL
  cT : @Ne Nat T CL
  cK : @Ne Nat K CL
  cTL : @Ne Nat TL CL
  du0 : DatIn R u0 (cd c0)
  du1 : DatIn R u1 (cd c1)
  dv0 : DatIn R v0 t0.d
  dv1 : DatIn R v1 t1.d
  ok0 : t0.ok
  ok1 : t1.ok
theorem seg7 {p : Program} {loose : List Str} {mean : ExcName → Option Value} {mg mb : Str → Option Value} {g h : Heap} {L : Addr} {s : Shared} {tk : Nat} {m : Str → Option Value} {Q : Flow → Shared → Prop}
   (K0 : Below callerA g [] g) (X : (hk.heap_1 w.params).In g) (T9 : Top p loose mean mg mb g) {ROW H T K S TL CL : Addr} {oR oH oT oK : Obj} {hs ss : List (Int × Int)} {R : List (Addr × Obj)} {vv v0 v1 u0 u1 : Value} {c0 c1 : Int × Int} {c k : Nat} {t0 t1 : Tm} {kvs : List (Int × Value)}
   (F : Fr g L h m) (N : News g L h ((CL, W.listOf #[u0, u1] k) :: (TL, W.listOf #[v0, v1] c) :: (ROW, oR) :: (H, oH) :: (T, oT) :: (K, oK) :: R)) (hm1 : m (Str.ofString "row") = some (.ref ROW)) (hm2 : m (Str.ofString "terms") = some (.ref TL)) (hm3 : m (Str.ofString "value") = some vv) (hm4 : m (Str.ofString "cells") = some (.ref CL))
   (lq : LQ w L ROW H T K S TL CL oR oH oT oK hs ss R u0 u1 c0 c1 v0 v1 t0 t1) (hdk : oK.IsDictOf (intKind prg w) kvs) (kv : KV 3 kvs R) (hl : 3 ≤ hs.length)
   (hQ : ∀ h' tk' m' oR' oH' b tb, Fr g L h' m' → News g L h' ((CL, W.listOf #[u0, u1] k) :: (TL, W.listOf #[v0, v1] c) :: (ROW, oR') :: (H, oH') :: (T, oT) :: (K, oK) :: R) → m' (Str.ofString "row") = some (.ref ROW) → m' (Str.ofString "terms") = some (.ref TL) → m' (Str.ofString "value") = some vv → m' (Str.ofString "cells") = some (.ref CL) → m' (Str.ofString "bound") = some (.int b tb) →
      (LQ w L ROW H T K S TL CL oR' oH' oT oK hs ss R u0 u1 c0 c1 v0 v1 t0 t1 ∧ b ≤ 0 ∨ LQ w L ROW H T K S TL CL oR' oH' oT oK (hs.set 1 (0, 0)) ss R u0 u1 c0 c1 v0 v1 t0 t1 ∧ 0 < b) →
      Stop9 (wpAny (model prg w) (callerA.deeper (lawEnv L)) (execs (lawRest 12) (lawEnv L)) Q (fun _ _ => False) { s with heap := h', toks := tk' })) :
   wpAny (model prg w) (callerA.deeper (lawEnv L)) (execs (lawRest 10) (lawEnv L)) Q (fun _ _ => False) { s with heap := h, toks := tk } := by
  refine wr_mp ?_
  simp (disch := (k_dflt (
      unfold lawEnv prg
      conv in (execs _ _) => arg 1; whnf
      conv in (occs := *) lawDef.2 => all_goals whnf
      revert X
      k_fill
      intro X
      have hl9 : ∀ q ∈ [(Str.ofString "row", Value.ref ROW), (Str.ofString "terms", .ref TL), (Str.ofString "value", vv), (Str.ofString "cells", .ref CL)], m q.1 = some q.2 := by
        intro q hq
        simp only [List.mem_cons, List.not_mem_nil, or_false] at hq
        rcases hq with rfl | rfl | rfl | rfl
        · exact hm1
        · exact hm2
        · exact hm3
        · exact hm4
      have F' := fr_stdL F _ hl9
      clear F
      have lp := lq.lp
      obtain ⟨c1, hc1, hd1⟩ := lp.cS
      obtain ⟨c2, hc2, hd2⟩ := lp.cK
      refine StoreIs.elim lp.st ?_
      intro SD SY TR h1 h2 h3 h4 h5 h6 h7 q1 q2 q3 q4 q5 q6 q7 u1 u2 u3 n hs1 hs2 _
      have n1 := lp.nRH
      have n2 := lp.nRT
      have n3 := lp.nRK
      have n4 := lp.nHT
      have n5 := lp.nHK
      have n6 := lp.nTK
      have f1 := lp.fR
      have f2 := lp.fH
      have e1 := lq.tR
      have e2 := lq.tH
      have e3 := lq.cR
      have e4 := lq.cH
      have hlk := lp.lk
      obtain ⟨w0, hw0, dw0⟩ := kv.has 0 (by decide) (by decide)
      obtain ⟨w1, hw1, dw1⟩ := kv.has 1 (by decide) (by decide)
      have dw1' : DatIn R w1 (cd (0, ((1 : Nat) : Int))) := dw1
      have hx1 : 1 < hs.length := by omega
      (repeat' (first | (k_unfold; (try dsimp only)) | (k_here; (with_reducible show wpAny _ _ (execs (Stmt.If (Expr.Compare _ _ [Expr.Constant (Const.int 1) _ _] _) _ _ _ :: _) _) _ _ _); refine stop9n ?_) | (k_here; (with_reducible show wpAny _ _ (call (Value.ref 244) _) _ _ _); k_dflt (refine' Spec.use (lp_bind ?lp ?U ?hin ?x ?hx _ _ _ ?hv ?hv') ?kB ?kF ?kX ?kN ?kT ?kA ?kf ?kk ?kh ?kd ?ku ?_; (case lp => assumption); (case hv => assumption); (case hv' => assumption); ktn_step; (case U => (intro o9; k_upd)); (case hin => kqd_sub); (case hx => first | assumption | omega); intro v9 post9 h9 tk9 F9 N9 hp9; obtain ⟨o9, e9, lp9⟩ := hp9; subst e9; (try dsimp only at N9); (try dsimp only); (try k_fold))) | (k_here; (with_reducible show wpAny _ _ (subscriptTail _ _ (Value.ref _) (Value.int _ _)) _ _ _); k_dflt (refine' kda_item (knd := intKind _ _) ?N ?m ?d (intKind_is _ _ _ _) ?l ?_; (case d => assumption); (case N => k_asm); (case m => k_mem); (case l => assumption))) | (k_here; (with_reducible show wpAny _ _ (call (Value.ref 434) _) _ _ _); k_dflt (refine' Spec.use (lp_next ?lp ?U) ?kB ?kF ?kX ?kN ?kT ?kA ?kf ?kk ?kh ?kd ?ku ?_; (case lp => assumption); ktn_step; (case U => (intro o9; k_upd)); intro v9 post9 h9 tk9 F9 N9 hp9; obtain ⟨o9, e9, lp9, k9, tt9, ev9⟩ := hp9; subst e9; subst ev9; (try dsimp only at N9); (try dsimp only); (try k_fold))) | (k_here; (with_reducible show wpAny _ _ (call (Value.ref 441) _) _ _ _); k_dflt (refine' Spec.use (lp_term ?lp _ ?U ?hin) ?kB ?kF ?kX ?kN ?kT ?kA ?kf ?kk ?kh ?kd ?ku ?_; (case lp => assumption); ktn_step; (case U => (intro o9; k_upd)); (case hin => kqd_sub); intro v9 post9 h9 tk9 F9 N9 hp9; obtain ⟨o9, new9, e9, fr9, lp9, t9, ok9, hd9⟩ := hp9; subst e9; (try simp only [List.forall_mem_cons, List.forall_mem_append, List.forall_mem_nil, imp_and, forall_and, and_true, implies_true] at fr9); (repeat (rename _ ∧ _ => hc9; obtain ⟨_, _⟩ := hc9)); (try dsimp only); (try k_fold))) | (k_here; (with_reducible show wpAny _ _ (call (Value.ref _) _) _ _ _); k_dflt (refine wpAny_call ?_; ( refine' code_def ?k1z9 ?k2z9 ?k3z9 ?k4z9 ?k5z9 ?kAz9 ?kFz9 ?kKz9 ?k6z9 ?k7z9 ?k8z9 ?k9z9 ?kBz9 ?_ ?c2z9 ?c3z9 ?c4z9 ?c5z9; (case kAz9 => first | exact deeper_frames _ (by assumption) | exact deeper_frames _ (deeper_frames _ (by assumption)) | exact deeper_frames _ (deeper_frames _ (deeper_frames _ (by assumption)))); (case kFz9 => exact rfl); (case kKz9 => exact rfl); (case k1z9 => k_asm); (case k2z9 => k_asm); (case k3z9 => k_asm); (case k4z9 => k_asm); (case k5z9 => k_asm); (case k6z9 => k_is); (case k7z9 => k_is); (case k8z9 => k_room); (case k9z9 => exact BindsTo.of_eq rfl); (case c5z9 => decide); (case kBz9 => exact locs rfl); (case c2z9 => exact rfl); (case c3z9 => exact rfl); (case c4z9 => exact rfl); k_whole; intro _ _ _ _ _ _ _ _ _; (with_reducible refine wp_never ?_); (try dsimp only); (try k_fold)))) | (k_here; (with_reducible show wpAny _ _ (setItem (Value.ref _) (Value.int _ _) _) _ _ _); k_dflt (refine' set_led ?Fz9 ?Nz9 ?Uz9 ?az9 ?bz9 ?zz9 ?_; (case Fz9 => k_asm); (case Nz9 => k_asm); (case Uz9 => k_upd); (case az9 => ksa_idx); (case bz9 => ksa_idx); (case zz9 => ksa_idx); k_whole); intro _ _ _; (try k_sweep)) | (k_here; (with_reducible show wpAny _ _ (call (Value.builtin "list.append") [Value.ref _, _]) _ _ _); k_dflt (refine' append_led ?Fz9 ?Nz9 ?Uz9 ?zz9 ?_; (case Fz9 => k_asm); (case Nz9 => k_asm); (case Uz9 => k_upd); (case zz9 => ksa_idx); k_whole); intro _ _ _; (try k_sweep)) | (k_here; (with_reducible show wpAny _ _ (call (Value.builtin "len") [Value.ref _]) _ _ _); k_dflt (refine' len_led ?Nz9 ?mz9 ?zz9 ?_; (case Nz9 => k_asm); (case mz9 => k_mem); (case zz9 => ksa_idx); k_whole); intro _ _) | (k_here; (with_reducible show wpAny _ _ (subscriptTail _ _ (Value.ref _) (Value.int _ _)) _ _ _); k_dflt (refine' item_led ?Nz9 ?mz9 ?az9 ?bz9 ?xz9 ?_; (case Nz9 => k_asm); (case mz9 => k_mem); (case az9 => omega); (case bz9 => omega); (case xz9 => assumption))) | (k_end; kc_close) | (k_end; wrow_close) | walk1 | (dsimp only; walk1) | (leave1; (try dsimp only)) | fail "no step"))
      · unfold Stop9
        (rename Fr _ _ _ _ => kF); (rename News _ _ _ _ => kN)
        rename (LP w L ROW H T K S _ _ oT oK (hs.set 1 _) _ _) => lpz
        exact hQ _ _ _ _ _ _ _ kF kN rfl rfl rfl rfl rfl (.inr ⟨⟨lpz, lq.fTL, lq.fCL, lq.tR, lq.tH, lq.tT, lq.tK, lq.cR, lq.cH, lq.cT, lq.cK, lq.cTL, lq.du0, lq.du1, lq.dv0, lq.dv1, lq.ok0, lq.ok1⟩, by assumption⟩)
      · unfold Stop9
        (rename Fr _ _ _ _ => kF); (rename News _ _ _ _ => kN)
        rename (LP w L ROW H T K S _ oH oT oK hs _ _) => lpz
        exact hQ _ _ _ _ _ _ _ kF kN rfl rfl rfl rfl rfl (.inl ⟨⟨lpz, lq.fTL, lq.fCL, lq.tR, lq.tH, lq.tT, lq.tK, lq.cR, lq.cH, lq.cT, lq.cK, lq.cTL, lq.du0, lq.du1, lq.dv0, lq.dv1, lq.ok0, lq.ok1⟩, by omega⟩)))) only [↓wr_true]
end
section
theorem walk_off_P32 : True := by
  w_top off
  trivial
theorem stop9m {p : Prop} (h : Stop9 p) : p := h
theorem lp_fresh {L ROW H T K S K2 : Addr} {oR oH oT oK ok2 : Obj} {hs ss : List (Int × Int)} {R news : List (Addr × Obj)} {g' : Obj → List (Addr × Obj)} (lp : LP w L ROW H T K S oR oH oT oK hs ss R)
    (U : ∀ o', Upd H oH o' news (g' o')) (hin : ∀ p ∈ (ROW, oR) :: (T, oT) :: (K, oK) :: R, p ∈ news) (hnK : ∀ p ∈ news, p.1 ≠ K2) (hKs : (K2 == sysModules) = false) (hdk : ok2.IsDictOf (intKind prg w) ([] : List (Int × Value))) (hl : hs.length ≤ 500) (tv : Value) (t : Tm) (htv : DatIn R tv t.d) (hto : t.ok) (hnv : ∀ n, t ≠ .lf (.v n)) :
    Spec w 364 [.ref S, tv, .ref K2] ((K2, ok2) :: news) 40 700 (fun v post => ∃ o' new, post = new ++ g' o' ∧ (∀ p ∈ new, ∀ q ∈ news, @LT.lt Nat _ q.1 p.1) ∧ ∃ ext c, LP w L ROW H T K S oR o' oT oK (hs ++ ext) ss (new ++ R) ∧ ext.length ≤ 3 ∧ DatIn (new ++ R) v (cd c) ∧ TopOk (hs ++ ext) t c) := by
  refine (put_fresh S H K2 oH ok2 hs R news U (Ne.symm (hnK _ (upd_mem (U oH)))) hnK (fun p hp => hin p (.tail _ (.tail _ (.tail _ hp)))) lp.fH hKs T lp.st lp.ch hl tv t htv hto hnv hdk).mono (Nat.le_refl _) (Nat.le_refl _) fun v post h => ?_
  obtain ⟨o', new, e, h1, ext, c, h3, h4, h5, h6⟩ := h
  exact ⟨o', new, e, h1, ext, c, (lp.grow (above4 hin (upd_mem (U oH)) h1)).heap h3, h4, h5, h6⟩
local macro_rules | `(tactic| walk_at "subscriptTail") => `(tactic| (k_here; (with_reducible show wpAny _ _ (subscriptTail _ _ (Value.ref _) (Value.int _ _)) _ _ _); k_dflt (refine' kda_item (knd := intKind _ _) ?N ?m ?d (intKind_is _ _ _ _) ?l ?_; (case d => assumption); (case N => k_asm); (case m => k_mem); (case l => assumption))))
local macro_rules | `(tactic| walk_at "call ref") => `(tactic| (k_here; (with_reducible show wpAny _ _ (call (Value.ref 244) _) _ _ _); k_dflt (refine' Spec.use (lp_bind ?lp ?U ?hin ?x ?hx _ _ _ ?hv ?hv') ?kB ?kF ?kX ?kN ?kT ?kA ?kf ?kk ?kh ?kd ?ku ?_; (case lp => assumption); (case hv' => assumption); (case hv => exact DatIn.mono sub_right (by assumption)); ktn_step; (case U => (intro o9; k_upd)); (case hin => kqd_sub); (case hx => (simp only [List.length_append]; omega)); intro v9 post9 h9 tk9 F9 N9 hp9; obtain ⟨o9, e9, lp9⟩ := hp9; subst e9; (try dsimp only at N9); (try dsimp only); (try k_fold))))
local macro_rules | `(tactic| walk_at "call ref") => `(tactic| (k_here; (with_reducible show wpAny _ _ (call (Value.ref 364) _) _ _ _); k_dflt (refine' Spec.use (lp_fresh ?lp ?U ?hin ?hnK ?hKs ?hdk ?hl _ _ ?htv ?hto ?hnv) ?kB ?kF ?kX ?kN ?kT ?kA ?kf ?kk ?kh ?kd ?ku ?_; (case lp => assumption); (case hto => assumption); (case hnv => assumption); (case htv => assumption); (case hdk => assumption); (case hKs => assumption); ktn_step; (case U => (intro o9; k_upd)); (case hin => kqd_sub); (case hnK => (repeat' (first | k_ne | k_all | (refine all_cons ?_ ?_)))); (case hl => first | assumption | omega); intro v9 post9 h9 tk9 F9 N9 hp9; obtain ⟨o9, new9, e9, fr9, ext9, c9, lp9, xl9, hd9, top9⟩ := hp9; subst e9; (try simp only [List.forall_mem_cons, List.forall_mem_append, List.forall_mem_nil, imp_and, forall_and, and_true, implies_true] at fr9); (repeat (rename _ ∧ _ => hc9; obtain ⟨_, _⟩ := hc9)); (try dsimp only); (try k_fold))))
/-- a variable of the two that may be bound -/
noncomputable def isV01 : Tm → Bool
  | .lf (.v n) => decide (n = 0) || decide (n = 1)
  | _ => false
theorem Lf.okd (l : Lf) : kqdOk 6 l.d = true := by
  cases l <;> simp [kqdOk, Lf.d] <;> decide +kernel
theorem Tm.okd (t : Tm) : kqdOk 8 t.d = true := by
  cases t with
  | lf l => cases l <;> simp [kqdOk, Tm.d, Lf.d] <;> decide +kernel
  | s f xs =>
    have h : ∀ x ∈ xs.map Lf.d, kqdOk 6 x = true := fun x hx => by
      obtain ⟨l, _, rfl⟩ := List.mem_map.mp hx
      exact l.okd
    simp only [Tm.d, kqdOk, List.all_cons, List.all_nil, Bool.and_true, Bool.and_eq_true, List.all_eq_true]
    exact ⟨by decide +kernel, by decide +kernel, h⟩
theorem news_drop3 {g h : Heap} {L : Addr} {l : List (Addr × Obj)} {a b c : Addr × Obj} (N : News g L h (a :: b :: c :: l)) : News g L h l := News.sub N fun _ h => .tail _ (.tail _ (.tail _ h))
open Classical in
theorem in_v01 {A : Around} {E : Value → Shared → Prop} {s : Shared} {h₀ : Heap} {L a : Addr} {news R : List (Addr × Obj)} {xs : List Value} {ka : Nat} {x : Value} {t : Tm} {Q : Value → Shared → Prop}
    (N : News h₀ L s.heap news) (ma : (a, W.listOf xs.toArray ka) ∈ news) (Da : DatAll news xs [(Tm.lf (.v 0)).d, (Tm.lf (.v 1)).d]) (Dx : DatIn R x t.d) (sx : ∀ p ∈ R, p ∈ news) (hu : A.units + 64 < cLine) (c : Bool) (hc : isV01 t = c) (h : Q (.bool c) s) : wpAny (model prg w) A (compareOp .In x (.ref a)) Q E s := by
  refine kqd_isIn N ma rfl rfl Da (fun _ h => h) Dx sx ?_ t.okd hu ?_
  · intro d hd
    simp only [List.mem_cons, List.not_mem_nil, or_false] at hd
    rcases hd with rfl | rfl <;> exact Tm.okd _
  · have e : (t.d ∈ [(Tm.lf (.v 0)).d, (Tm.lf (.v 1)).d]) ↔ isV01 t = true := by
      simp only [List.mem_cons, List.not_mem_nil, or_false]
      rcases t with (n | k | k) | ⟨f, xs⟩
      · simp [Tm.d, Lf.d, isV01]
      · simp [Tm.d, Lf.d, isV01, show Str.ofString "a" ≠ Str.ofString "v" from by decide +kernel]
      · simp [Tm.d, Lf.d, isV01, show Str.ofString "i" ≠ Str.ofString "v" from by decide +kernel]
      · simp [Tm.d, Lf.d, isV01]
    have e2 : decide (t.d ∈ [(Tm.lf (.v 0)).d, (Tm.lf (.v 1)).d]) = c := by
      rw [← hc]; exact Bool.eq_iff_iff.mpr (decide_eq_true_iff.trans e)
    rw [e2]; exact h
local macro_rules | `(tactic| walk_at "compareOp In") => `(tactic| (k_here; (with_reducible show wpAny _ _ (compareOp CmpOp.In _ (Value.ref _)) _ _ _); k_dflt (first
  | (refine' in_v01 ?N ?a ?d ?x ?sx ?n true ?c ?_; (case N => k_asm); (case a => k_mem); (case d => kqd_all); (case x => assumption); (case sx => kqd_sub); (case c => assumption); (case n => units_room))
  | (refine' in_v01 ?N ?a ?d ?x ?sx ?n false ?c ?_; (case N => k_asm); (case a => k_mem); (case d => kqd_all); (case x => assumption); (case sx => kqd_sub); (case c => assumption); (case n => units_room))); (rename (News _ _ _ (_ :: _ :: _ :: _)) => nz9); replace nz9 := news_drop3 nz9))
local macro_rules | `(tactic| walk_at "pyIter ref") => `(tactic| ((with_reducible show wpAny _ _ (pyIter (Value.ref _)) (fun it s₂ => LoopAtV _ _ _ _ _ _ _ _ _ it s₂) _ _); (rename Fr _ _ _ _ => lF'); (rename News _ _ _ _ => lN'); (with_unfolding_all refine iter_rangeUnr (n := 2) (by first | assumption | exact rfl) (by assumption) (by decide) (by decide) lF' lN' ?_); clear lF' lN'; intro i' l1; (try k_lt l1); refine stop9m ?_))
/-- the terms' list in the loop -/
noncomputable def vsN (i : Nat) (r0 r1 v0 v1 : Value) : List Value := match i with | 0 => [v0, v1] | 1 => [r0, v1] | _ => [r0, r1]
/-- the term that stands after the binding -/
noncomputable def subT (tv t : Tm) : Tm := if isV01 t = true then tv else t
theorem vsN_step {R : List (Addr × Obj)} {vv v0 v1 : Value} {t0 t1 : Tm} (d0 : DatIn R v0 t0.d) (d1 : DatIn R v1 t1.d) (i : Nat) (hi : i < 2) : ∃ x t, (vsN i (if isV01 t0 = true then vv else v0) (if isV01 t1 = true then vv else v1) v0 v1)[(i : Int).toNat]? = some x ∧ DatIn R x t.d ∧ (vsN i (if isV01 t0 = true then vv else v0) (if isV01 t1 = true then vv else v1) v0 v1).length = 2 ∧
    (isV01 t = true → (vsN i (if isV01 t0 = true then vv else v0) (if isV01 t1 = true then vv else v1) v0 v1).set (i : Int).toNat vv = vsN (i + 1) (if isV01 t0 = true then vv else v0) (if isV01 t1 = true then vv else v1) v0 v1) ∧
    (isV01 t = false → vsN i (if isV01 t0 = true then vv else v0) (if isV01 t1 = true then vv else v1) v0 v1 = vsN (i + 1) (if isV01 t0 = true then vv else v0) (if isV01 t1 = true then vv else v1) v0 v1) := by
  match i, hi with
  | 0, _ => exact ⟨v0, t0, rfl, d0, rfl, fun e => by rw [if_pos e]; rfl, fun e => by rw [if_neg (by rw [e]; exact Bool.false_ne_true)]; rfl⟩
  | 1, _ => exact ⟨v1, t1, rfl, d1, rfl, fun e => by rw [if_pos e]; rfl, fun e => by rw [if_neg (c := isV01 t1 = true) (by rw [e]; exact Bool.false_ne_true)]; rfl⟩
theorem datSub {R nw : List (Addr × Obj)} {vv v : Value} {tv t : Tm} (dvv : DatIn R vv tv.d) (d : DatIn R v t.d) : DatIn (nw ++ R) (if isV01 t = true then vv else v) (subT tv t).d := by
  unfold subT
  by_cases e : isV01 t = true
  · rw [if_pos e, if_pos e]; exact dvv.mono sub_right
  · rw [if_neg e, if_neg e]; exact d.mono sub_right
theorem okSub {tv t : Tm} (a : tv.ok) (b : t.ok) : (subT tv t).ok := by
  unfold subT
  by_cases e : isV01 t = true
  · rw [if_pos e]; exact a
  · rw [if_neg e]; exact b
theorem lawsub4 {a b c d e : Value} {m : Str → Option Value} : ∀ q ∈ [(Str.ofString "row", a), (Str.ofString "terms", b), (Str.ofString "value", c), (Str.ofString "cells", d)], stdL [(Str.ofString "row", a), (Str.ofString "terms", b), (Str.ofString "value", c), (Str.ofString "cells", d), (Str.ofString "place", e)] m q.1 = some q.2 := by
  intro q hq
  simp only [List.mem_cons, List.not_mem_nil, or_false] at hq
  rcases hq with rfl | rfl | rfl | rfl <;> rfl
theorem news7 {g h : Heap} {L : Addr} {n1 R : List (Addr × Obj)} {a b c d e f : Addr × Obj} (N : News g L h (n1 ++ a :: b :: c :: d :: e :: f :: R)) : News g L h (a :: b :: c :: d :: e :: f :: (n1 ++ R)) := News.sub N (by
  intro p hp
  simp only [List.mem_cons, List.mem_append] at hp ⊢
  rcases hp with hp | hp | hp | hp | hp | hp | hp | hp <;> simp [hp])
local macro_rules | `(tactic| walk_at "execs cons") => `(tactic| (k_here; (with_reducible show wpAny _ _ (execs (Stmt.If (Expr.Compare (Expr.BinOp _ _ _ _) _ _ _) _ _ _ :: _) _) _ _ _); refine stop9m ?_))
theorem seg8 {p : Program} {loose : List Str} {mean : ExcName → Option Value} {mg mb : Str → Option Value} {g h : Heap} {L : Addr} {s : Shared} {tk : Nat} {m : Str → Option Value} {Q : Flow → Shared → Prop}
   (K0 : Below callerA g [] g) (X : (hk.heap_1 w.params).In g) (T9 : Top p loose mean mg mb g) {ROW H T K S TL CL : Addr} {oR oH oT oK : Obj} {hs ss : List (Int × Int)} {R : List (Addr × Obj)} {vv v0 v1 u0 u1 : Value} {c0 c1 : Int × Int} {c k : Nat} {t0 t1 tv : Tm} {kvs : List (Int × Value)} {b : Int} {tb : Tok}
   (F : Fr g L h m) (N : News g L h ((CL, W.listOf #[u0, u1] k) :: (TL, W.listOf #[v0, v1] c) :: (ROW, oR) :: (H, oH) :: (T, oT) :: (K, oK) :: R)) (hm1 : m (Str.ofString "row") = some (.ref ROW)) (hm2 : m (Str.ofString "terms") = some (.ref TL)) (hm3 : m (Str.ofString "value") = some vv) (hm4 : m (Str.ofString "cells") = some (.ref CL)) (hm5 : m (Str.ofString "bound") = some (.int b tb))
   (lq : LQ w L ROW H T K S TL CL oR oH oT oK hs ss R u0 u1 c0 c1 v0 v1 t0 t1) (hdk : oK.IsDictOf (intKind prg w) kvs) (kv : KV 3 kvs R) (hl : 3 ≤ hs.length) (hl2 : hs.length ≤ 200) (dvv : DatIn R vv (Tm.d tv)) (okv : tv.ok) (hnv : ∀ n, tv ≠ .lf (.v n)) (hb : 1 < b)
   (hQ : ∀ h' tk' m' oH' R' ext c', Fr g L h' m' → News g L h' ((CL, W.listOf #[u0, u1] k) :: (TL, W.listOf #[if isV01 t0 = true then vv else v0, if isV01 t1 = true then vv else v1] c) :: (ROW, oR) :: (H, oH') :: (T, oT) :: (K, oK) :: R') → m' (Str.ofString "row") = some (.ref ROW) → m' (Str.ofString "terms") = some (.ref TL) → m' (Str.ofString "cells") = some (.ref CL) →
      LQ w L ROW H T K S TL CL oR oH' oT oK ((hs ++ ext).set 0 c') ss R' u0 u1 c0 c1 (if isV01 t0 = true then vv else v0) (if isV01 t1 = true then vv else v1) (subT tv t0) (subT tv t1) → TopOk (hs ++ ext) tv c' → ext.length ≤ 3 →
      Stop9 (wpAny (model prg w) (callerA.deeper (lawEnv L)) (execs (lawRest 13) (lawEnv L)) Q (fun _ _ => False) { s with heap := h', toks := tk' })) :
   wpAny (model prg w) (callerA.deeper (lawEnv L)) (execs (lawRest 12) (lawEnv L)) Q (fun _ _ => False) { s with heap := h, toks := tk } := by
  refine wr_mp ?_
  simp (disch := (k_dflt (
      unfold lawEnv prg
      conv in (execs _ _) => arg 1; whnf
      conv in (occs := *) lawDef.2 => all_goals whnf
      revert X
      k_fill
      intro X
      have hl9 : ∀ q ∈ [(Str.ofString "row", Value.ref ROW), (Str.ofString "terms", .ref TL), (Str.ofString "value", vv), (Str.ofString "cells", .ref CL), (Str.ofString "bound", .int b tb)], m q.1 = some q.2 := by
        intro q hq
        simp only [List.mem_cons, List.not_mem_nil, or_false] at hq
        rcases hq with rfl | rfl | rfl | rfl | rfl
        · exact hm1
        · exact hm2
        · exact hm3
        · exact hm4
        · exact hm5
      have F' := fr_stdL F _ hl9
      clear F
      have lp := lq.lp
      obtain ⟨c8, hc1, hd1⟩ := lp.cS
      obtain ⟨c9, hc2, hd2⟩ := lp.cK
      refine StoreIs.elim lp.st ?_
      intro SD SY TR h1 h2 h3 h4 h5 h6 h7 q1 q2 q3 q4 q5 q6 q7 u2 u3 u4 n hs1 hs2 _
      have n1 := lp.nRH
      have n2 := lp.nRT
      have n3 := lp.nRK
      have n4 := lp.nHT
      have n5 := lp.nHK
      have n6 := lp.nTK
      have f1 := lp.fR
      have f2 := lp.fH
      have e1 := lq.tR
      have e2 := lq.tH
      have e3 := lq.cR
      have e4 := lq.cH
      have e5 := lq.cTL
      have e6 := lq.tT
      have e7 := lq.tK
      have e8 := lq.fTL
      have hlk := lp.lk
      obtain ⟨w0, hw0, dw0⟩ := kv.has 0 (by decide) (by decide)
      have dw0' : DatIn R w0 (cd (0, ((0 : Nat) : Int))) := dw0
      (repeat' (first | (k_unfold; (try dsimp only)) | (k_here; (with_reducible show wpAny _ _ (call (Value.ref _) _) _ _ _); k_dflt (refine wpAny_call ?_; ( refine' code_def ?k1z9 ?k2z9 ?k3z9 ?k4z9 ?k5z9 ?kAz9 ?kFz9 ?kKz9 ?k6z9 ?k7z9 ?k8z9 ?k9z9 ?kBz9 ?_ ?c2z9 ?c3z9 ?c4z9 ?c5z9; (case kAz9 => first | exact deeper_frames _ (by assumption) | exact deeper_frames _ (deeper_frames _ (by assumption)) | exact deeper_frames _ (deeper_frames _ (deeper_frames _ (by assumption)))); (case kFz9 => exact rfl); (case kKz9 => exact rfl); (case k1z9 => k_asm); (case k2z9 => k_asm); (case k3z9 => k_asm); (case k4z9 => k_asm); (case k5z9 => k_asm); (case k6z9 => k_is); (case k7z9 => k_is); (case k8z9 => k_room); (case k9z9 => exact BindsTo.of_eq rfl); (case c5z9 => decide); (case kBz9 => exact locs rfl); (case c2z9 => exact rfl); (case c3z9 => exact rfl); (case c4z9 => exact rfl); k_whole; intro _ _ _ _ _ _ _ _ _; (with_reducible refine wp_never ?_); (try dsimp only); (try k_fold)))) | (k_here; (with_reducible show wpAny _ _ (setItem (Value.ref _) (Value.int _ _) _) _ _ _); k_dflt (refine' set_led ?Fz9 ?Nz9 ?Uz9 ?az9 ?bz9 ?zz9 ?_; (case Fz9 => k_asm); (case Nz9 => k_asm); (case Uz9 => k_upd); (case az9 => ksa_idx); (case bz9 => ksa_idx); (case zz9 => ksa_idx); k_whole); intro _ _ _; (try k_sweep)) | (k_here; (with_reducible show wpAny _ _ (call (Value.builtin "list.append") [Value.ref _, _]) _ _ _); k_dflt (refine' append_led ?Fz9 ?Nz9 ?Uz9 ?zz9 ?_; (case Fz9 => k_asm); (case Nz9 => k_asm); (case Uz9 => k_upd); (case zz9 => ksa_idx); k_whole); intro _ _ _; (try k_sweep)) | (k_here; (with_reducible show wpAny _ _ (call (Value.builtin "len") [Value.ref _]) _ _ _); k_dflt (refine' len_led ?Nz9 ?mz9 ?zz9 ?_; (case Nz9 => k_asm); (case mz9 => k_mem); (case zz9 => ksa_idx); k_whole); intro _ _) | (k_here; (with_reducible show wpAny _ _ (subscriptTail _ _ (Value.ref _) (Value.int _ _)) _ _ _); k_dflt (refine' item_led ?Nz9 ?mz9 ?az9 ?bz9 ?xz9 ?_; (case Nz9 => k_asm); (case mz9 => k_mem); (case az9 => omega); (case bz9 => omega); (case xz9 => assumption))) | (k_end; kc_close) | (k_end; wrow_close) | walk1 | (dsimp only; walk1) | (leave1; (try dsimp only)) | fail "no step"))
      unfold Stop9
      rename (LP w L ROW H T K S oR _ oT oK (List.set _ 0 _) ss _) => lpz
      rename TopOk _ tv _ => topz
      rename List (Addr × Obj) => nw
      rename List (Int × Int) => ext
      rename Int × Int => cv
      rename Obj => oH9
      rename (ext.length ≤ 3) => hxl
      rename_i I a1 a2 a3 a4 a5 a6 a7 a8
      have b1 : ∀ p ∈ nw ++ R, p.1 ≠ TL := fun p hp => (List.mem_append.mp hp).elim (fun q => Nat.ne_of_gt ((by assumption : ∀ x : Addr × Obj, x ∈ nw → @LT.lt Nat _ TL x.1) p q)) (lq.fTL p)
      have b2 : ∀ p ∈ nw ++ R, p.1 ≠ CL := fun p hp => (List.mem_append.mp hp).elim (fun q => Nat.ne_of_gt ((by assumption : ∀ x : Addr × Obj, x ∈ nw → @LT.lt Nat _ CL x.1) p q)) (lq.fCL p)
      have b3 : ∀ p ∈ nw ++ R, p.1 ≠ I := fun p hp => (List.mem_append.mp hp).elim (fun q => Nat.ne_of_lt (ktn_ltOf a1 p q)) (fun q => Nat.ne_of_lt (ktn_ltOf a8 p q))
      have dvv' : DatIn (nw ++ R) vv tv.d := dvv.mono sub_right
      refine range_led2 (w := w) 2 (fun i m' nx => nx = nw ++ (CL, W.listOf #[u0, u1] k) :: (TL, W.listOf (List.toArray (vsN i (if isV01 t0 = true then vv else v0) (if isV01 t1 = true then vv else v1) v0 v1)) c) :: (ROW, oR) :: (H, oH9) :: (T, oT) :: (K, oK) :: R ∧ ∀ q ∈ [(Str.ofString "row", Value.ref ROW), (Str.ofString "terms", .ref TL), (Str.ofString "value", vv), (Str.ofString "cells", .ref CL)], m' q.1 = some q.2) ?_ ?_ ?_ 2 0 rfl _ _ ⟨rfl, fun q hq => ?_⟩
      · rintro i m' nx ⟨rfl, _⟩
        exact all_app (fun p hp => Nat.ne_of_lt (ktn_ltOf a1 p hp)) (all_cons (Nat.ne_of_lt a2) (all_cons (Nat.ne_of_lt a3) (all_cons (Nat.ne_of_lt a4) (all_cons (Nat.ne_of_lt a5) (all_cons (Nat.ne_of_lt a6) (all_cons (Nat.ne_of_lt a7) fun p hp => Nat.ne_of_lt (ktn_ltOf a8 p hp)))))))
      · rintro h2 tk2 m2 nx ⟨rfl, hr⟩ F2 N2
        have hm8 : ∀ q ∈ [(Str.ofString "row", Value.ref ROW), (Str.ofString "terms", .ref TL), (Str.ofString "cells", .ref CL)], m2 q.1 = some q.2 := by
          intro q hq
          simp only [List.mem_cons, List.not_mem_nil, or_false] at hq
          rcases hq with rfl | rfl | rfl
          · exact hr _ (.head _)
          · exact hr _ (.tail _ (.head _))
          · exact hr _ (.tail _ (.tail _ (.tail _ (.head _))))
        (repeat' (first | (k_unfold; (try dsimp only)) | (k_here; (with_reducible show wpAny _ _ (call (Value.ref _) _) _ _ _); k_dflt (refine wpAny_call ?_; ( refine' code_def ?k1z9 ?k2z9 ?k3z9 ?k4z9 ?k5z9 ?kAz9 ?kFz9 ?kKz9 ?k6z9 ?k7z9 ?k8z9 ?k9z9 ?kBz9 ?_ ?c2z9 ?c3z9 ?c4z9 ?c5z9; (case kAz9 => first | exact deeper_frames _ (by assumption) | exact deeper_frames _ (deeper_frames _ (by assumption)) | exact deeper_frames _ (deeper_frames _ (deeper_frames _ (by assumption)))); (case kFz9 => exact rfl); (case kKz9 => exact rfl); (case k1z9 => k_asm); (case k2z9 => k_asm); (case k3z9 => k_asm); (case k4z9 => k_asm); (case k5z9 => k_asm); (case k6z9 => k_is); (case k7z9 => k_is); (case k8z9 => k_room); (case k9z9 => exact BindsTo.of_eq rfl); (case c5z9 => decide); (case kBz9 => exact locs rfl); (case c2z9 => exact rfl); (case c3z9 => exact rfl); (case c4z9 => exact rfl); k_whole; intro _ _ _ _ _ _ _ _ _; (with_reducible refine wp_never ?_); (try dsimp only); (try k_fold)))) | (k_here; (with_reducible show wpAny _ _ (setItem (Value.ref _) (Value.int _ _) _) _ _ _); k_dflt (refine' set_led ?Fz9 ?Nz9 ?Uz9 ?az9 ?bz9 ?zz9 ?_; (case Fz9 => k_asm); (case Nz9 => k_asm); (case Uz9 => k_upd); (case az9 => ksa_idx); (case bz9 => ksa_idx); (case zz9 => ksa_idx); k_whole); intro _ _ _; (try k_sweep)) | (k_here; (with_reducible show wpAny _ _ (call (Value.builtin "list.append") [Value.ref _, _]) _ _ _); k_dflt (refine' append_led ?Fz9 ?Nz9 ?Uz9 ?zz9 ?_; (case Fz9 => k_asm); (case Nz9 => k_asm); (case Uz9 => k_upd); (case zz9 => ksa_idx); k_whole); intro _ _ _; (try k_sweep)) | (k_here; (with_reducible show wpAny _ _ (call (Value.builtin "len") [Value.ref _]) _ _ _); k_dflt (refine' len_led ?Nz9 ?mz9 ?zz9 ?_; (case Nz9 => k_asm); (case mz9 => k_mem); (case zz9 => ksa_idx); k_whole); intro _ _) | (k_here; (with_reducible show wpAny _ _ (subscriptTail _ _ (Value.ref _) (Value.int _ _)) _ _ _); k_dflt (refine' item_led ?Nz9 ?mz9 ?az9 ?bz9 ?xz9 ?_; (case Nz9 => k_asm); (case mz9 => k_mem); (case az9 => omega); (case bz9 => omega); (case xz9 => assumption))) | (k_end; kc_close) | (k_end; wrow_close) | walk1 | (dsimp only; walk1) | (leave1; (try dsimp only)) | fail "no step"))
        unfold Stop9
        exact hQ _ _ _ _ _ _ _ F2 (news7 N2) (hr _ (.head _)) (hr _ (.tail _ (.head _))) (hr _ (.tail _ (.tail _ (.tail _ (.head _))))) ⟨lpz, b1, b2, lq.tR, lq.tH, lq.tT, lq.tK, lq.cR, lq.cH, lq.cT, lq.cK, lq.cTL, lq.du0.mono sub_right, lq.du1.mono sub_right, datSub dvv lq.dv0, datSub dvv lq.dv1, okSub okv lq.ok0, okSub okv lq.ok1⟩ topz hxl
      · rintro i m2 nx h2 tk2 t2 io nio ⟨rfl, hr⟩ hi F2 N2
        rename (Fr g L _ (stdL _ _)) => F0
        clear F0
        have hm8 : ∀ q ∈ [(Str.ofString "row", Value.ref ROW), (Str.ofString "terms", .ref TL), (Str.ofString "value", vv), (Str.ofString "cells", .ref CL), (Str.ofString "place", Value.int (0 + (i : Int)) t2)], (fun y => if y = Str.ofString "place" then some (Value.int (0 + (i : Int)) t2) else m2 y) q.1 = some q.2 := by
          intro q hq
          simp only [List.mem_cons, List.not_mem_nil, or_false] at hq
          rcases hq with rfl | rfl | rfl | rfl | rfl
          · exact hr _ (.head _)
          · exact hr _ (.tail _ (.head _))
          · exact hr _ (.tail _ (.tail _ (.head _)))
          · exact hr _ (.tail _ (.tail _ (.tail _ (.head _))))
          · rfl
        have F5 := fr_stdL F2 _ hm8
        clear F2
        rw [Int.zero_add] at F5
        obtain ⟨x, t, hx, dx, hx2, st, sf⟩ := vsN_step (vv := vv) lq.dv0 lq.dv1 i hi
        revert N2 hx hx2 st sf
        generalize vsN i (if isV01 t0 = true then vv else v0) (if isV01 t1 = true then vv else v1) v0 v1 = vs
        intro N2 hx hx2 st sf
        by_cases hc : isV01 t = true
        · (repeat' (first | (k_unfold; (try dsimp only)) | (k_here; (with_reducible show wpAny _ _ (call (Value.ref _) _) _ _ _); k_dflt (refine wpAny_call ?_; ( refine' code_def ?k1z9 ?k2z9 ?k3z9 ?k4z9 ?k5z9 ?kAz9 ?kFz9 ?kKz9 ?k6z9 ?k7z9 ?k8z9 ?k9z9 ?kBz9 ?_ ?c2z9 ?c3z9 ?c4z9 ?c5z9; (case kAz9 => first | exact deeper_frames _ (by assumption) | exact deeper_frames _ (deeper_frames _ (by assumption)) | exact deeper_frames _ (deeper_frames _ (deeper_frames _ (by assumption)))); (case kFz9 => exact rfl); (case kKz9 => exact rfl); (case k1z9 => k_asm); (case k2z9 => k_asm); (case k3z9 => k_asm); (case k4z9 => k_asm); (case k5z9 => k_asm); (case k6z9 => k_is); (case k7z9 => k_is); (case k8z9 => k_room); (case k9z9 => exact BindsTo.of_eq rfl); (case c5z9 => decide); (case kBz9 => exact locs rfl); (case c2z9 => exact rfl); (case c3z9 => exact rfl); (case c4z9 => exact rfl); k_whole; intro _ _ _ _ _ _ _ _ _; (with_reducible refine wp_never ?_); (try dsimp only); (try k_fold)))) | (k_here; (with_reducible show wpAny _ _ (setItem (Value.ref _) (Value.int _ _) _) _ _ _); k_dflt (refine' set_led ?Fz9 ?Nz9 ?Uz9 ?az9 ?bz9 ?zz9 ?_; (case Fz9 => k_asm); (case Nz9 => k_asm); (case Uz9 => k_upd); (case az9 => ksa_idx); (case bz9 => ksa_idx); (case zz9 => ksa_idx); k_whole); intro _ _ _; (try k_sweep)) | (k_here; (with_reducible show wpAny _ _ (call (Value.builtin "list.append") [Value.ref _, _]) _ _ _); k_dflt (refine' append_led ?Fz9 ?Nz9 ?Uz9 ?zz9 ?_; (case Fz9 => k_asm); (case Nz9 => k_asm); (case Uz9 => k_upd); (case zz9 => ksa_idx); k_whole); intro _ _ _; (try k_sweep)) | (k_here; (with_reducible show wpAny _ _ (call (Value.builtin "len") [Value.ref _]) _ _ _); k_dflt (refine' len_led ?Nz9 ?mz9 ?zz9 ?_; (case Nz9 => k_asm); (case mz9 => k_mem); (case zz9 => ksa_idx); k_whole); intro _ _) | (k_here; (with_reducible show wpAny _ _ (subscriptTail _ _ (Value.ref _) (Value.int _ _)) _ _ _); k_dflt (refine' item_led ?Nz9 ?mz9 ?az9 ?bz9 ?xz9 ?_; (case Nz9 => k_asm); (case mz9 => k_mem); (case az9 => omega); (case bz9 => omega); (case xz9 => assumption))) | (k_end; kc_close) | (k_end; wrow_close) | walk1 | (dsimp only; walk1) | (leave1; (try dsimp only)) | fail "no step"))
          unfold Stop9
          (rename Fr _ _ _ _ => kF); (rename News _ _ _ _ => kN)
          rw [st hc] at kN
          exact ⟨_, _, _, _, rfl, kF, kN, rfl, lawsub4⟩
        · replace hc := Bool.eq_false_iff.mpr hc
          (repeat' (first | (k_unfold; (try dsimp only)) | (k_here; (with_reducible show wpAny _ _ (call (Value.ref _) _) _ _ _); k_dflt (refine wpAny_call ?_; ( refine' code_def ?k1z9 ?k2z9 ?k3z9 ?k4z9 ?k5z9 ?kAz9 ?kFz9 ?kKz9 ?k6z9 ?k7z9 ?k8z9 ?k9z9 ?kBz9 ?_ ?c2z9 ?c3z9 ?c4z9 ?c5z9; (case kAz9 => first | exact deeper_frames _ (by assumption) | exact deeper_frames _ (deeper_frames _ (by assumption)) | exact deeper_frames _ (deeper_frames _ (deeper_frames _ (by assumption)))); (case kFz9 => exact rfl); (case kKz9 => exact rfl); (case k1z9 => k_asm); (case k2z9 => k_asm); (case k3z9 => k_asm); (case k4z9 => k_asm); (case k5z9 => k_asm); (case k6z9 => k_is); (case k7z9 => k_is); (case k8z9 => k_room); (case k9z9 => exact BindsTo.of_eq rfl); (case c5z9 => decide); (case kBz9 => exact locs rfl); (case c2z9 => exact rfl); (case c3z9 => exact rfl); (case c4z9 => exact rfl); k_whole; intro _ _ _ _ _ _ _ _ _; (with_reducible refine wp_never ?_); (try dsimp only); (try k_fold)))) | (k_here; (with_reducible show wpAny _ _ (setItem (Value.ref _) (Value.int _ _) _) _ _ _); k_dflt (refine' set_led ?Fz9 ?Nz9 ?Uz9 ?az9 ?bz9 ?zz9 ?_; (case Fz9 => k_asm); (case Nz9 => k_asm); (case Uz9 => k_upd); (case az9 => ksa_idx); (case bz9 => ksa_idx); (case zz9 => ksa_idx); k_whole); intro _ _ _; (try k_sweep)) | (k_here; (with_reducible show wpAny _ _ (call (Value.builtin "list.append") [Value.ref _, _]) _ _ _); k_dflt (refine' append_led ?Fz9 ?Nz9 ?Uz9 ?zz9 ?_; (case Fz9 => k_asm); (case Nz9 => k_asm); (case Uz9 => k_upd); (case zz9 => ksa_idx); k_whole); intro _ _ _; (try k_sweep)) | (k_here; (with_reducible show wpAny _ _ (call (Value.builtin "len") [Value.ref _]) _ _ _); k_dflt (refine' len_led ?Nz9 ?mz9 ?zz9 ?_; (case Nz9 => k_asm); (case mz9 => k_mem); (case zz9 => ksa_idx); k_whole); intro _ _) | (k_here; (with_reducible show wpAny _ _ (subscriptTail _ _ (Value.ref _) (Value.int _ _)) _ _ _); k_dflt (refine' item_led ?Nz9 ?mz9 ?az9 ?bz9 ?xz9 ?_; (case Nz9 => k_asm); (case mz9 => k_mem); (case az9 => omega); (case bz9 => omega); (case xz9 => assumption))) | (k_end; kc_close) | (k_end; wrow_close) | walk1 | (dsimp only; walk1) | (leave1; (try dsimp only)) | fail "no step"))
          unfold Stop9
          (rename Fr _ _ _ _ => kF); (rename News _ _ _ _ => kN)
          rw [sf hc] at kN
          exact ⟨_, _, _, _, rfl, kF, kN, rfl, lawsub4⟩
      · simp only [List.mem_cons, List.not_mem_nil, or_false] at hq
        rcases hq with rfl | rfl | rfl | rfl <;> rfl))) only [↓wr_true]
end
section
theorem walk_off_P33 : True := by
  w_top off
  trivial
theorem stop9a {p : Prop} (h : Stop9 p) : p := h
theorem LQ.re {L ROW H T K S TL CL : Addr} {oR oH oT oK oR' oH' oT' oK' : Obj} {hs ss hs' ss' : List (Int × Int)} {R : List (Addr × Obj)} {u0 u1 v0 v1 : Value} {c0 c1 : Int × Int} {t0 t1 : Tm} (lq : LQ w L ROW H T K S TL CL oR oH oT oK hs ss R u0 u1 c0 c1 v0 v1 t0 t1) (lp : LP w L ROW H T K S oR' oH' oT' oK' hs' ss' R) : LQ w L ROW H T K S TL CL oR' oH' oT' oK' hs' ss' R u0 u1 c0 c1 v0 v1 t0 t1 :=
  ⟨lp, lq.fTL, lq.fCL, lq.tR, lq.tH, lq.tT, lq.tK, lq.cR, lq.cH, lq.cT, lq.cK, lq.cTL, lq.du0, lq.du1, lq.dv0, lq.dv1, lq.ok0, lq.ok1⟩
section
theorem seg8z {p : Program} {loose : List Str} {mean : ExcName → Option Value} {mg mb : Str → Option Value} {g h : Heap} {L : Addr} {s : Shared} {tk : Nat} {m : Str → Option Value} {Q : Flow → Shared → Prop}
   (K0 : Below callerA g [] g) (X : (hk.heap_1 w.params).In g) (T9 : Top p loose mean mg mb g) {ROW H T K S TL CL : Addr} {oR oH oT oK : Obj} {hs ss : List (Int × Int)} {R : List (Addr × Obj)} {vv v0 v1 u0 u1 : Value} {c0 c1 : Int × Int} {c k : Nat} {t0 t1 : Tm} {b : Int} {tb : Tok}
   (F : Fr g L h m) (N : News g L h ((CL, W.listOf #[u0, u1] k) :: (TL, W.listOf #[v0, v1] c) :: (ROW, oR) :: (H, oH) :: (T, oT) :: (K, oK) :: R)) (hm1 : m (Str.ofString "row") = some (.ref ROW)) (hm2 : m (Str.ofString "terms") = some (.ref TL)) (hm4 : m (Str.ofString "cells") = some (.ref CL)) (hm5 : m (Str.ofString "bound") = some (.int b tb)) (hb : b ≤ 1)
   (hQ : ∀ h' tk' m', Fr g L h' m' → News g L h' ((CL, W.listOf #[u0, u1] k) :: (TL, W.listOf #[v0, v1] c) :: (ROW, oR) :: (H, oH) :: (T, oT) :: (K, oK) :: R) → m' (Str.ofString "row") = some (.ref ROW) → m' (Str.ofString "terms") = some (.ref TL) → m' (Str.ofString "cells") = some (.ref CL) →
      Stop9 (wpAny (model prg w) (callerA.deeper (lawEnv L)) (execs (lawRest 13) (lawEnv L)) Q (fun _ _ => False) { s with heap := h', toks := tk' })) :
   wpAny (model prg w) (callerA.deeper (lawEnv L)) (execs (lawRest 12) (lawEnv L)) Q (fun _ _ => False) { s with heap := h, toks := tk } := by
  refine wr_mp ?_
  simp (disch := (k_dflt (
      unfold lawEnv prg
      conv in (execs _ _) => arg 1; whnf
      conv in (occs := *) lawDef.2 => all_goals whnf
      revert X
      k_fill
      intro X
      have hl9 : ∀ q ∈ [(Str.ofString "row", (.ref ROW : Value)), (Str.ofString "terms", (.ref TL : Value)), (Str.ofString "cells", (.ref CL : Value)), (Str.ofString "bound", (.int b tb : Value))], m q.1 = some q.2 := by
        intro q hq
        simp only [List.mem_cons, List.not_mem_nil, or_false] at hq
        rcases hq with rfl | rfl | rfl | rfl
        · exact hm1
        · exact hm2
        · exact hm4
        · exact hm5
      have F' := fr_stdL F _ hl9
      clear F
      (repeat' (first | (k_unfold; (try dsimp only)) | (k_here; (with_reducible show wpAny _ _ (execs (Stmt.If (Expr.Compare (Expr.BinOp _ _ _ _) _ _ _) _ _ _ :: _) _) _ _ _); refine stop9a ?_) | (k_here; (with_reducible show wpAny _ _ (call (Value.ref 434) _) _ _ _); k_dflt (refine' Spec.use (lp_next ?lp ?U) ?kB ?kF ?kX ?kN ?kT ?kA ?kf ?kk ?kh ?kd ?ku ?_; (case lp => assumption); ktn_step; (case U => (intro o9; k_upd)); intro v9 post9 h9 tk9 F9 N9 hp9; obtain ⟨o9, e9, lp9, k9, tt9, ev9⟩ := hp9; subst e9; subst ev9; (try dsimp only at N9); (try dsimp only); (try k_fold))) | (k_here; (with_reducible show wpAny _ _ (call (Value.ref 441) _) _ _ _); k_dflt (refine' Spec.use (lp_term ?lp _ ?U ?hin) ?kB ?kF ?kX ?kN ?kT ?kA ?kf ?kk ?kh ?kd ?ku ?_; (case lp => assumption); ktn_step; (case U => (intro o9; k_upd)); (case hin => kqd_sub); intro v9 post9 h9 tk9 F9 N9 hp9; obtain ⟨o9, new9, e9, fr9, lp9, t9, ok9, hd9⟩ := hp9; subst e9; (try simp only [List.forall_mem_cons, List.forall_mem_append, List.forall_mem_nil, imp_and, forall_and, and_true, implies_true] at fr9); (repeat (rename _ ∧ _ => hc9; obtain ⟨_, _⟩ := hc9)); (try dsimp only); (try k_fold))) | (k_here; (with_reducible show wpAny _ _ (call (Value.ref _) _) _ _ _); k_dflt (refine wpAny_call ?_; ( refine' code_def ?k1z9 ?k2z9 ?k3z9 ?k4z9 ?k5z9 ?kAz9 ?kFz9 ?kKz9 ?k6z9 ?k7z9 ?k8z9 ?k9z9 ?kBz9 ?_ ?c2z9 ?c3z9 ?c4z9 ?c5z9; (case kAz9 => first | exact deeper_frames _ (by assumption) | exact deeper_frames _ (deeper_frames _ (by assumption)) | exact deeper_frames _ (deeper_frames _ (deeper_frames _ (by assumption)))); (case kFz9 => exact rfl); (case kKz9 => exact rfl); (case k1z9 => k_asm); (case k2z9 => k_asm); (case k3z9 => k_asm); (case k4z9 => k_asm); (case k5z9 => k_asm); (case k6z9 => k_is); (case k7z9 => k_is); (case k8z9 => k_room); (case k9z9 => exact BindsTo.of_eq rfl); (case c5z9 => decide); (case kBz9 => exact locs rfl); (case c2z9 => exact rfl); (case c3z9 => exact rfl); (case c4z9 => exact rfl); k_whole; intro _ _ _ _ _ _ _ _ _; (with_reducible refine wp_never ?_); (try dsimp only); (try k_fold)))) | (k_here; (with_reducible show wpAny _ _ (setItem (Value.ref _) (Value.int _ _) _) _ _ _); k_dflt (refine' set_led ?Fz9 ?Nz9 ?Uz9 ?az9 ?bz9 ?zz9 ?_; (case Fz9 => k_asm); (case Nz9 => k_asm); (case Uz9 => k_upd); (case az9 => ksa_idx); (case bz9 => ksa_idx); (case zz9 => ksa_idx); k_whole); intro _ _ _; (try k_sweep)) | (k_here; (with_reducible show wpAny _ _ (call (Value.builtin "list.append") [Value.ref _, _]) _ _ _); k_dflt (refine' append_led ?Fz9 ?Nz9 ?Uz9 ?zz9 ?_; (case Fz9 => k_asm); (case Nz9 => k_asm); (case Uz9 => k_upd); (case zz9 => ksa_idx); k_whole); intro _ _ _; (try k_sweep)) | (k_here; (with_reducible show wpAny _ _ (call (Value.builtin "len") [Value.ref _]) _ _ _); k_dflt (refine' len_led ?Nz9 ?mz9 ?zz9 ?_; (case Nz9 => k_asm); (case mz9 => k_mem); (case zz9 => ksa_idx); k_whole); intro _ _) | (k_here; (with_reducible show wpAny _ _ (subscriptTail _ _ (Value.ref _) (Value.int _ _)) _ _ _); k_dflt (refine' item_led ?Nz9 ?mz9 ?az9 ?bz9 ?xz9 ?_; (case Nz9 => k_asm); (case mz9 => k_mem); (case az9 => omega); (case bz9 => omega); (case xz9 => assumption))) | (k_end; kc_close) | (k_end; wrow_close) | walk1 | (dsimp only; walk1) | (leave1; (try dsimp only)) | fail "no step"))
      unfold Stop9
      (rename Fr _ _ _ _ => kF); (rename News _ _ _ _ => kN)
      exact hQ _ _ _ kF kN rfl rfl rfl))) only [↓wr_true]
end
section
theorem seg9 {p : Program} {loose : List Str} {mean : ExcName → Option Value} {mg mb : Str → Option Value} {g h : Heap} {L : Addr} {s : Shared} {tk : Nat} {m : Str → Option Value} {Q : Flow → Shared → Prop}
   (K0 : Below callerA g [] g) (X : (hk.heap_1 w.params).In g) (T9 : Top p loose mean mg mb g) {ROW H T K S TL CL : Addr} {oR oH oT oK : Obj} {hs ss : List (Int × Int)} {R : List (Addr × Obj)} {vv v0 v1 u0 u1 : Value} {c0 c1 : Int × Int} {c k : Nat} {t0 t1 : Tm}
   (F : Fr g L h m) (N : News g L h ((CL, W.listOf #[u0, u1] k) :: (TL, W.listOf #[v0, v1] c) :: (ROW, oR) :: (H, oH) :: (T, oT) :: (K, oK) :: R)) (hm1 : m (Str.ofString "row") = some (.ref ROW)) (hm2 : m (Str.ofString "terms") = some (.ref TL)) (hm4 : m (Str.ofString "cells") = some (.ref CL))
   (lq : LQ w L ROW H T K S TL CL oR oH oT oK hs [(1, 0), (1, 0)] R u0 u1 c0 c1 v0 v1 t0 t1)
   (hQ : ∀ h' tk' m' oR' oT' ss', Fr g L h' m' → News g L h' ((CL, W.listOf #[u0, u1] k) :: (TL, W.listOf #[v0, v1] c) :: (ROW, oR') :: (H, oH) :: (T, oT') :: (K, oK) :: R) → m' (Str.ofString "row") = some (.ref ROW) → m' (Str.ofString "terms") = some (.ref TL) → m' (Str.ofString "cells") = some (.ref CL) →
      LQ w L ROW H T K S TL CL oR' oH oT' oK hs ss' R u0 u1 c0 c1 v0 v1 t0 t1 → (ss' = [c0, (1, 0)] ∨ ss' = [(1, 0), c0]) →
      Stop9 (wpAny (model prg w) (callerA.deeper (lawEnv L)) (execs (lawRest 14) (lawEnv L)) Q (fun _ _ => False) { s with heap := h', toks := tk' })) :
   wpAny (model prg w) (callerA.deeper (lawEnv L)) (execs (lawRest 13) (lawEnv L)) Q (fun _ _ => False) { s with heap := h, toks := tk } := by
  unfold lawEnv prg
  conv in (execs _ _) => arg 1; whnf
  conv in (occs := *) lawDef.2 => all_goals whnf
  revert X
  k_fill
  intro X
  have hl9 : ∀ q ∈ [(Str.ofString "row", (.ref ROW : Value)), (Str.ofString "terms", (.ref TL : Value)), (Str.ofString "cells", (.ref CL : Value))], m q.1 = some q.2 := by
    intro q hq
    simp only [List.mem_cons, List.not_mem_nil, or_false] at hq
    rcases hq with rfl | rfl | rfl
    · exact hm1
    · exact hm2
    · exact hm4
  have F' := fr_stdL F _ hl9
  clear F
  have lp := lq.lp
  obtain ⟨c8, hc1, hd1⟩ := lp.cS
  obtain ⟨c9, hc2, hd2⟩ := lp.cK
  refine StoreIs.elim lp.st ?_
  intro SD SY TR h1 h2 h3 h4 h5 h6 h7 q1 q2 q3 q4 q5 q6 q7 u2 u3 u4 n hs1 hs2 _
  have n1 := lp.nRH
  have n2 := lp.nRT
  have n3 := lp.nRK
  have n4 := lp.nHT
  have n5 := lp.nHK
  have n6 := lp.nTK
  have f1 := lp.fR
  have f2 := lp.fH
  have f3 := lp.fT
  have e1 := lq.tR
  have e2 := lq.tH
  have e3 := lq.cR
  have e4 := lq.cH
  have e5 := lq.cTL
  have e6 := lq.tT
  have e7 := lq.tK
  have e8 := lq.fTL
  have e9 := lq.cT
  have hlk := lp.lk
  obtain ⟨vs, k9, rfl, dT, lT⟩ := id lp.ct.out
  cases dT with
  | cons g0 r => cases r with
    | cons g1 r => cases r with
      | nil =>
        have gg := lq.du0
        (repeat' (first | (k_unfold; (try dsimp only)) | (k_here; (with_reducible show wpAny _ _ (execs (Stmt.Assign [Expr.Name (Str.ofString "heap") _] _ _ :: _) _) _ _ _); refine stop9a ?_) | (k_here; (with_reducible show wpAny _ _ (call (Value.ref 434) _) _ _ _); k_dflt (refine' Spec.use (lp_next ?lp ?U) ?kB ?kF ?kX ?kN ?kT ?kA ?kf ?kk ?kh ?kd ?ku ?_; (case lp => assumption); ktn_step; (case U => (intro o9; k_upd)); intro v9 post9 h9 tk9 F9 N9 hp9; obtain ⟨o9, e9, lp9, k9, tt9, ev9⟩ := hp9; subst e9; subst ev9; (try dsimp only at N9); (try dsimp only); (try k_fold))) | (k_here; (with_reducible show wpAny _ _ (call (Value.ref 441) _) _ _ _); k_dflt (refine' Spec.use (lp_term ?lp _ ?U ?hin) ?kB ?kF ?kX ?kN ?kT ?kA ?kf ?kk ?kh ?kd ?ku ?_; (case lp => assumption); ktn_step; (case U => (intro o9; k_upd)); (case hin => kqd_sub); intro v9 post9 h9 tk9 F9 N9 hp9; obtain ⟨o9, new9, e9, fr9, lp9, t9, ok9, hd9⟩ := hp9; subst e9; (try simp only [List.forall_mem_cons, List.forall_mem_append, List.forall_mem_nil, imp_and, forall_and, and_true, implies_true] at fr9); (repeat (rename _ ∧ _ => hc9; obtain ⟨_, _⟩ := hc9)); (try dsimp only); (try k_fold))) | (k_here; (with_reducible show wpAny _ _ (call (Value.ref _) _) _ _ _); k_dflt (refine wpAny_call ?_; ( refine' code_def ?k1z9 ?k2z9 ?k3z9 ?k4z9 ?k5z9 ?kAz9 ?kFz9 ?kKz9 ?k6z9 ?k7z9 ?k8z9 ?k9z9 ?kBz9 ?_ ?c2z9 ?c3z9 ?c4z9 ?c5z9; (case kAz9 => first | exact deeper_frames _ (by assumption) | exact deeper_frames _ (deeper_frames _ (by assumption)) | exact deeper_frames _ (deeper_frames _ (deeper_frames _ (by assumption)))); (case kFz9 => exact rfl); (case kKz9 => exact rfl); (case k1z9 => k_asm); (case k2z9 => k_asm); (case k3z9 => k_asm); (case k4z9 => k_asm); (case k5z9 => k_asm); (case k6z9 => k_is); (case k7z9 => k_is); (case k8z9 => k_room); (case k9z9 => exact BindsTo.of_eq rfl); (case c5z9 => decide); (case kBz9 => exact locs rfl); (case c2z9 => exact rfl); (case c3z9 => exact rfl); (case c4z9 => exact rfl); k_whole; intro _ _ _ _ _ _ _ _ _; (with_reducible refine wp_never ?_); (try dsimp only); (try k_fold)))) | (k_here; (with_reducible show wpAny _ _ (setItem (Value.ref _) (Value.int _ _) _) _ _ _); k_dflt (refine' set_led ?Fz9 ?Nz9 ?Uz9 ?az9 ?bz9 ?zz9 ?_; (case Fz9 => k_asm); (case Nz9 => k_asm); (case Uz9 => k_upd); (case az9 => ksa_idx); (case bz9 => ksa_idx); (case zz9 => ksa_idx); k_whole); intro _ _ _; (try k_sweep)) | (k_here; (with_reducible show wpAny _ _ (call (Value.builtin "list.append") [Value.ref _, _]) _ _ _); k_dflt (refine' append_led ?Fz9 ?Nz9 ?Uz9 ?zz9 ?_; (case Fz9 => k_asm); (case Nz9 => k_asm); (case Uz9 => k_upd); (case zz9 => ksa_idx); k_whole); intro _ _ _; (try k_sweep)) | (k_here; (with_reducible show wpAny _ _ (call (Value.builtin "len") [Value.ref _]) _ _ _); k_dflt (refine' len_led ?Nz9 ?mz9 ?zz9 ?_; (case Nz9 => k_asm); (case mz9 => k_mem); (case zz9 => ksa_idx); k_whole); intro _ _) | (k_here; (with_reducible show wpAny _ _ (subscriptTail _ _ (Value.ref _) (Value.int _ _)) _ _ _); k_dflt (refine' item_led ?Nz9 ?mz9 ?az9 ?bz9 ?xz9 ?_; (case Nz9 => k_asm); (case mz9 => k_mem); (case az9 => omega); (case bz9 => omega); (case xz9 => assumption))) | (k_end; kc_close) | (k_end; wrow_close) | walk1 | (dsimp only; walk1) | (leave1; (try dsimp only)) | fail "no step"))
        · unfold Stop9
          (rename Fr _ _ _ _ => kF); (rename News _ _ _ _ => kN)
          rename (LP w L ROW H T K S _ oH _ oK hs _ R) => lpz
          exact hQ _ _ _ _ _ _ kF (News.sub kN fun p hp => .tail _ hp) rfl rfl rfl (lq.re (lpz.stack ⟨[_, _], _, rfl, (show DatAll R [_, _] ([c0, (1, 0)].map cd) from .cons gg (.cons g1 .nil)), lT⟩)) (.inl rfl)
        · unfold Stop9
          (rename Fr _ _ _ _ => kF); (rename News _ _ _ _ => kN)
          rename (LP w L ROW H T K S _ oH _ oK hs _ R) => lpz
          exact hQ _ _ _ _ _ _ kF kN rfl rfl rfl (lq.re (lpz.stack ⟨[_, _], _, rfl, (show DatAll R [_, _] ([(1, 0), c0].map cd) from .cons g0 (.cons gg .nil)), lT⟩)) (.inr rfl)
end
end
section
theorem walk_off_P34 : True := by
  w_top off
  trivial
local macro_rules | `(tactic| walk_at "CompRest") => `(tactic| (k_dflt (refine LCg.CompRest.succ ?_); intro v9 I9 oI9 C9 oC9 D9 m9 h9 tk9 E9 hP9 hC9 hx9 F9 N9 off9 ne9; simp at hP9; subst hP9; replace off9 := LCg.Off3.mem off9; (try simp only [List.forall_mem_cons, List.forall_mem_append, List.forall_mem_nil, imp_and, forall_and, and_true, implies_true] at off9); (repeat (rename _ ∧ _ => hc9; obtain ⟨_, _⟩ := hc9)); (try dsimp only)))
local macro_rules | `(tactic| walk_at "CompEnd") => `(tactic| (k_dflt (refine' compEnd_app ?F ?N ?h1 ?h2 ?h3 ?hS ?r; (case F => k_asm); (case N => k_asm); (case h1 => (repeat' (first | k_all | (refine all_cons ?_ ?_) | (refine all_app ?_ ?_) | exact all_nil | k_ne))); (case h2 => (repeat' (first | k_all | (refine all_cons ?_ ?_) | (refine all_app ?_ ?_) | exact all_nil | k_ne))); (case h3 => (repeat' (first | k_all | (refine all_cons ?_ ?_) | (refine all_app ?_ ?_) | exact all_nil | k_ne))); (case hS => exact Or.inr ⟨_, (by k_mem), rfl, _, rfl⟩)); (try dsimp only)))
theorem stop9b {p : Prop} (h : Stop9 p) : p := h
/-- what is read from here on: nothing is turned any more -/
structure LZ (w : World) (L : Addr) (Z R : List (Addr × Obj)) (S H T TL CL : Addr) (oH oT : Obj) (hs ss : List (Int × Int)) (u0 u1 : Value) (c0 c1 : Int × Int) (v0 v1 : Value) (t0 t1 : Tm) (c k : Nat) : Prop where
  sub : ∀ p ∈ R, p ∈ Z
  mH : (H, oH) ∈ Z
  mT : (T, oT) ∈ Z
  mTL : (TL, W.listOf #[v0, v1] c) ∈ Z
  mCL : (CL, W.listOf #[u0, u1] k) ∈ Z
  st : StoreIs R S H T
  cS : ∃ c : Obj, (L + 1, c) ∈ R ∧ c.data = .cell (some (.ref S))
  ch : CellsAt R oH hs
  ct : CellsAt R oT ss
  du0 : DatIn R u0 (cd c0)
  du1 : DatIn R u1 (cd c1)
  dv0 : DatIn R v0 t0.d
  dv1 : DatIn R v1 t1.d
  ok0 : t0.ok
  ok1 : t1.ok
section
variable {L ROW S H T K TL CL : Addr} {oR oH oT oK : Obj} {hs ss : List (Int × Int)} {Z Z' R : List (Addr × Obj)} {v0 v1 u0 u1 : Value} {c0 c1 : Int × Int} {c k : Nat} {t0 t1 : Tm}
theorem LQ.toZ (lq : LQ w L ROW H T K S TL CL oR oH oT oK hs ss R u0 u1 c0 c1 v0 v1 t0 t1) : LZ w L ((CL, W.listOf #[u0, u1] k) :: (TL, W.listOf #[v0, v1] c) :: (ROW, oR) :: (H, oH) :: (T, oT) :: (K, oK) :: R) R S H T TL CL oH oT hs ss u0 u1 c0 c1 v0 v1 t0 t1 c k :=
  ⟨fun p hp => by simp [hp], by simp, by simp, by simp, by simp, lq.lp.st, lq.lp.cS, lq.lp.ch, lq.lp.ct, lq.du0, lq.du1, lq.dv0, lq.dv1, lq.ok0, lq.ok1⟩
theorem LZ.mono (lz : LZ w L Z R S H T TL CL oH oT hs ss u0 u1 c0 c1 v0 v1 t0 t1 c k) (hs' : ∀ p ∈ Z, p ∈ Z') : LZ w L Z' R S H T TL CL oH oT hs ss u0 u1 c0 c1 v0 v1 t0 t1 c k :=
  { lz with sub := fun p hp => hs' p (lz.sub p hp), mH := hs' _ lz.mH, mT := hs' _ lz.mT, mTL := hs' _ lz.mTL, mCL := hs' _ lz.mCL }
theorem lz_lawkey {rest : List (Addr × Obj)} {v : Value} {t : Tm} (lz : LZ w L Z R S H T TL CL oH oT hs ss u0 u1 c0 c1 v0 v1 t0 t1 c k) (hin : ∀ p ∈ Z, p ∈ rest) (hv : DatIn R v t.d) : Spec w 448 [v] rest 3 100 (PurePost rest R t.key.d) :=
  lawkey_spec v t rest R (hv.mono fun p hp => hin p (lz.sub p hp))
theorem sub10 {n1 n2 Z : List (Addr × Obj)} {x y p : Addr × Obj} (h : p ∈ n1 ∨ p ∈ n2 ∨ p ∈ Z) : p ∈ x :: (n2 ++ (n1 ++ y :: Z)) := by
  simp only [List.mem_cons, List.mem_append]
  rcases h with h | h | h <;> simp [h]
theorem sub10m {x p : Addr × Obj} {l : List (Addr × Obj)} (h : p ∈ l) : p ∈ x :: l := .tail _ h
end
section
theorem seg10 {p : Program} {loose : List Str} {mean : ExcName → Option Value} {mg mb : Str → Option Value} {g h : Heap} {L : Addr} {s : Shared} {tk : Nat} {m : Str → Option Value} {Q : Flow → Shared → Prop}
   (K0 : Below callerA g [] g) (X : (hk.heap_1 w.params).In g) (T9 : Top p loose mean mg mb g) {S H T TL CL : Addr} {oH oT : Obj} {hs ss : List (Int × Int)} {Z R : List (Addr × Obj)} {v0 v1 u0 u1 : Value} {c0 c1 : Int × Int} {c k : Nat} {t0 t1 : Tm}
   (F : Fr g L h m) (N : News g L h Z) (hm2 : m (Str.ofString "terms") = some (.ref TL)) (hm4 : m (Str.ofString "cells") = some (.ref CL)) (lz : LZ w L Z R S H T TL CL oH oT hs ss u0 u1 c0 c1 v0 v1 t0 t1 c k)
   (hQ : ∀ h' tk' m' Z' HC KL k0 k1 vs n1 n2 n3, Fr g L h' m' → News g L h' Z' → m' (Str.ofString "terms") = some (.ref TL) → m' (Str.ofString "cells") = some (.ref CL) → m' (Str.ofString "heap") = some (.ref HC) → m' (Str.ofString "keys") = some (.ref KL) →
      LZ w L Z' R S H T TL CL oH oT hs ss u0 u1 c0 c1 v0 v1 t0 t1 c k → oH = listOf (List.toArray vs) n1 → (HC, listOf (List.toArray vs) n2) ∈ Z' → (KL, W.listOf #[k0, k1] n3) ∈ Z' → DatIn Z' k0 t0.key.d → DatIn Z' k1 t1.key.d →
      Stop9 (wpAny (model prg w) (callerA.deeper (lawEnv L)) (execs (lawRest 16) (lawEnv L)) Q (fun _ _ => False) { s with heap := h', toks := tk' })) :
   wpAny (model prg w) (callerA.deeper (lawEnv L)) (execs (lawRest 14) (lawEnv L)) Q (fun _ _ => False) { s with heap := h, toks := tk } := by
  refine wr_mp ?_
  simp (disch := (k_dflt (
      unfold lawEnv prg
      conv in (execs _ _) => arg 1; whnf
      conv in (occs := *) lawDef.2 => all_goals whnf
      revert X
      k_fill
      intro X
      have hl9 : ∀ q ∈ [(Str.ofString "terms", (.ref TL : Value)), (Str.ofString "cells", (.ref CL : Value))], m q.1 = some q.2 := by
        intro q hq
        simp only [List.mem_cons, List.not_mem_nil, or_false] at hq
        rcases hq with rfl | rfl
        · exact hm2
        · exact hm4
      have F' := fr_stdL F _ hl9
      clear F
      obtain ⟨vs, n1, rfl, dH, lH⟩ := id lz.ch.out
      have hvl := cells_len dH
      obtain ⟨c8, hc1, hd1⟩ := lz.cS
      refine StoreIs.elim lz.st ?_
      intro SD SY TR h1 h2 h3 h4 h5 h6 h7 q1 q2 q3 q4 q5 q6 q7 u2 u3 u4 n hs1 hs2 _
      replace hc1 := lz.sub _ hc1
      replace hs1 := lz.sub _ hs1
      replace hs2 := lz.sub _ hs2
      have m1 := lz.mH
      have m2 := lz.mTL
      have d0 := lz.dv0
      have d1 := lz.dv1
      (repeat' (first | (k_unfold; (try dsimp only)) | (k_here; (with_reducible show wpAny _ _ (call (Value.ref 448) _) _ _ _); k_dflt (refine' Spec.use (lz_lawkey ?lz ?hin ?hv) ?kB ?kF ?kX ?kN ?kT ?kA ?kf ?kk ?kh ?kd ?ku ?_; (case lz => assumption); (case hv => assumption); ktn_step; (case hin => kqd_sub); intro v9 post9 h9 tk9 F9 N9 hp9; obtain ⟨new9, e9, fr9, hd9⟩ := hp9; subst e9; (try simp only [List.forall_mem_cons, List.forall_mem_append, List.forall_mem_nil, imp_and, forall_and, and_true, implies_true] at fr9); (repeat (rename _ ∧ _ => hc9; obtain ⟨_, _⟩ := hc9)); (try dsimp only); (try k_fold))) | (k_here; (with_reducible show wpAny _ _ (call (Value.type _) [Value.ref _]) _ _ _); k_dflt (refine' kup_listOf ?F ?N ?b ?e ?_ ?z; (case F => k_asm); (case N => k_asm); (case b => k_mem); (case e => first | exact List.toList_toArray | exact List.toList_toArray _); (case z => (simp only [Array.length_toList, List.size_toArray]; rw [PySem.sizeLine_eq]; omega))); intro D' c' h' F' N' l1; (try k_lt l1)) | (k_here; (with_reducible show wpAny _ _ (execs (Stmt.If (Expr.BoolOp _ _ _) _ _ _ :: _) _) _ _ _); refine stop9b ?_) | (k_here; (with_reducible show wpAny _ _ (call (Value.ref 434) _) _ _ _); k_dflt (refine' Spec.use (lp_next ?lp ?U) ?kB ?kF ?kX ?kN ?kT ?kA ?kf ?kk ?kh ?kd ?ku ?_; (case lp => assumption); ktn_step; (case U => (intro o9; k_upd)); intro v9 post9 h9 tk9 F9 N9 hp9; obtain ⟨o9, e9, lp9, k9, tt9, ev9⟩ := hp9; subst e9; subst ev9; (try dsimp only at N9); (try dsimp only); (try k_fold))) | (k_here; (with_reducible show wpAny _ _ (call (Value.ref 441) _) _ _ _); k_dflt (refine' Spec.use (lp_term ?lp _ ?U ?hin) ?kB ?kF ?kX ?kN ?kT ?kA ?kf ?kk ?kh ?kd ?ku ?_; (case lp => assumption); ktn_step; (case U => (intro o9; k_upd)); (case hin => kqd_sub); intro v9 post9 h9 tk9 F9 N9 hp9; obtain ⟨o9, new9, e9, fr9, lp9, t9, ok9, hd9⟩ := hp9; subst e9; (try simp only [List.forall_mem_cons, List.forall_mem_append, List.forall_mem_nil, imp_and, forall_and, and_true, implies_true] at fr9); (repeat (rename _ ∧ _ => hc9; obtain ⟨_, _⟩ := hc9)); (try dsimp only); (try k_fold))) | (k_here; (with_reducible show wpAny _ _ (call (Value.ref _) _) _ _ _); k_dflt (refine wpAny_call ?_; ( refine' code_def ?k1z9 ?k2z9 ?k3z9 ?k4z9 ?k5z9 ?kAz9 ?kFz9 ?kKz9 ?k6z9 ?k7z9 ?k8z9 ?k9z9 ?kBz9 ?_ ?c2z9 ?c3z9 ?c4z9 ?c5z9; (case kAz9 => first | exact deeper_frames _ (by assumption) | exact deeper_frames _ (deeper_frames _ (by assumption)) | exact deeper_frames _ (deeper_frames _ (deeper_frames _ (by assumption)))); (case kFz9 => exact rfl); (case kKz9 => exact rfl); (case k1z9 => k_asm); (case k2z9 => k_asm); (case k3z9 => k_asm); (case k4z9 => k_asm); (case k5z9 => k_asm); (case k6z9 => k_is); (case k7z9 => k_is); (case k8z9 => k_room); (case k9z9 => exact BindsTo.of_eq rfl); (case c5z9 => decide); (case kBz9 => exact locs rfl); (case c2z9 => exact rfl); (case c3z9 => exact rfl); (case c4z9 => exact rfl); k_whole; intro _ _ _ _ _ _ _ _ _; (with_reducible refine wp_never ?_); (try dsimp only); (try k_fold)))) | (k_here; (with_reducible show wpAny _ _ (setItem (Value.ref _) (Value.int _ _) _) _ _ _); k_dflt (refine' set_led ?Fz9 ?Nz9 ?Uz9 ?az9 ?bz9 ?zz9 ?_; (case Fz9 => k_asm); (case Nz9 => k_asm); (case Uz9 => k_upd); (case az9 => ksa_idx); (case bz9 => ksa_idx); (case zz9 => ksa_idx); k_whole); intro _ _ _; (try k_sweep)) | (k_here; (with_reducible show wpAny _ _ (call (Value.builtin "list.append") [Value.ref _, _]) _ _ _); k_dflt (refine' append_led ?Fz9 ?Nz9 ?Uz9 ?zz9 ?_; (case Fz9 => k_asm); (case Nz9 => k_asm); (case Uz9 => k_upd); (case zz9 => ksa_idx); k_whole); intro _ _ _; (try k_sweep)) | (k_here; (with_reducible show wpAny _ _ (call (Value.builtin "len") [Value.ref _]) _ _ _); k_dflt (refine' len_led ?Nz9 ?mz9 ?zz9 ?_; (case Nz9 => k_asm); (case mz9 => k_mem); (case zz9 => ksa_idx); k_whole); intro _ _) | (k_here; (with_reducible show wpAny _ _ (subscriptTail _ _ (Value.ref _) (Value.int _ _)) _ _ _); k_dflt (refine' item_led ?Nz9 ?mz9 ?az9 ?bz9 ?xz9 ?_; (case Nz9 => k_asm); (case mz9 => k_mem); (case az9 => omega); (case bz9 => omega); (case xz9 => assumption))) | (k_end; kc_close) | (k_end; wrow_close) | walk1 | (dsimp only; walk1) | (leave1; (try dsimp only)) | fail "no step"))
      refine' compEnd_app ?F ?N ?h1 ?h2 ?h3 ?hS ?r
      (case F => k_asm); (case N => k_asm)
      (case h1 => (repeat' (first | k_all | (refine all_cons ?_ ?_) | (refine all_app ?_ ?_) | exact all_nil | k_ne)))
      (case h2 => (repeat' (first | k_all | (refine all_cons ?_ ?_) | (refine all_app ?_ ?_) | exact all_nil | k_ne)))
      (case h3 => (repeat' (first | k_all | (refine all_cons ?_ ?_) | (refine all_app ?_ ?_) | exact all_nil | k_ne)))
      (case hS => exact Or.inr ⟨_, (by k_mem), rfl, _, rfl⟩)
      (try dsimp only)
      (repeat' (first | (k_unfold; (try dsimp only)) | (k_here; (with_reducible show wpAny _ _ (call (Value.ref 448) _) _ _ _); k_dflt (refine' Spec.use (lz_lawkey ?lz ?hin ?hv) ?kB ?kF ?kX ?kN ?kT ?kA ?kf ?kk ?kh ?kd ?ku ?_; (case lz => assumption); (case hv => assumption); ktn_step; (case hin => kqd_sub); intro v9 post9 h9 tk9 F9 N9 hp9; obtain ⟨new9, e9, fr9, hd9⟩ := hp9; subst e9; (try simp only [List.forall_mem_cons, List.forall_mem_append, List.forall_mem_nil, imp_and, forall_and, and_true, implies_true] at fr9); (repeat (rename _ ∧ _ => hc9; obtain ⟨_, _⟩ := hc9)); (try dsimp only); (try k_fold))) | (k_here; (with_reducible show wpAny _ _ (call (Value.type _) [Value.ref _]) _ _ _); k_dflt (refine' kup_listOf ?F ?N ?b ?e ?_ ?z; (case F => k_asm); (case N => k_asm); (case b => k_mem); (case e => first | exact List.toList_toArray | exact List.toList_toArray _); (case z => (simp only [Array.length_toList, List.size_toArray]; rw [PySem.sizeLine_eq]; omega))); intro D' c' h' F' N' l1; (try k_lt l1)) | (k_here; (with_reducible show wpAny _ _ (execs (Stmt.If (Expr.BoolOp _ _ _) _ _ _ :: _) _) _ _ _); refine stop9b ?_) | (k_here; (with_reducible show wpAny _ _ (call (Value.ref 434) _) _ _ _); k_dflt (refine' Spec.use (lp_next ?lp ?U) ?kB ?kF ?kX ?kN ?kT ?kA ?kf ?kk ?kh ?kd ?ku ?_; (case lp => assumption); ktn_step; (case U => (intro o9; k_upd)); intro v9 post9 h9 tk9 F9 N9 hp9; obtain ⟨o9, e9, lp9, k9, tt9, ev9⟩ := hp9; subst e9; subst ev9; (try dsimp only at N9); (try dsimp only); (try k_fold))) | (k_here; (with_reducible show wpAny _ _ (call (Value.ref 441) _) _ _ _); k_dflt (refine' Spec.use (lp_term ?lp _ ?U ?hin) ?kB ?kF ?kX ?kN ?kT ?kA ?kf ?kk ?kh ?kd ?ku ?_; (case lp => assumption); ktn_step; (case U => (intro o9; k_upd)); (case hin => kqd_sub); intro v9 post9 h9 tk9 F9 N9 hp9; obtain ⟨o9, new9, e9, fr9, lp9, t9, ok9, hd9⟩ := hp9; subst e9; (try simp only [List.forall_mem_cons, List.forall_mem_append, List.forall_mem_nil, imp_and, forall_and, and_true, implies_true] at fr9); (repeat (rename _ ∧ _ => hc9; obtain ⟨_, _⟩ := hc9)); (try dsimp only); (try k_fold))) | (k_here; (with_reducible show wpAny _ _ (call (Value.ref _) _) _ _ _); k_dflt (refine wpAny_call ?_; ( refine' code_def ?k1z9 ?k2z9 ?k3z9 ?k4z9 ?k5z9 ?kAz9 ?kFz9 ?kKz9 ?k6z9 ?k7z9 ?k8z9 ?k9z9 ?kBz9 ?_ ?c2z9 ?c3z9 ?c4z9 ?c5z9; (case kAz9 => first | exact deeper_frames _ (by assumption) | exact deeper_frames _ (deeper_frames _ (by assumption)) | exact deeper_frames _ (deeper_frames _ (deeper_frames _ (by assumption)))); (case kFz9 => exact rfl); (case kKz9 => exact rfl); (case k1z9 => k_asm); (case k2z9 => k_asm); (case k3z9 => k_asm); (case k4z9 => k_asm); (case k5z9 => k_asm); (case k6z9 => k_is); (case k7z9 => k_is); (case k8z9 => k_room); (case k9z9 => exact BindsTo.of_eq rfl); (case c5z9 => decide); (case kBz9 => exact locs rfl); (case c2z9 => exact rfl); (case c3z9 => exact rfl); (case c4z9 => exact rfl); k_whole; intro _ _ _ _ _ _ _ _ _; (with_reducible refine wp_never ?_); (try dsimp only); (try k_fold)))) | (k_here; (with_reducible show wpAny _ _ (setItem (Value.ref _) (Value.int _ _) _) _ _ _); k_dflt (refine' set_led ?Fz9 ?Nz9 ?Uz9 ?az9 ?bz9 ?zz9 ?_; (case Fz9 => k_asm); (case Nz9 => k_asm); (case Uz9 => k_upd); (case az9 => ksa_idx); (case bz9 => ksa_idx); (case zz9 => ksa_idx); k_whole); intro _ _ _; (try k_sweep)) | (k_here; (with_reducible show wpAny _ _ (call (Value.builtin "list.append") [Value.ref _, _]) _ _ _); k_dflt (refine' append_led ?Fz9 ?Nz9 ?Uz9 ?zz9 ?_; (case Fz9 => k_asm); (case Nz9 => k_asm); (case Uz9 => k_upd); (case zz9 => ksa_idx); k_whole); intro _ _ _; (try k_sweep)) | (k_here; (with_reducible show wpAny _ _ (call (Value.builtin "len") [Value.ref _]) _ _ _); k_dflt (refine' len_led ?Nz9 ?mz9 ?zz9 ?_; (case Nz9 => k_asm); (case mz9 => k_mem); (case zz9 => ksa_idx); k_whole); intro _ _) | (k_here; (with_reducible show wpAny _ _ (subscriptTail _ _ (Value.ref _) (Value.int _ _)) _ _ _); k_dflt (refine' item_led ?Nz9 ?mz9 ?az9 ?bz9 ?xz9 ?_; (case Nz9 => k_asm); (case mz9 => k_mem); (case az9 => omega); (case bz9 => omega); (case xz9 => assumption))) | (k_end; kc_close) | (k_end; wrow_close) | walk1 | (dsimp only; walk1) | (leave1; (try dsimp only)) | fail "no step"))
      unfold Stop9
      (rename Fr _ _ _ _ => kF); (rename News _ _ _ _ => kN)
      rename DatIn (_ ++ R) _ t1.key.d => datz
      rename DatIn (_ ++ R) _ t0.key.d => daty
      exact hQ _ _ _ _ _ _ _ _ _ _ _ _ kF kN rfl rfl rfl rfl (lz.mono fun p hp => sub10 (.inr (.inr hp))) rfl (sub10m (sub_right _ (sub_right _ (.head _)))) (.head _) (daty.mono fun p hp => (List.mem_append.mp hp).elim (fun q => sub10 (.inl q)) fun q => sub10 (.inr (.inr (lz.sub p q)))) (datz.mono fun p hp => (List.mem_append.mp hp).elim (fun q => sub10 (.inr (.inl q))) fun q => sub10 (.inr (.inr (lz.sub p q))))))) only [↓wr_true]
end
end
section
theorem walk_off_P35 : True := by
  w_top off
  trivial
local macro_rules | `(tactic| walk_at "CompRest") => `(tactic| (k_dflt (refine LCg.CompRest.succ ?_); intro v9 I9 oI9 C9 oC9 D9 m9 h9 tk9 E9 hP9 hC9 hx9 F9 N9 off9 ne9; simp at hP9; subst hP9; replace off9 := LCg.Off3.mem off9; (try simp only [List.forall_mem_cons, List.forall_mem_append, List.forall_mem_nil, imp_and, forall_and, and_true, implies_true] at off9); (repeat (rename _ ∧ _ => hc9; obtain ⟨_, _⟩ := hc9)); (try dsimp only)))
local macro_rules | `(tactic| walk_at "CompEnd") => `(tactic| (k_dflt (refine' compEnd_app ?F ?N ?h1 ?h2 ?h3 ?hS ?r; (case F => k_asm); (case N => k_asm); (case h1 => (repeat' (first | k_all | (refine all_cons ?_ ?_) | (refine all_app ?_ ?_) | exact all_nil | k_ne))); (case h2 => (repeat' (first | k_all | (refine all_cons ?_ ?_) | (refine all_app ?_ ?_) | exact all_nil | k_ne))); (case h3 => (repeat' (first | k_all | (refine all_cons ?_ ?_) | (refine all_app ?_ ?_) | exact all_nil | k_ne))); (case hS => exact Or.inr ⟨_, (by k_mem), rfl, _, rfl⟩)); (try dsimp only)))
theorem stop9c {p : Prop} (h : Stop9 p) : p := h
noncomputable def Look (hs ss : List (Int × Int)) (c : Int × Int) (k : Ky) : Prop := ∃ r, Deref hs ss c r ∧ CellKey hs r k
/-- with the heap's copy and the keys -/
structure LK (w : World) (L : Addr) (Z R : List (Addr × Obj)) (S H T TL CL HC KL : Addr) (oH oT : Obj) (hs ss : List (Int × Int)) (u0 u1 : Value) (c0 c1 : Int × Int) (v0 v1 : Value) (t0 t1 : Tm) (c k : Nat) (k0 k1 : Value) (vs : List Value) (n1 n2 n3 : Nat) : Prop where
  lz : LZ w L Z R S H T TL CL oH oT hs ss u0 u1 c0 c1 v0 v1 t0 t1 c k
  eH : oH = listOf (List.toArray vs) n1
  mHC : (HC, listOf (List.toArray vs) n2) ∈ Z
  mKL : (KL, W.listOf #[k0, k1] n3) ∈ Z
  dk0 : KyIn Z k0 t0.key
  dk1 : KyIn Z k1 t1.key
section
variable {L S H T TL CL HC KL : Addr} {oH oT : Obj} {hs ss : List (Int × Int)} {Z Z' R : List (Addr × Obj)} {v0 v1 u0 u1 k0 k1 : Value} {c0 c1 : Int × Int} {c k n1 n2 n3 : Nat} {t0 t1 : Tm} {vs : List Value}
theorem LK.mono (lk : LK w L Z R S H T TL CL HC KL oH oT hs ss u0 u1 c0 c1 v0 v1 t0 t1 c k k0 k1 vs n1 n2 n3) (hs' : ∀ p ∈ Z, p ∈ Z') : LK w L Z' R S H T TL CL HC KL oH oT hs ss u0 u1 c0 c1 v0 v1 t0 t1 c k k0 k1 vs n1 n2 n3 :=
  ⟨lk.lz.mono hs', lk.eH, hs' _ lk.mHC, hs' _ lk.mKL, lk.dk0.mono hs', lk.dk1.mono hs'⟩
theorem lk_first {rest : List (Addr × Obj)} {v : Value} {ce : Int × Int} {ky : Ky} (lk : LK w L Z R S H T TL CL HC KL oH oT hs ss u0 u1 c0 c1 v0 v1 t0 t1 c k k0 k1 vs n1 n2 n3) (hin : ∀ p ∈ Z, p ∈ rest) (hv : DatIn R v (cd ce)) (l : Look hs ss ce ky) : Spec w 406 [.ref S, v] rest 10 500 (KyPost rest R ky) :=
  let ⟨r, d, ck⟩ := l
  firstkey_spec S H T oH oT hs ss rest R (fun p hp => hin p (lk.lz.sub p hp)) (lk.lz.st.mono fun p hp => hin p (lk.lz.sub p hp)) (hin _ lk.lz.mH) (hin _ lk.lz.mT) lk.lz.ch lk.lz.ct ce r d ky ck v hv
theorem lk_firstz {rest : List (Addr × Obj)} {v : Value} {ce : Int × Int} {ky : Ky} (lk : LK w L Z R S H T TL CL HC KL oH oT hs ss u0 u1 c0 c1 v0 v1 t0 t1 c k k0 k1 vs n1 n2 n3) (hin : ∀ p ∈ Z, p ∈ rest) (hv : DatIn rest v (cd ce)) (l : Look hs ss ce ky) : Spec w 406 [.ref S, v] rest 10 500 (KyPost rest rest ky) :=
  let ⟨r, d, ck⟩ := l
  have sub : ∀ p ∈ R, p ∈ rest := fun p hp => hin p (lk.lz.sub p hp)
  firstkey_spec S H T oH oT hs ss rest rest (fun p hp => hp) (lk.lz.st.mono sub) (hin _ lk.lz.mH) (hin _ lk.lz.mT) (lk.lz.ch.mono sub) (lk.lz.ct.mono sub) ce r d ky ck v hv
variable {A : Around} {E : Value → Shared → Prop} {s : Shared} {Q : Value → Shared → Prop} {g : Heap} {m : Str → Option Value}
theorem kyl_hd {R1 R2 : List (Addr × Obj)} {x0 x1 : Value} {ka kb : Ky} {a : Addr} {n : Nat} (X : (hk.heap_1 w.params).In g) (F : Fr g L s.heap m) (N : News g L s.heap Z) (ma : (a, W.listOf #[x0, x1] n) ∈ Z) (h0 : KyIn R1 x0 ka) (s1 : ∀ p ∈ R1, p ∈ Z) (h1 : KyIn R2 x1 kb) (s2 : ∀ p ∈ R2, p ∈ Z) : Hd s.heap (.ref a) (.list [ka.d, kb.d]) := by
  obtain ⟨as, r0⟩ := (h0.mono s1).hd X F N
  obtain ⟨bs, r1⟩ := (h1.mono s2).hd X F N
  exact ⟨_, reads_list_at (N.get ma) rfl rfl (ReadsAll.cons r0 (ReadsAll.cons r1 ReadsAll.nil))⟩
theorem kyl_ok (ka kb : Ky) : kqdOk 9 (.list [ka.d, kb.d]) = true := by
  simp only [kqdOk, List.all_cons, List.all_nil, Bool.and_true, Bool.and_eq_true]
  exact ⟨ka.ok, kb.ok⟩
theorem ne_kyl {R1 R2 : List (Addr × Obj)} {x0 x1 y0 y1 : Value} {ka kb : Ky} {a b : Addr} {n' : Nat} (X : (hk.heap_1 w.params).In g) (F : Fr g L s.heap m) (N : News g L s.heap Z) (ma : (a, LCg.lst [x0, x1]) ∈ Z) (h0 : KyIn R1 x0 ka) (s1 : ∀ p ∈ R1, p ∈ Z) (h1 : KyIn R2 x1 kb) (s2 : ∀ p ∈ R2, p ∈ Z)
    {Z0 : List (Addr × Obj)} (hz : ∀ p ∈ Z0, p ∈ Z) (mb : (b, W.listOf #[y0, y1] n') ∈ Z0) (g0 : KyIn Z0 y0 ka) (g1 : KyIn Z0 y1 kb) (hu : A.units + 64 < cLine) (h : Q (.bool false) s) : wpAny (model prg w) A (compareOp .NotEq (.ref a) (.ref b)) Q E s :=
  ne_hd (kyl_hd X F N ma h0 s1 h1 s2) (kyl_hd X F N (hz _ mb) g0 hz g1 hz) (kyl_ok ka kb) (kyl_ok ka kb) hu true ⟨fun _ => rfl, fun _ => rfl⟩ h
theorem ne_kz {R1 Z0 : List (Addr × Obj)} {x y : Value} {ka : Ky} (X : (hk.heap_1 w.params).In g) (F : Fr g L s.heap m) (N : News g L s.heap Z) (h0 : KyIn R1 x ka) (s1 : ∀ p ∈ R1, p ∈ Z) (hz : ∀ p ∈ Z0, p ∈ Z) (g0 : KyIn Z0 y ka) (hu : A.units + 64 < cLine) (h : Q (.bool false) s) : wpAny (model prg w) A (compareOp .NotEq x y) Q E s :=
  ne_ky X F N (h0.mono s1) (g0.mono hz) hu true (decide_eq_true rfl) h
end
section
local macro_rules | `(tactic| walk_at "compareOp NotEq ref ref") => `(tactic| (k_here; k_dflt (first
  | (refine' ne_kyl ?X ?F ?N ?ma ?h0 ?s1 ?h1 ?s2 ?hz ?mb ?g0 ?g1 ?u ?_; (case X => k_asm); (case F => k_asm); (case N => k_asm); (case ma => k_mem); (case h0 => assumption); (case h1 => assumption); (case mb => assumption); (case g0 => assumption); (case g1 => assumption); (case s1 => kqd_sub); (case s2 => kqd_sub); (case hz => kqd_sub); (case u => units_room)))))
local macro_rules | `(tactic| walk_at "compareOp NotEq") => `(tactic| (k_here; k_dflt (first
  | (refine' ne_kz ?X ?F ?N ?h0 ?s1 ?hz ?g0 ?u ?_; (case X => k_asm); (case F => k_asm); (case N => k_asm); (case h0 => assumption); (case g0 => assumption); (case s1 => kqd_sub); (case hz => kqd_sub); (case u => units_room)))))
theorem seg11 {p : Program} {loose : List Str} {mean : ExcName → Option Value} {mg mb : Str → Option Value} {g h : Heap} {L : Addr} {s : Shared} {tk : Nat} {m : Str → Option Value} {Q : Flow → Shared → Prop}
   (K0 : Below callerA g [] g) (X : (hk.heap_1 w.params).In g) (T9 : Top p loose mean mg mb g) {S H T TL CL : Addr} {oH oT : Obj} {hs ss : List (Int × Int)} {Z R : List (Addr × Obj)} {v0 v1 u0 u1 : Value} {c0 c1 : Int × Int} {c k : Nat} {t0 t1 : Tm} {HC KL : Addr} {k0 k1 : Value} {vs : List Value} {n1 n2 n3 : Nat}
   (F : Fr g L h m) (N : News g L h Z) (hm_terms : m (Str.ofString "terms") = some (.ref TL)) (hm_cells : m (Str.ofString "cells") = some (.ref CL)) (hm_heap : m (Str.ofString "heap") = some (.ref HC)) (hm_keys : m (Str.ofString "keys") = some (.ref KL)) (lk : LK w L Z R S H T TL CL HC KL oH oT hs ss u0 u1 c0 c1 v0 v1 t0 t1 c k k0 k1 vs n1 n2 n3)
   (l0 : Look hs ss c0 t0.key) (l1 : Look hs ss c1 t1.key) (l2 : Look hs ss (1, 1) t0.key)
   (hQ : ∀ h' tk' m' Z', Fr g L h' m' → News g L h' Z' → m' (Str.ofString "terms") = some (.ref TL) → m' (Str.ofString "heap") = some (.ref HC) → m' (Str.ofString "keys") = some (.ref KL) → (∀ p ∈ Z, p ∈ Z') →
      Stop9 (wpAny (model prg w) (callerA.deeper (lawEnv L)) (execs (lawRest 17) (lawEnv L)) Q (fun _ _ => False) { s with heap := h', toks := tk' })) :
   wpAny (model prg w) (callerA.deeper (lawEnv L)) (execs (lawRest 16) (lawEnv L)) Q (fun _ _ => False) { s with heap := h, toks := tk } := by
  refine wr_mp ?_
  simp (disch := (k_dflt (
      unfold lawEnv prg
      conv in (execs _ _) => arg 1; whnf
      conv in (occs := *) lawDef.2 => all_goals whnf
      revert X
      k_fill
      intro X
      have hl9 : ∀ q ∈ [(Str.ofString "terms", (.ref TL : Value)), (Str.ofString "cells", (.ref CL : Value)), (Str.ofString "heap", (.ref HC : Value)), (Str.ofString "keys", (.ref KL : Value))], m q.1 = some q.2 := by
        intro q hq
        simp only [List.mem_cons, List.not_mem_nil, or_false] at hq
        rcases hq with rfl | rfl | rfl | rfl
        · exact hm_terms
        · exact hm_cells
        · exact hm_heap
        · exact hm_keys
      have F' := fr_stdL F _ hl9
      clear F
      have lz := lk.lz
      obtain ⟨c8, hc1, hd1⟩ := lz.cS
      refine StoreIs.elim lz.st ?_
      intro SD SY TR h1 h2 h3 h4 h5 h6 h7 q1 q2 q3 q4 q5 q6 q7 u2 u3 u4 n hs1 hs2 _
      replace hc1 := lz.sub _ hc1
      replace hs1 := lz.sub _ hs1
      replace hs2 := lz.sub _ hs2
      have m1 := lz.mH
      have m2 := lz.mTL
      have m3 := lz.mCL
      have m4 := lk.mHC
      have m5 := lk.mKL
      have d0 := lz.dv0
      have d1 := lz.dv1
      have d2 := lz.du0
      have d3 := lz.du1
      have zsub := lz.sub
      have i0 : [k0, k1][(0 : Int).toNat]? = some k0 := rfl
      have i1 : [k0, k1][(1 : Int).toNat]? = some k1 := rfl
      have i2 : [v0, v1][(0 : Int).toNat]? = some v0 := rfl
      have i3 : [v0, v1][(1 : Int).toNat]? = some v1 := rfl
      have y0 := lk.dk0
      have y1 := lk.dk1
      (repeat' (first | (k_unfold; (try dsimp only)) | (k_here; (with_reducible show wpAny _ _ (call (Value.ref 406) _) _ _ _); k_dflt ((first | (refine' Spec.use (lk_first ?lk ?hin ?hv ?l) ?kB ?kF ?kX ?kN ?kT ?kA ?kf ?kk ?kh ?kd ?ku ?_; (case lk => assumption); (case hv => assumption); (case l => assumption); ktn_step; (case hin => kqd_sub)) | (refine' Spec.use (lk_firstz ?lk ?hin ?hv ?l) ?kB ?kF ?kX ?kN ?kT ?kA ?kf ?kk ?kh ?kd ?ku ?_; (case lk => assumption); ktn_step; (case hv => exact cell_in (by k_mem)); (case l => assumption); (case hin => kqd_sub))); intro v9 post9 h9 tk9 F9 N9 hp9; obtain ⟨new9, e9, fr9, hd9⟩ := hp9; subst e9; (try simp only [List.forall_mem_cons, List.forall_mem_append, List.forall_mem_nil, imp_and, forall_and, and_true, implies_true] at fr9); (repeat (rename _ ∧ _ => hc9; obtain ⟨_, _⟩ := hc9)); (try dsimp only); (try k_fold))) | (k_here; (with_reducible show wpAny _ _ (execs (Stmt.If (Expr.BoolOp _ (Expr.Compare (Expr.Call _ _ _ _) _ _ _ :: _) _) _ _ _ :: _) _) _ _ _); refine stop9c ?_) | (k_here; (with_reducible show wpAny _ _ (call (Value.ref 434) _) _ _ _); k_dflt (refine' Spec.use (lp_next ?lp ?U) ?kB ?kF ?kX ?kN ?kT ?kA ?kf ?kk ?kh ?kd ?ku ?_; (case lp => assumption); ktn_step; (case U => (intro o9; k_upd)); intro v9 post9 h9 tk9 F9 N9 hp9; obtain ⟨o9, e9, lp9, k9, tt9, ev9⟩ := hp9; subst e9; subst ev9; (try dsimp only at N9); (try dsimp only); (try k_fold))) | (k_here; (with_reducible show wpAny _ _ (call (Value.ref 441) _) _ _ _); k_dflt (refine' Spec.use (lp_term ?lp _ ?U ?hin) ?kB ?kF ?kX ?kN ?kT ?kA ?kf ?kk ?kh ?kd ?ku ?_; (case lp => assumption); ktn_step; (case U => (intro o9; k_upd)); (case hin => kqd_sub); intro v9 post9 h9 tk9 F9 N9 hp9; obtain ⟨o9, new9, e9, fr9, lp9, t9, ok9, hd9⟩ := hp9; subst e9; (try simp only [List.forall_mem_cons, List.forall_mem_append, List.forall_mem_nil, imp_and, forall_and, and_true, implies_true] at fr9); (repeat (rename _ ∧ _ => hc9; obtain ⟨_, _⟩ := hc9)); (try dsimp only); (try k_fold))) | (k_here; (with_reducible show wpAny _ _ (call (Value.ref _) _) _ _ _); k_dflt (refine wpAny_call ?_; ( refine' code_def ?k1z9 ?k2z9 ?k3z9 ?k4z9 ?k5z9 ?kAz9 ?kFz9 ?kKz9 ?k6z9 ?k7z9 ?k8z9 ?k9z9 ?kBz9 ?_ ?c2z9 ?c3z9 ?c4z9 ?c5z9; (case kAz9 => first | exact deeper_frames _ (by assumption) | exact deeper_frames _ (deeper_frames _ (by assumption)) | exact deeper_frames _ (deeper_frames _ (deeper_frames _ (by assumption)))); (case kFz9 => exact rfl); (case kKz9 => exact rfl); (case k1z9 => k_asm); (case k2z9 => k_asm); (case k3z9 => k_asm); (case k4z9 => k_asm); (case k5z9 => k_asm); (case k6z9 => k_is); (case k7z9 => k_is); (case k8z9 => k_room); (case k9z9 => exact BindsTo.of_eq rfl); (case c5z9 => decide); (case kBz9 => exact locs rfl); (case c2z9 => exact rfl); (case c3z9 => exact rfl); (case c4z9 => exact rfl); k_whole; intro _ _ _ _ _ _ _ _ _; (with_reducible refine wp_never ?_); (try dsimp only); (try k_fold)))) | (k_here; (with_reducible show wpAny _ _ (setItem (Value.ref _) (Value.int _ _) _) _ _ _); k_dflt (refine' set_led ?Fz9 ?Nz9 ?Uz9 ?az9 ?bz9 ?zz9 ?_; (case Fz9 => k_asm); (case Nz9 => k_asm); (case Uz9 => k_upd); (case az9 => ksa_idx); (case bz9 => ksa_idx); (case zz9 => ksa_idx); k_whole); intro _ _ _; (try k_sweep)) | (k_here; (with_reducible show wpAny _ _ (call (Value.builtin "list.append") [Value.ref _, _]) _ _ _); k_dflt (refine' append_led ?Fz9 ?Nz9 ?Uz9 ?zz9 ?_; (case Fz9 => k_asm); (case Nz9 => k_asm); (case Uz9 => k_upd); (case zz9 => ksa_idx); k_whole); intro _ _ _; (try k_sweep)) | (k_here; (with_reducible show wpAny _ _ (call (Value.builtin "len") [Value.ref _]) _ _ _); k_dflt (refine' len_led ?Nz9 ?mz9 ?zz9 ?_; (case Nz9 => k_asm); (case mz9 => k_mem); (case zz9 => ksa_idx); k_whole); intro _ _) | (k_here; (with_reducible show wpAny _ _ (subscriptTail _ _ (Value.ref _) (Value.int _ _)) _ _ _); k_dflt (refine' item_led ?Nz9 ?mz9 ?az9 ?bz9 ?xz9 ?_; (case Nz9 => k_asm); (case mz9 => k_mem); (case az9 => omega); (case bz9 => omega); (case xz9 => assumption))) | (k_end; kc_close) | (k_end; wrow_close) | walk1 | (dsimp only; walk1) | (leave1; (try dsimp only)) | fail "no step"))
      refine' compEnd_app ?F ?N ?h1 ?h2 ?h3 ?hS ?r
      (case F => k_asm); (case N => k_asm)
      (case h1 => (repeat' (first | k_all | (refine all_cons ?_ ?_) | (refine all_app ?_ ?_) | exact all_nil | k_ne)))
      (case h2 => (repeat' (first | k_all | (refine all_cons ?_ ?_) | (refine all_app ?_ ?_) | exact all_nil | k_ne)))
      (case h3 => (repeat' (first | k_all | (refine all_cons ?_ ?_) | (refine all_app ?_ ?_) | exact all_nil | k_ne)))
      (case hS => exact Or.inr ⟨_, (by k_mem), rfl, _, rfl⟩)
      (try dsimp only)
      (repeat' (first | (k_unfold; (try dsimp only)) | (k_here; (with_reducible show wpAny _ _ (call (Value.ref 406) _) _ _ _); k_dflt ((first | (refine' Spec.use (lk_first ?lk ?hin ?hv ?l) ?kB ?kF ?kX ?kN ?kT ?kA ?kf ?kk ?kh ?kd ?ku ?_; (case lk => assumption); (case hv => assumption); (case l => assumption); ktn_step; (case hin => kqd_sub)) | (refine' Spec.use (lk_firstz ?lk ?hin ?hv ?l) ?kB ?kF ?kX ?kN ?kT ?kA ?kf ?kk ?kh ?kd ?ku ?_; (case lk => assumption); ktn_step; (case hv => exact cell_in (by k_mem)); (case l => assumption); (case hin => kqd_sub))); intro v9 post9 h9 tk9 F9 N9 hp9; obtain ⟨new9, e9, fr9, hd9⟩ := hp9; subst e9; (try simp only [List.forall_mem_cons, List.forall_mem_append, List.forall_mem_nil, imp_and, forall_and, and_true, implies_true] at fr9); (repeat (rename _ ∧ _ => hc9; obtain ⟨_, _⟩ := hc9)); (try dsimp only); (try k_fold))) | (k_here; (with_reducible show wpAny _ _ (execs (Stmt.If (Expr.BoolOp _ (Expr.Compare (Expr.Call _ _ _ _) _ _ _ :: _) _) _ _ _ :: _) _) _ _ _); refine stop9c ?_) | (k_here; (with_reducible show wpAny _ _ (call (Value.ref 434) _) _ _ _); k_dflt (refine' Spec.use (lp_next ?lp ?U) ?kB ?kF ?kX ?kN ?kT ?kA ?kf ?kk ?kh ?kd ?ku ?_; (case lp => assumption); ktn_step; (case U => (intro o9; k_upd)); intro v9 post9 h9 tk9 F9 N9 hp9; obtain ⟨o9, e9, lp9, k9, tt9, ev9⟩ := hp9; subst e9; subst ev9; (try dsimp only at N9); (try dsimp only); (try k_fold))) | (k_here; (with_reducible show wpAny _ _ (call (Value.ref 441) _) _ _ _); k_dflt (refine' Spec.use (lp_term ?lp _ ?U ?hin) ?kB ?kF ?kX ?kN ?kT ?kA ?kf ?kk ?kh ?kd ?ku ?_; (case lp => assumption); ktn_step; (case U => (intro o9; k_upd)); (case hin => kqd_sub); intro v9 post9 h9 tk9 F9 N9 hp9; obtain ⟨o9, new9, e9, fr9, lp9, t9, ok9, hd9⟩ := hp9; subst e9; (try simp only [List.forall_mem_cons, List.forall_mem_append, List.forall_mem_nil, imp_and, forall_and, and_true, implies_true] at fr9); (repeat (rename _ ∧ _ => hc9; obtain ⟨_, _⟩ := hc9)); (try dsimp only); (try k_fold))) | (k_here; (with_reducible show wpAny _ _ (call (Value.ref _) _) _ _ _); k_dflt (refine wpAny_call ?_; ( refine' code_def ?k1z9 ?k2z9 ?k3z9 ?k4z9 ?k5z9 ?kAz9 ?kFz9 ?kKz9 ?k6z9 ?k7z9 ?k8z9 ?k9z9 ?kBz9 ?_ ?c2z9 ?c3z9 ?c4z9 ?c5z9; (case kAz9 => first | exact deeper_frames _ (by assumption) | exact deeper_frames _ (deeper_frames _ (by assumption)) | exact deeper_frames _ (deeper_frames _ (deeper_frames _ (by assumption)))); (case kFz9 => exact rfl); (case kKz9 => exact rfl); (case k1z9 => k_asm); (case k2z9 => k_asm); (case k3z9 => k_asm); (case k4z9 => k_asm); (case k5z9 => k_asm); (case k6z9 => k_is); (case k7z9 => k_is); (case k8z9 => k_room); (case k9z9 => exact BindsTo.of_eq rfl); (case c5z9 => decide); (case kBz9 => exact locs rfl); (case c2z9 => exact rfl); (case c3z9 => exact rfl); (case c4z9 => exact rfl); k_whole; intro _ _ _ _ _ _ _ _ _; (with_reducible refine wp_never ?_); (try dsimp only); (try k_fold)))) | (k_here; (with_reducible show wpAny _ _ (setItem (Value.ref _) (Value.int _ _) _) _ _ _); k_dflt (refine' set_led ?Fz9 ?Nz9 ?Uz9 ?az9 ?bz9 ?zz9 ?_; (case Fz9 => k_asm); (case Nz9 => k_asm); (case Uz9 => k_upd); (case az9 => ksa_idx); (case bz9 => ksa_idx); (case zz9 => ksa_idx); k_whole); intro _ _ _; (try k_sweep)) | (k_here; (with_reducible show wpAny _ _ (call (Value.builtin "list.append") [Value.ref _, _]) _ _ _); k_dflt (refine' append_led ?Fz9 ?Nz9 ?Uz9 ?zz9 ?_; (case Fz9 => k_asm); (case Nz9 => k_asm); (case Uz9 => k_upd); (case zz9 => ksa_idx); k_whole); intro _ _ _; (try k_sweep)) | (k_here; (with_reducible show wpAny _ _ (call (Value.builtin "len") [Value.ref _]) _ _ _); k_dflt (refine' len_led ?Nz9 ?mz9 ?zz9 ?_; (case Nz9 => k_asm); (case mz9 => k_mem); (case zz9 => ksa_idx); k_whole); intro _ _) | (k_here; (with_reducible show wpAny _ _ (subscriptTail _ _ (Value.ref _) (Value.int _ _)) _ _ _); k_dflt (refine' item_led ?Nz9 ?mz9 ?az9 ?bz9 ?xz9 ?_; (case Nz9 => k_asm); (case mz9 => k_mem); (case az9 => omega); (case bz9 => omega); (case xz9 => assumption))) | (k_end; kc_close) | (k_end; wrow_close) | walk1 | (dsimp only; walk1) | (leave1; (try dsimp only)) | fail "no step"))
      unfold Stop9
      (rename Fr _ _ _ _ => kF); (rename News _ _ _ _ => kN)
      exact hQ _ _ _ _ kF kN rfl rfl rfl (fun p hp => by simp [hp])))) only [↓wr_true]
end
end
section
theorem walk_off_P36 : True := by
  w_top off
  trivial
theorem stop9d {p : Prop} (h : Stop9 p) : p := h
section
variable {L S H T TL CL HC KL : Addr} {oH oT : Obj} {hs ss : List (Int × Int)} {Z Z' R : List (Addr × Obj)} {v0 v1 u0 u1 k0 k1 : Value} {c0 c1 : Int × Int} {c k n1 n2 n3 : Nat} {t0 t1 : Tm} {vs : List Value}
variable {A : Around} {E : Value → Shared → Prop} {s : Shared} {Q : Value → Shared → Prop} {g : Heap} {m : Str → Option Value}
theorem var_in {D : Addr} {t : Tok} {n : Nat} (hm : (D, tupAt [.str (Str.ofString "var") t] n) ∈ Z) : KyIn Z (.ref D) .var := .inl (.tuple hm (.cons (.str _ _) .nil))
theorem ne_kvar {R1 : List (Addr × Obj)} {x : Value} {D : Addr} {t : Tok} {n : Nat} (X : (hk.heap_1 w.params).In g) (F : Fr g L s.heap m) (N : News g L s.heap Z) (h0 : KyIn R1 x .var) (s1 : ∀ p ∈ R1, p ∈ Z) (hm : (D, tupAt [.str (Str.ofString "var") t] n) ∈ Z) (hu : A.units + 64 < cLine) (h : Q (.bool false) s) : wpAny (model prg w) A (compareOp .NotEq x (.ref D)) Q E s :=
  ne_ky X F N (h0.mono s1) (var_in hm) hu true (decide_eq_true rfl) h
theorem cells_ok : ∀ (hs : List (Int × Int)), kqdOk 9 (.list (hs.map cd)) = true := by
  intro hs
  simp only [kqdOk, List.all_eq_true, List.mem_map]
  rintro d ⟨c, _, rfl⟩
  simp [kqdOk, cd]
theorem ne_lk {Zn : List (Addr × Obj)} (lk : LK w L Z R S H T TL CL HC KL oH oT hs ss u0 u1 c0 c1 v0 v1 t0 t1 c k k0 k1 vs n1 n2 n3) (N : News g L s.heap Zn) (hz : ∀ p ∈ Z, p ∈ Zn) (hu : A.units + 64 < cLine) (h : Q (.bool false) s) : wpAny (model prg w) A (compareOp .NotEq (.ref H) (.ref HC)) Q E s := by
  obtain ⟨vs', n', e, d, _⟩ := lk.lz.ch.out
  have e2 : vs = vs' := by
    have q := lk.eH.symm.trans e
    have q3 := congrArg Obj.data q
    simp [W.listOf] at q3
    exact q3.1
  subst e2
  have ok : ∀ d ∈ hs.map cd, kqdOk 8 d = true := by
    intro d hd
    obtain ⟨c, _, rfl⟩ := List.mem_map.mp hd
    simp [kqdOk, cd]
  obtain ⟨as, ra⟩ := kqd_all N 8 (d.mono fun p hp => hz p (lk.lz.sub p hp)) ok
  have hH : (H, listOf vs.toArray n1) ∈ Zn := hz _ (lk.eH ▸ lk.lz.mH)
  have r1 : Hd s.heap (.ref H) (.list (hs.map cd)) := ⟨_, reads_list_at (N.get hH) rfl rfl (by simpa using ra)⟩
  have r2 : Hd s.heap (.ref HC) (.list (hs.map cd)) := ⟨_, reads_list_at (N.get (hz _ lk.mHC)) rfl rfl (by simpa using ra)⟩
  exact ne_hd r1 r2 (cells_ok hs) (cells_ok hs) hu true ⟨fun _ => rfl, fun _ => rfl⟩ h
end
section
local macro_rules | `(tactic| walk_at "compareOp NotEq ref ref") => `(tactic| (k_here; k_dflt (refine' ne_lk ?lk ?N ?hz ?u ?_; (case lk => assumption); (case N => k_asm); (case hz => kqd_sub); (case u => units_room))))
local macro_rules | `(tactic| walk_at "compareOp NotEq") => `(tactic| (k_here; k_dflt (refine' ne_kvar ?X ?F ?N ?h0 ?s1 ?hm ?u ?_; (case X => k_asm); (case F => k_asm); (case N => k_asm); (case h0 => assumption); (case hm => k_mem); (case s1 => kqd_sub); (case u => units_room))))
theorem seg12 {p : Program} {loose : List Str} {mean : ExcName → Option Value} {mg mb : Str → Option Value} {g h : Heap} {L : Addr} {s : Shared} {tk : Nat} {m : Str → Option Value} {Q : Flow → Shared → Prop}
   (K0 : Below callerA g [] g) (X : (hk.heap_1 w.params).In g) (T9 : Top p loose mean mg mb g) {S H T TL CL : Addr} {oH oT : Obj} {hs ss : List (Int × Int)} {Z R : List (Addr × Obj)} {v0 v1 u0 u1 : Value} {c0 c1 : Int × Int} {c k : Nat} {t0 t1 : Tm} {HC KL : Addr} {k0 k1 : Value} {vs : List Value} {n1 n2 n3 : Nat}
   (F : Fr g L h m) (N : News g L h Z) (hm_terms : m (Str.ofString "terms") = some (.ref TL)) (hm_heap : m (Str.ofString "heap") = some (.ref HC)) (hm_keys : m (Str.ofString "keys") = some (.ref KL)) (lk : LK w L Z R S H T TL CL HC KL oH oT hs ss u0 u1 c0 c1 v0 v1 t0 t1 c k k0 k1 vs n1 n2 n3)
   (l3 : Look hs ss (0, 2) .var)
   (hQ : ∀ h' tk' m' Z', Fr g L h' m' → News g L h' Z' → m' (Str.ofString "terms") = some (.ref TL) → m' (Str.ofString "keys") = some (.ref KL) → (∀ p ∈ Z, p ∈ Z') →
      Stop9 (wpAny (model prg w) (callerA.deeper (lawEnv L)) (execs (lawRest 18) (lawEnv L)) Q (fun _ _ => False) { s with heap := h', toks := tk' })) :
   wpAny (model prg w) (callerA.deeper (lawEnv L)) (execs (lawRest 17) (lawEnv L)) Q (fun _ _ => False) { s with heap := h, toks := tk } := by
  refine wr_mp ?_
  simp (disch := (k_dflt (
      unfold lawEnv prg
      conv in (execs _ _) => arg 1; whnf
      conv in (occs := *) lawDef.2 => all_goals whnf
      revert X
      k_fill
      intro X
      have hl9 : ∀ q ∈ [(Str.ofString "terms", (.ref TL : Value)), (Str.ofString "heap", (.ref HC : Value)), (Str.ofString "keys", (.ref KL : Value))], m q.1 = some q.2 := by
        intro q hq
        simp only [List.mem_cons, List.not_mem_nil, or_false] at hq
        rcases hq with rfl | rfl | rfl
        · exact hm_terms
        · exact hm_heap
        · exact hm_keys
      have F' := fr_stdL F _ hl9
      clear F
      have lz := lk.lz
      obtain ⟨c8, hc1, hd1⟩ := lz.cS
      refine StoreIs.elim lz.st ?_
      intro SD SY TR h1 h2 h3 h4 h5 h6 h7 q1 q2 q3 q4 q5 q6 q7 u2 u3 u4 n hs1 hs2 _
      replace hc1 := lz.sub _ hc1
      replace hs1 := lz.sub _ hs1
      replace hs2 := lz.sub _ hs2
      have m1 := lz.mH
      have m2 := lz.mTL
      have m3 := lz.mCL
      have m4 := lk.mHC
      have m5 := lk.mKL
      have d0 := lz.dv0
      have d1 := lz.dv1
      have d2 := lz.du0
      have d3 := lz.du1
      have zsub := lz.sub
      have i0 : [k0, k1][(0 : Int).toNat]? = some k0 := rfl
      have i1 : [k0, k1][(1 : Int).toNat]? = some k1 := rfl
      have i2 : [v0, v1][(0 : Int).toNat]? = some v0 := rfl
      have i3 : [v0, v1][(1 : Int).toNat]? = some v1 := rfl
      have y0 := lk.dk0
      have y1 := lk.dk1
      (repeat' (first | (k_unfold; (try dsimp only)) | (k_here; (with_reducible show wpAny _ _ (call (Value.ref 406) _) _ _ _); k_dflt ((first | (refine' Spec.use (lk_first ?lk ?hin ?hv ?l) ?kB ?kF ?kX ?kN ?kT ?kA ?kf ?kk ?kh ?kd ?ku ?_; (case lk => assumption); (case hv => assumption); (case l => assumption); ktn_step; (case hin => kqd_sub)) | (refine' Spec.use (lk_firstz ?lk ?hin ?hv ?l) ?kB ?kF ?kX ?kN ?kT ?kA ?kf ?kk ?kh ?kd ?ku ?_; (case lk => assumption); ktn_step; (case hv => exact cell_in (by k_mem)); (case l => assumption); (case hin => kqd_sub))); intro v9 post9 h9 tk9 F9 N9 hp9; obtain ⟨new9, e9, fr9, hd9⟩ := hp9; subst e9; (try simp only [List.forall_mem_cons, List.forall_mem_append, List.forall_mem_nil, imp_and, forall_and, and_true, implies_true] at fr9); (repeat (rename _ ∧ _ => hc9; obtain ⟨_, _⟩ := hc9)); (try dsimp only); (try k_fold))) | (k_here; (with_reducible show wpAny _ _ (execs (Stmt.For (Expr.Name (Str.ofString "place") _) _ _ _ _ :: _) _) _ _ _); refine stop9d ?_) | (k_here; (with_reducible show wpAny _ _ (call (Value.ref 434) _) _ _ _); k_dflt (refine' Spec.use (lp_next ?lp ?U) ?kB ?kF ?kX ?kN ?kT ?kA ?kf ?kk ?kh ?kd ?ku ?_; (case lp => assumption); ktn_step; (case U => (intro o9; k_upd)); intro v9 post9 h9 tk9 F9 N9 hp9; obtain ⟨o9, e9, lp9, k9, tt9, ev9⟩ := hp9; subst e9; subst ev9; (try dsimp only at N9); (try dsimp only); (try k_fold))) | (k_here; (with_reducible show wpAny _ _ (call (Value.ref 441) _) _ _ _); k_dflt (refine' Spec.use (lp_term ?lp _ ?U ?hin) ?kB ?kF ?kX ?kN ?kT ?kA ?kf ?kk ?kh ?kd ?ku ?_; (case lp => assumption); ktn_step; (case U => (intro o9; k_upd)); (case hin => kqd_sub); intro v9 post9 h9 tk9 F9 N9 hp9; obtain ⟨o9, new9, e9, fr9, lp9, t9, ok9, hd9⟩ := hp9; subst e9; (try simp only [List.forall_mem_cons, List.forall_mem_append, List.forall_mem_nil, imp_and, forall_and, and_true, implies_true] at fr9); (repeat (rename _ ∧ _ => hc9; obtain ⟨_, _⟩ := hc9)); (try dsimp only); (try k_fold))) | (k_here; (with_reducible show wpAny _ _ (call (Value.ref _) _) _ _ _); k_dflt (refine wpAny_call ?_; ( refine' code_def ?k1z9 ?k2z9 ?k3z9 ?k4z9 ?k5z9 ?kAz9 ?kFz9 ?kKz9 ?k6z9 ?k7z9 ?k8z9 ?k9z9 ?kBz9 ?_ ?c2z9 ?c3z9 ?c4z9 ?c5z9; (case kAz9 => first | exact deeper_frames _ (by assumption) | exact deeper_frames _ (deeper_frames _ (by assumption)) | exact deeper_frames _ (deeper_frames _ (deeper_frames _ (by assumption)))); (case kFz9 => exact rfl); (case kKz9 => exact rfl); (case k1z9 => k_asm); (case k2z9 => k_asm); (case k3z9 => k_asm); (case k4z9 => k_asm); (case k5z9 => k_asm); (case k6z9 => k_is); (case k7z9 => k_is); (case k8z9 => k_room); (case k9z9 => exact BindsTo.of_eq rfl); (case c5z9 => decide); (case kBz9 => exact locs rfl); (case c2z9 => exact rfl); (case c3z9 => exact rfl); (case c4z9 => exact rfl); k_whole; intro _ _ _ _ _ _ _ _ _; (with_reducible refine wp_never ?_); (try dsimp only); (try k_fold)))) | (k_here; (with_reducible show wpAny _ _ (setItem (Value.ref _) (Value.int _ _) _) _ _ _); k_dflt (refine' set_led ?Fz9 ?Nz9 ?Uz9 ?az9 ?bz9 ?zz9 ?_; (case Fz9 => k_asm); (case Nz9 => k_asm); (case Uz9 => k_upd); (case az9 => ksa_idx); (case bz9 => ksa_idx); (case zz9 => ksa_idx); k_whole); intro _ _ _; (try k_sweep)) | (k_here; (with_reducible show wpAny _ _ (call (Value.builtin "list.append") [Value.ref _, _]) _ _ _); k_dflt (refine' append_led ?Fz9 ?Nz9 ?Uz9 ?zz9 ?_; (case Fz9 => k_asm); (case Nz9 => k_asm); (case Uz9 => k_upd); (case zz9 => ksa_idx); k_whole); intro _ _ _; (try k_sweep)) | (k_here; (with_reducible show wpAny _ _ (call (Value.builtin "len") [Value.ref _]) _ _ _); k_dflt (refine' len_led ?Nz9 ?mz9 ?zz9 ?_; (case Nz9 => k_asm); (case mz9 => k_mem); (case zz9 => ksa_idx); k_whole); intro _ _) | (k_here; (with_reducible show wpAny _ _ (subscriptTail _ _ (Value.ref _) (Value.int _ _)) _ _ _); k_dflt (refine' item_led ?Nz9 ?mz9 ?az9 ?bz9 ?xz9 ?_; (case Nz9 => k_asm); (case mz9 => k_mem); (case az9 => omega); (case bz9 => omega); (case xz9 => assumption))) | (k_end; kc_close) | (k_end; wrow_close) | walk1 | (dsimp only; walk1) | (leave1; (try dsimp only)) | fail "no step"))
      unfold Stop9
      (rename Fr _ _ _ _ => kF); (rename News _ _ _ _ => kN)
      exact hQ _ _ _ _ kF kN rfl rfl (fun p hp => by simp [hp])))) only [↓wr_true]
end
end
section
theorem walk_off_P37 : True := by
  w_top off
  trivial
theorem stop9e {p : Prop} (h : Stop9 p) : p := h
section
variable {Z R : List (Addr × Obj)}
theorem tk_use {rest : List (Addr × Obj)} {v : Value} {t : Tm} (hv : DatIn R v t.d) (hin : ∀ p ∈ R, p ∈ rest) : Spec w 413 [v] rest 5 200 (KyPost rest rest t.key) := termkey_spec v t rest rest (hv.mono hin)
theorem hk_use {rest : List (Addr × Obj)} {x y : Value} {t t' : Tm} {D D1 : Addr} {a b : Tok} {f : Int} {n n' : Nat} (m1 : (D, tupAt [.str (Str.ofString "s") a, .int f b, .ref D1] n) ∈ rest) (m2 : (D1, tupAt [x, y] n') ∈ rest) (hx : DatIn R x t.d) (hy : DatIn R y t'.d) (hin : ∀ p ∈ R, p ∈ rest) : Spec w 420 [.ref D] rest 10 400 (KyPost rest rest t.key) :=
  headkey_spec (.ref D) f t t'.d rest rest (.tuple m1 (.cons (.str _ _) (.cons (.int _ _) (.cons (.tuple m2 (.cons (hx.mono hin) (.cons (hy.mono hin) .nil))) .nil))))
theorem sel13 {v0 v1 k0 k1 : Value} {t0 t1 : Tm} (d0 : DatIn R v0 t0.d) (d1 : DatIn R v1 t1.d) (y0 : KyIn Z k0 t0.key) (y1 : KyIn Z k1 t1.key) (i : Nat) (hi : i < 2) : ∃ (x kx : Value) (t : Tm), [v0, v1][(i : Int).toNat]? = some x ∧ [k0, k1][(i : Int).toNat]? = some kx ∧ DatIn R x t.d ∧ KyIn Z kx t.key := by
  match i, hi with
  | 0, _ => exact ⟨_, _, _, rfl, rfl, d0, y0⟩
  | 1, _ => exact ⟨_, _, _, rfl, rfl, d1, y1⟩
end
section
local macro_rules | `(tactic| walk_at "pyIter ref") => `(tactic| ((with_reducible show wpAny _ _ (pyIter (Value.ref _)) (fun it s₂ => LoopAtV _ _ _ _ _ _ _ _ _ it s₂) _ _); (rename Fr _ _ _ _ => lF'); (rename News _ _ _ _ => lN'); (with_unfolding_all refine iter_rangeUnr (n := 2) (by first | assumption | exact rfl) (by assumption) (by decide) (by decide) lF' lN' ?_); clear lF' lN'; intro i' l1; (try k_lt l1); refine stop9e ?_))
local macro_rules | `(tactic| walk_at "compareOp NotEq ref ref") => `(tactic| (k_here; k_dflt (first
  | (refine' ne_kyl ?X ?F ?N ?ma ?h0 ?s1 ?h1 ?s2 ?hz ?mb ?g0 ?g1 ?u ?_; (case X => k_asm); (case F => k_asm); (case N => k_asm); (case ma => k_mem); (case h0 => assumption); (case h1 => assumption); (case mb => assumption); (case g0 => assumption); (case g1 => assumption); (case s1 => kqd_sub); (case s2 => kqd_sub); (case hz => kqd_sub); (case u => units_room)))))
local macro_rules | `(tactic| walk_at "compareOp NotEq") => `(tactic| (k_here; k_dflt (first
  | (refine' ne_kz ?X ?F ?N ?h0 ?s1 ?hz ?g0 ?u ?_; (case X => k_asm); (case F => k_asm); (case N => k_asm); (case h0 => assumption); (case g0 => assumption); (case s1 => kqd_sub); (case hz => kqd_sub); (case u => units_room)))))
theorem seg13 {p : Program} {loose : List Str} {mean : ExcName → Option Value} {mg mb : Str → Option Value} {g h : Heap} {L : Addr} {s : Shared} {tk : Nat} {m : Str → Option Value} {Q : Flow → Shared → Prop}
   (K0 : Below callerA g [] g) (X : (hk.heap_1 w.params).In g) (T9 : Top p loose mean mg mb g) {S H T TL CL : Addr} {oH oT : Obj} {hs ss : List (Int × Int)} {Z R : List (Addr × Obj)} {v0 v1 u0 u1 : Value} {c0 c1 : Int × Int} {c k : Nat} {t0 t1 : Tm} {HC KL : Addr} {k0 k1 : Value} {vs : List Value} {n1 n2 n3 : Nat}
   (F : Fr g L h m) (N : News g L h Z) (hm_terms : m (Str.ofString "terms") = some (.ref TL)) (hm_keys : m (Str.ofString "keys") = some (.ref KL)) (lk : LK w L Z R S H T TL CL HC KL oH oT hs ss u0 u1 c0 c1 v0 v1 t0 t1 c k k0 k1 vs n1 n2 n3)
   
   (hQ : ∀ h' tk' m' Z', Fr g L h' m' → News g L h' Z' → m' (Str.ofString "terms") = some (.ref TL) → m' (Str.ofString "keys") = some (.ref KL) → (∀ p ∈ Z, p ∈ Z') →
      Stop9 (wpAny (model prg w) (callerA.deeper (lawEnv L)) (execs (lawRest 19) (lawEnv L)) Q (fun _ _ => False) { s with heap := h', toks := tk' })) :
   wpAny (model prg w) (callerA.deeper (lawEnv L)) (execs (lawRest 18) (lawEnv L)) Q (fun _ _ => False) { s with heap := h, toks := tk } := by
  refine wr_mp ?_
  simp (disch := (k_dflt (
      unfold lawEnv prg
      conv in (execs _ _) => arg 1; whnf
      conv in (occs := *) lawDef.2 => all_goals whnf
      revert X
      k_fill
      intro X
      have hl9 : ∀ q ∈ [(Str.ofString "terms", (.ref TL : Value)), (Str.ofString "keys", (.ref KL : Value))], m q.1 = some q.2 := by
        intro q hq
        simp only [List.mem_cons, List.not_mem_nil, or_false] at hq
        rcases hq with rfl | rfl
        · exact hm_terms
        · exact hm_keys
      have F' := fr_stdL F _ hl9
      clear F
      have lz := lk.lz
      obtain ⟨c8, hc1, hd1⟩ := lz.cS
      refine StoreIs.elim lz.st ?_
      intro SD SY TR h1 h2 h3 h4 h5 h6 h7 q1 q2 q3 q4 q5 q6 q7 u2 u3 u4 n hs1 hs2 _
      replace hc1 := lz.sub _ hc1
      replace hs1 := lz.sub _ hs1
      replace hs2 := lz.sub _ hs2
      have m1 := lz.mH
      have m2 := lz.mTL
      have m3 := lz.mCL
      have m4 := lk.mHC
      have m5 := lk.mKL
      have d0 := lz.dv0
      have d1 := lz.dv1
      have d2 := lz.du0
      have d3 := lz.du1
      have zsub := lz.sub
      have i0 : [k0, k1][(0 : Int).toNat]? = some k0 := rfl
      have i1 : [k0, k1][(1 : Int).toNat]? = some k1 := rfl
      have i2 : [v0, v1][(0 : Int).toNat]? = some v0 := rfl
      have i3 : [v0, v1][(1 : Int).toNat]? = some v1 := rfl
      have y0 := lk.dk0
      have y1 := lk.dk1
      have m2t := m2
      clear m2
      (repeat' (first | (k_unfold; (try dsimp only)) | (k_here; (with_reducible show wpAny _ _ (call (Value.ref 420) _) _ _ _); k_dflt (refine' Spec.use (hk_use ?m1 ?m2 ?hx ?hy ?hin) ?kB ?kF ?kX ?kN ?kT ?kA ?kf ?kk ?kh ?kd ?ku ?_; ktn_step; (case m1 => k_mem); (case m2 => k_mem); (case hx => assumption); (case hy => assumption); (case hin => kqd_sub); intro v9 post9 h9 tk9 F9 N9 hp9; obtain ⟨new9, e9, fr9, hd9⟩ := hp9; subst e9; (try simp only [List.forall_mem_cons, List.forall_mem_append, List.forall_mem_nil, imp_and, forall_and, and_true, implies_true] at fr9); (repeat (rename _ ∧ _ => hc9; obtain ⟨_, _⟩ := hc9)); (try dsimp only); (try k_fold))) | (k_here; (with_reducible show wpAny _ _ (call (Value.ref 413) _) _ _ _); k_dflt (refine' Spec.use (tk_use ?hv ?hin) ?kB ?kF ?kX ?kN ?kT ?kA ?kf ?kk ?kh ?kd ?ku ?_; ktn_step; (case hv => assumption); (case hin => kqd_sub); intro v9 post9 h9 tk9 F9 N9 hp9; obtain ⟨new9, e9, fr9, hd9⟩ := hp9; subst e9; (try simp only [List.forall_mem_cons, List.forall_mem_append, List.forall_mem_nil, imp_and, forall_and, and_true, implies_true] at fr9); (repeat (rename _ ∧ _ => hc9; obtain ⟨_, _⟩ := hc9)); (try dsimp only); (try k_fold))) | (k_here; (with_reducible show wpAny _ _ (execs (Stmt.Assign [Expr.Tuple _ _ _] _ _ :: _) _) _ _ _); refine stop9e ?_) | (k_here; (with_reducible show wpAny _ _ (call (Value.ref 434) _) _ _ _); k_dflt (refine' Spec.use (lp_next ?lp ?U) ?kB ?kF ?kX ?kN ?kT ?kA ?kf ?kk ?kh ?kd ?ku ?_; (case lp => assumption); ktn_step; (case U => (intro o9; k_upd)); intro v9 post9 h9 tk9 F9 N9 hp9; obtain ⟨o9, e9, lp9, k9, tt9, ev9⟩ := hp9; subst e9; subst ev9; (try dsimp only at N9); (try dsimp only); (try k_fold))) | (k_here; (with_reducible show wpAny _ _ (call (Value.ref 441) _) _ _ _); k_dflt (refine' Spec.use (lp_term ?lp _ ?U ?hin) ?kB ?kF ?kX ?kN ?kT ?kA ?kf ?kk ?kh ?kd ?ku ?_; (case lp => assumption); ktn_step; (case U => (intro o9; k_upd)); (case hin => kqd_sub); intro v9 post9 h9 tk9 F9 N9 hp9; obtain ⟨o9, new9, e9, fr9, lp9, t9, ok9, hd9⟩ := hp9; subst e9; (try simp only [List.forall_mem_cons, List.forall_mem_append, List.forall_mem_nil, imp_and, forall_and, and_true, implies_true] at fr9); (repeat (rename _ ∧ _ => hc9; obtain ⟨_, _⟩ := hc9)); (try dsimp only); (try k_fold))) | (k_here; (with_reducible show wpAny _ _ (call (Value.ref _) _) _ _ _); k_dflt (refine wpAny_call ?_; ( refine' code_def ?k1z9 ?k2z9 ?k3z9 ?k4z9 ?k5z9 ?kAz9 ?kFz9 ?kKz9 ?k6z9 ?k7z9 ?k8z9 ?k9z9 ?kBz9 ?_ ?c2z9 ?c3z9 ?c4z9 ?c5z9; (case kAz9 => first | exact deeper_frames _ (by assumption) | exact deeper_frames _ (deeper_frames _ (by assumption)) | exact deeper_frames _ (deeper_frames _ (deeper_frames _ (by assumption)))); (case kFz9 => exact rfl); (case kKz9 => exact rfl); (case k1z9 => k_asm); (case k2z9 => k_asm); (case k3z9 => k_asm); (case k4z9 => k_asm); (case k5z9 => k_asm); (case k6z9 => k_is); (case k7z9 => k_is); (case k8z9 => k_room); (case k9z9 => exact BindsTo.of_eq rfl); (case c5z9 => decide); (case kBz9 => exact locs rfl); (case c2z9 => exact rfl); (case c3z9 => exact rfl); (case c4z9 => exact rfl); k_whole; intro _ _ _ _ _ _ _ _ _; (with_reducible refine wp_never ?_); (try dsimp only); (try k_fold)))) | (k_here; (with_reducible show wpAny _ _ (setItem (Value.ref _) (Value.int _ _) _) _ _ _); k_dflt (refine' set_led ?Fz9 ?Nz9 ?Uz9 ?az9 ?bz9 ?zz9 ?_; (case Fz9 => k_asm); (case Nz9 => k_asm); (case Uz9 => k_upd); (case az9 => ksa_idx); (case bz9 => ksa_idx); (case zz9 => ksa_idx); k_whole); intro _ _ _; (try k_sweep)) | (k_here; (with_reducible show wpAny _ _ (call (Value.builtin "list.append") [Value.ref _, _]) _ _ _); k_dflt (refine' append_led ?Fz9 ?Nz9 ?Uz9 ?zz9 ?_; (case Fz9 => k_asm); (case Nz9 => k_asm); (case Uz9 => k_upd); (case zz9 => ksa_idx); k_whole); intro _ _ _; (try k_sweep)) | (k_here; (with_reducible show wpAny _ _ (call (Value.builtin "len") [Value.ref _]) _ _ _); k_dflt (refine' len_led ?Nz9 ?mz9 ?zz9 ?_; (case Nz9 => k_asm); (case mz9 => k_mem); (case zz9 => ksa_idx); k_whole); intro _ _) | (k_here; (with_reducible show wpAny _ _ (subscriptTail _ _ (Value.ref _) (Value.int _ _)) _ _ _); k_dflt (refine' item_led ?Nz9 ?mz9 ?az9 ?bz9 ?xz9 ?_; (case Nz9 => k_asm); (case mz9 => k_mem); (case az9 => omega); (case bz9 => omega); (case xz9 => assumption))) | (k_end; kc_close) | (k_end; wrow_close) | walk1 | (dsimp only; walk1) | (leave1; (try dsimp only)) | fail "no step"))
      unfold Stop9
      rename_i I a1
      have b3 : ∀ p ∈ Z, p.1 ≠ I := off_lt a1
      refine range_led2 (w := w) 2 (fun i m' nx => (∀ p ∈ Z, p ∈ nx) ∧ (∀ p ∈ nx, p.1 ≠ I) ∧ ∀ q ∈ [(Str.ofString "terms", Value.ref TL), (Str.ofString "keys", .ref KL)], m' q.1 = some q.2) ?_ ?_ ?_ 2 0 rfl _ _ ⟨fun _ h => h, b3, fun q hq => ?_⟩
      · rintro i m' nx ⟨_, h, _⟩
        exact h
      · rintro h2 tk2 m7 nx ⟨hz, hI, hr⟩ F2 N2
        have F5 := fr_stdL F2 _ hr
        (repeat' (first | (k_unfold; (try dsimp only)) | (k_here; (with_reducible show wpAny _ _ (call (Value.ref 420) _) _ _ _); k_dflt (refine' Spec.use (hk_use ?m1 ?m2 ?hx ?hy ?hin) ?kB ?kF ?kX ?kN ?kT ?kA ?kf ?kk ?kh ?kd ?ku ?_; ktn_step; (case m1 => k_mem); (case m2 => k_mem); (case hx => assumption); (case hy => assumption); (case hin => kqd_sub); intro v9 post9 h9 tk9 F9 N9 hp9; obtain ⟨new9, e9, fr9, hd9⟩ := hp9; subst e9; (try simp only [List.forall_mem_cons, List.forall_mem_append, List.forall_mem_nil, imp_and, forall_and, and_true, implies_true] at fr9); (repeat (rename _ ∧ _ => hc9; obtain ⟨_, _⟩ := hc9)); (try dsimp only); (try k_fold))) | (k_here; (with_reducible show wpAny _ _ (call (Value.ref 413) _) _ _ _); k_dflt (refine' Spec.use (tk_use ?hv ?hin) ?kB ?kF ?kX ?kN ?kT ?kA ?kf ?kk ?kh ?kd ?ku ?_; ktn_step; (case hv => assumption); (case hin => kqd_sub); intro v9 post9 h9 tk9 F9 N9 hp9; obtain ⟨new9, e9, fr9, hd9⟩ := hp9; subst e9; (try simp only [List.forall_mem_cons, List.forall_mem_append, List.forall_mem_nil, imp_and, forall_and, and_true, implies_true] at fr9); (repeat (rename _ ∧ _ => hc9; obtain ⟨_, _⟩ := hc9)); (try dsimp only); (try k_fold))) | (k_here; (with_reducible show wpAny _ _ (execs (Stmt.Assign [Expr.Tuple _ _ _] _ _ :: _) _) _ _ _); refine stop9e ?_) | (k_here; (with_reducible show wpAny _ _ (call (Value.ref 434) _) _ _ _); k_dflt (refine' Spec.use (lp_next ?lp ?U) ?kB ?kF ?kX ?kN ?kT ?kA ?kf ?kk ?kh ?kd ?ku ?_; (case lp => assumption); ktn_step; (case U => (intro o9; k_upd)); intro v9 post9 h9 tk9 F9 N9 hp9; obtain ⟨o9, e9, lp9, k9, tt9, ev9⟩ := hp9; subst e9; subst ev9; (try dsimp only at N9); (try dsimp only); (try k_fold))) | (k_here; (with_reducible show wpAny _ _ (call (Value.ref 441) _) _ _ _); k_dflt (refine' Spec.use (lp_term ?lp _ ?U ?hin) ?kB ?kF ?kX ?kN ?kT ?kA ?kf ?kk ?kh ?kd ?ku ?_; (case lp => assumption); ktn_step; (case U => (intro o9; k_upd)); (case hin => kqd_sub); intro v9 post9 h9 tk9 F9 N9 hp9; obtain ⟨o9, new9, e9, fr9, lp9, t9, ok9, hd9⟩ := hp9; subst e9; (try simp only [List.forall_mem_cons, List.forall_mem_append, List.forall_mem_nil, imp_and, forall_and, and_true, implies_true] at fr9); (repeat (rename _ ∧ _ => hc9; obtain ⟨_, _⟩ := hc9)); (try dsimp only); (try k_fold))) | (k_here; (with_reducible show wpAny _ _ (call (Value.ref _) _) _ _ _); k_dflt (refine wpAny_call ?_; ( refine' code_def ?k1z9 ?k2z9 ?k3z9 ?k4z9 ?k5z9 ?kAz9 ?kFz9 ?kKz9 ?k6z9 ?k7z9 ?k8z9 ?k9z9 ?kBz9 ?_ ?c2z9 ?c3z9 ?c4z9 ?c5z9; (case kAz9 => first | exact deeper_frames _ (by assumption) | exact deeper_frames _ (deeper_frames _ (by assumption)) | exact deeper_frames _ (deeper_frames _ (deeper_frames _ (by assumption)))); (case kFz9 => exact rfl); (case kKz9 => exact rfl); (case k1z9 => k_asm); (case k2z9 => k_asm); (case k3z9 => k_asm); (case k4z9 => k_asm); (case k5z9 => k_asm); (case k6z9 => k_is); (case k7z9 => k_is); (case k8z9 => k_room); (case k9z9 => exact BindsTo.of_eq rfl); (case c5z9 => decide); (case kBz9 => exact locs rfl); (case c2z9 => exact rfl); (case c3z9 => exact rfl); (case c4z9 => exact rfl); k_whole; intro _ _ _ _ _ _ _ _ _; (with_reducible refine wp_never ?_); (try dsimp only); (try k_fold)))) | (k_here; (with_reducible show wpAny _ _ (setItem (Value.ref _) (Value.int _ _) _) _ _ _); k_dflt (refine' set_led ?Fz9 ?Nz9 ?Uz9 ?az9 ?bz9 ?zz9 ?_; (case Fz9 => k_asm); (case Nz9 => k_asm); (case Uz9 => k_upd); (case az9 => ksa_idx); (case bz9 => ksa_idx); (case zz9 => ksa_idx); k_whole); intro _ _ _; (try k_sweep)) | (k_here; (with_reducible show wpAny _ _ (call (Value.builtin "list.append") [Value.ref _, _]) _ _ _); k_dflt (refine' append_led ?Fz9 ?Nz9 ?Uz9 ?zz9 ?_; (case Fz9 => k_asm); (case Nz9 => k_asm); (case Uz9 => k_upd); (case zz9 => ksa_idx); k_whole); intro _ _ _; (try k_sweep)) | (k_here; (with_reducible show wpAny _ _ (call (Value.builtin "len") [Value.ref _]) _ _ _); k_dflt (refine' len_led ?Nz9 ?mz9 ?zz9 ?_; (case Nz9 => k_asm); (case mz9 => k_mem); (case zz9 => ksa_idx); k_whole); intro _ _) | (k_here; (with_reducible show wpAny _ _ (subscriptTail _ _ (Value.ref _) (Value.int _ _)) _ _ _); k_dflt (refine' item_led ?Nz9 ?mz9 ?az9 ?bz9 ?xz9 ?_; (case Nz9 => k_asm); (case mz9 => k_mem); (case az9 => omega); (case bz9 => omega); (case xz9 => assumption))) | (k_end; kc_close) | (k_end; wrow_close) | walk1 | (dsimp only; walk1) | (leave1; (try dsimp only)) | fail "no step"))
        unfold Stop9
        (rename Fr _ _ _ (stdL _ _) => kF); (rename News _ _ _ _ => kN)
        exact hQ _ _ _ _ kF kN rfl rfl hz
      · rintro i m7 nx h2 tk2 t2 io nio ⟨hz, hI, hr⟩ hi F2 N2
        rename (Fr g L _ (stdL _ _)) => F0
        clear F0
        have hm8 : ∀ q ∈ [(Str.ofString "terms", Value.ref TL), (Str.ofString "keys", .ref KL), (Str.ofString "place", Value.int (0 + (i : Int)) t2)], (fun y => if y = Str.ofString "place" then some (Value.int (0 + (i : Int)) t2) else m7 y) q.1 = some q.2 := by
          intro q hq
          simp only [List.mem_cons, List.not_mem_nil, or_false] at hq
          rcases hq with rfl | rfl | rfl
          · exact hr _ (.head _)
          · exact hr _ (.tail _ (.head _))
          · rfl
        have F5 := fr_stdL F2 _ hm8
        clear F2
        rw [Int.zero_add] at F5
        obtain ⟨x, kx, t, hx, hx2, dx, kx2⟩ := sel13 d0 d1 y0 y1 i hi
        have m8 := hz _ m2t
        have m9 := hz _ m5
        have kx3 := kx2.mono hz
        have zsub2 : ∀ p ∈ R, p ∈ nx := fun p hp => hz p (zsub p hp)
        (repeat' (first | (k_unfold; (try dsimp only)) | (k_here; (with_reducible show wpAny _ _ (call (Value.ref 420) _) _ _ _); k_dflt (refine' Spec.use (hk_use ?m1 ?m2 ?hx ?hy ?hin) ?kB ?kF ?kX ?kN ?kT ?kA ?kf ?kk ?kh ?kd ?ku ?_; ktn_step; (case m1 => k_mem); (case m2 => k_mem); (case hx => assumption); (case hy => assumption); (case hin => kqd_sub); intro v9 post9 h9 tk9 F9 N9 hp9; obtain ⟨new9, e9, fr9, hd9⟩ := hp9; subst e9; (try simp only [List.forall_mem_cons, List.forall_mem_append, List.forall_mem_nil, imp_and, forall_and, and_true, implies_true] at fr9); (repeat (rename _ ∧ _ => hc9; obtain ⟨_, _⟩ := hc9)); (try dsimp only); (try k_fold))) | (k_here; (with_reducible show wpAny _ _ (call (Value.ref 413) _) _ _ _); k_dflt (refine' Spec.use (tk_use ?hv ?hin) ?kB ?kF ?kX ?kN ?kT ?kA ?kf ?kk ?kh ?kd ?ku ?_; ktn_step; (case hv => assumption); (case hin => kqd_sub); intro v9 post9 h9 tk9 F9 N9 hp9; obtain ⟨new9, e9, fr9, hd9⟩ := hp9; subst e9; (try simp only [List.forall_mem_cons, List.forall_mem_append, List.forall_mem_nil, imp_and, forall_and, and_true, implies_true] at fr9); (repeat (rename _ ∧ _ => hc9; obtain ⟨_, _⟩ := hc9)); (try dsimp only); (try k_fold))) | (k_here; (with_reducible show wpAny _ _ (execs (Stmt.Assign [Expr.Tuple _ _ _] _ _ :: _) _) _ _ _); refine stop9e ?_) | (k_here; (with_reducible show wpAny _ _ (call (Value.ref 434) _) _ _ _); k_dflt (refine' Spec.use (lp_next ?lp ?U) ?kB ?kF ?kX ?kN ?kT ?kA ?kf ?kk ?kh ?kd ?ku ?_; (case lp => assumption); ktn_step; (case U => (intro o9; k_upd)); intro v9 post9 h9 tk9 F9 N9 hp9; obtain ⟨o9, e9, lp9, k9, tt9, ev9⟩ := hp9; subst e9; subst ev9; (try dsimp only at N9); (try dsimp only); (try k_fold))) | (k_here; (with_reducible show wpAny _ _ (call (Value.ref 441) _) _ _ _); k_dflt (refine' Spec.use (lp_term ?lp _ ?U ?hin) ?kB ?kF ?kX ?kN ?kT ?kA ?kf ?kk ?kh ?kd ?ku ?_; (case lp => assumption); ktn_step; (case U => (intro o9; k_upd)); (case hin => kqd_sub); intro v9 post9 h9 tk9 F9 N9 hp9; obtain ⟨o9, new9, e9, fr9, lp9, t9, ok9, hd9⟩ := hp9; subst e9; (try simp only [List.forall_mem_cons, List.forall_mem_append, List.forall_mem_nil, imp_and, forall_and, and_true, implies_true] at fr9); (repeat (rename _ ∧ _ => hc9; obtain ⟨_, _⟩ := hc9)); (try dsimp only); (try k_fold))) | (k_here; (with_reducible show wpAny _ _ (call (Value.ref _) _) _ _ _); k_dflt (refine wpAny_call ?_; ( refine' code_def ?k1z9 ?k2z9 ?k3z9 ?k4z9 ?k5z9 ?kAz9 ?kFz9 ?kKz9 ?k6z9 ?k7z9 ?k8z9 ?k9z9 ?kBz9 ?_ ?c2z9 ?c3z9 ?c4z9 ?c5z9; (case kAz9 => first | exact deeper_frames _ (by assumption) | exact deeper_frames _ (deeper_frames _ (by assumption)) | exact deeper_frames _ (deeper_frames _ (deeper_frames _ (by assumption)))); (case kFz9 => exact rfl); (case kKz9 => exact rfl); (case k1z9 => k_asm); (case k2z9 => k_asm); (case k3z9 => k_asm); (case k4z9 => k_asm); (case k5z9 => k_asm); (case k6z9 => k_is); (case k7z9 => k_is); (case k8z9 => k_room); (case k9z9 => exact BindsTo.of_eq rfl); (case c5z9 => decide); (case kBz9 => exact locs rfl); (case c2z9 => exact rfl); (case c3z9 => exact rfl); (case c4z9 => exact rfl); k_whole; intro _ _ _ _ _ _ _ _ _; (with_reducible refine wp_never ?_); (try dsimp only); (try k_fold)))) | (k_here; (with_reducible show wpAny _ _ (setItem (Value.ref _) (Value.int _ _) _) _ _ _); k_dflt (refine' set_led ?Fz9 ?Nz9 ?Uz9 ?az9 ?bz9 ?zz9 ?_; (case Fz9 => k_asm); (case Nz9 => k_asm); (case Uz9 => k_upd); (case az9 => ksa_idx); (case bz9 => ksa_idx); (case zz9 => ksa_idx); k_whole); intro _ _ _; (try k_sweep)) | (k_here; (with_reducible show wpAny _ _ (call (Value.builtin "list.append") [Value.ref _, _]) _ _ _); k_dflt (refine' append_led ?Fz9 ?Nz9 ?Uz9 ?zz9 ?_; (case Fz9 => k_asm); (case Nz9 => k_asm); (case Uz9 => k_upd); (case zz9 => ksa_idx); k_whole); intro _ _ _; (try k_sweep)) | (k_here; (with_reducible show wpAny _ _ (call (Value.builtin "len") [Value.ref _]) _ _ _); k_dflt (refine' len_led ?Nz9 ?mz9 ?zz9 ?_; (case Nz9 => k_asm); (case mz9 => k_mem); (case zz9 => ksa_idx); k_whole); intro _ _) | (k_here; (with_reducible show wpAny _ _ (subscriptTail _ _ (Value.ref _) (Value.int _ _)) _ _ _); k_dflt (refine' item_led ?Nz9 ?mz9 ?az9 ?bz9 ?xz9 ?_; (case Nz9 => k_asm); (case mz9 => k_mem); (case az9 => omega); (case bz9 => omega); (case xz9 => assumption))) | (k_end; kc_close) | (k_end; wrow_close) | walk1 | (dsimp only; walk1) | (leave1; (try dsimp only)) | fail "no step"))
        unfold Stop9
        (rename Fr _ _ _ _ => kF); (rename News _ _ _ _ => kN)
        refine ⟨_, _, _, nx, rfl, kF, News.sub kN (fun p hp => ?_), hz, hI, fun q hq => ?_⟩
        · simp only [List.mem_cons, List.mem_append] at hp ⊢
          rcases hp with hp | hp <;> simp [hp]
        · simp only [List.mem_cons, List.not_mem_nil, or_false] at hq
          rcases hq with rfl | rfl <;> rfl
      · simp only [List.mem_cons, List.not_mem_nil, or_false] at hq
        rcases hq with rfl | rfl <;> rfl))) only [↓wr_true]
end
end
section
theorem walk_off_P38 : True := by
  w_top off
  trivial
theorem stop9f {p : Prop} (h : Stop9 p) : p := h
noncomputable def Tm.kd : Tm → Str
  | .lf (.v _) => Str.ofString "v"
  | .lf (.a _) => Str.ofString "a"
  | .lf (.i _) => Str.ofString "i"
  | .s _ _ => Str.ofString "s"
noncomputable def Tm.num : Tm → Int
  | .lf (.v n) => n
  | .lf (.a n) => n
  | .lf (.i n) => n
  | .s f _ => f
noncomputable def clash (a b : Tm) : Bool := decide (a.kd ≠ Str.ofString "v") && decide (b.kd ≠ Str.ofString "v") && decide (¬ (a.kd = b.kd ∧ a.num = b.num))
theorem cl1 {a b : Tm} (h : (a.kd != Str.ofString "v") = false) : (a.kd != Str.ofString "v") = clash a b := by
  rw [h]; unfold clash
  rw [show decide (a.kd ≠ Str.ofString "v") = false from decide_eq_false (by simpa using h)]; rfl
theorem cl2 {a b : Tm} (h : (b.kd != Str.ofString "v") = false) : (b.kd != Str.ofString "v") = clash a b := by
  rw [h]; unfold clash
  rw [show decide (b.kd ≠ Str.ofString "v") = false from decide_eq_false (by simpa using h), Bool.and_false, Bool.false_and]
theorem cl3 {a b : Tm} (h : (a.kd != Str.ofString "v") = true) (k : (b.kd != Str.ofString "v") = true) : decide (¬ (a.kd = b.kd ∧ a.num = b.num)) = clash a b := by
  unfold clash
  rw [show decide (b.kd ≠ Str.ofString "v") = true from decide_eq_true (by simpa using k), show decide (a.kd ≠ Str.ofString "v") = true from decide_eq_true (by simpa using h)]; rfl
theorem kd_s {a : Tm} (h : a.kd = Str.ofString "s") : (a.kd != Str.ofString "v") = true := by rw [h]; decide +kernel
theorem tm_shape {R : List (Addr × Obj)} {v : Value} {t : Tm} (h : DatIn R v t.d) : (∃ a n tk u, v = .ref a ∧ (a, tupAt [.str t.kd tk, .int t.num u] n) ∈ R) ∨ (∃ a n tk u b, v = .ref a ∧ (a, tupAt [.str (Str.ofString "s") tk, .int t.num u, .ref b] n) ∈ R ∧ t.kd = Str.ofString "s") := by
  rcases t with (n | k | k) | ⟨f, xs⟩
  · obtain ⟨a, n, t, u, e, hm⟩ := dat_ci h; exact .inl ⟨_, _, _, _, e, hm⟩
  · obtain ⟨a, n, t, u, e, hm⟩ := dat_ci h; exact .inl ⟨_, _, _, _, e, hm⟩
  · obtain ⟨a, n, t, u, e, hm⟩ := dat_ci h; exact .inl ⟨_, _, _, _, e, hm⟩
  · obtain ⟨a, n, t, u, b, m, ws, e, hm, hb, hws⟩ := dat_s h
    exact .inr ⟨_, _, _, _, _, e, hm, rfl⟩
theorem Tm.kd_ok (t : Tm) : kqdOk 8 (.str t.kd) = true := by
  rcases t with (n | k | k) | ⟨f, xs⟩ <;> simp [kqdOk, Tm.kd] <;> decide +kernel
theorem ne_pair {A : Around} {E : Value → Shared → Prop} {s : Shared} {Q : Value → Shared → Prop} {g : Heap} {L a b : Addr} {Z : List (Addr × Obj)} {t t' : Tm} {x y : Str} {i j : Int} {k1 k2 k3 k4 : Tok} {n n' : Nat} (N : News g L s.heap Z) (ma : (a, tupAt [.str x k1, .int i k2] n) ∈ Z) (mb : (b, tupAt [.str y k3, .int j k4] n') ∈ Z) (hx : t.kd = x) (hy : t'.kd = y) (hi : t.num = i) (hj : t'.num = j) (hu : A.units + 64 < cLine)
    (h : Q (.bool (decide (¬ (t.kd = t'.kd ∧ t.num = t'.num)))) s) : wpAny (model prg w) A (compareOp .NotEq (.ref a) (.ref b)) Q E s := by
  subst hx hy hi hj
  have ok : ∀ (t : Tm) (m : Nat) , kqdOk 8 (.str t.kd) = true → kqdOk 9 (.tuple [.str t.kd, .int t.num]) = true := fun t _ h => by
    simp only [kqdOk, List.all_cons, List.all_nil, Bool.and_true, Bool.and_eq_true] at h ⊢
    first | exact h | exact ⟨h, trivial⟩ | simp [h]
  have ok8 : ∀ (t : Tm) , kqdOk 8 (.tuple [.str t.kd, .int t.num]) = true := fun t => by
    rcases t with (n | k | k) | ⟨f, xs⟩ <;> simp [kqdOk, Tm.kd] <;> decide +kernel
  have ra : Hd s.heap (.ref a) (.tuple [.str t.kd, .int t.num]) := DatIn.hd N (.tuple ma (.cons (.str _ _) (.cons (.int _ _) .nil))) (ok8 t)
  have rb : Hd s.heap (.ref b) (.tuple [.str t'.kd, .int t'.num]) := DatIn.hd N (.tuple mb (.cons (.str _ _) (.cons (.int _ _) .nil))) (ok8 t')
  refine ne_hd ra rb (ok t 0 t.kd_ok) (ok t' 0 t'.kd_ok) hu (decide (t.kd = t'.kd ∧ t.num = t'.num)) ?_ ?_
  · simp
  · rw [show (!decide (t.kd = t'.kd ∧ t.num = t'.num)) = decide (¬ (t.kd = t'.kd ∧ t.num = t'.num)) from (decide_not).symm]
    exact h
section
local macro_rules | `(tactic| walk_at "compareOp NotEq ref ref") => `(tactic| (k_here; k_dflt (refine' ne_pair ?N ?ma ?mb ?hx ?hy ?hi ?hj ?u ?_; (case N => k_asm); (case ma => k_mem); (case mb => k_mem); (case hi => exact rfl); (case hj => exact rfl); (case hx => first | exact rfl | assumption); (case hy => first | exact rfl | assumption); (case u => units_room))))
theorem seg14 {p : Program} {loose : List Str} {mean : ExcName → Option Value} {mg mb : Str → Option Value} {g h : Heap} {L : Addr} {s : Shared} {tk : Nat} {m : Str → Option Value} {Q : Flow → Shared → Prop}
   (K0 : Below callerA g [] g) (X : (hk.heap_1 w.params).In g) (T9 : Top p loose mean mg mb g) {S H T TL CL : Addr} {oH oT : Obj} {hs ss : List (Int × Int)} {Z R : List (Addr × Obj)} {v0 v1 u0 u1 : Value} {c0 c1 : Int × Int} {c k : Nat} {t0 t1 : Tm} {HC KL : Addr} {k0 k1 : Value} {vs : List Value} {n1 n2 n3 : Nat}
   (F : Fr g L h m) (N : News g L h Z) (hm_terms : m (Str.ofString "terms") = some (.ref TL)) (hm_keys : m (Str.ofString "keys") = some (.ref KL)) (lk : LK w L Z R S H T TL CL HC KL oH oT hs ss u0 u1 c0 c1 v0 v1 t0 t1 c k k0 k1 vs n1 n2 n3)
   
   (hQ : ∀ h' tk' m' Z', Fr g L h' m' → News g L h' Z' → m' (Str.ofString "keys") = some (.ref KL) → m' (Str.ofString "clash") = some (.bool (clash t0 t1)) → (∀ p ∈ Z, p ∈ Z') →
      Stop9 (wpAny (model prg w) (callerA.deeper (lawEnv L)) (execs (lawRest 21) (lawEnv L)) Q (fun _ _ => False) { s with heap := h', toks := tk' })) :
   wpAny (model prg w) (callerA.deeper (lawEnv L)) (execs (lawRest 19) (lawEnv L)) Q (fun _ _ => False) { s with heap := h, toks := tk } := by
  refine wr_mp ?_
  simp (disch := (k_dflt (
      unfold lawEnv prg
      conv in (execs _ _) => arg 1; whnf
      conv in (occs := *) lawDef.2 => all_goals whnf
      revert X
      k_fill
      intro X
      have hl9 : ∀ q ∈ [(Str.ofString "terms", (.ref TL : Value)), (Str.ofString "keys", (.ref KL : Value))], m q.1 = some q.2 := by
        intro q hq
        simp only [List.mem_cons, List.not_mem_nil, or_false] at hq
        rcases hq with rfl | rfl
        · exact hm_terms
        · exact hm_keys
      have F' := fr_stdL F _ hl9
      clear F
      have lz := lk.lz
      obtain ⟨c8, hc1, hd1⟩ := lz.cS
      refine StoreIs.elim lz.st ?_
      intro SD SY TR h1 h2 h3 h4 h5 h6 h7 q1 q2 q3 q4 q5 q6 q7 u2 u3 u4 n hs1 hs2 _
      replace hc1 := lz.sub _ hc1
      replace hs1 := lz.sub _ hs1
      replace hs2 := lz.sub _ hs2
      have m1 := lz.mH
      have m2 := lz.mTL
      have m3 := lz.mCL
      have m4 := lk.mHC
      have m5 := lk.mKL
      have d0 := lz.dv0
      have d1 := lz.dv1
      have d2 := lz.du0
      have d3 := lz.du1
      have zsub := lz.sub
      have i0 : [k0, k1][(0 : Int).toNat]? = some k0 := rfl
      have i1 : [k0, k1][(1 : Int).toNat]? = some k1 := rfl
      have i2 : [v0, v1][(0 : Int).toNat]? = some v0 := rfl
      have i3 : [v0, v1][(1 : Int).toNat]? = some v1 := rfl
      have y0 := lk.dk0
      have y1 := lk.dk1
      rcases tm_shape d0 with ⟨aa, an, atk, au, rfl, am⟩ | ⟨aa, an, atk, au, ab, rfl, am, ak⟩
      all_goals replace am := zsub _ am
      · rcases tm_shape d1 with ⟨ba, bn, btk, bu, rfl, bm⟩ | ⟨ba, bn, btk, bu, bb, rfl, bm, bk⟩
        all_goals replace bm := zsub _ bm
        · (repeat' (first | (k_unfold; (try dsimp only)) | (k_here; (with_reducible show wpAny _ _ (execs (Stmt.If (Expr.BoolOp _ _ _) _ _ _ :: _) _) _ _ _); refine stop9f ?_) | (k_here; (with_reducible show wpAny _ _ (subscriptTail _ (PySem.Expr.Slice _ _ none _) (Value.ref _) (Value.ref _)) _ _ _); k_dflt (refine' tail_t3 ?F ?N ?m ?_; (case F => k_asm); (case N => k_asm); (case m => k_mem)); intro D' h' F' N') | (k_here; (with_reducible show wpAny _ _ (subscriptTail _ (PySem.Expr.Slice _ _ none _) (Value.ref _) (Value.ref _)) _ _ _); k_dflt (refine' tail_t2 ?F ?N ?m ?_; (case F => k_asm); (case N => k_asm); (case m => k_mem)); intro h' F' N') | (k_here; (with_reducible show wpAny _ _ (call (Value.ref 434) _) _ _ _); k_dflt (refine' Spec.use (lp_next ?lp ?U) ?kB ?kF ?kX ?kN ?kT ?kA ?kf ?kk ?kh ?kd ?ku ?_; (case lp => assumption); ktn_step; (case U => (intro o9; k_upd)); intro v9 post9 h9 tk9 F9 N9 hp9; obtain ⟨o9, e9, lp9, k9, tt9, ev9⟩ := hp9; subst e9; subst ev9; (try dsimp only at N9); (try dsimp only); (try k_fold))) | (k_here; (with_reducible show wpAny _ _ (call (Value.ref 441) _) _ _ _); k_dflt (refine' Spec.use (lp_term ?lp _ ?U ?hin) ?kB ?kF ?kX ?kN ?kT ?kA ?kf ?kk ?kh ?kd ?ku ?_; (case lp => assumption); ktn_step; (case U => (intro o9; k_upd)); (case hin => kqd_sub); intro v9 post9 h9 tk9 F9 N9 hp9; obtain ⟨o9, new9, e9, fr9, lp9, t9, ok9, hd9⟩ := hp9; subst e9; (try simp only [List.forall_mem_cons, List.forall_mem_append, List.forall_mem_nil, imp_and, forall_and, and_true, implies_true] at fr9); (repeat (rename _ ∧ _ => hc9; obtain ⟨_, _⟩ := hc9)); (try dsimp only); (try k_fold))) | (k_here; (with_reducible show wpAny _ _ (call (Value.ref _) _) _ _ _); k_dflt (refine wpAny_call ?_; ( refine' code_def ?k1z9 ?k2z9 ?k3z9 ?k4z9 ?k5z9 ?kAz9 ?kFz9 ?kKz9 ?k6z9 ?k7z9 ?k8z9 ?k9z9 ?kBz9 ?_ ?c2z9 ?c3z9 ?c4z9 ?c5z9; (case kAz9 => first | exact deeper_frames _ (by assumption) | exact deeper_frames _ (deeper_frames _ (by assumption)) | exact deeper_frames _ (deeper_frames _ (deeper_frames _ (by assumption)))); (case kFz9 => exact rfl); (case kKz9 => exact rfl); (case k1z9 => k_asm); (case k2z9 => k_asm); (case k3z9 => k_asm); (case k4z9 => k_asm); (case k5z9 => k_asm); (case k6z9 => k_is); (case k7z9 => k_is); (case k8z9 => k_room); (case k9z9 => exact BindsTo.of_eq rfl); (case c5z9 => decide); (case kBz9 => exact locs rfl); (case c2z9 => exact rfl); (case c3z9 => exact rfl); (case c4z9 => exact rfl); k_whole; intro _ _ _ _ _ _ _ _ _; (with_reducible refine wp_never ?_); (try dsimp only); (try k_fold)))) | (k_here; (with_reducible show wpAny _ _ (setItem (Value.ref _) (Value.int _ _) _) _ _ _); k_dflt (refine' set_led ?Fz9 ?Nz9 ?Uz9 ?az9 ?bz9 ?zz9 ?_; (case Fz9 => k_asm); (case Nz9 => k_asm); (case Uz9 => k_upd); (case az9 => ksa_idx); (case bz9 => ksa_idx); (case zz9 => ksa_idx); k_whole); intro _ _ _; (try k_sweep)) | (k_here; (with_reducible show wpAny _ _ (call (Value.builtin "list.append") [Value.ref _, _]) _ _ _); k_dflt (refine' append_led ?Fz9 ?Nz9 ?Uz9 ?zz9 ?_; (case Fz9 => k_asm); (case Nz9 => k_asm); (case Uz9 => k_upd); (case zz9 => ksa_idx); k_whole); intro _ _ _; (try k_sweep)) | (k_here; (with_reducible show wpAny _ _ (call (Value.builtin "len") [Value.ref _]) _ _ _); k_dflt (refine' len_led ?Nz9 ?mz9 ?zz9 ?_; (case Nz9 => k_asm); (case mz9 => k_mem); (case zz9 => ksa_idx); k_whole); intro _ _) | (k_here; (with_reducible show wpAny _ _ (subscriptTail _ _ (Value.ref _) (Value.int _ _)) _ _ _); k_dflt (refine' item_led ?Nz9 ?mz9 ?az9 ?bz9 ?xz9 ?_; (case Nz9 => k_asm); (case mz9 => k_mem); (case az9 => omega); (case bz9 => omega); (case xz9 => assumption))) | (k_end; kc_close) | (k_end; wrow_close) | walk1 | (dsimp only; walk1) | (leave1; (try dsimp only)) | fail "no step"))
          all_goals (unfold Stop9; (rename Fr _ _ _ _ => kF); (rename News _ _ _ _ => kN); refine hQ _ _ _ _ kF kN rfl ?_ (fun p hp => by simp [hp]); show some (Value.bool _) = some (Value.bool _); refine congrArg (fun b => some (Value.bool b)) ?_; first | exact cl3 (by first | assumption | exact kd_s (by assumption)) (by first | assumption | exact kd_s (by assumption)) | exact cl2 (by assumption) | exact cl1 (by assumption))
        · (repeat' (first | (k_unfold; (try dsimp only)) | (k_here; (with_reducible show wpAny _ _ (execs (Stmt.If (Expr.BoolOp _ _ _) _ _ _ :: _) _) _ _ _); refine stop9f ?_) | (k_here; (with_reducible show wpAny _ _ (subscriptTail _ (PySem.Expr.Slice _ _ none _) (Value.ref _) (Value.ref _)) _ _ _); k_dflt (refine' tail_t3 ?F ?N ?m ?_; (case F => k_asm); (case N => k_asm); (case m => k_mem)); intro D' h' F' N') | (k_here; (with_reducible show wpAny _ _ (subscriptTail _ (PySem.Expr.Slice _ _ none _) (Value.ref _) (Value.ref _)) _ _ _); k_dflt (refine' tail_t2 ?F ?N ?m ?_; (case F => k_asm); (case N => k_asm); (case m => k_mem)); intro h' F' N') | (k_here; (with_reducible show wpAny _ _ (call (Value.ref 434) _) _ _ _); k_dflt (refine' Spec.use (lp_next ?lp ?U) ?kB ?kF ?kX ?kN ?kT ?kA ?kf ?kk ?kh ?kd ?ku ?_; (case lp => assumption); ktn_step; (case U => (intro o9; k_upd)); intro v9 post9 h9 tk9 F9 N9 hp9; obtain ⟨o9, e9, lp9, k9, tt9, ev9⟩ := hp9; subst e9; subst ev9; (try dsimp only at N9); (try dsimp only); (try k_fold))) | (k_here; (with_reducible show wpAny _ _ (call (Value.ref 441) _) _ _ _); k_dflt (refine' Spec.use (lp_term ?lp _ ?U ?hin) ?kB ?kF ?kX ?kN ?kT ?kA ?kf ?kk ?kh ?kd ?ku ?_; (case lp => assumption); ktn_step; (case U => (intro o9; k_upd)); (case hin => kqd_sub); intro v9 post9 h9 tk9 F9 N9 hp9; obtain ⟨o9, new9, e9, fr9, lp9, t9, ok9, hd9⟩ := hp9; subst e9; (try simp only [List.forall_mem_cons, List.forall_mem_append, List.forall_mem_nil, imp_and, forall_and, and_true, implies_true] at fr9); (repeat (rename _ ∧ _ => hc9; obtain ⟨_, _⟩ := hc9)); (try dsimp only); (try k_fold))) | (k_here; (with_reducible show wpAny _ _ (call (Value.ref _) _) _ _ _); k_dflt (refine wpAny_call ?_; ( refine' code_def ?k1z9 ?k2z9 ?k3z9 ?k4z9 ?k5z9 ?kAz9 ?kFz9 ?kKz9 ?k6z9 ?k7z9 ?k8z9 ?k9z9 ?kBz9 ?_ ?c2z9 ?c3z9 ?c4z9 ?c5z9; (case kAz9 => first | exact deeper_frames _ (by assumption) | exact deeper_frames _ (deeper_frames _ (by assumption)) | exact deeper_frames _ (deeper_frames _ (deeper_frames _ (by assumption)))); (case kFz9 => exact rfl); (case kKz9 => exact rfl); (case k1z9 => k_asm); (case k2z9 => k_asm); (case k3z9 => k_asm); (case k4z9 => k_asm); (case k5z9 => k_asm); (case k6z9 => k_is); (case k7z9 => k_is); (case k8z9 => k_room); (case k9z9 => exact BindsTo.of_eq rfl); (case c5z9 => decide); (case kBz9 => exact locs rfl); (case c2z9 => exact rfl); (case c3z9 => exact rfl); (case c4z9 => exact rfl); k_whole; intro _ _ _ _ _ _ _ _ _; (with_reducible refine wp_never ?_); (try dsimp only); (try k_fold)))) | (k_here; (with_reducible show wpAny _ _ (setItem (Value.ref _) (Value.int _ _) _) _ _ _); k_dflt (refine' set_led ?Fz9 ?Nz9 ?Uz9 ?az9 ?bz9 ?zz9 ?_; (case Fz9 => k_asm); (case Nz9 => k_asm); (case Uz9 => k_upd); (case az9 => ksa_idx); (case bz9 => ksa_idx); (case zz9 => ksa_idx); k_whole); intro _ _ _; (try k_sweep)) | (k_here; (with_reducible show wpAny _ _ (call (Value.builtin "list.append") [Value.ref _, _]) _ _ _); k_dflt (refine' append_led ?Fz9 ?Nz9 ?Uz9 ?zz9 ?_; (case Fz9 => k_asm); (case Nz9 => k_asm); (case Uz9 => k_upd); (case zz9 => ksa_idx); k_whole); intro _ _ _; (try k_sweep)) | (k_here; (with_reducible show wpAny _ _ (call (Value.builtin "len") [Value.ref _]) _ _ _); k_dflt (refine' len_led ?Nz9 ?mz9 ?zz9 ?_; (case Nz9 => k_asm); (case mz9 => k_mem); (case zz9 => ksa_idx); k_whole); intro _ _) | (k_here; (with_reducible show wpAny _ _ (subscriptTail _ _ (Value.ref _) (Value.int _ _)) _ _ _); k_dflt (refine' item_led ?Nz9 ?mz9 ?az9 ?bz9 ?xz9 ?_; (case Nz9 => k_asm); (case mz9 => k_mem); (case az9 => omega); (case bz9 => omega); (case xz9 => assumption))) | (k_end; kc_close) | (k_end; wrow_close) | walk1 | (dsimp only; walk1) | (leave1; (try dsimp only)) | fail "no step"))
          all_goals (unfold Stop9; (rename Fr _ _ _ _ => kF); (rename News _ _ _ _ => kN); refine hQ _ _ _ _ kF kN rfl ?_ (fun p hp => by simp [hp]); show some (Value.bool _) = some (Value.bool _); refine congrArg (fun b => some (Value.bool b)) ?_; first | exact cl3 (by first | assumption | exact kd_s (by assumption)) (by first | assumption | exact kd_s (by assumption)) | exact cl2 (by assumption) | exact cl1 (by assumption))
      · rcases tm_shape d1 with ⟨ba, bn, btk, bu, rfl, bm⟩ | ⟨ba, bn, btk, bu, bb, rfl, bm, bk⟩
        all_goals replace bm := zsub _ bm
        · (repeat' (first | (k_unfold; (try dsimp only)) | (k_here; (with_reducible show wpAny _ _ (execs (Stmt.If (Expr.BoolOp _ _ _) _ _ _ :: _) _) _ _ _); refine stop9f ?_) | (k_here; (with_reducible show wpAny _ _ (subscriptTail _ (PySem.Expr.Slice _ _ none _) (Value.ref _) (Value.ref _)) _ _ _); k_dflt (refine' tail_t3 ?F ?N ?m ?_; (case F => k_asm); (case N => k_asm); (case m => k_mem)); intro D' h' F' N') | (k_here; (with_reducible show wpAny _ _ (subscriptTail _ (PySem.Expr.Slice _ _ none _) (Value.ref _) (Value.ref _)) _ _ _); k_dflt (refine' tail_t2 ?F ?N ?m ?_; (case F => k_asm); (case N => k_asm); (case m => k_mem)); intro h' F' N') | (k_here; (with_reducible show wpAny _ _ (call (Value.ref 434) _) _ _ _); k_dflt (refine' Spec.use (lp_next ?lp ?U) ?kB ?kF ?kX ?kN ?kT ?kA ?kf ?kk ?kh ?kd ?ku ?_; (case lp => assumption); ktn_step; (case U => (intro o9; k_upd)); intro v9 post9 h9 tk9 F9 N9 hp9; obtain ⟨o9, e9, lp9, k9, tt9, ev9⟩ := hp9; subst e9; subst ev9; (try dsimp only at N9); (try dsimp only); (try k_fold))) | (k_here; (with_reducible show wpAny _ _ (call (Value.ref 441) _) _ _ _); k_dflt (refine' Spec.use (lp_term ?lp _ ?U ?hin) ?kB ?kF ?kX ?kN ?kT ?kA ?kf ?kk ?kh ?kd ?ku ?_; (case lp => assumption); ktn_step; (case U => (intro o9; k_upd)); (case hin => kqd_sub); intro v9 post9 h9 tk9 F9 N9 hp9; obtain ⟨o9, new9, e9, fr9, lp9, t9, ok9, hd9⟩ := hp9; subst e9; (try simp only [List.forall_mem_cons, List.forall_mem_append, List.forall_mem_nil, imp_and, forall_and, and_true, implies_true] at fr9); (repeat (rename _ ∧ _ => hc9; obtain ⟨_, _⟩ := hc9)); (try dsimp only); (try k_fold))) | (k_here; (with_reducible show wpAny _ _ (call (Value.ref _) _) _ _ _); k_dflt (refine wpAny_call ?_; ( refine' code_def ?k1z9 ?k2z9 ?k3z9 ?k4z9 ?k5z9 ?kAz9 ?kFz9 ?kKz9 ?k6z9 ?k7z9 ?k8z9 ?k9z9 ?kBz9 ?_ ?c2z9 ?c3z9 ?c4z9 ?c5z9; (case kAz9 => first | exact deeper_frames _ (by assumption) | exact deeper_frames _ (deeper_frames _ (by assumption)) | exact deeper_frames _ (deeper_frames _ (deeper_frames _ (by assumption)))); (case kFz9 => exact rfl); (case kKz9 => exact rfl); (case k1z9 => k_asm); (case k2z9 => k_asm); (case k3z9 => k_asm); (case k4z9 => k_asm); (case k5z9 => k_asm); (case k6z9 => k_is); (case k7z9 => k_is); (case k8z9 => k_room); (case k9z9 => exact BindsTo.of_eq rfl); (case c5z9 => decide); (case kBz9 => exact locs rfl); (case c2z9 => exact rfl); (case c3z9 => exact rfl); (case c4z9 => exact rfl); k_whole; intro _ _ _ _ _ _ _ _ _; (with_reducible refine wp_never ?_); (try dsimp only); (try k_fold)))) | (k_here; (with_reducible show wpAny _ _ (setItem (Value.ref _) (Value.int _ _) _) _ _ _); k_dflt (refine' set_led ?Fz9 ?Nz9 ?Uz9 ?az9 ?bz9 ?zz9 ?_; (case Fz9 => k_asm); (case Nz9 => k_asm); (case Uz9 => k_upd); (case az9 => ksa_idx); (case bz9 => ksa_idx); (case zz9 => ksa_idx); k_whole); intro _ _ _; (try k_sweep)) | (k_here; (with_reducible show wpAny _ _ (call (Value.builtin "list.append") [Value.ref _, _]) _ _ _); k_dflt (refine' append_led ?Fz9 ?Nz9 ?Uz9 ?zz9 ?_; (case Fz9 => k_asm); (case Nz9 => k_asm); (case Uz9 => k_upd); (case zz9 => ksa_idx); k_whole); intro _ _ _; (try k_sweep)) | (k_here; (with_reducible show wpAny _ _ (call (Value.builtin "len") [Value.ref _]) _ _ _); k_dflt (refine' len_led ?Nz9 ?mz9 ?zz9 ?_; (case Nz9 => k_asm); (case mz9 => k_mem); (case zz9 => ksa_idx); k_whole); intro _ _) | (k_here; (with_reducible show wpAny _ _ (subscriptTail _ _ (Value.ref _) (Value.int _ _)) _ _ _); k_dflt (refine' item_led ?Nz9 ?mz9 ?az9 ?bz9 ?xz9 ?_; (case Nz9 => k_asm); (case mz9 => k_mem); (case az9 => omega); (case bz9 => omega); (case xz9 => assumption))) | (k_end; kc_close) | (k_end; wrow_close) | walk1 | (dsimp only; walk1) | (leave1; (try dsimp only)) | fail "no step"))
          all_goals (unfold Stop9; (rename Fr _ _ _ _ => kF); (rename News _ _ _ _ => kN); refine hQ _ _ _ _ kF kN rfl ?_ (fun p hp => by simp [hp]); show some (Value.bool _) = some (Value.bool _); refine congrArg (fun b => some (Value.bool b)) ?_; first | exact cl3 (by first | assumption | exact kd_s (by assumption)) (by first | assumption | exact kd_s (by assumption)) | exact cl2 (by assumption) | exact cl1 (by assumption))
        · (repeat' (first | (k_unfold; (try dsimp only)) | (k_here; (with_reducible show wpAny _ _ (execs (Stmt.If (Expr.BoolOp _ _ _) _ _ _ :: _) _) _ _ _); refine stop9f ?_) | (k_here; (with_reducible show wpAny _ _ (subscriptTail _ (PySem.Expr.Slice _ _ none _) (Value.ref _) (Value.ref _)) _ _ _); k_dflt (refine' tail_t3 ?F ?N ?m ?_; (case F => k_asm); (case N => k_asm); (case m => k_mem)); intro D' h' F' N') | (k_here; (with_reducible show wpAny _ _ (subscriptTail _ (PySem.Expr.Slice _ _ none _) (Value.ref _) (Value.ref _)) _ _ _); k_dflt (refine' tail_t2 ?F ?N ?m ?_; (case F => k_asm); (case N => k_asm); (case m => k_mem)); intro h' F' N') | (k_here; (with_reducible show wpAny _ _ (call (Value.ref 434) _) _ _ _); k_dflt (refine' Spec.use (lp_next ?lp ?U) ?kB ?kF ?kX ?kN ?kT ?kA ?kf ?kk ?kh ?kd ?ku ?_; (case lp => assumption); ktn_step; (case U => (intro o9; k_upd)); intro v9 post9 h9 tk9 F9 N9 hp9; obtain ⟨o9, e9, lp9, k9, tt9, ev9⟩ := hp9; subst e9; subst ev9; (try dsimp only at N9); (try dsimp only); (try k_fold))) | (k_here; (with_reducible show wpAny _ _ (call (Value.ref 441) _) _ _ _); k_dflt (refine' Spec.use (lp_term ?lp _ ?U ?hin) ?kB ?kF ?kX ?kN ?kT ?kA ?kf ?kk ?kh ?kd ?ku ?_; (case lp => assumption); ktn_step; (case U => (intro o9; k_upd)); (case hin => kqd_sub); intro v9 post9 h9 tk9 F9 N9 hp9; obtain ⟨o9, new9, e9, fr9, lp9, t9, ok9, hd9⟩ := hp9; subst e9; (try simp only [List.forall_mem_cons, List.forall_mem_append, List.forall_mem_nil, imp_and, forall_and, and_true, implies_true] at fr9); (repeat (rename _ ∧ _ => hc9; obtain ⟨_, _⟩ := hc9)); (try dsimp only); (try k_fold))) | (k_here; (with_reducible show wpAny _ _ (call (Value.ref _) _) _ _ _); k_dflt (refine wpAny_call ?_; ( refine' code_def ?k1z9 ?k2z9 ?k3z9 ?k4z9 ?k5z9 ?kAz9 ?kFz9 ?kKz9 ?k6z9 ?k7z9 ?k8z9 ?k9z9 ?kBz9 ?_ ?c2z9 ?c3z9 ?c4z9 ?c5z9; (case kAz9 => first | exact deeper_frames _ (by assumption) | exact deeper_frames _ (deeper_frames _ (by assumption)) | exact deeper_frames _ (deeper_frames _ (deeper_frames _ (by assumption)))); (case kFz9 => exact rfl); (case kKz9 => exact rfl); (case k1z9 => k_asm); (case k2z9 => k_asm); (case k3z9 => k_asm); (case k4z9 => k_asm); (case k5z9 => k_asm); (case k6z9 => k_is); (case k7z9 => k_is); (case k8z9 => k_room); (case k9z9 => exact BindsTo.of_eq rfl); (case c5z9 => decide); (case kBz9 => exact locs rfl); (case c2z9 => exact rfl); (case c3z9 => exact rfl); (case c4z9 => exact rfl); k_whole; intro _ _ _ _ _ _ _ _ _; (with_reducible refine wp_never ?_); (try dsimp only); (try k_fold)))) | (k_here; (with_reducible show wpAny _ _ (setItem (Value.ref _) (Value.int _ _) _) _ _ _); k_dflt (refine' set_led ?Fz9 ?Nz9 ?Uz9 ?az9 ?bz9 ?zz9 ?_; (case Fz9 => k_asm); (case Nz9 => k_asm); (case Uz9 => k_upd); (case az9 => ksa_idx); (case bz9 => ksa_idx); (case zz9 => ksa_idx); k_whole); intro _ _ _; (try k_sweep)) | (k_here; (with_reducible show wpAny _ _ (call (Value.builtin "list.append") [Value.ref _, _]) _ _ _); k_dflt (refine' append_led ?Fz9 ?Nz9 ?Uz9 ?zz9 ?_; (case Fz9 => k_asm); (case Nz9 => k_asm); (case Uz9 => k_upd); (case zz9 => ksa_idx); k_whole); intro _ _ _; (try k_sweep)) | (k_here; (with_reducible show wpAny _ _ (call (Value.builtin "len") [Value.ref _]) _ _ _); k_dflt (refine' len_led ?Nz9 ?mz9 ?zz9 ?_; (case Nz9 => k_asm); (case mz9 => k_mem); (case zz9 => ksa_idx); k_whole); intro _ _) | (k_here; (with_reducible show wpAny _ _ (subscriptTail _ _ (Value.ref _) (Value.int _ _)) _ _ _); k_dflt (refine' item_led ?Nz9 ?mz9 ?az9 ?bz9 ?xz9 ?_; (case Nz9 => k_asm); (case mz9 => k_mem); (case az9 => omega); (case bz9 => omega); (case xz9 => assumption))) | (k_end; kc_close) | (k_end; wrow_close) | walk1 | (dsimp only; walk1) | (leave1; (try dsimp only)) | fail "no step"))
          all_goals (unfold Stop9; (rename Fr _ _ _ _ => kF); (rename News _ _ _ _ => kN); refine hQ _ _ _ _ kF kN rfl ?_ (fun p hp => by simp [hp]); show some (Value.bool _) = some (Value.bool _); refine congrArg (fun b => some (Value.bool b)) ?_; first | exact cl3 (by first | assumption | exact kd_s (by assumption)) (by first | assumption | exact kd_s (by assumption)) | exact cl2 (by assumption) | exact cl1 (by assumption))))) only [↓wr_true]
end
end
section
theorem walk_off_P39 : True := by
  w_top off
  trivial
theorem stop9g {p : Prop} (h : Stop9 p) : p := h
theorem Tm.key_var (t : Tm) : (t.key = .var) ↔ t.kd = Str.ofString "v" := by
  rcases t with (n | k | k) | ⟨f, xs⟩
  · exact ⟨fun _ => rfl, fun _ => rfl⟩
  · exact ⟨fun h => (nomatch h), fun h => absurd h (by simp only [Tm.kd]; decide +kernel)⟩
  · exact ⟨fun h => (nomatch h), fun h => absurd h (by simp only [Tm.kd]; decide +kernel)⟩
  · refine ⟨fun h => ?_, fun h => absurd h (by simp only [Tm.kd]; decide +kernel)⟩
    simp only [Tm.key] at h
    split at h <;> exact nomatch h
theorem Tm.key_eq {t t' : Tm} (h : t.kd ≠ Str.ofString "v") (h' : t'.kd ≠ Str.ofString "v") : (t.key = t'.key) ↔ (t.kd = t'.kd ∧ t.num = t'.num) := by
  have n1 : Str.ofString "a" ≠ Str.ofString "i" := by decide +kernel
  have n2 : Str.ofString "a" ≠ Str.ofString "s" := by decide +kernel
  have n3 : Str.ofString "i" ≠ Str.ofString "s" := by decide +kernel
  rcases t with (n | k | k) | ⟨f, xs⟩
  · exact absurd rfl h
  · rcases t' with (n' | k' | k') | ⟨f', xs'⟩
    · exact absurd rfl h'
    · simp [Tm.key, Tm.kd, Tm.num]
    · simp [Tm.key, Tm.kd, Tm.num, n1]
    · simp only [Tm.key, Tm.kd, Tm.num, n2, false_and, iff_false]
      split <;> simp
  · rcases t' with (n' | k' | k') | ⟨f', xs'⟩
    · exact absurd rfl h'
    · simp [Tm.key, Tm.kd, Tm.num, n1.symm]
    · simp [Tm.key, Tm.kd, Tm.num]
    · simp only [Tm.key, Tm.kd, Tm.num, n3, false_and, iff_false]
      split <;> simp
  · rcases t' with (n' | k' | k') | ⟨f', xs'⟩
    · exact absurd rfl h'
    · simp only [Tm.key, Tm.kd, Tm.num, n2.symm, false_and, iff_false]
      split <;> simp
    · simp only [Tm.key, Tm.kd, Tm.num, n3.symm, false_and, iff_false]
      split <;> simp
    · simp only [Tm.key, Tm.kd, Tm.num, true_and]
      by_cases e : f = 0
      · by_cases e' : f' = 0
        · simp [e, e']
        · simp [e, e']; exact fun q => e' q.symm
      · by_cases e' : f' = 0
        · simp [e, e']
        · simp [e, e']
theorem match_clash (t t' : Tm) : (decide (t.key = .var) || decide (t'.key = .var) || decide (t.key = t'.key)) = !clash t t' := by
  unfold clash
  by_cases h : t.kd = Str.ofString "v"
  · simp [(Tm.key_var t).mpr h, h]
  · by_cases h' : t'.kd = Str.ofString "v"
    · simp [(Tm.key_var t').mpr h', h']
    · have a := mt (Tm.key_var t).mp h
      have b := mt (Tm.key_var t').mp h'
      have c := Tm.key_eq h h'
      rw [decide_eq_false a, decide_eq_false b, decide_eq_true h, decide_eq_true h', Bool.false_or, Bool.false_or, Bool.true_and, Bool.true_and, decide_not, Bool.not_not]
      exact decide_eq_decide.mpr c
theorem clash_symm (t t' : Tm) : clash t t' = clash t' t := by
  have h : (decide (t.key = .var) || decide (t'.key = .var) || decide (t.key = t'.key)) = (decide (t'.key = .var) || decide (t.key = .var) || decide (t'.key = t.key)) := by
    rw [Bool.or_comm (decide (t.key = .var))]
    congr 1
    exact decide_eq_decide.mpr ⟨Eq.symm, Eq.symm⟩
  rw [match_clash, match_clash] at h
  exact Bool.not_inj h
theorem match_use {Z rest : List (Addr × Obj)} {v v' : Value} {t t' : Tm} {cl : Bool} (ha : KyIn Z v t.key) (hb : KyIn Z v' t'.key) (hin : ∀ p ∈ Z, p ∈ rest) (e : clash t t' = cl) : Spec w 399 [v, v'] rest 3 200 (fun r post => r = .bool (!cl) ∧ post = rest) :=
  (matching_spec v v' t.key t'.key rest (ha.mono hin) (hb.mono hin)).mono (Nat.le_refl _) (Nat.le_refl _) fun r post h => by rw [h.1, h.2, match_clash, e]; exact ⟨rfl, rfl⟩
theorem hka_use {rest : List (Addr × Obj)} {D : Addr} {a b : Tok} {k : Int} {n : Nat} (m1 : (D, tupAt [.str (Str.ofString "a") a, .int k b] n) ∈ rest) : Spec w 420 [.ref D] rest 10 400 (KyPost rest rest .var) :=
  headatom_spec (.ref D) k rest rest (.tuple m1 (.cons (.str _ _) (.cons (.int _ _) .nil)))
theorem eq_kvar {A : Around} {E : Value → Shared → Prop} {s : Shared} {Q : Value → Shared → Prop} {g : Heap} {L : Addr} {m : Str → Option Value} {Z R1 : List (Addr × Obj)} {x : Value} {D : Addr} {t : Tok} {n : Nat} (X : (hk.heap_1 w.params).In g) (F : Fr g L s.heap m) (N : News g L s.heap Z) (h0 : KyIn R1 x .var) (s1 : ∀ p ∈ R1, p ∈ Z) (hm : (D, tupAt [.str (Str.ofString "var") t] n) ∈ Z) (hu : A.units + 64 < cLine) (h : Q (.bool true) s) : wpAny (model prg w) A (compareOp .Eq x (.ref D)) Q E s :=
  eq_ky X F N (h0.mono s1) (var_in hm) hu true (decide_eq_true rfl) h
section
local macro_rules | `(tactic| walk_at "compareOp Eq") => `(tactic| (k_here; k_dflt (refine' eq_kvar ?X ?F ?N ?h0 ?s1 ?hm ?u ?_; (case X => k_asm); (case F => k_asm); (case N => k_asm); (case h0 => assumption); (case hm => k_mem); (case s1 => kqd_sub); (case u => units_room))))
local macro_rules | `(tactic| walk_at "zz3") => `(tactic| skip)
theorem seg15 {p : Program} {loose : List Str} {mean : ExcName → Option Value} {mg mb : Str → Option Value} {g h : Heap} {L : Addr} {s : Shared} {tk : Nat} {m : Str → Option Value} {Q : Flow → Shared → Prop}
   (K0 : Below callerA g [] g) (X : (hk.heap_1 w.params).In g) (T9 : Top p loose mean mg mb g) {S H T TL CL : Addr} {oH oT : Obj} {hs ss : List (Int × Int)} {Z R : List (Addr × Obj)} {v0 v1 u0 u1 : Value} {c0 c1 : Int × Int} {c k : Nat} {t0 t1 : Tm} {HC KL : Addr} {k0 k1 : Value} {vs : List Value} {n1 n2 n3 : Nat}
   (F : Fr g L h m) (N : News g L h Z) (hm_keys : m (Str.ofString "keys") = some (.ref KL)) (lk : LK w L Z R S H T TL CL HC KL oH oT hs ss u0 u1 c0 c1 v0 v1 t0 t1 c k k0 k1 vs n1 n2 n3)
   {cl : Bool} (hcl : clash t0 t1 = cl) (hm_clash : m (Str.ofString "clash") = some (.bool cl))
   (hQ : ∀ h' tk' m' Z', Fr g L h' m' → News g L h' Z' → Q (.ret (.bool true)) { s with heap := h', toks := tk' }) :
   wpAny (model prg w) (callerA.deeper (lawEnv L)) (execs (lawRest 21) (lawEnv L)) Q (fun _ _ => False) { s with heap := h, toks := tk } := by
  refine wr_mp ?_
  simp (disch := (k_dflt (
      unfold lawEnv prg
      conv in (execs _ _) => arg 1; whnf
      conv in (occs := *) lawDef.2 => all_goals whnf
      revert X
      k_fill
      intro X
      have cs := (clash_symm t1 t0).trans hcl
      have hl9 : ∀ q ∈ [(Str.ofString "keys", (.ref KL : Value)), (Str.ofString "clash", (.bool cl : Value))], m q.1 = some q.2 := by
        intro q hq
        simp only [List.mem_cons, List.not_mem_nil, or_false] at hq
        rcases hq with rfl | rfl
        · exact hm_keys
        · exact hm_clash
      have F' := fr_stdL F _ hl9
      clear F
      have lz := lk.lz
      obtain ⟨c8, hc1, hd1⟩ := lz.cS
      refine StoreIs.elim lz.st ?_
      intro SD SY TR h1 h2 h3 h4 h5 h6 h7 q1 q2 q3 q4 q5 q6 q7 u2 u3 u4 n hs1 hs2 _
      replace hc1 := lz.sub _ hc1
      replace hs1 := lz.sub _ hs1
      replace hs2 := lz.sub _ hs2
      have m1 := lz.mH
      have m2 := lz.mTL
      have m3 := lz.mCL
      have m4 := lk.mHC
      have m5 := lk.mKL
      have d0 := lz.dv0
      have d1 := lz.dv1
      have d2 := lz.du0
      have d3 := lz.du1
      have zsub := lz.sub
      have i0 : [k0, k1][(0 : Int).toNat]? = some k0 := rfl
      have i1 : [k0, k1][(1 : Int).toNat]? = some k1 := rfl
      have i2 : [v0, v1][(0 : Int).toNat]? = some v0 := rfl
      have i3 : [v0, v1][(1 : Int).toNat]? = some v1 := rfl
      have y0 := lk.dk0
      have y1 := lk.dk1
      cases cl
      all_goals (repeat' (first | (k_unfold; (try dsimp only)) | (k_here; (with_reducible show wpAny _ _ (call (Value.ref 420) _) _ _ _); k_dflt (refine' Spec.use (hka_use ?m1) ?kB ?kF ?kX ?kN ?kT ?kA ?kf ?kk ?kh ?kd ?ku ?_; ktn_step; (case m1 => k_mem); intro v9 post9 h9 tk9 F9 N9 hp9; obtain ⟨new9, e9, fr9, hd9⟩ := hp9; subst e9; (try simp only [List.forall_mem_cons, List.forall_mem_append, List.forall_mem_nil, imp_and, forall_and, and_true, implies_true] at fr9); (repeat (rename _ ∧ _ => hc9; obtain ⟨_, _⟩ := hc9)); (try dsimp only); (try k_fold))) | (k_here; (with_reducible show wpAny _ _ (call (Value.ref 399) _) _ _ _); k_dflt (refine' Spec.use (match_use ?ha ?hb ?hin ?e) ?kB ?kF ?kX ?kN ?kT ?kA ?kf ?kk ?kh ?kd ?ku ?_; ktn_step; (case ha => assumption); (case hb => assumption); (case e => assumption); (case hin => kqd_sub); intro v9 post9 h9 tk9 F9 N9 hp9; obtain ⟨ev9, e9⟩ := hp9; subst e9; subst ev9; (try dsimp only); (try k_fold))) | (k_here; (with_reducible show wpAny _ _ (call (Value.ref 434) _) _ _ _); k_dflt (refine' Spec.use (lp_next ?lp ?U) ?kB ?kF ?kX ?kN ?kT ?kA ?kf ?kk ?kh ?kd ?ku ?_; (case lp => assumption); ktn_step; (case U => (intro o9; k_upd)); intro v9 post9 h9 tk9 F9 N9 hp9; obtain ⟨o9, e9, lp9, k9, tt9, ev9⟩ := hp9; subst e9; subst ev9; (try dsimp only at N9); (try dsimp only); (try k_fold))) | (k_here; (with_reducible show wpAny _ _ (call (Value.ref 441) _) _ _ _); k_dflt (refine' Spec.use (lp_term ?lp _ ?U ?hin) ?kB ?kF ?kX ?kN ?kT ?kA ?kf ?kk ?kh ?kd ?ku ?_; (case lp => assumption); ktn_step; (case U => (intro o9; k_upd)); (case hin => kqd_sub); intro v9 post9 h9 tk9 F9 N9 hp9; obtain ⟨o9, new9, e9, fr9, lp9, t9, ok9, hd9⟩ := hp9; subst e9; (try simp only [List.forall_mem_cons, List.forall_mem_append, List.forall_mem_nil, imp_and, forall_and, and_true, implies_true] at fr9); (repeat (rename _ ∧ _ => hc9; obtain ⟨_, _⟩ := hc9)); (try dsimp only); (try k_fold))) | (k_here; (with_reducible show wpAny _ _ (call (Value.ref _) _) _ _ _); k_dflt (refine wpAny_call ?_; ( refine' code_def ?k1z9 ?k2z9 ?k3z9 ?k4z9 ?k5z9 ?kAz9 ?kFz9 ?kKz9 ?k6z9 ?k7z9 ?k8z9 ?k9z9 ?kBz9 ?_ ?c2z9 ?c3z9 ?c4z9 ?c5z9; (case kAz9 => first | exact deeper_frames _ (by assumption) | exact deeper_frames _ (deeper_frames _ (by assumption)) | exact deeper_frames _ (deeper_frames _ (deeper_frames _ (by assumption)))); (case kFz9 => exact rfl); (case kKz9 => exact rfl); (case k1z9 => k_asm); (case k2z9 => k_asm); (case k3z9 => k_asm); (case k4z9 => k_asm); (case k5z9 => k_asm); (case k6z9 => k_is); (case k7z9 => k_is); (case k8z9 => k_room); (case k9z9 => exact BindsTo.of_eq rfl); (case c5z9 => decide); (case kBz9 => exact locs rfl); (case c2z9 => exact rfl); (case c3z9 => exact rfl); (case c4z9 => exact rfl); k_whole; intro _ _ _ _ _ _ _ _ _; (with_reducible refine wp_never ?_); (try dsimp only); (try k_fold)))) | (k_here; (with_reducible show wpAny _ _ (setItem (Value.ref _) (Value.int _ _) _) _ _ _); k_dflt (refine' set_led ?Fz9 ?Nz9 ?Uz9 ?az9 ?bz9 ?zz9 ?_; (case Fz9 => k_asm); (case Nz9 => k_asm); (case Uz9 => k_upd); (case az9 => ksa_idx); (case bz9 => ksa_idx); (case zz9 => ksa_idx); k_whole); intro _ _ _; (try k_sweep)) | (k_here; (with_reducible show wpAny _ _ (call (Value.builtin "list.append") [Value.ref _, _]) _ _ _); k_dflt (refine' append_led ?Fz9 ?Nz9 ?Uz9 ?zz9 ?_; (case Fz9 => k_asm); (case Nz9 => k_asm); (case Uz9 => k_upd); (case zz9 => ksa_idx); k_whole); intro _ _ _; (try k_sweep)) | (k_here; (with_reducible show wpAny _ _ (call (Value.builtin "len") [Value.ref _]) _ _ _); k_dflt (refine' len_led ?Nz9 ?mz9 ?zz9 ?_; (case Nz9 => k_asm); (case mz9 => k_mem); (case zz9 => ksa_idx); k_whole); intro _ _) | (k_here; (with_reducible show wpAny _ _ (subscriptTail _ _ (Value.ref _) (Value.int _ _)) _ _ _); k_dflt (refine' item_led ?Nz9 ?mz9 ?az9 ?bz9 ?xz9 ?_; (case Nz9 => k_asm); (case mz9 => k_mem); (case az9 => omega); (case bz9 => omega); (case xz9 => assumption))) | (k_end; kc_close) | (k_end; wrow_close) | walk1 | (dsimp only; walk1) | (leave1; (try dsimp only)) | fail "no step"))
      all_goals (rename Fr _ _ _ _ => kF)
      all_goals (rename News _ _ _ _ => kN)
      all_goals exact hQ _ _ _ _ kF kN))) only [↓wr_true]
end
end
end
end
section
theorem walk_off_P40 : True := by
  w_top off
  trivial
theorem hA_set {hs : List (Int × Int)} {i : Nat} {x y : Int × Int} (h : hs[i]? = some x) (hx : x.1 ≠ 6) (j : Nat) (f : Int) (hj : hs[j]? = some (6, f)) : (hs.set i y)[j]? = some (6, f) := by
  have e : i ≠ j := by
    rintro rfl
    rw [h] at hj
    injection hj with e
    exact hx (by rw [e])
  rw [List.getElem?_set_ne e]; exact hj
theorem hA_app {hs ext : List (Int × Int)} (j : Nat) {x : Int × Int} (hj : hs[j]? = some x) : (hs ++ ext)[j]? = some x := by
  rw [List.getElem?_append_left (List.getElem?_eq_some_iff.mp hj).1]; exact hj
/-- a term that is no variable -/
theorem look_top {hs hF ss : List (Int × Int)} {t : Tm} {c : Int × Int} (h : TopOk hs t c) (hv : ∀ n, t ≠ .lf (.v n)) (hA : ∀ (j : Nat) (f : Int), hs[j]? = some (6, f) → hF[j]? = some (6, f)) : Look hF ss c t.key := by
  rcases t with (n | k | k) | ⟨f, xs⟩
  · exact absurd rfl (hv n)
  · have e : c = (4, k) := h
    subst e
    exact ⟨_, .halt (by simp) (by simp), .con k⟩
  · have e : c = (5, k) := h
    subst e
    exact ⟨_, .halt (by simp) (by simp), .int k⟩
  · have h' : if f = 0 then c.1 = 3 else c.1 = 2 ∧ ∃ j : Nat, c.2 = j ∧ hs[j]? = some (6, f) := h
    obtain ⟨a, b⟩ := c
    by_cases e : f = 0
    · rw [if_pos e] at h'
      have h'' : a = 3 := h'
      subst h''
      rw [show (Tm.s f xs).key = .list from if_pos e]
      exact ⟨_, .halt (by simp) (by simp), .lis b⟩
    · rw [if_neg e] at h'
      obtain ⟨ha, j, hj, hh⟩ := h'
      have ha' : a = 2 := ha
      have hj' : b = j := hj
      subst ha' hj'
      rw [show (Tm.s f xs).key = .struct f from if_neg e]
      exact ⟨_, .halt (by simp) (by simp), .str j f (hA j f hh)⟩
theorem top_not1 {hs : List (Int × Int)} {t : Tm} {c : Int × Int} (h : TopOk hs t c) : c.1 ≠ 1 := by
  rcases t with (n | k | k) | ⟨f, xs⟩
  · rw [show c = (0, n) from h]; simp
  · rw [show c = (4, k) from h]; simp
  · rw [show c = (5, k) from h]; simp
  · have h' : if f = 0 then c.1 = 3 else c.1 = 2 ∧ ∃ j : Nat, c.2 = j ∧ hs[j]? = some (6, f) := h
    by_cases e : f = 0
    · rw [if_pos e] at h'; rw [h']; decide
    · rw [if_neg e] at h'; rw [h'.1]; decide
theorem top_not0 {hs : List (Int × Int)} {t : Tm} {c : Int × Int} (h : TopOk hs t c) (hv : ∀ n, t ≠ .lf (.v n)) : c.1 ≠ 0 := by
  rcases t with (n | k | k) | ⟨f, xs⟩
  · exact absurd rfl (hv n)
  · rw [show c = (4, k) from h]; simp
  · rw [show c = (5, k) from h]; simp
  · have h' : if f = 0 then c.1 = 3 else c.1 = 2 ∧ ∃ j : Nat, c.2 = j ∧ hs[j]? = some (6, f) := h
    by_cases e : f = 0
    · rw [if_pos e] at h'; rw [h']; decide
    · rw [if_neg e] at h'; rw [h'.1]; decide
theorem look_stack {hF ss : List (Int × Int)} {c : Int × Int} {k : Ky} (h : Look hF ss c k) (n1 : c.1 ≠ 1) (hs : ss = [c, (1, 0)] ∨ ss = [(1, 0), c]) : Look hF ss (1, 1) k := by
  obtain ⟨r, d, ck⟩ := h
  refine ⟨r, ?_, ck⟩
  have ne : ∀ j : Int, c ≠ (1, j) := fun j e => n1 (by rw [e])
  rcases hs with rfl | rfl
  · exact Deref.stepS (x := 1) (c := (1, 0)) rfl (by decide) (Deref.stepS (x := 0) (c := c) rfl (ne _) d)
  · exact Deref.stepS (x := 1) (c := c) rfl (ne _) d
/-- the four questions of the law -/
noncomputable def Four (hF ss : List (Int × Int)) (c0 c1 : Int × Int) (k0 k1 : Ky) : Prop := Look hF ss c0 k0 ∧ Look hF ss c1 k1 ∧ Look hF ss (1, 1) k0 ∧ Look hF ss (0, 2) .var
theorem Four.of {hF ss : List (Int × Int)} {c0 c1 : Int × Int} {k0 k1 : Ky} (h0 : Look hF ss c0 k0) (h1 : Look hF ss c1 k1) (n1 : c0.1 ≠ 1) (hs : ss = [c0, (1, 0)] ∨ ss = [(1, 0), c0]) (h2 : hF[2]? = some (0, 2)) : Four hF ss c0 c1 k0 k1 :=
  ⟨h0, h1, look_stack h0 n1 hs, _, .selfH (x := 2) h2, .ref 2⟩
theorem isVar (t : Tm) : (∃ n, t = .lf (.v n)) ∨ ∀ n, t ≠ .lf (.v n) := by
  rcases t with (n | k | k) | ⟨f, xs⟩
  · exact .inl ⟨n, rfl⟩
  · exact .inr fun _ h => nomatch h
  · exact .inr fun _ h => nomatch h
  · exact .inr fun _ h => nomatch h
theorem cells0 (ext : List (Int × Int)) : (cellsN 3 ++ ext)[0]? = some (0, 0) := rfl
theorem cells1 (ext : List (Int × Int)) : (cellsN 3 ++ ext)[1]? = some (0, 1) := rfl
theorem cells2 (ext : List (Int × Int)) : (cellsN 3 ++ ext)[2]? = some (0, 2) := rfl
section
variable {ext : List (Int × Int)} {ss : List (Int × Int)}
theorem var3 {n : Int} (h : 0 ≤ n ∧ n < 3) : n = 0 ∨ n = 1 ∨ n = 2 := by omega
/-- nothing bound -/
theorem look_a {t : Tm} {c : Int × Int} (h : TopOk (cellsN 3 ++ ext) t c) (ok : t.ok) : Look (cellsN 3 ++ ext) ss c t.key := by
  rcases isVar t with ⟨n, rfl⟩ | hv
  · have e : c = (0, n) := h
    subst e
    rcases var3 ok with rfl | rfl | rfl
    · exact ⟨_, .selfH (x := 0) (cells0 ext), .ref _⟩
    · exact ⟨_, .selfH (x := 1) (cells1 ext), .ref _⟩
    · exact ⟨_, .selfH (x := 2) (cells2 ext), .ref _⟩
  · exact look_top h hv fun _ _ h => h
/-- the second variable bound to the first -/
theorem look_b {t : Tm} {c : Int × Int} (h : TopOk (cellsN 3 ++ ext) t c) (ok : t.ok) : Look ((cellsN 3 ++ ext).set 1 (0, 0)) ss c t.key := by
  have z0 : ((cellsN 3 ++ ext).set 1 (0, 0))[0]? = some (0, 0) := rfl
  have z1 : ((cellsN 3 ++ ext).set 1 (0, 0))[1]? = some (0, 0) := rfl
  have z2 : ((cellsN 3 ++ ext).set 1 (0, 0))[2]? = some (0, 2) := rfl
  rcases isVar t with ⟨n, rfl⟩ | hv
  · have e : c = (0, n) := h
    subst e
    rcases var3 ok with rfl | rfl | rfl
    · exact ⟨_, .selfH (x := 0) z0, .ref _⟩
    · exact ⟨_, .stepH (x := 1) z1 (by decide) (.selfH (x := 0) z0), .ref _⟩
    · exact ⟨_, .selfH (x := 2) z2, .ref _⟩
  · exact look_top h hv (hA_set (cells1 ext) (by decide))
/-- and the first to a term -/
theorem look_c {t tv : Tm} {c cv : Int × Int} {ex2 : List (Int × Int)} (h : TopOk (cellsN 3 ++ ext) t c) (ok : t.ok) (hT : TopOk ((cellsN 3 ++ ext).set 1 (0, 0) ++ ex2) tv cv) (hv : ∀ n, tv ≠ .lf (.v n)) : Look (((cellsN 3 ++ ext).set 1 (0, 0) ++ ex2).set 0 cv) ss c (subT tv t).key := by
  have z0 : (((cellsN 3 ++ ext).set 1 (0, 0) ++ ex2).set 0 cv)[0]? = some cv := rfl
  have z1 : (((cellsN 3 ++ ext).set 1 (0, 0) ++ ex2).set 0 cv)[1]? = some (0, 0) := rfl
  have z2 : (((cellsN 3 ++ ext).set 1 (0, 0) ++ ex2).set 0 cv)[2]? = some (0, 2) := rfl
  have y0 : ((cellsN 3 ++ ext).set 1 (0, 0) ++ ex2)[0]? = some (0, 0) := rfl
  have hA : ∀ (j : Nat) (f : Int), ((cellsN 3 ++ ext).set 1 (0, 0) ++ ex2)[j]? = some (6, f) → (((cellsN 3 ++ ext).set 1 (0, 0) ++ ex2).set 0 cv)[j]? = some (6, f) := hA_set y0 (by decide)
  obtain ⟨r, dr, kr⟩ : Look (((cellsN 3 ++ ext).set 1 (0, 0) ++ ex2).set 0 cv) ss cv tv.key := look_top hT hv hA
  have nz : cv ≠ (0, 0) := fun e => top_not0 hT hv (by rw [e])
  rcases isVar t with ⟨n, rfl⟩ | hn
  · have e : c = (0, n) := h
    subst e
    rcases var3 ok with rfl | rfl | rfl
    · exact ⟨r, .stepH (x := 0) z0 nz dr, kr⟩
    · exact ⟨r, .stepH (x := 1) z1 (by decide) (.stepH (x := 0) z0 nz dr), kr⟩
    · exact ⟨_, .selfH (x := 2) z2, .ref _⟩
  · have e : subT tv t = t := by
      rcases t with (n | k | k) | ⟨f, xs⟩
      · exact absurd rfl (hn n)
      · rfl
      · rfl
      · rfl
    rw [e]
    exact look_top h hn fun j f hj => hA j f (hA_app j (hA_set (cells1 ext) (by decide) j f hj))
variable {t0 t1 : Tm} {c0 c1 : Int × Int} (T0 : TopOk (cellsN 3 ++ ext) t0 c0) (T1 : TopOk (cellsN 3 ++ ext) t1 c1) (o0 : t0.ok) (o1 : t1.ok) (hss : ss = [c0, (1, 0)] ∨ ss = [(1, 0), c0])
include T0 T1 o0 o1 hss
theorem four_a : Four (cellsN 3 ++ ext) ss c0 c1 t0.key t1.key := .of (look_a T0 o0) (look_a T1 o1) (top_not1 T0) hss rfl
theorem four_b : Four ((cellsN 3 ++ ext).set 1 (0, 0)) ss c0 c1 t0.key t1.key := .of (look_b T0 o0) (look_b T1 o1) (top_not1 T0) hss rfl
theorem four_c {tv : Tm} {cv : Int × Int} {ex2 : List (Int × Int)} (hT : TopOk ((cellsN 3 ++ ext).set 1 (0, 0) ++ ex2) tv cv) (hv : ∀ n, tv ≠ .lf (.v n)) : Four (((cellsN 3 ++ ext).set 1 (0, 0) ++ ex2).set 0 cv) ss c0 c1 (subT tv t0).key (subT tv t1).key := .of (look_c T0 o0 hT hv) (look_c T1 o1 hT hv) (top_not1 T0) hss rfl
end
end
section
theorem walk_off_P41 : True := by
  w_top off
  trivial
section
variable {p : Program} {loose : List Str} {mean : ExcName → Option Value} {mg mb : Str → Option Value} {g : Heap} {L : Addr} {s : Shared} {Q : Flow → Shared → Prop}
theorem law_tail {h : Heap} {tk : Nat} {m : Str → Option Value} (K0 : Below callerA g [] g) (X : (hk.heap_1 w.params).In g) (T9 : Top p loose mean mg mb g) {ROW H T K S TL CL : Addr} {oR oH oT oK : Obj} {hs : List (Int × Int)} {R : List (Addr × Obj)} {v0 v1 u0 u1 : Value} {c0 c1 : Int × Int} {c k : Nat} {t0 t1 : Tm}
    (F : Fr g L h m) (N : News g L h ((CL, W.listOf #[u0, u1] k) :: (TL, W.listOf #[v0, v1] c) :: (ROW, oR) :: (H, oH) :: (T, oT) :: (K, oK) :: R)) (hm1 : m (Str.ofString "row") = some (.ref ROW)) (hm2 : m (Str.ofString "terms") = some (.ref TL)) (hm4 : m (Str.ofString "cells") = some (.ref CL))
    (lq : LQ w L ROW H T K S TL CL oR oH oT oK hs [(1, 0), (1, 0)] R u0 u1 c0 c1 v0 v1 t0 t1)
    (four : ∀ ss, ss = [c0, (1, 0)] ∨ ss = [(1, 0), c0] → Four hs ss c0 c1 t0.key t1.key)
    (hQ : ∀ h' tk' m' Z', Fr g L h' m' → News g L h' Z' → Q (.ret (.bool true)) { s with heap := h', toks := tk' }) :
    wpAny (model prg w) (callerA.deeper (lawEnv L)) (execs (lawRest 13) (lawEnv L)) Q (fun _ _ => False) { s with heap := h, toks := tk } := by
  refine seg9 (vv := .none) (ss := []) K0 X T9 F N hm1 hm2 hm4 lq fun h' tk' m' oR' oT' ss' F1 N1 r1 r2 r4 lq1 hss => ?_
  obtain ⟨f0, f1, f2, f3⟩ := four ss' hss
  refine seg10 K0 X T9 F1 N1 r2 r4 lq1.toZ fun h' tk' m' Z' HC KL k0 k1 vs n1 n2 n3 F2 N2 q1 q2 q3 q4 lz eH mH mK dk0 dk1 => ?_
  have lk : LK w L Z' R S H T TL CL HC KL oH oT' hs ss' u0 u1 c0 c1 v0 v1 t0 t1 c k k0 k1 vs n1 n2 n3 := ⟨lz, eH, mH, mK, .inl dk0, .inl dk1⟩
  refine seg11 K0 X T9 F2 N2 q1 q2 q3 q4 lk f0 f1 f2 fun h' tk' m' Z2 F3 N3 q1 q3 q4 z2 => ?_
  refine seg12 K0 X T9 F3 N3 q1 q3 q4 (lk.mono z2) f3 fun h' tk' m' Z3 F4 N4 q1 q4 z3 => ?_
  refine seg13 K0 X T9 F4 N4 q1 q4 ((lk.mono z2).mono z3) fun h' tk' m' Z4 F5 N5 q1 q4 z4 => ?_
  refine seg14 K0 X T9 F5 N5 q1 q4 (((lk.mono z2).mono z3).mono z4) fun h' tk' m' Z5 F6 N6 q4 qc z5 => ?_
  exact seg15 K0 X T9 F6 N6 q4 ((((lk.mono z2).mono z3).mono z4).mono z5) rfl qc hQ
theorem news41 {h : Heap} {n1 R : List (Addr × Obj)} {a b c d e : Addr × Obj} (N : News g L h (n1 ++ a :: b :: c :: d :: e :: R)) : News g L h (a :: b :: c :: d :: e :: (n1 ++ R)) := News.sub N (by
  intro p hp
  simp only [List.mem_cons, List.mem_append] at hp ⊢
  rcases hp with hp | hp | hp | hp | hp | hp | hp <;> simp [hp])
theorem law_walk {h : Heap} {tk : Nat} {m : Str → Option Value} (K0 : Below callerA g [] g) (X : (hk.heap_1 w.params).In g) (T9 : Top p loose mean mg mb g) (a : Addr) (vs : List Value) (ns : List Int) (hl : g.IsList a vs.toArray) (hi : IntsAre vs ns) (hn : ns.length ≤ 100)
    (c1 c2 : Obj) (d1 : c1.data = .cell none) (d2 : c2.data = .cell none)
    (F : Fr g L h m) (hm1 : m (Str.ofString "script") = some (.ref a)) (N : News g L h [(L + 1 + 1, c2), (L + 1, c1)])
    (hQ : ∀ h' tk' m' Z', Fr g L h' m' → News g L h' Z' → Q (.ret (.bool true)) { s with heap := h', toks := tk' }) :
    wpAny (model prg w) (callerA.deeper (lawEnv L)) (execs (lawRest 0) (lawEnv L)) Q (fun _ _ => False) { s with heap := h, toks := tk } := by
  refine seg1 K0 X T9 a vs ns hl hi hn c1 c2 d1 d2 F hm1 N fun h' tk' m' ROW H T K S oR oK R F1 N1 r1 lp1 hK1 => ?_
  refine seg2 K0 X T9 F1 N1 r1 lp1 hK1 fun h' tk' m' oH oK kvs R F2 N2 r1 lp2 hdk kv => ?_
  refine seg3 K0 X T9 F2 N2 r1 lp2 fun h' tk' m' oR' R3 TL c v0 v1 vv t0 t1 tv F3 N3 r1 r2 r3 lp3 sub3 hTL dv0 dv1 dvv ok0 ok1 okv => ?_
  refine seg4 (R := R3) (tv := tv) K0 X T9 F3 N3 (fun p hp => by simp [hp]) r1 r2 r3 dvv fun h' tk' m' new vv' F4 N4 gt4 r1 r2 r3 dvv' => ?_
  have gt : ∀ {D : Addr} {o : Obj}, (D, o) ∈ (TL, W.listOf #[v0, v1] c) :: (ROW, oR') :: (H, oH) :: (T, W.listOf #[] 0) :: (K, oK) :: R3 → ∀ p ∈ new, D ≠ p.1 := fun hm p hp => Nat.ne_of_lt (gt4 p hp _ hm)
  have lp4 := lp3.grow (new := new) fun p hp => ⟨gt (.tail _ (.head _)) p hp, gt (.tail _ (.tail _ (.head _))) p hp, gt (.tail _ (.tail _ (.tail _ (.head _)))) p hp, gt (.tail _ (.tail _ (.tail _ (.tail _ (.head _))))) p hp⟩
  have hTL4 : ∀ p ∈ (ROW, oR') :: (H, oH) :: (T, W.listOf #[] 0) :: (K, oK) :: (new ++ R3), p.1 ≠ TL := by
    intro p hp
    simp only [List.mem_cons, List.mem_append] at hp
    rcases hp with hp | hp | hp | hp | hp | hp
    · exact hTL p (by simp [hp])
    · exact hTL p (by simp [hp])
    · exact hTL p (by simp [hp])
    · exact hTL p (by simp [hp])
    · exact Ne.symm (gt (.head _) p hp)
    · exact hTL p (by simp [hp])
  refine seg5 K0 X T9 F4 (news41 N4) r1 r2 r3 lp4 hTL4 fun h' tk' m' oT' R5 F5 N5 r1 r2 r3 lp5 sub5 hTL5 => ?_
  have s35 : ∀ p ∈ R3, p ∈ R5 := fun p hp => sub5 p (sub_right p hp)
  refine seg6 K0 X T9 F5 N5 r1 r2 r3 lp5 hTL5 hdk ((kv.mono sub3).mono s35) (by decide) (dv0.mono s35) (dv1.mono s35) ok0 ok1 fun h' tk' m' oH' R6 ext CL u0 u1 c0 c1 k F6 N6 r1 r2 r3 r4 lp6 xl sub6 hTL6 hCL6 du0 du1 T0 T1 => ?_
  have s36 : ∀ p ∈ R3, p ∈ R6 := fun p hp => sub6 p (s35 p hp)
  have hl3 : (cellsN 3 ++ ext).length = 3 + ext.length := by rw [List.length_append]; rfl
  have lq6 : LQ w L ROW H T K S TL CL oR' oH' oT' oK (cellsN 3 ++ ext) [(1, 0), (1, 0)] R6 u0 u1 c0 c1 v0 v1 t0 t1 :=
    ⟨lp6, fun p hp => hTL6 p (by simp [hp]), fun p hp => hCL6 p (by simp [hp]), hTL6 (ROW, oR') (by simp), hTL6 (H, oH') (by simp), hTL6 (T, oT') (by simp), hTL6 (K, oK) (by simp), hCL6 (ROW, oR') (by simp), hCL6 (H, oH') (by simp), hCL6 (T, oT') (by simp), hCL6 (K, oK) (by simp), hCL6 (TL, oK) (by simp), du0, du1, dv0.mono s36, dv1.mono s36, ok0, ok1⟩
  refine seg7 K0 X T9 F6 N6 r1 r2 r3 r4 lq6 hdk (((kv.mono sub3).mono s35).mono sub6) (by omega) fun h' tk' m' oR7 oH7 b tb F7 N7 r1 r2 r3 r4 r5 or7 => ?_
  have dvv6 : DatIn R6 vv' (Tm.val tv).d := dvv'.mono fun p hp => sub6 p (sub5 p hp)
  rcases or7 with ⟨lq7, hb⟩ | ⟨lq7, hb⟩
  · refine seg8z (S := S) (hs := []) (ss := []) (vv := .none) (c0 := (0, 0)) (c1 := (0, 0)) (t0 := t0) (t1 := t1) K0 X T9 F7 N7 r1 r2 r4 r5 (by omega) fun h' tk' m' F8 N8 r1 r2 r4 => ?_
    exact law_tail K0 X T9 F8 N8 r1 r2 r4 lq7 (fun ss hss => four_a T0 T1 ok0 ok1 hss) hQ
  · by_cases hb1 : 1 < b
    · refine seg8 K0 X T9 F7 N7 r1 r2 r3 r4 r5 lq7 hdk (((kv.mono sub3).mono s35).mono sub6) (by rw [List.length_set]; omega) (by rw [List.length_set]; omega) dvv6 (Tm.val_ok okv) (Tm.val_nv _) hb1 fun h' tk' m' oH8 R8 ex2 cv F8 N8 r1 r2 r4 lq8 topv xl2 => ?_
      exact law_tail K0 X T9 F8 N8 r1 r2 r4 lq8 (fun ss hss => four_c T0 T1 ok0 ok1 hss topv (Tm.val_nv _)) hQ
    · refine seg8z (S := S) (hs := []) (ss := []) (vv := .none) (c0 := (0, 0)) (c1 := (0, 0)) (t0 := t0) (t1 := t1) K0 X T9 F7 N7 r1 r2 r4 r5 (by omega) fun h' tk' m' F8 N8 r1 r2 r4 => ?_
      exact law_tail K0 X T9 F8 N8 r1 r2 r4 lq7 (fun ss hss => four_b T0 T1 ok0 ok1 hss) hQ
end
end

noncomputable def codeOf9 (o : Obj) : Value := match o.data with | .func fd => fd.code | _ => .none
theorem law_at (P : Params) : ((hk.heap_1 P).lookup 453).map codeOf9 = some (.ref 452) := by kernel_rfl
theorem law_ns (P : Params) : nsIn (hk.heap_1 P) mainGlobals (Str.ofString "law") = some (some (.ref 453)) := by kernel_rfl
theorem sd_a : namesResolve PySem.Challenge.rw_no0174_01.row.prog = true := by kernel_rfl
theorem sd_b : (namesMeet PySem.Challenge.rw_no0174_01.row.prog PySem.Challenge.rw_no0174_01.row.prog.main.body fun _ n => attrL n) = true := by kernel_rfl
theorem sd_lo : looksOpen PySem.Challenge.rw_no0174_01.row.prog = true := by
  unfold looksOpen
  repeat' (with_reducible refine look_both ?_ ?_)
  all_goals first | with_reducible exact sd_a | with_reducible exact sd_b | kernel_rfl
theorem sd_row : PySem.Challenge.rw_no0174_01.row.wellSaid = true := by
  unfold OpenRow.wellSaid OpenRow.partSaid
  repeat' (with_reducible refine look_both ?_ ?_)
  all_goals first | with_reducible exact sd_lo | kernel_rfl
theorem sd_law : PySem.Challenge.rw_no0174_01.wellSaid = true := by
  unfold OpenLaw.wellSaid
  repeat' (with_reducible refine look_both ?_ ?_)
  all_goals first | with_reducible exact sd_row | kernel_rfl
theorem fa_eq {mg : Str → Option Value} {n m : Str} {fa b : Addr} (h : mg n = some (.ref fa)) (e : mg m = some (.ref b)) (hn : n = m) : fa = b := by
  subst hn
  rw [h] at e
  exact (Value.ref.inj (Option.some.inj e))
end Mine
open Mine
theorem PySem.Challenge.cw_no0174_01_holds : PySem.Challenge.rw_no0174_01.Holds := by
  refine wr_mp ?_
  simp (disch := (k_dflt (
      w_on
      refine holds_law sd_law fun said => ?_
      refine holds_open (r := PySem.Challenge.rw_no0174_01.row) (q := hk.view_1) (loose := topLs) (Xt := topX) (XP := XL hk.view_1 topLv) (Yf := Hook.obs topK) (Ya := Hook.val topK) (YP := Hook.says topK) (N := 5946) top_left (Hook.of topK) (Hook.keeps topK) (fun s e => xl_of s (Bool.and_eq_true_iff.mp e).1) XL.keeps (by rfl) (by rfl) (by rfl) (fun s e => recFacts_of (Bool.and_eq_true_iff.mp e).2) (by rfl) (by first | assumption | decide +kernel) (by decide +kernel) ⟨rfl, rfl, rfl, rfl, rfl, by decide +kernel⟩ ?hw ?hc
      case hw => w_witness2
      case hc =>
        k_fill
        intro w s₀ s₁ mg mb G Y fa o pm cd doc dV kV ho hd hcd hD hmg hg args vals as hpre hlay hrd hwl hlo
        have KX := kIn_of Y
        have X := (Ground.X G).1
        have V := (Ground.X G).2
        refine Ground.open G ?_
        intro T B D TE TW
        try (refine guard_noD D (by decide +kernel) ?_; clear D)
        obtain ⟨_, _, M⟩ := bmod_of_top T
        have TA := at_of_top T
        have e1 := mg_of KX (Top.g T) (law_ns _)
        have e3 : fa = 453 := fa_eq hmg e1 rfl
        subst e3
        obtain ⟨o', e', ce⟩ := Option.map_eq_some_iff.mp (law_at w.params)
        have e2 := KX _ _ e'
        rw [ho] at e2
        obtain rfl := Option.some.inj e2
        have e5 : cd = .ref 452 := by
          unfold codeOf9 at ce
          rw [hd] at ce
          exact ce
        clear e1 e2 e' ce
        subst e5
        try (obtain ⟨_, _, he, B0⟩ := based_of_top T rfl hmg ho hd; clear he)
        clear hmg
        wrow_args hpre hlay hrd hwl hlo
        all_goals (
          first | refine callC_kw (enter_call ?_) | refine enter_call ?_ | refine callC_kw (enter_callW ?_) | refine enter_callW ?_ | w_how
          w_top on
          try refine codeAny_mono ?_ (fun _ _ g => GoodW.toG g)
          have K0 := below_caller (Top.heap T)
          w_call any ho hd hcd hD T F
          clear hd TA
          k_drop
          skip)
        all_goals (try k_fold)
        refine wp_never ?_
        rename (Frag.In _ _) => X9
        rename (Top hk.view_1 _ _ _ _ _) => T9
        rename (Below callerA _ [] _) => K9
        rename (Heap.IsList _ _ _) => L9
        rename (IntsAre _ _) => I9
        rename (Fr _ _ _ _) => F9
        rename (News _ _ _ _) => N9
        rename Nat => tk9
        refine law_walk (s := s₁) (tk := tk9) K9 X9 T9 _ _ _ L9 I9 (by omega) _ _ ?d1 ?d2 F9 ?hm N9 ?_
        case d1 => (first | assumption | (rename _ ∧ _ => hh; first | exact hh.1 | exact hh.2))
        case d2 => (first | assumption | (rename _ ∧ _ => hh; first | exact hh.1 | exact hh.2))
        case hm => rfl
        intro h9 tk8 m9 Z9 F8 N8
        k_steps))) only [↓wr_true]