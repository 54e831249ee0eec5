import PyProof.Rows.All
import Wide.All
import OpenK.AllK
import Wide.FinOn
import PySem.Challenge.RW_rh0020_01
open PySem PySem.W PyProof.Rows
set_option Elab.async false
set_option maxRecDepth 100000
set_option maxHeartbeats 8000000
namespace Mine
open_top hd for PySem.Challenge.rw_rh0020_01
end Mine
namespace Mine
section
/-- the law's def, as the row has it -/
def lawDef : List Stmt × Scope := match PySem.Challenge.pw_rh0020_01.main.body.getLast? with
  | some (.FunctionDef _ _ b _ _ _ sc _ _ _) => (b, sc)
  | _ => ([], default)
def lawBody : List Stmt := lawDef.1
def lawScope : Scope := lawDef.2
abbrev lawEnv (sc : Scope) (L fa : Addr) (cd : Value) : Env := envOfC (Str.ofString "law") sc L fa cd
abbrev lawM (w : World) : Model := model PySem.Challenge.rw_rh0020_01.row.prog w
abbrev lawTop (mean : ExcName → Option Value) (mg mb : Str → Option Value) (h : Heap) : Prop := Top hd.view_39 (looseW hd.view_39 []) mean mg mb h

def TakeOut (h₀ : Heap) (L : Addr) (m : Str → Option Value) (news' : Tok → List (Addr × Obj)) (lim : Int) (s : Shared) (v : Value) (s' : Shared) : Prop :=
  ∃ (r : Int) (t t' : Tok) (h : Heap) (tk : Nat), v = .int r t ∧ s' = { s with heap := h, toks := tk } ∧ (0 ≤ r ∧ r < lim) ∧ Fr h₀ L h m ∧ News h₀ L h (news' t')
theorem fmod_bnd (x : Int) {m : Int} (h : 0 < m) : 0 ≤ x.fmod m ∧ x.fmod m < m := ⟨Int.fmod_nonneg_of_pos x h, Int.fmod_lt_of_pos x h⟩


local macro_rules | `(tactic| walk_at "TakeOut") => `(tactic| ((rename Fr _ _ _ _ => kF); (rename News _ _ _ _ => kN); exact ⟨_, _, _, _, _, rfl, rfl, fmod_bnd _ (by assumption), kF, kN⟩))
local macro_rules | `(tactic| k_all) => `(tactic| assumption)
theorem take_spec {w : World} {mean : ExcName → Option Value} {mg mb : Str → Option Value} {base h₀ : Heap} {L fa : Addr} {cd : Value} {sc : Scope} (hsc : sc = lawScope) {m : Str → Option Value} {rest : List (Addr × Obj)} {b l : Addr} {ns : List Int} {vs : List Value} {c : Int} {ep : Nat} {t0 tm : Tok} {lim : Int} {s : Shared} {E : Value → Shared → Prop}
    (KX : (hd.heap_39 w.params).In h₀) (T : lawTop mean mg mb h₀) (K0 : Below callerA base [] h₀)
    (F : Fr h₀ L s.heap m) (N : News h₀ L s.heap ((b, listOf #[.ref l, .int c t0] 0) :: (l, listOf vs.toArray ep) :: rest)) (hI : IntsAre vs ns) (hlen : ns.length ≤ 8) (hc : 0 ≤ c) (hc2 : c ≤ 10) (hlim : 0 < lim) (hlim2 : lim ≤ 5)
    (hbl : l ≠ b) (hr : ∀ p ∈ rest, p.1 ≠ b) :
    wpAny (lawM w) (callerA.deeper (lawEnv sc L fa cd)) (PySem.call (.ref 53) [.ref b, .int lim tm])
      (TakeOut h₀ L m (fun t' => (b, listOf #[.ref l, .int (c + 1) t'] 0) :: (l, listOf vs.toArray ep) :: rest) lim s) E s := by
  w_on
  obtain ⟨hp, gs, dr, tk, os⟩ := s
  (conv at hsc => rhs; whnf)
  subst hsc
  refine wpAny_call ?_
  k_enter
  k_steps

theorem take_cut {w : World} {mean : ExcName → Option Value} {mg mb : Str → Option Value} {base h₀ : Heap} {L fa : Addr} {cd : Value} {sc : Scope} {m : Str → Option Value} {b l : Addr} {ns : List Int} {vs : List Value} {c : Int} {ep : Nat} {t0 tm : Tok} {lim : Int} {s : Shared} {E Q : Value → Shared → Prop}
    {news : List (Addr × Obj)} {news' : Tok → List (Addr × Obj)}
    (KX : (hd.heap_39 w.params).In h₀) (T : Top hd.view_39 (looseW hd.view_39 []) mean mg mb h₀) (K0 : Below callerA base [] h₀)
    (F : Fr h₀ L s.heap m) (N : News h₀ L s.heap news)
    (U : ∀ t', Upd b (listOf #[.ref l, .int c t0] 0) (listOf #[.ref l, .int (c + 1) t'] 0) news (news' t'))
    (hlm : (l, listOf vs.toArray ep) ∈ news) (hI : IntsAre vs ns) (hlen : ns.length ≤ 8) (hbl : l ≠ b) (hc : 0 ≤ c ∧ c ≤ 10) (hlim : 0 < lim ∧ lim ≤ 5) (hsc : sc = lawScope)
    (k : ∀ (r : Int) (t t' : Tok) (h : Heap) (tk : Nat), (0 ≤ r ∧ r < lim) → Fr h₀ L h m → News h₀ L h (news' t') → Q (.int r t) { s with heap := h, toks := tk }) :
    wpAny (model PySem.Challenge.rw_rh0020_01.row.prog w) (callerA.deeper (envOfC (Str.ofString "law") sc L fa cd)) (PySem.call (.ref 53) [.ref b, .int lim tm]) Q E s := by
  obtain ⟨pre, post, e, -, h1, h2⟩ := (U 0).split
  have N2 : News h₀ L s.heap ((b, listOf #[.ref l, .int c t0] 0) :: (l, listOf vs.toArray ep) :: (pre ++ post)) := fun p hp => by
    rcases List.mem_cons.mp hp with rfl | hp
    · exact N _ (by rw [e]; simp)
    rcases List.mem_cons.mp hp with rfl | hp
    · exact N _ hlm
    · refine N _ ?_
      rw [e]
      rcases List.mem_append.mp hp with hp | hp
      · exact List.mem_append_left _ hp
      · exact List.mem_append_right _ (.tail _ hp)
  refine wpAny_mono (take_spec hsc KX T K0 F N2 hI hlen hc.1 hc.2 hlim.1 hlim.2 hbl (fun p hp => by
    rcases List.mem_append.mp hp with hp | hp
    · exact h1 p hp
    · exact h2 p hp)) (fun v s₂ hq => ?_) fun _ _ h => h
  obtain ⟨r, t, t', h, tk, rfl, rfl, hr, F', N'⟩ := hq
  refine k r t t' h tk hr F' fun p hp => ?_
  obtain ⟨pre', post', e', e2, h1', h2'⟩ := (U t').split
  rw [e2] at hp
  have far : ∀ p, p ∈ news → p.1 ≠ b → p ∈ pre ++ post := fun p hp hne => by
    rw [e] at hp
    rcases List.mem_append.mp hp with hp | hp
    · exact List.mem_append_left _ hp
    · rcases List.mem_cons.mp hp with rfl | hp
      · exact absurd rfl hne
      · exact List.mem_append_right _ hp
  rcases List.mem_append.mp hp with hp | hp
  · exact N' p (.tail _ (.tail _ (far p (by rw [e']; exact List.mem_append_left _ hp) (h1' p hp))))
  · rcases List.mem_cons.mp hp with rfl | hp
    · exact N' _ (.head _)
    · exact N' p (.tail _ (.tail _ (far p (by rw [e']; exact List.mem_append_right _ (.tail _ hp)) (h2' p hp))))
end
end Mine
namespace Mine
section
theorem allLt_ne {d : Addr} : ∀ {l : List (Addr × Obj)}, AllLt d l → ∀ p ∈ l, p.1 ≠ d
  | [], _, _, h => nomatch h
  | q :: r, h, p, hp => by
    rcases List.mem_cons.mp hp with rfl | hp
    · exact Nat.ne_of_lt h.1
    · exact allLt_ne h.2 p hp
theorem off1_ne {d : Addr} : ∀ {l : List (Addr × Obj)}, LCg.Off1 d l → ∀ p ∈ l, p.1 ≠ d
  | [], _, _, h => nomatch h
  | q :: r, h, p, hp => by
    rcases List.mem_cons.mp hp with rfl | hp
    · exact h.1
    · exact off1_ne h.2 p hp
theorem compEnd0 {h₀ : Heap} {L I C D : Addr} {m : Str → Option Value} {s₁ : Shared} {oI oC oD : Obj} {S : List (Addr × Obj) → Prop} {rest : Value → List (Addr × Obj) → Prop} {y : Value} {h' : Heap} {tk : Nat} {news : List (Addr × Obj)}
    (F : Fr h₀ L h' m) (N : News h₀ L h' ((I, oI) :: (C, oC) :: (D, oD) :: news)) (off : LCg.Off3 I C D news) (hS : S news) (r : rest y news) :
    LCg.CompEnd h₀ L m s₁ I oI C oC D oD S rest y { s₁ with heap := h', toks := tk } := ⟨h', tk, news, rfl, F, N, off, hS, r⟩
theorem compEnd1 {h₀ : Heap} {L I C D : Addr} {m : Str → Option Value} {s₁ : Shared} {oI oC oD : Obj} {S : List (Addr × Obj) → Prop} {rest : Value → List (Addr × Obj) → Prop} {y : Value} {h' : Heap} {tk : Nat} {p : Addr × Obj} {news : List (Addr × Obj)}
    (F : Fr h₀ L h' m) (N : News h₀ L h' (p :: (I, oI) :: (C, oC) :: (D, oD) :: news)) (off : LCg.Off3 I C D news) (hI : (@Ne Nat p.1 I)) (hC : (@Ne Nat p.1 C)) (hD : (@Ne Nat p.1 D)) (hS : S (p :: news)) (r : rest y (p :: news)) :
    LCg.CompEnd h₀ L m s₁ I oI C oC D oD S rest y { s₁ with heap := h', toks := tk } :=
  ⟨h', tk, p :: news, rfl, F, fun q hq => N q (by simp only [List.mem_cons] at hq ⊢; rcases hq with h | h | h | h | h <;> simp [h]), ⟨⟨hI, hC, hD⟩, off⟩, hS, r⟩

theorem execs_app_eq {env : Env} : ∀ (l1 l2 : List Stmt), execs (l1 ++ l2) env = (execs l1 env >>= fun f => match f with | .next => execs l2 env | f => pure f)
  | [], l2 => by rw [List.nil_append, execs_nil, pure_bind]
  | st :: r, l2 => by
    rw [List.cons_append, execs_cons, execs_cons, bind_assoc]
    congr 1
    funext f
    cases f with
    | next => exact execs_app_eq r l2
    | _ => rw [pure_bind]
theorem execs_app {M : Model} {A : Around} {E : Value → Shared → Prop} {env : Env} {Q : Flow → Shared → Prop} {l1 l2 : List Stmt} {s : Shared} (Mid : Shared → Prop)
    (h1 : wpAny M A (execs l1 env) (fun fl s' => fl = .next ∧ Mid s') E s) (h2 : ∀ s', Mid s' → wpAny M A (execs l2 env) Q E s') : wpAny M A (execs (l1 ++ l2) env) Q E s := by
  rw [execs_app_eq]
  refine wpAny_bind (wpAny_mono h1 (fun fl s' h => ?_) fun _ _ e => e)
  obtain ⟨rfl, h⟩ := h
  exact h2 s' h

theorem fr_pick5 {h₀ h : Heap} {L : Addr} {m : Str → Option Value} {x1 x2 x3 x4 x5 : Str} {v1 v2 v3 v4 v5 : Value} (F : Fr h₀ L h m) (e1 : m x1 = some v1) (e2 : m x2 = some v2) (e3 : m x3 = some v3) (e4 : m x4 = some v4) (e5 : m x5 = some v5) :
    Fr h₀ L h (fun y => if y = x1 then some v1 else if y = x2 then some v2 else if y = x3 then some v3 else if y = x4 then some v4 else if y = x5 then some v5 else m y) := by
  have : (fun y => if y = x1 then some v1 else if y = x2 then some v2 else if y = x3 then some v3 else if y = x4 then some v4 else if y = x5 then some v5 else m y) = m := by
    funext y
    (repeat' split) <;> simp_all
  rw [this]
  exact F
theorem fr_pick1 {h₀ h : Heap} {L : Addr} {m : Str → Option Value} {x1 : Str} {v1 : Value} (F : Fr h₀ L h m) (e1 : m x1 = some v1) :
    Fr h₀ L h (fun y => if y = x1 then some v1 else m y) := by
  have : (fun y => if y = x1 then some v1 else m y) = m := by
    funext y
    (repeat' split) <;> simp_all
  rw [this]
  exact F
theorem fr_pick4 {h₀ h : Heap} {L : Addr} {m : Str → Option Value} {x1 x2 x3 x4 : Str} {v1 v2 v3 v4 : Value} (F : Fr h₀ L h m) (e1 : m x1 = some v1) (e2 : m x2 = some v2) (e3 : m x3 = some v3) (e4 : m x4 = some v4) :
    Fr h₀ L h (fun y => if y = x1 then some v1 else if y = x2 then some v2 else if y = x3 then some v3 else if y = x4 then some v4 else m y) := by
  have : (fun y => if y = x1 then some v1 else if y = x2 then some v2 else if y = x3 then some v3 else if y = x4 then some v4 else m y) = m := by
    funext y
    (repeat' split) <;> simp_all
  rw [this]
  exact F
theorem news_cons {h₀ h : Heap} {L a : Addr} {o : Obj} {big r : List (Addr × Obj)} (N : News h₀ L h big) (hm : (a, o) ∈ big) (R : News h₀ L h r) : News h₀ L h ((a, o) :: r) := fun p hp => by
  rcases List.mem_cons.mp hp with rfl | hp
  · exact N _ hm
  · exact R p hp
theorem news_app {h₀ h : Heap} {L : Addr} {l r : List (Addr × Obj)} (N : News h₀ L h l) (R : News h₀ L h r) : News h₀ L h (l ++ r) := fun p hp => by
  rcases List.mem_append.mp hp with hp | hp
  · exact N p hp
  · exact R p hp
theorem news_sub {h₀ h : Heap} {L : Addr} {big r : List (Addr × Obj)} (N : News h₀ L h big) (hs : ∀ p ∈ r, p ∈ big) : News h₀ L h r := fun p hp => N p (hs p hp)
theorem mem_tails {p : Addr × Obj} {a : Addr × Obj} {r big : List (Addr × Obj)} (h : ∀ p ∈ r, p ∈ big) : ∀ p ∈ r, p ∈ a :: big := fun p hp => .tail _ (h p hp)

abbrev tupO (vs : List Value) : Obj := { cls := .type "tuple", data := .seq vs.toArray }
/-- the last letter: its tuple, its name, whether it is odd -/
inductive LastT : Obj → Str → Bool → Prop
  | sym (s : Str) (t1 t2 : Tok) : LastT (tupO [.str (Str.ofString "sym") t1, .str s t2]) s false
  | num (s : Str) (t1 : Tok) (v2 v3 : Value) : LastT (tupO [.str (Str.ofString "num") t1, v2, v3]) s true
  | call (s : Str) (t1 : Tok) (v2 v3 : Value) : LastT (tupO [.str (Str.ofString "call") t1, v2, v3]) s true
/-- names and letters as they stand behind the draws: the ledger, the names' list, the letters' list, is it lone, is it odd -/
inductive LS : List (Addr × Obj) → Addr → Addr → Bool → Bool → Prop
  | one {an al a1 : Addr} {s1 : Str} {t1 : Tok} {n1 n2 : Nat} {o1 : Obj} {odd : Bool} (lone : Bool) (h : LastT o1 s1 odd) (k1 : (PyData.str s1).canLay0 = true) :
    LS [(an, listOf #[.str s1 t1] n1), (al, listOf #[.ref a1] n2), (a1, o1)] an al lone odd
  | two {an al a1 a2 : Addr} {s1 s2 : Str} {t1 t2 u1 u2 : Tok} {n1 n2 : Nat} {o2 : Obj} {odd lone : Bool} (hl : lone = false) (h : LastT o2 s2 odd) (k1 : (PyData.str s1).canLay0 = true) (k2 : (PyData.str s2).canLay0 = true) :
    LS [(an, listOf #[.str s1 t1, .str s2 t2] n1), (al, listOf #[.ref a1, .ref a2] n2), (a1, tupO [.str (Str.ofString "sym") u1, .str s1 u2]), (a2, o2)] an al lone odd
  | three {an al a1 a2 a3 : Addr} {s1 s2 s3 : Str} {t1 t2 t3 u1 u2 u3 u4 : Tok} {n1 n2 : Nat} {o3 : Obj} {odd lone : Bool} (hl : lone = false) (h : LastT o3 s3 odd) (k1 : (PyData.str s1).canLay0 = true) (k2 : (PyData.str s2).canLay0 = true) (k3 : (PyData.str s3).canLay0 = true) :
    LS [(an, listOf #[.str s1 t1, .str s2 t2, .str s3 t3] n1), (al, listOf #[.ref a1, .ref a2, .ref a3] n2), (a1, tupO [.str (Str.ofString "sym") u1, .str s1 u2]), (a2, tupO [.str (Str.ofString "sym") u3, .str s2 u4]), (a3, o3)] an al lone odd
/-- behind the seventh statement -/
def C1 (h₀ : Heap) (L : Addr) (gs : Array GenState) (dr : Drawn) (os : OsState) (rest : List (Addr × Obj)) (xa : Addr) (many : Int) (tm : Tok) (lone : Bool) (s' : Shared) : Prop :=
  ∃ (h : Heap) (tk : Nat) (m1 : Str → Option Value) (an al : Addr) (odd : Bool) (newsL : List (Addr × Obj)), s' = ⟨h, gs, dr, tk, os⟩ ∧
    Fr h₀ L h (fun y => if y = Str.ofString "letters" then some (.ref al) else if y = Str.ofString "names" then some (.ref an) else if y = Str.ofString "is_lone" then some (.bool lone) else if y = Str.ofString "many" then some (.int many tm) else if y = Str.ofString "x" then some (.ref xa) else m1 y) ∧
    News h₀ L h (newsL ++ rest) ∧ LS newsL an al lone odd
theorem c1_one {h₀ h : Heap} {L : Addr} {m : Str → Option Value} {gs : Array GenState} {dr : Drawn} {tk : Nat} {os : OsState} {rest : List (Addr × Obj)} {xa : Addr} {many : Int} {tm : Tok} {lone : Bool} {an al : Addr} {n1 n2 : Nat} {odd : Bool} {a1 : Addr} {s1 : Str} {t1 : Tok} {o1 : Obj} (F : Fr h₀ L h m) (e1 : m (Str.ofString "letters") = some (.ref al)) (e2 : m (Str.ofString "names") = some (.ref an)) (e3 : m (Str.ofString "is_lone") = some (.bool lone)) (e4 : m (Str.ofString "many") = some (.int many tm)) (e5 : m (Str.ofString "x") = some (.ref xa))
    (N : News h₀ L h ([(an, listOf #[.str s1 t1] n1), (al, listOf #[.ref a1] n2), (a1, o1)] ++ rest)) (hl : LastT o1 s1 odd) (k1 : (PyData.str s1).canLay0 = true) : C1 h₀ L gs dr os rest xa many tm lone ⟨h, gs, dr, tk, os⟩ :=
  ⟨h, tk, m, an, al, odd, _, rfl, fr_pick5 F e1 e2 e3 e4 e5, N, LS.one _ hl k1⟩
theorem c1_two {h₀ h : Heap} {L : Addr} {m : Str → Option Value} {gs : Array GenState} {dr : Drawn} {tk : Nat} {os : OsState} {rest : List (Addr × Obj)} {xa : Addr} {many : Int} {tm : Tok} {lone : Bool} {an al : Addr} {n1 n2 : Nat} {odd : Bool} {a1 a2 : Addr} {s1 s2 : Str} {t1 t2 u1 u2 : Tok} {o2 : Obj} (F : Fr h₀ L h m) (e1 : m (Str.ofString "letters") = some (.ref al)) (e2 : m (Str.ofString "names") = some (.ref an)) (e3 : m (Str.ofString "is_lone") = some (.bool lone)) (e4 : m (Str.ofString "many") = some (.int many tm)) (e5 : m (Str.ofString "x") = some (.ref xa))
    (N : News h₀ L h ([(an, listOf #[.str s1 t1, .str s2 t2] n1), (al, listOf #[.ref a1, .ref a2] n2), (a1, tupO [.str (Str.ofString "sym") u1, .str s1 u2]), (a2, o2)] ++ rest)) (hl : LastT o2 s2 odd) (hn : lone = false) (k1 : (PyData.str s1).canLay0 = true) (k2 : (PyData.str s2).canLay0 = true) : C1 h₀ L gs dr os rest xa many tm lone ⟨h, gs, dr, tk, os⟩ :=
  ⟨h, tk, m, an, al, odd, _, rfl, fr_pick5 F e1 e2 e3 e4 e5, N, LS.two hn hl k1 k2⟩
theorem c1_three {h₀ h : Heap} {L : Addr} {m : Str → Option Value} {gs : Array GenState} {dr : Drawn} {tk : Nat} {os : OsState} {rest : List (Addr × Obj)} {xa : Addr} {many : Int} {tm : Tok} {lone : Bool} {an al : Addr} {n1 n2 : Nat} {odd : Bool} {a1 a2 a3 : Addr} {s1 s2 s3 : Str} {t1 t2 t3 u1 u2 u3 u4 : Tok} {o3 : Obj} (F : Fr h₀ L h m) (e1 : m (Str.ofString "letters") = some (.ref al)) (e2 : m (Str.ofString "names") = some (.ref an)) (e3 : m (Str.ofString "is_lone") = some (.bool lone)) (e4 : m (Str.ofString "many") = some (.int many tm)) (e5 : m (Str.ofString "x") = some (.ref xa))
    (N : News h₀ L h ([(an, listOf #[.str s1 t1, .str s2 t2, .str s3 t3] n1), (al, listOf #[.ref a1, .ref a2, .ref a3] n2), (a1, tupO [.str (Str.ofString "sym") u1, .str s1 u2]), (a2, tupO [.str (Str.ofString "sym") u3, .str s2 u4]), (a3, o3)] ++ rest)) (hl : LastT o3 s3 odd) (hn : lone = false) (k1 : (PyData.str s1).canLay0 = true) (k2 : (PyData.str s2).canLay0 = true) (k3 : (PyData.str s3).canLay0 = true) : C1 h₀ L gs dr os rest xa many tm lone ⟨h, gs, dr, tk, os⟩ :=
  ⟨h, tk, m, an, al, odd, _, rfl, fr_pick5 F e1 e2 e3 e4 e5, N, LS.three hn hl k1 k2 k3⟩
def AOut (P : Shared → Prop) (fl : Flow) (s' : Shared) : Prop := fl = .next ∧ P s'
end
end Mine
namespace Mine
section
/-- the menu as the second statement leaves it, with the two cells -/
def MenuL (L : Addr) (rest : List (Addr × Obj)) (xa : Addr) : Prop :=
  ∃ (oF oM : Obj) (f : Int) (tf : Tok) (mn e0 n1 e1 n2 n3 e2 xy e3 x1 ya : Addr) (t0 t1 t2 t3 t4 t5 t6 t7 t8 t9 t10 t11 t12 t13 t14 t15 t16 : Tok), oF.data = .cell (some (.int f tf)) ∧ oM.data = .cell (some (.ref mn)) ∧ (0 ≤ f ∧ f < 4) ∧
    rest = [(L + 1 + 1, oF), (L + 1, oM), (mn, listOf #[.ref e0, .ref e1, .ref e2, .ref e3] 0), (e0, tupO [.str (Str.ofString "eq") t0, .ref xa, .ref n1]), (n1, tupO [.str (Str.ofString "num") t1, .int 1 t2, .int 1 t3]), (e1, tupO [.str (Str.ofString "eq") t4, .ref n2, .ref n3]), (n2, tupO [.str (Str.ofString "num") t5, .int 0 t6, .int 1 t7]), (n3, tupO [.str (Str.ofString "num") t8, .int 0 t9, .int 1 t10]), (e2, tupO [.str (Str.ofString "sum") t11, .ref xy]), (xy, tupO [.ref xa, .ref ya]), (e3, tupO [.str (Str.ofString "list") t12, .ref x1]), (x1, tupO [.ref xa]), (xa, tupO [.str (Str.ofString "sym") t13, .str (Str.ofString "x") t14]), (ya, tupO [.str (Str.ofString "sym") t15, .str (Str.ofString "y") t16])]
def A3 (h₀ : Heap) (L : Addr) (gs : Array GenState) (dr : Drawn) (os : OsState) (s' : Shared) : Prop :=
  ∃ (h : Heap) (tk : Nat) (m1 : Str → Option Value) (b l xa : Addr) (c many : Int) (t0 tm : Tok) (vs : List Value) (ns : List Int) (ep : Nat) (lone : Bool) (rest : List (Addr × Obj)), s' = ⟨h, gs, dr, tk, os⟩ ∧
    Fr h₀ L h (fun y => if y = Str.ofString "is_lone" then some (.bool lone) else if y = Str.ofString "many" then some (.int many tm) else if y = Str.ofString "x" then some (.ref xa) else if y = Str.ofString "box" then some (.ref b) else m1 y) ∧
    News h₀ L h ((b, listOf #[.ref l, .int c t0] 0) :: (l, listOf vs.toArray ep) :: rest) ∧ IntsAre vs ns ∧ ns.length ≤ 8 ∧ (0 ≤ c ∧ c ≤ 5) ∧ l ≠ b ∧ (∀ p ∈ rest, p.1 ≠ b) ∧ (0 ≤ many ∧ many ≤ 4) ∧ MenuL L rest xa
theorem many_bnd : ∀ n : Nat, 0 ≤ ([4, 1, 0, 2, 3] : List Int).getD n 0 ∧ ([4, 1, 0, 2, 3] : List Int).getD n 0 ≤ 4
  | 0 => by decide
  | 1 => by decide
  | 2 => by decide
  | 3 => by decide
  | 4 => by decide
  | _ + 5 => by simp
theorem a3_mk {h₀ h : Heap} {L : Addr} {m : Str → Option Value} {gs : Array GenState} {dr : Drawn} {tk : Nat} {os : OsState} {b l xa mn e0 n1 e1 n2 n3 e2 xy e3 x1 ya : Addr} {c many f : Int} {tb tm tf t0 t1 t2 t3 t4 t5 t6 t7 t8 t9 t10 t11 t12 t13 t14 t15 t16 : Tok} {vs : List Value} {ns : List Int} {ep : Nat} {lone : Bool} {oF oM : Obj}
    (F : Fr h₀ L h m) (e1' : m (Str.ofString "is_lone") = some (.bool lone)) (e2' : m (Str.ofString "many") = some (.int many tm)) (e3' : m (Str.ofString "x") = some (.ref xa)) (e4' : m (Str.ofString "box") = some (.ref b))
    (N : News h₀ L h ((b, listOf #[.ref l, .int c tb] 0) :: (l, listOf vs.toArray ep) :: [(L + 1 + 1, oF), (L + 1, oM), (mn, listOf #[.ref e0, .ref e1, .ref e2, .ref e3] 0), (e0, tupO [.str (Str.ofString "eq") t0, .ref xa, .ref n1]), (n1, tupO [.str (Str.ofString "num") t1, .int 1 t2, .int 1 t3]), (e1, tupO [.str (Str.ofString "eq") t4, .ref n2, .ref n3]), (n2, tupO [.str (Str.ofString "num") t5, .int 0 t6, .int 1 t7]), (n3, tupO [.str (Str.ofString "num") t8, .int 0 t9, .int 1 t10]), (e2, tupO [.str (Str.ofString "sum") t11, .ref xy]), (xy, tupO [.ref xa, .ref ya]), (e3, tupO [.str (Str.ofString "list") t12, .ref x1]), (x1, tupO [.ref xa]), (xa, tupO [.str (Str.ofString "sym") t13, .str (Str.ofString "x") t14]), (ya, tupO [.str (Str.ofString "sym") t15, .str (Str.ofString "y") t16])]))
    (dF : oF.data = .cell (some (.int f tf))) (dM : oM.data = .cell (some (.ref mn))) (hI : IntsAre vs ns) (hlen : ns.length ≤ 8) (hc : 0 ≤ c ∧ c ≤ 5) (hbl : l ≠ b)
    (hr : ∀ p ∈ [(L + 1 + 1, oF), (L + 1, oM), (mn, listOf #[.ref e0, .ref e1, .ref e2, .ref e3] 0), (e0, tupO [.str (Str.ofString "eq") t0, .ref xa, .ref n1]), (n1, tupO [.str (Str.ofString "num") t1, .int 1 t2, .int 1 t3]), (e1, tupO [.str (Str.ofString "eq") t4, .ref n2, .ref n3]), (n2, tupO [.str (Str.ofString "num") t5, .int 0 t6, .int 1 t7]), (n3, tupO [.str (Str.ofString "num") t8, .int 0 t9, .int 1 t10]), (e2, tupO [.str (Str.ofString "sum") t11, .ref xy]), (xy, tupO [.ref xa, .ref ya]), (e3, tupO [.str (Str.ofString "list") t12, .ref x1]), (x1, tupO [.ref xa]), (xa, tupO [.str (Str.ofString "sym") t13, .str (Str.ofString "x") t14]), (ya, tupO [.str (Str.ofString "sym") t15, .str (Str.ofString "y") t16])], p.1 ≠ b)
    (hf : 0 ≤ f ∧ f < 4) (hm : 0 ≤ many ∧ many ≤ 4) : A3 h₀ L gs dr os ⟨h, gs, dr, tk, os⟩ :=
  ⟨h, tk, m, b, l, xa, c, many, tb, tm, vs, ns, ep, lone, _, rfl, fr_pick4 F e1' e2' e3' e4', N, hI, hlen, hc, hbl, hr, hm, ⟨oF, oM, f, tf, mn, e0, n1, e1, n2, n3, e2, xy, e3, x1, ya, t0, t1, t2, t3, t4, t5, t6, t7, t8, t9, t10, t11, t12, t13, t14, t15, t16, dF, dM, hf, rfl⟩⟩
section
local macro_rules | `(tactic| walk_at "call ref") => `(tactic| (
  k_here
  (with_reducible show wpAny _ _ (PySem.call (Value.ref 53) [Value.ref _, Value.int _ _]) _ _ _)
  k_dflt (
    refine' take_cut ?hX ?hT ?hK ?hF ?hN ?hU ?hlm ?hI ?hlen ?hbl ?hc ?hlim rfl ?_
    case hX => assumption
    case hT => assumption
    case hK => assumption
    case hF => k_asm
    case hN => k_asm
    case hU => (intro t'; k_upd)
    case hlm => k_mem
    case hI => assumption
    case hlen => omega
    case hbl => k_ne
    case hc => omega
    case hlim => omega
    (intro r' t' t'' h' tk' r0' F' N'; (try dsimp only at N'); (try dsimp only); k_sweep))))
local macro_rules | `(tactic| walk_at "AOut") => `(tactic| (k_dflt (
  rename Fr _ _ _ _ => kF
  rename News _ _ _ _ => kN
  refine ⟨rfl, ?_⟩
  refine' a3_mk kF rfl rfl rfl rfl ?n ?dF ?dM ?hI ?hlen ?hc ?hbl ?hr ?hf ?hm
  case n => ((repeat (refine' news_cons kN (by k_mem) ?_)); exact News.nil)
  case dF => assumption
  case dM => assumption
  case hI => assumption
  case hlen => omega
  case hc => omega
  case hbl => k_ne
  case hr => k_all
  case hf => assumption
  case hm => exact many_bnd _)))
theorem segA1 {w : World} {mean : ExcName → Option Value} {mg mb : Str → Option Value} {base h₀ : Heap} {L fa sa : Addr} {cd : Value} {sc : Scope} (hsc : sc = lawScope) {body : List Stmt} (hb : body = lawBody.take 3)
    {m0 : Str → Option Value} {vs : List Value} {ns : List Int} {oF oM : Obj} {hp : Heap} {gs : Array GenState} {dr : Drawn} {tk : Nat} {os : OsState} {E : Value → Shared → Prop}
    (KX : (hd.heap_39 w.params).In h₀) (T : Top hd.view_39 (looseW hd.view_39 []) mean mg mb h₀) (K0 : Below callerA base [] h₀)
    (hL : h₀.IsList sa vs.toArray) (hI : IntsAre vs ns) (hlen : ns.length ≤ 63)
    (F : Fr h₀ L hp (fun y => if y = Str.ofString "script" then some (.ref sa) else m0 y)) (dF : oF.data = .cell none) (dM : oM.data = .cell none) (N : News h₀ L hp [(L + 1 + 1, oF), (L + 1, oM)]) :
    wpAny (model PySem.Challenge.rw_rh0020_01.row.prog w) (callerA.deeper (lawEnv sc L fa cd)) (execs body (lawEnv sc L fa cd)) (AOut (A3 h₀ L gs dr os)) E ⟨hp, gs, dr, tk, os⟩ := by
  w_on
  (conv at hsc => rhs; whnf)
  (conv at hb => rhs; whnf; arg 2; whnf; arg 2; whnf; arg 2; whnf)
  subst hsc hb
  dsimp only [lawEnv] at *
  repeat (first | (k_unfold; (try dsimp only)) | (k_end; wrow_close) | walk1 | (dsimp only; walk1) | (leave1; walk_say "STEP leave1"; try dsimp only))
end
end
end Mine
namespace Mine
section
local macro_rules | `(tactic| walk_at "CompRest") => `(tactic| (k_dflt (with_unfolding_all refine LCg.CompRest.succ ?_); k_dflt (intro v' I' oI' C' oC' D' m' h' tk' E' hv' hC' hx' F' N' off' ne'; lcg_open hv')))
local macro_rules | `(tactic| walk_at "CompEnd") => `(tactic| (k_dflt (first
  | (refine compEnd0 (by assumption) (by assumption) (by assumption) (by lcg_src) ?_)
  | (refine compEnd1 (by assumption) (by assumption) (by assumption) (by k_ne) (by k_ne) (by k_ne) (by lcg_src) ?_))))
local macro_rules | `(tactic| walk_at "subscriptTail List cons Slice") => `(tactic| (k_here; k_dflt (rename Int => r1; have hr3 : r1 = 0 ∨ r1 = 1 ∨ r1 = 2 := (by omega); (rcases hr3 with h | h | h) <;> subst h)))
local macro_rules | `(tactic| walk_at "subscriptTail List cons Call ref int") => `(tactic| (k_here; k_dflt (rename Int => r1; have hr3 : r1 = 0 ∨ r1 = 1 ∨ r1 = 2 ∨ r1 = 3 := (by omega); (rcases hr3 with h | h | h | h) <;> subst h)))
local macro_rules | `(tactic| k_all) => `(tactic| first | (refine allLt_ne ?_; simp only [*]; done) | (refine off1_ne ?_; simp only [*]; done))
local macro_rules | `(tactic| k_all) => `(tactic| assumption)
local macro_rules | `(tactic| walk_at "call ref") => `(tactic| (
  k_here
  (with_reducible show wpAny _ _ (PySem.call (Value.ref 53) [Value.ref _, Value.int _ _]) _ _ _)
  k_dflt (
    refine' take_cut ?hX ?hT ?hK ?hF ?hN ?hU ?hlm ?hI ?hlen ?hbl ?hc ?hlim rfl ?_
    case hX => assumption
    case hT => assumption
    case hK => assumption
    case hF => k_asm
    case hN => k_asm
    case hU => (intro t'; k_upd)
    case hlm => k_mem
    case hI => assumption
    case hlen => omega
    case hbl => k_ne
    case hc => omega
    case hlim => omega
    (intro r' t' t'' h' tk' r0' F' N'; (try dsimp only at N'); (try dsimp only); k_sweep))))
local macro_rules | `(tactic| ktr_unf) => `(tactic| ((rename News _ _ _ _ => kN); refine' news_app ?nh (news_sub kN ?nt); (case nt => (intro p hp; (repeat (first | exact hp | refine List.Mem.tail _ ?_)))); (case nh => ((repeat (refine' news_cons kN (by k_mem) ?_)); exact News.nil))))
local macro_rules | `(tactic| ktr_rel) => `(tactic| first | exact LastT.sym _ _ _ | exact LastT.num _ _ _ _ | exact LastT.call _ _ _ _)
local macro_rules | `(tactic| walk_at "AOut") => `(tactic| (k_dflt (
  rename Fr _ _ _ _ => kF
  refine ⟨rfl, ?_⟩
  first
  | (refine' c1_one kF rfl rfl rfl rfl rfl ?n ?last ?k1; (case n => ktr_unf); (case last => ktr_rel); (case k1 => decide +kernel))
  | (refine' c1_two kF rfl rfl rfl rfl rfl ?n ?last ?hn ?k1 ?k2; (case n => ktr_unf); (case last => ktr_rel); (case hn => simpa using (by assumption)); (case k1 => decide +kernel); (case k2 => decide +kernel))
  | (refine' c1_three kF rfl rfl rfl rfl rfl ?n ?last ?hn ?k1 ?k2 ?k3; (case n => ktr_unf); (case last => ktr_rel); (case hn => simpa using (by assumption)); (case k1 => decide +kernel); (case k2 => decide +kernel); (case k3 => decide +kernel)))))
theorem segA2 {w : World} {mean : ExcName → Option Value} {mg mb : Str → Option Value} {base h₀ : Heap} {L fa : Addr} {cd : Value} {sc : Scope} (hsc : sc = lawScope) {body : List Stmt} (hb : body = (lawBody.drop 3).take 4)
    {m0 : Str → Option Value} {vs : List Value} {ns : List Int} {hp : Heap} {gs : Array GenState} {dr : Drawn} {tk : Nat} {os : OsState} {E : Value → Shared → Prop}
    {rest : List (Addr × Obj)} {b l xa : Addr} {c many : Int} {lone : Bool} {t0 tm : Tok} {ep : Nat}
    (KX : (hd.heap_39 w.params).In h₀) (T : Top hd.view_39 (looseW hd.view_39 []) mean mg mb h₀) (K0 : Below callerA base [] h₀)
    (hI : IntsAre vs ns) (hlen : ns.length ≤ 8) (hc : 0 ≤ c ∧ c ≤ 5) (hbl : l ≠ b) (hr : ∀ p ∈ rest, p.1 ≠ b)
    (F : Fr h₀ L hp (fun y => if y = Str.ofString "is_lone" then some (.bool lone) else if y = Str.ofString "many" then some (.int many tm) else if y = Str.ofString "x" then some (.ref xa) else if y = Str.ofString "box" then some (.ref b) else m0 y))
    (N : News h₀ L hp ((b, listOf #[.ref l, .int c t0] 0) :: (l, listOf vs.toArray ep) :: rest)) :
    wpAny (model PySem.Challenge.rw_rh0020_01.row.prog w) (callerA.deeper (lawEnv sc L fa cd)) (execs body (lawEnv sc L fa cd)) (AOut (C1 h₀ L gs dr os rest xa many tm lone)) E ⟨hp, gs, dr, tk, os⟩ := by
  w_on
  (conv at hsc => rhs; whnf)
  (conv at hb => rhs; whnf; arg 2; whnf; arg 2; whnf; arg 2; whnf; arg 2; whnf)
  subst hsc hb
  dsimp only [lawEnv] at *
  repeat (first | (k_unfold; (try dsimp only)) | (k_end; wrow_close) | walk1 | (dsimp only; walk1) | (leave1; walk_say "STEP leave1"; try dsimp only))
end
end Mine
namespace Mine
section
open PySem.Spec
theorem eqD {prog : Program} {w : World} {A : Around} {E : Value → Shared → Prop} {s : Shared} {a b' : Value} {da db : PyData} {as bs : List Addr} {Q : Value → Shared → Prop} {b : Bool}
    (ra : Reads s.heap a da as) (rb : Reads s.heap b' db bs) (ha : SeqAt.shaped da = true) (hb : SeqAt.shaped db = true) (hu : A.units + 64 < cLine) (he : PyData.eqv da db = b) (h : Q (.bool b) s) :
    wpAny (model prog w) A (compareOp .Eq a b') Q E s := eq_dataH ra rb ha hb hu (by rw [he]; exact h)
theorem item_ledger {prog : Program} {w : World} {A : Around} {E : Value → Shared → Prop} {s : Shared} {h₀ : Heap} {L l : Addr} {news : List (Addr × Obj)} {vs : List Value} {n : Nat} {k : Int} {u : Tok} {v : Value} {Q : Value → Shared → Prop} {value slice : PySem.Expr}
    (N : News h₀ L s.heap news) (hm : (l, listOf vs.toArray n) ∈ news) (h0 : 0 ≤ k) (hhi : k < 2 ^ 63) (hx : vs[k.toNat]? = some v) (h : Q v s)
    (hs : subscripted slice false (.ref l) (.int k u) = operate [.ref l, .int k u] (getItem (.ref l) (.int k u))) :
    wpAny (model prog w) A (subscriptTail value slice (.ref l) (.int k u)) Q E s :=
  have hl : s.heap.IsList l vs.toArray := ⟨_, (N _ hm).1, rfl, n, rfl⟩
  tail_any hl.typeIs slot_list_getitem.lookup (wpAny_getItem_list hl h0 hhi (by simpa using hx) h) hs
/-- a value that a ledger tells as data -/
def RdM (rE : List (Addr × Obj)) (v : Value) (d : PyData) : Prop := ∀ h : Heap, (∀ p ∈ rE, h.get? p.1 = some p.2) → ∃ as, Reads h v d as
inductive EsR (rE : List (Addr × Obj)) : List Value → List PyData → Prop
  | nil : EsR rE [] []
  | cons {v : Value} {d : PyData} {es : List Value} {ds : List PyData} (h : RdM rE v d) (hc : d.canLay0 = true) (hd : d.depth ≤ 3) (r : EsR rE es ds) : EsR rE (v :: es) (d :: ds)
theorem EsR.reads {rE : List (Addr × Obj)} {h : Heap} (hN : ∀ p ∈ rE, h.get? p.1 = some p.2) : ∀ {es : List Value} {ds : List PyData}, EsR rE es ds → ∃ as, ReadsAll h es ds as
  | _, _, .nil => ⟨_, .nil⟩
  | _, _, .cons h1 _ _ r => by
    obtain ⟨_, x⟩ := h1 h hN
    obtain ⟨_, y⟩ := EsR.reads hN r
    exact ⟨_, .cons x y⟩
theorem EsR.lay {rE : List (Addr × Obj)} : ∀ {es : List Value} {ds : List PyData}, EsR rE es ds → PyData.canLayAll0 ds = true ∧ PyData.depthAll ds ≤ 3
  | _, _, .nil => ⟨rfl, Nat.zero_le _⟩
  | _, _, .cons _ hc hd r => by
    obtain ⟨a, b⟩ := r.lay
    exact ⟨by simp [PyData.canLayAll0, hc, a], by simp only [PyData.depthAll]; omega⟩
/-- the equations and their list -/
inductive ES : List (Addr × Obj) → Addr → Addr → List Value → Prop
  | eqn {ea sa : Addr} {t : Tok} {v2 v3 : Value} {n : Nat} : ES [(ea, tupO [.str (Str.ofString "eq") t, v2, v3]), (sa, listOf #[.ref ea] n)] ea sa [.ref ea]
  | sum {ea sa : Addr} {t : Tok} {v2 : Value} {n : Nat} : ES [(ea, tupO [.str (Str.ofString "sum") t, v2]), (sa, listOf #[.ref ea] n)] ea sa [.ref ea]
  | l0 {ea sa ta : Addr} {t : Tok} {n : Nat} : ES [(ea, tupO [.str (Str.ofString "list") t, .ref ta]), (ta, tupO []), (sa, listOf #[] n)] ea sa []
  | l1 {ea sa ta : Addr} {t : Tok} {n : Nat} {v1 : Value} : ES [(ea, tupO [.str (Str.ofString "list") t, .ref ta]), (ta, tupO [v1]), (sa, listOf #[v1] n)] ea sa [v1]
  | l2 {ea sa ta : Addr} {t : Tok} {n : Nat} {v1 v2 : Value} : ES [(ea, tupO [.str (Str.ofString "list") t, .ref ta]), (ta, tupO [v1, v2]), (sa, listOf #[v1, v2] n)] ea sa [v1, v2]
  | l3 {ea sa ta : Addr} {t : Tok} {n : Nat} {v1 v2 v3 : Value} : ES [(ea, tupO [.str (Str.ofString "list") t, .ref ta]), (ta, tupO [v1, v2, v3]), (sa, listOf #[v1, v2, v3] n)] ea sa [v1, v2, v3]
def C2 (h₀ : Heap) (L : Addr) (gs : Array GenState) (dr : Drawn) (os : OsState) (rE newsL : List (Addr × Obj)) (al an : Addr) (lone : Bool) (s' : Shared) : Prop :=
  ∃ (h : Heap) (tk : Nat) (m1 : Str → Option Value) (ea sa : Addr) (es : List Value) (ds : List PyData) (newsE : List (Addr × Obj)), s' = ⟨h, gs, dr, tk, os⟩ ∧
    Fr h₀ L h (fun y => if y = Str.ofString "some" then some (.ref sa) else if y = Str.ofString "equations" then some (.ref ea) else if y = Str.ofString "letters" then some (.ref al) else if y = Str.ofString "names" then some (.ref an) else if y = Str.ofString "is_lone" then some (.bool lone) else m1 y) ∧
    News h₀ L h (newsE ++ (rE ++ newsL)) ∧ ES newsE ea sa es ∧ EsR rE es ds
theorem c2_mk {h₀ h : Heap} {L : Addr} {m : Str → Option Value} {gs : Array GenState} {dr : Drawn} {tk : Nat} {os : OsState} {rE newsL newsE : List (Addr × Obj)} {al an ea sa : Addr} {lone : Bool} {es : List Value} {ds : List PyData}
    (F : Fr h₀ L h m) (e1 : m (Str.ofString "some") = some (.ref sa)) (e2 : m (Str.ofString "equations") = some (.ref ea)) (e3 : m (Str.ofString "letters") = some (.ref al)) (e4 : m (Str.ofString "names") = some (.ref an)) (e5 : m (Str.ofString "is_lone") = some (.bool lone))
    (X : ES newsE ea sa es) (N : News h₀ L h (newsE ++ (rE ++ newsL))) (R : EsR rE es ds) : C2 h₀ L gs dr os rE newsL al an lone ⟨h, gs, dr, tk, os⟩ :=
  ⟨h, tk, m, ea, sa, es, ds, newsE, rfl, fr_pick5 F e1 e2 e3 e4 e5, N, X, R⟩
section
variable {xa mn e0 n1 e1 n2 n3 e2 xy e3 x1 ya : Addr} {t0 t1 t2 t3 t4 t5 t6 t7 t8 t9 t10 t11 t12 t13 t14 t15 t16 : Tok} {es : List Value} {ds : List PyData}
local macro_rules | `(tactic| ktr_rel) => `(tactic| first | exact Reads.str _ _ | exact Reads.int _ _ | exact reads_tuple_at (by first | assumption | (refine hN _ ?_; k_mem)) rfl rfl (by ktr_room))
local macro_rules | `(tactic| ktr_room) => `(tactic| first | exact ReadsAll.nil | exact ReadsAll.cons (by ktr_rel) (by ktr_room))
abbrev dX : PyData := .tuple [.str (Str.ofString "sym"), .str (Str.ofString "x")]
abbrev dY : PyData := .tuple [.str (Str.ofString "sym"), .str (Str.ofString "y")]
abbrev dN (a b : Int) : PyData := .tuple [.str (Str.ofString "num"), .int a, .int b]
theorem rd_mem {rE : List (Addr × Obj)} {h : Heap} (hN : ∀ p ∈ rE, h.get? p.1 = some p.2) {a : Addr} {vs : List Value} (hm : (a, tupO vs) ∈ rE) {ds : List PyData} {as : List Addr} (r : ReadsAll h vs ds as) : Reads h (.ref a) (.tuple ds) as :=
  reads_tuple_at (hN _ hm) rfl rfl r
theorem es_xa (r : EsR [(mn, listOf #[.ref e0, .ref e1, .ref e2, .ref e3] 0), (e0, tupO [.str (Str.ofString "eq") t0, .ref xa, .ref n1]), (n1, tupO [.str (Str.ofString "num") t1, .int 1 t2, .int 1 t3]), (e1, tupO [.str (Str.ofString "eq") t4, .ref n2, .ref n3]), (n2, tupO [.str (Str.ofString "num") t5, .int 0 t6, .int 1 t7]), (n3, tupO [.str (Str.ofString "num") t8, .int 0 t9, .int 1 t10]), (e2, tupO [.str (Str.ofString "sum") t11, .ref xy]), (xy, tupO [.ref xa, .ref ya]), (e3, tupO [.str (Str.ofString "list") t12, .ref x1]), (x1, tupO [.ref xa]), (xa, tupO [.str (Str.ofString "sym") t13, .str (Str.ofString "x") t14]), (ya, tupO [.str (Str.ofString "sym") t15, .str (Str.ofString "y") t16])] es ds) : EsR [(mn, listOf #[.ref e0, .ref e1, .ref e2, .ref e3] 0), (e0, tupO [.str (Str.ofString "eq") t0, .ref xa, .ref n1]), (n1, tupO [.str (Str.ofString "num") t1, .int 1 t2, .int 1 t3]), (e1, tupO [.str (Str.ofString "eq") t4, .ref n2, .ref n3]), (n2, tupO [.str (Str.ofString "num") t5, .int 0 t6, .int 1 t7]), (n3, tupO [.str (Str.ofString "num") t8, .int 0 t9, .int 1 t10]), (e2, tupO [.str (Str.ofString "sum") t11, .ref xy]), (xy, tupO [.ref xa, .ref ya]), (e3, tupO [.str (Str.ofString "list") t12, .ref x1]), (x1, tupO [.ref xa]), (xa, tupO [.str (Str.ofString "sym") t13, .str (Str.ofString "x") t14]), (ya, tupO [.str (Str.ofString "sym") t15, .str (Str.ofString "y") t16])] (.ref xa :: es) (dX :: ds) :=
  .cons (fun h hN => ⟨_, rd_mem hN (by k_mem) (.cons (.str _ _) (.cons (.str _ _) .nil))⟩) (by decide +kernel) (by decide +kernel) r
theorem es_e0 (r : EsR [(mn, listOf #[.ref e0, .ref e1, .ref e2, .ref e3] 0), (e0, tupO [.str (Str.ofString "eq") t0, .ref xa, .ref n1]), (n1, tupO [.str (Str.ofString "num") t1, .int 1 t2, .int 1 t3]), (e1, tupO [.str (Str.ofString "eq") t4, .ref n2, .ref n3]), (n2, tupO [.str (Str.ofString "num") t5, .int 0 t6, .int 1 t7]), (n3, tupO [.str (Str.ofString "num") t8, .int 0 t9, .int 1 t10]), (e2, tupO [.str (Str.ofString "sum") t11, .ref xy]), (xy, tupO [.ref xa, .ref ya]), (e3, tupO [.str (Str.ofString "list") t12, .ref x1]), (x1, tupO [.ref xa]), (xa, tupO [.str (Str.ofString "sym") t13, .str (Str.ofString "x") t14]), (ya, tupO [.str (Str.ofString "sym") t15, .str (Str.ofString "y") t16])] es ds) : EsR [(mn, listOf #[.ref e0, .ref e1, .ref e2, .ref e3] 0), (e0, tupO [.str (Str.ofString "eq") t0, .ref xa, .ref n1]), (n1, tupO [.str (Str.ofString "num") t1, .int 1 t2, .int 1 t3]), (e1, tupO [.str (Str.ofString "eq") t4, .ref n2, .ref n3]), (n2, tupO [.str (Str.ofString "num") t5, .int 0 t6, .int 1 t7]), (n3, tupO [.str (Str.ofString "num") t8, .int 0 t9, .int 1 t10]), (e2, tupO [.str (Str.ofString "sum") t11, .ref xy]), (xy, tupO [.ref xa, .ref ya]), (e3, tupO [.str (Str.ofString "list") t12, .ref x1]), (x1, tupO [.ref xa]), (xa, tupO [.str (Str.ofString "sym") t13, .str (Str.ofString "x") t14]), (ya, tupO [.str (Str.ofString "sym") t15, .str (Str.ofString "y") t16])] (.ref e0 :: es) (.tuple [.str (Str.ofString "eq"), dX, dN 1 1] :: ds) :=
  .cons (fun h hN => ⟨_, rd_mem hN (by k_mem) (.cons (.str _ _) (.cons (rd_mem hN (by k_mem) (.cons (.str _ _) (.cons (.str _ _) .nil))) (.cons (rd_mem hN (by k_mem) (.cons (.str _ _) (.cons (.int _ _) (.cons (.int _ _) .nil)))) .nil)))⟩) (by decide +kernel) (by decide +kernel) r
theorem es_e1 (r : EsR [(mn, listOf #[.ref e0, .ref e1, .ref e2, .ref e3] 0), (e0, tupO [.str (Str.ofString "eq") t0, .ref xa, .ref n1]), (n1, tupO [.str (Str.ofString "num") t1, .int 1 t2, .int 1 t3]), (e1, tupO [.str (Str.ofString "eq") t4, .ref n2, .ref n3]), (n2, tupO [.str (Str.ofString "num") t5, .int 0 t6, .int 1 t7]), (n3, tupO [.str (Str.ofString "num") t8, .int 0 t9, .int 1 t10]), (e2, tupO [.str (Str.ofString "sum") t11, .ref xy]), (xy, tupO [.ref xa, .ref ya]), (e3, tupO [.str (Str.ofString "list") t12, .ref x1]), (x1, tupO [.ref xa]), (xa, tupO [.str (Str.ofString "sym") t13, .str (Str.ofString "x") t14]), (ya, tupO [.str (Str.ofString "sym") t15, .str (Str.ofString "y") t16])] es ds) : EsR [(mn, listOf #[.ref e0, .ref e1, .ref e2, .ref e3] 0), (e0, tupO [.str (Str.ofString "eq") t0, .ref xa, .ref n1]), (n1, tupO [.str (Str.ofString "num") t1, .int 1 t2, .int 1 t3]), (e1, tupO [.str (Str.ofString "eq") t4, .ref n2, .ref n3]), (n2, tupO [.str (Str.ofString "num") t5, .int 0 t6, .int 1 t7]), (n3, tupO [.str (Str.ofString "num") t8, .int 0 t9, .int 1 t10]), (e2, tupO [.str (Str.ofString "sum") t11, .ref xy]), (xy, tupO [.ref xa, .ref ya]), (e3, tupO [.str (Str.ofString "list") t12, .ref x1]), (x1, tupO [.ref xa]), (xa, tupO [.str (Str.ofString "sym") t13, .str (Str.ofString "x") t14]), (ya, tupO [.str (Str.ofString "sym") t15, .str (Str.ofString "y") t16])] (.ref e1 :: es) (.tuple [.str (Str.ofString "eq"), dN 0 1, dN 0 1] :: ds) :=
  .cons (fun h hN => ⟨_, rd_mem hN (by k_mem) (.cons (.str _ _) (.cons (rd_mem hN (a := n2) (by k_mem) (.cons (.str _ _) (.cons (.int _ _) (.cons (.int _ _) .nil)))) (.cons (rd_mem hN (a := n3) (by k_mem) (.cons (.str _ _) (.cons (.int _ _) (.cons (.int _ _) .nil)))) .nil)))⟩) (by decide +kernel) (by decide +kernel) r
theorem es_e2 (r : EsR [(mn, listOf #[.ref e0, .ref e1, .ref e2, .ref e3] 0), (e0, tupO [.str (Str.ofString "eq") t0, .ref xa, .ref n1]), (n1, tupO [.str (Str.ofString "num") t1, .int 1 t2, .int 1 t3]), (e1, tupO [.str (Str.ofString "eq") t4, .ref n2, .ref n3]), (n2, tupO [.str (Str.ofString "num") t5, .int 0 t6, .int 1 t7]), (n3, tupO [.str (Str.ofString "num") t8, .int 0 t9, .int 1 t10]), (e2, tupO [.str (Str.ofString "sum") t11, .ref xy]), (xy, tupO [.ref xa, .ref ya]), (e3, tupO [.str (Str.ofString "list") t12, .ref x1]), (x1, tupO [.ref xa]), (xa, tupO [.str (Str.ofString "sym") t13, .str (Str.ofString "x") t14]), (ya, tupO [.str (Str.ofString "sym") t15, .str (Str.ofString "y") t16])] es ds) : EsR [(mn, listOf #[.ref e0, .ref e1, .ref e2, .ref e3] 0), (e0, tupO [.str (Str.ofString "eq") t0, .ref xa, .ref n1]), (n1, tupO [.str (Str.ofString "num") t1, .int 1 t2, .int 1 t3]), (e1, tupO [.str (Str.ofString "eq") t4, .ref n2, .ref n3]), (n2, tupO [.str (Str.ofString "num") t5, .int 0 t6, .int 1 t7]), (n3, tupO [.str (Str.ofString "num") t8, .int 0 t9, .int 1 t10]), (e2, tupO [.str (Str.ofString "sum") t11, .ref xy]), (xy, tupO [.ref xa, .ref ya]), (e3, tupO [.str (Str.ofString "list") t12, .ref x1]), (x1, tupO [.ref xa]), (xa, tupO [.str (Str.ofString "sym") t13, .str (Str.ofString "x") t14]), (ya, tupO [.str (Str.ofString "sym") t15, .str (Str.ofString "y") t16])] (.ref e2 :: es) (.tuple [.str (Str.ofString "sum"), .tuple [dX, dY]] :: ds) :=
  .cons (fun h hN => ⟨_, rd_mem hN (by k_mem) (.cons (.str _ _) (.cons (rd_mem hN (by k_mem) (.cons (rd_mem hN (a := xa) (by k_mem) (.cons (.str _ _) (.cons (.str _ _) .nil))) (.cons (rd_mem hN (a := ya) (by k_mem) (.cons (.str _ _) (.cons (.str _ _) .nil))) .nil))) .nil))⟩) (by decide +kernel) (by decide +kernel) r
theorem es_e3 (r : EsR [(mn, listOf #[.ref e0, .ref e1, .ref e2, .ref e3] 0), (e0, tupO [.str (Str.ofString "eq") t0, .ref xa, .ref n1]), (n1, tupO [.str (Str.ofString "num") t1, .int 1 t2, .int 1 t3]), (e1, tupO [.str (Str.ofString "eq") t4, .ref n2, .ref n3]), (n2, tupO [.str (Str.ofString "num") t5, .int 0 t6, .int 1 t7]), (n3, tupO [.str (Str.ofString "num") t8, .int 0 t9, .int 1 t10]), (e2, tupO [.str (Str.ofString "sum") t11, .ref xy]), (xy, tupO [.ref xa, .ref ya]), (e3, tupO [.str (Str.ofString "list") t12, .ref x1]), (x1, tupO [.ref xa]), (xa, tupO [.str (Str.ofString "sym") t13, .str (Str.ofString "x") t14]), (ya, tupO [.str (Str.ofString "sym") t15, .str (Str.ofString "y") t16])] es ds) : EsR [(mn, listOf #[.ref e0, .ref e1, .ref e2, .ref e3] 0), (e0, tupO [.str (Str.ofString "eq") t0, .ref xa, .ref n1]), (n1, tupO [.str (Str.ofString "num") t1, .int 1 t2, .int 1 t3]), (e1, tupO [.str (Str.ofString "eq") t4, .ref n2, .ref n3]), (n2, tupO [.str (Str.ofString "num") t5, .int 0 t6, .int 1 t7]), (n3, tupO [.str (Str.ofString "num") t8, .int 0 t9, .int 1 t10]), (e2, tupO [.str (Str.ofString "sum") t11, .ref xy]), (xy, tupO [.ref xa, .ref ya]), (e3, tupO [.str (Str.ofString "list") t12, .ref x1]), (x1, tupO [.ref xa]), (xa, tupO [.str (Str.ofString "sym") t13, .str (Str.ofString "x") t14]), (ya, tupO [.str (Str.ofString "sym") t15, .str (Str.ofString "y") t16])] (.ref e3 :: es) (.tuple [.str (Str.ofString "list"), .tuple [dX]] :: ds) :=
  .cons (fun h hN => ⟨_, rd_mem hN (by k_mem) (.cons (.str _ _) (.cons (rd_mem hN (by k_mem) (.cons (rd_mem hN (a := xa) (by k_mem) (.cons (.str _ _) (.cons (.str _ _) .nil))) .nil)) .nil))⟩) (by decide +kernel) (by decide +kernel) r
end
end
end Mine
namespace Mine
section
open PySem.Spec
section
local macro_rules | `(tactic| k_all) => `(tactic| first | (refine allLt_ne ?_; simp only [*]; done) | (refine off1_ne ?_; simp only [*]; done))
local macro_rules | `(tactic| k_all) => `(tactic| assumption)
local macro_rules | `(tactic| walk_at "CompRest") => `(tactic| (k_dflt (with_unfolding_all refine LCg.CompRest.succ ?_); k_dflt (intro v' I' oI' C' oC' D' m' h' tk' E' hv' hC' hx' F' N' off' ne'; (first | lcg_open hv' | (obtain ⟨t9', hv9'⟩ := hv'; subst hv9')))))
local macro_rules | `(tactic| walk_at "CompEnd") => `(tactic| (k_dflt (first
  | (refine compEnd0 (by assumption) (by assumption) (by assumption) (by lcg_src) ?_)
  | (refine compEnd1 (by assumption) (by assumption) (by assumption) (by k_ne) (by k_ne) (by k_ne) (by lcg_src) ?_))))
local macro_rules | `(tactic| walk_at "CompSrc") => `(tactic| (k_here; k_dflt (
  (refine LCg.CompSrc.range (by rfl) (by k_asm) (by k_asm) (by assumption) (by first | decide | rfl) (by first | rfl | decide) (by first | size_fits | exact Nat.le_of_ble_eq_true rfl) ?_; intro g'; lcg_lit))))
local macro_rules | `(tactic| ktr_rel) => `(tactic| first | exact Reads.str _ _ | exact Reads.int _ _ | exact reads_tuple_at (News.get (by with_reducible assumption) (by k_mem)) rfl rfl (by ktr_room))
local macro_rules | `(tactic| ktr_room) => `(tactic| first | exact ReadsAll.nil | exact ReadsAll.cons (by ktr_rel) (by ktr_room))
local macro_rules | `(tactic| walk_at "compareOp Eq ref ref") => `(tactic| (k_here; (with_reducible show wpAny _ _ (compareOp CmpOp.Eq (Value.ref _) (Value.ref _)) _ _ _); k_dflt (first
  | refine eqD (b := false) (by ktr_rel) (by ktr_rel) (by decide +kernel) (by decide +kernel) (by ke_room) (by decide +kernel) ?_
  | refine eqD (b := true) (by ktr_rel) (by ktr_rel) (by decide +kernel) (by decide +kernel) (by ke_room) (by decide +kernel) ?_)))
local macro_rules | `(tactic| walk_at "subscriptTail Name Constant ref int") => `(tactic| (k_here; (with_reducible show wpAny _ _ (subscriptTail _ _ (Value.ref _) (Value.int _ _)) _ _ _); k_dflt (
  (refine' item_ledger ?N ?m ?a ?b ?x ?_ ?hs; (case N => with_reducible assumption); (case m => k_mem); (case a => decide); (case b => decide); (case x => rfl); (case hs => with_unfolding_all rfl)))))
local macro_rules | `(tactic| walk_at "subscriptTail Name BinOp ref int") => `(tactic| (k_here; (with_reducible show wpAny _ _ (subscriptTail _ _ (Value.ref _) (Value.int _ _)) _ _ _); k_dflt (
  (refine' item_ledger ?N ?m ?a ?b ?x ?_ ?hs; (case N => with_reducible assumption); (case m => k_mem); (case a => decide); (case b => decide); (case x => rfl); (case hs => with_unfolding_all rfl)))))
local macro_rules | `(tactic| ktr_unf) => `(tactic| ((rename News _ _ _ _ => kN); refine' news_app ?nh (news_sub kN ?nt); (case nt => (intro p hp; (repeat (first | exact hp | refine List.Mem.tail _ ?_)))); (case nh => ((repeat (refine' news_cons kN (by k_mem) ?_)); exact News.nil))))
local macro_rules | `(tactic| tb_start) => `(tactic| first | exact EsR.nil | exact es_e0 (by tb_start) | exact es_e1 (by tb_start) | exact es_e2 (by tb_start) | exact es_e3 (by tb_start) | exact es_xa (by tb_start))
local macro_rules | `(tactic| walk_at "AOut") => `(tactic| (k_dflt (
  rename Fr _ _ _ _ => kF
  refine ⟨rfl, ?_⟩
  first
  | (refine' c2_mk kF rfl rfl rfl rfl rfl ES.l0 ?n ?r; (case n => ktr_unf); (case r => tb_start))
  | (refine' c2_mk kF rfl rfl rfl rfl rfl ES.l1 ?n ?r; (case n => ktr_unf); (case r => tb_start))
  | (refine' c2_mk kF rfl rfl rfl rfl rfl ES.l2 ?n ?r; (case n => ktr_unf); (case r => tb_start))
  | (refine' c2_mk kF rfl rfl rfl rfl rfl ES.l3 ?n ?r; (case n => ktr_unf); (case r => tb_start))
  | (refine' c2_mk kF rfl rfl rfl rfl rfl ES.eqn ?n ?r; (case n => ktr_unf); (case r => tb_start))
  | (refine' c2_mk kF rfl rfl rfl rfl rfl ES.sum ?n ?r; (case n => ktr_unf); (case r => tb_start)))))
theorem segB {w : World} {mean : ExcName → Option Value} {mg mb : Str → Option Value} {base h₀ : Heap} {L fa : Addr} {cd : Value} {sc : Scope} (hsc : sc = lawScope) {body : List Stmt} (hb : body = (lawBody.drop 7).take 3)
    {m1 : Str → Option Value} {hp : Heap} {gs : Array GenState} {dr : Drawn} {tk : Nat} {os : OsState} {E : Value → Shared → Prop} 
    {newsL : List (Addr × Obj)} {an al xa : Addr} {many f : Int} {lone : Bool} {tm tf t0 t1 t2 t3 t4 t5 t6 t7 t8 t9 t10 t11 t12 t13 t14 t15 t16 : Tok} {oF oM : Obj} {mn e0 n1 e1 n2 n3 e2 xy e3 x1 ya : Addr}
    (KX : (hd.heap_39 w.params).In h₀) (T : Top hd.view_39 (looseW hd.view_39 []) mean mg mb h₀) (K0 : Below callerA base [] h₀)
    (hm : 0 ≤ many ∧ many ≤ 4) (hf : 0 ≤ f ∧ f < 4) (dF : oF.data = .cell (some (.int f tf))) (dM : oM.data = .cell (some (.ref mn)))
    (F : Fr h₀ L hp (fun y => if y = Str.ofString "letters" then some (.ref al) else if y = Str.ofString "names" then some (.ref an) else if y = Str.ofString "is_lone" then some (.bool lone) else if y = Str.ofString "many" then some (.int many tm) else if y = Str.ofString "x" then some (.ref xa) else m1 y))
    (N : News h₀ L hp ((L + 1 + 1, oF) :: (L + 1, oM) :: (mn, listOf #[.ref e0, .ref e1, .ref e2, .ref e3] 0) :: (e0, tupO [.str (Str.ofString "eq") t0, .ref xa, .ref n1]) :: (n1, tupO [.str (Str.ofString "num") t1, .int 1 t2, .int 1 t3]) :: (e1, tupO [.str (Str.ofString "eq") t4, .ref n2, .ref n3]) :: (n2, tupO [.str (Str.ofString "num") t5, .int 0 t6, .int 1 t7]) :: (n3, tupO [.str (Str.ofString "num") t8, .int 0 t9, .int 1 t10]) :: (e2, tupO [.str (Str.ofString "sum") t11, .ref xy]) :: (xy, tupO [.ref xa, .ref ya]) :: (e3, tupO [.str (Str.ofString "list") t12, .ref x1]) :: (x1, tupO [.ref xa]) :: (xa, tupO [.str (Str.ofString "sym") t13, .str (Str.ofString "x") t14]) :: (ya, tupO [.str (Str.ofString "sym") t15, .str (Str.ofString "y") t16]) :: newsL)) :
    wpAny (model PySem.Challenge.rw_rh0020_01.row.prog w) (callerA.deeper (lawEnv sc L fa cd)) (execs body (lawEnv sc L fa cd)) (AOut (C2 h₀ L gs dr os [(mn, listOf #[.ref e0, .ref e1, .ref e2, .ref e3] 0), (e0, tupO [.str (Str.ofString "eq") t0, .ref xa, .ref n1]), (n1, tupO [.str (Str.ofString "num") t1, .int 1 t2, .int 1 t3]), (e1, tupO [.str (Str.ofString "eq") t4, .ref n2, .ref n3]), (n2, tupO [.str (Str.ofString "num") t5, .int 0 t6, .int 1 t7]), (n3, tupO [.str (Str.ofString "num") t8, .int 0 t9, .int 1 t10]), (e2, tupO [.str (Str.ofString "sum") t11, .ref xy]), (xy, tupO [.ref xa, .ref ya]), (e3, tupO [.str (Str.ofString "list") t12, .ref x1]), (x1, tupO [.ref xa]), (xa, tupO [.str (Str.ofString "sym") t13, .str (Str.ofString "x") t14]), (ya, tupO [.str (Str.ofString "sym") t15, .str (Str.ofString "y") t16])] newsL al an lone)) E ⟨hp, gs, dr, tk, os⟩ := by
  w_on
  (conv at hsc => rhs; whnf)
  (conv at hb => rhs; whnf; arg 2; whnf; arg 2; whnf; arg 2; whnf)
  subst hsc hb
  dsimp only [lawEnv] at *
  have hm5 : many = 0 ∨ many = 1 ∨ many = 2 ∨ many = 3 ∨ many = 4 := by omega
  have hf4 : f = 0 ∨ f = 1 ∨ f = 2 ∨ f = 3 := by omega
  rcases hm5 with rfl | rfl | rfl | rfl | rfl
  · clear hf4
    repeat (first | (k_unfold; (try dsimp only)) | (k_end; wrow_close) | walk1 | (dsimp only; walk1) | (leave1; walk_say "STEP leave1"; try dsimp only))
  · rcases hf4 with rfl | rfl | rfl | rfl
    · repeat (first | (k_unfold; (try dsimp only)) | (k_end; wrow_close) | walk1 | (dsimp only; walk1) | (leave1; walk_say "STEP leave1"; try dsimp only))
    · repeat (first | (k_unfold; (try dsimp only)) | (k_end; wrow_close) | walk1 | (dsimp only; walk1) | (leave1; walk_say "STEP leave1"; try dsimp only))
    · repeat (first | (k_unfold; (try dsimp only)) | (k_end; wrow_close) | walk1 | (dsimp only; walk1) | (leave1; walk_say "STEP leave1"; try dsimp only))
    · repeat (first | (k_unfold; (try dsimp only)) | (k_end; wrow_close) | walk1 | (dsimp only; walk1) | (leave1; walk_say "STEP leave1"; try dsimp only))
  · rcases hf4 with rfl | rfl | rfl | rfl
    · repeat (first | (k_unfold; (try dsimp only)) | (k_end; wrow_close) | walk1 | (dsimp only; walk1) | (leave1; walk_say "STEP leave1"; try dsimp only))
    · repeat (first | (k_unfold; (try dsimp only)) | (k_end; wrow_close) | walk1 | (dsimp only; walk1) | (leave1; walk_say "STEP leave1"; try dsimp only))
    · repeat (first | (k_unfold; (try dsimp only)) | (k_end; wrow_close) | walk1 | (dsimp only; walk1) | (leave1; walk_say "STEP leave1"; try dsimp only))
    · repeat (first | (k_unfold; (try dsimp only)) | (k_end; wrow_close) | walk1 | (dsimp only; walk1) | (leave1; walk_say "STEP leave1"; try dsimp only))
  · rcases hf4 with rfl | rfl | rfl | rfl
    · repeat (first | (k_unfold; (try dsimp only)) | (k_end; wrow_close) | walk1 | (dsimp only; walk1) | (leave1; walk_say "STEP leave1"; try dsimp only))
    · repeat (first | (k_unfold; (try dsimp only)) | (k_end; wrow_close) | walk1 | (dsimp only; walk1) | (leave1; walk_say "STEP leave1"; try dsimp only))
    · repeat (first | (k_unfold; (try dsimp only)) | (k_end; wrow_close) | walk1 | (dsimp only; walk1) | (leave1; walk_say "STEP leave1"; try dsimp only))
    · repeat (first | (k_unfold; (try dsimp only)) | (k_end; wrow_close) | walk1 | (dsimp only; walk1) | (leave1; walk_say "STEP leave1"; try dsimp only))
  · rcases hf4 with rfl | rfl | rfl | rfl
    · repeat (first | (k_unfold; (try dsimp only)) | (k_end; wrow_close) | walk1 | (dsimp only; walk1) | (leave1; walk_say "STEP leave1"; try dsimp only))
    · repeat (first | (k_unfold; (try dsimp only)) | (k_end; wrow_close) | walk1 | (dsimp only; walk1) | (leave1; walk_say "STEP leave1"; try dsimp only))
    · repeat (first | (k_unfold; (try dsimp only)) | (k_end; wrow_close) | walk1 | (dsimp only; walk1) | (leave1; walk_say "STEP leave1"; try dsimp only))
    · repeat (first | (k_unfold; (try dsimp only)) | (k_end; wrow_close) | walk1 | (dsimp only; walk1) | (leave1; walk_say "STEP leave1"; try dsimp only))
end
end
end Mine
namespace Mine
section
open PySem.Spec
def D1 (h₀ : Heap) (L : Addr) (gs : Array GenState) (dr : Drawn) (os : OsState) (newsE all : List (Addr × Obj)) (es : List Value) (ea sa al an : Addr) (lone : Bool) (s' : Shared) : Prop :=
  ∃ (h : Heap) (tk : Nat) (m1 : Str → Option Value) (da : Addr), s' = ⟨h, gs, dr, tk, os⟩ ∧
    Fr h₀ L h (fun y => if y = Str.ofString "due" then some (.ref da) else if y = Str.ofString "equations" then some (.ref ea) else if y = Str.ofString "letters" then some (.ref al) else if y = Str.ofString "is_lone" then some (.bool lone) else m1 y) ∧
    News h₀ L h ((da, tupO [.ref sa, .ref an, .bool (decide (es.length = 1) && lone)]) :: (newsE ++ all))
theorem d1_mk {h₀ h : Heap} {L : Addr} {m : Str → Option Value} {gs : Array GenState} {dr : Drawn} {tk : Nat} {os : OsState} {newsE all : List (Addr × Obj)} {es : List Value} {ea sa al an da : Addr} {lone c : Bool}
    (F : Fr h₀ L h m) (e1 : m (Str.ofString "due") = some (.ref da)) (e2 : m (Str.ofString "equations") = some (.ref ea)) (e3 : m (Str.ofString "letters") = some (.ref al)) (e4 : m (Str.ofString "is_lone") = some (.bool lone))
    (N : News h₀ L h ((da, tupO [.ref sa, .ref an, .bool c]) :: (newsE ++ all))) (hc : c = (decide (es.length = 1) && lone)) : D1 h₀ L gs dr os newsE all es ea sa al an lone ⟨h, gs, dr, tk, os⟩ := by
  subst hc
  exact ⟨h, tk, m, da, rfl, fr_pick4 F e1 e2 e3 e4, N⟩
section
local macro_rules | `(tactic| k_all) => `(tactic| first | (refine allLt_ne ?_; simp only [*]; done) | (refine off1_ne ?_; simp only [*]; done))
local macro_rules | `(tactic| k_all) => `(tactic| assumption)
local macro_rules | `(tactic| walk_at "AOut") => `(tactic| (k_dflt (
  rename Fr _ _ _ _ => kF
  rename News _ _ _ _ => kN
  refine ⟨rfl, ?_⟩
  refine' d1_mk kF rfl rfl rfl rfl (news_sub kN ?nt) ?hc
  case nt => exact (List.forall_mem_cons.mpr ⟨by k_mem, fun p hp => by (repeat (first | exact hp | refine List.Mem.tail _ ?_))⟩)
  case hc => rfl)))
theorem segD1 {w : World} {mean : ExcName → Option Value} {mg mb : Str → Option Value} {base h₀ : Heap} {L fa : Addr} {cd : Value} {sc : Scope} (hsc : sc = lawScope) {body : List Stmt} (hb : body = (lawBody.drop 10).take 1)
    {m1 : Str → Option Value} {hp : Heap} {gs : Array GenState} {dr : Drawn} {tk : Nat} {os : OsState} {E : Value → Shared → Prop}
    {newsE all : List (Addr × Obj)} {an al ea sa : Addr} {lone : Bool} {es : List Value}
    (KX : (hd.heap_39 w.params).In h₀) (T : Top hd.view_39 (looseW hd.view_39 []) mean mg mb h₀) (K0 : Below callerA base [] h₀) (X : ES newsE ea sa es)
    (F : Fr h₀ L hp (fun y => if y = Str.ofString "some" then some (.ref sa) else if y = Str.ofString "equations" then some (.ref ea) else if y = Str.ofString "letters" then some (.ref al) else if y = Str.ofString "names" then some (.ref an) else if y = Str.ofString "is_lone" then some (.bool lone) else m1 y))
    (N : News h₀ L hp (newsE ++ all)) :
    wpAny (model PySem.Challenge.rw_rh0020_01.row.prog w) (callerA.deeper (lawEnv sc L fa cd)) (execs body (lawEnv sc L fa cd)) (AOut (D1 h₀ L gs dr os newsE all es ea sa al an lone)) E ⟨hp, gs, dr, tk, os⟩ := by
  w_on
  (conv at hsc => rhs; whnf)
  (conv at hb => rhs; whnf; arg 2; whnf)
  subst hsc hb
  dsimp only [lawEnv] at *
  cases X
  all_goals simp only [List.cons_append, List.nil_append] at N
  · repeat (first | (k_unfold; (try dsimp only)) | (k_end; wrow_close) | walk1 | (dsimp only; walk1) | (leave1; walk_say "STEP leave1"; try dsimp only))
  · repeat (first | (k_unfold; (try dsimp only)) | (k_end; wrow_close) | walk1 | (dsimp only; walk1) | (leave1; walk_say "STEP leave1"; try dsimp only))
  · repeat (first | (k_unfold; (try dsimp only)) | (k_end; wrow_close) | walk1 | (dsimp only; walk1) | (leave1; walk_say "STEP leave1"; try dsimp only))
  · repeat (first | (k_unfold; (try dsimp only)) | (k_end; wrow_close) | walk1 | (dsimp only; walk1) | (leave1; walk_say "STEP leave1"; try dsimp only))
  · repeat (first | (k_unfold; (try dsimp only)) | (k_end; wrow_close) | walk1 | (dsimp only; walk1) | (leave1; walk_say "STEP leave1"; try dsimp only))
  · repeat (first | (k_unfold; (try dsimp only)) | (k_end; wrow_close) | walk1 | (dsimp only; walk1) | (leave1; walk_say "STEP leave1"; try dsimp only))
end
end
end Mine
namespace Mine
section
open PySem.Spec
/-- what is due: the tuple, or the refusal's word -/
inductive DueIs (da : Addr) : Bool → Value → Prop
  | no : DueIs da false (.ref da)
  | yes (t : Tok) : DueIs da true (.str (Str.ofString "domain") t)
def D2 (h₀ : Heap) (L : Addr) (gs : Array GenState) (dr : Drawn) (os : OsState) (newsL all : List (Addr × Obj)) (ea al da : Addr) (lone odd : Bool) (s' : Shared) : Prop :=
  ∃ (h : Heap) (tk : Nat) (m1 : Str → Option Value) (vd : Value), s' = ⟨h, gs, dr, tk, os⟩ ∧
    Fr h₀ L h (fun y => if y = Str.ofString "due" then some vd else if y = Str.ofString "equations" then some (.ref ea) else if y = Str.ofString "letters" then some (.ref al) else if y = Str.ofString "is_lone" then some (.bool lone) else m1 y) ∧
    News h₀ L h (newsL ++ all) ∧ DueIs da odd vd
theorem d2_mk {h₀ h : Heap} {L : Addr} {m : Str → Option Value} {gs : Array GenState} {dr : Drawn} {tk : Nat} {os : OsState} {newsL all : List (Addr × Obj)} {ea al da : Addr} {lone odd : Bool} {vd : Value}
    (F : Fr h₀ L h m) (e1 : m (Str.ofString "due") = some vd) (e2 : m (Str.ofString "equations") = some (.ref ea)) (e3 : m (Str.ofString "letters") = some (.ref al)) (e4 : m (Str.ofString "is_lone") = some (.bool lone))
    (N : News h₀ L h (newsL ++ all)) (hd : DueIs da odd vd) : D2 h₀ L gs dr os newsL all ea al da lone odd ⟨h, gs, dr, tk, os⟩ :=
  ⟨h, tk, m, vd, rfl, fr_pick4 F e1 e2 e3 e4, N, hd⟩
theorem ne_lens {prog : Program} {w : World} {A : Around} {E : Value → Shared → Prop} {s : Shared} {h₀ : Heap} {L a b : Addr} {news : List (Addr × Obj)} {xs ys : List Value} {n k : Nat} {Q : Value → Shared → Prop}
    (N : News h₀ L s.heap news) (ha : (a, listOf xs.toArray n) ∈ news) (hb : (b, listOf ys.toArray k) ∈ news) (hsz : (xs.toArray.size != ys.toArray.size) = true) (hu : A.units < cLine) (h : Q (.bool true) s) :
    wpAny (model prog w) A (compareOp .NotEq (.ref a) (.ref b)) Q E s :=
  cmp_ofNotEq (SeqAt.RcNeAt.lists_lengths (l := a) (b := b) (items := xs.toArray) (items2 := ys.toArray) ⟨_, (N _ ha).1, rfl, n, rfl⟩ ⟨_, (N _ hb).1, rfl, k, rfl⟩ hsz hu _ _ _ _ h)
section
local macro_rules | `(tactic| k_all) => `(tactic| first | (refine allLt_ne ?_; simp only [*]; done) | (refine off1_ne ?_; simp only [*]; done))
local macro_rules | `(tactic| k_all) => `(tactic| assumption)
local macro_rules | `(tactic| walk_at "CompRestT") => `(tactic| (k_dflt (with_unfolding_all refine LCt.CompRestT.succ ?_); k_dflt (intro v' I' oI' C' oC' D' m' h' tk' E' hv' hC' hx' F' N' off' ne'; lcg_open hv')))
local macro_rules | `(tactic| walk_at "CompEnd") => `(tactic| (k_dflt (first
  | (refine compEnd0 (by assumption) (by assumption) (by assumption) (by lcg_src) ?_)
  | (refine compEnd1 (by assumption) (by assumption) (by assumption) (by k_ne) (by k_ne) (by k_ne) (by lcg_src) ?_))))
local macro_rules | `(tactic| walk_at "compareOp NotEq ref ref") => `(tactic| (k_here; (with_reducible show wpAny _ _ (compareOp CmpOp.NotEq (Value.ref _) (Value.ref _)) _ _ _); k_dflt (
  (refine' ne_lens ?N ?a ?b ?s ?u ?_; (case N => with_reducible assumption); (case a => k_mem); (case b => k_mem); (case s => rfl); (case u => exact Nat.le_of_ble_eq_true rfl)))))
local macro_rules | `(tactic| walk_at "AOut") => `(tactic| (k_dflt (
  rename Fr _ _ _ _ => kF
  rename News _ _ _ _ => kN
  refine ⟨rfl, ?_⟩
  refine' d2_mk kF rfl rfl rfl rfl (news_sub kN ?nt) ?hc
  case nt => exact fun p hp => by (repeat (first | exact hp | refine List.Mem.tail _ ?_))
  case hc => first | exact DueIs.no | exact DueIs.yes _)))
theorem segD2 {w : World} {mean : ExcName → Option Value} {mg mb : Str → Option Value} {base h₀ : Heap} {L fa : Addr} {cd : Value} {sc : Scope} (hsc : sc = lawScope) {body : List Stmt} (hb : body = (lawBody.drop 11).take 1)
    {m1 : Str → Option Value} {hp : Heap} {gs : Array GenState} {dr : Drawn} {tk : Nat} {os : OsState} {E : Value → Shared → Prop}
    {newsL all : List (Addr × Obj)} {an al ea da : Addr} {lone odd : Bool}
    (KX : (hd.heap_39 w.params).In h₀) (T : Top hd.view_39 (looseW hd.view_39 []) mean mg mb h₀) (K0 : Below callerA base [] h₀) (X : LS newsL an al lone odd)
    (F : Fr h₀ L hp (fun y => if y = Str.ofString "due" then some (.ref da) else if y = Str.ofString "equations" then some (.ref ea) else if y = Str.ofString "letters" then some (.ref al) else if y = Str.ofString "is_lone" then some (.bool lone) else m1 y))
    (N : News h₀ L hp (newsL ++ all)) :
    wpAny (model PySem.Challenge.rw_rh0020_01.row.prog w) (callerA.deeper (lawEnv sc L fa cd)) (execs body (lawEnv sc L fa cd)) (AOut (D2 h₀ L gs dr os newsL all ea al da lone odd)) E ⟨hp, gs, dr, tk, os⟩ := by
  w_on
  (conv at hsc => rhs; whnf)
  (conv at hb => rhs; whnf; arg 2; whnf)
  subst hsc hb
  dsimp only [lawEnv] at *
  cases X <;> rename LastT _ _ _ => hT <;> cases hT
  all_goals simp only [List.cons_append, List.nil_append] at N
  · repeat (first | (k_unfold; (try dsimp only)) | (k_end; wrow_close) | walk1 | (dsimp only; walk1) | (leave1; walk_say "STEP leave1"; try dsimp only))
  · repeat (first | (k_unfold; (try dsimp only)) | (k_end; wrow_close) | walk1 | (dsimp only; walk1) | (leave1; walk_say "STEP leave1"; try dsimp only))
  · repeat (first | (k_unfold; (try dsimp only)) | (k_end; wrow_close) | walk1 | (dsimp only; walk1) | (leave1; walk_say "STEP leave1"; try dsimp only))
  · repeat (first | (k_unfold; (try dsimp only)) | (k_end; wrow_close) | walk1 | (dsimp only; walk1) | (leave1; walk_say "STEP leave1"; try dsimp only))
  · repeat (first | (k_unfold; (try dsimp only)) | (k_end; wrow_close) | walk1 | (dsimp only; walk1) | (leave1; walk_say "STEP leave1"; try dsimp only))
  · repeat (first | (k_unfold; (try dsimp only)) | (k_end; wrow_close) | walk1 | (dsimp only; walk1) | (leave1; walk_say "STEP leave1"; try dsimp only))
  · repeat (first | (k_unfold; (try dsimp only)) | (k_end; wrow_close) | walk1 | (dsimp only; walk1) | (leave1; walk_say "STEP leave1"; try dsimp only))
  · repeat (first | (k_unfold; (try dsimp only)) | (k_end; wrow_close) | walk1 | (dsimp only; walk1) | (leave1; walk_say "STEP leave1"; try dsimp only))
  · repeat (first | (k_unfold; (try dsimp only)) | (k_end; wrow_close) | walk1 | (dsimp only; walk1) | (leave1; walk_say "STEP leave1"; try dsimp only))
end
end
end Mine
namespace Mine
section
open PySem.Spec
def eqDef : List Stmt × Scope := match (PySem.Challenge.pw_rh0020_01.main.body.drop 5).head? with
  | some (.FunctionDef _ _ b _ _ _ sc _ _ _) => (b, sc)
  | _ => ([], default)
def eqBody : List Stmt := eqDef.1
def eqScope : Scope := eqDef.2
/-- the letters' argument: alone, or in a list -/
inductive LA : List (Addr × Obj) → Addr → List Value → List Str → Bool → Bool → Prop
  | lone {a1 : Addr} {s1 : Str} {o1 : Obj} {odd : Bool} (h : LastT o1 s1 odd) : LA [(a1, o1)] a1 [.ref a1] [s1] true odd
  | m1 {lv lt a1 : Addr} {s1 : Str} {t : Tok} {o1 : Obj} {odd : Bool} (h : LastT o1 s1 odd) : LA [(lv, tupO [.str (Str.ofString "list") t, .ref lt]), (lt, tupO [.ref a1]), (a1, o1)] lv [.ref a1] [s1] false odd
  | m2 {lv lt a1 a2 : Addr} {s1 s2 : Str} {t u1 u2 : Tok} {o2 : Obj} {odd : Bool} (h : LastT o2 s2 odd) :
    LA [(lv, tupO [.str (Str.ofString "list") t, .ref lt]), (lt, tupO [.ref a1, .ref a2]), (a1, tupO [.str (Str.ofString "sym") u1, .str s1 u2]), (a2, o2)] lv [.ref a1, .ref a2] [s1, s2] false odd
  | m3 {lv lt a1 a2 a3 : Addr} {s1 s2 s3 : Str} {t u1 u2 u3 u4 : Tok} {o3 : Obj} {odd : Bool} (h : LastT o3 s3 odd) :
    LA [(lv, tupO [.str (Str.ofString "list") t, .ref lt]), (lt, tupO [.ref a1, .ref a2, .ref a3]), (a1, tupO [.str (Str.ofString "sym") u1, .str s1 u2]), (a2, tupO [.str (Str.ofString "sym") u3, .str s2 u4]), (a3, o3)] lv [.ref a1, .ref a2, .ref a3] [s1, s2, s3] false odd
/-- behind the first statement of equations_given -/
def GMid (g : Heap) (L' : Addr) (gs : Array GenState) (dr : Drawn) (os : OsState) (all : List (Addr × Obj)) (ga : Addr) (es as : List Value) (s' : Shared) : Prop :=
  ∃ (h : Heap) (tk : Nat) (m1 : Str → Option Value) (s2 l2 : Addr) (n n' : Nat), s' = ⟨h, gs, dr, tk, os⟩ ∧
    Fr g L' h (fun y => if y = Str.ofString "some" then some (.ref s2) else if y = Str.ofString "letters" then some (.ref l2) else if y = Str.ofString "given" then some (.ref ga) else m1 y) ∧
    News g L' h ((s2, listOf es.toArray n) :: (l2, listOf as.toArray n') :: all)
theorem fr_pick3 {h₀ h : Heap} {L : Addr} {m : Str → Option Value} {x1 x2 x3 : Str} {v1 v2 v3 : Value} (F : Fr h₀ L h m) (e1 : m x1 = some v1) (e2 : m x2 = some v2) (e3 : m x3 = some v3) :
    Fr h₀ L h (fun y => if y = x1 then some v1 else if y = x2 then some v2 else if y = x3 then some v3 else m y) := by
  have : (fun y => if y = x1 then some v1 else if y = x2 then some v2 else if y = x3 then some v3 else m y) = m := by
    funext y
    (repeat' split) <;> simp_all
  rw [this]
  exact F
theorem gmid_mk {g h : Heap} {L' : Addr} {m : Str → Option Value} {gs : Array GenState} {dr : Drawn} {tk : Nat} {os : OsState} {all : List (Addr × Obj)} {ga s2 l2 : Addr} {es as : List Value} {n n' : Nat}
    (F : Fr g L' h m) (e1 : m (Str.ofString "some") = some (.ref s2)) (e2 : m (Str.ofString "letters") = some (.ref l2)) (e3 : m (Str.ofString "given") = some (.ref ga))
    (N : News g L' h ((s2, listOf es.toArray n) :: (l2, listOf as.toArray n') :: all)) : GMid g L' gs dr os all ga es as ⟨h, gs, dr, tk, os⟩ :=
  ⟨h, tk, m, s2, l2, n, n', rfl, fr_pick3 F e1 e2 e3, N⟩
theorem item_tup {prog : Program} {w : World} {A : Around} {E : Value → Shared → Prop} {s : Shared} {h₀ : Heap} {L l : Addr} {news : List (Addr × Obj)} {vs : List Value} {k : Int} {j : Nat} {u : Tok} {v : Value} {Q : Value → Shared → Prop} {value slice : PySem.Expr}
    (N : News h₀ L s.heap news) (hm : (l, tupO vs) ∈ news) (h0 : -(2 ^ 63) ≤ k) (hhi : k < 2 ^ 63) (hj : seqIndex? k vs.length = some j) (hx : vs[j]? = some v) (h : Q v s)
    (hs : subscripted slice false (.ref l) (.int k u) = operate [.ref l, .int k u] (getItem (.ref l) (.int k u))) :
    wpAny (model prog w) A (subscriptTail value slice (.ref l) (.int k u)) Q E s :=
  item_tupleT (News.isTup N hm) h0 hhi (by simpa using hj) (by simpa using hx) h hs
/-- an argument of equations_given: a value alone (its head is not "list"), or a list's term -/
inductive TL : List (Addr × Obj) → Addr → List Value → Prop
  | other {a : Addr} {s : Str} {t : Tok} {tl : List Value} (hs : s ≠ Str.ofString "list") : TL [(a, tupO (.str s t :: tl))] a [.ref a]
  | list {a ta : Addr} {t : Tok} {vs : List Value} (hl : vs.length ≤ 3) : TL [(a, tupO [.str (Str.ofString "list") t, .ref ta]), (ta, tupO vs)] a vs
theorem ES.tl {n : List (Addr × Obj)} {a b : Addr} {es : List Value} (X : ES n a b es) : ∃ n1 n2, n = n1 ++ n2 ∧ TL n1 a es := by
  cases X
  · exact ⟨[_], _, rfl, .other (by decide)⟩
  · exact ⟨[_], _, rfl, .other (by decide)⟩
  · exact ⟨[_, _], _, rfl, .list (by decide)⟩
  · exact ⟨[_, _], _, rfl, .list (by simp)⟩
  · exact ⟨[_, _], _, rfl, .list (by simp)⟩
  · exact ⟨[_, _], _, rfl, .list (by simp)⟩
theorem LA.tl {n : List (Addr × Obj)} {a : Addr} {as : List Value} {names : List Str} {lone odd : Bool} (Y : LA n a as names lone odd) : ∃ n1 n2, n = n1 ++ n2 ∧ TL n1 a as := by
  cases Y with
  | lone h => cases h <;> exact ⟨[_], [], rfl, .other (by decide)⟩
  | m1 _ => exact ⟨[_, _], _, rfl, .list (by simp)⟩
  | m2 _ => exact ⟨[_, _], _, rfl, .list (by simp)⟩
  | m3 _ => exact ⟨[_, _], _, rfl, .list (by simp)⟩
theorem list_of_tup {prog : Program} {w : World} {A : Around} {E : Value → Shared → Prop} {s : Shared} {h₀ : Heap} {L b : Addr} {m : Str → Option Value} {news : List (Addr × Obj)} {vs : List Value} {Q : Value → Shared → Prop}
    (F : Fr h₀ L s.heap m) (N : News h₀ L s.heap news) (hb : (b, tupO vs) ∈ news) (hl : vs.length ≤ 3)
    (h : ∀ D c h', Fr h₀ L h' m → News h₀ L h' ((D, listOf vs.toArray c) :: news) → (∀ q ∈ news, q.1 < D) → Q (.ref D) { s with heap := h' }) : wpAny (model prog w) A (call (.type "list") [.ref b]) Q E s :=
  kup_listOfT F N hb (List.toList_toArray (as := vs)) h (by simp [sizeLine]; omega)
theorem eq_other {prog : Program} {w : World} {A : Around} {E : Value → Shared → Prop} {s : Shared} {Q : Value → Shared → Prop} {x y : Str} {t u : Tok} (hs : x ≠ y) (h : Q (.bool false) s) : wpAny (model prog w) A (compareOp .Eq (.str x t) (.str y u)) Q E s := by
  refine eq_str ?_
  rwa [beq_eq_false_iff_ne.mpr hs]
theorem seq0 {v : Value} (tl : List Value) : seqIndex? 0 (v :: tl).length = some 0 := by
  simp [seqIndex?]
section
local macro_rules | `(tactic| k_all) => `(tactic| first | (refine allLt_ne ?_; simp only [*]; done) | (refine off1_ne ?_; simp only [*]; done))
local macro_rules | `(tactic| k_all) => `(tactic| assumption)
local macro_rules | `(tactic| walk_at "eval ListComp") => `(tactic| (k_here; lcg_look; k_dflt (refine LCg.ListComp_U (F₀ := by k_asm) (by rfl) (by decide) (by rfl) (by decide) (by rfl) ?_); k_dflt lcg_toSrc))
local macro_rules | `(tactic| walk_at "exec Assign cons ListComp") => `(tactic| (k_here; k_dflt (refine Assign_Tuple ?_)))
local macro_rules | `(tactic| walk_at "CompSrc") => `(tactic| (k_here; k_dflt (
  (refine LCg.CompSrc.ledger (by rfl) (by k_asm) (by k_asm) (by k_mem) (by first | size_fits | exact Nat.le_of_ble_eq_true rfl) ?_; intro g'; lcg_lit))))
local macro_rules | `(tactic| walk_at "CompRest") => `(tactic| (k_dflt (with_unfolding_all refine LCg.CompRest.succ ?_); k_dflt (intro v' I' oI' C' oC' D' m' h' tk' E' hv' hC' hx' F' N' off' ne'; lcg_open hv')))
local macro_rules | `(tactic| walk_at "CompEnd") => `(tactic| (k_dflt (first
  | (refine compEnd0 (by assumption) (by assumption) (by assumption) (by lcg_src) ?_)
  | (refine compEnd1 (by assumption) (by assumption) (by assumption) (by k_ne) (by k_ne) (by k_ne) (by lcg_src) ?_))))
local macro_rules | `(tactic| walk_at "subscriptTail Name Constant ref int") => `(tactic| (k_here; (with_reducible show wpAny _ _ (subscriptTail _ _ (Value.ref _) (Value.int _ _)) _ _ _); k_dflt (
  (refine' item_tup ?N ?m ?a ?b ?x ?y ?_ ?hs; (case N => with_reducible assumption); (case m => k_mem); (case a => decide); (case b => decide); (case x => first | rfl | exact seq0 _); (case y => rfl); (case hs => with_unfolding_all rfl)))))
local macro_rules | `(tactic| walk_at "call type:list") => `(tactic| (k_here; (with_reducible show wpAny _ _ (PySem.call (Value.type "list") [Value.ref _]) _ _ _); k_dflt (refine' list_of_tup ?F ?N ?b ?l ?_; (case F => k_asm); (case N => k_asm); (case b => k_mem); (case l => assumption)); intro D' c' h' F' N' l1; (try k_lt l1); (try k_sweep)))
local macro_rules | `(tactic| walk_at "compareOp Eq str str") => `(tactic| (k_here; k_dflt (refine eq_other (by assumption) ?_)))
theorem eqs_turns {w : World} {mean : ExcName → Option Value} {mg mb : Str → Option Value} {base g : Heap} {L fa L' : Addr} {cd cdE : Value} {sc scE : Scope} (hsc : scE = eqScope) {body : List Stmt} (hb : body = eqBody.take 1)
    {hp : Heap} {gs : Array GenState} {dr : Drawn} {tk : Nat} {os : OsState} {E : Value → Shared → Prop}
    {newsE newsA rE : List (Addr × Obj)} {ga ea lv : Addr} {es as : List Value} {n0 : Nat} {m1 : Str → Option Value}
    (KX : (hd.heap_39 w.params).In g) (T : Top hd.view_39 (looseW hd.view_39 []) mean mg mb g) (K0 : Below (callerA.deeper (lawEnv sc L fa cd)) base [lawEnv sc L fa cd] g) (X : TL newsE ea es) (Y : TL newsA lv as)
    (F : Fr g L' hp (fun y => if y = Str.ofString "given" then some (.ref ga) else m1 y))
    (N : News g L' hp ((ga, listOf #[.ref ea, .ref lv] n0) :: (newsE ++ (newsA ++ rE)))) :
    wpAny (model PySem.Challenge.rw_rh0020_01.row.prog w) ((callerA.deeper (lawEnv sc L fa cd)).deeper (envOf (Str.ofString "equations_given") scE L' 46 cdE)) (execs body (envOf (Str.ofString "equations_given") scE L' 46 cdE))
      (AOut (GMid g L' gs dr os ((ga, listOf #[.ref ea, .ref lv] n0) :: (newsE ++ (newsA ++ rE))) ga es as)) E ⟨hp, gs, dr, tk, os⟩ := by
  w_on
  (conv at hsc => rhs; whnf)
  (conv at hb => rhs; whnf; arg 2; whnf)
  subst hsc hb
  dsimp only [lawEnv] at *
  cases X <;> cases Y <;> simp only [List.cons_append, List.nil_append] at N
  all_goals (repeat (first | (k_unfold; (try dsimp only)) | (k_end; wrow_close) | walk1 | (dsimp only; walk1) | (leave1; walk_say "STEP leave1"; try dsimp only)))
  all_goals (
    rename Fr _ _ _ _ => kF
    rename News _ _ _ _ => kN
    refine ⟨rfl, ?_⟩
    refine' gmid_mk kF rfl rfl rfl (news_sub kN ?nt)
    case nt => exact List.forall_mem_cons.mpr ⟨by k_mem, List.forall_mem_cons.mpr ⟨by k_mem, fun p hp => by (repeat (first | exact hp | refine List.Mem.tail _ ?_))⟩⟩)
end
theorem eqs_stmt1 {w : World} {mean : ExcName → Option Value} {mg mb : Str → Option Value} {base g : Heap} {L fa L' : Addr} {cd cdE : Value} {sc scE : Scope} (hsc : scE = eqScope) {body : List Stmt} (hb : body = eqBody.take 1)
    {hp : Heap} {gs : Array GenState} {dr : Drawn} {tk : Nat} {os : OsState} {E : Value → Shared → Prop}
    {newsE newsA rE : List (Addr × Obj)} {ga ea sa lv : Addr} {lone odd : Bool} {es as : List Value} {names : List Str} {n0 : Nat} {m1 : Str → Option Value}
    (KX : (hd.heap_39 w.params).In g) (T : Top hd.view_39 (looseW hd.view_39 []) mean mg mb g) (K0 : Below (callerA.deeper (lawEnv sc L fa cd)) base [lawEnv sc L fa cd] g) (X : ES newsE ea sa es) (Y : LA newsA lv as names lone odd)
    (F : Fr g L' hp (fun y => if y = Str.ofString "given" then some (.ref ga) else m1 y))
    (N : News g L' hp ((ga, listOf #[.ref ea, .ref lv] n0) :: (newsE ++ (newsA ++ rE)))) :
    wpAny (model PySem.Challenge.rw_rh0020_01.row.prog w) ((callerA.deeper (lawEnv sc L fa cd)).deeper (envOf (Str.ofString "equations_given") scE L' 46 cdE)) (execs body (envOf (Str.ofString "equations_given") scE L' 46 cdE))
      (AOut (GMid g L' gs dr os ((ga, listOf #[.ref ea, .ref lv] n0) :: (newsE ++ (newsA ++ rE))) ga es as)) E ⟨hp, gs, dr, tk, os⟩ := by
  obtain ⟨e1, e2, he, X1⟩ := X.tl
  obtain ⟨a1, a2, ha, Y1⟩ := Y.tl
  refine wpAny_mono (eqs_turns (n0 := n0) (rE := newsE ++ (newsA ++ rE)) hsc hb KX T K0 X1 Y1 F (news_sub N fun p hp => ?_)) (fun fl s' hq => ?_) fun _ _ e => e
  · subst he ha
    simp only [List.mem_cons, List.mem_append] at hp ⊢
    rcases hp with h | h | h | h | h <;> simp [h]
  · obtain ⟨hfl, h, tk', m', s2, l2, n, n', rfl, F', N'⟩ := hq
    refine ⟨hfl, h, tk', m', s2, l2, n, n', rfl, F', news_sub N' fun p hp => ?_⟩
    simp only [List.mem_cons, List.mem_append] at hp ⊢
    rcases hp with h | h | h | h <;> simp [h]
end
end Mine
namespace Mine
section
open PySem.Spec
inductive EL : List Value → Prop
  | n0 : EL []
  | n1 (v1 : Value) : EL [v1]
  | n2 (v1 v2 : Value) : EL [v1, v2]
  | n3 (v1 v2 v3 : Value) : EL [v1, v2, v3]
theorem ES.len {l : List (Addr × Obj)} {a b : Addr} {es : List Value} (X : ES l a b es) : EL es := by
  cases X <;> constructor
def ROut (g : Heap) (L' : Addr) (gs : Array GenState) (dr : Drawn) (os : OsState) (all : List (Addr × Obj)) (es : List Value) (names : List Str) (lone : Bool) (fl : Flow) (s' : Shared) : Prop :=
  ∃ (h : Heap) (tk : Nat) (m1 : Str → Option Value) (fa s2 l3 : Addr) (n k : Nat) (vs : List Value), fl = .ret (.ref fa) ∧ s' = ⟨h, gs, dr, tk, os⟩ ∧ Fr g L' h m1 ∧
    News g L' h ((fa, tupO [.ref s2, .ref l3, .bool (decide (es.length = 1) && lone)]) :: (s2, listOf es.toArray n) :: (l3, listOf vs.toArray k) :: all) ∧ StrsAre vs names
theorem rout_mk {g h : Heap} {L' : Addr} {m1 : Str → Option Value} {gs : Array GenState} {dr : Drawn} {tk : Nat} {os : OsState} {all : List (Addr × Obj)} {es vs : List Value} {names : List Str} {lone c : Bool} {fa s2 l3 : Addr} {n k : Nat}
    (F : Fr g L' h m1) (N : News g L' h ((fa, tupO [.ref s2, .ref l3, .bool c]) :: (s2, listOf es.toArray n) :: (l3, listOf vs.toArray k) :: all)) (S : StrsAre vs names) (hc : c = (decide (es.length = 1) && lone)) :
    ROut g L' gs dr os all es names lone (.ret (.ref fa)) ⟨h, gs, dr, tk, os⟩ := by
  subst hc
  exact ⟨h, tk, m1, fa, s2, l3, n, k, vs, rfl, rfl, F, N, S⟩
section
local macro_rules | `(tactic| k_all) => `(tactic| first | (refine allLt_ne ?_; simp only [*]; done) | (refine off1_ne ?_; simp only [*]; done))
local macro_rules | `(tactic| k_all) => `(tactic| assumption)
local macro_rules | `(tactic| walk_at "eval ListComp") => `(tactic| (k_here; lcg_look; k_dflt (refine LCg.ListComp_U (F₀ := by k_asm) (by rfl) (by decide) (by rfl) (by decide) (by rfl) ?_); k_dflt lcg_toSrc))
local macro_rules | `(tactic| walk_at "CompSrc") => `(tactic| (k_here; k_dflt (
  (refine LCg.CompSrc.ledger (by rfl) (by k_asm) (by k_asm) (by k_mem) (by first | size_fits | exact Nat.le_of_ble_eq_true rfl) ?_; intro g'; lcg_lit))))
local macro_rules | `(tactic| walk_at "CompRest") => `(tactic| (k_dflt (with_unfolding_all refine LCg.CompRest.succ ?_); k_dflt (intro v' I' oI' C' oC' D' m' h' tk' E' hv' hC' hx' F' N' off' ne'; lcg_open hv')))
local macro_rules | `(tactic| walk_at "CompEnd") => `(tactic| (k_dflt (first
  | (refine compEnd0 (by assumption) (by assumption) (by assumption) (by lcg_src) ?_)
  | (refine compEnd1 (by assumption) (by assumption) (by assumption) (by k_ne) (by k_ne) (by k_ne) (by lcg_src) ?_))))
local macro_rules | `(tactic| walk_at "subscriptTail Name Constant ref int") => `(tactic| (k_here; (with_reducible show wpAny _ _ (subscriptTail _ _ (Value.ref _) (Value.int _ _)) _ _ _); k_dflt (first
  | (refine' item_tup ?N ?m ?a ?b ?x ?y ?_ ?hs; (case N => with_reducible assumption); (case m => k_mem); (case a => decide); (case b => decide); (case x => rfl); (case y => rfl); (case hs => with_unfolding_all rfl))
  | (refine' item_ledger ?N ?m ?a ?b ?x ?_ ?hs; (case N => with_reducible assumption); (case m => k_mem); (case a => decide); (case b => decide); (case x => rfl); (case hs => with_unfolding_all rfl)))))
local macro_rules | `(tactic| walk_at "subscriptTail Subscript Name Constant Constant ref int") => `(tactic| (k_here; (with_reducible show wpAny _ _ (subscriptTail _ _ (Value.ref _) (Value.int _ _)) _ _ _); k_dflt (
  (refine' item_tup ?N ?m ?a ?b ?x ?y ?_ ?hs; (case N => with_reducible assumption); (case m => k_mem); (case a => decide); (case b => decide); (case x => rfl); (case y => rfl); (case hs => with_unfolding_all rfl)))))
local macro_rules | `(tactic| ktr_rel) => `(tactic| (repeat (first | exact StrsAre.nil | refine StrsAre.cons _ _ ?_)))
local macro_rules | `(tactic| walk_at "ROut") => `(tactic| (k_dflt (
  rename Fr _ _ _ _ => kF
  rename News _ _ _ _ => kN
  refine' rout_mk kF (news_sub kN ?nt) ?st ?hc
  case nt => exact List.forall_mem_cons.mpr ⟨by k_mem, List.forall_mem_cons.mpr ⟨by k_mem, List.forall_mem_cons.mpr ⟨by k_mem, fun p hp => by (repeat (first | exact hp | refine List.Mem.tail _ ?_))⟩⟩⟩
  case st => ktr_rel
  case hc => rfl)))
theorem eqs_ret {w : World} {mean : ExcName → Option Value} {mg mb : Str → Option Value} {base g : Heap} {L fa L' : Addr} {cd cdE : Value} {sc scE : Scope} (hsE : scE = eqScope) (hsc : sc = lawScope) {body : List Stmt} (hb : body = eqBody.drop 1)
    {hp : Heap} {gs : Array GenState} {dr : Drawn} {tk : Nat} {os : OsState} {E : Value → Shared → Prop}
    {newsA all : List (Addr × Obj)} {ga ea lv s2 l2 : Addr} {lone : Bool} {es as : List Value} {names : List Str} {n0 n n' : Nat} {m1 : Str → Option Value}
    (KX : (hd.heap_39 w.params).In g) (T : Top hd.view_39 (looseW hd.view_39 []) mean mg mb g) (K0 : Below (callerA.deeper (lawEnv sc L fa cd)) base [lawEnv sc L fa cd] g) (X : EL es) (Y : LA newsA lv as names lone false)
    (F : Fr g L' hp (fun y => if y = Str.ofString "some" then some (.ref s2) else if y = Str.ofString "letters" then some (.ref l2) else if y = Str.ofString "given" then some (.ref ga) else m1 y))
    (N : News g L' hp ((s2, listOf es.toArray n) :: (l2, listOf as.toArray n') :: (ga, listOf #[.ref ea, .ref lv] n0) :: (newsA ++ all))) :
    wpAny (model PySem.Challenge.rw_rh0020_01.row.prog w) ((callerA.deeper (lawEnv sc L fa cd)).deeper (envOf (Str.ofString "equations_given") scE L' 46 cdE)) (execs body (envOf (Str.ofString "equations_given") scE L' 46 cdE))
      (ROut g L' gs dr os all es names lone) E ⟨hp, gs, dr, tk, os⟩ := by
  w_on
  (conv at hsE => rhs; whnf)
  (conv at hsc => rhs; whnf)
  (conv at hb => rhs; whnf)
  subst hsE hsc hb
  dsimp only [lawEnv] at *
  cases X
  · cases Y <;> rename LastT _ _ _ => hT <;> cases hT <;> simp only [List.cons_append, List.nil_append] at N
    · repeat (first | (k_unfold; (try dsimp only)) | (k_end; wrow_close) | walk1 | (dsimp only; walk1) | (leave1; walk_say "STEP leave1"; try dsimp only))
    · repeat (first | (k_unfold; (try dsimp only)) | (k_end; wrow_close) | walk1 | (dsimp only; walk1) | (leave1; walk_say "STEP leave1"; try dsimp only))
    · repeat (first | (k_unfold; (try dsimp only)) | (k_end; wrow_close) | walk1 | (dsimp only; walk1) | (leave1; walk_say "STEP leave1"; try dsimp only))
    · repeat (first | (k_unfold; (try dsimp only)) | (k_end; wrow_close) | walk1 | (dsimp only; walk1) | (leave1; walk_say "STEP leave1"; try dsimp only))
  · cases Y <;> rename LastT _ _ _ => hT <;> cases hT <;> simp only [List.cons_append, List.nil_append] at N
    · repeat (first | (k_unfold; (try dsimp only)) | (k_end; wrow_close) | walk1 | (dsimp only; walk1) | (leave1; walk_say "STEP leave1"; try dsimp only))
    · repeat (first | (k_unfold; (try dsimp only)) | (k_end; wrow_close) | walk1 | (dsimp only; walk1) | (leave1; walk_say "STEP leave1"; try dsimp only))
    · repeat (first | (k_unfold; (try dsimp only)) | (k_end; wrow_close) | walk1 | (dsimp only; walk1) | (leave1; walk_say "STEP leave1"; try dsimp only))
    · repeat (first | (k_unfold; (try dsimp only)) | (k_end; wrow_close) | walk1 | (dsimp only; walk1) | (leave1; walk_say "STEP leave1"; try dsimp only))
  · cases Y <;> rename LastT _ _ _ => hT <;> cases hT <;> simp only [List.cons_append, List.nil_append] at N
    · repeat (first | (k_unfold; (try dsimp only)) | (k_end; wrow_close) | walk1 | (dsimp only; walk1) | (leave1; walk_say "STEP leave1"; try dsimp only))
    · repeat (first | (k_unfold; (try dsimp only)) | (k_end; wrow_close) | walk1 | (dsimp only; walk1) | (leave1; walk_say "STEP leave1"; try dsimp only))
    · repeat (first | (k_unfold; (try dsimp only)) | (k_end; wrow_close) | walk1 | (dsimp only; walk1) | (leave1; walk_say "STEP leave1"; try dsimp only))
    · repeat (first | (k_unfold; (try dsimp only)) | (k_end; wrow_close) | walk1 | (dsimp only; walk1) | (leave1; walk_say "STEP leave1"; try dsimp only))
  · cases Y <;> rename LastT _ _ _ => hT <;> cases hT <;> simp only [List.cons_append, List.nil_append] at N
    · repeat (first | (k_unfold; (try dsimp only)) | (k_end; wrow_close) | walk1 | (dsimp only; walk1) | (leave1; walk_say "STEP leave1"; try dsimp only))
    · repeat (first | (k_unfold; (try dsimp only)) | (k_end; wrow_close) | walk1 | (dsimp only; walk1) | (leave1; walk_say "STEP leave1"; try dsimp only))
    · repeat (first | (k_unfold; (try dsimp only)) | (k_end; wrow_close) | walk1 | (dsimp only; walk1) | (leave1; walk_say "STEP leave1"; try dsimp only))
    · repeat (first | (k_unfold; (try dsimp only)) | (k_end; wrow_close) | walk1 | (dsimp only; walk1) | (leave1; walk_say "STEP leave1"; try dsimp only))
end
end
end Mine
namespace Mine
section
open PySem.Spec
theorem execs_mid1 {M : Model} {A : Around} {E : Value → Shared → Prop} {env : Env} {Q : Flow → Shared → Prop} {st : Stmt} {rest : List Stmt} {s : Shared} (Mid : Shared → Prop)
    (h1 : wpAny M A (execs [st] env) (AOut Mid) E s) (h2 : ∀ s', Mid s' → wpAny M A (execs rest env) Q E s') : wpAny M A (execs (st :: rest) env) Q E s := execs_app (l1 := [st]) Mid h1 h2
def EOk (h₀ : Heap) (L : Addr) (m : Str → Option Value) (gs : Array GenState) (dr : Drawn) (os : OsState) (all : List (Addr × Obj)) (es : List Value) (names : List Str) (lone : Bool) (v : Value) (s' : Shared) : Prop :=
  ∃ (h : Heap) (tk : Nat) (fa s2 l3 : Addr) (n k : Nat) (vs : List Value), v = .ref fa ∧ s' = ⟨h, gs, dr, tk, os⟩ ∧ Fr h₀ L h m ∧
    News h₀ L h ((fa, tupO [.ref s2, .ref l3, .bool (decide (es.length = 1) && lone)]) :: (s2, listOf es.toArray n) :: (l3, listOf vs.toArray k) :: all) ∧ StrsAre vs names
theorem eqs_ok {w : World} {mean : ExcName → Option Value} {mg mb : Str → Option Value} {base h₀ : Heap} {L fa : Addr} {cd : Value} {sc : Scope} (hsc : sc = lawScope)
    {hp : Heap} {gs : Array GenState} {dr : Drawn} {tk : Nat} {os : OsState} {E : Value → Shared → Prop} {m : Str → Option Value}
    {newsE newsA rE : List (Addr × Obj)} {ga ea sa lv : Addr} {lone : Bool} {es as : List Value} {names : List Str} {n0 : Nat}
    (KX : (hd.heap_39 w.params).In h₀) (T : Top hd.view_39 (looseW hd.view_39 []) mean mg mb h₀) (K0 : Below callerA base [] h₀) (X : ES newsE ea sa es) (Y : LA newsA lv as names lone false)
    (F : Fr h₀ L hp m) (N : News h₀ L hp ((ga, listOf #[.ref ea, .ref lv] n0) :: (newsE ++ (newsA ++ rE)))) :
    wpAny (model PySem.Challenge.rw_rh0020_01.row.prog w) (callerA.deeper (lawEnv sc L fa cd)) (PySem.call (.ref 46) [.ref ga]) (EOk h₀ L m gs dr os (newsE ++ rE) es names lone) E ⟨hp, gs, dr, tk, os⟩ := by
  w_on
  (conv at hsc => rhs; whnf)
  subst hsc
  dsimp only [lawEnv] at *
  refine wpAny_call ?_
  refine' code_def K0 F KX N T rfl rfl rfl ?k6 ?k7 ?k8 ?k9 ?kB ?_ ?c2 ?c3 ?c4 ?c5
  case k6 => k_is
  case k7 => k_is
  case k8 => k_room
  case k9 => exact BindsTo.of_eq rfl
  case kB => exact locs rfl
  case c5 => decide
  case c2 => exact rfl
  case c3 => exact rfl
  case c4 => exact rfl
  intro g' L' h' FG' F' N' B' X' T'
  refine execs_mid1 _ (eqs_stmt1 (names := names) (lone := lone) (odd := false) rfl rfl X' T' B' X Y (fr_pick1 (x1 := Str.ofString "given") F' rfl) N') ?_
  rintro s' ⟨h, tk', m1, s2, l2, n, n', rfl, F2, N2⟩
  refine wpAny_mono (eqs_ret (all := newsE ++ rE) (ea := ea) (n0 := n0) (n := n) (n' := n') rfl rfl rfl X' T' B' X.len Y F2 (news_sub N2 fun p hp => ?_)) (fun fl s' hq => ?_) fun _ _ e => e
  · simp only [List.mem_cons, List.mem_append] at hp ⊢
    rcases hp with h | h | h | h | h | h <;> simp [h]
  · obtain ⟨h3, tk3, m3, fa3, s3, l3, n3, k3, vs, rfl, rfl, F3, N3, S⟩ := hq
    exact leaveK_ F3 N3 fun kF kN => ⟨h3, tk3, fa3, s3, l3, n3, k3, vs, rfl, rfl, kF, kN, S⟩
end
end Mine
namespace Mine
section
open PySem.Spec
theorem up_tail {a : Addr × Obj} {r big : List (Addr × Obj)} (h : ∀ p ∈ r, p ∈ big) : ∀ p ∈ r, p ∈ a :: big := fun p hp => .tail _ (h p hp)
theorem ES.sa_mem {l : List (Addr × Obj)} {ea sa : Addr} {es : List Value} (X : ES l ea sa es) : ∃ n, (sa, listOf es.toArray n) ∈ l := by
  cases X
  · exact ⟨_, .tail _ (.head _)⟩
  · exact ⟨_, .tail _ (.head _)⟩
  · exact ⟨_, .tail _ (.tail _ (.head _))⟩
  · exact ⟨_, .tail _ (.tail _ (.head _))⟩
  · exact ⟨_, .tail _ (.tail _ (.head _))⟩
  · exact ⟨_, .tail _ (.tail _ (.head _))⟩
theorem depth_strs : ∀ names : List Str, PyData.depthAll (names.map PyData.str) = 0
  | [] => rfl
  | _ :: r => by simp [PyData.depthAll, PyData.depth, depth_strs r]
theorem due_same {prog : Program} {w : World} {A : Around} {E : Value → Shared → Prop} {s : Shared} {h₀ : Heap} {L fa s2 l3 da sa an : Addr} {news rE : List (Addr × Obj)} {es vs ws : List Value} {ds : List PyData} {names : List Str} {c : Bool} {n k n' k' : Nat} {Q : Value → Shared → Prop}
    (N : News h₀ L s.heap news) (hfa : (fa, tupO [.ref s2, .ref l3, .bool c]) ∈ news) (hs2 : (s2, listOf es.toArray n) ∈ news) (hl3 : (l3, listOf vs.toArray k) ∈ news) (hda : (da, tupO [.ref sa, .ref an, .bool c]) ∈ news)
    (hsa : (sa, listOf es.toArray n') ∈ news) (han : (an, listOf ws.toArray k') ∈ news) (hR : ∀ p ∈ rE, p ∈ news) (Z : EsR rE es ds) (S : StrsAre vs names) (S' : StrsAre ws names)
    (hk : PyData.canLayAll0 (names.map PyData.str) = true) (hu : A.units + 64 < cLine) (h : Q (.bool true) s) : wpAny (model prog w) A (compareOp .Eq (.ref fa) (.ref da)) Q E s := by
  obtain ⟨as, R⟩ := Z.reads (h := s.heap) fun p hp => (N p (hR p hp)).1
  obtain ⟨z1, z2⟩ := Z.lay
  have hc : (PyData.tuple [.list ds, .list (names.map PyData.str), .bool c]).canLay0 = true := by simp [PyData.canLay0, PyData.canLayAll0, z1, hk]
  have hd : SeqAt.shaped (PyData.tuple [.list ds, .list (names.map PyData.str), .bool c]) = true := by
    unfold SeqAt.shaped
    rw [hc]
    simp only [PyData.depth, PyData.depthAll, depth_strs, Bool.true_and, decide_eq_true_eq]
    omega
  have ra : ∀ {a b : Addr} {xs : List Value} {i j : Nat} {t : Addr}, (t, tupO [.ref a, .ref b, .bool c]) ∈ news → (a, listOf es.toArray i) ∈ news → (b, listOf xs.toArray j) ∈ news → StrsAre xs names → ∃ bs, Reads s.heap (.ref t) (.tuple [.list ds, .list (names.map PyData.str), .bool c]) bs := fun ht ha hb hs =>
    ⟨_, reads_tuple_at (N _ ht).1 rfl rfl (.cons (reads_list_at (N _ ha).1 rfl rfl R) (.cons (reads_list_at (N _ hb).1 rfl rfl (StrsAre.reads s.heap hs)) (.cons (.bool _) .nil)))⟩
  obtain ⟨b1, r1⟩ := ra hfa hs2 hl3 S
  obtain ⟨b2, r2⟩ := ra hda hsa han S'
  exact eq_dataH r1 r2 hd hd hu (by rw [SeqAt.eqv_refl _ hc]; exact h)
theorem eqs_cut {w : World} {mean : ExcName → Option Value} {mg mb : Str → Option Value} {base h₀ : Heap} {L fa : Addr} {cd : Value} {sc : Scope}
    {hp : Heap} {gs : Array GenState} {dr : Drawn} {tk : Nat} {os : OsState} {Q E : Value → Shared → Prop} {m : Str → Option Value}
    {newsE newsA news : List (Addr × Obj)} {ga ea sa lv : Addr} {lone : Bool} {es as : List Value} {names : List Str} {n0 : Nat}
    (KX : (hd.heap_39 w.params).In h₀) (T : Top hd.view_39 (looseW hd.view_39 []) mean mg mb h₀) (K0 : Below callerA base [] h₀) (X : ES newsE ea sa es)
    (F : Fr h₀ L hp m) (N : News h₀ L hp news) (hga : (ga, listOf #[.ref ea, .ref lv] n0) ∈ news) (hE : ∀ p ∈ newsE, p ∈ news) (Y : LA newsA lv as names lone false) (hA : ∀ p ∈ newsA, p ∈ news) (hsc : sc = lawScope)
    (k : ∀ (h : Heap) (tk : Nat) (fa s2 l3 : Addr) (n k : Nat) (vs : List Value), Fr h₀ L h m → News h₀ L h ((fa, tupO [.ref s2, .ref l3, .bool (decide (es.length = 1) && lone)]) :: (s2, listOf es.toArray n) :: (l3, listOf vs.toArray k) :: news) → StrsAre vs names →
      Q (.ref fa) ⟨h, gs, dr, tk, os⟩) :
    wpAny (model PySem.Challenge.rw_rh0020_01.row.prog w) (callerA.deeper (envOfC (Str.ofString "law") sc L fa cd)) (PySem.call (.ref 46) [.ref ga]) Q E ⟨hp, gs, dr, tk, os⟩ := by
  refine wpAny_mono (eqs_ok (newsE := newsE) (newsA := newsA) (rE := news) (n0 := n0) hsc KX T K0 X Y F (fun p hp => ?_)) (fun v s' hq => ?_) fun _ _ e => e
  · rcases List.mem_cons.mp hp with rfl | hp
    · exact N _ hga
    · rcases List.mem_append.mp hp with hp | hp
      · exact N _ (hE p hp)
      · rcases List.mem_append.mp hp with hp | hp
        · exact N _ (hA p hp)
        · exact N _ hp
  · obtain ⟨h, tk, fa, s2, l3, n, k', vs, rfl, rfl, F', N', S⟩ := hq
    refine k h tk fa s2 l3 n k' vs F' (fun p hp => N' p ?_) S
    simp only [List.mem_cons, List.mem_append] at hp ⊢
    rcases hp with h | h | h | h <;> simp [h]
def FOut (h₀ : Heap) (L : Addr) (gs : Array GenState) (dr : Drawn) (os : OsState) (fl : Flow) (s' : Shared) : Prop :=
  fl = .ret (.bool true) ∧ ∃ (h : Heap) (tk : Nat) (m : Str → Option Value), s' = ⟨h, gs, dr, tk, os⟩ ∧ Fr h₀ L h m
section
local macro_rules | `(tactic| k_all) => `(tactic| first | (refine allLt_ne ?_; simp only [*]; done) | (refine off1_ne ?_; simp only [*]; done))
local macro_rules | `(tactic| k_all) => `(tactic| assumption)
local macro_rules | `(tactic| k_mem) => `(tactic| assumption)
local macro_rules | `(tactic| ktr_unf) => `(tactic| repeat (first | assumption | refine up_tail ?_))
local macro_rules | `(tactic| walk_at "subscriptTail Name Constant ref int") => `(tactic| (k_here; (with_reducible show wpAny _ _ (subscriptTail _ _ (Value.ref _) (Value.int _ _)) _ _ _); k_dflt (
  (refine' item_ledger ?N ?m ?a ?b ?x ?_ ?hs; (case N => with_reducible assumption); (case m => k_mem); (case a => decide); (case b => decide); (case x => rfl); (case hs => with_unfolding_all rfl)))))
local macro_rules | `(tactic| walk_at "call ref") => `(tactic| (
  k_here
  (with_reducible show wpAny _ _ (PySem.call (Value.ref 46) [Value.ref _]) _ _ _)
  k_dflt (
    first
    | (refine' eqs_cut ?hX ?hT ?hK ?hS ?hF ?hN ?hga ?hE (LA.lone ?hY) ?hA rfl ?_; (case hX => assumption); (case hT => assumption); (case hK => assumption); (case hS => assumption); (case hF => k_asm); (case hN => k_asm); (case hga => k_mem); (case hE => ktr_unf); (case hY => assumption); (case hA => lcg_sub))
    | (refine' eqs_cut ?hX ?hT ?hK ?hS ?hF ?hN ?hga ?hE (LA.m1 ?hY) ?hA rfl ?_; (case hX => assumption); (case hT => assumption); (case hK => assumption); (case hS => assumption); (case hF => k_asm); (case hN => k_asm); (case hga => k_mem); (case hE => ktr_unf); (case hY => assumption); (case hA => lcg_sub))
    | (refine' eqs_cut ?hX ?hT ?hK ?hS ?hF ?hN ?hga ?hE (LA.m2 ?hY) ?hA rfl ?_; (case hX => assumption); (case hT => assumption); (case hK => assumption); (case hS => assumption); (case hF => k_asm); (case hN => k_asm); (case hga => k_mem); (case hE => ktr_unf); (case hY => assumption); (case hA => lcg_sub))
    | (refine' eqs_cut ?hX ?hT ?hK ?hS ?hF ?hN ?hga ?hE (LA.m3 ?hY) ?hA rfl ?_; (case hX => assumption); (case hT => assumption); (case hK => assumption); (case hS => assumption); (case hF => k_asm); (case hN => k_asm); (case hga => k_mem); (case hE => ktr_unf); (case hY => assumption); (case hA => lcg_sub))
    (intro h' tk' fa' s2' l3' n' k' vs' F' N' S'; (try dsimp only); k_sweep))))
local macro_rules | `(tactic| walk_at "compareOp Eq ref ref") => `(tactic| (k_here; (with_reducible show wpAny _ _ (compareOp CmpOp.Eq (Value.ref _) (Value.ref _)) _ _ _); k_dflt (
  refine' due_same ?N ?fa ?s2 ?l3 ?da ?sa ?an ?R ?Z ?S ?S' ?k ?u ?_
  case N => with_reducible assumption
  case fa => k_mem
  case da => k_mem
  case s2 => k_mem
  case l3 => k_mem
  case sa => k_mem
  case an => k_mem
  case Z => assumption
  case R => ktr_unf
  case S => assumption
  case S' => (repeat (first | exact StrsAre.nil | refine StrsAre.cons _ _ ?_))
  case k => (simp [PyData.canLayAll0, *]; done)
  case u => ke_room)))
local macro_rules | `(tactic| walk_at "FOut") => `(tactic| (k_dflt (rename Fr _ _ _ _ => kF; exact ⟨rfl, _, _, _, rfl, kF⟩)))
theorem segF0 {w : World} {mean : ExcName → Option Value} {mg mb : Str → Option Value} {base h₀ : Heap} {L fa : Addr} {cd : Value} {sc : Scope} (hsc : sc = lawScope) {body : List Stmt} (hb : body = lawBody.drop 12)
    {m1 : Str → Option Value} {hp : Heap} {gs : Array GenState} {dr : Drawn} {tk : Nat} {os : OsState} {E : Value → Shared → Prop}
    {newsE newsL rE all : List (Addr × Obj)} {an al ea sa da : Addr} {lone : Bool} {es : List Value} {ds : List PyData} {nS : Nat}
    (KX : (hd.heap_39 w.params).In h₀) (T : Top hd.view_39 (looseW hd.view_39 []) mean mg mb h₀) (K0 : Below callerA base [] h₀) (X : ES newsE ea sa es) (Y : LS newsL an al lone false) (Z : EsR rE es ds)
    (hE : ∀ p ∈ newsE, p ∈ all) (hR : ∀ p ∈ rE, p ∈ all) (hS : (sa, listOf es.toArray nS) ∈ all)
    (F : Fr h₀ L hp (fun y => if y = Str.ofString "due" then some (.ref da) else if y = Str.ofString "equations" then some (.ref ea) else if y = Str.ofString "letters" then some (.ref al) else if y = Str.ofString "is_lone" then some (.bool lone) else m1 y))
    (N : News h₀ L hp ((da, tupO [.ref sa, .ref an, .bool (decide (es.length = 1) && lone)]) :: (newsL ++ all))) :
    wpAny (model PySem.Challenge.rw_rh0020_01.row.prog w) (callerA.deeper (lawEnv sc L fa cd)) (execs body (lawEnv sc L fa cd)) (FOut h₀ L gs dr os) E ⟨hp, gs, dr, tk, os⟩ := by
  w_on
  (conv at hsc => rhs; whnf)
  (conv at hb => rhs; whnf)
  subst hsc hb
  dsimp only [lawEnv] at *
  cases Y
  · simp only [List.cons_append, List.nil_append] at N
    cases lone
    · repeat (first | (k_unfold; (try dsimp only)) | (k_end; wrow_close) | walk1 | (dsimp only; walk1) | (leave1; walk_say "STEP leave1"; try dsimp only))
    · repeat (first | (k_unfold; (try dsimp only)) | (k_end; wrow_close) | walk1 | (dsimp only; walk1) | (leave1; walk_say "STEP leave1"; try dsimp only))
  · subst_vars
    simp only [List.cons_append, List.nil_append] at N
    repeat (first | (k_unfold; (try dsimp only)) | (k_end; wrow_close) | walk1 | (dsimp only; walk1) | (leave1; walk_say "STEP leave1"; try dsimp only))
  · subst_vars
    simp only [List.cons_append, List.nil_append] at N
    repeat (first | (k_unfold; (try dsimp only)) | (k_end; wrow_close) | walk1 | (dsimp only; walk1) | (leave1; walk_say "STEP leave1"; try dsimp only))
end
end
end Mine
namespace Mine
section
open PySem.Spec
/-- the exception with its own dict; tb: it bears a traceback -/
def Fly (base : Heap) (l : List Env) (e C dx : Addr) (mA : Str → Option Value) (tb : Bool) (h : Heap) : Prop :=
  base.StaysIn h ∧ base.get? e = none ∧ h.FunFrames base l ∧ ∃ oe vs, h.get? e = some oe ∧ oe.cls = .ref C ∧ oe.data = .fields vs ∧ oe.dict = some dx ∧ dx ≠ e ∧ h.Ns1 dx mA ∧ 1 < vs.size ∧
    ((vs[1]? = some .none ∧ tb = false) ∨ ∃ T oT ts, vs[1]? = some (.ref T) ∧ base.get? T = none ∧ T ≠ e ∧ h.get? T = some oT ∧ oT.data = .fields ts ∧ 3 < ts.size)
theorem dict_mapFields (o : Obj) (f) : (o.mapFields f).dict = o.dict := by
  obtain ⟨c, d, dt, sl⟩ := o; cases dt <;> rfl
theorem ns1_up {h h' : Heap} {dx : Addr} {mA : Str → Option Value} (x : h.Ns1 dx mA) (k : h.UpToSlots h') : h'.Ns1 dx mA := by
  obtain ⟨o, es, ep, e, d, r⟩ := x
  obtain ⟨sl, hs⟩ := k dx o e fun vs q => by rw [d] at q; cases q
  exact ⟨_, es, ep, hs, d, r⟩
/-- a heap in which the exception was written anew, and everything that is no record stands up to its slots -/
theorem fly_moved {base h h' : Heap} {l : List Env} {e C dx T : Addr} {mA : Str → Option Value} {tb : Bool} {oe' oT : Obj} {vs' ts : Array Value} (X : Fly base l e C dx mA tb h) (st : base.StaysIn h')
    (mv : ∀ b o, b ≠ e → h.get? b = some o → (∀ vs, o.data ≠ .fields vs) → ∃ sl, h'.get? b = some { o with slots := sl })
    (he : h'.get? e = some oe') (hc : oe'.cls = .ref C) (hd : oe'.data = .fields vs') (hx : oe'.dict = some dx)
    (h1 : vs'[1]? = some (.ref T)) (hb : base.get? T = none) (hTe : T ≠ e) (hT : h'.get? T = some oT) (hdT : oT.data = .fields ts) (h3 : 3 < ts.size) : Fly base l e C dx mA true h' ∧ h.UpToSlots h' := by
  obtain ⟨-, hen, fr, oe, vs, he0, -, hd0, -, hde, hns, -⟩ := X
  have up : h.UpToSlots h' := fun b o q hn => by
    by_cases z : b = e
    · subst z
      cases Option.some.inj (q.symm.trans he0)
      exact absurd hd0 (hn _)
    · exact mv b o z q hn
  refine ⟨⟨st, hen, fr.of_keeps fun b o q hn => ?_, oe', vs', he, hc, hd, hx, hde, ns1_up hns up, (Array.getElem?_eq_some_iff.mp h1).1, .inr ⟨T, oT, ts, h1, hb, hTe, hT, hdT, h3⟩⟩, up⟩
  obtain ⟨sl, z⟩ := up b o q hn
  exact ⟨_, z, rfl⟩
/-- a new object, and the exception's second field set to it -/
theorem note_new {h : Heap} {e : Addr} {oe o : Obj} {vs : Array Value} (he : h.get? e = some oe) (hd : oe.data = .fields vs) (ho : o.isFreed = false) (f : Array Value → Array Value) :
    (∀ b ob, b ≠ e → h.get? b = some ob → ((h.push o).update e (Obj.mapFields f)).get? b = some ob) ∧
      ((h.push o).update e (Obj.mapFields f)).get? e = some (oe.mapFields f) ∧ ((h.push o).update e (Obj.mapFields f)).get? h.objs.size = some o := by
  refine ⟨fun b ob hb q => ?_, Heap.get?_update_self _ (Heap.get?_push_of_some o he) (Obj.isFreed_of_fields (Obj.data_mapFields hd f)), ?_⟩
  · exact (Heap.get?_update_other _ _ hb.symm).trans (Heap.get?_push_of_some o q)
  · exact (Heap.get?_update_other _ _ (Nat.ne_of_lt (Heap.lt_size he))).trans (Heap.get?_push_size h ho)
section
variable {M : Model} {A : Around} {E : Value → Shared → Prop} {s : Shared} {base : Heap} {env : Env} {outer : List Env} {L e C dx : Addr} {mA : Str → Option Value} {Q : Unit → Shared → Prop} {tb : Bool}
theorem fly_entry {head : Value} {hadNext : Bool} (hfr : A.frames = some (env :: outer)) (hf : env.frame = some L) (X : Fly base (env :: outer) e C dx mA tb s.heap)
    (hQ : ∀ h', Fly base (env :: outer) e C dx mA true h' → s.heap.UpToSlots h' → Q () { s with heap := h' }) :
    wpAny M A (do let a ← frameOf env; let pl ← entryPlaceOf L hadNext; let b ← EntryCells.newEntry head a .none (rawInt L) .none pl; setField (.ref e) 1 b) Q E s := by
  obtain ⟨st, hen, fr, oe, vs, he, hc, hd, hx, -, -, hsz, -⟩ := id X
  have notFrame : e ∉ (env :: outer).filterMap (·.frame) := fun q => by
    obtain ⟨-, o, ho, hn⟩ := fr.mem q
    cases Option.some.inj (ho.symm.trans he)
    exact hn _ hd
  refine wpAny_bind (wpAny_frameOf_fun hfr fr hf fun h₁ k₁ => wpAny_bind (wpAny_entryPlaceOf fun pl place => ?_))
  have st₁ : base.StaysIn h₁ := fun b o q => (k₁.2.1 b fun m => by simp [(fr.mem m).1] at q).trans (st b o q)
  rw [EntryCells.newEntry, newFields]
  refine wpAny_bind (wpAny_newObj_type ?_ (place.sizeOk5 _ _ _ _ _))
  have old := (k₁.2.1 e notFrame).trans he
  obtain ⟨w1, w2, w3⟩ := note_new (o := { cls := .type "traceback", data := .fields ([head, .ref L, .none, rawInt L, .none] ++ (if pl.isEmpty then List.replicate 6 Value.none else pl)).toArray }) old hd rfl (·.setIfInBounds 1 (Value.ref h₁.objs.size))
  obtain ⟨X', up⟩ := fly_moved X (fun b o q => w1 b o (fun z => by rw [z, hen] at q; cases q) (st₁ b o q))
    (fun b o z q hn => by obtain ⟨sl, y⟩ := k₁.2.2 b o q; exact ⟨sl, w1 b _ z y⟩) w2 ((Obj.cls_mapFields _ _).trans hc) (Obj.data_mapFields hd _) ((dict_mapFields _ _).trans hx) (by simp [hsz]) st₁.fresh (Nat.ne_of_gt (Heap.lt_size old)) w3 rfl (by simp)
  exact wpAny_setField (Heap.get?_push_of_some _ old) hd hsz (hQ _ X' up)

theorem fly_setHead {T : Addr} {oT : Obj} {vs ts : Array Value} {oe : Obj} {i : Nat} {v : Value} (X : Fly base (env :: outer) e C dx mA tb s.heap) (he : s.heap.get? e = some oe) (hd : oe.data = .fields vs) (h1 : vs[1]? = some (.ref T)) (hnT : base.get? T = none) (hTe : T ≠ e)
    (hT : s.heap.get? T = some oT) (hdT : oT.data = .fields ts) (hi : i < ts.size) (h3 : 3 < ts.size)
    (hQ : ∀ h', Fly base (env :: outer) e C dx mA true h' → s.heap.UpToSlots h' → Q () { s with heap := h' }) : wpAny M A (setField (.ref T) i v) Q E s := by
  obtain ⟨st, -, -, o', vs', he', hc, hd', hx, -⟩ := id X
  cases Option.some.inj (he.symm.trans he')
  have far : ∀ b, b ≠ T → (s.heap.update T (Obj.mapFields (·.setIfInBounds i v))).get? b = s.heap.get? b := fun b z => Heap.get?_update_other _ _ z.symm
  obtain ⟨X', up⟩ := fly_moved X (fun b o q => (far b fun z => by rw [z, hnT] at q; cases q).trans (st b o q))
    (fun b o _ q hn => ⟨o.slots, (far b fun z => by subst z; cases Option.some.inj (q.symm.trans hT); exact hn _ hdT).trans q⟩)
    ((far e hTe.symm).trans he) hc hd hx h1 hnT hTe (Heap.get?_update_self _ hT (Obj.isFreed_of_fields (Obj.data_mapFields hdT _))) (Obj.data_mapFields hdT _) (by simpa using h3)
  exact wpAny_setField hT hdT hi (hQ _ X' up)

theorem fly_note (hfr : A.frames = some (env :: outer)) (hf : env.frame = some L) (X : Fly base (env :: outer) e C dx mA tb s.heap)
    (hQ : ∀ h', Fly base (env :: outer) e C dx mA true h' → s.heap.UpToSlots h' → Q () { s with heap := h' }) : wpAny M A (noteFrame (.ref e) env) Q E s := by
  obtain ⟨hkb, hen, hl, oe, vs, he, hcls, hd, hdx, hde, hns, hsz, ht⟩ := id X
  unfold noteFrame
  simp only [hf]
  rcases ht with ⟨h1, _⟩ | ⟨T, oT, ts, h1, hnT, hTe, hT, hdT, h3⟩
  · refine wpAny_bind (wpAny_field he hd h1 ?_)
    rw [if_neg (by decide)]
    exact fly_entry hfr hf X hQ
  · refine wpAny_bind (wpAny_field he hd h1 ?_)
    rw [if_pos (show (Value.ref T != Value.none) = true from by simp)]
    refine wpAny_bind (wpAny_field hT hdT (Array.getElem?_eq_getElem h3) ?_)
    split
    · exact wpAny_pure (hQ _ ⟨hkb, hen, hl, oe, vs, he, hcls, hd, hdx, hde, hns, hsz, .inr ⟨T, oT, ts, h1, hnT, hTe, hT, hdT, h3⟩⟩ (Heap.UpToSlots.refl _))
    · refine wpAny_bind (fly_setHead X he hd h1 hnT hTe hT hdT h3 h3 fun h' X' k' => ?_)
      exact fly_entry hfr hf X' fun h'' X'' k'' => hQ h'' X'' (k'.trans k'')
theorem fly_set {fr : Option Addr} (X : Fly base (env :: outer) e C dx mA tb s.heap) (htb : tb = true)
    (hQ : ∀ h', Fly base (env :: outer) e C dx mA true h' → s.heap.UpToSlots h' → Q () { s with heap := h' }) : wpAny M A (setFlight (.ref e) fr) Q E s := by
  obtain ⟨hkb, hen, hl, oe, vs, he, hcls, hd, hdx, hde, hns, hsz, ht⟩ := id X
  unfold setFlight
  rcases ht with ⟨_, h0⟩ | ⟨T, oT, ts, h1, hnT, hTe, hT, hdT, h3⟩
  · rw [htb] at h0; cases h0
  · refine wpAny_bind (wpAny_field he hd h1 ?_)
    rw [if_pos (show (Value.ref T != Value.none) = true from by simp)]
    exact fly_setHead X he hd h1 hnT hTe hT hdT h3 h3 hQ
theorem fly_leave (hfr : A.frames = some (env :: outer)) (hf : env.frame = some L) (X : Fly base (env :: outer) e C dx mA tb s.heap)
    (hQ : ∀ h', Fly base outer e C dx mA true h' → s.heap.UpToSlots h' → Q () { s with heap := h' }) : wpAny M A (leaving env (.ref e)) Q E s := by
  unfold leaving
  refine wpAny_bind (fly_note hfr hf X fun h' X' k' => ?_)
  refine fly_set X' rfl fun h'' X'' k'' => ?_
  obtain ⟨a, b, ⟨_, _, c⟩, d⟩ := X''
  exact hQ h'' ⟨a, b, c, d⟩ (k'.trans k'')
end
end
end Mine
namespace Mine
section
open PySem.Spec Builtin Builtin.ObjectAttr
section
variable {prog : Program} {w : World} {A : Around} {E : Value → Shared → Prop} {h : Heap} {g : Array GenState} {d : Drawn} {t : Nat} {os : OsState}
variable {nm q : Str} {C N x : Addr} {bs : List Value} {sn : List Str} {sub : List Value} {ab : Bool} {col : Option Bool} {dd : Option Addr} {k0 k1 k2 k3 k5 : Option Value} {newId : String}
  {mN : Str → Option Value} {name : Str} {v : Value}
abbrev excBm : List Value := [.type "Exception", .type "BaseException", .type "object"]
theorem exc_init_call {Q : Value → Shared → Prop} {a0 : Addr}
    (hC : h.get? C = some (excClassObj nm q C N bs excBm true sn sub ab col dd k0 k1 k2 k3 k5 "Exception.__new__")) (he : h.get? x = some { cls := .ref C, data := .fields #[.ref a0, .none, .none, .none, .bool false, .none] })
    (hq : ∀ h', (∀ b o, b ≠ x → h.get? b = some o → h'.get? b = some o) → h'.get? x = some { cls := .ref C, data := .fields #[.ref h.objs.size, .none, .none, .none, .bool false, .none] } → Q .none ⟨h', g, d, t, os⟩) :
    wpAny (model prog w) A (PySem.call (.builtin "Exception.__init__") [.ref x, v]) Q E ⟨h, g, d, t, os⟩ := by
  refine wpAny_call (codeAny_call_builtin PySem.F.excBase_Exception.init.plain PySem.F.excBase_Exception.initEntry (wpAny_check_init_sub PySem.F.excBase_Exception hC he rfl ?_))
  have he₁ := Heap.get?_push_of_some (h := h) { cls := .type "tuple", data := .seq #[v] } he
  unfold Builtin.«BaseException.__init__»
  wp_walk
  refine hq _ (fun b o hbx hb => ?_) ?_
  · rw [Heap.get?_update_other _ _ (Ne.symm hbx)]
    exact Heap.get?_push_of_some _ hb
  · rw [Heap.get?_update_self _ he₁ rfl]
    rfl
theorem store_first {sa owner B : String} {bm : List Value} {o : Obj} {Q : Unit → Shared → Prop} (SF : StoreFacts B bm sa owner)
    (hC : h.get? C = some (excClassObj nm q C N bs bm true sn sub ab col dd k0 k1 k2 k3 k5 newId)) (hn : h.Ns N mN) (hns : mN "__setattr__" = none) (hna : mN name = none)
    (hB : typeLookup (.type B) name = pure none) (hx : h.get? x = some o) (hc : o.cls = .ref C) (hnc : ∀ c, o.data ≠ .cls c) (hdn : o.dict = none)
    (hq : ∀ h' tk' dx, h.get? dx = none → dx ≠ x → (∀ b o, b ≠ x → h.get? b = some o → h'.get? b = some o) → h'.get? x = some { cls := o.cls, dict := some dx, data := o.data, slots := o.slots } →
      h'.Ns1 dx (fun y => if y = name then some v else none) → Q () ⟨h', g, d, tk', os⟩) :
    wpAny (model prog w) A (setAttr (.ref x) name v) Q E ⟨h, g, d, t, os⟩ := by
  have f3 := SF.slot.bind (.ref x)
  unfold setAttr callSpecial? specialOf
  repeat (any_goals (first | assumption | (with_reducible refine wpAny_loadPart_at hx ?_; rw [hc]) | (with_reducible refine wpAny_typeLookup_exc hC hn SF.mro SF.slot.lookup ?_; rw [hns]) | wp_step))
  refine codeAny_call_builtin SF.slot.plain SF.entry (wpAny_check_sa SF hC hx hc ?_)
  have hpass := SF.passes (.ref x)
  unfold Builtin.«object.__setattr__»
  repeat (first | rw [refuse_eq] | (rw [refuseLoop_ref, hpass]) | (with_reducible refine wpAny_loadPart_at hx ?_; rw [hc]) | with_reducible refine wpAny_mroOf_exc hC ?_ | (with_reducible refine wpAny_typeLookup_exc hC hn SF.mro hB ?_; rw [hna]) | wp_step)
  rw [hdn, if_neg (by simp [typeHasDict])]
  split
  · rename_i hcd
    cases hcd
  split
  · rename_i c hcd
    exact absurd hcd (hnc c)
  have hxs : x ≠ h.objs.size := Nat.ne_of_lt (Heap.lt_size hx)
  have hx₁ : (h.push { cls := .type "dict", data := .dict #[] }).get? x = some o := Heap.get?_push_of_some _ hx
  refine wpAny_bind (wpAny_alloc' (wpAny_bind (wpAny_update' hx₁ (wpAny_pure ?_))))
  generalize hG : (h.push { cls := .type "dict", data := .dict #[] }).update x (fun o => { cls := o.cls, dict := some h.objs.size, data := o.data, slots := o.slots }) = h₂
  have hgd : h₂.get? h.objs.size = some { cls := .type "dict", data := .dict #[] } := by
    rw [← hG]
    exact (Heap.get?_update_ne _ _ _ _ hxs.symm).trans (Heap.get?_push_at rfl rfl)
  have hgx : h₂.get? x = some { cls := o.cls, dict := some h.objs.size, data := o.data, slots := o.slots } := by
    rw [← hG]
    refine Heap.get?_update_self _ hx₁ ?_
    have hfr := (Heap.get?_some_iff.mp hx).2
    obtain ⟨oc, od, odt, osl⟩ := o
    cases odt <;> first | rfl | exact hfr
  have hgk : ∀ b o, b ≠ x → h.get? b = some o → h₂.get? b = some o := fun b ob hbx hb => by
    rw [← hG]
    exact (Heap.get?_update_ne _ _ _ _ hbx).trans (Heap.get?_push_of_some _ hb)
  have hnd : h₂.Ns h.objs.size (fun _ => none) := ⟨_, #[], _, hgd, rfl, fun e he => absurd he (by simp), fun _ => rfl⟩
  show wpAny _ _ (storeInDict h.objs.size (.str name t) name v) _ _ _
  unfold storeInDict newKeyGuard
  refine wpAny_bind (wpAny_pure (wpAny_bind (wpAny_nsSet1 (Heap.Ns1.of_empty hnd) fun h' hn' hs => ?_)))
  obtain ⟨oD, esD, epD, hoD, hdD, hcD⟩ := hn'.count (Within.cons name v Within.nil)
  refine wpAny_bind (wpAny_lookBehind hoD (by rw [hdD]; exact pastItsLine_dict (Nat.le_trans hcD (by rw [List.length_cons, List.length_nil, sizeLine_eq]; omega))) ?_)
  wp_walk
  exact hq h' _ h.objs.size (Heap.get?_none_of_le (Nat.le_refl _)) hxs.symm (fun b ob hbx hb => (hs.2 b (Nat.ne_of_lt (Heap.lt_size hb))).trans (hgk b ob hbx hb)) ((hs.2 x hxs).trans hgx) hn'
theorem store_second {sa owner B : String} {bm : List Value} {o : Obj} {dx : Addr} {mA : Str → Option Value} {ns : List Str} {Q : Unit → Shared → Prop} (SF : StoreFacts B bm sa owner)
    (hC : h.get? C = some (excClassObj nm q C N bs bm true sn sub ab col dd k0 k1 k2 k3 k5 newId)) (hn : h.Ns N mN) (hns : mN "__setattr__" = none) (hna : mN name = none)
    (hB : typeLookup (.type B) name = pure none) (hx : h.get? x = some o) (hc : o.cls = .ref C) (hnc : ∀ c, o.data ≠ .cls c) (hxC : x ≠ C) (hdx : o.dict = some dx) (hde : dx ≠ x) (hm : h.Ns1 dx mA) (hw : Within mA ns) (hsz : ns.length ≤ sizeLine)
    (hq : ∀ h' tk', (∀ b o, b ≠ dx → h.get? b = some o → h'.get? b = some o) → h'.Ns1 dx (fun y => if y = name then some v else mA y) → Q () ⟨h', g, d, tk', os⟩) :
    wpAny (model prog w) A (setAttr (.ref x) name v) Q E ⟨h, g, d, t, os⟩ := by
  refine store_attr SF hC hn hns hna hB hxC ⟨o, hx, hc, hnc, .inr ⟨dx, hdx, hde, hm⟩⟩ (fun h' tk' I hk hs => ?_) hw hsz
  obtain ⟨o1, e1, c1, d1, s1, x1⟩ := hs o hx
  obtain ⟨o2, e2, _, _, r⟩ := I
  obtain rfl : o1 = o2 := Option.some.inj (e1.symm.trans e2)
  have hd1 := x1 dx hdx
  refine hq h' tk' (fun b ob hb q => ?_) ?_
  · by_cases hbx : b = x
    · subst hbx
      obtain rfl : o = ob := Option.some.inj (hx.symm.trans q)
      rw [e1]
      obtain ⟨a, b, c, d⟩ := o
      obtain ⟨a', b', c', d'⟩ := o1
      simp only at c1 d1 s1 hd1 hdx
      subst c1 d1 s1 hd1 hdx
      rfl
    · refine hk b ob hbx (fun o₀ d₀ q0 q1 => ?_) q
      obtain rfl : o = o₀ := Option.some.inj (hx.symm.trans q0)
      rw [hdx] at q1
      injection q1 with q1
      rw [← q1]; exact hb
  · rcases r with ⟨r, _⟩ | ⟨d2, r1, _, r2⟩
    · rw [hd1] at r; cases r
    · rw [hd1] at r1
      injection r1 with r1
      rw [r1]; exact r2
end
end
end Mine
namespace Mine
section
open PySem.Spec
theorem fail_cls {w : World} {h₀ : Heap} (KX : (hd.heap_39 w.params).In h₀) : h₀.get? 31 = some (excClassObj "CasFail" "CasFail" 31 30 [.type "Exception"] [.type "Exception", .type "BaseException", .type "object"] true [] [] false none none (some (.ref 15)) none (some (.str "CasFail" 189)) (some (.str "CasFail" 197)) (some (.bool true)) "Exception.__new__") := KX _ _ rfl
theorem strKeys_of {es : Array DictEntry} (h : es.toList.all (fun e => match e.key with | .str .. => true | _ => false) = true) : StrKeys es := by
  intro e he
  have q := List.all_eq_true.mp h e (Array.mem_toList_iff.mpr he)
  split at q
  · exact ⟨_, _, by assumption⟩
  · cases q
theorem fail_ns {w : World} {h₀ : Heap} (KX : (hd.heap_39 w.params).In h₀) : ∃ mN, h₀.Ns 30 mN ∧ mN "__init__" = some (.ref 28) ∧ mN "__setattr__" = none ∧ mN "kind" = none ∧ mN "text" = none ∧ mN "__getattribute__" = none := 
  ⟨fun n => nsFind (match (hd.heap_39 w.params).lookup 30 with | some o => (match o.data with | .dict es _ => es | _ => #[]) | none => #[]) n, ⟨_, _, _, KX 30 _ rfl, rfl, strKeys_of rfl, fun n => rfl⟩, rfl, rfl, rfl, rfl, rfl⟩
theorem get_exc_init {w : World} {prog : Program} {A : Around} {E : Value → Shared → Prop} {s : Shared} {pl : Sem Bool} {Q : Value × List Value → Shared → Prop} (X : (hd.heap_39 w.params).In s.heap)
    (h : Q (.builtin "Exception.__init__", []) { s with toks := s.toks + 1 }) : wpAny (model prog w) A (getMethod (.type "Exception") (Str.ofString "__init__") pl) Q E s := by
  have f1 : findCls (hd.heap_39 w.params) (.type "Exception") (.type "type") (Str.ofString "__init__") = some (.val (.builtin "Exception.__init__")) := by kernel_rfl
  have f2 : findIn (hd.heap_39 w.params) (.type "type") (Str.ofString "__getattribute__") = some (some (.builtin "type.__getattribute__")) := by kernel_rfl
  have f3 : subIn (hd.heap_39 w.params) (.type "type") (.type "type") = some true := by kernel_rfl
  have ht : Looks (model prog w) s.heap (typeOf (.type "Exception")) (.type "type") := .now
  have hh : handedIn (.builtin "Exception.__init__") = true := by kernel_rfl
  unfold getMethod
  refine wpAny_bind ((Looks.andThen ht (looks_findIn X f2)).here ?_)
  dsimp only
  rw [if_pos canon_tga]
  refine wpAny_bind (wpAny_mono (cls_open X .now ht f2 .now f3 f1 (wpAny_pure ?_)) (fun _ _ z => wpAny_pure z) fun _ _ z => z)
  exact handed_on hh h
def lnDef : List Stmt × Scope := match (PySem.Challenge.pw_rh0020_01.main.body.drop 3).head? with
  | some (.FunctionDef _ _ b _ _ _ sc _ _ _) => (b, sc)
  | _ => ([], default)
def lnScope : Scope := lnDef.2
abbrev lnA (sc scE scN : Scope) (L fa : Addr) (cd : Value) (L' : Addr) (cdE : Value) (L'' : Addr) (cdN : Value) : Around :=
  ((callerA.deeper (lawEnv sc L fa cd)).deeper (envOf (Str.ofString "equations_given") scE L' 46 cdE)).deeper (envOf (Str.ofString "letter_name") scN L'' 41 cdN)
theorem fr_but {g h h' : Heap} {L e : Addr} {m : Str → Option Value} (F : Fr g L h m) (hL : e ≠ L) (hg : g.get? e = none) (hk : ∀ b o, b ≠ e → h.get? b = some o → h'.get? b = some o) : Fr g L h' m :=
  ⟨F.ns.at fun o q => hk L o (Ne.symm hL) q, fun b o q => hk b o (fun z => by rw [z, hg] at q; cases q) (F.keep b o q), F.above⟩
theorem news_but {g h h' : Heap} {L e : Addr} {news : List (Addr × Obj)} (N : News g L h news) (hn : ∀ p ∈ news, p.1 ≠ e) (hk : ∀ b o, b ≠ e → h.get? b = some o → h'.get? b = some o) : News g L h' news :=
  fun p hp => ⟨hk _ _ (hn p hp) (N p hp).1, (N p hp).2⟩
theorem mkfail {w : World} {mean : ExcName → Option Value} {mg mb : Str → Option Value} {base g : Heap} {L fa L' L'' : Addr} {cd cdE cdN : Value} {sc scE scN : Scope} (hsc : sc = lawScope) (hsE : scE = eqScope) (hsN : scN = lnScope)
    {hp : Heap} {gs : Array GenState} {dr : Drawn} {tk : Nat} {os : OsState} {Q E : Value → Shared → Prop} {news : List (Addr × Obj)} {m : Str → Option Value} {kd tx : Str} {t1 t2 : Tok}
    (KX : (hd.heap_39 w.params).In g) (T : Top hd.view_39 (looseW hd.view_39 []) mean mg mb g)
    (K0 : Below ((callerA.deeper (lawEnv sc L fa cd)).deeper (envOf (Str.ofString "equations_given") scE L' 46 cdE)) base [envOf (Str.ofString "equations_given") scE L' 46 cdE, lawEnv sc L fa cd] g)
    (F : Fr g L'' hp m) (N : News g L'' hp news) (hkd : kd = Str.ofString "domain") (htx : tx = Str.ofString "a letter is wanted")
    (hQ : ∀ (h' : Heap) (tk : Nat) (e dx t0 : Addr) (odx : Obj), Fr g L'' h' m → News g L'' h' ((e, { cls := .ref 31, dict := some dx, data := .fields #[.ref t0, .none, .none, .none, .bool false, .none] }) :: (dx, odx) :: news) → dx ≠ e → (∀ p ∈ news, p.1 ≠ e) →
      h'.Ns1 dx (fun y => if y = Str.ofString "text" then some (.str tx t2) else if y = Str.ofString "kind" then some (.str kd t1) else none) → Q (.ref e) ⟨h', gs, dr, tk, os⟩) :
    wpAny (model PySem.Challenge.rw_rh0020_01.row.prog w) (lnA sc scE scN L fa cd L' cdE L'' cdN) (PySem.call (.ref 31) [.str kd t1, .str tx t2]) Q E ⟨hp, gs, dr, tk, os⟩ := by
  w_on
  (conv at hsc => rhs; whnf)
  (conv at hsE => rhs; whnf)
  (conv at hsN => rhs; whnf)
  subst hsc hsE hsN hkd htx
  dsimp only [lawEnv, lnA] at *
  obtain ⟨mN, hn, hi, -, -, -, -⟩ := fail_ns (KX.keeps F.keep)
  refine wpAny_call_exc_init PySem.F.excBase_Exception (fail_cls (KX.keeps F.keep)) hn hi ((KX.keeps F.keep) 28 _ rfl) rfl (fun h' e hm => ?_)
  obtain ⟨hk, hen, t, hhe, htn, hht⟩ := hm
  have hne : ∀ p ∈ news, p.1 ≠ e := fun p hp q => by
    have := (N p hp).1
    rw [q] at this
    rw [this] at hen; cases hen
  have F1 : Fr g L'' h' m := F.keeps hk
  have N1 : News g L'' h' ((e, { cls := .ref 31, data := .fields #[.ref t, .none, .none, .none, .bool false, .none] }) :: news) :=
    News.more F1 (fun p hp => ⟨hk _ _ (N p hp).1, (N p hp).2⟩) hhe (fun es n q => by cases q) (by
      cases q : g.get? e with
      | none => rfl
      | some o => have := F.keep _ _ q; rw [this] at hen; cases hen)
  refine wpAny_call ?_
  refine' code_def K0 F1 KX N1 T rfl rfl rfl ?k6 ?k7 ?k8 ?k9 ?kB ?_ ?c2 ?c3 ?c4 ?c5
  case k6 => k_is
  case k7 => k_is
  case k8 => exact Nat.le_of_ble_eq_true rfl
  case k9 => exact BindsTo.of_eq rfl
  case kB => exact locs rfl
  case c5 => decide
  case c2 => exact rfl
  case c3 => exact rfl
  case c4 => exact rfl
  intro g' L3 h3 FG' F' N' B' X' T'
  repeat (first | (k_unfold; (try dsimp only)) | (k_end; wrow_close) | walk1 | (dsimp only; walk1) | (leave1; walk_say "STEP leave1"; try dsimp only))
  refine get_exc_init (X'.keeps F'.keep) ?_
  dsimp only
  repeat (first | (k_unfold; (try dsimp only)) | (k_end; wrow_close) | walk1 | (dsimp only; walk1) | (leave1; walk_say "STEP leave1"; try dsimp only))
  refine exc_init_call (fail_cls (X'.keeps F'.keep)) (N'.get (.head _)) (fun h4 hk4 he4 => ?_)
  have ⟨_, heL, heg⟩ := N' _ (.head _)
  have F4 := fr_but F' heL heg hk4
  have N4 : News g' L3 h4 ((e, { cls := .ref 31, data := .fields #[.ref h3.objs.size, .none, .none, .none, .bool false, .none] }) :: news) := fun p hp => by
    rcases List.mem_cons.mp hp with rfl | hp
    · exact ⟨he4, heL, heg⟩
    · exact ⟨hk4 _ _ (hne p hp) (N' p (.tail _ hp)).1, (N' p (.tail _ hp)).2⟩
  clear F' N'
  iterate 4 (first | (k_unfold; (try dsimp only)) | (k_end; wrow_close) | walk1 | (dsimp only; walk1) | (leave1; walk_say "STEP leave1"; try dsimp only))
  clear hn hi
  obtain ⟨mN, hn, -, hi2, hi3, hi4, -⟩ := fail_ns (X'.keeps F4.keep)
  refine store_first PySem.F.store_Exception (fail_cls (X'.keeps F4.keep)) hn hi2 hi3 (by rw [typeLookup_type, builtinLookup_eq_fast]; kernel_rfl) he4 rfl (by simp) rfl (fun h5 tk5 dx hdn hde hk5 he5 hns5 => ?_)
  have F5 := fr_but F4 heL heg hk5
  have hdL : dx ≠ L3 := fun z => by
    obtain ⟨oL, _, _, q, _⟩ := F4.ns
    rw [← z] at q
    exact absurd (hdn.symm.trans q) (by simp)
  have hdg : g'.get? dx = none := by
    cases q : g'.get? dx with
    | none => rfl
    | some o => exact absurd (hdn.symm.trans (F4.keep _ _ q)) (by simp)
  have hnd : ∀ p ∈ news, p.1 ≠ dx := fun p hp q => by
    have := (N4 p (.tail _ hp)).1
    rw [q] at this
    exact absurd (hdn.symm.trans this) (by simp)
  have N5 : News g' L3 h5 ((e, { cls := .ref 31, dict := some dx, data := .fields #[.ref h3.objs.size, .none, .none, .none, .bool false, .none] }) :: news) := fun p hp => by
    rcases List.mem_cons.mp hp with rfl | hp
    · exact ⟨he5, heL, heg⟩
    · exact ⟨hk5 _ _ (hne p hp) (N4 p (.tail _ hp)).1, (N4 p (.tail _ hp)).2⟩
  clear F4 N4
  dsimp only
  iterate 4 (first | (k_unfold; (try dsimp only)) | (k_end; wrow_close) | walk1 | (dsimp only; walk1) | (leave1; walk_say "STEP leave1"; try dsimp only))
  obtain ⟨mN2, hn2, -, hj2, -, hj4, -⟩ := fail_ns (X'.keeps F5.keep)
  have heC : e ≠ 31 := fun z => by
    have := fail_cls (KX.keeps F.keep)
    rw [← z] at this
    rw [this] at hen; cases hen
  refine store_second (ns := [Str.ofString "kind"]) PySem.F.store_Exception (fail_cls (X'.keeps F5.keep)) hn2 hj2 hj4 (by rw [typeLookup_type, builtinLookup_eq_fast]; kernel_rfl) he5 rfl (by simp) heC rfl hde hns5 (by within_ways) (by size_fits) (fun h6 tk6 hk6 hns6 => ?_)
  have F6 := fr_but F5 hdL hdg hk6
  have N6 := news_but N5 (List.forall_mem_cons.mpr ⟨Ne.symm hde, hnd⟩) hk6
  obtain ⟨odx, _, _, hodx, _⟩ := id hns6
  have N7 : News g' L3 h6 ((e, { cls := .ref 31, dict := some dx, data := .fields #[.ref h3.objs.size, .none, .none, .none, .bool false, .none] }) :: (dx, odx) :: news) := fun p hp => by
    rcases List.mem_cons.mp hp with rfl | hp
    · exact N6 _ (.head _)
    rcases List.mem_cons.mp hp with rfl | hp
    · exact ⟨hodx, hdL, hdg⟩
    · exact N6 _ (.tail _ hp)
  clear F5 N5
  rw [execs_nil]
  refine wpAny_pure ?_
  exact leaveK_ F6 N7 fun kF kN => ⟨rfl, hQ _ _ _ _ _ _ kF kN hde hne hns6⟩
end
end Mine
namespace Mine
section
open PySem.Spec
section
variable {M : Model} {A : Around} {E : Value → Shared → Prop} {nm q : Str} {C N : Addr} {bs bm : List Value} {hdct : Bool} {sn : List Str} {sub : List Value} {ab : Bool} {col : Option Bool} {dd : Option Addr} {k0 k1 k2 k3 k5 : Option Value} {newId : String} {env : Env}
theorem raise_made {s : Shared} {x : Sem Value} {Q : Flow → Shared → Prop} (hbase : bm.contains (.type "BaseException") = true) (hh : A.handled = none)
    (h : wpAny M A x (fun v s₁ => ∃ e t dx, v = .ref e ∧ s₁.heap.get? C = some (excClassObj nm q C N bs bm hdct sn sub ab col dd k0 k1 k2 k3 k5 newId) ∧
      s₁.heap.get? e = some { cls := .ref C, dict := some dx, data := .fields #[.ref t, .none, .none, .none, .bool false, .none] } ∧ E (.ref e) s₁) E s) :
    wpAny M A (raiseStmt env (some x) none) Q E s := by
  unfold raiseStmt
  refine wpAny_bind (wpAny_mono h ?_ fun _ _ y => y)
  rintro v ⟨hp, g, d, tk, os⟩ ⟨e, t, dx, rfl, hC, he, hE⟩
  have sub : (Value.ref C :: bm).contains (.type "BaseException") = true := by
    simp only [List.contains_cons, hbase, Bool.or_true]
  repeat (first | with_reducible exact wpAny_raiseNew_none hh hE | (with_reducible refine wpAny_isSubtype_exc hC ?_; rw [sub]) | with_reducible refine wpAny_loadPart_at hC ?_ | with_reducible refine wpAny_loadPart_at he ?_ | wp_step)
end
theorem raise_fail {M : Model} {A : Around} {E : Value → Shared → Prop} {env : Env} {s : Shared} {x : Sem Value} {Q : Flow → Shared → Prop} (hh : A.handled = none)
    (h : wpAny M A x (fun v s₁ => ∃ e t dx, v = .ref e ∧ s₁.heap.get? 31 = some (excClassObj "CasFail" "CasFail" 31 30 [.type "Exception"] [.type "Exception", .type "BaseException", .type "object"] true [] [] false none none (some (.ref 15)) none (some (.str "CasFail" 189)) (some (.str "CasFail" 197)) (some (.bool true)) "Exception.__new__") ∧
      s₁.heap.get? e = some { cls := .ref 31, dict := some dx, data := .fields #[.ref t, .none, .none, .none, .bool false, .none] } ∧ E (.ref e) s₁) E s) :
    wpAny M A (raiseStmt env (some x) none) Q E s := raise_made (by decide) hh h
/-- an exception of CasFail under way, over a ledger that stays -/
def Raised (base : Heap) (l : List Env) (e dx : Addr) (t1 t2 : Tok) (news : List (Addr × Obj)) (h : Heap) : Prop :=
  ∃ B, base.StaysIn B ∧ (∀ q ∈ news, B.get? q.1 = some q.2 ∧ base.get? q.1 = none) ∧
    Fly B l e 31 dx (fun y => if y = Str.ofString "text" then some (.str (Str.ofString "a letter is wanted") t2) else if y = Str.ofString "kind" then some (.str (Str.ofString "domain") t1) else none) true h
theorem fly_begin {base h : Heap} {l : List Env} {news : List (Addr × Obj)} {e dx C : Addr} {oe : Obj} {vs : Array Value} {mA : Str → Option Value} (st : base.StaysIn h) (fr : h.FunFrames base l) (he : h.get? e = some oe) (hcls : oe.cls = .ref C) (hd : oe.data = .fields vs) (hdx : oe.dict = some dx)
    (h1 : vs[1]? = some .none) (hbe : base.get? e = none) (hl : ∀ q ∈ news, h.get? q.1 = some q.2 ∧ base.get? q.1 = none ∧ q.1 ≠ e ∧ q.1 ∉ l.filterMap (·.frame)) (hde : dx ≠ e) (hns : h.Ns1 dx mA) :
    ∃ B, base.StaysIn B ∧ (∀ q ∈ news, B.get? q.1 = some q.2 ∧ base.get? q.1 = none) ∧ Fly B l e C dx mA false h := by
  have hin : ∀ env ∈ l, ∀ b, env.frame = some b → b ∈ (e :: l.filterMap (·.frame)) := fun env he b hb => .tail _ (List.mem_filterMap.mpr ⟨env, he, hb⟩)
  refine ⟨hideAll h (e :: l.filterMap (·.frame)), fun b o q => hideAll_get _ (st b o q) fun hm => ?_, fun q hq => ?_, fun b o q => of_hideAll _ q, hideAll_none _ (.head _), funFrames_hide fr hin, oe, vs, he, hcls, hd, hdx, hde, hns, ?_, .inl ⟨h1, rfl⟩⟩
  · rcases List.mem_cons.mp hm with z | hm
    · rw [z, hbe] at q; cases q
    · rw [(fr.mem hm).1] at q; cases q
  · obtain ⟨a, b, c, d⟩ := hl q hq
    refine ⟨hideAll_get _ a fun hm => ?_, b⟩
    rcases List.mem_cons.mp hm with z | hm
    · exact c z
    · exact d hm
  · rcases Nat.lt_or_ge 1 vs.size with z | z
    · exact z
    · rw [Array.getElem?_eq_none z] at h1; cases h1
theorem leave_fail {M : Model} {A : Around} {E : Value → Shared → Prop} {s' : Shared} {base g : Heap} {outer : List Env} {L a e dx t0 : Addr} {m : Str → Option Value} {name : Str} {scope : Scope} {cd : Value} {Q : Unit → Shared → Prop} {news : List (Addr × Obj)} {odx : Obj} {t1 t2 : Tok}
    (K : Below A base outer g) (F : Fr g L s'.heap m) (N : News g L s'.heap ((e, { cls := .ref 31, dict := some dx, data := .fields #[.ref t0, .none, .none, .none, .bool false, .none] }) :: (dx, odx) :: news)) (hde : dx ≠ e) (hne : ∀ p ∈ news, p.1 ≠ e)
    (hns : s'.heap.Ns1 dx (fun y => if y = Str.ofString "text" then some (.str (Str.ofString "a letter is wanted") t2) else if y = Str.ofString "kind" then some (.str (Str.ofString "domain") t1) else none))
    (hQ : ∀ h', Raised base outer e dx t1 t2 news h' → g.UpToSlots h' → Q () { s' with heap := h' }) (hk : scope.kind = .function := by rfl) :
    wpAny M (A.deeper (envOf name scope L a cd)) (leaving (envOf name scope L a cd) (.ref e)) Q E s' := by
  have K' := K.push (name := name) (a := a) (cd := cd) F hk
  obtain ⟨B, hB, hl, X⟩ := fly_begin (news := news) K'.stays K'.frames (N.get (.head _)) rfl rfl rfl rfl (fresh_of_stays K.stays (N _ (.head _)).2.2) (fun q hq => by
    obtain ⟨n1, n2, n3⟩ := N q (.tail _ (.tail _ hq))
    refine ⟨n1, fresh_of_stays K.stays n3, hne q hq, fun hm => ?_⟩
    obtain ⟨env, he, hf⟩ := List.mem_filterMap.mp hm
    rcases List.mem_cons.mp he with rfl | he
    · exact n2 (Option.some.inj hf).symm
    · obtain ⟨o, ho, _⟩ := (K.frames.mem (List.mem_filterMap.mpr ⟨env, he, hf⟩)).2
      rw [n3] at ho; cases ho) hde hns
  refine fly_leave (Around.frames_deeper K.stack) rfl X fun h' X' k' => hQ h' ⟨B, hB, hl, X'⟩ ((Heap.UpToSlots.of_keeps F.keep).trans k')
theorem ln_raise {w : World} {mean : ExcName → Option Value} {mg mb : Str → Option Value} {base g : Heap} {L fa L' : Addr} {cd cdE : Value} {sc scE : Scope} (hsc : sc = lawScope) (hsE : scE = eqScope)
    {hp : Heap} {gs : Array GenState} {dr : Drawn} {tk : Nat} {os : OsState} {Q E : Value → Shared → Prop} {news : List (Addr × Obj)} {m : Str → Option Value} {a : Addr} {o : Obj} {sx : Str}
    (KX : (hd.heap_39 w.params).In g) (T : Top hd.view_39 (looseW hd.view_39 []) mean mg mb g)
    (K0 : Below (callerA.deeper (lawEnv sc L fa cd)) base [lawEnv sc L fa cd] g)
    (F : Fr g L' hp m) (N : News g L' hp news) (ha : (a, o) ∈ news) (ho : LastT o sx true)
    (hE : ∀ (h' : Heap) (tk : Nat) (e dx : Addr) (t1 t2 : Tok), Raised base [envOf (Str.ofString "equations_given") scE L' 46 cdE, lawEnv sc L fa cd] e dx t1 t2 news h' → g.UpToSlots h' → E (.ref e) ⟨h', gs, dr, tk, os⟩) :
    wpAny (model PySem.Challenge.rw_rh0020_01.row.prog w) ((callerA.deeper (lawEnv sc L fa cd)).deeper (envOf (Str.ofString "equations_given") scE L' 46 cdE)) (PySem.call (.ref 41) [.ref a]) Q E ⟨hp, gs, dr, tk, os⟩ := by
  w_on
  (conv at hsc => rhs; whnf)
  (conv at hsE => rhs; whnf)
  subst hsc hsE
  dsimp only [lawEnv] at *
  refine wpAny_call ?_
  refine' code_def K0 F KX N T rfl rfl rfl ?k6 ?k7 ?k8 ?k9 ?kB ?_ ?c2 ?c3 ?c4 ?c5
  case k6 => k_is
  case k7 => k_is
  case k8 => exact Nat.le_of_ble_eq_true rfl
  case k9 => exact BindsTo.of_eq rfl
  case kB => exact locs rfl
  case c5 => decide
  case c2 => exact rfl
  case c3 => exact rfl
  case c4 => exact rfl
  intro g' L3 h3 FG' F' N' B' X' T'
  cases ho
  · iterate 14 (first | (k_unfold; (try dsimp only)) | (k_end; wrow_close) | walk1 | (dsimp only; walk1) | (leave1; walk_say "STEP leave1"; try dsimp only))
    rw [arm_exec_Raise]
    refine wpAny_bind (wpAny_standAt ?_)
    simp only [evalOpt, Option.map]
    refine raise_fail rfl (wpAny_bind ?_)
    iterate 8 (first | (k_unfold; (try dsimp only)) | (k_end; wrow_close) | walk1 | (dsimp only; walk1) | (leave1; walk_say "STEP leave1"; try dsimp only))
    refine ⟨X'.keeps F'.keep, ?_⟩
    refine mkfail rfl rfl rfl X' T' B' F' N' rfl rfl (fun h6 tk6 e dx t0 odx F6 N6 hde hne hns6 => ?_)
    refine wpAny_bind (wpAny_standAt (wpAny_pure ⟨e, t0, dx, rfl, fail_cls (X'.keeps F6.keep), N6.get (.head _), ?_⟩))
    exact leave_fail B' F6 N6 hde hne hns6 fun h' R k' => hE _ _ _ _ _ _ R ((Heap.UpToSlots.of_keeps FG'.keep).trans k')
  · iterate 14 (first | (k_unfold; (try dsimp only)) | (k_end; wrow_close) | walk1 | (dsimp only; walk1) | (leave1; walk_say "STEP leave1"; try dsimp only))
    rw [arm_exec_Raise]
    refine wpAny_bind (wpAny_standAt ?_)
    simp only [evalOpt, Option.map]
    refine raise_fail rfl (wpAny_bind ?_)
    iterate 8 (first | (k_unfold; (try dsimp only)) | (k_end; wrow_close) | walk1 | (dsimp only; walk1) | (leave1; walk_say "STEP leave1"; try dsimp only))
    refine ⟨X'.keeps F'.keep, ?_⟩
    refine mkfail rfl rfl rfl X' T' B' F' N' rfl rfl (fun h6 tk6 e dx t0 odx F6 N6 hde hne hns6 => ?_)
    refine wpAny_bind (wpAny_standAt (wpAny_pure ⟨e, t0, dx, rfl, fail_cls (X'.keeps F6.keep), N6.get (.head _), ?_⟩))
    exact leave_fail B' F6 N6 hde hne hns6 fun h' R k' => hE _ _ _ _ _ _ R ((Heap.UpToSlots.of_keeps FG'.keep).trans k')
end
end Mine
namespace Mine
section
open PySem.Spec
section
variable {prog : Program} {w : World} {A : Around} {E : Value → Shared → Prop} {h₀ : Heap} {L : Addr} {m : Str → Option Value} {env : Env}
theorem news_same {g h h' : Heap} {L a : Addr} {news : List (Addr × Obj)} (N : News g L h news) (hn : ∀ p ∈ news, p.1 ≠ a) (hs : Heap.SameBut a h h') : News g L h' news :=
  fun p hp => ⟨hs.extBut _ _ (hn p hp) (N p hp).1, (N p hp).2⟩
/-- a list comprehension over a list of the ledger whose last turn raises -/
theorem comp_raises {elt iter : PySem.Expr} {x : Str} {px : Pos} {scope : Scope} {cl : List (Str × Addr)} {pos : Pos} {Q : Value → Shared → Prop} {hp : Heap} {gs : Array GenState} {dr : Drawn} {tk : Nat} {os : OsState}
    {ax : Addr} {its : Array Value} {ne : Nat} {news : List (Addr × Obj)} {Er : Addr → Value → Shared → Prop}
    (hclos : closureFor scope env = pure cl) (hcell : ∀ y ∈ scope.names, y.2 ≠ .cell) (hkind : scope.kind = .function)
    (hnames : ∀ y ∈ scope.names, y.2 = .local → scope.names.lookup y.1 = some .local) (hx : scope.names.lookup x = some .local) (hn0 : 0 < its.size) (hsz : its.size ≤ sizeLine)
    (hit : wpAny (model prog w) A (eval iter env) (fun xv s₁ => xv = .ref ax ∧ s₁ = ⟨hp, gs, dr, tk, os⟩) E ⟨hp, gs, dr, tk, os⟩) (F : Fr h₀ L hp m) (N : News h₀ L hp news) (hax : (ax, listOf its ne) ∈ news)
    (R : ∀ i v I oI C oC D m₂ ys h tk, its[i]? = some v → LCg.NsObj oC m₂ → m₂ x = some v → Fr h₀ L h m → News h₀ L h ((I, oI) :: (C, oC) :: (D, LCg.lst ys) :: news) →
      wpAny (model prog w) A (eval elt (compEnvC scope cl C env)) (fun _ s' => i + 1 < its.size ∧ ∃ h' tk', s' = ⟨h', gs, dr, tk', os⟩ ∧ Fr h₀ L h' m ∧ News h₀ L h' ((I, oI) :: (C, oC) :: (D, LCg.lst ys) :: news)) (Er C) ⟨h, gs, dr, tk, os⟩)
    (hE : ∀ C D e s', Er C e s' → notedBy (model prog w) A env (fun e s' => compPost (model prog w) A E none Q (.ref D) C (.error e) s') e s')
    (hs : ∀ x, foldedSetIterable iter env x = pure x := by intro _; rfl) :
    wpAny (model prog w) A (eval (.ListComp elt [⟨.Name x px, iter, [], 0⟩] scope pos) env) Q E ⟨hp, gs, dr, tk, os⟩ := by
  rw [eval_ListComp]
  refine wpAny_comprehension_free (use := none) rfl hs hclos hkind hnames (wpAny_mono hit (fun xv s₁ h₁ => ?_) fun _ _ e => e)
  obtain ⟨rfl, rfl⟩ := h₁
  have hl : hp.IsList ax its := ⟨_, (N _ hax).1, rfl, _, rfl⟩
  refine wpAny_pyIter_list hl ?_
  have hI1 : (hp.push { cls := .type "list_iterator", data := .fields #[.ref ax, .int 0 0] }).get? hp.objs.size = some _ := Heap.get?_push_size _ rfl
  generalize hH1 : hp.push { cls := .type "list_iterator", data := .fields #[.ref ax, .int 0 0] } = H1 at hI1 ⊢
  have up1 : ∀ b o, hp.get? b = some o → H1.get? b = some o := fun b o e => hH1 ▸ Heap.get?_push_of_some _ e
  have sz1 : H1.objs.size = hp.objs.size + 1 := by rw [← hH1, Heap.size_push]
  dsimp only
  refine wpAny_newObj_type (wpAny_newFunctionEnv hcell (by intro y hy; simp at hy) (fun h₃ hns₃ hsb₃ => ?_) hkind)
  dsimp only at hns₃ hsb₃ ⊢
  generalize hH2 : H1.push { cls := .type "list", dict := none, data := .seq ([] : List Value).toArray } = H2 at hns₃ hsb₃ ⊢
  have sz2 : H2.objs.size = hp.objs.size + 2 := by rw [← hH2, Heap.size_push, sz1]
  have hD2 : H2.get? H1.objs.size = some (LCg.lst []) := hH2 ▸ Heap.get?_push_size _ rfl
  rw [sz1] at hD2 ⊢
  rw [sz2] at hns₃ hsb₃ ⊢
  have old3 : ∀ b o, b < hp.objs.size + 2 → H2.get? b = some o → h₃.get? b = some o := fun b o hb e => hsb₃.extBut b o (Nat.ne_of_lt hb) (Heap.get?_push_of_some _ e)
  have old : ∀ b o, hp.get? b = some o → h₃.get? b = some o := fun b o e => old3 b o (Nat.lt_succ_of_lt (Nat.lt_succ_of_lt (Heap.lt_size e))) (hH2 ▸ Heap.get?_push_of_some _ (up1 b o e))
  have fresh : ∀ a, hp.objs.size ≤ a → h₀.get? a = none ∧ a ≠ L ∧ ∀ p ∈ news, p.1 ≠ a := fun a ha => by
    refine ⟨?_, fun q => ?_, fun p hp' q => ?_⟩
    · cases e : h₀.get? a with
      | none => rfl
      | some o' => exact absurd (Heap.lt_size (F.keep a o' e)) (Nat.not_lt.mpr ha)
    · have := F.ns.lt
      rw [← q] at this
      exact absurd this (Nat.not_lt.mpr ha)
    · have := Heap.lt_size (N p hp').1
      rw [q] at this
      exact absurd this (Nat.not_lt.mpr ha)
  obtain ⟨i0, i1, i2⟩ := fresh hp.objs.size (Nat.le_refl _)
  obtain ⟨d0, d1, d2⟩ := fresh (hp.objs.size + 1) (Nat.le_succ _)
  obtain ⟨c0, c1, c2⟩ := fresh (hp.objs.size + 2) (by omega)
  have hID : hp.objs.size ≠ hp.objs.size + 1 := by omega
  have hIC : hp.objs.size ≠ hp.objs.size + 2 := by omega
  have hDC : hp.objs.size + 1 ≠ hp.objs.size + 2 := by omega
  have haxI : ax ≠ hp.objs.size := i2 _ hax
  have hi₃ : h₃.IsListIter hp.objs.size ax 0 := ⟨_, old3 _ _ (by omega) (hH2 ▸ Heap.get?_push_of_some _ hI1), rfl, rfl⟩
  have hl₃ : h₃.IsList ax its := ⟨_, old _ _ (N _ hax).1, rfl, _, rfl⟩
  have hD₃ : h₃.get? (hp.objs.size + 1) = some (LCg.lst []) := old3 _ _ (by omega) hD2
  have F₃ : Fr h₀ L h₃ m := F.keeps old
  have N₃ : News h₀ L h₃ news := fun p hp' => ⟨old _ _ (N p hp').1, (N p hp').2⟩
  clear old old3 hD2 hI1 up1 hsb₃ fresh hH1 hH2 sz1 sz2 hit hl
  generalize hp.objs.size = I at *
  have loop : ∀ tk', codeAny (model prog w) A (.compLoop (.ListComp elt [⟨.Name x px, iter, [], 0⟩] scope pos) 0 (.ref I) (.ref (I + 1)) (compEnvC scope cl (I + 2) env)) (compPost (model prog w) A E none Q (.ref (I + 1)) (I + 2)) ⟨h₃, gs, dr, tk', os⟩ := by
    intro tk0
    refine codeAny_compLoop_tests (fun k s' => ∃ h' tk' i ys m', s' = ⟨h', gs, dr, tk', os⟩ ∧ i < its.size ∧ k = its.size - i ∧ ys.length = i ∧ h'.IsListIter I ax i ∧ Fr h₀ L h' m ∧ h'.Ns (I + 2) m' ∧ News h₀ L h' ((I + 1, LCg.lst ys) :: news))
      ?_ its.size ⟨h₃, tk0, 0, [], _, rfl, hn0, rfl, rfl, hi₃, F₃, hns₃, List.forall_mem_cons.mpr ⟨⟨hD₃, d1, d0⟩, N₃⟩⟩
    rintro k s' ⟨h', tk', i, ys, m', rfl, hi, rfl, hyl, hit', F', hn', N'⟩
    have hl' : h'.IsList ax its := ⟨_, (N' _ (.tail _ hax)).1, rfl, _, rfl⟩
    refine wpAny_pyNext_list_item hit' hl' (x := its[i]) (by simp [hi]) fun h₂ hit₂ hs₂ => ?_
    have F₂ : Fr h₀ L h₂ m := F'.change hs₂ i1 i0
    have N₂ := news_same N' (List.forall_mem_cons.mpr ⟨Ne.symm hID, i2⟩) hs₂
    refine wpAny_assign_Name (wpAny_storeName_local (lookup_relabel_local hx) (hn'.sameBut hs₂ (Ne.symm hIC)) (fun h₄ hn₄ hs₄ => ?_) (by simp [compEnvC, relabel, hkind]))
    refine wpAny_tests_nil ?_
    simp only [if_true]
    have hit₄ : h₄.IsListIter I ax (i + 1) := hit₂.at fun o e => hs₄.extBut I o hIC e
    obtain ⟨oI, heI, _⟩ := id hit₄
    obtain ⟨oC, heC, hoC⟩ := LCg.ns_obj hn₄
    have F₄ : Fr h₀ L h₄ m := F₂.change hs₄ c1 c0
    have N₄ := news_same N₂ (List.forall_mem_cons.mpr ⟨hDC, c2⟩) hs₄
    have N₅ : News h₀ L h₄ ((I, oI) :: (I + 2, oC) :: (I + 1, LCg.lst ys) :: news) := List.forall_mem_cons.mpr ⟨⟨heI, i1, i0⟩, List.forall_mem_cons.mpr ⟨⟨heC, c1, c0⟩, N₄⟩⟩
    refine wpAny_mono (R i its[i] I oI (I + 2) oC (I + 1) _ ys h₄ _ (Array.getElem?_eq_getElem hi) hoC (by simp) F₄ N₅) (fun y s₄ h₄ => ?_) fun e s' he => hE _ (I + 1) e s' he
    obtain ⟨hi', h₆, tk₆, rfl, F₆, N₆⟩ := h₄
    obtain ⟨nI, nC, nD, nr⟩ : _ ∧ _ ∧ _ ∧ _ := ⟨(N₆ _ (.head _)).1, (N₆ _ (.tail _ (.head _))).1, (N₆ _ (.tail _ (.tail _ (.head _)))).1, fun p hp' => N₆ p (.tail _ (.tail _ (.tail _ hp')))⟩
    refine append_at nD (fun h₇ hs₇ hD₇ => ?_) (by rw [List.size_toArray, hyl]; omega)
    refine ⟨its.size - (i + 1), by omega, h₇, tk₆, i + 1, ys ++ [y], _, rfl, hi', rfl, by rw [List.length_append, List.length_singleton, hyl], ?_, F₆.change hs₇ d1 d0, (hoC.ns nC).sameBut hs₇ (Ne.symm hDC), ?_⟩
    · obtain ⟨oI', q, r⟩ := hit₄
      obtain rfl : oI = oI' := Option.some.inj (heI.symm.trans q)
      exact ⟨oI, hs₇.extBut _ _ hID nI, r⟩
    · exact List.forall_mem_cons.mpr ⟨⟨hD₇.trans (congrArg some (LCg.lst_snoc ys y)), d1, d0⟩, news_same nr d2 hs₇⟩
  exact codeAny_compStart_list (loop _) (wpAny_pyIter_listiter hi₃ (loop _))
end
end
end Mine
namespace Mine
section
open PySem.Spec
theorem frames_but {base h h' : Heap} {C : Addr} (hk : ∀ b, b ≠ C → h'.get? b = h.get? b) (hC : ∃ o, base.get? C = some o) : ∀ {l : List Env}, h.FunFrames base l → h'.FunFrames base l
  | [], _ => trivial
  | _ :: _, ⟨k, ⟨L, o, hf, hn, ho, hd⟩, hr⟩ => ⟨k, ⟨L, o, hf, hn, (hk L fun z => by obtain ⟨oc, hc⟩ := hC; rw [z, hc] at hn; cases hn).trans ho, hd⟩, frames_but hk hC hr⟩
theorem noted_raised {M : Model} {A : Around} {E : Value → Shared → Prop} {base g : Heap} {env : Env} {outer : List Env} {L e dx C : Addr} {t1 t2 : Tok} {oC : Obj} {m2 : Str → Option Value} {v : Value} {s' : Shared} {Q : Value → Shared → Prop} {acc : Value}
    (hfr : A.frames = some (env :: outer)) (hf : env.frame = some L) (Ro : Raised base (env :: outer) e dx t1 t2 [(C, oC)] s'.heap) (hoC : LCg.NsObj oC m2) (hm2 : m2 (Str.ofString "one") = some v) (hgC : g.get? C = none) (hg : g.UpToSlots s'.heap)
    (hE : ∀ h', Raised base (env :: outer) e dx t1 t2 [] h' → g.UpToSlots h' → E (.ref e) { s' with heap := h' }) :
    notedBy M A env (fun e s' => compPost M A E none Q acc C (.error e) s') (.ref e) s' := by
  obtain ⟨B, hB, hl, X⟩ := Ro
  obtain ⟨hBC, hbC⟩ := hl (C, oC) (.head _)
  refine fly_note hfr hf X fun h1 X1 k1 => ?_
  have hC1 := X1.1 _ _ hBC
  refine ⟨m2, hoC.ns hC1, fun h2 hs2 cenv _ => ?_⟩
  have hk : ∀ b, b ≠ C → h2.get? b = h1.get? b := fun b hb => hs2.2 b hb
  obtain ⟨a1, a2, a3, oe, vs, he, hcls, hd, hdx, hde, hns, hsz, ht⟩ := X1
  have heC : e ≠ C := fun z => by rw [z, hBC] at a2; cases a2
  have hdC : dx ≠ C := fun z => by
    obtain ⟨o, es, ep, q1, q2, -, -, q3⟩ := hns
    obtain ⟨es', ep', r1, -, r2⟩ := hoC
    rw [z, hC1] at q1
    injection q1 with q1
    subst q1
    rw [q2] at r1
    injection r1 with r1
    subst r1
    have := (r2 (Str.ofString "one")).symm.trans (q3 (Str.ofString "one"))
    rw [hm2] at this
    dsimp only at this
    rw [if_neg (by decide), if_neg (by decide)] at this
    cases this
  have X2 : Fly base (env :: outer) e 31 dx (fun y => if y = Str.ofString "text" then some (.str (Str.ofString "a letter is wanted") t2) else if y = Str.ofString "kind" then some (.str (Str.ofString "domain") t1) else none) true h2 := by
    refine ⟨fun b o q => (hk b fun z => by rw [z, hbC] at q; cases q).trans (a1 b o (hB b o q)), ?_, funFrames_base hB (frames_but hk ⟨_, hBC⟩ a3), oe, vs, (hk e heC).trans he, hcls, hd, hdx, hde, hns.at fun o q => (hk dx hdC).trans q, hsz, ?_⟩
    · exact fresh_of_stays hB a2
    · rcases ht with ⟨_, z⟩ | ⟨T, oT, ts, b1, b2, b3, b4, b5, b6⟩
      · cases z
      · exact .inr ⟨T, oT, ts, b1, fresh_of_stays hB b2, b3, (hk T fun z => by rw [z, hBC] at b2; cases b2).trans b4, b5, b6⟩
  have g2 : g.UpToSlots h2 := fun b o q hnf => by
    obtain ⟨sl, r⟩ := (hg.trans k1) b o q hnf
    exact ⟨sl, (hk b fun z => by rw [z, hgC] at q; cases q).trans r⟩
  unfold PySem.passOn
  rcases ht with ⟨_, z⟩ | ⟨T, oT, ts, b1, b2, b3, b4, b5, b6⟩
  · cases z
  refine wpAny_bind (wpAny_field (s := { s' with heap := h2 }) ((hk e heC).trans he) hd b1 ?_)
  rw [if_neg (by simp)]
  refine wpAny_bind (fly_set (s := { s' with heap := h2 }) X2 rfl fun h3 X3 k3 => wpAny_throw (hE h3 ⟨base, fun _ _ q => q, (fun _ hq => nomatch hq), X3⟩ (g2.trans k3)))
end
end Mine
namespace Mine
section
open PySem.Spec
theorem LA.at {l : List (Addr × Obj)} {lv : Addr} {as : List Value} {names : List Str} {lone : Bool} (Y : LA l lv as names lone true) (i : Nat) (v : Value) (h : as.toArray[i]? = some v) :
    ∃ a o, v = .ref a ∧ (a, o) ∈ l ∧ ((i + 1 < as.toArray.size ∧ ∃ t1 s t2, o = tupO [.str (Str.ofString "sym") t1, .str s t2]) ∨ ∃ s, LastT o s true) := by
  cases Y
  · rcases i with _ | i
    · cases h; exact ⟨_, _, rfl, (.head _), .inr ⟨_, by assumption⟩⟩
    · simp at h
  · rcases i with _ | i
    · cases h; exact ⟨_, _, rfl, (.tail _ (.tail _ (.head _))), .inr ⟨_, by assumption⟩⟩
    · simp at h
  · rcases i with _ | _ | i
    · cases h; exact ⟨_, _, rfl, (.tail _ (.tail _ (.head _))), .inl ⟨by simp, _, _, _, rfl⟩⟩
    · cases h; exact ⟨_, _, rfl, (.tail _ (.tail _ (.tail _ (.head _)))), .inr ⟨_, by assumption⟩⟩
    · simp at h
  · rcases i with _ | _ | _ | i
    · cases h; exact ⟨_, _, rfl, (.tail _ (.tail _ (.head _))), .inl ⟨by simp, _, _, _, rfl⟩⟩
    · cases h; exact ⟨_, _, rfl, (.tail _ (.tail _ (.tail _ (.head _)))), .inl ⟨by simp, _, _, _, rfl⟩⟩
    · cases h; exact ⟨_, _, rfl, (.tail _ (.tail _ (.tail _ (.tail _ (.head _))))), .inr ⟨_, by assumption⟩⟩
    · simp at h
theorem LA.size {l : List (Addr × Obj)} {lv : Addr} {as : List Value} {names : List Str} {lone odd : Bool} (Y : LA l lv as names lone odd) : 0 < as.toArray.size ∧ as.toArray.size ≤ 3 := by
  cases Y <;> simp
section
local macro_rules | `(tactic| k_mem) => `(tactic| assumption)
theorem ln_ok {w : World} {mean : ExcName → Option Value} {mg mb : Str → Option Value} {base g : Heap} {L fa L' : Addr} {cd cdE : Value} {sc scE : Scope} (hsc : sc = lawScope) (hsE : scE = eqScope)
    {hp : Heap} {gs : Array GenState} {dr : Drawn} {tk : Nat} {os : OsState} {Q E : Value → Shared → Prop} {news : List (Addr × Obj)} {m : Str → Option Value} {a : Addr} {sx : Str} {t1 t2 : Tok}
    (KX : (hd.heap_39 w.params).In g) (T : Top hd.view_39 (looseW hd.view_39 []) mean mg mb g)
    (K0 : Below (callerA.deeper (lawEnv sc L fa cd)) base [lawEnv sc L fa cd] g)
    (F : Fr g L' hp m) (N : News g L' hp news) (ha : (a, tupO [.str (Str.ofString "sym") t1, .str sx t2]) ∈ news)
    (hQ : ∀ h' tk, Fr g L' h' m → News g L' h' news → Q (.str sx t2) ⟨h', gs, dr, tk, os⟩) :
    wpAny (model PySem.Challenge.rw_rh0020_01.row.prog w) ((callerA.deeper (lawEnv sc L fa cd)).deeper (envOf (Str.ofString "equations_given") scE L' 46 cdE)) (PySem.call (.ref 41) [.ref a]) Q E ⟨hp, gs, dr, tk, os⟩ := by
  w_on
  (conv at hsc => rhs; whnf)
  (conv at hsE => rhs; whnf)
  subst hsc hsE
  dsimp only [lawEnv] at *
  refine wpAny_call ?_
  refine' code_def K0 F KX N T rfl rfl rfl ?k6 ?k7 ?k8 ?k9 ?kB ?_ ?c2 ?c3 ?c4 ?c5
  case k6 => k_is
  case k7 => k_is
  case k8 => exact Nat.le_of_ble_eq_true rfl
  case k9 => exact BindsTo.of_eq rfl
  case kB => exact locs rfl
  case c5 => decide
  case c2 => exact rfl
  case c3 => exact rfl
  case c4 => exact rfl
  intro g' L3 h3 FG' F' N' B' X' T'
  repeat (first | (k_unfold; (try dsimp only)) | (k_end; wrow_close) | walk1 | (dsimp only; walk1) | (leave1; walk_say "STEP leave1"; try dsimp only))
  exact hQ _ _ (by assumption) (by assumption)
end
section
local macro_rules | `(tactic| k_mem) => `(tactic| assumption)
theorem Raised.sub {base : Heap} {l : List Env} {e dx : Addr} {t1 t2 : Tok} {news news' : List (Addr × Obj)} {h : Heap} (R : Raised base l e dx t1 t2 news h) (hs : ∀ p ∈ news', p ∈ news) : Raised base l e dx t1 t2 news' h :=
  let ⟨B, h1, h2, X⟩ := R
  ⟨B, h1, fun q hq => h2 q (hs q hq), X⟩
def ErC (base g : Heap) (l : List Env) (gs : Array GenState) (dr : Drawn) (os : OsState) (C : Addr) (v : Value) (s' : Shared) : Prop :=
  ∃ (e dx : Addr) (t1 t2 : Tok) (h : Heap) (tk : Nat) (oC : Obj) (m2 : Str → Option Value) (u : Value), v = .ref e ∧ s' = ⟨h, gs, dr, tk, os⟩ ∧ LCg.NsObj oC m2 ∧ m2 (Str.ofString "one") = some u ∧ g.get? C = none ∧ Raised base l e dx t1 t2 [(C, oC)] h ∧ g.UpToSlots h
theorem eqs_ret_odd {w : World} {mean : ExcName → Option Value} {mg mb : Str → Option Value} {base g : Heap} {L fa L' : Addr} {cd cdE : Value} {sc scE : Scope} (hsE : scE = eqScope) (hsc : sc = lawScope) {body : List Stmt} (hb : body = eqBody.drop 1)
    {hp : Heap} {gs : Array GenState} {dr : Drawn} {tk : Nat} {os : OsState} {Q : Flow → Shared → Prop} {E : Value → Shared → Prop}
    {newsA all : List (Addr × Obj)} {lv ga s2 l2 : Addr} {lone : Bool} {as : List Value} {names : List Str} {n' : Nat} {m1 : Str → Option Value}
    (KX : (hd.heap_39 w.params).In g) (T : Top hd.view_39 (looseW hd.view_39 []) mean mg mb g) (K0 : Below (callerA.deeper (lawEnv sc L fa cd)) base [lawEnv sc L fa cd] g) (Y : LA newsA lv as names lone true)
    (F : Fr g L' hp (fun y => if y = Str.ofString "some" then some (.ref s2) else if y = Str.ofString "letters" then some (.ref l2) else if y = Str.ofString "given" then some (.ref ga) else m1 y))
    (N : News g L' hp ((l2, listOf as.toArray n') :: (newsA ++ all)))
    (hE : ∀ (h' : Heap) (tk : Nat) (e dx : Addr) (t1 t2 : Tok), Raised base [envOf (Str.ofString "equations_given") scE L' 46 cdE, lawEnv sc L fa cd] e dx t1 t2 [] h' → g.UpToSlots h' → E (.ref e) ⟨h', gs, dr, tk, os⟩) :
    wpAny (model PySem.Challenge.rw_rh0020_01.row.prog w) ((callerA.deeper (lawEnv sc L fa cd)).deeper (envOf (Str.ofString "equations_given") scE L' 46 cdE)) (execs body (envOf (Str.ofString "equations_given") scE L' 46 cdE)) Q E ⟨hp, gs, dr, tk, os⟩ := by
  w_on
  obtain ⟨l, hl⟩ : ∃ l, l = [envOf (Str.ofString "equations_given") scE L' 46 cdE, lawEnv sc L fa cd] := ⟨_, rfl⟩
  (conv at hsE => rhs; whnf)
  (conv at hsc => rhs; whnf)
  (conv at hb => rhs; whnf)
  subst hsE hsc hb
  dsimp only [lawEnv] at *
  iterate 6 (first | (k_unfold; (try dsimp only)) | (k_end; wrow_close) | walk1 | (dsimp only; walk1) | (leave1; walk_say "STEP leave1"; try dsimp only))
  refine comp_raises (Er := ErC base g l gs dr os) (by rfl) (by decide) (by rfl) (by decide) (by rfl) Y.size.1 (Nat.le_trans Y.size.2 (by size_fits)) ?hit F N (.head _) ?R ?hE
  case hit =>
    iterate 1 (first | (k_unfold; (try dsimp only)) | (k_end; wrow_close) | walk1 | (dsimp only; walk1) | (leave1; walk_say "STEP leave1"; try dsimp only))
    exact ⟨rfl, rfl⟩
  case R =>
    intro i v I oI C oC D m2 ys h3 tk3 hi hC' hx' F' N'
    obtain ⟨a, o, rfl, hao, ho⟩ := Y.at i v hi
    iterate 7 (first | (k_unfold; (try dsimp only)) | (k_end; wrow_close) | walk1 | (dsimp only; walk1) | (leave1; walk_say "STEP leave1"; try dsimp only))
    refine ⟨KX.keeps F'.keep, ?_⟩
    rcases ho with ⟨hlt, u1, su, u2, rfl⟩ | ⟨su, ho⟩
    · refine ln_ok rfl rfl KX T K0 F' N' (.tail _ (.tail _ (.tail _ (.tail _ (List.mem_append_left _ hao))))) (fun h4 tk4 F4 N4 => ?_)
      exact ⟨hlt, _, _, rfl, F4, N4⟩
    · refine ln_raise rfl rfl KX T K0 F' N' (.tail _ (.tail _ (.tail _ (.tail _ (List.mem_append_left _ hao))))) ho (fun h4 tk4 e dx t1 t2 R4 k4 => ?_)
      exact ⟨e, dx, t1, t2, h4, tk4, oC, m2, _, rfl, rfl, hC', hx', (N' (C, oC) (.tail _ (.head _))).2.2, hl ▸ R4.sub (fun p hp => by rw [List.mem_singleton.mp hp]; exact .tail _ (.head _)), k4⟩
  case hE =>
    rintro C D v s' ⟨e, dx, t1, t2, h4, tk4, oC, m2, u, rfl, rfl, hoC, hm2, hgC, R4, k4⟩
    subst hl
    exact noted_raised (g := g) (Around.frames_deeper K0.stack) rfl R4 hoC hm2 hgC k4 fun h5 R5 k5 => hE h5 _ _ _ _ _ R5 k5
end
end
end Mine
namespace Mine
section
open PySem.Spec
theorem leave_raised {M : Model} {A : Around} {E : Value → Shared → Prop} {s' : Shared} {base g : Heap} {env : Env} {outer : List Env} {L e dx : Addr} {t1 t2 : Tok} {Q : Unit → Shared → Prop}
    (hfr : A.frames = some (env :: outer)) (hf : env.frame = some L) (R : Raised base (env :: outer) e dx t1 t2 [] s'.heap) (hg : g.UpToSlots s'.heap)
    (hQ : ∀ h', Raised base outer e dx t1 t2 [] h' → g.UpToSlots h' → Q () { s' with heap := h' }) : wpAny M A (leaving env (.ref e)) Q E s' := by
  obtain ⟨B, hB, hl, X⟩ := R
  exact fly_leave hfr hf X fun h' X' k' => hQ h' ⟨B, hB, hl, X'⟩ (hg.trans k')
theorem eqs_odd {w : World} {mean : ExcName → Option Value} {mg mb : Str → Option Value} {h₀ : Heap} {L fa : Addr} {cd : Value} {sc : Scope} (hsc : sc = lawScope)
    {hp : Heap} {gs : Array GenState} {dr : Drawn} {tk : Nat} {os : OsState} {Q E : Value → Shared → Prop} {m : Str → Option Value}
    {newsE newsA rE : List (Addr × Obj)} {ga ea sa lv : Addr} {lone : Bool} {es as : List Value} {names : List Str} {n0 : Nat}
    (KX : (hd.heap_39 w.params).In h₀) (T : Top hd.view_39 (looseW hd.view_39 []) mean mg mb h₀) (K0 : Below callerA h₀ [] h₀) (X : ES newsE ea sa es) (Y : LA newsA lv as names lone true)
    (F : Fr h₀ L hp m) (N : News h₀ L hp ((ga, listOf #[.ref ea, .ref lv] n0) :: (newsE ++ (newsA ++ rE))))
    (hE : ∀ (h' : Heap) (tk : Nat) (e dx : Addr) (t1 t2 : Tok), Raised h₀ [lawEnv sc L fa cd] e dx t1 t2 [] h' → Fr h₀ L h' m → E (.ref e) ⟨h', gs, dr, tk, os⟩) :
    wpAny (model PySem.Challenge.rw_rh0020_01.row.prog w) (callerA.deeper (lawEnv sc L fa cd)) (PySem.call (.ref 46) [.ref ga]) Q E ⟨hp, gs, dr, tk, os⟩ := by
  w_on
  (conv at hsc => rhs; whnf)
  subst hsc
  dsimp only [lawEnv] at *
  refine wpAny_call ?_
  refine' code_def K0 F KX N T rfl rfl rfl ?k6 ?k7 ?k8 ?k9 ?kB ?_ ?c2 ?c3 ?c4 ?c5
  case k6 => k_is
  case k7 => k_is
  case k8 => k_room
  case k9 => exact BindsTo.of_eq rfl
  case kB => exact locs rfl
  case c5 => decide
  case c2 => exact rfl
  case c3 => exact rfl
  case c4 => exact rfl
  intro g' L' h' FG' F' N' B' X' T'
  refine execs_mid1 _ (eqs_stmt1 (names := names) (lone := lone) (odd := true) rfl rfl X' T' B' X Y (fr_pick1 (x1 := Str.ofString "given") F' rfl) N') ?_
  rintro s' ⟨h, tk', m1, s2, l2, n, n', rfl, F2, N2⟩
  refine eqs_ret_odd (all := rE) (n' := n') rfl rfl rfl X' T' B' Y F2 (news_sub N2 fun p hp => ?_) fun h5 tk5 e dx t1 t2 R5 k5 => ?_
  · simp only [List.mem_cons, List.mem_append] at hp ⊢
    rcases hp with h | h | h <;> simp [h]
  · refine leave_raised (g := g') (Around.frames_deeper B'.stack) rfl R5 k5 fun h6 R6 k6 => hE h6 _ _ _ _ _ R6 (FG'.of_stays ?_ k6)
    obtain ⟨B, hB, _, X6⟩ := R6
    exact fun b o q => X6.1 b o (hB b o q)
end
end Mine
namespace Mine
section
open PySem.Spec Builtin Builtin.ObjectAttr
section
variable {prog : Program} {w : World} {A : Around} {E : Value → Shared → Prop} {h : Heap} {g : Array GenState} {d : Drawn} {t : Nat} {os : OsState}
variable {nm q : Str} {C N x dx : Addr} {bs : List Value} {hdct : Bool} {sn : List Str} {sub : List Value} {ab : Bool} {col : Option Bool} {dd : Option Addr} {k0 k1 k2 k3 k5 : Option Value} {newId : String}
  {mN mA : Str → Option Value} {name : Str} {v : Value} {o : Obj} {vs : Array Value}
theorem load_entry {tk : Tok} {Q : Fin → Shared → Prop} (hC : h.get? C = some (excClassObj nm q C N bs excBm true sn sub ab col dd k0 k1 k2 k3 k5 newId)) (hn : h.Ns N mN) (hna : mN name = none)
    (hB : typeLookup (.type "Exception") name = pure none) (hx : h.get? x = some o) (hc : o.cls = .ref C) (hd : o.data = .fields vs) (hdx : o.dict = some dx) (hns : h.Ns dx mA) (hv : mA name = some v) (hh : handedOut v = pure v) (hq : Q (.done (.ret v)) ⟨h, g, d, t, os⟩) :
    wpAny (model prog w) A (Builtin.«object.__getattribute__» ⟨[.ref x, .str name tk], []⟩) Q E ⟨h, g, d, t, os⟩ := by
  unfold Builtin.«object.__getattribute__»
  repeat (any_goals (first | assumption | (with_reducible refine wpAny_loadPart_at hx ?_; rw [hc]) | (with_reducible refine wpAny_typeLookup_exc hC hn PySem.F.attrBase_Exception.mro hB ?_; rw [hna]) | wp_step))
  rw [hd]
  dsimp only
  unfold instanceDict
  repeat (any_goals (first | assumption | (with_reducible refine wpAny_loadPart_at hx ?_; rw [hc]) | with_reducible refine wpAny_loadPart_at hC ?_ | wp_step))
  rw [hdx]
  unfold inDict
  repeat (any_goals (first | assumption | (with_reducible refine wpAny_nsGet hns ?_; rw [hv]) | wp_step))
theorem load_fail {expr : Bool} {Q : Value → Shared → Prop} (hC : h.get? C = some (excClassObj nm q C N bs excBm true sn sub ab col dd k0 k1 k2 k3 k5 newId)) (hn : h.Ns N mN) (n1 : mN "__getattribute__" = none) (n2 : mN "__getattr__" = none) (hna : mN name = none)
    (hB : typeLookup (.type "Exception") name = pure none) (hx : h.get? x = some o) (hc : o.cls = .ref C) (hd : o.data = .fields vs) (hdx : o.dict = some dx) (hns : h.Ns dx mA) (hv : mA name = some v) (hh : handedOut v = pure v) (hq : Q v ⟨h, g, d, t + 1, os⟩) :
    wpAny (model prog w) A (getAttr (.ref x) name expr) Q E ⟨h, g, d, t, os⟩ := by
  have FB := PySem.F.attrBase_Exception
  have f3 := FB.ga.bind (.ref x)
  have hx0 : (expr && onTheHeap (Value.builtin "BaseException.__getattribute__")) = false := by cases expr <;> rfl
  have hx2 : (Value.builtin "BaseException.__getattribute__" == Value.builtin "object.__getattribute__") = false := by decide +kernel
  have hx1 : (onTheHeap (Value.ref C) && Value.builtin "BaseException.__getattribute__" == Value.builtin "object.__getattribute__") = false := by rw [hx2]; rfl
  unfold getAttr getAttrBy
  repeat (any_goals (first | assumption | (with_reducible refine wpAny_loadPart_at hx ?_; rw [hc]) | (with_reducible refine wpAny_typeLookup_exc hC hn FB.mro FB.ga.lookup ?_; rw [n1]) | (with_reducible refine wpAny_typeLookup_exc hC hn FB.mro FB.noGetattr ?_; rw [n2]) | wp_step))
  refine codeAny_call_builtin FB.ga.plain PySem.F.entry_bexc_ga (wpAny_check_ga_own FB hC .base hx hc (load_entry hC hn hna hB hx hc hd hdx hns hv hh ?_))
  repeat (any_goals (first | assumption | wp_step))
end
end
end Mine
namespace Mine
section
open PySem.Spec
section
variable {prog : Program} {w : World} {A : Around} {E : Value → Shared → Prop} {env : Env}
abbrev mFail (t1 t2 : Tok) : Str → Option Value := fun y => if y = Str.ofString "text" then some (.str (Str.ofString "a letter is wanted") t2) else if y = Str.ofString "kind" then some (.str (Str.ofString "domain") t1) else none
theorem caught_fail {h₀ : Heap} {L e dx : Addr} {t1 t2 : Tok} {m : Str → Option Value} {hp : Heap} {gs : Array GenState} {dr : Drawn} {tk : Nat} {os : OsState} {t : PySem.Expr} {n : Str} {b₀ : Stmt} {suite : List Stmt} {pos : Pos} {rest : List ExceptHandler} {Q : Flow → Shared → Prop} {u : Value}
    (hfr : A.frames = some [env]) (hf : env.frame = some L) (hloc : env.locals = L) (hkf : (env.scope.kind == .class || (env.scope.kind == .module && env.locals != env.globals)) = false) (hn : env.kindOf n = some .local)
    (R : Raised h₀ [env] e dx t1 t2 [] hp) (F : Fr h₀ L hp m) (hdue : m (Str.ofString "due") = some u)
    (hC : h₀.get? 31 = some (excClassObj "CasFail" "CasFail" 31 30 [.type "Exception"] [.type "Exception", .type "BaseException", .type "object"] true [] [] false none none (some (.ref 15)) none (some (.str "CasFail" 189)) (some (.str "CasFail" 197)) (some (.bool true)) "Exception.__new__"))
    (hev : ∀ h', Fr h₀ L h' m → wpAny (model prog w) (A.mark (some (.ref e))) (eval t env) (fun c s₁ => c = .ref 31 ∧ s₁ = ⟨h', gs, dr, tk, os⟩) (notedBy (model prog w) (A.mark (some (.ref e))) env (cameBackBy (model prog w) A env E)) ⟨h', gs, dr, tk, os⟩)
    (k : ∀ h' oe vs, Fr h₀ L h' (fun y => if y = n then some (.ref e) else m y) → h'.get? e = some oe → oe.cls = .ref 31 → oe.data = .fields vs → oe.dict = some dx → h'.Ns dx (mFail t1 t2) →
      wpAny (model prog w) (A.mark (some (.ref e))) (execs (b₀ :: suite) env)
        (fun f s₄ => wpAny (model prog w) A (do bindName env n .none; unbindBehindTheSuite env n pos) (fun _ s₅ => Q f s₅) E s₄)
        (AsSuiteRaised (model prog w) (A.mark (some (.ref e))) env n pos (notedBy (model prog w) (A.mark (some (.ref e))) env (cameBackBy (model prog w) A env E))) ⟨h', gs, dr, tk + 1, os⟩) :
    wpAny (model prog w) A (noteFrame (.ref e) env) (fun _ s₂ => wpAny (model prog w) A (setFlight (.ref e) none) (fun _ s₃ =>
      wpAny (model prog w) A (handleBy (.ref e) env (.ExceptHandler (some t) (some n) (b₀ :: suite) pos :: rest)) Q E s₃) E s₂) E ⟨hp, gs, dr, tk, os⟩ := by
  obtain ⟨B, hB, _, X⟩ := R
  refine fly_note hfr hf X fun h1 X1 k1 => ?_
  refine fly_set X1 rfl fun h2 X2 k2 => ?_
  have st : ∀ h', Fly B [env] e 31 dx (mFail t1 t2) true h' → h₀.StaysIn h' := fun h' x b o q => x.1 b o (hB b o q)
  have F2 := F.of_stays (st _ X2) (k1.trans k2)
  refine wpAny_handleBy_cons (codeAny_handlers_test (wpAny_mono (hev h2 F2) (fun c s₁ h₁ => ?_) fun _ _ y => y)) (by intro q; cases q)
  obtain ⟨rfl, rfl⟩ := h₁
  obtain ⟨_, _, _, oe, vs, he, hcls, _⟩ := id X2
  refine wpAny_excMatches_sub_self (st _ X2 _ _ hC) he hcls (by decide) (codeAny_handlers_suite_as ?_)
  refine fly_set X2 rfl fun h3 X3 k3 => ?_
  have F3 := F2.of_stays (st _ X3) k3
  refine wpAny_storeName_local hn (hloc ▸ F3.ns) (fun h4 hn4 hs4 => ?_) hkf
  rw [hloc] at hn4 hs4
  have F4 := F3.set hn4 hs4
  obtain ⟨_, _, _, oe, vs, he, hcls, hd, hdx, hde, hns, _⟩ := X3
  have heL : e ≠ L := fun z => by
    obtain ⟨o, es, ep, q1, q2, _⟩ := F3.ns
    rw [← z, he] at q1
    injection q1 with q1
    subst q1
    rw [hd] at q2; cases q2
  have hdL : dx ≠ L := fun z => by
    obtain ⟨o, es, ep, q1, q2, -, q3⟩ := F3.ns
    obtain ⟨o', es', ep', r1, r2, -, -, r3⟩ := hns
    rw [z, q1] at r1
    injection r1 with r1
    subst r1
    rw [q2] at r2
    injection r2 with r2
    subst r2
    have := (q3 (Str.ofString "due")).symm.trans (r3 (Str.ofString "due"))
    rw [hdue] at this
    dsimp only at this
    rw [if_neg (by decide), if_neg (by decide)] at this
    cases this
  exact k h4 oe vs F4 ((hs4.2 e heL).trans he) hcls hd hdx (hns.ns.sameBut hs4 hdL)
end
end
end Mine
namespace Mine
section
open PySem.Spec
theorem eqs_cutO {w : World} {mean : ExcName → Option Value} {mg mb : Str → Option Value} {h₀ : Heap} {L fa : Addr} {cd : Value} {sc : Scope}
    {hp : Heap} {gs : Array GenState} {dr : Drawn} {tk : Nat} {os : OsState} {Q E : Value → Shared → Prop} {m : Str → Option Value}
    {newsE newsA news : List (Addr × Obj)} {ga ea sa lv : Addr} {lone : Bool} {es as : List Value} {names : List Str} {n0 : Nat}
    (KX : (hd.heap_39 w.params).In h₀) (T : Top hd.view_39 (looseW hd.view_39 []) mean mg mb h₀) (K0 : Below callerA h₀ [] h₀) (X : ES newsE ea sa es)
    (F : Fr h₀ L hp m) (N : News h₀ L hp news) (hga : (ga, listOf #[.ref ea, .ref lv] n0) ∈ news) (hE : ∀ p ∈ newsE, p ∈ news) (Y : LA newsA lv as names lone true) (hA : ∀ p ∈ newsA, p ∈ news) (hsc : sc = lawScope)
    (k : ∀ (h' : Heap) (tk : Nat) (e dx : Addr) (t1 t2 : Tok), Raised h₀ [envOfC (Str.ofString "law") sc L fa cd] e dx t1 t2 [] h' → Fr h₀ L h' m → E (.ref e) ⟨h', gs, dr, tk, os⟩) :
    wpAny (model PySem.Challenge.rw_rh0020_01.row.prog w) (callerA.deeper (envOfC (Str.ofString "law") sc L fa cd)) (PySem.call (.ref 46) [.ref ga]) Q E ⟨hp, gs, dr, tk, os⟩ := by
  refine eqs_odd (newsE := newsE) (newsA := newsA) (rE := news) (n0 := n0) hsc KX T K0 X Y F (fun p hp => ?_) k
  rcases List.mem_cons.mp hp with rfl | hp
  · exact N _ hga
  · rcases List.mem_append.mp hp with hp | hp
    · exact N _ (hE p hp)
    · rcases List.mem_append.mp hp with hp | hp
      · exact N _ (hA p hp)
      · exact N _ hp
theorem fail_ns2 {w : World} {h₀ : Heap} (KX : (hd.heap_39 w.params).In h₀) : ∃ mN, h₀.Ns 30 mN ∧ mN "__getattribute__" = none ∧ mN "__getattr__" = none ∧ mN (Str.ofString "kind") = none :=
  ⟨fun n => nsFind (match (hd.heap_39 w.params).lookup 30 with | some o => (match o.data with | .dict es _ => es | _ => #[]) | none => #[]) n, ⟨_, _, _, KX 30 _ rfl, rfl, strKeys_of rfl, fun n => rfl⟩, rfl, rfl, rfl⟩
section
local macro_rules | `(tactic| k_all) => `(tactic| first | (refine allLt_ne ?_; simp only [*]; done) | (refine off1_ne ?_; simp only [*]; done))
local macro_rules | `(tactic| k_all) => `(tactic| assumption)
local macro_rules | `(tactic| k_mem) => `(tactic| assumption)
local macro_rules | `(tactic| ktr_unf) => `(tactic| repeat (first | assumption | refine up_tail ?_))
local macro_rules | `(tactic| walk_at "subscriptTail Name Constant ref int") => `(tactic| (k_here; (with_reducible show wpAny _ _ (subscriptTail _ _ (Value.ref _) (Value.int _ _)) _ _ _); k_dflt (
  (refine' item_ledger ?N ?m ?a ?b ?x ?_ ?hs; (case N => with_reducible assumption); (case m => k_mem); (case a => decide); (case b => decide); (case x => rfl); (case hs => with_unfolding_all rfl)))))
local macro_rules | `(tactic| walk_at "call ref") => `(tactic| (
  k_here
  (with_reducible show wpAny _ _ (PySem.call (Value.ref 46) [Value.ref _]) _ _ _)
  k_dflt (
    first
    | (refine' eqs_cutO ?hX ?hT ?hK ?hS ?hF ?hN ?hga ?hE (LA.lone ?hY) ?hA rfl ?_; (case hX => assumption); (case hT => assumption); (case hK => assumption); (case hS => assumption); (case hF => k_asm); (case hN => k_asm); (case hga => k_mem); (case hE => ktr_unf); (case hY => assumption); (case hA => lcg_sub))
    | (refine' eqs_cutO ?hX ?hT ?hK ?hS ?hF ?hN ?hga ?hE (LA.m1 ?hY) ?hA rfl ?_; (case hX => assumption); (case hT => assumption); (case hK => assumption); (case hS => assumption); (case hF => k_asm); (case hN => k_asm); (case hga => k_mem); (case hE => ktr_unf); (case hY => assumption); (case hA => lcg_sub))
    | (refine' eqs_cutO ?hX ?hT ?hK ?hS ?hF ?hN ?hga ?hE (LA.m2 ?hY) ?hA rfl ?_; (case hX => assumption); (case hT => assumption); (case hK => assumption); (case hS => assumption); (case hF => k_asm); (case hN => k_asm); (case hga => k_mem); (case hE => ktr_unf); (case hY => assumption); (case hA => lcg_sub))
    | (refine' eqs_cutO ?hX ?hT ?hK ?hS ?hF ?hN ?hga ?hE (LA.m3 ?hY) ?hA rfl ?_; (case hX => assumption); (case hT => assumption); (case hK => assumption); (case hS => assumption); (case hF => k_asm); (case hN => k_asm); (case hga => k_mem); (case hE => ktr_unf); (case hY => assumption); (case hA => lcg_sub))
    (intro h' tk' e' dx' t1' t2' R' F'; (try dsimp only)))))
theorem segF1 {w : World} {mean : ExcName → Option Value} {mg mb : Str → Option Value} {h₀ : Heap} {L fa : Addr} {cd : Value} {sc : Scope} (hsc : sc = lawScope) {body : List Stmt} (hb : body = lawBody.drop 12)
    {m1 : Str → Option Value} {hp : Heap} {gs : Array GenState} {dr : Drawn} {tk : Nat} {os : OsState} {E : Value → Shared → Prop}
    {newsE newsL all : List (Addr × Obj)} {an al ea sa : Addr} {lone : Bool} {es : List Value} {td : Tok}
    (KX : (hd.heap_39 w.params).In h₀) (T : Top hd.view_39 (looseW hd.view_39 []) mean mg mb h₀) (K0 : Below callerA h₀ [] h₀) (X : ES newsE ea sa es) (Y : LS newsL an al lone true)
    (hE : ∀ p ∈ newsE, p ∈ all)
    (F : Fr h₀ L hp (fun y => if y = Str.ofString "due" then some (.str (Str.ofString "domain") td) else if y = Str.ofString "equations" then some (.ref ea) else if y = Str.ofString "letters" then some (.ref al) else if y = Str.ofString "is_lone" then some (.bool lone) else m1 y))
    (N : News h₀ L hp (newsL ++ all)) :
    wpAny (model PySem.Challenge.rw_rh0020_01.row.prog w) (callerA.deeper (lawEnv sc L fa cd)) (execs body (lawEnv sc L fa cd)) (FOut h₀ L gs dr os) E ⟨hp, gs, dr, tk, os⟩ := by
  w_on
  (conv at hsc => rhs; whnf)
  (conv at hb => rhs; whnf)
  subst hsc hb
  dsimp only [lawEnv] at *
  cases Y
  · simp only [List.cons_append, List.nil_append] at N
    cases lone
    · repeat (first | (k_unfold; (try dsimp only)) | (k_end; wrow_close) | walk1 | (dsimp only; walk1) | (leave1; walk_say "STEP leave1"; try dsimp only))
      rename Raised _ _ _ _ _ _ _ _ => hR
      rename Fr _ _ _ _ => hF
      refine caught_fail rfl rfl rfl rfl rfl hR hF rfl (fail_cls KX) (fun h5 F5 => ?_) (fun h5 oe vs F5 he hcls hd hdx hns => ?_)
      · have N5 : News h₀ L h5 [] := News.nil
        clear hF
        iterate 1 (first | (k_unfold; (try dsimp only)) | (k_end; wrow_close) | walk1 | (dsimp only; walk1) | (leave1; walk_say "STEP leave1"; try dsimp only))
        exact ⟨rfl, rfl⟩
      · have N5 : News h₀ L h5 [] := News.nil
        clear hF hR
        iterate 4 (first | (k_unfold; (try dsimp only)) | (k_end; wrow_close) | walk1 | (dsimp only; walk1) | (leave1; walk_say "STEP leave1"; try dsimp only))
        obtain ⟨mN, hn, n1, n2, n3⟩ := fail_ns2 (KX.keeps F5.keep)
        refine load_fail (fail_cls (KX.keeps F5.keep)) hn n1 n2 n3 (by rw [typeLookup_type, builtinLookup_eq_fast]; kernel_rfl) he hcls hd hdx hns rfl (handedOut_of rfl) ?_
        dsimp only
        iterate 3 (first | (k_unfold; (try dsimp only)) | (k_end; wrow_close) | walk1 | (dsimp only; walk1) | (leave1; walk_say "STEP leave1"; try dsimp only))
        rename Fr _ _ _ _ => F6
        refine wpAny_nameGoes_keeps rfl F6.ns rfl (fun h7 v7 hn7 hs7 => ?_)
        have F7 := F6.set hn7 hs7
        have N7 : News h₀ L h7 [] := News.nil
        clear F6
        repeat (first | (k_unfold; (try dsimp only)) | (k_end; wrow_close) | walk1 | (dsimp only; walk1) | (leave1; walk_say "STEP leave1"; try dsimp only))
        exact ⟨congrArg Flow.ret (congrArg Value.bool (beq_self_eq_true _)), _, _, _, rfl, F7⟩
    · repeat (first | (k_unfold; (try dsimp only)) | (k_end; wrow_close) | walk1 | (dsimp only; walk1) | (leave1; walk_say "STEP leave1"; try dsimp only))
      rename Raised _ _ _ _ _ _ _ _ => hR
      rename Fr _ _ _ _ => hF
      refine caught_fail rfl rfl rfl rfl rfl hR hF rfl (fail_cls KX) (fun h5 F5 => ?_) (fun h5 oe vs F5 he hcls hd hdx hns => ?_)
      · have N5 : News h₀ L h5 [] := News.nil
        clear hF
        iterate 1 (first | (k_unfold; (try dsimp only)) | (k_end; wrow_close) | walk1 | (dsimp only; walk1) | (leave1; walk_say "STEP leave1"; try dsimp only))
        exact ⟨rfl, rfl⟩
      · have N5 : News h₀ L h5 [] := News.nil
        clear hF hR
        iterate 4 (first | (k_unfold; (try dsimp only)) | (k_end; wrow_close) | walk1 | (dsimp only; walk1) | (leave1; walk_say "STEP leave1"; try dsimp only))
        obtain ⟨mN, hn, n1, n2, n3⟩ := fail_ns2 (KX.keeps F5.keep)
        refine load_fail (fail_cls (KX.keeps F5.keep)) hn n1 n2 n3 (by rw [typeLookup_type, builtinLookup_eq_fast]; kernel_rfl) he hcls hd hdx hns rfl (handedOut_of rfl) ?_
        dsimp only
        iterate 3 (first | (k_unfold; (try dsimp only)) | (k_end; wrow_close) | walk1 | (dsimp only; walk1) | (leave1; walk_say "STEP leave1"; try dsimp only))
        rename Fr _ _ _ _ => F6
        refine wpAny_nameGoes_keeps rfl F6.ns rfl (fun h7 v7 hn7 hs7 => ?_)
        have F7 := F6.set hn7 hs7
        have N7 : News h₀ L h7 [] := News.nil
        clear F6
        repeat (first | (k_unfold; (try dsimp only)) | (k_end; wrow_close) | walk1 | (dsimp only; walk1) | (leave1; walk_say "STEP leave1"; try dsimp only))
        exact ⟨congrArg Flow.ret (congrArg Value.bool (beq_self_eq_true _)), _, _, _, rfl, F7⟩
  · subst_vars
    simp only [List.cons_append, List.nil_append] at N
    repeat (first | (k_unfold; (try dsimp only)) | (k_end; wrow_close) | walk1 | (dsimp only; walk1) | (leave1; walk_say "STEP leave1"; try dsimp only))
    rename Raised _ _ _ _ _ _ _ _ => hR
    rename Fr _ _ _ _ => hF
    refine caught_fail rfl rfl rfl rfl rfl hR hF rfl (fail_cls KX) (fun h5 F5 => ?_) (fun h5 oe vs F5 he hcls hd hdx hns => ?_)
    · have N5 : News h₀ L h5 [] := News.nil
      clear hF
      iterate 1 (first | (k_unfold; (try dsimp only)) | (k_end; wrow_close) | walk1 | (dsimp only; walk1) | (leave1; walk_say "STEP leave1"; try dsimp only))
      exact ⟨rfl, rfl⟩
    · have N5 : News h₀ L h5 [] := News.nil
      clear hF hR
      iterate 4 (first | (k_unfold; (try dsimp only)) | (k_end; wrow_close) | walk1 | (dsimp only; walk1) | (leave1; walk_say "STEP leave1"; try dsimp only))
      obtain ⟨mN, hn, n1, n2, n3⟩ := fail_ns2 (KX.keeps F5.keep)
      refine load_fail (fail_cls (KX.keeps F5.keep)) hn n1 n2 n3 (by rw [typeLookup_type, builtinLookup_eq_fast]; kernel_rfl) he hcls hd hdx hns rfl (handedOut_of rfl) ?_
      dsimp only
      iterate 3 (first | (k_unfold; (try dsimp only)) | (k_end; wrow_close) | walk1 | (dsimp only; walk1) | (leave1; walk_say "STEP leave1"; try dsimp only))
      rename Fr _ _ _ _ => F6
      refine wpAny_nameGoes_keeps rfl F6.ns rfl (fun h7 v7 hn7 hs7 => ?_)
      have F7 := F6.set hn7 hs7
      have N7 : News h₀ L h7 [] := News.nil
      clear F6
      repeat (first | (k_unfold; (try dsimp only)) | (k_end; wrow_close) | walk1 | (dsimp only; walk1) | (leave1; walk_say "STEP leave1"; try dsimp only))
      exact ⟨congrArg Flow.ret (congrArg Value.bool (beq_self_eq_true _)), _, _, _, rfl, F7⟩
  · subst_vars
    simp only [List.cons_append, List.nil_append] at N
    repeat (first | (k_unfold; (try dsimp only)) | (k_end; wrow_close) | walk1 | (dsimp only; walk1) | (leave1; walk_say "STEP leave1"; try dsimp only))
    rename Raised _ _ _ _ _ _ _ _ => hR
    rename Fr _ _ _ _ => hF
    refine caught_fail rfl rfl rfl rfl rfl hR hF rfl (fail_cls KX) (fun h5 F5 => ?_) (fun h5 oe vs F5 he hcls hd hdx hns => ?_)
    · have N5 : News h₀ L h5 [] := News.nil
      clear hF
      iterate 1 (first | (k_unfold; (try dsimp only)) | (k_end; wrow_close) | walk1 | (dsimp only; walk1) | (leave1; walk_say "STEP leave1"; try dsimp only))
      exact ⟨rfl, rfl⟩
    · have N5 : News h₀ L h5 [] := News.nil
      clear hF hR
      iterate 4 (first | (k_unfold; (try dsimp only)) | (k_end; wrow_close) | walk1 | (dsimp only; walk1) | (leave1; walk_say "STEP leave1"; try dsimp only))
      obtain ⟨mN, hn, n1, n2, n3⟩ := fail_ns2 (KX.keeps F5.keep)
      refine load_fail (fail_cls (KX.keeps F5.keep)) hn n1 n2 n3 (by rw [typeLookup_type, builtinLookup_eq_fast]; kernel_rfl) he hcls hd hdx hns rfl (handedOut_of rfl) ?_
      dsimp only
      iterate 3 (first | (k_unfold; (try dsimp only)) | (k_end; wrow_close) | walk1 | (dsimp only; walk1) | (leave1; walk_say "STEP leave1"; try dsimp only))
      rename Fr _ _ _ _ => F6
      refine wpAny_nameGoes_keeps rfl F6.ns rfl (fun h7 v7 hn7 hs7 => ?_)
      have F7 := F6.set hn7 hs7
      have N7 : News h₀ L h7 [] := News.nil
      clear F6
      repeat (first | (k_unfold; (try dsimp only)) | (k_end; wrow_close) | walk1 | (dsimp only; walk1) | (leave1; walk_say "STEP leave1"; try dsimp only))
      exact ⟨congrArg Flow.ret (congrArg Value.bool (beq_self_eq_true _)), _, _, _, rfl, F7⟩
end
end
end Mine
namespace Mine
section
open PySem.Spec
theorem cut6 {α : Type} (l : List α) : l = l.take 3 ++ ((l.drop 3).take 4 ++ ((l.drop 7).take 3 ++ ((l.drop 10).take 1 ++ ((l.drop 11).take 1 ++ l.drop 12)))) := by
  rw [show l.drop 12 = (l.drop 11).drop 1 from by rw [List.drop_drop], List.take_append_drop, show l.drop 11 = (l.drop 10).drop 1 from by rw [List.drop_drop], List.take_append_drop,
    show l.drop 10 = (l.drop 7).drop 3 from by rw [List.drop_drop], List.take_append_drop, show l.drop 7 = (l.drop 3).drop 4 from by rw [List.drop_drop], List.take_append_drop, List.take_append_drop]
theorem news_swap {h₀ h : Heap} {L : Addr} {a b : List (Addr × Obj)} (N : News h₀ L h (a ++ b)) : News h₀ L h (b ++ a) := fun p hp => N p (by
  rcases List.mem_append.mp hp with hp | hp
  · exact List.mem_append_right _ hp
  · exact List.mem_append_left _ hp)
theorem law_all {w : World} {mean : ExcName → Option Value} {mg mb : Str → Option Value} {h₀ : Heap} {L fa sa : Addr} {cd : Value} {sc : Scope} (hsc : sc = lawScope) {body : List Stmt} (hb : body = lawBody)
    {m0 : Str → Option Value} {vs : List Value} {ns : List Int} {oF oM : Obj} {hp : Heap} {gs : Array GenState} {dr : Drawn} {tk : Nat} {os : OsState} {E : Value → Shared → Prop}
    (KX : (hd.heap_39 w.params).In h₀) (T : Top hd.view_39 (looseW hd.view_39 []) mean mg mb h₀) (K0 : Below callerA h₀ [] h₀)
    (hL : h₀.IsList sa vs.toArray) (hI : IntsAre vs ns) (hlen : ns.length ≤ 63)
    (F : Fr h₀ L hp m0) (hs : m0 (Str.ofString "script") = some (.ref sa)) (dF : oF.data = .cell none) (dM : oM.data = .cell none) (N : News h₀ L hp [(L + 1 + 1, oF), (L + 1, oM)]) :
    wpAny (model PySem.Challenge.rw_rh0020_01.row.prog w) (callerA.deeper (lawEnv sc L fa cd)) (execs body (lawEnv sc L fa cd)) (FOut h₀ L gs dr os) E ⟨hp, gs, dr, tk, os⟩ := by
  rw [hb, cut6 lawBody]
  refine execs_app _ (segA1 hsc rfl KX T K0 hL hI hlen (fr_pick1 F hs) dF dM N) ?_
  clear N F hs dF dM hI hlen hL
  rintro s' ⟨h, tk, m1, b, l, xa, c, many, t0, tm, vs, ns, ep, lone, rest, rfl, F, N, hI, hlen, hc, hbl, hr, hm, hM⟩
  refine execs_app _ (segA2 hsc rfl KX T K0 hI hlen hc hbl hr F N) ?_
  clear N F
  rintro s' ⟨h, tk, m1, an, al, odd, newsL, rfl, F, N, Y⟩
  obtain ⟨oF, oM, f, tf, mn, e0, n1, e1, n2, n3, e2, xy, e3, x1, ya, t0, t1, t2, t3, t4, t5, t6, t7, t8, t9, t10, t11, t12, t13, t14, t15, t16, dF, dM, hf, rfl⟩ := hM
  refine execs_app _ (segB hsc rfl KX T K0 hm hf dF dM F (news_swap N)) ?_
  clear N F
  rintro s' ⟨h, tk, m1, ea, sa', es, ds, newsE, rfl, F, N, X, Z⟩
  refine execs_app _ (segD1 hsc rfl KX T K0 X F N) ?_
  clear N F
  rintro s' ⟨h, tk, m1, da, rfl, F, N⟩
  generalize hrE : ([(mn, listOf #[.ref e0, .ref e1, .ref e2, .ref e3] 0), (e0, tupO [.str (Str.ofString "eq") t0, .ref xa, .ref n1]), (n1, tupO [.str (Str.ofString "num") t1, .int 1 t2, .int 1 t3]), (e1, tupO [.str (Str.ofString "eq") t4, .ref n2, .ref n3]), (n2, tupO [.str (Str.ofString "num") t5, .int 0 t6, .int 1 t7]), (n3, tupO [.str (Str.ofString "num") t8, .int 0 t9, .int 1 t10]), (e2, tupO [.str (Str.ofString "sum") t11, .ref xy]), (xy, tupO [.ref xa, .ref ya]), (e3, tupO [.str (Str.ofString "list") t12, .ref x1]), (x1, tupO [.ref xa]), (xa, tupO [.str (Str.ofString "sym") t13, .str (Str.ofString "x") t14]), (ya, tupO [.str (Str.ofString "sym") t15, .str (Str.ofString "y") t16])] : List (Addr × Obj)) = rE at *
  refine execs_app _ (segD2 (newsL := newsL) (all := (da, tupO [.ref sa', .ref an, .bool (decide (es.length = 1) && lone)]) :: (newsE ++ rE)) (da := da) hsc rfl KX T K0 Y F (news_sub N fun p hp => ?_)) ?_
  · simp only [List.mem_cons, List.mem_append] at hp ⊢
    rcases hp with h | h | h | h <;> simp [h]
  clear N F
  rintro s' ⟨h, tk, m1, vd, rfl, F, N, hD⟩
  obtain ⟨nS, hS⟩ := X.sa_mem
  cases hD with
  | no => exact segF0 (newsE := newsE) (newsL := newsL) (rE := rE) (all := newsE ++ rE) (nS := nS) hsc rfl KX T K0 X Y Z (fun p hp => List.mem_append_left _ hp) (fun p hp => List.mem_append_right _ hp) (List.mem_append_left _ hS) F (news_sub N fun p hp => by
      simp only [List.mem_cons, List.mem_append] at hp ⊢
      rcases hp with h | h | h | h <;> simp [h])
  | yes t => exact segF1 (newsE := newsE) (newsL := newsL) hsc rfl KX T K0 X Y (fun p hp => .tail _ (List.mem_append_left _ hp)) F N
end
end Mine
set_option maxHeartbeats 8000000 in
theorem PySem.Challenge.cw_rh0020_01_holds : PySem.Challenge.rw_rh0020_01.Holds := by
  refine Mine.hd ?_
  k_fill
  k_go0
  all_goals try k_fold
  rename News _ _ _ _ => hN
  rename Fr _ _ _ _ => hF
  refine wpAny_mono (Mine.law_all (by rfl) (by rfl) (by assumption) (by assumption) (by assumption) (by assumption) (by assumption) ?hlen hF (by rfl) (by assumption) (by assumption) hN) (fun fl s' hq => ?_) fun _ _ e => e
  case hlen => omega
  obtain ⟨rfl, h', tk', m', rfl, F'⟩ := hq
  wrow_close
