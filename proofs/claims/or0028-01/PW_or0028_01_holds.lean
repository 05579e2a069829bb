import PyProof.Rows.All
import Wide.All
import OpenK.AllK
import Wide.FinOn
import PySem.Challenge.RW_or0028_01
section
open PySem PySem.W PyProof.Rows
set_option Elab.async false
set_option maxRecDepth 100000
set_option maxHeartbeats 8000000
namespace Mine
open_top tp for PySem.Challenge.rw_or0028_01
end Mine

end
section
open PySem PySem.W PySem.Calls PySem.Spec PyProof.Rows
set_option Elab.async false
set_option maxRecDepth 100000
set_option maxHeartbeats 8000000
namespace Mine
def Apart (tl news : List (Addr × Obj)) : Prop := ∀ q ∈ news, ∀ p ∈ tl, q.1 ≠ p.1
theorem Apart.nil {news : List (Addr × Obj)} : Apart [] news := fun _ _ _ h => nomatch h
theorem Apart.cons {a : Addr} {o : Obj} {tl news : List (Addr × Obj)} (h : Apart tl news) (l : ∀ p ∈ news, p.1 < a) : Apart ((a, o) :: tl) news := fun q hq p hp => by
  rcases List.mem_cons.mp hp with rfl | hp
  · exact Nat.ne_of_lt (l q hq)
  · exact h q hq p hp
theorem Apart.cons' {a : Addr} {o : Obj} {tl news : List (Addr × Obj)} (h : Apart tl news) (l : ∀ p ∈ news, p.1 ≠ a) : Apart ((a, o) :: tl) news := fun q hq p hp => by
  rcases List.mem_cons.mp hp with rfl | hp
  · exact l q hq
  · exact h q hq p hp
theorem Apart.append {t1 t2 news : List (Addr × Obj)} (h1 : Apart t1 news) (h2 : Apart t2 news) : Apart (t1 ++ t2) news := fun q hq p hp =>
  (List.mem_append.mp hp).elim (h1 q hq p) (h2 q hq p)
theorem Apart.sub {t1 t2 n1 n2 : List (Addr × Obj)} (h : Apart t1 n1) (ht : ∀ p ∈ t2, p ∈ t1) (hn : ∀ p ∈ n2, p ∈ n1) : Apart t2 n2 := fun q hq p hp => h q (hn q hq) p (ht p hp)
def Tells2 (w : World) (K : Frag) (p : Program) (loose : List Str) (mean : ExcName → Option Value) (mg mb : Str → Option Value) (f : Value) (args : List Value) (news : List (Addr × Obj)) (cost : Nat) (Out : List (Addr × Obj) → Value → Prop) : Prop :=
  ∀ (dp un : Nat) (gd : Option (List Code)) (cn : Str) (cs : Scope) (a : Addr) (ccd : Value) (cl : List (Str × Addr)) (outer : List Env) (A₀ : Around) (base h₀ : Heap) (L : Addr) (m : Str → Option Value) (s : Shared)
    (Q E : Value → Shared → Prop),
    Below A₀ base outer h₀ → Fr h₀ L s.heap m → K.In h₀ → News h₀ L s.heap news → Top p loose mean mg mb h₀ → cs.kind = .function → dp + cost < recursionLimit → un + 8 * cost < cLine →
    (∀ r tl h' tk', Fr h₀ L h' m → News h₀ L h' (tl ++ news) → Apart tl news → Out tl r → Q r { s with heap := h', toks := tk' }) →
    wpAny (model PySem.Challenge.rw_or0028_01.row.prog w) (ktrTop dp un gd cn cs L a ccd cl outer) (call f args) Q E s
theorem Tells2.use {w : World} {K : Frag} {p : Program} {loose : List Str} {mean : ExcName → Option Value} {mg mb : Str → Option Value} {f : Value} {args : List Value} {news : List (Addr × Obj)} {cost : Nat} {Out : List (Addr × Obj) → Value → Prop}
    {dp un : Nat} {gd : Option (List Code)} {cn : Str} {cs : Scope} {a : Addr} {ccd : Value} {cl : List (Str × Addr)} {outer : List Env} {A₀ : Around} {base h₀ : Heap} {L : Addr} {m : Str → Option Value} {s : Shared}
    {Q E : Value → Shared → Prop} (C : Tells2 w K p loose mean mg mb f args news cost Out) (B : Below A₀ base outer h₀) (F : Fr h₀ L s.heap m) (X : K.In h₀) (N : News h₀ L s.heap news) (T : Top p loose mean mg mb h₀) (hk : cs.kind = .function)
    (hd : dp + cost < recursionLimit) (hu : un + 8 * cost < cLine)
    (ret : ∀ r tl h' tk', Fr h₀ L h' m → News h₀ L h' (tl ++ news) → Apart tl news → Out tl r → Q r { s with heap := h', toks := tk' }) :
    wpAny (model PySem.Challenge.rw_or0028_01.row.prog w) (ktrTop dp un gd cn cs L a ccd cl outer) (call f args) Q E s := C _ _ _ _ _ _ _ _ _ _ _ _ _ _ _ _ _ B F X N T hk hd hu ret
structure Row where
  u : Int
  b : Array UInt8
  i : Int
  m : Int
structure Tell where
  nu : Int
  top : Int
  fl : Int
  ls : List Row
  gs : List (Int × Int)
def Row.dat (r : Row) : Dat := .tuple [.int r.u, .bytes r.b, .tuple [], .int r.i, .int r.m]
def goneDat (g : Int × Int) : Dat := .tuple [.int g.1, .int g.2]
def Tell.dat (t : Tell) : Dat := .tuple [.str (Str.ofString "q"), .int 4, .int t.nu, .int t.top, .int t.fl, .tuple (t.ls.map Row.dat), .tuple (t.gs.map goneDat)]
inductive All2 {α : Type} (R : Value → α → Prop) : List Value → List α → Prop
  | nil : All2 R [] []
  | cons {v : Value} {a : α} {vs : List Value} {as : List α} : R v a → All2 R vs as → All2 R (v :: vs) (a :: as)
theorem All2.imp {α : Type} {R S : Value → α → Prop} (h : ∀ v a, R v a → S v a) {vs : List Value} {as : List α} (x : All2 R vs as) : All2 S vs as := by
  induction x with
  | nil => exact .nil
  | cons r _ ih => exact .cons (h _ _ r) ih
theorem All2.length {α : Type} {R : Value → α → Prop} {vs : List Value} {as : List α} (x : All2 R vs as) : vs.length = as.length := by
  induction x with
  | nil => rfl
  | cons _ _ ih => rw [List.length_cons, List.length_cons, ih]
theorem All2.get {α : Type} {R : Value → α → Prop} {vs : List Value} {as : List α} (x : All2 R vs as) : ∀ {i : Nat} {v : Value}, vs[i]? = some v → ∃ a, as[i]? = some a ∧ R v a := by
  induction x with
  | nil => intro i v h; simp at h
  | cons r _ ih =>
    intro i v h
    cases i with
    | zero => simp at h; subst h; exact ⟨_, by simp, r⟩
    | succ i => simp at h; obtain ⟨a, ha, hr⟩ := ih h; exact ⟨a, by simpa using ha, hr⟩
theorem All2.snoc {α : Type} {R : Value → α → Prop} {vs : List Value} {as : List α} {v : Value} {a : α} (x : All2 R vs as) (r : R v a) : All2 R (vs ++ [v]) (as ++ [a]) := by
  induction x with
  | nil => exact .cons r .nil
  | cons r' _ ih => exact .cons r' ih
theorem all2_dat {news : List (Addr × Obj)} {α : Type} {f : α → Dat} {vs : List Value} {as : List α} (x : All2 (fun v a => DatIn news v (f a)) vs as) : DatAll news vs (as.map f) := by
  induction x with
  | nil => exact .nil
  | cons r _ ih => exact .cons r ih
theorem dat_all2 {news : List (Addr × Obj)} {α : Type} {f : α → Dat} : ∀ {as : List α} {vs : List Value}, DatAll news vs (as.map f) → All2 (fun v a => DatIn news v (f a)) vs as
  | [], _, h => by cases h; exact .nil
  | a :: as, _, h => by
    rw [List.map_cons] at h
    cases h with
    | cons r t => exact .cons r (dat_all2 t)
theorem datAll_snoc {news : List (Addr × Obj)} {vs : List Value} {ds : List Dat} {v : Value} {d : Dat} (h : DatAll news vs ds) (k : DatIn news v d) : DatAll news (vs ++ [v]) (ds ++ [d]) := h.append (DatAll.one k)
theorem take_snoc {α : Type} {l : List α} {i : Nat} {a : α} (h : l[i]? = some a) : l.take (i + 1) = l.take i ++ [a] := by rw [List.take_add_one, h]; rfl
inductive GoneTup (news : List (Addr × Obj)) (gu gm : Int) : Value → Prop
  | mk {D : Addr} {t0 t1 : Tok} {n : Nat} : (D, ({ cls := .type "tuple", data := .seq [Value.int gu t0, Value.int gm t1].toArray n } : Obj)) ∈ news → GoneTup news gu gm (.ref D)
theorem gone_inv {news : List (Addr × Obj)} {v : Value} {gu gm : Int} (h : DatIn news v (goneDat (gu, gm))) : GoneTup news gu gm v := by
  cases h with | tuple q1 q2 =>
  cases q2 with | cons c1 q2 =>
  cases q2 with | cons c2 q2 =>
  cases q2
  cases c1; cases c2
  exact .mk q1
inductive RowTup (news : List (Addr × Obj)) (ru : Int) (rb : Array UInt8) (ri rm : Int) : Value → Prop
  | mk {ra ea : Addr} {t0 t1 t3 t4 : Tok} {n ne : Nat} : (ra, ({ cls := .type "tuple", data := .seq [Value.int ru t0, Value.bytes rb t1, Value.ref ea, Value.int ri t3, Value.int rm t4].toArray n } : Obj)) ∈ news →
    (ea, ({ cls := .type "tuple", data := .seq [].toArray ne } : Obj)) ∈ news → RowTup news ru rb ri rm (.ref ra)
theorem row_inv {news : List (Addr × Obj)} {v : Value} {ru ri rm : Int} {rb : Array UInt8} (h : DatIn news v (Row.dat ⟨ru, rb, ri, rm⟩)) : RowTup news ru rb ri rm v := by
  cases h with | tuple q1 q2 =>
  cases q2 with | cons c1 q2 =>
  cases q2 with | cons c2 q2 =>
  cases q2 with | cons c3 q2 =>
  cases q2 with | cons c4 q2 =>
  cases q2 with | cons c5 q2 =>
  cases q2
  cases c1; cases c2; cases c4; cases c5
  cases c3 with | tuple q3 q4 =>
  cases q4
  exact .mk q1 q3
inductive TellTup (news : List (Addr × Obj)) (nu top fl : Int) (ls : List Row) (gs : List (Int × Int)) : Value → Prop
  | mk {a0 a6 a7 : Addr} {t0 t1 t2 t3 t4 : Tok} {n0 n6 n7 : Nat} {vs ws : List Value} :
    (a0, ({ cls := .type "tuple", data := .seq [Value.str (Str.ofString "q") t0, Value.int 4 t1, Value.int nu t2, Value.int top t3, Value.int fl t4, Value.ref a6, Value.ref a7].toArray n0 } : Obj)) ∈ news →
    (a6, ({ cls := .type "tuple", data := .seq vs.toArray n6 } : Obj)) ∈ news → (a7, ({ cls := .type "tuple", data := .seq ws.toArray n7 } : Obj)) ∈ news →
    All2 (fun v (r : Row) => DatIn news v r.dat) vs ls → All2 (fun v g => DatIn news v (goneDat g)) ws gs → TellTup news nu top fl ls gs (.ref a0)
theorem tell_inv {news : List (Addr × Obj)} {v : Value} {nu top fl : Int} {ls : List Row} {gs : List (Int × Int)} (h : DatIn news v (Tell.dat ⟨nu, top, fl, ls, gs⟩)) : TellTup news nu top fl ls gs v := by
  cases h with | tuple hm hr =>
  cases hr with | cons b1 hr =>
  cases hr with | cons b2 hr =>
  cases hr with | cons b3 hr =>
  cases hr with | cons b4 hr =>
  cases hr with | cons b5 hr =>
  cases hr with | cons b6 hr =>
  cases hr with | cons b7 hr =>
  cases hr
  cases b1; cases b2; cases b3; cases b4; cases b5
  cases b6 with | tuple m6 r6 =>
  cases b7 with | tuple m7 r7 =>
  exact .mk hm m6 m7 (dat_all2 r6) (dat_all2 r7)
inductive LetterIn (news : List (Addr × Obj)) : Value → Row → Prop
  | mk {x d ea : Addr} {e0 e1 e2 e3 e4 : Int} {k0 k1 k2 k3 k4 t0 t1 t3 t4 : Tok} {n ne : Nat} {uu ii mm : Int} {bb : Array UInt8} : (x, instObj 45 d) ∈ news →
    (d, dictOf [⟨e0, .str (Str.ofString "uid") k0, .int uu t0⟩, ⟨e1, .str (Str.ofString "octets") k1, .bytes bb t1⟩, ⟨e2, .str (Str.ofString "flags") k2, .ref ea⟩, ⟨e3, .str (Str.ofString "instant") k3, .int ii t3⟩, ⟨e4, .str (Str.ofString "modseq") k4, .int mm t4⟩] n) ∈ news →
    (ea, ({ cls := .type "tuple", data := .seq #[] ne } : Obj)) ∈ news → LetterIn news (.ref x) ⟨uu, bb, ii, mm⟩
theorem LetterIn.mono {news news' : List (Addr × Obj)} (hs : ∀ p ∈ news, p ∈ news') {v : Value} {r : Row} (h : LetterIn news v r) : LetterIn news' v r := by
  cases h with
  | mk a b c => exact .mk (hs _ a) (hs _ b) (hs _ c)
inductive BoxIn (news : List (Addr × Obj)) : Value → Tell → Prop
  | mk {x d la ga : Addr} {e0 e1 e2 e3 e4 e5 e6 : Int} {k0 k1 k2 k3 k4 k5 k6 t0 t1 t2 t3 t4 : Tok} {n nl ng : Nat} {nu top fl : Int} {vs ws : List Value} {ls : List Row} {gs : List (Int × Int)} : (x, instObj 83 d) ∈ news →
    (d, dictOf [⟨e0, .str (Str.ofString "name") k0, .str (Str.ofString "q") t0⟩, ⟨e1, .str (Str.ofString "validity") k1, .int 4 t1⟩, ⟨e2, .str (Str.ofString "next_uid") k2, .int nu t2⟩, ⟨e3, .str (Str.ofString "top") k3, .int top t3⟩,
      ⟨e4, .str (Str.ofString "floor") k4, .int fl t4⟩, ⟨e5, .str (Str.ofString "letters") k5, .ref la⟩, ⟨e6, .str (Str.ofString "gone") k6, .ref ga⟩] n) ∈ news →
    (la, listOf vs.toArray nl) ∈ news → (ga, listOf ws.toArray ng) ∈ news → All2 (LetterIn news) vs ls → All2 (fun v g => DatIn news v (goneDat g)) ws gs → vs.length ≤ 8 → ws.length ≤ 8 → BoxIn news (.ref x) ⟨nu, top, fl, ls, gs⟩
section
open LCg
variable {prog : Program} {w : World} {A : Around} {s : Shared} {h₀ : Heap} {L : Addr} {m : Str → Option Value} {env : Env} {elt : Expr} {x : Str} {scope : Scope} {cl : List (Str × Addr)} {S : List (Addr × Obj) → Prop} {P : Nat → Value → Prop} {Fin : List Value → List (Addr × Obj) → Prop}
theorem compEnd_mono {s₁ s₂ : Shared} {I : Addr} {oI : Obj} {C : Addr} {oC : Obj} {D : Addr} {oD : Obj} {r1 r2 : Value → List (Addr × Obj) → Prop} {y : Value} (h : CompEnd h₀ L m s₁ I oI C oC D oD S r1 y s₂) (k : ∀ n, r1 y n → r2 y n) : CompEnd h₀ L m s₁ I oI C oC D oD S r2 y s₂ := by
  obtain ⟨h', tk, n, e, F, N, o, hS, r⟩ := h
  exact ⟨h', tk, n, e, F, N, o, hS, k n r⟩
theorem off3_append {I C D : Addr} {t n : List (Addr × Obj)} (h : ∀ p ∈ t, p.1 ≠ I ∧ p.1 ≠ C ∧ p.1 ≠ D) (o : Off3 I C D n) : Off3 I C D (t ++ n) := Off3.of fun p hp => (List.mem_append.mp hp).elim (h p) (o.mem p)
theorem compEnd_close {s₁ : Shared} {I : Addr} {oI : Obj} {C : Addr} {oC : Obj} {D : Addr} {oD : Obj} {rest : Value → List (Addr × Obj) → Prop} {y : Value} {h' : Heap} {tk : Nat} {t1 n0 full : List (Addr × Obj)} (hf : full = (I, oI) :: (C, oC) :: (D, oD) :: n0)
    (F : Fr h₀ L h' m) (N : News h₀ L h' (t1 ++ full)) (a : Apart t1 full) (off : Off3 I C D n0) (hS : S (t1 ++ n0)) (r : rest y (t1 ++ n0)) :
    CompEnd h₀ L m s₁ I oI C oC D oD S rest y { s₁ with heap := h', toks := tk } := by
  subst hf
  refine CompEnd.intro F N (t1 ++ n0) (fun p hp => ?_) (off3_append (fun p hp => ?_) off) hS r
  · rcases List.mem_cons.mp hp with rfl | hp
    · exact List.mem_append_right _ (.head _)
    · rcases List.mem_cons.mp hp with rfl | hp
      · exact List.mem_append_right _ (.tail _ (.head _))
      · rcases List.mem_cons.mp hp with rfl | hp
        · exact List.mem_append_right _ (.tail _ (.tail _ (.head _)))
        · rcases List.mem_append.mp hp with hp | hp
          · exact List.mem_append_left _ hp
          · exact List.mem_append_right _ (.tail _ (.tail _ (.tail _ hp)))
  · exact ⟨(a _ (.head _) p hp).symm, (a _ (.tail _ (.head _)) p hp).symm, (a _ (.tail _ (.tail _ (.head _))) p hp).symm⟩
theorem off1_ne {D : Addr} : ∀ {l : List (Addr × Obj)}, Off1 D l → ∀ p ∈ l, p.1 ≠ D
  | [], _, _, h => nomatch h
  | _ :: _, x, p, h => by
    rcases List.mem_cons.mp h with rfl | h
    · exact x.1
    · exact off1_ne x.2 p h
theorem compRest_ind {n : Nat} (Inv : Nat → List Value → List (Addr × Obj) → Prop)
    (step : ∀ i ys news, i < n → Inv i ys news → ∀ v I oI C oC D m₂ h tk (E' : Value → Shared → Prop), P i v → NsObj oC m₂ → m₂ x = some v → Fr h₀ L h m → News h₀ L h ((I, oI) :: (C, oC) :: (D, lst ys) :: news) → Off3 I C D news → ((@Ne Nat I C) ∧ (@Ne Nat I D) ∧ (@Ne Nat C D)) →
      wpAny (model prog w) A (eval elt (compEnvC scope cl C env)) (CompEnd h₀ L m { s with heap := h, toks := tk } I oI C oC D (lst ys) S (fun y news' => Inv (i + 1) (ys ++ [y]) news')) E' { s with heap := h, toks := tk })
    (fin : ∀ ys news, Inv n ys news → Fin ys news) : ∀ k i ys news, i + k = n → Inv i ys news → CompRest prog w A h₀ L m env elt x scope cl s S P Fin k i ys news := by
  intro k
  induction k with
  | zero =>
    intro i ys news hi h
    have e : i = n := by omega
    subst e
    exact CompRest.zero (fin _ _ h)
  | succ k ih =>
    intro i ys news hi h
    refine CompRest.succ fun v I oI C oC D m₂ h' tk E' hP hC hx F N off ne => ?_
    exact wpAny_mono (step i ys news (by omega) h v I oI C oC D m₂ h' tk E' hP hC hx F N off ne) (fun y s' hy => compEnd_mono hy fun n' hn' => ih (i + 1) _ _ (by omega) hn') fun _ _ e => e
end
end Mine

end
section

open PySem PySem.W PySem.Calls PySem.Spec PyProof.Rows
set_option Elab.async false
set_option maxRecDepth 100000
set_option maxHeartbeats 8000000
namespace Mine
theorem fresh_M1 : True := by
  w_top off
  trivial
local macro_rules | `(tactic| k_mem) => `(tactic| first | exact List.mem_cons_of_mem _ (by ktr_member) | exact List.mem_cons_of_mem _ (List.mem_cons_of_mem _ (by ktr_member)) | exact List.mem_cons_of_mem _ (List.mem_cons_of_mem _ (List.mem_cons_of_mem _ (by ktr_member))) | exact List.mem_cons_of_mem _ (List.mem_cons_of_mem _ (List.mem_cons_of_mem _ (List.mem_cons_of_mem _ (by ktr_member)))))
abbrev rowO (uu : Int) (t0 : Tok) (bb : Array UInt8) (t1 : Tok) (ea : Addr) (ii : Int) (t3 : Tok) (mm : Int) (t4 : Tok) : Obj := { cls := .type "tuple", data := .seq #[.int uu t0, .bytes bb t1, .ref ea, .int ii t3, .int mm t4] }
theorem letter_told {w : World} {p : Program} {loose : List Str} {mean : ExcName → Option Value} {mg mb : Str → Option Value} {news : List (Addr × Obj)} {x d ea : Addr} {e0 e1 e2 e3 e4 : Int} {k0 k1 k2 k3 k4 t0 t1 t3 t4 : Tok} {n : Nat} {uu ii mm : Int} {bb : Array UInt8} (hx : (x, instObj 45 d) ∈ news)
    (hd : (d, dictOf [⟨e0, .str (Str.ofString "uid") k0, .int uu t0⟩, ⟨e1, .str (Str.ofString "octets") k1, .bytes bb t1⟩, ⟨e2, .str (Str.ofString "flags") k2, .ref ea⟩, ⟨e3, .str (Str.ofString "instant") k3, .int ii t3⟩, ⟨e4, .str (Str.ofString "modseq") k4, .int mm t4⟩] n) ∈ news) :
    Tells2 w (tp.heap_39 w.params) p loose mean mg mb (.ref 42) [.ref x] news 8 (fun tl y => ∃ a, y = .ref a ∧ tl = [(a, rowO uu t0 bb t1 ea ii t3 mm t4)]) := by
  unfold Tells2
  k_fill
  intro dp un gd cn cs a ccd cl outer A₀ base h₀ L m s Q E B F X N T hk hdp hun hret
  refine wpAny_call ?_
  k_dflt ktr_enter
  k_steps
  exact hret _ [_] _ _ (by assumption) (by assumption) (Apart.cons .nil (by assumption)) ⟨_, rfl, rfl⟩
theorem row_dat {news : List (Addr × Obj)} {a ea : Addr} {t0 t1 t3 t4 : Tok} {ne : Nat} {uu ii mm : Int} {bb : Array UInt8} (h : (a, rowO uu t0 bb t1 ea ii t3 mm t4) ∈ news) (he : (ea, ({ cls := .type "tuple", data := .seq #[] ne } : Obj)) ∈ news) : DatIn news (.ref a) (Row.dat ⟨uu, bb, ii, mm⟩) :=
  .tuple (vs := [_, _, _, _, _]) h (.cons (.int _ _) (.cons (.bytes _ _) (.cons (.tuple (vs := []) he .nil) (.cons (.int _ _) (.cons (.int _ _) .nil)))))
local macro_rules | `(tactic| walk_at "call type:tuple") => `(tactic| (k_here; (with_reducible show wpAny _ _ (call (Value.type _) [Value.ref _]) _ _ _); k_dflt (refine' kde_tupleOf ?k1 ?k2 ?k3 ?k4 ?k5 ?_; (case k1 => k_asm); (case k2 => k_asm); (case k3 => exact News.isList (by k_asm) (by k_mem)); (case k4 => (simp only [List.size_toArray]; omega)); (case k5 => exact rfl); k_whole); intro D' h' F' N' l1; (try k_sweep)))
local macro_rules | `(tactic| walk_at "eval ListComp") => `(tactic| (k_here; k_dflt (refine LCg.ListComp_U (F₀ := by k_asm) (by rfl) (by decide) (by rfl) (by decide) (by rfl) ?_)))
theorem box_told {w : World} {p : Program} {loose : List Str} {mean : ExcName → Option Value} {mg mb : Str → Option Value} {news : List (Addr × Obj)} {v : Value} {t : Tell} (hb : BoxIn news v t) :
    Tells2 w (tp.heap_39 w.params) p loose mean mg mb (.ref 80) [v] news 20 (fun tl y => ∀ n', (∀ q ∈ tl ++ news, q ∈ n') → DatIn n' y t.dat) := by
  unfold Tells2
  k_fill
  intro dp un gd cn cs a ccd cl outer A₀ base h₀ L m s Q E B F X N T hk hdp hun hret
  cases hb with
  | @mk x d la ga e0 e1 e2 e3 e4 e5 e6 k0 k1 k2 k3 k4 k5 k6 t0 t1 t2 t3 t4 n nl ng nu top fl vs ws ls gs hx hd hl hg hL hG hz1 hz2 =>
  refine wpAny_call ?_
  k_dflt ktr_enter
  k_steps
  refine LCg.CompSrc.ledger (by rfl) (by k_asm) (by k_asm) (by k_mem) (by rw [sizeLine_eq]; simp only [List.size_toArray]; omega) ?_
  intro g2
  refine compRest_ind (n := vs.toArray.size) (fun i ys n' => ∃ tl, n' = tl ++ news ∧ Apart tl news ∧ DatAll n' ys ((ls.take i).map Row.dat)) ?step ?fin _ 0 [] news (Nat.zero_add _) ?start
  case start => exact ⟨[], rfl, .nil, .nil⟩
  case step =>
    rintro i ys n' hi ⟨tl, rfl, hap, hD⟩ v I oI C oC D m₂ h tk E' hP hC hx F N off ne
    obtain ⟨r, hr, hlt⟩ := hL.get (by simpa using hP)
    obtain ⟨full, hfull⟩ : ∃ full, full = (I, oI) :: (C, oC) :: (D, LCg.lst ys) :: (tl ++ news) := ⟨_, rfl⟩
    rw [← hfull] at N
    have hsub : ∀ p ∈ news, p ∈ full := fun p hp => by rw [hfull]; exact .tail _ (.tail _ (.tail _ (List.mem_append_right _ hp)))
    have hCf : (C, oC) ∈ full := by rw [hfull]; exact .tail _ (.head _)
    cases hlt with
    | mk q1 q2 q3 =>
    replace q1 := hsub _ q1
    replace q2 := hsub _ q2
    k_steps
    k_dflt (refine Tells2.use (letter_told q1 q2) (by k_asm) (by k_asm) (by k_asm) (by k_asm) (by k_asm) (by exact rfl) (by ktr_room) (by ktr_units) ?_)
    intro y t1 h2 tk2 F2 N2 a2 o2
    k_unfold
    dsimp only
    obtain ⟨ya, rfl, rfl⟩ := o2
    refine compEnd_close hfull (by assumption) N2 a2 off (.inr ⟨_, List.mem_append_right _ (List.mem_append_right _ hl), rfl, _, rfl⟩) ⟨_ :: tl, rfl, Apart.append (t1 := [_]) (a2.sub (fun _ h => h) hsub) hap, ?_⟩
    rw [take_snoc hr, List.map_append]
    refine datAll_snoc (hD.mono fun p hp => List.mem_append_right _ hp) ?_
    exact row_dat (.head _) (List.mem_append_right _ (List.mem_append_right _ q3))
  case fin =>
    rintro ys n' ⟨tl, rfl, hap, hD⟩
    unfold LCg.FinE
    intro DD hh' tkk' F' N' o1'
    have hll : ls.length ≤ 8 := by rw [← hL.length]; exact hz1
    rw [List.size_toArray, List.take_of_length_le (by rw [hL.length]; exact Nat.le_refl _)] at hD
    have hyl : ys.length ≤ 8 := by rw [hD.length, List.length_map]; exact hll
    obtain ⟨full, hfull⟩ : ∃ full, full = (DD, LCg.lst ys) :: (tl ++ news) := ⟨_, rfl⟩
    rw [← hfull] at N'
    have hsub : ∀ p ∈ news, p ∈ full := fun p hp => by rw [hfull]; exact .tail _ (List.mem_append_right _ hp)
    have hDf : (DD, LCg.lst ys) ∈ full := by rw [hfull]; exact .head _
    have hap2 : Apart ((DD, LCg.lst ys) :: tl) news := hap.cons' fun p hp => off1_ne o1' p (List.mem_append_right _ hp)
    replace hx := hsub _ hx
    replace hd := hsub _ hd
    replace hl := hsub _ hl
    replace hg := hsub _ hg
    k_steps
    have key1 : ∀ D : Addr, (∀ p ∈ full, p.1 < D) → ∀ p ∈ news, p.1 < D := fun D h p hp => h p (hsub p hp)
    have key2 : ∀ (D : Addr) (o : Addr × Obj), (∀ p ∈ o :: full, p.1 < D) → ∀ p ∈ news, p.1 < D := fun D _ h p hp => h p (.tail _ (hsub p hp))
    have key3 : ∀ (D : Addr) (a b : Prop), a ∧ b ∧ AllLt D full → ∀ p ∈ news, p.1 < D := fun D _ _ h p hp => ktn_ltOf h.2.2 p (hsub p hp)
    subst hfull
    refine hret _ (_ :: _ :: _ :: ((DD, LCg.lst ys) :: tl)) _ _ (by assumption) (by assumption) ?_ ?_
    · exact (((hap2.cons (key1 _ (by assumption))).cons (key2 _ _ (by assumption))).cons (key3 _ _ _ (by assumption)))
    · intro n' hn
      refine DatIn.tuple (vs := [_, _, _, _, _, _, _]) (hn _ (.head _)) (.cons (.str _ _) (.cons (.int _ _) (.cons (.int _ _) (.cons (.int _ _) (.cons (.int _ _) (.cons ?_ (.cons ?_ .nil)))))))
      · exact DatIn.tuple (vs := ys) (hn _ (.tail _ (.tail _ (.head _)))) (hD.mono fun q hq => hn _ (.tail _ (.tail _ (.tail _ (.tail _ hq)))))
      · exact DatIn.tuple (vs := ws) (hn _ (.tail _ (.head _))) ((all2_dat hG).mono fun q hq => hn _ (List.mem_append_right _ hq))
end Mine

end
section
open PySem PySem.W PySem.Calls PySem.Spec PyProof.Rows
set_option Elab.async false
set_option maxRecDepth 100000
set_option maxHeartbeats 8000000
namespace Mine
theorem fresh_M2 : True := by
  w_top off
  trivial
local macro_rules | `(tactic| k_mem) => `(tactic| first | exact List.mem_cons_of_mem _ (by ktr_member) | exact List.mem_cons_of_mem _ (List.mem_cons_of_mem _ (by ktr_member)) | exact List.mem_cons_of_mem _ (List.mem_cons_of_mem _ (List.mem_cons_of_mem _ (by ktr_member))) | exact List.mem_cons_of_mem _ (List.mem_cons_of_mem _ (List.mem_cons_of_mem _ (List.mem_cons_of_mem _ (by ktr_member)))))
local macro_rules | `(tactic| walk_at "eval ListComp") => `(tactic| (k_here; k_dflt (refine LCg.ListComp_U (F₀ := by k_asm) (by rfl) (by decide) (by rfl) (by decide) (by rfl) ?_)))
abbrev UidIs (v : Value) (r : Row) : Prop := ∃ t, v = .int r.u t
theorem box_uids {w : World} {p : Program} {loose : List Str} {mean : ExcName → Option Value} {mg mb : Str → Option Value} {news : List (Addr × Obj)} {v : Value} {t : Tell} (hb : BoxIn news v t) :
    Tells2 w (tp.heap_39 w.params) p loose mean mg mb (.ref 75) [v] news 8 (fun tl y => ∃ D ys, y = .ref D ∧ tl = [(D, LCg.lst ys)] ∧ All2 UidIs ys t.ls) := by
  unfold Tells2
  k_fill
  intro dp un gd cn cs a ccd cl outer A₀ base h₀ L m s Q E B F X N T hk hdp hun hret
  cases hb with
  | @mk x d la ga e0 e1 e2 e3 e4 e5 e6 k0 k1 k2 k3 k4 k5 k6 t0 t1 t2 t3 t4 n nl ng nu top fl vs ws ls gs hx hd hl hg hL hG hz1 hz2 =>
  refine wpAny_call ?_
  k_dflt ktr_enter
  k_steps
  refine LCg.CompSrc.ledger (by rfl) (by k_asm) (by k_asm) (by k_mem) (by rw [sizeLine_eq]; simp only [List.size_toArray]; omega) ?_
  intro g2
  refine compRest_ind (n := vs.toArray.size) (fun i ys n' => n' = news ∧ All2 UidIs ys (ls.take i)) ?step ?fin _ 0 [] news (Nat.zero_add _) ?start
  case start => exact ⟨rfl, .nil⟩
  case step =>
    rintro i ys n' hi ⟨rfl, hD⟩ v I oI C oC D m₂ h tk E' hP hC hx F N off ne
    obtain ⟨r, hr, hlt⟩ := hL.get (by simpa using hP)
    obtain ⟨full, hfull⟩ : ∃ full, full = (I, oI) :: (C, oC) :: (D, LCg.lst ys) :: n' := ⟨_, rfl⟩
    rw [← hfull] at N
    have hsub : ∀ p ∈ n', p ∈ full := fun p hp => by rw [hfull]; exact .tail _ (.tail _ (.tail _ hp))
    have hCf : (C, oC) ∈ full := by rw [hfull]; exact .tail _ (.head _)
    cases hlt with
    | mk q1 q2 q3 =>
    replace q1 := hsub _ q1
    replace q2 := hsub _ q2
    k_steps
    refine compEnd_close (t1 := []) hfull (by assumption) N .nil off (.inr ⟨_, hl, rfl, _, rfl⟩) ⟨rfl, ?_⟩
    rw [take_snoc hr]
    exact hD.snoc ⟨_, rfl⟩
  case fin =>
    rintro ys n' ⟨rfl, hD⟩
    unfold LCg.FinE
    intro DD hh' tkk' F' N' o1'
    rw [List.size_toArray, List.take_of_length_le (by rw [hL.length]; exact Nat.le_refl _)] at hD
    k_steps
    exact hret _ [_] _ _ (by assumption) (by assumption) (Apart.nil.cons' (off1_ne o1')) ⟨_, _, rfl, rfl, hD⟩
end Mine
namespace Mine
theorem all2_ints {α : Type} {f : α → Int} : ∀ {vs : List Value} {as : List α}, All2 (fun v a => ∃ t, v = Value.int (f a) t) vs as → IntsAre vs (as.map f)
  | _, _, .nil => .nil
  | _, _, .cons ⟨t, e⟩ r => by subst e; exact .cons _ t (all2_ints r)
theorem ints_dat {news : List (Addr × Obj)} : ∀ {vs : List Value} {ns : List Int}, IntsAre vs ns → DatAll news vs (ns.map Dat.int)
  | _, _, .nil => .nil
  | _, _, .cons n t r => .cons (.int n t) (ints_dat r)
theorem BoxIn.mono {news news' : List (Addr × Obj)} (hs : ∀ p ∈ news, p ∈ news') {v : Value} {t : Tell} (h : BoxIn news v t) : BoxIn news' v t := by
  cases h with
  | mk a b c d e f g1 g2 => exact .mk (hs _ a) (hs _ b) (hs _ c) (hs _ d) (e.imp fun _ _ => LetterIn.mono hs) (f.imp fun _ _ h => h.mono hs) g1 g2
end Mine
namespace Mine
structure Stop (P : Prop) : Prop where
  out : P
structure Hid (P : Prop) : Prop where
  out : P
section
variable {prog : Program} {w : World} {A : Around} {E : Value → Shared → Prop} {s : Shared} {h₀ : Heap} {L a b : Addr} {news : List (Addr × Obj)} {oa ob : Obj} {xs ys : List Value} {ka kb : Nat} {ns ms : List Int} {Q : Value → Shared → Prop}
theorem ints_ok (ns : List Int) : ∀ d ∈ ns.map Dat.int, kqdOk 8 d = true := fun d h => by
  obtain ⟨i, _, rfl⟩ := List.mem_map.mp h
  rfl
theorem map_int_inj {ns ms : List Int} (h : ns.map Dat.int = ms.map Dat.int) : ns = ms := by
  induction ns generalizing ms with
  | nil => cases ms with
    | nil => rfl
    | cons _ _ => exact absurd h (by simp)
  | cons n ns ih => cases ms with
    | nil => exact absurd h (by simp)
    | cons m ms =>
      simp only [List.map_cons, List.cons.injEq, Dat.int.injEq] at h
      rw [h.1, ih h.2]
open Classical in
theorem ne_intsL (N : News h₀ L s.heap news) (ma : (a, oa) ∈ news) (ca : oa.cls = .type "list") (da : oa.data = .seq xs.toArray ka) (ia : IntsAre xs ns)
    (mb : (b, ob) ∈ news) (cb : ob.cls = .type "list") (db : ob.data = .seq ys.toArray kb) (ib : IntsAre ys ms) (hu : A.units + 64 < cLine)
    (ht : ns ≠ ms → Q (.bool true) s) (hf : ns = ms → Q (.bool false) s) : wpAny (model prog w) A (compareOp .NotEq (.ref a) (.ref b)) Q E s := by
  refine kqd_ne (n₁ := []) (n₂ := []) N ma ca da (ints_dat ia) (List.forall_mem_nil _) mb cb db (ints_dat ib) (List.forall_mem_nil _) (ints_ok _) (ints_ok _) hu ?_
  by_cases e : ns = ms
  · rw [decide_eq_true (by rw [e])]; exact hf e
  · rw [decide_eq_false (fun h => e (map_int_inj h))]; exact ht e
open Classical in
theorem in_intsL {x : Int} {t : Tok} (N : News h₀ L s.heap news) (ma : (a, oa) ∈ news) (ca : oa.cls = .type "list") (da : oa.data = .seq xs.toArray ka) (ia : IntsAre xs ns) (hu : A.units + 64 < cLine)
    (ht : x ∈ ns → Q (.bool true) s) (hf : x ∉ ns → Q (.bool false) s) : wpAny (model prog w) A (compareOp .In (.int x t) (.ref a)) Q E s := by
  refine kqd_isIn (n₁ := []) (n₂ := []) N ma ca da (ints_dat ia) (List.forall_mem_nil _) (.int x t) (List.forall_mem_nil _) (ints_ok _) rfl hu ?_
  by_cases e : x ∈ ns
  · rw [decide_eq_true (List.mem_map.mpr ⟨x, e, rfl⟩)]; exact ht e
  · rw [decide_eq_false (fun h => e (by obtain ⟨y, hy, e2⟩ := List.mem_map.mp h; injection e2 with e2; exact e2 ▸ hy))]; exact hf e
end
end Mine
namespace Mine
def DP2 (P : Prop) : Prop := P
section
open LCg
variable {prog : Program} {w : World} {A : Around} {E : Value → Shared → Prop} {s : Shared} {h₀ : Heap} {L : Addr} {m : Str → Option Value} {news : List (Addr × Obj)} {env : Env}
theorem dcomp_I {kx vx iter : Expr} {x : Str} {px : Pos} {ifs : List Expr} {scope : Scope} {cl : List (Str × Addr)} {pos : Pos} {Q : Value → Shared → Prop}
    (_F₀ : Fr h₀ L s.heap m) (_N₀ : News h₀ L s.heap news)
    (hh : A.handled = none) (hclos : closureFor scope env = pure cl) (hcell : ∀ y ∈ scope.names, y.2 ≠ .cell) (hkind : scope.kind = .function)
    (hnames : ∀ y ∈ scope.names, y.2 = .local → scope.names.lookup y.1 = some .local) (hx : scope.names.lookup x = some .local) (hs : ∀ x, foldedSetIterable iter env x = pure x)
    (h : wpAny (model prog w) A (eval iter env) (fun xv s₁ => DP2 (∃ ax vs as, xv = .ref ax ∧ s₁.heap.IsList ax vs.toArray ∧ AreOf .int vs as ∧ as.length ≤ sizeLine ∧ Fr h₀ L s₁.heap m ∧ News h₀ L s₁.heap news ∧
      DictLeaves prog w A env scope cl x ifs kx vx .int as s₁ h₀ L m news Q)) E s) :
    wpAny (model prog w) A (eval (.DictComp kx vx [⟨.Name x px, iter, ifs, 0⟩] scope pos) env) Q E s := DictComp_DCx hh hclos hcell hkind hnames hx h hs
end
end Mine

end
section
open PySem PySem.W PySem.Calls PySem.Spec PyProof.Rows
set_option Elab.async false
namespace Mine
theorem fresh_T1 : True := by
  w_top off
  trivial
theorem putAll_count (ns : List Int) : (∀ k : Int, (putAll PyData.int (fun i => i) (fun _ => PyData.bool true) ns).any (fun p => PySem.Spec.same p.1 (.int k)) = decide (k ∈ ns)) ∧
    (putAll PyData.int (fun i => i) (fun _ => PyData.bool true) ns).length ≤ ns.length ∧ ((putAll PyData.int (fun i => i) (fun _ => PyData.bool true) ns).length = ns.length ↔ ns.Nodup) ∧
    (∀ p ∈ putAll PyData.int (fun i => i) (fun _ => PyData.bool true) ns, ∃ k, p.1 = .int k) := by
  induction ns using snocInd with
  | nil => simp [putAll]
  | snoc l a ih =>
    obtain ⟨h1, h2, h3, h4⟩ := ih
    rw [putAll_snoc]
    unfold PyProof.V.putD
    rw [h1 a]
    by_cases ha : a ∈ l
    · rw [decide_eq_true ha, if_pos rfl]
      refine ⟨fun k => ?_, ?_, ?_, ?_⟩
      · rw [List.any_map]
        have e : ((fun p : PyData × PyData => PySem.Spec.same p.1 (.int k)) ∘ fun p : PyData × PyData => if PySem.Spec.same p.1 (.int a) = true then (p.1, PyData.bool true) else p) = fun p => PySem.Spec.same p.1 (.int k) := by
          funext p
          dsimp only [Function.comp_apply]
          split <;> rfl
        rw [e, h1 k]
        refine decide_eq_decide.mpr ?_
        rw [List.mem_append, List.mem_singleton]
        exact ⟨.inl, fun h => h.elim id fun e => e ▸ ha⟩
      · rw [List.length_map, List.length_append]; exact Nat.le_trans h2 (Nat.le_add_right _ _)
      · rw [List.length_map, List.length_append, List.length_singleton]
        constructor
        · intro h; omega
        · intro h
          exact absurd (List.nodup_append.mp h).2.2 (fun x => x a ha a (List.mem_singleton.mpr rfl) rfl)
      · intro p hp
        obtain ⟨q, hq, e⟩ := List.mem_map.mp hp
        obtain ⟨k, hk⟩ := h4 q hq
        refine ⟨k, ?_⟩
        rw [← e, ← hk]
        split <;> rfl
    · rw [decide_eq_false ha, if_neg (by simp)]
      refine ⟨fun k => ?_, ?_, ?_, ?_⟩
      · rw [List.any_append, h1 k]
        have e : [(PyData.int a, PyData.bool true)].any (fun p => PySem.Spec.same p.1 (.int k)) = decide (k = a) := by
          simp only [List.any_cons, List.any_nil, Bool.or_false, PyProof.V.same_int]
          exact decide_eq_decide.mpr ⟨Eq.symm, Eq.symm⟩
        rw [e]
        by_cases h5 : k ∈ l <;> by_cases h6 : k = a <;> simp [h5, h6]
      · simp only [List.length_append, List.length_singleton]; omega
      · simp only [List.length_append, List.length_singleton]
        rw [List.nodup_append]
        constructor
        · intro h
          refine ⟨h3.mp (by omega), by simp, fun x hx y hy e => ?_⟩
          rw [List.mem_singleton] at hy
          exact ha (hy ▸ e ▸ hx)
        · intro h
          have := h3.mpr h.1
          omega
      · intro p hp
        rcases List.mem_append.mp hp with hp | hp
        · exact h4 p hp
        · rw [List.mem_singleton] at hp; exact ⟨a, by rw [hp]⟩
theorem flat_length {K : Type} {enc : K → PyData} {kvs : List (K × Value)} {D : List (PyData × PyData)} (h : PyProof.V.FlatPairs enc kvs D) : kvs.length = D.length := by
  induction h with
  | nil => rfl
  | cons _ _ ih => rw [List.length_cons, List.length_cons, ih]
section
open LCg
variable {prog : Program} {w : World} {A : Around} {E : Value → Shared → Prop} {s : Shared} {h₀ : Heap} {L : Addr} {m : Str → Option Value} {news : List (Addr × Obj)} {env : Env}
theorem newDict_at {M : Model} {Φ : Value → Shared → Prop} (h : wpAny M A newDict Φ E s) : wpAny M A newDict (fun a s' => a = .ref s.heap.objs.size ∧ Φ a s') E s := fun Γ p hΓ => ⟨rfl, h Γ p hΓ⟩
def CompDict (prog : Program) (w : World) (h : Heap) (D : Addr) (ns : List Int) : Prop := ∃ kvs : List (Int × Value), h.DictOf (intKind prog w) D kvs ∧ (D == sysModules) = false ∧ kvs.length ≤ ns.length ∧ (kvs.length = ns.length ↔ ns.Nodup)
theorem dcomp_J {kx vx iter : Expr} {x : Str} {px : Pos} {scope : Scope} {cl : List (Str × Addr)} {pos : Pos} {Q : Value → Shared → Prop} {p : Program} {loose : List Str} {mean : ExcName → Option Value} {mg mb : Str → Option Value}
    (_F₀ : Fr h₀ L s.heap m) (_N₀ : News h₀ L s.heap news) (T : Top p loose mean mg mb h₀)
    (hh : A.handled = none) (hclos : closureFor scope env = pure cl) (hcell : ∀ y ∈ scope.names, y.2 ≠ .cell) (hkind : scope.kind = .function)
    (hnames : ∀ y ∈ scope.names, y.2 = .local → scope.names.lookup y.1 = some .local) (hx : scope.names.lookup x = some .local) (hs : ∀ x, foldedSetIterable iter env x = pure x)
    (h : wpAny (model prog w) A (eval iter env) (fun xv s₁ => DP2 (∃ ax vs ns, xv = .ref ax ∧ s₁.heap.IsList ax vs.toArray ∧ IntsAre vs ns ∧ ns.length ≤ 8 ∧ Fr h₀ L s₁.heap m ∧ News h₀ L s₁.heap news ∧
      (∀ C i t s₂ m₂ E', s₂.heap.Ns (compEnvC scope cl C env).locals m₂ → m₂ x = some (.int i t) → wpAny (model prog w) A (eval kx (compEnvC scope cl C env)) (fun key s₃ => (intKind prog w).is i key = true ∧ Keeps s₂ s₃) E' s₂) ∧
      (∀ C i t s₂ m₂ E', s₂.heap.Ns (compEnvC scope cl C env).locals m₂ → m₂ x = some (.int i t) → wpAny (model prog w) A (eval vx (compEnvC scope cl C env)) (fun y s₃ => Carried y (.bool true) ∧ Keeps s₂ s₃) E' s₂) ∧
      (∀ D h' tk, Fr h₀ L h' m → News h₀ L h' news → CompDict prog w h' D ns → Q (.ref D) { s₁ with heap := h', toks := tk }))) E s) :
    wpAny (model prog w) A (eval (.DictComp kx vx [⟨.Name x px, iter, [], 0⟩] scope pos) env) Q E s := by
  rw [arm_eval_DictComp]
  refine wpAny_comprehension_free (use := none) rfl hs hclos hkind hnames (wpAny_mono h (fun xv s₁ h₁ => ?_) fun _ _ e => e)
  obtain ⟨ax, vs, ns, rfl, hl, hi, hsz, F, N, hkey, hval, hQ⟩ := h₁
  have hlt : ax < s₁.heap.objs.size := by obtain ⟨_, e, _⟩ := hl; exact Heap.lt_size e
  refine wpAny_pyIter_list hl ?_
  have hsz2 : vs.length ≤ sizeLine := by rw [IntsAre.length hi, sizeLine_eq]; omega
  refine wpAny_mono (newDict_at (comp_block_walkCD (knd := intKind prog w) (cl := cl) (pos := pos) (px := px) (kx := kx) (vx := vx) (ifs := []) (x := x) (iter := iter) (env := env) (scope := scope)
    (RR := fun acc C r s' => acc = .ref (s₁.heap.push { cls := .type "list_iterator", data := .fields #[.ref ax, .int 0 0] }).objs.size → compPost (model prog w) A E none Q acc C r s')
    (Walks.list hh _ _ (Nat.ne_of_lt hlt) vs.toArray) (by rw [List.size_toArray]; exact hsz2) (fun _ => true) (fun v k => ∃ a, ItemKind.int.is a v ∧ k = a) (fun v y => ∃ a, ItemKind.int.is a v ∧ Carried y (.bool true))
    hcell hkind hx ⟨⟨_, Heap.get?_push_size _ rfl, rfl, rfl⟩, hl.push _⟩ ?_ ⟨?_, ?_, ?_⟩ ?_)) (fun acc s₃ hacc => ?_) fun _ _ e => e
  · intro b hb
    show b < (s₁.heap.push _).objs.size
    rw [Heap.size_push]
    rcases List.mem_cons.mp hb with rfl | hb
    · exact Nat.lt_succ_self _
    · rw [List.mem_singleton.mp hb]; exact Nat.lt_succ_of_lt hlt
  · intro C i v s₃ m₃ E' hP hn hm hk
    exact wpAny_pure ⟨rfl, _, _, rfl, fun _ _ e => e⟩
  · intro C i v s₃ m₃ E' hP hp hn hm hk
    obtain ⟨a, t, rfl, -⟩ := IntsAre.at hi i v (by simpa using hP)
    exact wpAny_mono (hkey C a t s₃ m₃ E' hn hm) (fun key s₄ h₄ => ⟨⟨a, h₄.1, a, ⟨t, rfl⟩, rfl⟩, h₄.2⟩) fun _ _ e => e
  · intro C i v s₃ m₃ E' hP hp hn hm hk
    obtain ⟨a, t, rfl, -⟩ := IntsAre.at hi i v (by simpa using hP)
    exact wpAny_mono (hval C a t s₃ m₃ E' hn hm) (fun key s₄ h₄ => ⟨⟨a, ⟨t, rfl⟩, h₄.1⟩, h₄.2⟩) fun _ _ e => e
  · intro D C h' tk m' kvs vs' hD hC hDC hn hlD hlen hP hF hk hDe
    have hDe : D = (s₁.heap.push { cls := .type "list_iterator", data := .fields #[.ref ax, .int 0 0] }).objs.size := by injection hDe
    have e : vs' = vs := by simpa using list_of_places hlen hP
    subst e
    refine ⟨m', hn, fun h'' hs'' => ?_⟩
    have up : ∀ b o, s₁.heap.get? b = some o → h'.get? b = some o := fun b o e =>
      hk b o (fun hm => by rcases List.mem_cons.mp hm with rfl | hm; exact Nat.lt_irrefl _ (Heap.lt_size e); cases hm) (Heap.get?_push_of_some _ e)
    have keep : ∀ b o, s₁.heap.get? b = some o → h''.get? b = some o := fun b o e =>
      hs''.extBut b o (by rintro rfl; rw [Heap.get?_push_of_some _ e] at hC; cases hC) (up b o e)
    refine hQ D h'' tk (F.keeps keep) (N.grown keep) ⟨kvs, hlD.extBut hs''.extBut hDC, ?_, ?_⟩
    · have h1 := modules_low T.nolimit
      have h2 := F.above
      have h3 := F.ns.lt
      rw [Heap.size_push] at hDe
      exact beq_eq_false_iff_ne.mpr (by rw [hDe]; exact Nat.ne_of_gt (Nat.lt_succ_of_lt (Nat.lt_of_lt_of_le h1 (Nat.le_trans h2 (Nat.le_of_lt h3)))))
    · obtain ⟨-, c2, c3, -⟩ := putAll_count ns
      have c4 := flat_length (storedAll_flat (enc := PyData.int) (kf := fun i : Int => i) (d := fun _ => PyData.bool true) PyProof.V.same_int hF ns (by rw [List.filter_eq_self.mpr fun _ _ => rfl]; exact hi.areOf))
      rw [c4]
      exact ⟨c2, c3⟩
  · obtain ⟨rfl, hb⟩ := hacc
    exact wpAny_mono hb (fun cenv s₄ hc => codeAny_mono hc fun r s' hr => hr rfl) fun _ _ e => e
theorem len_dcomp {Q : Value → Shared → Prop} {D : Addr} {ns : List Int} (hd : CompDict prog w s.heap D ns) (hs : ns.length ≤ 8)
    (h : ∀ (k : Int) t tk, ((ns.length : Int) = k ↔ ns.Nodup) → Q (.int k t) { s with toks := tk }) : wpAny (model prog w) A (call (.builtin "len") [.ref D]) Q E s := by
  obtain ⟨kvs, h1, h2, h3, h4⟩ := hd
  refine call_len_dict h2 h1 (by omega) (h _ _ _ ?_)
  rw [← h4]
  omega
end
end Mine

end
section
open PySem PySem.W PySem.Calls PySem.Spec PyProof.Rows
set_option Elab.async false
namespace Mine
def GoneOk (nu top fl : Int) (us : List Int) : Int → List (Int × Int) → Prop
  | _, [] => True
  | last, g :: gs => ((1 ≤ g.1 ∧ g.1 < nu) ∧ g.1 ∉ us ∧ (last ≤ g.2 ∧ g.2 ≤ top) ∧ fl < g.2) ∧ GoneOk nu top fl us g.2 gs
def Sound (t : Tell) : Prop :=
  (t.ls.map Row.u).Pairwise (· ≤ ·) ∧ (t.ls.map Row.u).Nodup ∧ (∀ u ∈ t.ls.map Row.u, 1 ≤ u ∧ u < t.nu) ∧ (t.ls.map Row.m).Nodup ∧ (∀ m ∈ t.ls.map Row.m, 1 < m ∧ m ≤ t.top) ∧
    GoneOk t.nu t.top t.fl (t.ls.map Row.u) t.fl t.gs ∧ 0 ≤ t.fl ∧ t.fl ≤ t.top
theorem fold_filter (P : Int → Prop) [DecidablePred P] : ∀ (ns l : List Int), ns.foldl (fun l k => if P k then l else l ++ [k]) l = l ++ ns.filter fun k => !decide (P k)
  | [], l => by simp
  | n :: ns, l => by
    rw [List.foldl_cons, fold_filter P ns]
    by_cases h : P n
    · simp [h]
    · simp [h]
theorem fold_nil (P : Int → Prop) [DecidablePred P] (ns : List Int) : ns.foldl (fun l k => if P k then l else l ++ [k]) [] = [] ↔ ∀ k ∈ ns, P k := by
  rw [fold_filter, List.nil_append, List.filter_eq_nil_iff]
  simp
theorem fold_grows (P : Int → Prop) [DecidablePred P] : KPfGrows fun l k => if P k then l else l ++ [k] := fun l k => by
  dsimp only
  split
  · omega
  · rw [List.length_append, List.length_singleton]; omega
end Mine
namespace Mine
section
variable {prog : Program} {w : World} {A : Around} {E : Value → Shared → Prop} {s : Shared} {env : Env} {h₀ : Heap} {target : Expr} {body : List Stmt} {Q : Flow → Shared → Prop} {P : Nat → Value → Prop} {fp : List Addr}
theorem loop2_mono {L : Addr} {own news : List (Addr × Obj)} {J J' : (Str → Option Value) → List (Addr × Obj) → Prop} {s₁ s₂ : Shared} {f : Flow} (hJ : ∀ m n, J m n → J' m n) (h : LoopStep2 h₀ L own news J s₁ f s₂) : LoopStep2 h₀ L own news J' s₁ f s₂ := by
  obtain ⟨e, h', tk, m₂, n₂, e2, F, N, a, j⟩ := h
  exact ⟨e, h', tk, m₂, n₂, e2, F, N, a, hJ _ _ j⟩
theorem loop3_mono {L : Addr} {own news : List (Addr × Obj)} {J J' : (Str → Option Value) → List (Addr × Obj) → Prop} {s₁ s₂ : Shared} {Qr : Value → Shared → Prop} {Qb : Shared → Prop} {f : Flow} (hJ : ∀ m n, J m n → J' m n) (h : LoopStep3 h₀ L own news J s₁ Qr Qb f s₂) :
    LoopStep3 h₀ L own news J' s₁ Qr Qb f s₂ := by
  cases f with
  | ret v => exact h
  | brk => exact h
  | cont => exact loop2_mono hJ h
  | next => exact loop2_mono hJ h
theorem unr_ind {n : Nat} (Inv : Nat → (Str → Option Value) → List (Addr × Obj) → Prop)
    (step : ∀ i m news, i < n → Inv i m news → ∀ v h₁ tk₁ own, P i v → (∀ p ∈ own, p.1 ∈ fp) → Fr h₀ env.locals h₁ m → News h₀ env.locals h₁ (own ++ news) →
      wpAny (model prog w) A (assign target env v) (fun _ s₂ => wpAny (model prog w) A (execs body env)
        (LoopStep3 h₀ env.locals own news (fun m' news' => Inv (i + 1) m' news') { s with heap := h₁, toks := tk₁ } (fun v s' => Q (.ret v) s') fun s' => Q .next s') E s₂) E { s with heap := h₁, toks := tk₁ })
    (fin : ∀ m news, Inv n m news → ∀ h' tk, Fr h₀ env.locals h' m → News h₀ env.locals h' news → Q .next { s with heap := h', toks := tk }) :
    ∀ k i m news, i + k = n → Inv i m news → Unr prog w A E h₀ env target body Q P fp s k i m news := by
  intro k
  induction k with
  | zero =>
    intro i m news hi h
    have e : i = n := by omega
    subst e
    exact Unr.zero (fin _ _ h)
  | succ k ih =>
    intro i m news hi h
    refine Unr.succ fun v h₁ tk₁ own hP ho F N => ?_
    exact wpAny_mono (step i m news (by omega) h v h₁ tk₁ own hP ho F N) (fun _ s' hy => wpAny_mono hy (fun f s'' hz => loop3_mono (fun m n hn => ih (i + 1) m n (by omega) hn) hz) fun _ _ e => e) fun _ _ e => e
end
end Mine
namespace Mine
abbrev loopMap (Mb : Str → Option Value) (l : Value) (vm vu : Option Value) : Str → Option Value := fun y => if y = Str.ofString "last" then some l else if y = Str.ofString "modseq" then vm else if y = Str.ofString "uid" then vu else Mb y
theorem loopMap_self {Mb : Str → Option Value} {l : Value} (h : Mb (Str.ofString "last") = some l) : Mb = loopMap Mb l (Mb (Str.ofString "modseq")) (Mb (Str.ofString "uid")) := by
  funext y
  unfold loopMap
  by_cases h1 : y = Str.ofString "last"
  · rw [if_pos h1, h1]; exact h
  · rw [if_neg h1]
    by_cases h2 : y = Str.ofString "modseq"
    · rw [if_pos h2, h2]
    · rw [if_neg h2]
      by_cases h3 : y = Str.ofString "uid"
      · rw [if_pos h3, h3]
      · rw [if_neg h3]
theorem loopMap_next {Mb : Str → Option Value} {l l' : Value} {vm vu : Option Value} {a b : Value} : (fun y => if y = Str.ofString "last" then some l' else if y = Str.ofString "modseq" then some a else if y = Str.ofString "uid" then some b else loopMap Mb l vm vu y) = loopMap Mb l' (some a) (some b) := by
  funext y
  unfold loopMap
  by_cases h1 : y = Str.ofString "last" <;> by_cases h2 : y = Str.ofString "modseq" <;> by_cases h3 : y = Str.ofString "uid" <;> simp only [h1, h2, h3, if_true, if_false]
section
variable {prog : Program} {w : World} {A : Around} {E : Value → Shared → Prop} {s : Shared} {env : Env} {h₀ : Heap} {target : Expr} {body : List Stmt} {Q : Flow → Shared → Prop}
theorem gone_loop {Mb : Str → Option Value} {news : List (Addr × Obj)} {t : Addr} {items : Array Value} {l0 : Int} {t0 : Tok} (R : Nat → Int → Prop)
    (hh : A.handled = none) (ht : s.heap.IsList t items) (F : Fr h₀ env.locals s.heap Mb) (N : News h₀ env.locals s.heap news) (htL : t ≠ env.locals) (start : Mb (Str.ofString "last") = some (.int l0 t0)) (h0 : R 0 l0)
    (step : ∀ i v last t' vm vu h₁ tk₁ own full6, items[i]? = some v → R i last → full6 = own ++ news → Fr h₀ env.locals h₁ (loopMap Mb (.int last t') vm vu) → News h₀ env.locals h₁ full6 →
      wpAny (model prog w) A (assign target env v) (fun _ s₂ => wpAny (model prog w) A (execs body env)
        (LoopStep3 h₀ env.locals own news (fun m' n' => n' = news ∧ ∃ last' t' vm' vu', m' = loopMap Mb (.int last' t') vm' vu' ∧ R (i + 1) last') { s with heap := h₁, toks := tk₁ } (fun v s' => Q (.ret v) s') fun s' => Q .next s') E s₂) E { s with heap := h₁, toks := tk₁ })
    (fin : ∀ last t' vm vu h' tk, R items.size last → Fr h₀ env.locals h' (loopMap Mb (.int last t') vm vu) → News h₀ env.locals h' news → Q .next { s with heap := h', toks := tk }) :
    wpAny (model prog w) A (pyIter (.ref t)) (fun it s₂ => UnrAt prog w A h₀ env target body Q E it s₂) E s := by
  refine Iter_list_unr hh ht F N htL (unr_ind (n := items.size) (fun i m n => n = news ∧ ∃ last t' vm vu, m = loopMap Mb (.int last t') vm vu ∧ R i last) ?_ ?_ _ 0 _ _ (Nat.zero_add _) ⟨rfl, _, _, _, _, loopMap_self start, h0⟩)
  · rintro i m n hi ⟨rfl, last, t', vm, vu, rfl, hR⟩ v h₁ tk₁ own hP ho F N
    exact step i v last t' vm vu h₁ tk₁ own _ hP hR rfl F N
  · rintro m n ⟨rfl, last, t', vm, vu, rfl, hR⟩ h' tk F N
    exact fin last t' vm vu h' tk hR F N
end
end Mine

end
section
open PySem PySem.W PySem.Calls PySem.Spec PyProof.Rows
set_option Elab.async false
set_option maxRecDepth 100000
set_option maxHeartbeats 8000000
namespace Mine
theorem fresh_M3 : True := by
  w_top off
  trivial
local macro_rules | `(tactic| k_mem) => `(tactic| first | exact List.mem_cons_of_mem _ (by ktr_member) | exact List.mem_cons_of_mem _ (List.mem_cons_of_mem _ (by ktr_member)) | exact List.mem_cons_of_mem _ (List.mem_cons_of_mem _ (List.mem_cons_of_mem _ (by ktr_member))) | exact List.mem_cons_of_mem _ (List.mem_cons_of_mem _ (List.mem_cons_of_mem _ (List.mem_cons_of_mem _ (by ktr_member)))))
local macro_rules | `(tactic| walk_at "eval ListComp") => `(tactic| (k_here; refine Stop.out ?_))
local macro_rules | `(tactic| walk_at "compareOp NotEq ref ref") => `(tactic| (k_here; refine Stop.out ?_))
local macro_rules | `(tactic| walk_at "compareOp In int ref") => `(tactic| (k_here; refine Stop.out ?_))
local macro_rules | `(tactic| walk_at "call builtin:sorted") => `(tactic| (k_here; refine Stop.out ?_))
local macro_rules | `(tactic| walk_at "exec Assign cons ListComp") => `(tactic| (k_here; refine Stop.out ?_))
local macro_rules | `(tactic| walk_at "eval DictComp") => `(tactic| (k_here; k_dflt (refine dcomp_J (by k_asm) (by k_asm) (by k_asm) (by rfl) (by rfl) (by decide) (by rfl) (by decide) (by rfl) (by intro _; rfl) ?_)))
theorem is_sound_of {w : World} {p : Program} {loose : List Str} {mean : ExcName → Option Value} {mg mb : Str → Option Value} {news : List (Addr × Obj)} {v : Value} {t : Tell} (hb : BoxIn news v t) :
    Tells2 w (tp.heap_39 w.params) p loose mean mg mb (.ref 104) [v] news 20 (fun tl y => ∃ b, y = .bool b ∧ (b = true ↔ Sound t)) := by
  unfold Tells2
  k_fill
  intro dp un gd cn cs a ccd cl outer A₀ base h₀ L m s Q E B F X N T hk hdp hun hret
  cases hb with
  | @mk x d la ga e0 e1 e2 e3 e4 e5 e6 k0 k1 k2 k3 k4 k5 k6 t0 t1 t2 t3 t4 n nl ng nu top fl vs ws ls gs hx hd hl hg hL hG hz1 hz2 =>
  refine wpAny_call ?_
  k_dflt (refine' code_defC ?k1 ?k2 ?k3 ?k4 ?k5 ?kA ?kF ?kK ?k6 ?k7 ?k8 ?k9 ?kB ?kD ?_ ?c2 ?c3 ?c4; (case kA => exact rfl); (case kF => exact rfl); (case kK => assumption); (case k1 => k_asm); (case k2 => k_asm); (case k3 => k_asm); (case k4 => k_asm); (case k5 => k_asm); (case k6 => k_is); (case k7 => k_is); (case k8 => ktr_room); (case k9 => exact BindsTo.of_eq rfl); (case kB => exact rfl); (case kD => decide +kernel); (case c2 => exact rfl); (case c3 => exact rfl); (case c4 => exact rfl); k_whole; intro g' L' h' tk' cells' FG' F' N' Y' B' X' T' l1; (try k_lt l1); k_cells Y'; (try simp only [List.cons_append, List.nil_append] at N'); (try dsimp only); (try k_lift B'); (try k_fold))
  rename_i o' d1'
  replace d1' : o'.data = .cell (some (.ref x)) := d1'
  obtain ⟨full, hfull⟩ : ∃ full, full = (L' + 1, o') :: news := ⟨_, rfl⟩
  rw [← hfull] at N'
  have hsub : ∀ p ∈ news, p ∈ full := fun p hp => by rw [hfull]; exact .tail _ hp
  have hcell : (L' + 1, o') ∈ full := by rw [hfull]; exact .head _
  replace hx := hsub _ hx
  replace hd := hsub _ hd
  replace hl := hsub _ hl
  replace hg := hsub _ hg
  replace hL := hL.imp fun _ _ => LetterIn.mono hsub
  replace hG := hG.imp fun _ _ h => DatIn.mono hsub h
  have hb0 : BoxIn full (.ref x) ⟨nu, top, fl, ls, gs⟩ := .mk hx hd hl hg hL hG hz1 hz2
  k_steps
  k_dflt (refine Tells2.use (box_uids hb0) (by k_asm) (by k_asm) (by k_asm) (by k_asm) (by k_asm) (by exact rfl) (by ktr_room) (by ktr_units) ?_)
  intro y tl hh1 tk1 F1 N1 a1 o1
  (try k_unfold)
  dsimp only
  obtain ⟨U, us, rfl, rfl, hU2⟩ := o1
  simp only [List.cons_append, List.nil_append] at N1
  k_steps
  have hU : Hid (IntsAre us (ls.map Row.u)) := ⟨all2_ints hU2⟩
  have hsz3 : us.toArray.size = (ls.map Row.u).length := by rw [List.size_toArray, IntsAre.length hU.out]
  have hlls : (ls.map Row.u).length ≤ 8 := by rw [List.length_map, ← hL.length]; exact hz1
  have hlus : us.length ≤ 8 := by rw [IntsAre.length hU.out]; exact hlls
  constructor
  k_dflt (refine kso_sorted (F := by k_asm) (N := by k_asm) (hl := ?hl) (hi := hU.out) (h64 := by rw [List.length_map] at hlls ⊢; exact Nat.lt_of_le_of_lt hlls (by decide)) (h := ?_))
  case hl => exact kso_isList (by k_asm) (by k_mem) rfl
  intro D2 vs2 ns2 c2 h2 F2 N2 l2 i2 e2 p2 o2 _b2
  have hend : ∀ (b : Bool) h' tk' n', Fr h₀ L h' m → News h₀ L h' n' → (∀ p ∈ news, p ∈ n') → (b = true ↔ Sound ⟨nu, top, fl, ls, gs⟩) → Q (.bool b) { s with heap := h', toks := tk' } := fun b h' tk' n' F N hs hb =>
    hret _ [] _ _ F (fun p hp => N p (hs p hp)) .nil ⟨b, rfl, hb⟩
  k_steps
  constructor
  k_dflt (refine ne_intsL N2 (by k_mem) rfl rfl hU.out (by k_mem) rfl rfl i2 (by ktr_units) ?_ ?_)
  · intro hs
    k_steps
    exact hend false _ _ _ (by assumption) (by assumption) (fun p hp => .tail _ (.tail _ (hsub p hp))) (iff_of_false Bool.false_ne_true fun hS => hs (ksm_same p2.symm hS.1 o2))
  · intro hs
    have hsort : (ls.map Row.u).Pairwise (· ≤ ·) := by rw [hs]; exact o2
    clear i2 p2 o2 e2 _b2 hs
    replace N2 : News g' L' h2 ((U, LCg.lst us) :: full) := fun p hp => N2 p (.tail _ hp)
    k_steps
    unfold DP2
    refine ⟨_, _, _, rfl, News.isList N2 (by k_mem), hU.out, hlls, by assumption, by assumption, ?key, ?val, ?cont⟩
    case key =>
      intro C i t s₂ m₂ E' hn hx
      refine wpAny_dictKey ?_
      k_steps
    case val =>
      intro C i t s₂ m₂ E' hn hx
      refine wpAny_leafK ?_
      k_steps
    case cont =>
    intro D h3 tk3 F3 N3 D3
    dsimp only
    k_steps
    refine len_dcomp D3 hlls ?_
    intro k t5 tk5 hk5
    dsimp only
    clear D3
    k_steps
    · exact hend false _ _ _ (by assumption) (by assumption) (fun p hp => .tail _ (hsub p hp)) (iff_of_false Bool.false_ne_true fun hS => by
        have hk := hk5.mpr hS.2.1
        have hs4 := hsz3
        omega)
    have hnd : (ls.map Row.u).Nodup := hk5.mp (by omega)
    constructor
    k_dflt (refine LCt.ListComp_T (F₀ := by k_asm) (by with_unfolding_all rfl) (by decide) (by rfl) (by decide) (by rfl) ?_)
    k_steps
    refine LCt.CompSrcT.ledger (by rfl) (by k_asm) (by k_asm) (by k_mem) (by rw [sizeLine_eq]; simp only [List.size_toArray]; omega) ?_
    intro g3
    refine kci_list (fun l k => if (1 ≤ k ∧ k < nu) then l else l ++ [k]) hU.out ?turn1 ?fin1 (fold_grows _)
    case turn1 =>
      intro k t I oI C oC D m₂ ys l h tk E' hk9 hI9 hC hx9 F9 N9 off ne _
      k_steps
      all_goals refine compEnd_close (t1 := []) rfl (by assumption) (by assumption) .nil off (.inr ⟨_, .head _, rfl, _, rfl⟩) ?_
      all_goals first
        | (refine ⟨rfl, _, _, rfl, ?_⟩; rw [if_neg (by omega)])
        | (refine ⟨rfl, ?_⟩; rw [if_pos (by omega)])
    case fin1 =>
      intro ys hys hyl
      unfold LCg.FinE
      intro D5 h5 tk5 F5 N5 o5
      clear hU
      have hU : Hid (IntsAre us (ls.map Row.u)) := ⟨all2_ints hU2⟩
      replace hys : Hid (IntsAre ys ((ls.map Row.u).foldl (fun l k => if (1 ≤ k ∧ k < nu) then l else l ++ [k]) [])) := ⟨hys⟩
      k_steps
      constructor
      k_dflt (refine ne_intsL (by k_asm) (.tail _ (.head _)) rfl rfl hys.out (.head _) rfl rfl .nil (by ktr_units) ?_ ?_)
      · intro hne
        k_steps
        exact hend false _ _ _ (by assumption) (by assumption) (fun p hp => .tail _ (.tail _ (.tail _ (hsub p hp)))) (iff_of_false Bool.false_ne_true fun hS => hne ((fold_nil (fun k => 1 ≤ k ∧ k < nu) _).mpr hS.2.2.1))
      intro heq
      have hrng : ∀ u ∈ ls.map Row.u, 1 ≤ u ∧ u < nu := (fold_nil (fun k => 1 ≤ k ∧ k < nu) _).mp heq
      clear hys heq
      rename_i _ _ _ N6 _
      replace N6 : News g' L' _ ((U, LCg.lst us) :: full) := fun p hp => N6 p (.tail _ (.tail _ hp))
      k_steps
      constructor
      k_dflt (refine LCg.Assign_ListComp_U (F₀ := by k_asm) (by rfl) (by with_unfolding_all rfl) (by rfl) (by decide) (by rfl) (by decide) (by rfl) (by rfl) (by rfl) ?_)
      k_steps
      refine LCg.CompSrc.ledger (by rfl) (by k_asm) (by k_asm) (by k_mem) (by rw [sizeLine_eq]; simp only [List.size_toArray]; omega) ?_
      intro g6
      refine compRest_ind (n := vs.toArray.size) (fun i ys n' => n' = (U, LCg.lst us) :: full ∧ All2 (fun v (r : Row) => ∃ t, v = .int r.m t) ys (ls.take i)) ?step6 ?fin6 _ 0 [] ((U, LCg.lst us) :: full) (Nat.zero_add _) ?start6
      case start6 => exact ⟨rfl, .nil⟩
      case step6 =>
        rintro i ys n' hi ⟨rfl, hD⟩ v I oI C oC D m₂ h tk E' hP hC hx F N off ne
        obtain ⟨r, hr, hlt⟩ := hL.get (by simpa using hP)
        cases hlt with
        | mk q1 q2 q3 =>
        k_steps
        refine compEnd_close (t1 := []) rfl (by assumption) N .nil off (.inr ⟨_, .tail _ hl, rfl, _, rfl⟩) ⟨rfl, ?_⟩
        rw [take_snoc hr]
        exact hD.snoc ⟨_, rfl⟩
      case fin6 =>
      rintro zs n' ⟨rfl, hD⟩
      unfold LCg.FinA
      intro M6 h6 tk6 F6 N7 o6
      rw [List.size_toArray, List.take_of_length_le (by rw [hL.length]; exact Nat.le_refl _)] at hD
      have hM : Hid (IntsAre zs (ls.map Row.m)) := ⟨all2_ints hD⟩
      have hllm : (ls.map Row.m).length ≤ 8 := by rw [List.length_map, ← hL.length]; exact hz1
      have hszm : zs.toArray.size = (ls.map Row.m).length := by rw [List.size_toArray, IntsAre.length hM.out]
      have hzs : zs.length ≤ 8 := by rw [IntsAre.length hM.out]; exact hllm
      clear hD
      k_steps
      unfold DP2
      refine ⟨_, _, _, rfl, News.isList (by assumption) (by k_mem), hM.out, hllm, by assumption, by assumption, ?key7, ?val7, ?cont7⟩
      case key7 =>
        intro C i t s₂ m₂ E' hn hx
        refine wpAny_dictKey ?_
        k_steps
      case val7 =>
        intro C i t s₂ m₂ E' hn hx
        refine wpAny_leafK ?_
        k_steps
      case cont7 =>
      intro D h7 tk7 F7 N7' D7
      dsimp only
      k_steps
      refine len_dcomp D7 hllm ?_
      intro k t8 tk8 hk8
      dsimp only
      clear D7
      k_steps
      · exact hend false _ _ _ (by assumption) (by assumption) (fun p hp => .tail _ (.tail _ (hsub p hp))) (iff_of_false Bool.false_ne_true fun hS => by
          have hk := hk8.mpr hS.2.2.2.1
          have hs4 := hszm
          omega)
      have hndm : (ls.map Row.m).Nodup := hk8.mp (by omega)
      constructor
      k_dflt (refine LCt.ListComp_T (F₀ := by k_asm) (by with_unfolding_all rfl) (by decide) (by rfl) (by decide) (by rfl) ?_)
      k_steps
      refine LCt.CompSrcT.ledger (by rfl) (by k_asm) (by k_asm) (by k_mem) (by rw [sizeLine_eq]; simp only [List.size_toArray]; omega) ?_
      intro g8
      refine kci_list (fun l k => if (1 < k ∧ k ≤ top) then l else l ++ [k]) hM.out ?turn8 ?fin8 (fold_grows _)
      case turn8 =>
        intro k t I oI C oC D m₂ ys l h tk E' hk9 hI9 hC hx9 F9 N9 off ne _
        obtain ⟨full5, hfull5⟩ : ∃ full5, full5 = (M6, LCg.lst zs) :: (U, LCg.lst us) :: full := ⟨_, rfl⟩
        have hM5 : (M6, LCg.lst zs) ∈ full5 := by rw [hfull5]; exact .head _
        rw [← hfull5] at N9 off
        have hsub5 : ∀ p ∈ full, p ∈ full5 := fun p hp => by rw [hfull5]; exact .tail _ (.tail _ hp)
        replace hcell := hsub5 _ hcell
        replace hx := hsub5 _ hx
        replace hd := hsub5 _ hd
        k_steps
        all_goals rw [← hfull5]
        all_goals refine compEnd_close (t1 := []) rfl (by assumption) (by assumption) .nil off (.inr ⟨_, hM5, rfl, _, rfl⟩) ?_
        all_goals first
          | (refine ⟨rfl, _, _, rfl, ?_⟩; rw [if_neg (by omega)])
          | (refine ⟨rfl, ?_⟩; rw [if_pos (by omega)])
      case fin8 =>
        intro ys hys hyl
        unfold LCg.FinE
        intro D9 h9 tk9 F9 N9 o9
        replace hys : Hid (IntsAre ys ((ls.map Row.m).foldl (fun l k => if (1 < k ∧ k ≤ top) then l else l ++ [k]) [])) := ⟨hys⟩
        k_steps
        constructor
        k_dflt (refine ne_intsL (by k_asm) (.tail _ (.head _)) rfl rfl hys.out (.head _) rfl rfl .nil (by ktr_units) ?_ ?_)
        · intro hne
          k_steps
          exact hend false _ _ _ (by assumption) (by assumption) (fun p hp => .tail _ (.tail _ (.tail _ (.tail _ (hsub p hp))))) (iff_of_false Bool.false_ne_true fun hS => hne ((fold_nil (fun k => 1 < k ∧ k ≤ top) _).mpr hS.2.2.2.2.1))
        intro heq
        have hrngm : ∀ u ∈ ls.map Row.m, 1 < u ∧ u ≤ top := (fold_nil (fun k => 1 < k ∧ k ≤ top) _).mp heq
        clear hys heq
        rename_i _ _ _ N10 _
        replace N10 : News g' L' _ ((U, LCg.lst us) :: full) := fun p hp => N10 p (.tail _ (.tail _ (.tail _ hp)))
        k_steps
        k_dflt (refine For_unrF (by k_asm) ?_ (by intro _; rfl))
        k_steps
        refine gone_loop (fun i last => GoneOk nu top fl (ls.map Row.u) fl gs ↔ GoneOk nu top fl (ls.map Row.u) last (gs.drop i)) (by rfl) (News.isList (by k_asm) (by k_mem)) (by k_asm) (by k_asm) (News.ne_locals (by k_asm) (by k_mem)) (by rfl) Iff.rfl ?step10 ?fin10
        case step10 =>
          intro i v last t' vm vu h₁ tk₁ own full6 hP hR hfull6 F11 N11
          obtain ⟨g, hg1, hg2⟩ := hG.get (by simpa using hP)
          have hdrop : gs.drop i = g :: gs.drop (i + 1) := by
            obtain ⟨hlt, he⟩ := List.getElem?_eq_some_iff.mp hg1
            rw [List.drop_eq_getElem_cons hlt, he]
          rw [hdrop] at hR
          have hsub6 : ∀ p ∈ full, p ∈ full6 := fun p hp => by rw [hfull6]; exact List.mem_append_right _ (.tail _ hp)
          have hU6 : (U, LCg.lst us) ∈ full6 := by rw [hfull6]; exact List.mem_append_right _ (.head _)
          replace hcell := hsub6 _ hcell
          replace hx := hsub6 _ hx
          replace hd := hsub6 _ hd
          clear hl hg hb0
          obtain ⟨gu, gm⟩ := g
          cases gone_inv hg2 with | mk hgm =>
          clear hg2
          replace hgm := hsub6 _ hgm
          have hG1 : GoneOk nu top fl (ls.map Row.u) last ((gu, gm) :: gs.drop (i + 1)) → ((1 ≤ gu ∧ gu < nu) ∧ gu ∉ ls.map Row.u ∧ (last ≤ gm ∧ gm ≤ top) ∧ fl < gm) ∧ GoneOk nu top fl (ls.map Row.u) gm (gs.drop (i + 1)) := id
          have hG2 : ((1 ≤ gu ∧ gu < nu) ∧ gu ∉ ls.map Row.u ∧ (last ≤ gm ∧ gm ≤ top) ∧ fl < gm) ∧ GoneOk nu top fl (ls.map Row.u) gm (gs.drop (i + 1)) → GoneOk nu top fl (ls.map Row.u) last ((gu, gm) :: gs.drop (i + 1)) := id
          have hbad : ∀ h' tk' n', Fr h₀ L h' m → News h₀ L h' n' → (∀ p ∈ full6, p ∈ n') → ¬ ((1 ≤ gu ∧ gu < nu) ∧ gu ∉ ls.map Row.u ∧ (last ≤ gm ∧ gm ≤ top) ∧ fl < gm) → Q (.bool false) { s with heap := h', toks := tk' } := fun h' tk' n' F N hs hb =>
            hend false h' tk' n' F N (fun p hp => hs p (hsub6 p (hsub p hp))) (iff_of_false Bool.false_ne_true fun hS => hb (hG1 (hR.mp hS.2.2.2.2.2.1)).1)
          k_steps
          rotate_left
          · exact hbad _ _ _ (by assumption) (by assumption) (fun _ h => h) (by omega)
          · exact hbad _ _ _ (by assumption) (by assumption) (fun _ h => h) (by omega)
          constructor
          k_dflt (refine in_intsL (by k_asm) hU6 rfl rfl hU.out (by ktr_units) ?_ ?_)
          · intro hin
            k_steps
            exact hbad _ _ _ (by assumption) (by assumption) (fun _ h => h) (fun h => h.2.1 hin)
          intro hnin
          k_steps
          all_goals first
            | exact hbad _ _ _ (by assumption) (by assumption) (fun _ h => h) (by omega)
            | (subst hfull6; exact LoopStep3.next (LoopStep2.intro (by assumption) (by assumption) rfl ⟨rfl, gm, _, _, _, loopMap_next, hR.trans ⟨fun h => (hG1 h).2, fun h => hG2 ⟨⟨by omega, hnin, by omega, by omega⟩, h⟩⟩⟩))
        case fin10 =>
          intro last t' vm vu h' tk hR F11 N11
          have hSnd : Sound ⟨nu, top, fl, ls, gs⟩ ↔ 0 ≤ fl ∧ fl ≤ top :=
            ⟨fun h => h.2.2.2.2.2.2, fun h => ⟨hsort, hnd, hrng, hndm, hrngm, hR.mpr (by rw [List.drop_of_length_le (by rw [List.size_toArray, hG.length]; exact Nat.le_refl _)]; trivial), h.1, h.2⟩⟩
          clear hR
          k_steps
          all_goals exact hend _ _ _ _ (by assumption) (by assumption) (fun p hp => .tail _ (hsub p hp)) (by rw [hSnd, decide_eq_true_iff]; omega)
end Mine

end
section
open PySem PySem.W PySem.Calls PySem.Spec PyProof.Rows
set_option Elab.async false
set_option maxRecDepth 100000
set_option maxHeartbeats 8000000
namespace Mine
theorem fresh_T3 : True := by
  w_top off
  trivial
section
open LCg
variable {prog : Program} {w : World} {A : Around} {E : Value → Shared → Prop} {s : Shared} {h₀ : Heap} {L : Addr} {m : Str → Option Value} {env : Env}
abbrev tup (items : Array Value) (n : Nat) : Obj := { cls := .type "tuple", data := .seq items n }
def TupAt (ax : Addr) (items : Array Value) (news : List (Addr × Obj)) : Prop := ∃ n, (ax, tup items n) ∈ news
def SrcTup (prog : Program) (w : World) (A : Around) (h₀ : Heap) (L : Addr) (m : Str → Option Value) (env : Env) (elt : Expr) (x : Str) (scope : Scope) (cl : List (Str × Addr)) (Fin : Shared → List Value → List (Addr × Obj) → Prop) (xv : Value) (s₁ : Shared) : Prop :=
  ∃ ax items news, xv = .ref ax ∧ A.handled = none ∧ Fr h₀ L s₁.heap m ∧ News h₀ L s₁.heap news ∧ TupAt ax items news ∧ items.size ≤ sizeLine ∧
    ∀ s₂ : Shared, (∃ h, s₂ = { s₁ with heap := h }) → CompRest prog w A h₀ L m env elt x scope cl s₂ (TupAt ax items) (fun i v => items[i]? = some v) (Fin s₂) items.size 0 [] news
theorem SrcTup.ledger {elt : Expr} {x : Str} {scope : Scope} {cl : List (Str × Addr)} {Fin : Shared → List Value → List (Addr × Obj) → Prop} {ax : Addr} {items : Array Value} {k : Nat} {news : List (Addr × Obj)} {s₁ : Shared}
    (hh : A.handled = none) (F : Fr h₀ L s₁.heap m) (N : News h₀ L s₁.heap news) (hm : (ax, tup items k) ∈ news) (hsz : items.size ≤ sizeLine)
    (h : ∀ g, CompRest prog w A h₀ L m env elt x scope cl { s₁ with heap := g } (TupAt ax items) (fun i v => items[i]? = some v) (Fin { s₁ with heap := g }) items.size 0 [] news) :
    SrcTup prog w A h₀ L m env elt x scope cl Fin (.ref ax) s₁ := ⟨ax, items, news, rfl, hh, F, N, ⟨_, hm⟩, hsz, fun _ ⟨g, e⟩ => e ▸ h g⟩
theorem comp_tup {elt iter : Expr} {x : Str} {px : Pos} {scope : Scope} {cl : List (Str × Addr)} {pos : Pos} {Q : Value → Shared → Prop} (_F₀ : Fr h₀ L s.heap m)
    (hclos : closureFor scope env = pure cl) (hcell : ∀ y ∈ scope.names, y.2 ≠ .cell) (hkind : scope.kind = .function)
    (hnames : ∀ y ∈ scope.names, y.2 = .local → scope.names.lookup y.1 = some .local) (hx : scope.names.lookup x = some .local)
    (h : wpAny (model prog w) A (eval iter env) (SrcTup prog w A h₀ L m env elt x scope cl (fun s₂ => FinE h₀ L m s₂ Q)) E s)
    (hs : ∀ x, foldedSetIterable iter env x = pure x := by intro _; rfl) :
    wpAny (model prog w) A (eval (.ListComp elt [⟨.Name x px, iter, [], 0⟩] scope pos) env) Q E s := by
  rw [eval_ListComp]
  refine wpAny_comprehension_free (use := none) rfl hs hclos hkind hnames (wpAny_mono h (fun xv s₁ h₁ => ?_) fun _ _ e => e)
  obtain ⟨ax, items, news, rfl, hh, F, N, S, hsz, R⟩ := h₁
  have hl : s₁.heap.IsTuple ax items := by obtain ⟨n, hm⟩ := S; exact ⟨_, (N _ hm).1, rfl, n, rfl⟩
  have hlt : ax < s₁.heap.objs.size := by obtain ⟨_, e, _⟩ := hl; exact Heap.lt_size e
  refine wpAny_pyIter_tuple hl ?_
  have up : ∀ b o, s₁.heap.get? b = some o → (s₁.heap.push { cls := .type "tuple_iterator", data := .fields #[.ref ax, .int 0 0] }).get? b = some o := fun b o e => Heap.get?_push_of_some _ e
  refine block_U (Walks.tuple hh s₁.heap.objs.size ax (Nat.ne_of_lt hlt) items) hsz (fun i h st => by obtain ⟨o, e, _⟩ := st.1; exact ⟨o, e⟩)
    (fun i h h' o nw st e e' k N' S' => ⟨by obtain ⟨o', q, r⟩ := st.1; rw [e] at q; cases q; exact ⟨o, e', r⟩, by obtain ⟨n, hm⟩ := S'; exact ⟨_, (N' _ hm).1, rfl, n, rfl⟩⟩)
    hcell hkind hx ⟨⟨_, Heap.get?_push_size _ rfl, rfl, rfl⟩, hl.at fun o e => up _ o e⟩ (fun b hb => ?_)
    (F.keeps up) (N.grown up) (Nat.ne_of_lt F.ns.lt) (next_is_new F) (fun p hp => Nat.ne_of_lt (Heap.lt_size (N p hp).1)) S (R _ ⟨_, rfl⟩) ?_
  · show b < (s₁.heap.push _).objs.size
    rw [Heap.size_push]
    rcases List.mem_cons.mp hb with rfl | hb
    · exact Nat.lt_succ_self _
    · rw [List.mem_singleton.mp hb]; exact Nat.lt_succ_of_lt hlt
  · intro D C h tk m' ys news' F' N' o1 hn hC₀ hD₀ hCL hDL hCD offC fin
    refine ⟨m', hn, fun h'' hs'' => fin D h'' tk (F'.change hs'' hCL hC₀) (fun p hp => ?_) o1⟩
    refine ⟨hs''.extBut _ _ ?_ (N' p hp).1, (N' p hp).2⟩
    rcases List.mem_cons.mp hp with rfl | hp
    · exact Ne.symm hCD
    · exact offC p hp
end
end Mine

end
section
open PySem PySem.W PySem.Calls PySem.Spec PyProof.Rows
set_option Elab.async false
set_option maxRecDepth 100000
set_option maxHeartbeats 8000000
namespace Mine
theorem fresh_T4 : True := by
  w_top off
  trivial
section
variable {prog : Program} {w : World} {A : Around} {E : Value → Shared → Prop} {s : Shared} {h₀ : Heap} {L D : Addr} {m : Str → Option Value} {news news' : List (Addr × Obj)} {vs : List Value} {ns : List Int} {n : Nat} {k x : Int} {t u : Tok}
theorem ints_at {vs : List Value} {ns : List Int} (h : IntsAre vs ns) (k : Nat) (hk : k < ns.length) : ∃ t, vs[k]? = some (.int (ns.getD k 0) t) := by
  induction h generalizing k with
  | nil => exact absurd hk (Nat.not_lt_zero _)
  | cons n t _ ih =>
    cases k with
    | zero => exact ⟨t, rfl⟩
    | succ k => exact ih k (Nat.lt_of_succ_lt_succ hk)
theorem ints_set {vs : List Value} {ns : List Int} {x : Int} {t : Tok} (h : IntsAre vs ns) (k : Nat) : IntsAre (vs.set k (.int x t)) (ns.set k x) := by
  induction h generalizing k with
  | nil => exact .nil
  | cons n t' r ih =>
    cases k with
    | zero => exact .cons x t r
    | succ k => exact .cons n t' (ih k)
theorem li_get {Q : Value → Shared → Prop} (N : News h₀ L s.heap news) (hm : (D, listOf vs.toArray n) ∈ news) (hi : IntsAre vs ns) (h0 : 0 ≤ k) (h1 : k < ns.length) (hl : ns.length ≤ 64) (h : ∀ t, Q (.int (ns.getD k.toNat 0) t) s) :
    wpAny (model prog w) A (getItem (.ref D) (.int k u)) Q E s := by
  obtain ⟨t, hx⟩ := ints_at hi k.toNat (by omega)
  exact wpAny_getItem_list (PySem.IsL.isList (n := n) (N _ hm).1) h0 (by omega) (by simpa using hx) (h t)
theorem li_sub {value slice : PySem.Expr} {Q : Value → Shared → Prop} (N : News h₀ L s.heap news) (hm : (D, listOf vs.toArray n) ∈ news) (hi : IntsAre vs ns) (h0 : 0 ≤ k) (h1 : k < ns.length) (hl : ns.length ≤ 64) (h : ∀ t, Q (.int (ns.getD k.toNat 0) t) s)
    (hs : subscripted slice false (.ref D) (.int k u) = operate [.ref D, .int k u] (getItem (.ref D) (.int k u)) := by with_unfolding_all rfl) :
    wpAny (model prog w) A (subscriptTail value slice (.ref D) (.int k u)) Q E s :=
  tail_any (PySem.IsL.isList (n := n) (N _ hm).1).typeIs slot_list_getitem.lookup (li_get N hm hi h0 h1 hl h) hs
theorem li_set {Q : Unit → Shared → Prop} (F : Fr h₀ L s.heap m) (N : News h₀ L s.heap news) (U : Upd D (listOf vs.toArray n) (listOf (vs.set k.toNat (.int x u)).toArray n) news news') (hi : IntsAre vs ns) (h0 : 0 ≤ k) (h1 : k < ns.length) (hl : ns.length ≤ 64)
    (h : ∀ h', Fr h₀ L h' m → News h₀ L h' news' → IntsAre (vs.set k.toNat (.int x u)) (ns.set k.toNat x) → Q () { s with heap := h' }) :
    wpAny (model prog w) A (setItem (.ref D) (.int k t) (.int x u)) Q E s := by
  obtain ⟨pre, post, rfl, rfl, a, b'⟩ := U.split
  have z := N (D, listOf vs.toArray n) (List.mem_append.mpr (.inr (.head _)))
  have hs : vs.toArray.size = ns.length := by rw [List.size_toArray]; exact IntsAre.length hi
  refine ki_setAt z.1 h0 (by omega) (by omega) (h _ (F.change (Heap.SameBut.update ..) z.2.1 z.2.2) (ki_turn _ N a b' ?_ ?_) (ints_set hi _))
  · show vs.toArray.setIfInBounds k.toNat (.int x u) = (vs.set k.toNat (.int x u)).toArray
    apply Array.toList_inj.mp
    simp
  · simp
end
def LStepD (Qr : Value → Shared → Prop) (J : Heap → Prop) (s : Shared) (f : Flow) (s₂ : Shared) : Prop :=
  match f with
  | .ret v => Qr v s₂
  | .next => ∃ h' tk, s₂ = { s with heap := h', toks := tk } ∧ J h'
  | _ => False
structure LStep (Qr : Value → Shared → Prop) (J : Heap → Prop) (s : Shared) (f : Flow) (s₂ : Shared) : Prop where
  out : LStepD Qr J s f s₂
theorem LStep.ret {Qr : Value → Shared → Prop} {J : Heap → Prop} {s s₂ : Shared} {v : Value} (h : Qr v s₂) : LStep Qr J s (.ret v) s₂ := ⟨h⟩
theorem LStep.next {Qr : Value → Shared → Prop} {J : Heap → Prop} {s : Shared} {h' : Heap} {tk : Nat} (h : J h') : LStep Qr J s .next { s with heap := h', toks := tk } := ⟨⟨h', tk, rfl, h⟩⟩
abbrev map2 (Mb : Str → Option Value) (l : Value) (vl : Option Value) : Str → Option Value := fun y => if y = Str.ofString "before" then some l else if y = Str.ofString "letter" then vl else Mb y
theorem map2_self {Mb : Str → Option Value} {l : Value} (h : Mb (Str.ofString "before") = some l) : Mb = map2 Mb l (Mb (Str.ofString "letter")) := by
  funext y
  unfold map2
  by_cases h1 : y = Str.ofString "before"
  · rw [if_pos h1, h1]; exact h
  · rw [if_neg h1]
    by_cases h2 : y = Str.ofString "letter"
    · rw [if_pos h2, h2]
    · rw [if_neg h2]
theorem map2_next {Mb : Str → Option Value} {l l' : Value} {vl : Option Value} {a : Value} : (fun y => if y = Str.ofString "before" then some l' else if y = Str.ofString "letter" then some a else map2 Mb l vl y) = map2 Mb l' (some a) := by
  funext y
  unfold map2
  by_cases h1 : y = Str.ofString "before" <;> by_cases h2 : y = Str.ofString "letter" <;> simp only [h1, h2, if_true, if_false]
section
variable {prog : Program} {w : World} {A : Around} {E : Value → Shared → Prop} {s : Shared} {env : Env} {h₀ : Heap} {target : Expr} {body : List Stmt} {Q : Flow → Shared → Prop}
def LInv (h₀ : Heap) (L : Addr) (Mb : Str → Option Value) (la ma : Addr) (rest : List (Addr × Obj)) (St : Int → List Int → List Int → Prop) (h : Heap) : Prop :=
  ∃ (bf : Int) (tb : Tok) (vl : Option Value) (lv mv : List Value) (ln mn : List Int) (nl nm : Nat), Fr h₀ L h (map2 Mb (.int bf tb) vl) ∧ News h₀ L h ((ma, listOf mv.toArray nm) :: (la, listOf lv.toArray nl) :: rest) ∧ IntsAre lv ln ∧ IntsAre mv mn ∧ St bf ln mn
theorem letter_loop {Mb : Str → Option Value} {full : List (Addr × Obj)} {t la ma : Addr} {items : Array Value} {k : Nat} {l0 : Int} {t0 : Tok} {lv mv : List Value} {ln mn : List Int} {nl nm : Nat} (St : Nat → Int → List Int → List Int → Prop)
    (hh : A.handled = none) (ht : (t, tup items k) ∈ full) (F : Fr h₀ env.locals s.heap Mb) (N : News h₀ env.locals s.heap ((ma, listOf mv.toArray nm) :: (la, listOf lv.toArray nl) :: full)) (hla : ∀ p ∈ full, p.1 ≠ la) (hma : ∀ p ∈ full, p.1 ≠ ma)
    (start : Mb (Str.ofString "before") = some (.int l0 t0)) (i1 : IntsAre lv ln) (i2 : IntsAre mv mn) (h0 : St 0 l0 ln mn)
    (step : ∀ i v bf tb vl h₁ tk₁ rest lv mv ln mn nl nm, items[i]? = some v → St i bf ln mn → IntsAre lv ln → IntsAre mv mn → (∀ p ∈ full, p ∈ rest) → (∀ p ∈ rest, p.1 ≠ la) → (∀ p ∈ rest, p.1 ≠ ma) → Fr h₀ env.locals h₁ (map2 Mb (.int bf tb) vl) →
      News h₀ env.locals h₁ ((ma, listOf mv.toArray nm) :: (la, listOf lv.toArray nl) :: rest) →
      wpAny (model prog w) A (assign target env v) (fun _ s₂ => wpAny (model prog w) A (execs body env) (LStep (fun v s' => Q (.ret v) s') (LInv h₀ env.locals Mb la ma rest (St (i + 1))) { s with heap := h₁, toks := tk₁ }) E s₂) E { s with heap := h₁, toks := tk₁ })
    (fin : ∀ h' tk, LInv h₀ env.locals Mb la ma full (St items.size) h' → Q .next { s with heap := h', toks := tk }) :
    wpAny (model prog w) A (pyIter (.ref t)) (fun it s₂ => UnrAt prog w A h₀ env target body Q E it s₂) E s := by
  have hf : ∀ p ∈ full, p ∈ (ma, listOf mv.toArray nm) :: (la, listOf lv.toArray nl) :: full := fun p hp => .tail _ (.tail _ hp)
  have hls : la < s.heap.objs.size := Heap.lt_size (N _ (.tail _ (.head _))).1
  have hms : ma < s.heap.objs.size := Heap.lt_size (N _ (.head _)).1
  refine Iter_tuple_unr hh (News.isTup N (hf _ ht)) F N (News.ne_locals N (hf _ ht)) (unr_ind (n := items.size) (fun i m n => ∃ (bf : Int) (tb : Tok) (vl : Option Value) (lv mv : List Value) (ln mn : List Int) (nl nm : Nat), n = (ma, listOf mv.toArray nm) :: (la, listOf lv.toArray nl) :: full ∧ m = map2 Mb (.int bf tb) vl ∧ IntsAre lv ln ∧ IntsAre mv mn ∧ St i bf ln mn)
    ?_ ?_ _ 0 _ _ (Nat.zero_add _) ⟨_, _, _, _, _, _, _, _, _, rfl, map2_self start, i1, i2, h0⟩)
  · rintro i m n hi ⟨bf, tb, vl, lv, mv, ln, mn, nl, nm, rfl, rfl, j1, j2, j3⟩ v h₁ tk₁ own hP ho F1 N1
    have hown : ∀ p ∈ own, p.1 ≠ la ∧ p.1 ≠ ma := fun p hp => by
      have := ho p hp
      rcases List.mem_cons.mp this with e | e
      · rw [e]; exact ⟨Nat.ne_of_gt hls, Nat.ne_of_gt hms⟩
      · rw [List.mem_singleton.mp e]; exact ⟨hla _ ht, hma _ ht⟩
    refine wpAny_mono (step i v bf tb vl h₁ tk₁ (own ++ full) lv mv ln mn nl nm hP j3 j1 j2 (fun p hp => List.mem_append_right _ hp) (fun p hp => (List.mem_append.mp hp).elim (fun h => (hown p h).1) (hla p)) (fun p hp => (List.mem_append.mp hp).elim (fun h => (hown p h).2) (hma p)) F1 ?_) (fun _ s' hy => wpAny_mono hy (fun f s'' hz => ?_) fun _ _ e => e) fun _ _ e => e
    · intro p hp
      refine N1 p ?_
      simp only [List.mem_cons, List.mem_append] at hp ⊢
      rcases hp with h | h | h | h
      · exact .inr (.inl h)
      · exact .inr (.inr (.inl h))
      · exact .inl h
      · exact .inr (.inr (.inr h))
    · cases f with
      | ret v => exact hz.out
      | brk => exact hz.out.elim
      | cont => exact hz.out.elim
      | next =>
        obtain ⟨h', tk, e, bf', tb', vl', lv', mv', ln', mn', nl', nm', F2, N2, k1, k2, k3⟩ := hz.out
        refine LoopStep3.next ⟨rfl, h', tk, _, (ma, listOf mv'.toArray nm') :: (la, listOf lv'.toArray nl') :: full, e, F2, fun p hp => N2 p ?_, rfl, _, _, _, _, _, _, _, _, _, rfl, rfl, k1, k2, k3⟩
        simp only [List.mem_cons, List.mem_append] at hp ⊢
        rcases hp with h | h | h | h
        · exact .inr (.inr (.inl h))
        · exact .inl h
        · exact .inr (.inl h)
        · exact .inr (.inr (.inr h))
  · rintro m n ⟨bf, tb, vl, lv, mv, ln, mn, nl, nm, rfl, rfl, j1, j2, j3⟩ h' tk F1 N1
    exact fin h' tk ⟨bf, tb, vl, lv, mv, ln, mn, nl, nm, F1, N1, j1, j2, j3⟩
end
end Mine
namespace Mine
abbrev map3 (Mb : Str → Option Value) (l : Value) (vm vu : Option Value) : Str → Option Value := fun y => if y = Str.ofString "least" then some l else if y = Str.ofString "modseq" then vm else if y = Str.ofString "uid" then vu else Mb y
theorem map3_self {Mb : Str → Option Value} {l : Value} (h : Mb (Str.ofString "least") = some l) : Mb = map3 Mb l (Mb (Str.ofString "modseq")) (Mb (Str.ofString "uid")) := by
  funext y
  unfold map3
  by_cases h1 : y = Str.ofString "least"
  · rw [if_pos h1, h1]; exact h
  · rw [if_neg h1]
    by_cases h2 : y = Str.ofString "modseq"
    · rw [if_pos h2, h2]
    · rw [if_neg h2]
      by_cases h3 : y = Str.ofString "uid"
      · rw [if_pos h3, h3]
      · rw [if_neg h3]
theorem map3_next {Mb : Str → Option Value} {l l' : Value} {vm vu : Option Value} {a b : Value} : (fun y => if y = Str.ofString "least" then some l' else if y = Str.ofString "modseq" then some a else if y = Str.ofString "uid" then some b else map3 Mb l vm vu y) = map3 Mb l' (some a) (some b) := by
  funext y
  unfold map3
  by_cases h1 : y = Str.ofString "least" <;> by_cases h2 : y = Str.ofString "modseq" <;> by_cases h3 : y = Str.ofString "uid" <;> simp only [h1, h2, h3, if_true, if_false]
section
variable {prog : Program} {w : World} {A : Around} {E : Value → Shared → Prop} {s : Shared} {env : Env} {h₀ : Heap} {target : Expr} {body : List Stmt} {Q : Flow → Shared → Prop}
def GInv (h₀ : Heap) (L : Addr) (Mb : Str → Option Value) (full : List (Addr × Obj)) (St : Int → Prop) (h : Heap) : Prop :=
  ∃ (l : Int) (t : Tok) (vm vu : Option Value), Fr h₀ L h (map3 Mb (.int l t) vm vu) ∧ News h₀ L h full ∧ St l
theorem gone_loopT {Mb : Str → Option Value} {news : List (Addr × Obj)} {t : Addr} {items : Array Value} {k : Nat} {l0 : Int} {t0 : Tok} (R : Nat → Int → Prop)
    (hh : A.handled = none) (ht : (t, tup items k) ∈ news) (F : Fr h₀ env.locals s.heap Mb) (N : News h₀ env.locals s.heap news) (start : Mb (Str.ofString "least") = some (.int l0 t0)) (h0 : R 0 l0)
    (step : ∀ i v l t' vm vu h₁ tk₁ rest, items[i]? = some v → R i l → (∀ p ∈ news, p ∈ rest) → Fr h₀ env.locals h₁ (map3 Mb (.int l t') vm vu) → News h₀ env.locals h₁ rest →
      wpAny (model prog w) A (assign target env v) (fun _ s₂ => wpAny (model prog w) A (execs body env) (LStep (fun v s' => Q (.ret v) s') (GInv h₀ env.locals Mb rest (R (i + 1))) { s with heap := h₁, toks := tk₁ }) E s₂) E { s with heap := h₁, toks := tk₁ })
    (fin : ∀ h' tk, GInv h₀ env.locals Mb news (R items.size) h' → Q .next { s with heap := h', toks := tk }) :
    wpAny (model prog w) A (pyIter (.ref t)) (fun it s₂ => UnrAt prog w A h₀ env target body Q E it s₂) E s := by
  refine Iter_tuple_unr hh (News.isTup N ht) F N (News.ne_locals N ht) (unr_ind (n := items.size) (fun i m n => n = news ∧ ∃ l t' vm vu, m = map3 Mb (.int l t') vm vu ∧ R i l) ?_ ?_ _ 0 _ _ (Nat.zero_add _) ⟨rfl, _, _, _, _, map3_self start, h0⟩)
  · rintro i m n hi ⟨rfl, l, t', vm, vu, rfl, hR⟩ v h₁ tk₁ own hP ho F1 N1
    refine wpAny_mono (step i v l t' vm vu h₁ tk₁ (own ++ n) hP hR (fun p hp => List.mem_append_right _ hp) F1 N1) (fun _ s' hy => wpAny_mono hy (fun f s'' hz => ?_) fun _ _ e => e) fun _ _ e => e
    cases f with
    | ret v => exact hz.out
    | brk => exact hz.out.elim
    | cont => exact hz.out.elim
    | next =>
      obtain ⟨h', tk, e, l', tl', vm', vu', F2, N2, k3⟩ := hz.out
      exact LoopStep3.next ⟨rfl, h', tk, _, n, e, F2, N2, rfl, rfl, _, _, _, _, rfl, k3⟩
  · rintro m n ⟨rfl, l, t', vm, vu, rfl, hR⟩ h' tk F1 N1
    exact fin h' tk ⟨l, t', vm, vu, F1, N1, hR⟩
end
end Mine
namespace Mine
theorem fr_next2 {h₀ h : Heap} {L : Addr} {Mb : Str → Option Value} {l l' : Value} {vl : Option Value} {a : Value} (F : Fr h₀ L h (fun y => if y = Str.ofString "before" then some l' else if y = Str.ofString "letter" then some a else map2 Mb l vl y)) : Fr h₀ L h (map2 Mb l' (some a)) := map2_next ▸ F
theorem fr_next3 {h₀ h : Heap} {L : Addr} {Mb : Str → Option Value} {l l' : Value} {vm vu : Option Value} {a b : Value} (F : Fr h₀ L h (fun y => if y = Str.ofString "least" then some l' else if y = Str.ofString "modseq" then some a else if y = Str.ofString "uid" then some b else map3 Mb l vm vu y)) : Fr h₀ L h (map3 Mb l' (some a) (some b)) := map3_next ▸ F
end Mine

end
section
open PySem PySem.W PySem.Calls PySem.Spec PyProof.Rows
set_option Elab.async false
namespace Mine
structure LSt (nu top : Int) (ls : List Row) (i : Nat) (bf : Int) (ln mn : List Int) : Prop where
  l1 : ln.length = 12
  l2 : mn.length = 12
  line : ∀ k : Nat, k < 12 → ln.getD k 0 = if (k : Int) ∈ (ls.take i).map Row.u then 1 else 0
  marks : ∀ k : Nat, k < 12 → mn.getD k 0 = (((ls.take i).map Row.m).count (k : Int) : Nat)
  us : ∀ u ∈ (ls.take i).map Row.u, 1 ≤ u ∧ u < nu ∧ u ≤ bf
  ord : ((ls.take i).map Row.u).Pairwise (· < ·)
  ms : ∀ m ∈ (ls.take i).map Row.m, 1 < m ∧ m ≤ top
  b0 : 0 ≤ bf
  b1 : bf = 0 ∨ bf ∈ (ls.take i).map Row.u
theorem getD_set {l : List Int} {k j : Nat} {x : Int} (h : j < l.length) : (l.set k x).getD j 0 = if k = j then x else l.getD j 0 := by
  simp only [List.getD_eq_getElem?_getD, List.getElem?_set]
  by_cases e : k = j
  · subst e; simp [h]
  · simp [e]
theorem rep12 (k : Nat) : (List.replicate 12 (0 : Int)).getD k 0 = 0 := by
  rw [List.getD_eq_getElem?_getD, List.getElem?_replicate]
  split <;> rfl
theorem LSt.start (nu top : Int) (ls : List Row) : LSt nu top ls 0 0 (List.replicate 12 0) (List.replicate 12 0) where
  l1 := rfl
  l2 := rfl
  line := fun k hk => by rw [rep12, if_neg (by simp)]
  marks := fun k hk => by rw [rep12]; simp
  us := fun u h => by simp at h
  ord := by simp
  ms := fun u h => by simp at h
  b0 := by omega
  b1 := .inl rfl
theorem LSt.next {nu top : Int} {ls : List Row} {i : Nat} {bf : Int} {ln mn : List Int} (h : LSt nu top ls i bf ln mn) {r : Row} (hr : ls[i]? = some r) (hnu : nu ≤ 12) (htop : top ≤ 11) (c1 : bf < r.u) (c2 : r.u < nu) (c3 : 1 < r.m) (c4 : r.m ≤ top) :
    LSt nu top ls (i + 1) r.u (ln.set r.u.toNat 1) (mn.set r.m.toNat (mn.getD r.m.toNat 0 + 1)) := by
  have e := take_snoc hr
  have hb := h.b0
  have e1 : (ls.take (i + 1)).map Row.u = (ls.take i).map Row.u ++ [r.u] := by rw [e, List.map_append]; rfl
  have e2 : (ls.take (i + 1)).map Row.m = (ls.take i).map Row.m ++ [r.m] := by rw [e, List.map_append]; rfl
  refine ⟨by rw [List.length_set]; exact h.l1, by rw [List.length_set]; exact h.l2, fun k hk => ?_, fun k hk => ?_, ?_, ?_, ?_, by omega, ?_⟩
  · rw [getD_set (by rw [h.l1]; exact hk), e1, h.line k hk]
    by_cases hku : r.u.toNat = k
    · rw [if_pos hku, if_pos]
      rw [List.mem_append, List.mem_singleton]; right; omega
    · rw [if_neg hku]
      have hiff : ((k : Int) ∈ (ls.take i).map Row.u ++ [r.u]) ↔ ((k : Int) ∈ (ls.take i).map Row.u) := by
        rw [List.mem_append, List.mem_singleton]
        exact ⟨fun x => x.elim id fun y => absurd (by omega) hku, .inl⟩
      simp only [hiff]
  · rw [getD_set (by rw [h.l2]; exact hk), e2, List.count_append, h.marks k hk]
    by_cases hku : r.m.toNat = k
    · have hk2 : r.m = (k : Int) := by omega
      rw [if_pos hku, hku, h.marks k hk, hk2]
      simp
    · rw [if_neg hku]
      have hk2 : r.m ≠ (k : Int) := by omega
      rw [List.count_singleton, if_neg (by simpa using hk2)]
      simp
  · rw [e1]
    intro u hu
    rcases List.mem_append.mp hu with hu | hu
    · have := h.us u hu; omega
    · rw [List.mem_singleton.mp hu]; omega
  · rw [e1, List.pairwise_append]
    refine ⟨h.ord, by simp, fun a ha b hb2 => ?_⟩
    rw [List.mem_singleton.mp hb2]
    have := h.us a ha; omega
  · rw [e2]
    intro u hu
    rcases List.mem_append.mp hu with hu | hu
    · exact h.ms u hu
    · rw [List.mem_singleton.mp hu]; exact ⟨c3, c4⟩
  · rw [e1]; right; simp
theorem LSt.bad {nu top fl : Int} {ls : List Row} {gs : List (Int × Int)} {i : Nat} {bf : Int} {ln mn : List Int} (h : LSt nu top ls i bf ln mn) {r : Row} (hr : ls[i]? = some r) (hc : ¬ (bf < r.u ∧ r.u < nu ∧ 1 < r.m ∧ r.m ≤ top)) : ¬ Sound ⟨nu, top, fl, ls, gs⟩ := by
  rintro ⟨s1, s2, s3, s4, s5, -⟩
  dsimp only at s1 s2 s3 s4 s5
  have hmem : r ∈ ls := List.mem_of_getElem? hr
  have hu := s3 r.u (List.mem_map_of_mem hmem)
  have hm := s5 r.m (List.mem_map_of_mem hmem)
  refine hc ⟨?_, hu.2, hm.1, hm.2⟩
  rcases h.b1 with hb | hb
  · omega
  · obtain ⟨hlt, he⟩ := List.getElem?_eq_some_iff.mp hr
    have hsplit : ls.map Row.u = (ls.take i).map Row.u ++ (r.u :: (ls.drop (i + 1)).map Row.u) := by
      rw [← List.map_cons, ← he, ← List.drop_eq_getElem_cons hlt, ← List.map_append, List.take_append_drop]
    rw [hsplit] at s1 s2
    have p1 := (List.pairwise_append.mp s1).2.2 bf hb r.u (.head _)
    have p2 := (List.nodup_append.mp s2).2.2 bf hb r.u (.head _)
    omega
theorem LSt.goods {nu top : Int} {ls : List Row} {bf : Int} {ln mn : List Int} (h : LSt nu top ls ls.length bf ln mn) : (ls.map Row.u).Pairwise (· ≤ ·) ∧ (ls.map Row.u).Nodup ∧ (∀ u ∈ ls.map Row.u, 1 ≤ u ∧ u < nu) ∧ (∀ m ∈ ls.map Row.m, 1 < m ∧ m ≤ top) := by
  have h1 := h.ord
  have h2 := h.us
  have h3 := h.ms
  rw [List.take_length] at h1 h2 h3
  exact ⟨h1.imp fun x => Int.le_of_lt x, h1.imp fun x => Int.ne_of_lt x, fun u hu => ⟨(h2 u hu).1, (h2 u hu).2.1⟩, h3⟩
theorem LSt.dup {nu top : Int} {ls : List Row} {bf M : Int} {ln mn : List Int} (h : LSt nu top ls ls.length bf ln mn) (htop : top ≤ 11) (h1 : M ∈ mn) (h2 : ∀ a ∈ mn, a ≤ M) : (ls.map Row.m).Nodup ↔ M ≤ 1 := by
  have hm := h.marks
  have hms := h.ms
  rw [List.take_length] at hm hms
  constructor
  · intro hn
    obtain ⟨k, hk, he⟩ := List.getElem_of_mem h1
    have := hm k (by rw [← h.l2]; exact hk)
    rw [List.getD_eq_getElem?_getD, List.getElem?_eq_getElem hk, Option.getD_some, he] at this
    have c := List.nodup_iff_count.mp hn (k : Int)
    omega
  · intro hM
    refine List.nodup_iff_count.mpr fun a => ?_
    by_cases ha : a ∈ ls.map Row.m
    · have hr := hms a ha
      have hk := hm a.toNat (by omega)
      have e : ((a.toNat : Nat) : Int) = a := by omega
      rw [e] at hk
      have hlt : a.toNat < mn.length := by rw [h.l2]; omega
      have hmem : mn.getD a.toNat 0 ∈ mn := by rw [List.getD_eq_getElem?_getD, List.getElem?_eq_getElem hlt, Option.getD_some]; exact List.getElem_mem hlt
      have := h2 _ hmem
      omega
    · rw [List.count_eq_zero_of_not_mem ha]; omega
end Mine

end
section
open PySem PySem.W PySem.Calls PySem.Spec PyProof.Rows PySem.SeqAt
set_option Elab.async false
namespace Mine
def cmpb : Nat → Dat → Dat → Bool
  | _, .int _, .int _ => true
  | _, .str _, .str _ => true
  | _, .bytes _, .bytes _ => true
  | n + 1, .tuple ds, .tuple es => (ds.zip es).all fun p => cmpb n p.1 p.2
  | _, _, _ => false
section
variable {h₀ h : Heap} {L : Addr} {news : List (Addr × Obj)}
theorem seq_same {vs us : List Value} {n k : Nat} {c d : Value} (e : some ({ cls := c, data := .seq vs.toArray n } : Obj) = some { cls := d, data := .seq us.toArray k }) : c = d ∧ vs = us := by
  injection e with e
  injection e with e1 _ e2 _
  injection e2 with e2 _
  exact ⟨e1, by simpa using e2⟩
mutual
theorem dat_unique (N : News h₀ L h news) : ∀ {v : Value} {d e : Dat}, DatIn news v d → DatIn news v e → d = e
  | _, _, _, .none, y => by cases y; rfl
  | _, _, _, .bool b, y => by cases y; rfl
  | _, _, _, .int i t, y => by cases y; rfl
  | _, _, _, .str x t, y => by cases y; rfl
  | _, _, _, .bytes x t, y => by cases y; rfl
  | _, _, _, .tuple hm r, y => by
    cases y with
    | tuple hm2 r2 =>
      obtain ⟨-, e⟩ := seq_same ((N _ hm).1.symm.trans (N _ hm2).1)
      subst e
      rw [datAll_unique N r r2]
    | list hm2 r2 =>
      obtain ⟨e, -⟩ := seq_same ((N _ hm).1.symm.trans (N _ hm2).1)
      exact absurd e (by simp)
  | _, _, _, .list hm r, y => by
    cases y with
    | list hm2 r2 =>
      obtain ⟨-, e⟩ := seq_same ((N _ hm).1.symm.trans (N _ hm2).1)
      subst e
      rw [datAll_unique N r r2]
    | tuple hm2 r2 =>
      obtain ⟨e, -⟩ := seq_same ((N _ hm).1.symm.trans (N _ hm2).1)
      exact absurd e (by simp)
theorem datAll_unique (N : News h₀ L h news) : ∀ {vs : List Value} {ds es : List Dat}, DatAll news vs ds → DatAll news vs es → ds = es
  | _, _, _, .nil, y => by cases y; rfl
  | _, _, _, .cons a r, y => by
    cases y with
    | cons b r2 => rw [dat_unique N a b, datAll_unique N r r2]
end
end
open Classical in
theorem tup_bits (ds es : List Dat) : ((List.range (min ds.length es.length)).all (fun j => decide (ds.getD j .none = es.getD j .none)) && ds.length == es.length) = decide (ds = es) := by
  rw [Bool.eq_iff_iff, Bool.and_eq_true, decide_eq_true_iff, List.all_eq_true, beq_iff_eq]
  constructor
  · rintro ⟨h1, h2⟩
    refine List.ext_getElem h2 fun j a b => ?_
    have := h1 j (List.mem_range.mpr (by omega))
    rw [decide_eq_true_iff, List.getD_eq_getElem?_getD, List.getD_eq_getElem?_getD, List.getElem?_eq_getElem a, List.getElem?_eq_getElem b] at this
    exact this
  · rintro rfl
    exact ⟨fun j _ => by simp, rfl⟩
theorem datAll_get {news : List (Addr × Obj)} : ∀ {vs : List Value} {ds : List Dat}, DatAll news vs ds → ∀ (j : Nat) (a : j < vs.length), j < ds.length ∧ DatIn news vs[j] (ds.getD j .none)
  | _, _, .nil, j, a => absurd a (Nat.not_lt_zero _)
  | _, _, .cons x r, 0, a => ⟨Nat.zero_lt_succ _, x⟩
  | _, _, .cons x r, j + 1, a => by
    obtain ⟨p, q⟩ := datAll_get r j (Nat.lt_of_succ_lt_succ a)
    exact ⟨Nat.succ_lt_succ p, q⟩
theorem zip_get {ds es : List Dat} {f : Dat × Dat → Bool} (h : (ds.zip es).all f = true) {j : Nat} (a : j < ds.length) (b : j < es.length) : f (ds.getD j .none, es.getD j .none) = true := by
  refine List.all_eq_true.mp h _ ?_
  rw [List.getD_eq_getElem?_getD, List.getD_eq_getElem?_getD, List.getElem?_eq_getElem a, List.getElem?_eq_getElem b, Option.getD_some, Option.getD_some]
  have hlt : j < (ds.zip es).length := by rw [List.length_zip]; omega
  have := List.getElem_mem hlt
  rw [List.getElem_zip] at this
  exact this
open Classical in
theorem eqAt_dat {h₀ : Heap} {L : Addr} {news : List (Addr × Obj)} {s : Shared} (N : News h₀ L s.heap news) : ∀ (n : Nat) (d e : Dat) (A : Around) (v u : Value), cmpb n d e = true → DatIn news v d → DatIn news u e → A.units + n < cLine → EqAt A s v u (decide (d = e)) := by
  intro n
  induction n with
  | zero =>
    intro d e A v u hc hd he hu
    cases hd <;> cases he <;> simp only [cmpb, Bool.false_eq_true] at hc
    · rename_i a ta b tb
      have := EqAt.int_int (A := A) (s := s) a ta b tb
      rwa [show (a == b) = decide (Dat.int a = Dat.int b) by rw [Bool.eq_iff_iff]; simp] at this
    · rename_i a ta b tb
      have := EqAt.str_str (A := A) (s := s) a ta b tb
      rwa [show (a == b) = decide (Dat.str a = Dat.str b) by rw [Bool.eq_iff_iff]; simp] at this
    · rename_i a _ b _
      intro prog w E Q hq
      refine eqBool_bytes ?_
      rwa [show decide (a.toList = b.toList) = decide (Dat.bytes a = Dat.bytes b) by rw [Bool.eq_iff_iff]; simp [Array.toList_inj]]
  | succ n ih =>
    intro d e A v u hc hd he hu
    cases hd <;> cases he <;> simp only [cmpb, Bool.false_eq_true] at hc
    · rename_i a ta b tb
      have := EqAt.int_int (A := A) (s := s) a ta b tb
      rwa [show (a == b) = decide (Dat.int a = Dat.int b) by rw [Bool.eq_iff_iff]; simp] at this
    · rename_i a ta b tb
      have := EqAt.str_str (A := A) (s := s) a ta b tb
      rwa [show (a == b) = decide (Dat.str a = Dat.str b) by rw [Bool.eq_iff_iff]; simp] at this
    · rename_i a _ b _
      intro prog w E Q hq
      refine eqBool_bytes ?_
      rwa [show decide (a.toList = b.toList) = decide (Dat.bytes a = Dat.bytes b) by rw [Bool.eq_iff_iff]; simp [Array.toList_inj]]
    · rename_i a vs k ds hm r b us k2 es hm2 r2
      by_cases hab : a = b
      · subst hab
        have := dat_unique N (.tuple hm r) (.tuple hm2 r2)
        rw [decide_eq_true this]
        exact EqAt.same _
      · refine EqAt.of_refs hab ?_
        have q := RcAt.tuples (A := A) (s := s) (e := fun j => decide (ds.getD j .none = es.getD j .none)) (⟨_, (N _ hm).1, rfl, _, rfl⟩ : s.heap.IsTuple a vs.toArray) (⟨_, (N _ hm2).1, rfl, _, rfl⟩ : s.heap.IsTuple b us.toArray) (by omega) (fun j h1 h2 => by
          obtain ⟨p1, p2⟩ := datAll_get r j (by simpa using h1)
          obtain ⟨q1, q2⟩ := datAll_get r2 j (by simpa using h2)
          have z := ih _ _ A.in1 _ _ (zip_get hc p1 q1) p2 q2 (by rw [units_in1]; omega)
          simpa using z)
        rw [List.size_toArray, List.size_toArray, r.length, r2.length, tup_bits] at q
        rwa [show decide (ds = es) = decide (Dat.tuple ds = Dat.tuple es) by rw [Bool.eq_iff_iff]; simp] at q
section
variable {prog : Program} {w : World} {A : Around} {E : Value → Shared → Prop} {s : Shared} {h₀ : Heap} {L : Addr} {news : List (Addr × Obj)} {Q : Value → Shared → Prop}
open Classical in
theorem eq_dats {n : Nat} {v u : Value} {ds es : List Dat} (N : News h₀ L s.heap news) (hc : cmpb (n + 1) (.tuple ds) (.tuple es) = true) (hd : DatIn news v (.tuple ds)) (he : DatIn news u (.tuple es)) (hu : A.units + n + 1 < cLine) (h1 : ds = es → Q (.bool true) s) (h2 : ds ≠ es → Q (.bool false) s) :
    wpAny (model prog w) A (compareOp .Eq v u) Q E s := by
  simp only [cmpb] at hc
  cases hd with | @tuple a vs k _ hm r =>
  cases he with | @tuple b us k2 _ hm2 r2 =>
  have q := RcAt.tuples (A := A) (s := s) (e := fun j => decide (ds.getD j .none = es.getD j .none)) (⟨_, (N _ hm).1, rfl, _, rfl⟩ : s.heap.IsTuple a vs.toArray) (⟨_, (N _ hm2).1, rfl, _, rfl⟩ : s.heap.IsTuple b us.toArray) (by omega) (fun j j1 j2 => by
    obtain ⟨p1, p2⟩ := datAll_get r j (by simpa using j1)
    obtain ⟨q1, q2⟩ := datAll_get r2 j (by simpa using j2)
    have z := eqAt_dat N n _ _ A.in1 _ _ (zip_get hc p1 q1) p2 q2 (by rw [units_in1]; omega)
    simpa using z)
  rw [List.size_toArray, List.size_toArray, r.length, r2.length, tup_bits] at q
  refine q prog w E Q ?_
  by_cases hq : ds = es
  · rw [decide_eq_true hq]; exact h1 hq
  · rw [decide_eq_false hq]; exact h2 hq
open Classical in
theorem ne_dats {n : Nat} {v u : Value} {ds es : List Dat} (N : News h₀ L s.heap news) (hc : cmpb (n + 1) (.tuple ds) (.tuple es) = true) (hd : DatIn news v (.tuple ds)) (he : DatIn news u (.tuple es)) (hu : A.units + n + 1 < cLine) (h1 : ds = es → Q (.bool false) s) (h2 : ds ≠ es → Q (.bool true) s) :
    wpAny (model prog w) A (compareOp .NotEq v u) Q E s := by
  simp only [cmpb] at hc
  cases hd with | @tuple a vs k _ hm r =>
  cases he with | @tuple b us k2 _ hm2 r2 =>
  have q := RcNeAt.tuples (A := A) (s := s) (e := fun j => decide (ds.getD j .none = es.getD j .none)) (⟨_, (N _ hm).1, rfl, _, rfl⟩ : s.heap.IsTuple a vs.toArray) (⟨_, (N _ hm2).1, rfl, _, rfl⟩ : s.heap.IsTuple b us.toArray) (by omega) (fun j j1 j2 => by
    obtain ⟨p1, p2⟩ := datAll_get r j (by simpa using j1)
    obtain ⟨q1, q2⟩ := datAll_get r2 j (by simpa using j2)
    have z := eqAt_dat N n _ _ A.in1 _ _ (zip_get hc p1 q1) p2 q2 (by rw [units_in1]; omega)
    simpa using z)
  rw [List.size_toArray, List.size_toArray, r.length, r2.length, tup_bits] at q
  refine q prog w E Q ?_
  by_cases hq : ds = es
  · rw [decide_eq_true hq]; exact h1 hq
  · rw [decide_eq_false hq]; exact h2 hq
end
theorem cmp_rows (ls ls2 : List Row) : ((ls.map Row.dat).zip (ls2.map Row.dat)).all (fun p => cmpb 2 p.1 p.2) = true := by
  refine List.all_eq_true.mpr fun p hp => ?_
  rw [List.zip_map] at hp
  obtain ⟨q, -, rfl⟩ := List.mem_map.mp hp
  rfl
theorem cmp_gone (ls ls2 : List (Int × Int)) : ((ls.map goneDat).zip (ls2.map goneDat)).all (fun p => cmpb 2 p.1 p.2) = true := by
  refine List.all_eq_true.mpr fun p hp => ?_
  rw [List.zip_map] at hp
  obtain ⟨q, -, rfl⟩ := List.mem_map.mp hp
  rfl
theorem cmp_tell (t u : Tell) : cmpb 4 t.dat u.dat = true := by
  have e : cmpb 4 t.dat u.dat = (cmpb 3 (.tuple (t.ls.map Row.dat)) (.tuple (u.ls.map Row.dat)) && cmpb 3 (.tuple (t.gs.map goneDat)) (.tuple (u.gs.map goneDat))) := by
    simp [Tell.dat, cmpb]
  rw [e, Bool.and_eq_true]
  exact ⟨cmp_rows _ _, cmp_gone _ _⟩
theorem map_inj {α β : Type} {f : α → β} (hf : ∀ a b, f a = f b → a = b) : ∀ {l m : List α}, l.map f = m.map f → l = m
  | [], [], _ => rfl
  | [], _ :: _, h => by simp at h
  | _ :: _, [], h => by simp at h
  | a :: l, b :: m, h => by
    simp only [List.map_cons, List.cons.injEq] at h
    rw [hf _ _ h.1, map_inj hf h.2]
theorem tell_inj {t u : Tell} (h : t.dat = u.dat) : t = u := by
  obtain ⟨a1, a2, a3, a4, a5⟩ := t
  obtain ⟨b1, b2, b3, b4, b5⟩ := u
  simp only [Tell.dat, Dat.tuple.injEq, List.cons.injEq, Dat.int.injEq, and_true, true_and] at h
  obtain ⟨h1, h2, h3, h4, h5⟩ := h
  have e4 := map_inj (fun a b e => by cases a; cases b; simp only [Row.dat, Dat.tuple.injEq, List.cons.injEq, Dat.int.injEq, Dat.bytes.injEq, and_true, true_and] at e; simp [e]) h4
  have e5 := map_inj (fun a b e => by obtain ⟨_, _⟩ := a; obtain ⟨_, _⟩ := b; simp only [goneDat, Dat.tuple.injEq, List.cons.injEq, Dat.int.injEq, and_true] at e; simp [e]) h5
  subst h1 h2 h3 e4 e5
  rfl
end Mine

end
section
open PySem PySem.W PySem.Calls PySem.Spec PyProof.Rows
set_option Elab.async false
set_option maxRecDepth 100000
set_option maxHeartbeats 8000000
namespace Mine
theorem fresh_T7 : True := by
  w_top off
  trivial
abbrev mapC (Mb : Str → Option Value) (vc : Option Value) : Str → Option Value := fun y => if y = Str.ofString "cell" then vc else Mb y
theorem mapC_self (Mb : Str → Option Value) : Mb = mapC Mb (Mb (Str.ofString "cell")) := by
  funext y
  unfold mapC
  by_cases h1 : y = Str.ofString "cell"
  · rw [if_pos h1, h1]
  · rw [if_neg h1]
theorem mapC_next {Mb : Str → Option Value} {vc vd : Option Value} : (fun y => if y = Str.ofString "cell" then vd else mapC Mb vc y) = mapC Mb vd := by
  funext y
  unfold mapC
  by_cases h1 : y = Str.ofString "cell"
  · rw [if_pos h1, if_pos h1]
  · rw [if_neg h1, if_neg h1, if_neg h1]
def AppEnd (h₀ : Heap) (L : Addr) (Mb : Str → Option Value) (la : Addr) (rest : List (Addr × Obj)) (ys : List Value) (Ok : Dat → Prop) (h' : Heap) : Prop :=
  ∃ (v : Value) (add : List (Addr × Obj)) (n' : Nat) (vc' : Option Value) (d : Dat), Fr h₀ L h' (mapC Mb vc') ∧ News h₀ L h' ((la, listOf (ys ++ [v]).toArray n') :: (add ++ rest)) ∧ Apart add ((la, listOf #[] 0) :: rest) ∧ Ok d ∧ DatIn add v d
section
variable {prog : Program} {w : World} {A : Around} {E : Value → Shared → Prop} {s : Shared} {env : Env} {h₀ : Heap} {body : List Stmt} {Q : Flow → Shared → Prop}
theorem app_loop {Mb : Str → Option Value} {base : List (Addr × Obj)} {l la : Addr} {vs : List Value} {ns : List Int} {nn n0 : Nat} (Ok : Dat → Prop)
    (hh : A.handled = none) (hl : (l, listOf vs.toArray nn) ∈ base) (hi : IntsAre vs ns) (F : Fr h₀ env.locals s.heap Mb) (N : News h₀ env.locals s.heap ((la, listOf #[] n0) :: base)) (hla : ∀ p ∈ base, p.1 ≠ la) (h8 : ns.length ≤ 8)
    (step : ∀ k t vc h₁ tk₁ rest ys n, News h₀ env.locals h₁ ((la, listOf ys.toArray n) :: rest) → (∀ p ∈ rest, p.1 ≠ la) → Fr h₀ env.locals h₁ (fun y => if y = Str.ofString "cell" then some (.int k t) else mapC Mb vc y) → ys.length ≤ 8 →
      wpAny (model prog w) A (execs body env) (LStep (fun v s' => Q (.ret v) s') (AppEnd h₀ env.locals Mb la rest ys Ok) { s with heap := h₁, toks := tk₁ }) E { s with heap := h₁, toks := tk₁ })
    (fin : ∀ h' tk tl ys n ds vc, Fr h₀ env.locals h' (mapC Mb vc) → News h₀ env.locals h' ((la, listOf ys.toArray n) :: (tl ++ base)) → Apart tl ((la, listOf #[] 0) :: base) → DatAll tl ys ds → (∀ d ∈ ds, Ok d) → ds.length = ns.length → Q .next { s with heap := h', toks := tk }) :
    wpAny (model prog w) A (pyIter (.ref l)) (fun it s₂ => LoopAtV prog w A h₀ env (Str.ofString "cell") body Q E it s₂) E s := by
  have hlen : vs.length = ns.length := IntsAre.length hi
  refine kdl_iter (fun i m n => ∃ (tl : List (Addr × Obj)) (ys : List Value) (nk : Nat) (ds : List Dat) (vc : Option Value), m = mapC Mb vc ∧ n = (la, listOf ys.toArray nk) :: (tl ++ base) ∧ Apart tl ((la, listOf #[] 0) :: base) ∧ DatAll tl ys ds ∧ (∀ d ∈ ds, Ok d) ∧ ds.length = i ∧ i ≤ ns.length)
    hh (.tail _ hl) F N ⟨[], [], n0, [], _, mapC_self Mb, rfl, Apart.nil, .nil, (fun _ h => nomatch h), rfl, Nat.zero_le _⟩ ?_ ?_
  · rintro i v m₁ news₁ h tk own hv hoff hmem ⟨tl, ys, nk, ds, vc, rfl, rfl, hap, hD, hok, hdl, hin⟩ F1 N1
    obtain ⟨k, t, rfl, hk⟩ := IntsAre.at hi i v hv
    have hlt : i < ns.length := (List.getElem?_eq_some_iff.mp hk).1
    have hrest : ∀ p ∈ (tl ++ base) ++ own, p.1 ≠ la := fun p hp => by
      rcases List.mem_append.mp hp with hp | hp
      · rcases List.mem_append.mp hp with hp | hp
        · exact fun e => hap _ (.head _) p hp e.symm
        · exact hla p hp
      · exact hoff p hp la (.head _)
    refine wpAny_mono (step k t vc h tk ((tl ++ base) ++ own) ys nk N1 hrest F1 (by rw [hD.length, hdl]; omega)) (fun f s₂ hz => ?_) fun _ _ e => e
    cases f with
    | ret v => exact hz.out
    | brk => exact hz.out.elim
    | cont => exact hz.out.elim
    | next =>
      obtain ⟨h', tk', e, v, add, n', vc', d, F2, N2, ap2, hd, hvd⟩ := hz.out
      refine ⟨h', tk', _, _, (la, listOf (ys ++ [v]).toArray n') :: ((add ++ tl) ++ base), e, F2, N2, ?_, ?_, ?_, .tail _ (List.mem_append_right _ hl), add ++ tl, ys ++ [v], n', ds ++ [d], vc', rfl, rfl, ?_, ?_, ?_, ?_, hlt⟩
      · intro p hp
        simp only [List.mem_cons, List.mem_append] at hp ⊢
        rcases hp with h | (h | h) | h
        · exact .inl h
        · exact .inr (.inl h)
        · exact .inr (.inr (.inl (.inl h)))
        · exact .inr (.inr (.inl (.inr h)))
      · exact fun p hp => .tail _ (List.mem_append_right _ (List.mem_append_right _ hp))
      · intro p hp b hb
        simp only [List.map_cons, List.map_append, List.mem_cons, List.mem_append] at hb
        rcases hb with rfl | (h | h) | h
        · exact hoff p hp _ (.head _)
        · obtain ⟨q, hq, rfl⟩ := List.mem_map.mp h
          exact ap2 p (.tail _ (List.mem_append_right _ hp)) q hq
        · exact hoff p hp _ (.tail _ (by rw [List.map_append]; exact List.mem_append_left _ h))
        · exact hoff p hp _ (.tail _ (by rw [List.map_append]; exact List.mem_append_right _ h))
      · refine Apart.append (ap2.sub (fun _ h => h) fun p hp => ?_) hap
        rcases List.mem_cons.mp hp with rfl | hp
        · exact .head _
        · exact .tail _ (List.mem_append_left _ (List.mem_append_right _ hp))
      · exact datAll_snoc (hD.mono fun p hp => List.mem_append_right _ hp) (hvd.mono fun p hp => List.mem_append_left _ hp)
      · intro d' hd'
        rcases List.mem_append.mp hd' with h | h
        · exact hok d' h
        · rw [List.mem_singleton.mp h]; exact hd
      · rw [List.length_append, List.length_singleton, hdl]
  · rintro m₁ news₁ h tk ⟨tl, ys, nk, ds, vc, rfl, rfl, hap, hD, hok, hdl, hin⟩ F1 N1
    exact fin h tk tl ys nk ds vc F1 N1 hap hD hok (by rw [hdl]; exact hlen)
end
end Mine

end
section
open PySem PySem.W PySem.Calls PySem.Spec PyProof.Rows PySem.SeqAt
set_option Elab.async false
namespace Mine
theorem fresh_T8 : True := by
  w_top off
  trivial
def kasAll {α : Type} (n : Nat) (G : α → Bool) : KasT α → Bool
  | .ret a => G a
  | .ask i j k => decide (i < n) && decide (j < n) && kasAll n G (k true) && kasAll n G (k false)
theorem kas_all {α : Type} {n : Nat} {cmp : Nat → Nat → (Bool → Shared → Prop) → Shared → Prop} {Inv : Shared → Prop} (hcmp : ∀ i j C s, i < n → j < n → Inv s → (∀ b s', Inv s' → C b s') → cmp i j C s) {G : α → Bool} {Q : α → Shared → Prop} (hQ : ∀ a s', G a = true → Inv s' → Q a s') :
    ∀ (t : KasT α) (s : Shared), kasAll n G t = true → Inv s → t.kasWp cmp Q s
  | .ret a, s, h, hs => hQ a s h hs
  | .ask i j k, s, h, hs => by
    unfold kasAll at h
    simp only [Bool.and_eq_true, decide_eq_true_iff] at h
    refine hcmp i j _ s h.1.1.1 h.1.1.2 hs fun b s' hs' => ?_
    cases b with
    | true => exact kas_all hcmp hQ (k true) s' h.1.2 hs'
    | false => exact kas_all hcmp hQ (k false) s' h.2 hs'
def goodPerm (n : Nat) (p : Array Nat) : Bool := p.toList.length == n && p.toList.all fun i => decide (i < n)
theorem sort2 : kasAll 2 (goodPerm 2) (kas_sort 2) = true := by decide +kernel
theorem sort3 : kasAll 3 (goodPerm 3) (kas_sort 3) = true := by decide +kernel
theorem sort4 : kasAll 4 (goodPerm 4) (kas_sort 4) = true := by decide +kernel
theorem sort24 {n : Nat} (h2 : 2 ≤ n) (h4 : n ≤ 4) : kasAll n (goodPerm n) (kas_sort n) = true := by
  have : n = 2 ∨ n = 3 ∨ n = 4 := by omega
  rcases this with rfl | rfl | rfl
  · exact sort2
  · exact sort3
  · exact sort4
end Mine
namespace Mine
def byteOf (u : Int) : Array UInt8 := (List.map (fun n : Int => n.toNat.toUInt8) [97 + u]).toArray
def RowOk (d : Dat) : Prop := ∃ r : Row, d = r.dat ∧ r.b = byteOf r.u
section
variable {prog : Program} {w : World} {A : Around} {E : Value → Shared → Prop} {s : Shared} {h₀ : Heap} {L : Addr} {m : Str → Option Value} {full news : List (Addr × Obj)}
open Classical in
theorem row_lt {v u : Value} {d e : Dat} {C : Bool → Shared → Prop} (N : News h₀ L s.heap full) (d1 : DatIn full v d) (d2 : DatIn full u e) (k1 : RowOk d) (k2 : RowOk e) (hu : A.units + 4 < cLine) (h : ∀ b, C b s) : wpAny (model prog w) A (keyLt' (tuples' true) v u) C E s := by
  obtain ⟨⟨u1, b1, i1, m1⟩, rfl, hb1⟩ := k1
  obtain ⟨⟨u2, b2, i2, m2⟩, rfl, hb2⟩ := k2
  cases d1 with | @tuple a1 vs1 n1 _ hm1 r1 =>
  cases d2 with | @tuple a2 vs2 n2 _ hm2 r2 =>
  cases r1 with | cons p1 r1 =>
  cases r1 with | cons p2 r1 =>
  cases r1 with | cons p3 r1 =>
  cases r1 with | cons p4 r1 =>
  cases r1 with | cons p5 r1 =>
  cases r1
  cases r2 with | cons q1 r2 =>
  cases r2 with | cons q2 r2 =>
  cases r2 with | cons q3 r2 =>
  cases r2 with | cons q4 r2 =>
  cases r2 with | cons q5 r2 =>
  cases r2
  refine kat_lt (N _ hm1).1 rfl (N _ hm2).1 rfl ?_
  have e1 := eqAt_dat N 1 _ _ A _ _ rfl p1 q1 (by omega)
  have e2 := eqAt_dat N 1 _ _ A _ _ rfl p2 q2 (by omega)
  have e3 := eqAt_dat N 1 _ _ A _ _ rfl p3 q3 (by omega)
  have e4 := eqAt_dat N 1 _ _ A _ _ rfl p4 q4 (by omega)
  have e5 := eqAt_dat N 1 _ _ A _ _ rfl p5 q5 (by omega)
  dsimp only at e1 e2 e3 e4 e5 hb1 hb2
  rw [decide_eq_true (rfl : Dat.tuple [] = Dat.tuple [])] at e3
  refine kat_cons (e1 prog w _ _ ?_)
  refine kat_go (fun h1 => ?_) (fun h1 => ?_)
  · refine kat_yes ?_
    have hbe : b1 = b2 := by
      have h1' := of_decide_eq_true h1
      injection h1' with h1'
      rw [hb1, hb2, h1']
    rw [decide_eq_true (show Dat.bytes b1 = Dat.bytes b2 by rw [hbe])] at e2
    refine kat_cons (e2 prog w _ _ ?_)
    refine kat_yes (kat_cons (e3 prog w _ _ ?_))
    refine kat_yes (kat_cons (e4 prog w _ _ ?_))
    refine kat_go (fun h4 => ?_) (fun h4 => ?_)
    · refine kat_yes (kat_cons (e5 prog w _ _ ?_))
      refine kat_go (fun h5 => ?_) (fun h5 => ?_)
      · exact kat_yes (kat_nil (h _))
      · refine kat_no ?_
        cases p5; cases q5
        exact kat_one _ _ (wpAny_lt_int (by show C _ s; exact h _))
    · refine kat_no ?_
      cases p4; cases q4
      exact kat_one _ _ (wpAny_lt_int (by show C _ s; exact h _))
  · refine kat_no ?_
    cases p1; cases q1
    exact oneLt_int (h _)
end
end Mine
namespace Mine
theorem tups_firsts {h₀ h : Heap} {L : Addr} {full : List (Addr × Obj)} (N : News h₀ L h full) : ∀ {vs : List Value} {ds : List Dat}, DatAll full vs ds → (∀ d ∈ ds, RowOk d) → ∃ fs : List Value, KatTups h vs fs ∧ fs.length = vs.length ∧ ∀ v ∈ fs, ∃ i t, v = Value.int i t
  | _, _, .nil, _ => ⟨[], KatTups.nil, rfl, fun _ h => nomatch h⟩
  | _, _, .cons p r, hk => by
    obtain ⟨fs, h1, h2, h3⟩ := tups_firsts N r fun d hd => hk d (.tail _ hd)
    obtain ⟨r0, rfl, -⟩ := hk _ (.head _)
    cases p with | @tuple a xs n _ hm q =>
    cases q with | cons p1 q =>
    cases p1 with | int i t =>
    refine ⟨.int _ t :: fs, KatTups.cons (N _ hm).1 rfl rfl rfl h1, by rw [List.length_cons, List.length_cons, h2], fun v hv => ?_⟩
    rcases List.mem_cons.mp hv with rfl | hv
    · exact ⟨_, _, rfl⟩
    · exact h3 v hv
theorem datAll_pick {full : List (Addr × Obj)} {vs : List Value} {ds : List Dat} (h : DatAll full vs ds) : ∀ (l : List Nat), (∀ i ∈ l, i < vs.length) → DatAll full (l.map fun i => vs.getD i Value.none) (l.map fun i => ds.getD i Dat.none) ∧ ∀ d ∈ l.map (fun i => ds.getD i Dat.none), d ∈ ds
  | [], _ => ⟨.nil, fun _ h => nomatch h⟩
  | i :: l, hl => by
    obtain ⟨a, b⟩ := datAll_pick h l fun j hj => hl j (.tail _ hj)
    have hi := hl i (.head _)
    obtain ⟨c, e⟩ := datAll_get h i hi
    have e1 : vs.getD i Value.none = vs[i] := by rw [List.getD_eq_getElem?_getD, List.getElem?_eq_getElem hi, Option.getD_some]
    rw [List.map_cons, List.map_cons]
    refine ⟨.cons (by rw [e1]; exact e) a, fun d hd => ?_⟩
    rcases List.mem_cons.mp hd with rfl | hd
    · rw [List.getD_eq_getElem?_getD, List.getElem?_eq_getElem c, Option.getD_some]
      exact List.getElem_mem c
    · exact b d hd
section
variable {prog : Program} {w : World} {A : Around} {E : Value → Shared → Prop} {s : Shared} {h₀ : Heap} {L : Addr} {m : Str → Option Value} {full news : List (Addr × Obj)}
theorem sorted_rows {sub : List (Addr × Obj)} {l : Addr} {k : Nat} {vs : List Value} {ds : List Dat} {Q : Value → Shared → Prop} (F : Fr h₀ L s.heap m) (N : News h₀ L s.heap full) (hl : (l, listOf vs.toArray k) ∈ full) (hS : ∀ p ∈ sub, p ∈ full) (hD : DatAll sub vs ds) (hk : ∀ d ∈ ds, RowOk d) (h2 : 2 ≤ vs.length) (h4 : vs.length ≤ 4) (hu : A.units + 8 < cLine)
    (h : ∀ D h' tk c vs' ds', Fr h₀ L h' m → News h₀ L h' ((D, listOf vs'.toArray c) :: full) → (∀ p ∈ full, p.1 < D) → DatAll sub vs' ds' → (∀ d ∈ ds', RowOk d) → vs'.length = vs.length → Q (.ref D) { s with heap := h', toks := tk }) :
    wpAny (model prog w) A (call (.builtin "sorted") [.ref l]) Q E s := by
  refine kat_sorted F N (News.isList N hl) h2 (by omega) fun D e1 h1 F1 N1 l1 => ?_
  have N1' : News h₀ L h1 full := fun p hp => N1 p (.tail _ hp)
  obtain ⟨fs, t1, t2, t3⟩ := tups_firsts (h := h1) N1' (hD.mono hS) hk
  refine kat_kind (T := .type "int") (by exact t1) (by omega) (fun v hv => by obtain ⟨i, t, rfl⟩ := t3 v hv; exact Looks.of_pure rfl) rfl ?_
  refine kas_all (n := vs.length) (Inv := fun s' => s' = { s with heap := h1 }) ?_ ?_ _ _ (sort24 h2 h4) rfl
  · rintro i j C s' hi hj rfl hC
    show wpAny (model prog w) A.in1.in1 (keyLt' (tuples' true) (vs.getD i Value.none) (vs.getD j Value.none)) C (fun _ _ => False) _
    obtain ⟨a1, a2⟩ := datAll_get hD i hi
    obtain ⟨b1, b2⟩ := datAll_get hD j hj
    have g1 : vs.getD i Value.none = vs[i] := by rw [List.getD_eq_getElem?_getD, List.getElem?_eq_getElem hi, Option.getD_some]
    have g2 : vs.getD j Value.none = vs[j] := by rw [List.getD_eq_getElem?_getD, List.getElem?_eq_getElem hj, Option.getD_some]
    have m1 : ds.getD i Dat.none ∈ ds := by rw [List.getD_eq_getElem?_getD, List.getElem?_eq_getElem a1, Option.getD_some]; exact List.getElem_mem a1
    have m2 : ds.getD j Dat.none ∈ ds := by rw [List.getD_eq_getElem?_getD, List.getElem?_eq_getElem b1, Option.getD_some]; exact List.getElem_mem b1
    rw [g1, g2]
    exact row_lt (s := { s with heap := h1 }) N1' (a2.mono hS) (b2.mono hS) (hk _ m1) (hk _ m2) (by rw [units_in1, units_in1]; omega) fun b => hC b _ rfl
  · rintro p s' hp rfl
    unfold goodPerm at hp
    simp only [Bool.and_eq_true, beq_iff_eq, List.all_eq_true, decide_eq_true_iff] at hp
    obtain ⟨x1, x2⟩ := datAll_pick hD p.toList hp.2
    exact KasFin.intro F1 N1 (.head fun q hq => Nat.ne_of_lt (l1 q hq)) fun h3 c F3 N3 => h D h3 s.toks c _ _ F3 N3 l1 x1 (fun d hd => hk d (x2 d hd)) (by rw [List.length_map]; exact hp.1)
end
end Mine
namespace Mine
theorem gone_list : ∀ {ds : List Dat}, (∀ d ∈ ds, ∃ g, d = goneDat g) → ∃ gs : List (Int × Int), ds = gs.map goneDat
  | [], _ => ⟨[], rfl⟩
  | d :: ds, h => by
    obtain ⟨g, rfl⟩ := h d (.head _)
    obtain ⟨gs, rfl⟩ := gone_list fun d hd => h d (.tail _ hd)
    exact ⟨g :: gs, rfl⟩
theorem row_list : ∀ {ds : List Dat}, (∀ d ∈ ds, RowOk d) → ∃ ls : List Row, ds = ls.map Row.dat
  | [], _ => ⟨[], rfl⟩
  | d :: ds, h => by
    obtain ⟨g, rfl, -⟩ := h d (.head _)
    obtain ⟨gs, rfl⟩ := row_list fun d hd => h d (.tail _ hd)
    exact ⟨g :: gs, rfl⟩
theorem all_dat {full : List (Addr × Obj)} {P : Dat → Prop} : ∀ {l : List Value}, (∀ v ∈ l, ∃ d, P d ∧ DatIn full v d) → ∃ ds, DatAll full l ds ∧ ∀ d ∈ ds, P d
  | [], _ => ⟨[], .nil, fun _ h => nomatch h⟩
  | v :: l, h => by
    obtain ⟨d, hp, hd⟩ := h v (.head _)
    obtain ⟨ds, h1, h2⟩ := all_dat fun v hv => h v (.tail _ hv)
    exact ⟨d :: ds, .cons hd h1, fun e he => (List.mem_cons.mp he).elim (fun x => x ▸ hp) (h2 e)⟩
theorem mem_datIn {full : List (Addr × Obj)} : ∀ {vs : List Value} {ds : List Dat}, DatAll full vs ds → ∀ v ∈ vs, ∃ d ∈ ds, DatIn full v d
  | _, _, .nil, _, h => nomatch h
  | _, _, .cons p r, v, h => by
    rcases List.mem_cons.mp h with rfl | h
    · exact ⟨_, .head _, p⟩
    · obtain ⟨d, hd, hv⟩ := mem_datIn r v h
      exact ⟨d, .tail _ hd, hv⟩
theorem ksk_dat {full : List (Addr × Obj)} {kz : List Int} {ws out : List Value} {ds : List Dat} (h : KskOut false kz ws out) (hl : kz.length = ws.length) (hD : DatAll full ws ds) (hk : ∀ d ∈ ds, ∃ g, d = goneDat g) : ∃ gs : List (Int × Int), DatAll full out (gs.map goneDat) ∧ out.length = ws.length := by
  obtain ⟨ps, h1, rfl, -⟩ := h
  have h2 : (ps.map Prod.snd).Perm ws := by
    have := h1.map Prod.snd
    rwa [List.map_snd_zip (by omega)] at this
  obtain ⟨ds', h3, h4⟩ := all_dat (full := full) (P := fun d => ∃ g, d = goneDat g) (l := ps.map Prod.snd) fun v hv => by
    obtain ⟨d, hd, hv⟩ := mem_datIn hD v (h2.mem_iff.mp hv)
    exact ⟨d, hk d hd, hv⟩
  obtain ⟨gs, rfl⟩ := gone_list h4
  exact ⟨gs, h3, h2.length_eq⟩
end Mine

end
section
open PySem PySem.W PySem.Calls PySem.Spec PyProof.Rows
set_option Elab.async false
namespace Mine
theorem fresh_T9 : True := by
  w_top off
  trivial
section
variable {prog : Program} {w : World} {A : Around} {E : Value → Shared → Prop} {s : Shared}
theorem applied_upto {sl : Addr} {a n : Nat} {u : Tok} {Q : Int × Int × Nat → Shared → Prop} (hs : s.heap.IsSliceOf sl .none (.int a u) .none) (ha : a ≤ n) (h : Q (0, 1, a) s) :
    wpAny (model prog w) A (Builtin.Slice.sliceApplied (.ref sl) (pure (n : Int))) Q E s := by
  obtain ⟨os, hos, hcs, hds⟩ := id hs
  unfold Builtin.Slice.sliceApplied Builtin.Slice.sliceFields
  refine wpAny_bind (wpAny_bind (wpAny_field hos hds (x := .none) rfl (wpAny_bind (wpAny_field hos hds (x := .int a u) rfl (wpAny_bind (wpAny_field hos hds (x := .none) rfl (wpAny_pure ?_)))))))
  refine wpAny_bind (slicePart_none ?_)
  show wpAny _ _ (if ((1 : Int) == 0) = true then _ else _) _ _ s
  rw [if_neg (by decide)]
  refine wpAny_bind (slicePart_none (wpAny_bind (slicePart_int (wpAny_bind (wpAny_pure ?_)))))
  have e1 : Builtin.Slice.sliceAdjust none (some (a : Int)) 1 (n : Int) = ((0 : Int), (a : Int)) := by
    unfold Builtin.Slice.sliceAdjust
    have h1 : ¬ ((1 : Int) < 0) := by omega
    have h2 : ¬ ((a : Int) < 0) := by omega
    simp only [h1, h2, if_false]
    congr 1
    omega
  show wpAny _ _ (match Builtin.Slice.sliceAdjust none (some (a : Int)) 1 (n : Int) with | (lo, hi) => pure (lo, (1 : Int), Builtin.Slice.slicePlaces lo hi 1)) _ _ s
  rw [e1]
  have e2 : Builtin.Slice.slicePlaces (0 : Int) (a : Int) 1 = a := by
    unfold Builtin.Slice.slicePlaces
    have h1 : (1 : Int) > 0 := by omega
    simp only [h1, if_true, Int.ediv_one]
    split <;> omega
  show wpAny _ _ (pure ((0 : Int), (1 : Int), Builtin.Slice.slicePlaces (0 : Int) (a : Int) 1)) _ _ s
  rw [e2]
  exact wpAny_pure h
theorem item_upto {t sl : Addr} {items zs : Array Value} {a : Nat} {u : Tok} {Q : Value → Shared → Prop} (ht : IsTup s.heap t items) (hs : s.heap.IsSliceOf sl .none (.int a u) .none) (ha : a < items.size)
    (hz : ((List.range a).filterMap fun (k : Nat) => items[((0 : Int) + (k : Int) * 1).toNat]?).toArray = zs) (hsz : zs.size ≤ sizeLine)
    (h : Q (.ref s.heap.objs.size) { s with heap := s.heap.push { cls := .type "tuple", data := .seq zs } }) : wpAny (model prog w) A (getItem (.ref t) (.ref sl)) Q E s := by
  have hdrop : sizeOk (.seq zs) := hsz
  obtain ⟨os, hos, hcs, hds⟩ := id hs
  have hTs : s.TypeIs (.ref sl) "slice" := ⟨os, hos, hcs⟩
  unfold getItem
  try with_reducible refine wpAny_holding ?_
  first | refine wpAny_bind (wpAny_pure ?_) | skip
  refine wpAny_bind (wpAny_sequenceKey ht.typeIs (by decide) ?_)
  refine wpAny_bind (wpAny_callSpecial?_slot (name := Str.ofString "__getitem__") ht.typeIs slot_tuple_getitem
    (wpAny_call_entry slot_tuple_getitem ht.typeIs entry_tuple_getitem ?_ (args_tuple_getitem _ _)))
  show wpAny _ _ (Builtin.Tuple.tupleItemsOf (.ref t) >>= _) _ _ s
  refine wpAny_bind (tupleItemsOf_ ht ?_)
  refine wpAny_bind (wpAny_typeOf hTs ?_)
  rw [if_pos (by decide)]
  refine wpAny_bind (applied_upto hs (Nat.le_of_lt ha) ?_)
  have hno : ¬ (((0 : Int) == 0 && (1 : Int) == 1 && a == items.size) = true) := by
    have : (a == items.size) = false := by rw [beq_eq_false_iff_ne]; omega
    rw [this]; simp
  show wpAny _ _ (if ((0 : Int) == 0 && (1 : Int) == 1 && a == items.size) = true then _ else _) _ _ s
  rw [if_neg hno, hz]
  first
    | exact wpAny_bind (m := Builtin.Tuple.tupleExact _) (wpAny_newObj_type (wpAny_pure ⟨_, rfl, wpAny_pure h⟩) hdrop)
    | exact wpAny_bind (m := Builtin.Tuple.tupleExact _) (wpAny_newObj_type (wpAny_bind (wpAny_pure (wpAny_pure ⟨_, rfl, wpAny_pure h⟩))) hdrop)
    | exact wpAny_bind (wpAny_bind (m := Builtin.Tuple.tupleExact _) (wpAny_newObj_type (wpAny_pure (wpAny_pure ⟨_, rfl, wpAny_pure h⟩)) hdrop))
    | exact wpAny_bind (wpAny_bind (m := Builtin.Tuple.tupleExact _) (wpAny_newObj_type (wpAny_pure ⟨_, rfl, wpAny_pure h⟩) hdrop))
variable {h₀ : Heap} {L : Addr} {m : Str → Option Value} {news : List (Addr × Obj)}
theorem slice_upto {value slice : Expr} {t : Addr} {items zs : Array Value} {a : Nat} {u : Tok} {Q : Value → Shared → Prop}
    (F : Fr h₀ L s.heap m) (N : News h₀ L s.heap news) (ht : IsTup s.heap t items) (ha : a < items.size)
    (hz : ((List.range a).filterMap fun (k : Nat) => items[((0 : Int) + (k : Int) * 1).toNat]?).toArray = zs) (hsz : zs.size ≤ sizeLine)
    (h : ∀ D h', Fr h₀ L h' m → News h₀ L h' ((D, { cls := .type "tuple", data := .seq zs }) :: news) → (∀ p ∈ news, p.1 < D) → Q (.ref D) { s with heap := h' })
    (hs : subscripted slice false (.ref t) (.ref s.heap.objs.size) = operate [.ref s.heap.objs.size, .ref t] (getItem (.ref t) (.ref s.heap.objs.size)) := by with_unfolding_all rfl)
    (hg : ∀ r, letTemporaryGo value (.ref t) r = pure () := by intro _; with_unfolding_all rfl) :
    wpAny (model prog w) A (subscriptTail value slice (.ref t) (.ref s.heap.objs.size)) Q E { s with heap := s.heap.push { cls := .type "slice", data := .fields #[.none, .int a u, .none] } } := by
  have ht' : IsTup (s.heap.push { cls := .type "slice", data := .fields #[.none, .int a u, .none] }) t items := ht.keeps fun _ _ e => Heap.get?_push_of_some _ e
  refine subscriptTail_ops (s := { s with heap := s.heap.push { cls := .type "slice", data := .fields #[.none, .int a u, .none] } }) ht'.typeIs slot_tuple_getitem.lookup
    (item_upto ht' (Heap.IsSliceOf.new ..) ha hz hsz ?_) hs hg
  have N1 := News.push (F.push { cls := .type "slice", data := .fields #[.none, .int a u, .none] }) (N.grown fun _ _ e => Heap.get?_push_of_some _ e) { cls := .type "tuple", data := .seq zs }
  rw [Heap.size_push] at N1
  show Q (.ref (s.heap.push _).objs.size) _
  rw [Heap.size_push]
  exact h _ _ ((F.push _).push _) N1 fun p hp => Nat.lt_succ_of_lt (Heap.lt_size (N p hp).1)
end
end Mine

end
section
open PySem PySem.W PySem.Calls PySem.Spec PyProof.Rows
set_option Elab.async false
namespace Mine
theorem fresh_T10 : True := by
  w_top off
  trivial
def goodT : Tell := ⟨5, 6, 1, [⟨1, byteOf 0, 0, 3⟩, ⟨3, byteOf 2, 2, 2⟩], [(2, 4), (4, 6)]⟩
def badT : Tell := ⟨5, 6, 1, [⟨1, byteOf 0, 0, 3⟩, ⟨3, byteOf 2, 2, 2⟩], [(3, 4), (4, 6)]⟩
theorem good_sound : Sound goodT := by
  unfold Sound goodT GoneOk
  simp [GoneOk]
theorem bad_unsound : ¬ Sound badT := by
  unfold Sound badT GoneOk
  simp [GoneOk]
theorem split106 {g h : Heap} {L : Addr} {lst : List (Addr × Obj)} {a : Addr} {o : Obj} (N : News g L h lst) (e : lst = lst.dropLast ++ [(a, o)]) (hne : ∀ p ∈ lst.dropLast, p.1 ≠ a) : ∃ full, full = lst.dropLast ∧ News g L h ((a, o) :: full) ∧ (∀ p ∈ full, p.1 ≠ a) :=
  ⟨_, rfl, fun p hp => N p (by
    rw [e]
    rcases List.mem_cons.mp hp with rfl | hp
    · exact List.mem_append_right _ (.head _)
    · exact List.mem_append_left _ hp), hne⟩
theorem name_ref {h₀ h : Heap} {L : Addr} {m : Str → Option Value} (_F : Fr h₀ L h m) {x : Str} {G : Addr} (_e : m x = some (.ref G)) : ∃ G', G' = G := ⟨G, rfl⟩
abbrev mapT (Mb : Str → Option Value) (vt vb vo : Option Value) : Str → Option Value := fun y => if y = Str.ofString "other" then vo else if y = Str.ofString "box" then vb else if y = Str.ofString "told" then vt else Mb y
theorem mapT_self (Mb : Str → Option Value) : Mb = mapT Mb (Mb (Str.ofString "told")) (Mb (Str.ofString "box")) (Mb (Str.ofString "other")) := by
  funext y
  unfold mapT
  by_cases h1 : y = Str.ofString "other"
  · rw [if_pos h1, h1]
  · rw [if_neg h1]
    by_cases h2 : y = Str.ofString "box"
    · rw [if_pos h2, h2]
    · rw [if_neg h2]
      by_cases h3 : y = Str.ofString "told"
      · rw [if_pos h3, h3]
      · rw [if_neg h3]
theorem fr_nextT {h₀ h : Heap} {L : Addr} {Mb : Str → Option Value} {vt vb vo : Option Value} {a b c : Value} (F : Fr h₀ L h (fun y => if y = Str.ofString "other" then some a else if y = Str.ofString "box" then some b else if y = Str.ofString "told" then some c else mapT Mb vt vb vo y)) : Fr h₀ L h (mapT Mb (some c) (some b) (some a)) := by
  have e : (fun y => if y = Str.ofString "other" then some a else if y = Str.ofString "box" then some b else if y = Str.ofString "told" then some c else mapT Mb vt vb vo y) = mapT Mb (some c) (some b) (some a) := by
    funext y
    unfold mapT
    by_cases h1 : y = Str.ofString "other" <;> by_cases h2 : y = Str.ofString "box" <;> by_cases h3 : y = Str.ofString "told" <;> simp only [h1, h2, h3, if_true, if_false]
  exact e ▸ F
section
variable {prog : Program} {w : World} {A : Around} {E : Value → Shared → Prop} {s : Shared} {env : Env} {h₀ : Heap} {target : Expr} {body : List Stmt} {Q : Flow → Shared → Prop}
def TInv (h₀ : Heap) (L : Addr) (Mb : Str → Option Value) (full : List (Addr × Obj)) (h : Heap) : Prop := ∃ vt vb vo, Fr h₀ L h (mapT Mb vt vb vo) ∧ News h₀ L h full
theorem told_loop {Mb : Str → Option Value} {full : List (Addr × Obj)} {t : Addr} {items : Array Value} {k : Nat} (P0 : Value → Prop)
    (hh : A.handled = none) (ht : (t, tup items k) ∈ full) (hP : ∀ (i : Nat) (v : Value), items[i]? = some v → P0 v) (F : Fr h₀ env.locals s.heap Mb) (N : News h₀ env.locals s.heap full)
    (step : ∀ v vt vb vo h₁ tk₁ rest, P0 v → (∀ p ∈ full, p ∈ rest) → Fr h₀ env.locals h₁ (mapT Mb vt vb vo) → News h₀ env.locals h₁ rest →
      wpAny (model prog w) A (assign target env v) (fun _ s₂ => wpAny (model prog w) A (execs body env) (LStep (fun v s' => Q (.ret v) s') (TInv h₀ env.locals Mb rest) { s with heap := h₁, toks := tk₁ }) E s₂) E { s with heap := h₁, toks := tk₁ })
    (fin : ∀ h' tk vt vb vo, Fr h₀ env.locals h' (mapT Mb vt vb vo) → News h₀ env.locals h' full → Q .next { s with heap := h', toks := tk }) :
    wpAny (model prog w) A (pyIter (.ref t)) (fun it s₂ => UnrAt prog w A h₀ env target body Q E it s₂) E s := by
  refine Iter_tuple_unr hh (News.isTup N ht) F N (News.ne_locals N ht) (unr_ind (n := items.size) (fun i m n => n = full ∧ ∃ vt vb vo, m = mapT Mb vt vb vo) ?_ ?_ _ 0 _ _ (Nat.zero_add _) ⟨rfl, _, _, _, mapT_self Mb⟩)
  · rintro i m n hi ⟨rfl, vt, vb, vo, rfl⟩ v h₁ tk₁ own hv ho F1 N1
    refine wpAny_mono (step v vt vb vo h₁ tk₁ (own ++ n) (hP i v hv) (fun p hp => List.mem_append_right _ hp) F1 N1) (fun _ s' hy => wpAny_mono hy (fun f s'' hz => ?_) fun _ _ e => e) fun _ _ e => e
    cases f with
    | ret v => exact hz.out
    | brk => exact hz.out.elim
    | cont => exact hz.out.elim
    | next =>
      obtain ⟨h', tk, e, vt', vb', vo', F2, N2⟩ := hz.out
      exact LoopStep3.next ⟨rfl, h', tk, _, n, e, F2, N2, rfl, rfl, _, _, _, rfl⟩
  · rintro m n ⟨rfl, vt, vb, vo, rfl⟩ h' tk F1 N1
    exact fin h' tk vt vb vo F1 N1
end
end Mine
namespace Mine
section
variable {g h : Heap} {L : Addr} {lst full : List (Addr × Obj)} {a : Addr}
theorem cut_ne (N : News g L h lst) (hm : (a, tabObj #[]) ∈ lst) {b : Addr} {o : Obj} (hb : (b, o) ∈ lst) (hc : o.cls ≠ Value.none) : b ≠ a := fun e => by
  subst e
  have h1 := (N _ hm).1.symm.trans (N _ hb).1
  have h2 : tabObj #[] = o := by injection h1
  exact hc (by rw [← h2])
theorem cut106 (N : News g L h lst) (hm : (a, tabObj #[]) ∈ lst) : ∃ full, News g L h ((a, tabObj #[]) :: full) ∧ (∀ p ∈ full, p.1 ≠ a) ∧ (∀ b o, (b, o) ∈ lst → o.cls ≠ Value.none → (b, o) ∈ full) := by
  refine ⟨lst.filter fun p => decide (p.1 ≠ a), fun p hp => ?_, fun p hp => ?_, fun b o hb hc => ?_⟩
  · rcases List.mem_cons.mp hp with rfl | hp
    · exact N _ hm
    · exact N _ (List.mem_filter.mp hp).1
  · simpa using (List.mem_filter.mp hp).2
  · refine List.mem_filter.mpr ⟨hb, ?_⟩
    have := cut_ne N hm hb hc
    simpa using this
mutual
theorem dat_cut (hs : ∀ b o, (b, o) ∈ lst → o.cls ≠ Value.none → (b, o) ∈ full) : ∀ {v : Value} {d : Dat}, DatIn lst v d → DatIn full v d
  | _, _, .none => .none
  | _, _, .bool b => .bool b
  | _, _, .int i t => .int i t
  | _, _, .str x t => .str x t
  | _, _, .bytes x t => .bytes x t
  | _, _, .tuple hm r => .tuple (hs _ _ hm (by simp)) (datAll_cut hs r)
  | _, _, .list hm r => .list (hs _ _ hm (by simp [W.listOf])) (datAll_cut hs r)
theorem datAll_cut (hs : ∀ b o, (b, o) ∈ lst → o.cls ≠ Value.none → (b, o) ∈ full) : ∀ {vs : List Value} {ds : List Dat}, DatAll lst vs ds → DatAll full vs ds
  | _, _, .nil => .nil
  | _, _, .cons a r => .cons (dat_cut hs a) (datAll_cut hs r)
end
end
end Mine

end
section
open PySem PySem.W PySem.Calls PySem.Spec PyProof.Rows
set_option Elab.async false
namespace Mine
theorem other_grown {g h : Heap} {L : Addr} {D x d ea la ga : Addr} {e0 e1 e2 e3 e4 : Int} {k0 k1 k2 k3 k4 t0 t1 t3 t4 ta tb : Tok} {n ne nl ng nD : Nat} {uu ii mm a b : Int} {bb : Array UInt8} {vs ws : List Value} {r : List (Addr × Obj)}
    (N : News g L h ((D, ({ cls := .type "tuple", data := .seq #[Value.int a ta, Value.int b tb] nD } : Obj)) :: (x, instObj 45 d) ::
      (d, dictOf [⟨e0, .str (Str.ofString "uid") k0, .int uu t0⟩, ⟨e1, .str (Str.ofString "octets") k1, .bytes bb t1⟩, ⟨e2, .str (Str.ofString "flags") k2, .ref ea⟩, ⟨e3, .str (Str.ofString "instant") k3, .int ii t3⟩, ⟨e4, .str (Str.ofString "modseq") k4, .int mm t4⟩] n) ::
      (ea, ({ cls := .type "tuple", data := .seq #[] ne } : Obj)) :: (la, listOf (vs.toArray.push (Value.ref x)) nl) :: (ga, listOf (ws.toArray.push (Value.ref D)) ng) :: r)) :
    ∃ (rL : Row) (gG : Int × Int) (r' : List (Addr × Obj)), News g L h r' ∧ (∀ p ∈ r, p ∈ r') ∧ (la, listOf (vs ++ [Value.ref x]).toArray nl) ∈ r' ∧ LetterIn r' (Value.ref x) rL ∧ (ga, listOf (ws ++ [Value.ref D]).toArray ng) ∈ r' ∧ DatIn r' (Value.ref D) (goneDat gG) := by
  rw [show vs.toArray.push (Value.ref x) = (vs ++ [Value.ref x]).toArray by simp, show ws.toArray.push (Value.ref D) = (ws ++ [Value.ref D]).toArray by simp] at N
  refine ⟨⟨uu, bb, ii, mm⟩, (a, b), _, N, ?_, ?_, ?_, ?_, ?_⟩
  · intro p hp
    exact .tail _ (.tail _ (.tail _ (.tail _ (.tail _ (.tail _ hp)))))
  · exact .tail _ (.tail _ (.tail _ (.tail _ (.head _))))
  · exact LetterIn.mk (.tail _ (.head _)) (.tail _ (.tail _ (.head _))) (.tail _ (.tail _ (.tail _ (.head _))))
  · exact .tail _ (.tail _ (.tail _ (.tail _ (.tail _ (.head _)))))
  · exact .tuple (vs := [.int a ta, .int b tb]) (.head _) (.cons (.int _ _) (.cons (.int _ _) .nil))
end Mine

end
section

open PySem PySem.W PySem.Calls PySem.Spec PyProof.Rows
set_option Elab.async false
set_option maxRecDepth 100000
set_option maxHeartbeats 8000000
namespace Mine
theorem fresh_M4 : True := by
  w_top off
  trivial
local macro_rules | `(tactic| k_mem) => `(tactic| first | exact List.mem_cons_of_mem _ (by ktr_member) | exact List.mem_cons_of_mem _ (List.mem_cons_of_mem _ (by ktr_member)) | exact List.mem_cons_of_mem _ (List.mem_cons_of_mem _ (List.mem_cons_of_mem _ (by ktr_member))) | exact List.mem_cons_of_mem _ (List.mem_cons_of_mem _ (List.mem_cons_of_mem _ (List.mem_cons_of_mem _ (by ktr_member)))))
local macro_rules | `(tactic| walk_at "eval ListComp") => `(tactic| (k_here; refine Stop.out ?_))
local macro_rules | `(tactic| walk_at "call ref") => `(tactic| (k_here; k_dflt (refine' call_cls ?k1 ?k2 ?k3 ?k4 ?k5 ?k6 ?_; (case k1 | k2 | k3 => k_asm); (case k4 | k5 | k6 => k_is); k_whole; intro x' d' h' F' N' l1 l2; (try k_lt l1); (try k_lt2 l2); (try k_sweep); (refine' code_def ?k1 ?k2 ?k3 ?k4 ?k5 ?kA ?kF ?kK ?k6 ?k7 ?k8 ?k9 ?kB ?_ ?c2 ?c3 ?c4 ?c5; (case kA | kF | kK => exact rfl); (case k1 | k2 | k3 | k4 | k5 => k_asm); (case k6 | k7 => k_is); (case k8 => ktr_room); (case k9 => exact BindsTo.of_eq rfl); (case c5 => decide); (case kB => exact locs rfl); (case c2 | c3 | c4 => exact rfl); k_whole; intro g' L' h' FG' F' N' B' X' T'; (try dsimp only); (try k_fold)))))
local macro_rules | `(tactic| walk_at "call type:tuple") => `(tactic| (k_here; (with_reducible show wpAny _ _ (call (Value.type _) [Value.ref _]) _ _ _); k_dflt (refine call_tuple_tup (News.isTup (by k_asm) (by k_mem)) ?_)))
theorem apart2 {x d : Addr} {o1 o2 : Obj} {news : List (Addr × Obj)} (l1 : ∀ p ∈ news, p.1 < d) (l2 : d < x) : Apart [(x, o1), (d, o2)] news := (Apart.nil.cons l1).cons fun p hp => Nat.lt_trans (l1 p hp) l2
local macro_rules | `(tactic| k_all) => `(tactic| assumption)
theorem opq {g h : Heap} {L : Addr} {l : List (Addr × Obj)} (N : News g L h l) : ∃ full, full = l ∧ News g L h full := ⟨l, rfl, N⟩
theorem pack2 {g h : Heap} {L da xa D : Addr} {o5 o4 oD : Obj} {rest full tl : List (Addr × Obj)} (hf : full = (da, o5) :: (xa, o4) :: rest) (N : News g L h ((D, oD) :: (tl ++ full))) (hap : Apart tl full) (o8 : LCg.Off1 D (tl ++ full)) (hx : ∀ p ∈ rest, p.1 ≠ xa) (hd : ∀ p ∈ (xa, o4) :: rest, p.1 ≠ da) :
    ∃ full', full' = (D, oD) :: (tl ++ rest) ∧ News g L h ((da, o5) :: (xa, o4) :: full') ∧ (∀ p ∈ full', p.1 ≠ xa) ∧ (∀ p ∈ full', p.1 ≠ da) ∧ (@Ne Nat xa da) ∧ (∀ p ∈ rest, p ∈ full') ∧ (∀ p ∈ (xa, o4) :: full', p.1 ≠ da) := by
  subst hf
  have h1 : ∀ p ∈ (D, oD) :: (tl ++ rest), p.1 ≠ xa := fun p hp => by
    rcases List.mem_cons.mp hp with rfl | hp
    · exact fun e => off1_ne o8 (xa, o4) (List.mem_append_right _ (.tail _ (.head _))) e.symm
    · rcases List.mem_append.mp hp with hp | hp
      · exact fun e => hap (xa, o4) (.tail _ (.head _)) p hp e.symm
      · exact hx p hp
  have h2 : ∀ p ∈ (D, oD) :: (tl ++ rest), p.1 ≠ da := fun p hp => by
    rcases List.mem_cons.mp hp with rfl | hp
    · exact fun e => off1_ne o8 (da, o5) (List.mem_append_right _ (.head _)) e.symm
    · rcases List.mem_append.mp hp with hp | hp
      · exact fun e => hap (da, o5) (.head _) p hp e.symm
      · exact hd p (.tail _ hp)
  refine ⟨_, rfl, fun p hp => N p ?_, h1, h2, hd _ (.head _), fun p hp => .tail _ (List.mem_append_right _ hp), fun p hp => ?_⟩
  · rcases List.mem_cons.mp hp with rfl | hp
    · exact .tail _ (List.mem_append_right _ (.head _))
    · rcases List.mem_cons.mp hp with rfl | hp
      · exact .tail _ (List.mem_append_right _ (.tail _ (.head _)))
      · rcases List.mem_cons.mp hp with rfl | hp
        · exact .head _
        · rcases List.mem_append.mp hp with hp | hp
          · exact .tail _ (List.mem_append_left _ hp)
          · exact .tail _ (List.mem_append_right _ (.tail _ (.tail _ hp)))
  · rcases List.mem_cons.mp hp with rfl | hp
    · exact hd _ (.head _)
    · exact h2 p hp
def FreshBox (news : List (Addr × Obj)) (t : Tell) (tl : List (Addr × Obj)) (y : Value) : Prop :=
  ∃ (x d la ga : Addr) (e0 e1 e2 e3 e4 e5 e6 : Int) (k0 k1 k2 k3 k4 k5 k6 t0 t1 t2 t3 t4 : Tok) (n : Nat) (vs ws : List Value) (rest : List (Addr × Obj)), y = .ref x ∧ tl = (la, LCg.lst vs) :: (ga, LCg.lst ws) :: rest ∧
    (∀ p ∈ rest, p.1 ≠ la) ∧ (∀ p ∈ rest, p.1 ≠ ga) ∧ (@Ne Nat la ga) ∧ (x, instObj 83 d) ∈ rest ∧
    (d, dictOf [⟨e0, .str (Str.ofString "name") k0, .str (Str.ofString "q") t0⟩, ⟨e1, .str (Str.ofString "validity") k1, .int 4 t1⟩, ⟨e2, .str (Str.ofString "next_uid") k2, .int t.nu t2⟩, ⟨e3, .str (Str.ofString "top") k3, .int t.top t3⟩,
      ⟨e4, .str (Str.ofString "floor") k4, .int t.fl t4⟩, ⟨e5, .str (Str.ofString "letters") k5, .ref la⟩, ⟨e6, .str (Str.ofString "gone") k6, .ref ga⟩] n) ∈ rest ∧
    All2 (LetterIn (rest ++ news)) vs t.ls ∧ All2 (fun v g => DatIn (rest ++ news) v (goneDat g)) ws t.gs
theorem pack_end {g h : Heap} {L da xa D1 D2 : Addr} {o5a o5b o5 o4 oD1 oD2 : Obj} {tl tl2 news full5 full6 full7 full8 : List (Addr × Obj)} (hf5 : full5 = (da, o5a) :: (xa, o4) :: news) (hf6 : full6 = (D1, oD1) :: (tl ++ news)) (hf7 : full7 = (da, o5b) :: (xa, o4) :: full6)
    (hf8 : full8 = (D2, oD2) :: (tl2 ++ full6)) (hap : Apart tl full5) (hap2 : Apart tl2 full7) (o8 : LCg.Off1 D1 (tl ++ full5)) (o9 : LCg.Off1 D2 (tl2 ++ full7)) (hxa : ∀ p ∈ news, p.1 ≠ xa) (hda : ∀ p ∈ (xa, o4) :: news, p.1 ≠ da) (N : News g L h ((da, o5) :: (xa, o4) :: full8)) :
    News g L h (((D1, oD1) :: (D2, oD2) :: (da, o5) :: (xa, o4) :: (tl2 ++ tl)) ++ news) ∧ Apart ((D1, oD1) :: (D2, oD2) :: (da, o5) :: (xa, o4) :: (tl2 ++ tl)) news ∧
      (∀ p ∈ (da, o5) :: (xa, o4) :: (tl2 ++ tl), p.1 ≠ D1) ∧ (∀ p ∈ (da, o5) :: (xa, o4) :: (tl2 ++ tl), p.1 ≠ D2) ∧ (@Ne Nat D1 D2) := by
  subst hf5 hf6 hf7 hf8
  have b8 := off1_ne o8
  have b9 := off1_ne o9
  have n5 : ∀ p ∈ news, p ∈ (da, o5a) :: (xa, o4) :: news := fun p hp => .tail _ (.tail _ hp)
  have n7 : ∀ p ∈ news, p ∈ (da, o5b) :: (xa, o4) :: (D1, oD1) :: (tl ++ news) := fun p hp => .tail _ (.tail _ (.tail _ (List.mem_append_right _ hp)))
  refine ⟨fun p hp => N p ?_, ?_, ?_, ?_, ?_⟩
  · simp only [List.cons_append, List.append_assoc, List.mem_cons, List.mem_append] at hp ⊢
    rcases hp with h | h | h | h | h | h | h
    · exact .inr (.inr (.inr (.inr (.inl h))))
    · exact .inr (.inr (.inl h))
    · exact .inl h
    · exact .inr (.inl h)
    · exact .inr (.inr (.inr (.inl h)))
    · exact .inr (.inr (.inr (.inr (.inr (.inl h)))))
    · exact .inr (.inr (.inr (.inr (.inr (.inr h)))))
  · intro q hq p hp
    simp only [List.mem_cons, List.mem_append] at hp
    rcases hp with rfl | rfl | rfl | rfl | h | h
    · exact b8 _ (List.mem_append_right _ (n5 _ hq))
    · exact b9 _ (List.mem_append_right _ (n7 _ hq))
    · exact hda _ (.tail _ hq)
    · exact hxa _ hq
    · exact hap2 _ (n7 _ hq) _ h
    · exact hap _ (n5 _ hq) _ h
  · intro p hp
    simp only [List.mem_cons, List.mem_append] at hp
    rcases hp with rfl | rfl | h | h
    · exact b8 (da, o5a) (List.mem_append_right _ (.head _))
    · exact b8 (xa, o4) (List.mem_append_right _ (.tail _ (.head _)))
    · exact fun e => hap2 (D1, oD1) (.tail _ (.tail _ (.head _))) _ h e.symm
    · exact b8 _ (List.mem_append_left _ h)
  · intro p hp
    simp only [List.mem_cons, List.mem_append] at hp
    rcases hp with rfl | rfl | h | h
    · exact b9 (da, o5b) (List.mem_append_right _ (.head _))
    · exact b9 (xa, o4) (List.mem_append_right _ (.tail _ (.head _)))
    · exact b9 _ (List.mem_append_left _ h)
    · exact b9 _ (List.mem_append_right _ (.tail _ (.tail _ (.tail _ (List.mem_append_left _ h)))))
  · exact b9 (D1, oD1) (List.mem_append_right _ (.tail _ (.tail _ (.head _))))
theorem box_pack {g h : Heap} {L D lb la x d : Addr} {o1 o2 o3 o4 o5 : Obj} {news : List (Addr × Obj)} (N : News g L h ((D, o1) :: (lb, o2) :: (la, o3) :: (x, o4) :: (d, o5) :: news)) (l1 : ∀ p ∈ news, p.1 < d) (l2 : d < x) :
    ∃ xa da full5, xa = x ∧ da = d ∧ full5 = (da, o5) :: (xa, o4) :: news ∧ News g L h full5 ∧ (∀ p ∈ news, p ∈ full5) ∧ (∀ p ∈ news, p.1 ≠ xa) ∧ (∀ p ∈ (xa, o4) :: news, p.1 ≠ da) := by
  refine ⟨x, d, _, rfl, rfl, rfl, fun p hp => N p ?_, fun p hp => .tail _ (.tail _ hp), fun p hp => Nat.ne_of_lt (Nat.lt_trans (l1 p hp) l2), fun p hp => ?_⟩
  · rcases List.mem_cons.mp hp with rfl | hp
    · exact .tail _ (.tail _ (.tail _ (.tail _ (.head _))))
    · rcases List.mem_cons.mp hp with rfl | hp
      · exact .tail _ (.tail _ (.tail _ (.head _)))
      · exact .tail _ (.tail _ (.tail _ (.tail _ (.tail _ hp))))
  · rcases List.mem_cons.mp hp with rfl | hp
    · exact Nat.ne_of_gt l2
    · exact Nat.ne_of_lt (l1 p hp)
theorem remade_of {w : World} {p : Program} {loose : List Str} {mean : ExcName → Option Value} {mg mb : Str → Option Value} {news : List (Addr × Obj)} {v : Value} {t : Tell} (ht : DatIn news v t.dat) (hl1 : t.ls.length ≤ 8) (hl2 : t.gs.length ≤ 8) :
    Tells2 w (tp.heap_39 w.params) p loose mean mg mb (.ref 92) [v] news 20 (FreshBox news t) := by
  unfold Tells2
  k_fill
  intro dp un gd cn cs a ccd cl outer A₀ base h₀ L m s Q E B F X N T hk hdp hun hret
  obtain ⟨nu, top, fl, ls, gs⟩ := t
  cases tell_inv ht with | @mk a0 a6 a7 _ _ _ _ _ n0 n6 n7 vs ws hm m6 m7 hL hG =>
  clear ht
  dsimp only at hl1 hl2
  refine wpAny_call ?_
  k_dflt ktr_enter
  k_steps
  obtain ⟨xa, da, full5, hxe, hde, hfull5, N6, hsub5, hxa, hda⟩ := box_pack (by assumption) (by assumption) (by assumption)
  subst hxe
  subst hde
  constructor
  k_dflt (refine comp_tup (by k_asm) (by rfl) (by decide) (by rfl) (by decide) (by rfl) ?_)
  k_steps
  refine SrcTup.ledger (by rfl) (by k_asm) N6 (hsub5 _ m6) (by rw [sizeLine_eq]; simp only [List.size_toArray]; have := hL.length; omega) ?_
  intro g7
  refine compRest_ind (n := vs.toArray.size) (fun i ys n' => ∃ tl, n' = tl ++ full5 ∧ Apart tl full5 ∧ All2 (LetterIn (tl ++ news)) ys (ls.take i)) ?step ?fin _ 0 [] full5 (Nat.zero_add _) ?start
  case start => exact ⟨[], rfl, .nil, .nil⟩
  case step =>
    rintro i ys n' hi ⟨tl, rfl, hap, hD⟩ v I oI C oC D m₂ h tk E' hP hC hx F N off ne
    obtain ⟨r, hr, hlt⟩ := hL.get (by simpa using hP)
    obtain ⟨full, hfull⟩ : ∃ full, full = (I, oI) :: (C, oC) :: (D, LCg.lst ys) :: (tl ++ full5) := ⟨_, rfl⟩
    rw [← hfull] at N
    have hsub : ∀ p ∈ full5, p ∈ full := fun p hp => by rw [hfull]; exact .tail _ (.tail _ (.tail _ (List.mem_append_right _ hp)))
    have hCf : (C, oC) ∈ full := by rw [hfull]; exact .tail _ (.head _)
    obtain ⟨ru, rb, ri, rm⟩ := r
    cases row_inv hlt with | @mk ra ea _ _ _ _ rn en q1 q3 =>
    clear hlt
    have q3n := q3
    replace q1 := hsub _ (hsub5 _ q1)
    replace q3 := hsub _ (hsub5 _ q3)
    k_steps
    refine compEnd_close (t1 := [_, _]) hfull (by assumption) (by assumption) (apart2 (by assumption) (by assumption)) off ⟨_, List.mem_append_right _ (List.mem_append_right _ (hsub5 _ m6))⟩ ⟨_ :: _ :: tl, rfl, Apart.append (t1 := [_, _]) ((apart2 (by assumption) (by assumption)).sub (fun _ h => h) hsub) hap, ?_⟩
    rw [take_snoc hr]
    refine (hD.imp fun _ _ => LetterIn.mono fun p hp => .tail _ (.tail _ hp)).snoc ?_
    exact .mk (.head _) (.tail _ (.head _)) (.tail _ (.tail _ (List.mem_append_right _ q3n)))
  case fin =>
    rintro ys n' ⟨tl, rfl, hap, hD⟩
    unfold LCg.FinE
    intro D1 h8 tk8 F8 N8 o8
    rw [List.size_toArray, List.take_of_length_le (by rw [hL.length]; exact Nat.le_refl _)] at hD
    obtain ⟨full6, hfull6, N9, hxa6, hda6, hne, hsub6, hda6'⟩ := pack2 hfull5 N8 hap o8 hxa hda
    clear N8 N6
    k_steps
    constructor
    obtain ⟨full7, hfull7, N10⟩ := opq (l := _ :: _ :: full6) (by assumption)
    have hsub7 : ∀ p ∈ full6, p ∈ full7 := fun p hp => by rw [hfull7]; exact .tail _ (.tail _ hp)
    k_dflt (refine comp_tup (by k_asm) (by rfl) (by decide) (by rfl) (by decide) (by rfl) ?_)
    have hm7 := hsub7 _ (hsub6 _ hm)
    have m77 := hsub7 _ (hsub6 _ m7)
    k_steps
    refine SrcTup.ledger (by rfl) (by k_asm) N10 m77 (by rw [sizeLine_eq]; simp only [List.size_toArray]; have := hG.length; omega) ?_
    intro g8
    refine compRest_ind (n := ws.toArray.size) (fun i ys n' => ∃ tl, n' = tl ++ full7 ∧ Apart tl full7 ∧ All2 (fun v g => DatIn tl v (goneDat g)) ys (gs.take i)) ?step2 ?fin2 _ 0 [] full7 (Nat.zero_add _) ?start2
    case start2 => exact ⟨[], rfl, .nil, .nil⟩
    case step2 =>
      rintro i ys2 n' hi ⟨tl, rfl, hap, hD⟩ v I oI C oC D m₂ h tk E' hP hC hx F N off ne
      obtain ⟨r, hr, hlt⟩ := hG.get (by simpa using hP)
      obtain ⟨full, hfull⟩ : ∃ full, full = (I, oI) :: (C, oC) :: (D, LCg.lst ys2) :: (tl ++ full7) := ⟨_, rfl⟩
      rw [← hfull] at N
      have hsub : ∀ p ∈ full7, p ∈ full := fun p hp => by rw [hfull]; exact .tail _ (.tail _ (.tail _ (List.mem_append_right _ hp)))
      have hCf : (C, oC) ∈ full := by rw [hfull]; exact .tail _ (.head _)
      obtain ⟨ru, rm⟩ := r
      cases gone_inv hlt with | @mk ra _ _ rn q1 =>
      clear hlt
      replace q1 := hsub _ (hsub7 _ (hsub6 _ q1))
      k_steps
      refine compEnd_close (t1 := [_]) hfull (by assumption) (by assumption) (Apart.nil.cons (by assumption)) off ⟨_, List.mem_append_right _ (List.mem_append_right _ m77)⟩ ⟨_ :: tl, rfl, Apart.append (t1 := [_]) ((Apart.nil.cons (by assumption)).sub (fun _ h => h) hsub) hap, ?_⟩
      rw [take_snoc hr]
      refine (hD.imp fun _ _ h => h.mono fun p hp => .tail _ hp).snoc ?_
      exact .tuple (vs := [_, _]) (.head _) (.cons (.int _ _) (.cons (.int _ _) .nil))
    case fin2 =>
    rintro ys2 n' ⟨tl2, rfl, hap2, hD2⟩
    unfold LCg.FinE
    intro D2 h9 tk9 F9 N11 o9
    rw [List.size_toArray, List.take_of_length_le (by rw [hG.length]; exact Nat.le_refl _)] at hD2
    obtain ⟨full8, hfull8, N12, hxa8, hda8, _, hsub8, hda8'⟩ := pack2 hfull7 N11 hap2 o9 hxa6 hda6'
    clear N11 N10
    k_steps
    obtain ⟨N13, ap13, c1, c2, c3⟩ := pack_end (g := h₀) hfull5 hfull6 hfull7 hfull8 hap hap2 o8 o9 hxa hda (by assumption)
    refine hret _ _ _ _ (by assumption) N13 ap13 ⟨xa, da, D1, D2, _, _, _, _, _, _, _, _, _, _, _, _, _, _, _, _, _, _, _, _, ys, ys2, _, rfl, rfl, c1, c2, c3, .tail _ (.head _), .head _, ?_, ?_⟩
    · exact hD.imp fun _ _ => LetterIn.mono fun p hp => by
        rcases List.mem_append.mp hp with hp | hp
        · exact List.mem_append_left _ (.tail _ (.tail _ (List.mem_append_right _ hp)))
        · exact List.mem_append_right _ hp
    · exact hD2.imp fun _ _ h => h.mono fun p hp => List.mem_append_left _ (.tail _ (.tail _ (List.mem_append_left _ hp)))
end Mine

end
section

open PySem PySem.W PySem.Calls PySem.Spec PyProof.Rows
set_option Elab.async false
set_option maxRecDepth 100000
set_option maxHeartbeats 8000000
namespace Mine
theorem fresh_M5 : True := by
  w_top off
  trivial
local macro_rules | `(tactic| walk_at "dummyA") => `(tactic| fail)
local macro_rules | `(tactic| k_mem) => `(tactic| first | exact List.mem_cons_of_mem _ (by ktr_member) | exact List.mem_cons_of_mem _ (List.mem_cons_of_mem _ (by ktr_member)) | exact List.mem_cons_of_mem _ (List.mem_cons_of_mem _ (List.mem_cons_of_mem _ (by ktr_member))) | exact List.mem_cons_of_mem _ (List.mem_cons_of_mem _ (List.mem_cons_of_mem _ (List.mem_cons_of_mem _ (by ktr_member)))))
local macro_rules | `(tactic| k_all) => `(tactic| assumption)
local macro_rules | `(tactic| walk_at "call builtin:max") => `(tactic| (k_here; refine Stop.out ?_))
local macro_rules | `(tactic| walk_at "setItem ref int") => `(tactic| (k_here; refine Stop.out ?_))
local macro_rules | `(tactic| walk_at "subscriptTail") => `(tactic| (k_here; (fail_if_success (with_reducible show wpAny _ _ (subscriptTail _ (Expr.Constant _ _ _) _ _) _ _ _)); refine Stop.out ?_))
theorem lines_pack {g h : Heap} {L D3 ma l' la l1' D0 : Addr} {oT oL1 oL0 o0 : Obj} {news : List (Addr × Obj)} {lv mv : List Value} {n1 n2 : Nat} (N : News g L h ((D3, oT) :: (ma, listOf mv.toArray n1) :: (l', oL1) :: (la, listOf lv.toArray n2) :: (l1', oL0) :: (D0, o0) :: news))
    (h1 : @LT.lt Nat _ l1' la ∧ @LT.lt Nat _ D0 la ∧ AllLt la news) (h2 : @LT.lt Nat _ l' ma ∧ @LT.lt Nat _ la ma ∧ @LT.lt Nat _ l1' ma ∧ @LT.lt Nat _ D0 ma ∧ AllLt ma news) :
    ∃ la' ma', la' = la ∧ ma' = ma ∧ News g L h ((ma', listOf mv.toArray n1) :: (la', listOf lv.toArray n2) :: news) ∧ (∀ p ∈ news, p.1 ≠ la') ∧ (∀ p ∈ news, p.1 ≠ ma') ∧ (@Ne Nat ma' la') := by
  refine ⟨la, ma, rfl, rfl, fun p hp => N p ?_, fun p hp => Nat.ne_of_lt (ktn_ltOf h1.2.2 p hp), fun p hp => Nat.ne_of_lt (ktn_ltOf h2.2.2.2.2 p hp), Nat.ne_of_gt h2.2.1⟩
  rcases List.mem_cons.mp hp with rfl | hp
  · exact .tail _ (.head _)
  · rcases List.mem_cons.mp hp with rfl | hp
    · exact .tail _ (.tail _ (.tail _ (.head _)))
    · exact .tail _ (.tail _ (.tail _ (.tail _ (.tail _ (.tail _ hp)))))
theorem law_sound_of {w : World} {p : Program} {loose : List Str} {mean : ExcName → Option Value} {mg mb : Str → Option Value} {news : List (Addr × Obj)} {v : Value} {t : Tell} (ht : DatIn news v t.dat) (hl1 : t.ls.length ≤ 8) (hl2 : t.gs.length ≤ 8) (hnu : t.nu ≤ 12) (htop : t.top ≤ 11) :
    Tells2 w (tp.heap_39 w.params) p loose mean mg mb (.ref 118) [v] news 8 (fun tl y => ∃ b, y = .bool b ∧ (b = true ↔ Sound t)) := by
  unfold Tells2
  k_fill
  intro dp un gd cn cs a ccd cl outer A₀ base h₀ L m s Q E B F X N T hk hdp hun hret
  obtain ⟨nu, top, fl, ls, gs⟩ := t
  cases tell_inv ht with | @mk a0 a6 a7 _ _ _ _ _ n0 n6 n7 vs ws hm m6 m7 hL hG =>
  clear ht
  dsimp only at hnu htop hl1 hl2
  have hend : ∀ (b : Bool) h' tk' n', Fr h₀ L h' m → News h₀ L h' n' → (∀ p ∈ news, p ∈ n') → (b = true ↔ Sound ⟨nu, top, fl, ls, gs⟩) → Q (.bool b) { s with heap := h', toks := tk' } := fun b h' tk' n' F N hs hb =>
    hret _ [] _ _ F (fun p hp => N p (hs p hp)) .nil ⟨b, rfl, hb⟩
  refine wpAny_call ?_
  k_dflt ktr_enter
  k_steps
  · exact hend false _ _ _ (by assumption) (by assumption) (fun p hp => .tail _ hp) (iff_of_false Bool.false_ne_true fun hS => by have h9 : 0 ≤ fl := hS.2.2.2.2.2.2.1; omega)
  · exact hend false _ _ _ (by assumption) (by assumption) (fun p hp => .tail _ hp) (iff_of_false Bool.false_ne_true fun hS => by have h9 : fl ≤ top := hS.2.2.2.2.2.2.2; omega)
  obtain ⟨la, ma, hle, hme, N6, hla, hma, hne⟩ := lines_pack (by assumption) (by assumption) (by assumption)
  subst hle
  subst hme
  k_dflt (refine For_unrF (by k_asm) ?_ (by intro _; rfl))
  k_steps
  refine letter_loop (fun i bf ln mn => LSt nu top ls i bf ln mn) (by rfl) m6 (by k_asm) N6 hla hma (by rfl) (by assumption) (by assumption) (LSt.start nu top ls) ?step ?fin
  case step =>
    intro i v bf tb vl h₁ tk₁ rest lv mv ln mn nl nm hP hSt hi1 hi2 hsub hla2 hma2 F7 N7
    obtain ⟨r, hr, hlt⟩ := hL.get (by simpa using hP)
    replace hi1 : Hid (IntsAre lv ln) := ⟨hi1⟩
    replace hi2 : Hid (IntsAre mv mn) := ⟨hi2⟩
    obtain ⟨ru, rb, ri, rm⟩ := r
    cases row_inv hlt with | @mk ra ea _ _ _ _ rn en q1 q3 =>
    clear hlt
    replace q1 := hsub _ q1
    k_steps
    all_goals try (refine LStep.ret ?_)
    all_goals try k_unfold
    all_goals k_steps
    all_goals try exact hend false _ _ _ (by assumption) (by assumption) (fun p hp => .tail _ (.tail _ (hsub p hp))) (iff_of_false Bool.false_ne_true (hSt.bad hr (by dsimp only; omega)))
    have hl1 := hSt.l1
    have hl2 := hSt.l2
    have hb0 := hSt.b0
    constructor
    k_dflt (refine li_set (by k_asm) (by k_asm) (.tail hne (.head hla2)) hi1.out (by omega) (by omega) (by omega) ?_)
    intro h21 F21 N21 i21
    replace i21 : Hid _ := ⟨i21⟩
    dsimp only
    k_steps
    constructor
    k_dflt (refine li_sub (by k_asm) (.head _) hi2.out (by omega) (by omega) (by omega) ?_)
    intro tk22
    k_steps
    constructor
    k_dflt (refine li_set (by k_asm) (by k_asm) (.head (fun p hp => (List.mem_cons.mp hp).elim (fun e => e ▸ hne.symm) (hma2 p))) hi2.out (by omega) (by omega) (by omega) ?_)
    intro h23 F23 N23 i23
    dsimp only
    replace i23 : Hid _ := ⟨i23⟩
    k_steps
    exact LStep.next ⟨ru, _, _, _, _, _, _, _, _, fr_next2 (by assumption), by assumption, i21.out, i23.out, hSt.next hr hnu htop (by dsimp only; omega) (by dsimp only; omega) (by dsimp only; omega) (by dsimp only; omega)⟩
  case fin =>
    rintro h' tk ⟨bf, tb, vl, lv, mv, ln, mn, nl, nm, F30, N30, i30, i31, hSt⟩
    rw [List.size_toArray, hL.length] at hSt
    replace i30 : Hid _ := ⟨i30⟩
    replace i31 : Hid _ := ⟨i31⟩
    k_steps
    constructor
    k_dflt (refine kso_max (by k_asm) (by k_asm) (News.isList (by k_asm) (.head _)) i31.out (by have := hSt.l2; omega) (by rfl) ?_)
    intro h32 M t32 tk32 F32 N32 hM1 hM2
    dsimp only
    have hdup := hSt.dup htop hM1 hM2
    have hgood := hSt.goods
    have hlen := hSt.l1
    have hline := hSt.line
    rw [List.take_length] at hline
    clear F30 N30 hM1 hM2 i31
    k_steps
    · exact hend false _ _ _ (by assumption) (by assumption) (fun p hp => .tail _ (.tail _ hp)) (iff_of_false Bool.false_ne_true fun hS => by
        have := hdup.mp hS.2.2.2.1
        omega)
    have hndm : (ls.map Row.m).Nodup := hdup.mpr (by omega)
    k_dflt (refine For_unrF (by k_asm) ?_ (by intro _; rfl))
    k_steps
    refine gone_loopT (fun i l => ∃ last, (GoneOk nu top fl (ls.map Row.u) fl gs ↔ GoneOk nu top fl (ls.map Row.u) last (gs.drop i)) ∧ ∀ m : Int, l ≤ m ↔ last ≤ m ∧ fl < m) (by rfl) (.tail _ (.tail _ m7)) (by k_asm) (by k_asm) (by rfl) ⟨fl, Iff.rfl, fun m => by omega⟩ ?step10 ?fin10
    case step10 =>
      rintro i v l t' vm vu h₁ tk₁ rest hP ⟨last, hR, hRm⟩ hsub F40 N40
      obtain ⟨g, hg1, hg2⟩ := hG.get (by simpa using hP)
      have hdrop : gs.drop i = g :: gs.drop (i + 1) := by
        obtain ⟨hlt, he⟩ := List.getElem?_eq_some_iff.mp hg1
        rw [List.drop_eq_getElem_cons hlt, he]
      rw [hdrop] at hR
      obtain ⟨gu, gm⟩ := g
      cases gone_inv hg2 with | mk hgm =>
      clear hg2
      replace hgm := hsub _ (.tail _ (.tail _ hgm))
      have hla4 := hsub _ (.tail _ (.head _))
      have hG1 : GoneOk nu top fl (ls.map Row.u) last ((gu, gm) :: gs.drop (i + 1)) → ((1 ≤ gu ∧ gu < nu) ∧ gu ∉ ls.map Row.u ∧ (last ≤ gm ∧ gm ≤ top) ∧ fl < gm) ∧ GoneOk nu top fl (ls.map Row.u) gm (gs.drop (i + 1)) := id
      have hG2 : ((1 ≤ gu ∧ gu < nu) ∧ gu ∉ ls.map Row.u ∧ (last ≤ gm ∧ gm ≤ top) ∧ fl < gm) ∧ GoneOk nu top fl (ls.map Row.u) gm (gs.drop (i + 1)) → GoneOk nu top fl (ls.map Row.u) last ((gu, gm) :: gs.drop (i + 1)) := id
      have hRg := hRm gm
      have hbad : ∀ h' tk' n', Fr h₀ L h' m → News h₀ L h' n' → (∀ p ∈ rest, p ∈ n') → ¬ ((1 ≤ gu ∧ gu < nu) ∧ gu ∉ ls.map Row.u ∧ (last ≤ gm ∧ gm ≤ top) ∧ fl < gm) → Q (.bool false) { s with heap := h', toks := tk' } := fun h' tk' n' F N hs hb =>
        hend false h' tk' n' F N (fun p hp => hs p (hsub p (.tail _ (.tail _ hp)))) (iff_of_false Bool.false_ne_true fun hS => hb (hG1 (hR.mp hS.2.2.2.2.2.1)).1)
      have hnext : (1 ≤ gu ∧ gu < nu) ∧ gu ∉ ls.map Row.u ∧ (last ≤ gm ∧ gm ≤ top) ∧ fl < gm → ∃ last', (GoneOk nu top fl (ls.map Row.u) fl gs ↔ GoneOk nu top fl (ls.map Row.u) last' (gs.drop (i + 1))) ∧ ∀ m : Int, gm ≤ m ↔ last' ≤ m ∧ fl < m :=
        fun hc => ⟨gm, hR.trans ⟨fun h => (hG1 h).2, fun h => hG2 ⟨hc, h⟩⟩, fun m => by omega⟩
      clear hR hG1 hG2 hRm
      k_steps
      all_goals try (refine LStep.ret ?_)
      all_goals try k_unfold
      all_goals k_steps
      · exact hbad _ _ _ (by assumption) (by assumption) (fun _ h => h) (by omega)
      · exact hbad _ _ _ (by assumption) (by assumption) (fun _ h => h) (by omega)
      constructor
      k_dflt (refine li_sub (by k_asm) hla4 i30.out (by omega) (by omega) (by omega) ?_)
      intro tk41
      have hlg := hline gu.toNat (by omega)
      have hge : ((gu.toNat : Nat) : Int) = gu := by omega
      rw [hge] at hlg
      rw [hlg]
      by_cases hmem : gu ∈ ls.map Row.u
      · rw [if_pos hmem]
        k_steps
        refine LStep.ret ?_
        k_unfold
        k_steps
        exact hbad _ _ _ (by assumption) (by assumption) (fun _ h => h) (fun h => h.2.1 hmem)
      · rw [if_neg hmem]
        k_steps
        all_goals try (refine LStep.ret ?_)
        all_goals try k_unfold
        all_goals k_steps
        all_goals first
          | exact hbad _ _ _ (by assumption) (by assumption) (fun _ h => h) (by omega)
          | exact LStep.next ⟨gm, _, _, _, fr_next3 (by assumption), by assumption, hnext ⟨by omega, hmem, by omega, by omega⟩⟩
    case fin10 =>
      rintro h' tk ⟨l, t', vm, vu, F50, N50, last, hR, -⟩
      have hSnd : Sound ⟨nu, top, fl, ls, gs⟩ := ⟨hgood.1, hgood.2.1, hgood.2.2.1, hndm, hgood.2.2.2, hR.mpr (by rw [List.drop_of_length_le (by rw [List.size_toArray, hG.length]; exact Nat.le_refl _)]; trivial), by dsimp only; omega, by dsimp only; omega⟩
      clear hR
      k_steps
      exact hend true _ _ _ (by assumption) (by assumption) (fun p hp => .tail _ (.tail _ hp)) (iff_of_true rfl hSnd)
end Mine

end
section

open PySem PySem.W PySem.Calls PySem.Spec PyProof.Rows
set_option Elab.async false
set_option maxRecDepth 100000
set_option maxHeartbeats 8000000
namespace Mine
theorem fresh_M6 : True := by
  w_top off
  trivial
local macro_rules | `(tactic| walk_at "dummyA") => `(tactic| fail)
local macro_rules | `(tactic| k_mem) => `(tactic| first | exact List.mem_cons_of_mem _ (by ktr_member) | exact List.mem_cons_of_mem _ (List.mem_cons_of_mem _ (by ktr_member)) | exact List.mem_cons_of_mem _ (List.mem_cons_of_mem _ (List.mem_cons_of_mem _ (by ktr_member))) | exact List.mem_cons_of_mem _ (List.mem_cons_of_mem _ (List.mem_cons_of_mem _ (List.mem_cons_of_mem _ (by ktr_member)))))
local macro_rules | `(tactic| k_all) => `(tactic| assumption)
local macro_rules | `(tactic| walk_at "subscriptTail") => `(tactic| (k_here; (fail_if_success (with_reducible show wpAny _ _ (subscriptTail _ (Expr.Constant (Const.int 1) _ _) _ _) _ _ _)); refine Stop.out ?_))
local macro_rules | `(tactic| walk_at "subscriptTail Name Slice ref ref") => `(tactic| (k_here; (with_reducible show wpAny _ _ (subscriptTail _ (PySem.Expr.Slice _ _ none _) (Value.ref _) (Value.ref _)) _ _ _); k_dflt (refine' kms_slice_lit ?F ?N ?l ?p ?q rfl ?_ ?s ?t ?z; (case F => k_asm); (case N => k_asm); (case l => exact News.isList (by k_asm) (by k_mem)); (case p => kmk_part); (case q => kmk_part); (case s => with_unfolding_all rfl); (case t => kmk_pure); (case z => (rw [sizeLine_eq]; simp only [List.size_toArray]; omega))); intro D' h' F' N' l1; (try k_lt l1)))
local macro_rules | `(tactic| walk_at "call builtin:sorted") => `(tactic| (k_here; refine Stop.out ?_))
local macro_rules | `(tactic| walk_at "call type:tuple") => `(tactic| (k_here; (with_reducible show wpAny _ _ (call (Value.type _) [Value.ref _]) _ _ _); k_dflt (refine' kde_tupleOf ?k1 ?k2 ?k3 ?k4 ?k5 ?_; (case k1 => k_asm); (case k2 => k_asm); (case k3 => exact News.isList (by k_asm) (by k_mem)); (case k4 => first | (simp only [List.size_toArray]; omega) | omega); (case k5 => exact rfl); k_whole); intro D' h' F' N' l1; (try k_sweep)))
local macro_rules | `(tactic| walk_at "exec For") => `(tactic| (k_here; refine Stop.out ?_))
theorem tell_pack {g h : Heap} {L Dt la lb D1 : Addr} {oT o1 : Obj} {news : List (Addr × Obj)} {n1 n2 : Nat} (N : News g L h ((Dt, oT) :: (lb, listOf #[] n2) :: (la, listOf #[] n1) :: (D1, o1) :: news))
    (h1 : @LT.lt Nat _ D1 la ∧ AllLt la news) (h2 : @LT.lt Nat _ la lb ∧ @LT.lt Nat _ D1 lb ∧ AllLt lb news) :
    ∃ la' lb' base, la' = la ∧ lb' = lb ∧ base = (lb', listOf #[] n2) :: news ∧ News g L h ((la', listOf #[] n1) :: base) ∧ (∀ p ∈ base, p.1 ≠ la') ∧ (∀ p ∈ news, p.1 ≠ lb') ∧ (@Ne Nat la' lb') := by
  refine ⟨la, lb, _, rfl, rfl, rfl, fun p hp => N p ?_, fun p hp => ?_, fun p hp => Nat.ne_of_lt (ktn_ltOf h2.2.2 p hp), Nat.ne_of_lt h2.1⟩
  · rcases List.mem_cons.mp hp with rfl | hp
    · exact .tail _ (.tail _ (.head _))
    · rcases List.mem_cons.mp hp with rfl | hp
      · exact .tail _ (.head _)
      · exact .tail _ (.tail _ (.tail _ (.tail _ hp)))
  · rcases List.mem_cons.mp hp with rfl | hp
    · exact Nat.ne_of_gt h2.1
    · exact Nat.ne_of_lt (ktn_ltOf h1.2 p hp)
def pickI (ns : List Int) (lo hi : Option Int) : List Int := (ns.drop (kms_lo lo ns.length)).take (kms_hi hi ns.length - kms_lo lo ns.length)
theorem pick_ints {vs : List Value} {ns : List Int} (h : IntsAre vs ns) (lo hi : Option Int) : IntsAre (kms_pick vs.toArray.toList lo hi) (pickI ns lo hi) := by
  unfold kms_pick pickI
  rw [show vs.toArray.toList = vs from rfl, IntsAre.length h]
  exact (h.drop _).take _
theorem pick15 {ns : List Int} (h3 : 3 ≤ ns.length) : (pickI ns (some 1) (some 5)).length ≤ 4 := by
  have e1 : kms_lo (some 1) ns.length = min 1 ns.length := rfl
  have e2 : kms_hi (some 5) ns.length = min 5 ns.length := rfl
  unfold pickI
  rw [List.length_take, e1, e2, Nat.min_eq_left (a := 1) (Nat.le_trans (by decide) h3)]
  exact Nat.le_trans (Nat.min_le_left _ _) (Nat.sub_le_sub_right (Nat.min_le_left 5 _) 1)
theorem pick15_ge {ns : List Int} (h3 : 3 ≤ ns.length) : 2 ≤ (pickI ns (some 1) (some 5)).length := by
  have e1 : kms_lo (some 1) ns.length = min 1 ns.length := rfl
  have e2 : kms_hi (some 5) ns.length = min 5 ns.length := rfl
  unfold pickI
  have h5 : 3 ≤ min 5 ns.length := Nat.le_min.mpr ⟨by decide, h3⟩
  rw [List.length_take, List.length_drop, e1, e2, Nat.min_eq_left (a := 1) (Nat.le_trans (by decide) h3)]
  exact Nat.le_min.mpr ⟨Nat.sub_le_sub_right h5 1, Nat.sub_le_sub_right h3 1⟩
theorem pick59 {ns : List Int} (h9 : ns.length ≤ 9) : (pickI ns (some 5) (some 9)).length ≤ 4 := by
  have e1 : kms_lo (some 5) ns.length = min 5 ns.length := rfl
  unfold pickI
  rw [List.length_take, List.length_drop, e1]
  refine Nat.le_trans (Nat.min_le_right _ _) ?_
  omega
theorem fm_byte {k : Int} : ∀ n ∈ [97 + k.fmod 8], 0 ≤ n ∧ n < 256 := fun n hn => by
  rw [List.mem_singleton.mp hn]
  have := Int.fmod_eq_emod_of_nonneg k (show (0 : Int) ≤ 8 by decide)
  omega
local macro_rules | `(tactic| walk_at "call type:bytes") => `(tactic| (k_here; k_dflt (refine bytes_K (vs := [_]) (by k_asm) (by k_asm) (News.isList (by k_asm) (.head _)) (IntsAre.cons _ _ .nil) fm_byte (by rw [sizeLine_eq]; exact Nat.le_of_ble_eq_true rfl) (by rfl) ?_); intro h' t' k' F' N' _))
theorem swap2 {g h : Heap} {L : Addr} {a b : Addr × Obj} {r : List (Addr × Obj)} (N : News g L h (a :: b :: r)) : News g L h (b :: a :: r) := fun p hp => N p (by
  rcases List.mem_cons.mp hp with rfl | hp
  · exact .tail _ (.head _)
  · rcases List.mem_cons.mp hp with rfl | hp
    · exact .head _
    · exact .tail _ (.tail _ hp))
theorem slice_pack {g h : Heap} {L D la : Addr} {oD ol : Obj} {base : List (Addr × Obj)} (N : News g L h ((D, oD) :: (la, ol) :: base)) (l1 : @LT.lt Nat _ la D ∧ AllLt D base) (hla : ∀ p ∈ base, p.1 ≠ la) :
    ∃ D' base', D' = D ∧ base' = (D', oD) :: base ∧ News g L h ((la, ol) :: base') ∧ (∀ p ∈ base', p.1 ≠ la) ∧ (D', oD) ∈ base' := by
  refine ⟨D, _, rfl, rfl, swap2 N, fun p hp => ?_, .head _⟩
  rcases List.mem_cons.mp hp with rfl | hp
  · exact Nat.ne_of_gt l1.1
  · exact hla p hp
theorem push_list (ys : List Value) (v : Value) : ys.toArray.push v = (ys ++ [v]).toArray := by simp
theorem step_pack {g h : Heap} {L T Em B la : Addr} {oT oE oB : Obj} {ys : List Value} {v : Value} {n1 : Nat} {rest : List (Addr × Obj)} (N : News g L h ((T, oT) :: (Em, oE) :: (B, oB) :: (la, listOf (ys.toArray.push v) n1) :: rest))
    (l2 : @LT.lt Nat _ B Em ∧ @LT.lt Nat _ la Em ∧ AllLt Em rest) (l3 : @LT.lt Nat _ Em T ∧ @LT.lt Nat _ B T ∧ @LT.lt Nat _ la T ∧ AllLt T rest) :
    News g L h ((la, listOf (ys ++ [v]).toArray n1) :: ([(T, oT), (Em, oE)] ++ rest)) ∧ Apart [(T, oT), (Em, oE)] ((la, listOf #[] 0) :: rest) := by
  rw [push_list] at N
  refine ⟨fun p hp => N p ?_, fun q hq p hp => ?_⟩
  · simp only [List.cons_append, List.nil_append, List.mem_cons] at hp ⊢
    rcases hp with h | h | h | h
    · exact .inr (.inr (.inr (.inl h)))
    · exact .inl h
    · exact .inr (.inl h)
    · exact .inr (.inr (.inr (.inr h)))
  · rcases List.mem_cons.mp hp with rfl | hp
    · rcases List.mem_cons.mp hq with rfl | hq
      · exact Nat.ne_of_lt l3.2.2.1
      · exact Nat.ne_of_lt (ktn_ltOf l3.2.2.2 q hq)
    · rw [List.mem_singleton.mp hp]
      rcases List.mem_cons.mp hq with rfl | hq
      · exact Nat.ne_of_lt l2.2.1
      · exact Nat.ne_of_lt (ktn_ltOf l2.2.2 q hq)
theorem step_pack1 {g h : Heap} {L T la : Addr} {oT : Obj} {ys : List Value} {v : Value} {n1 : Nat} {rest : List (Addr × Obj)} (N : News g L h ((T, oT) :: (la, listOf (ys.toArray.push v) n1) :: rest)) (l3 : @LT.lt Nat _ la T ∧ AllLt T rest) :
    News g L h ((la, listOf (ys ++ [v]).toArray n1) :: ([(T, oT)] ++ rest)) ∧ Apart [(T, oT)] ((la, listOf #[] 0) :: rest) := by
  rw [push_list] at N
  refine ⟨swap2 N, fun q hq p hp => ?_⟩
  rw [List.mem_singleton.mp hp]
  rcases List.mem_cons.mp hq with rfl | hq
  · exact Nat.ne_of_lt l3.1
  · exact Nat.ne_of_lt (ktn_ltOf l3.2 q hq)
theorem fr_nextC {h₀ h : Heap} {L : Addr} {Mb : Str → Option Value} {vc vd : Option Value} (F : Fr h₀ L h (fun y => if y = Str.ofString "cell" then vd else mapC Mb vc y)) : Fr h₀ L h (mapC Mb vd) := mapC_next ▸ F
theorem mid_pack {g h : Heap} {L la lb D1 : Addr} {ol oD : Obj} {tl base1 base2 news : List (Addr × Obj)} {n2 : Nat} {om : Obj} (hb1 : base1 = (lb, listOf #[] n2) :: news) (hb2 : base2 = (D1, oD) :: base1) (N : News g L h ((la, ol) :: (tl ++ base2))) (ap : Apart tl ((la, om) :: base2)) (l1 : @LT.lt Nat _ la D1 ∧ AllLt D1 base1)
    (hne : @Ne Nat la lb) (hlb : ∀ p ∈ news, p.1 ≠ lb) :
    ∃ base3, base3 = (la, ol) :: (D1, oD) :: (tl ++ news) ∧ News g L h ((lb, listOf #[] n2) :: base3) ∧ (∀ p ∈ base3, p.1 ≠ lb) ∧ (∀ p ∈ news, p ∈ base3) := by
  subst hb1 hb2
  refine ⟨_, rfl, fun p hp => N p ?_, fun p hp => ?_, fun p hp => .tail _ (.tail _ (List.mem_append_right _ hp))⟩
  · simp only [List.mem_cons, List.mem_append] at hp ⊢
    rcases hp with h | h | h | h | h
    · exact .inr (.inr (.inr (.inl h)))
    · exact .inl h
    · exact .inr (.inr (.inl h))
    · exact .inr (.inl h)
    · exact .inr (.inr (.inr (.inr h)))
  · simp only [List.mem_cons, List.mem_append] at hp
    rcases hp with rfl | rfl | h | h
    · exact hne
    · exact Nat.ne_of_gt l1.2.1
    · exact fun e => ap (lb, listOf #[] n2) (.tail _ (.tail _ (.head _))) p h e.symm
    · exact hlb p h
theorem pack9 {g h : Heap} {L la lb D1 D2 a6 : Addr} {ol ol2 oD1 oD2 om om2 tab : Obj} {tl tl2 base1 base2 base3 base4 newsX news : List (Addr × Obj)} {n2 : Nat} (hnX : newsX = (a6, tab) :: news) (hb1 : base1 = (lb, listOf #[] n2) :: newsX) (hb2 : base2 = (D1, oD1) :: base1) (hb3 : base3 = (la, ol) :: (D1, oD1) :: (tl ++ newsX))
    (hb4 : base4 = (D2, oD2) :: base3) (N : News g L h ((lb, ol2) :: (tl2 ++ base4))) (ap1 : Apart tl ((la, om) :: base2)) (ap2 : Apart tl2 ((lb, om2) :: base4)) (l1 : @LT.lt Nat _ la D1 ∧ AllLt D1 base1) (l2 : @LT.lt Nat _ lb D2 ∧ AllLt D2 base3) (hla : ∀ p ∈ base1, p.1 ≠ la) (hlb : ∀ p ∈ newsX, p.1 ≠ lb) (h6 : ∀ p ∈ news, p.1 ≠ a6) :
    ∃ t9 full, full = t9 ++ news ∧ Apart t9 ((a6, tab) :: news) ∧ News g L h ((a6, tab) :: full) ∧ (la, ol) ∈ full ∧ (lb, ol2) ∈ full ∧ (∀ p ∈ tl, p ∈ full) ∧ (∀ p ∈ tl2, p ∈ full) ∧ (∀ p ∈ full, p.1 ≠ a6) := by
  subst hnX hb1 hb2 hb3 hb4
  have hap : Apart ((lb, ol2) :: (tl2 ++ ((D2, oD2) :: (la, ol) :: (D1, oD1) :: tl))) ((a6, tab) :: news) := by
    intro q hq p hp
    have hq2 : q ∈ (D2, oD2) :: (la, ol) :: (D1, oD1) :: (tl ++ ((a6, tab) :: news)) := .tail _ (.tail _ (.tail _ (List.mem_append_right _ hq)))
    simp only [List.mem_cons, List.mem_append] at hp
    rcases hp with rfl | h | rfl | rfl | rfl | h
    · exact hlb q hq
    · exact ap2 q (.tail _ hq2) p h
    · exact Nat.ne_of_lt (ktn_ltOf l2.2 q (.tail _ (.tail _ (List.mem_append_right _ hq))))
    · exact hla q (.tail _ hq)
    · exact Nat.ne_of_lt (ktn_ltOf l1.2 q (.tail _ hq))
    · exact ap1 q (.tail _ (.tail _ (.tail _ hq))) p h
  refine ⟨(lb, ol2) :: (tl2 ++ ((D2, oD2) :: (la, ol) :: (D1, oD1) :: tl)), _, rfl, hap, fun p hp => N p ?_, ?_, .head _, fun p hp => ?_, fun p hp => ?_, fun p hp => ?_⟩
  · simp only [List.mem_cons, List.mem_append, List.cons_append, List.append_assoc] at hp ⊢
    rcases hp with h | h | h | h | h | h | h | h
    · exact .inr (.inr (.inr (.inr (.inr (.inr (.inl h))))))
    · exact .inl h
    · exact .inr (.inl h)
    · exact .inr (.inr (.inl h))
    · exact .inr (.inr (.inr (.inl h)))
    · exact .inr (.inr (.inr (.inr (.inl h))))
    · exact .inr (.inr (.inr (.inr (.inr (.inl h)))))
    · exact .inr (.inr (.inr (.inr (.inr (.inr (.inr h))))))
  · exact .tail _ (List.mem_append_left _ (List.mem_append_right _ (.tail _ (.head _))))
  · exact .tail _ (List.mem_append_left _ (List.mem_append_right _ (.tail _ (.tail _ (.tail _ hp)))))
  · exact .tail _ (List.mem_append_left _ (List.mem_append_left _ hp))
  · rcases List.mem_append.mp hp with hp | hp
    · exact fun e => hap (a6, tab) (.head _) p hp e.symm
    · exact h6 p hp
theorem lam_pack {g h : Heap} {L f c D t : Addr} {o1 o2 o3 o4 : Obj} {full own : List (Addr × Obj)} (N : News g L h ((f, o1) :: (c, o2) :: (D, o3) :: (t, o4) :: full ++ own)) :
    ∃ fullK, fullK = (D, o3) :: (t, o4) :: (full ++ own) ∧ News g L h ((f, o1) :: (c, o2) :: fullK) ∧ (∀ p ∈ full, p ∈ fullK) ∧ (∀ p ∈ (f, o1) :: (c, o2) :: (D, o3) :: (t, o4) :: full ++ own, p ∈ (f, o1) :: (c, o2) :: fullK) :=
  ⟨_, rfl, N, fun p hp => .tail _ (.tail _ (List.mem_append_left _ hp)), fun _ h => h⟩
theorem tell_end {h₀ h : Heap} {L D3 D2 D1 : Addr} {tab e6 : Addr × Obj} {full t9 news rest : List (Addr × Obj)} {ys ws : List Value} {ls : List Row} {gs : List (Int × Int)} {nu top fl : Int} {t0 t1 t2 t3 t4 : Tok}
    (N : News h₀ L h ((D3, tup #[.str (Str.ofString "q") t0, .int 4 t1, .int nu t2, .int top t3, .int fl t4, .ref D1, .ref D2] 0) :: (D2, tup ws.toArray 0) :: (D1, tup ys.toArray 0) :: rest)) (he6 : e6 ∈ rest) (hr : ∀ p ∈ full, p ∈ rest) (hf : full = t9 ++ news) (ap : Apart t9 (tab :: news))
    (l1 : ∀ p ∈ full, p.1 < D1) (l2 : ∀ p ∈ full, p.1 < D2) (l3 : ∀ p ∈ full, p.1 < D3) (hD : DatAll full ys (ls.map Row.dat)) (hG : DatAll full ws (gs.map goneDat)) :
    ∃ tl, News h₀ L h (e6 :: (tl ++ news)) ∧ Apart tl news ∧ DatIn (tl ++ news) (.ref D3) (Tell.dat ⟨nu, top, fl, ls, gs⟩) := by
  subst hf
  refine ⟨(D3, tup #[.str (Str.ofString "q") t0, .int 4 t1, .int nu t2, .int top t3, .int fl t4, .ref D1, .ref D2] 0) :: (D2, tup ws.toArray 0) :: (D1, tup ys.toArray 0) :: t9, fun p hp => N p ?_, ?_, ?_⟩
  · rcases List.mem_cons.mp hp with rfl | hp
    · exact .tail _ (.tail _ (.tail _ he6))
    rcases List.mem_cons.mp hp with rfl | hp
    · exact .head _
    · rcases List.mem_cons.mp hp with rfl | hp
      · exact .tail _ (.head _)
      · rcases List.mem_cons.mp hp with rfl | hp
        · exact .tail _ (.tail _ (.head _))
        · exact .tail _ (.tail _ (.tail _ (hr p hp)))
  · refine (((ap.sub (fun _ h => h) fun p hp => .tail _ hp).cons fun p hp => l1 p (List.mem_append_right _ hp)).cons fun p hp => l2 p (List.mem_append_right _ hp)).cons fun p hp => l3 p (List.mem_append_right _ hp)
  · refine .tuple (vs := [_, _, _, _, _, _, _]) (.head _) (.cons (.str _ _) (.cons (.int _ _) (.cons (.int _ _) (.cons (.int _ _) (.cons (.int _ _) (.cons ?_ (.cons ?_ .nil)))))))
    · exact .tuple (vs := ys) (.tail _ (.tail _ (.head _))) (hD.mono fun p hp => .tail _ (.tail _ (.tail _ hp)))
    · exact .tuple (vs := ws) (.tail _ (.head _)) (hG.mono fun p hp => .tail _ (.tail _ (.tail _ hp)))
theorem lt_key {D : Addr} {l full : List (Addr × Obj)} (h : ∀ p ∈ l, p.1 < D) (hs : ∀ p ∈ full, p ∈ l) : ∀ p ∈ full, p.1 < D := fun p hp => h p (hs p hp)
theorem nu_le (k : Int) : 1 + k.fmod 7 ≤ 7 ∧ 1 + (k.fdiv 7).fmod 8 ≤ 8 := by
  have h1 := Int.fmod_eq_emod_of_nonneg k (show (0 : Int) ≤ 7 by decide)
  have h2 := Int.fmod_eq_emod_of_nonneg (k.fdiv 7) (show (0 : Int) ≤ 8 by decide)
  omega
def GoneP (d : Dat) : Prop := ∃ g, d = goneDat g
theorem telling_of {w : World} {p : Program} {loose : List Str} {mean : ExcName → Option Value} {mg mb : Str → Option Value} {news : List (Addr × Obj)} {c : Addr} {vs : List Value} {ns : List Int} {nn : Nat} (hc : (c, listOf vs.toArray nn) ∈ news) (hi : IntsAre vs ns) (h3 : 3 ≤ ns.length) (h9 : ns.length ≤ 9) (h106 : ∀ p ∈ news, p.1 ≠ (106 : Addr)) :
    ∀ (dp un : Nat) (gd : Option (List Code)) (cn : Str) (cs : Scope) (a : Addr) (ccd : Value) (cl : List (Str × Addr)) (outer : List Env) (A₀ : Around) (base h₀ : Heap) (L : Addr) (m : Str → Option Value) (s : Shared)
    (Q E : Value → Shared → Prop), CodeHd base 110 106 → Below A₀ base outer h₀ → Fr h₀ L s.heap m → (tp.heap_39 w.params).In h₀ → News h₀ L s.heap ((106, tabObj #[]) :: news) → Top p loose mean mg mb h₀ → cs.kind = .function → dp + 8 < recursionLimit → un + 8 * 8 < cLine →
    (∀ r tl ps h' tk', Fr h₀ L h' m → News h₀ L h' ((106, tabObj ps) :: (tl ++ news)) → Apart tl news → (∃ t : Tell, DatIn (tl ++ news) r t.dat ∧ t.ls.length ≤ 4 ∧ t.gs.length ≤ 4 ∧ t.nu ≤ 7 ∧ t.top ≤ 8) → Q r { s with heap := h', toks := tk' }) →
    wpAny (model PySem.Challenge.rw_or0028_01.row.prog w) (ktrTop dp un gd cn cs L a ccd cl outer) (call (.ref 111) [.ref c]) Q E s := by
  k_fill
  intro dp un gd cn cs a ccd cl outer A₀ base h₀ L m s Q E hCd B F X N T hk hdp hun hret
  obtain ⟨newsX, hnX, N⟩ : ∃ newsX, newsX = (106, tabObj #[]) :: news ∧ News h₀ L s.heap newsX := ⟨_, rfl, N⟩
  have hc0 := hc
  replace hc : (c, listOf vs.toArray nn) ∈ newsX := by rw [hnX]; exact .tail _ hc
  replace hi : Hid _ := ⟨hi⟩
  refine wpAny_call ?_
  k_dflt ktr_enter
  k_steps
  constructor
  k_dflt (refine li_sub (by k_asm) hc hi.out (by omega) (by omega) (by omega) ?_)
  intro t1
  generalize ns.getD (Int.toNat 0) 0 = num
  k_steps
  rename News _ _ _ (_ :: _) => Nx
  obtain ⟨la, lb, base1, hle, hme, hb1, N6, hla, hlb, hne⟩ := tell_pack Nx (by assumption) (by assumption)
  subst hle
  subst hme
  clear Nx
  have hsub1 : ∀ p ∈ newsX, p ∈ base1 := fun p hp => by rw [hb1]; exact .tail _ hp
  have hc1 := hsub1 _ hc
  have hsv : vs.length = ns.length := IntsAre.length hi.out
  constructor
  k_dflt (refine For_invVF (by k_asm) (by rfl) (by rfl) ?_ (by intro _; rfl))
  k_steps
  obtain ⟨D1, base2, hDe, hb2, N7, hla2, hD2⟩ := slice_pack (by assumption) (by assumption) hla
  subst hDe
  refine app_loop RowOk (by rfl) hD2 (pick_ints hi.out (some 1) (some 5)) (by k_asm) N7 hla2 (Nat.le_trans (pick15 h3) (by decide)) ?step ?fin
  case step =>
    intro k t vc h₁ tk₁ rest ys n N8 hr8 F8 hys
    k_steps
    rename News _ _ _ (_ :: _ :: _ :: _ :: _) => Nx
    obtain ⟨N9, ap9⟩ := step_pack Nx (by assumption) (by assumption)
    exact LStep.next ⟨_, _, _, _, Row.dat ⟨_, _, _, _⟩, fr_nextC (by assumption), N9, ap9, ⟨_, rfl, rfl⟩, .tuple (vs := [_, _, _, _, _]) (.head _) (.cons (.int _ _) (.cons (.bytes _ _) (.cons (.tuple (vs := []) (.tail _ (.head _)) .nil) (.cons (.int _ _) (.cons (.int _ _) .nil)))))⟩
  case fin =>
    intro h' tk tl ys nl ds vc F9 N9 ap9 hD9 hok9 hlen9
    obtain ⟨base3, hb3, N10, hlb3, hsub3⟩ := mid_pack hb1 hb2 N9 ap9 (by assumption) hne hlb
    have hc3 := hsub3 _ hc
    clear N9 N7 N6
    k_steps
    constructor
    k_dflt (refine For_invVF (by k_asm) (by rfl) (by rfl) ?_ (by intro _; rfl))
    k_steps
    obtain ⟨D2, base4, hDe2, hb4, N11, hlb4, hD4⟩ := slice_pack (by assumption) (by assumption) hlb3
    subst hDe2
    refine app_loop GoneP (by rfl) hD4 (pick_ints hi.out (some 5) (some 9)) (by k_asm) N11 hlb4 (Nat.le_trans (pick59 h9) (by decide)) ?step2 ?fin2
    case step2 =>
      intro k t vc2 h₁ tk₁ rest ys2 n N8 hr8 F8 hys
      k_steps
      rename News _ _ _ (_ :: _ :: _) => Nx
      obtain ⟨N9, ap9⟩ := step_pack1 Nx (by assumption)
      exact LStep.next ⟨_, _, _, _, goneDat (_, _), fr_nextC (by assumption), N9, ap9, ⟨_, rfl⟩, .tuple (vs := [_, _]) (.head _) (.cons (.int _ _) (.cons (.int _ _) .nil))⟩
    case fin2 =>
    intro h' tk tl2 ws nw ds2 vc2 F12 N12 ap12 hD12 hok12 hlen12
    obtain ⟨t9, full, hfull, ap13, N13, hlaf, hlbf, hs1, hs2, h6⟩ := pack9 hnX hb1 hb2 hb3 hb4 N12 ap9 ap12 (by assumption) (by assumption) hla hlb h106
    replace hD9 := hD9.mono hs1
    replace hD12 := hD12.mono hs2
    have hge9 : 2 ≤ ds.length := by rw [hlen9]; exact pick15_ge h3
    replace hlen9 : ds.length ≤ 4 := by rw [hlen9]; exact pick15 h3
    replace hlen12 : ds2.length ≤ 4 := by rw [hlen12]; exact pick59 h9
    have hl9 := hD9.length
    have hl12 := hD12.length
    clear N12 ap12 ap9 hb1 hb2 hb3 hb4 hla hlb hla2 hlb3 hlb4 hsub1 hsub3 hc3 hc1 N11 N10
    replace hfull : Hid _ := ⟨hfull⟩
    replace ap13 : Hid _ := ⟨ap13⟩
    k_steps
    · constructor
      k_dflt (refine sorted_rows (by k_asm) (by k_asm) (.tail _ hlaf) (fun p hp => .tail _ hp) hD9 hok9 (by omega) (by omega) (by ktr_units) ?_)
      intro D20 h20 tk20 c20 vs20 ds20 F20 N20 l20 hD20 hok20 hlen20
      dsimp only
      (try k_lt l20)
      k_steps
      constructor
      obtain ⟨gs2, hgs2⟩ := gone_list hok12
      rename News _ _ _ (_ :: _ :: _) => Nx
      ksk_show
      k_dflt (refine ksk_sorted (b := false) (kz := gs2.map Prod.snd) (vs := ws) (by k_asm) Nx (News.isList (by k_asm) (by k_mem)) (by rw [List.length_map, hl12, hgs2, List.length_map]) (by omega) (by ksk_a1) (by intro _; ksk_a2) (by intro _; ksk_a3) ?turn ?fin3)
      case turn =>
        intro i v k hv hkz h21 tk21 own F21 N21
        have hG12 : All2 (fun v g => DatIn full v (goneDat g)) ws gs2 := dat_all2 (by rw [← hgs2]; exact hD12)
        obtain ⟨g, hg1, hg2⟩ := hG12.get hv
        obtain ⟨gu, gm⟩ := g
        have hkg : k = gm := by
          rw [List.getElem?_map, hg1] at hkz
          exact (Option.some.inj hkz).symm
        subst hkg
        cases gone_inv hg2 with | mk hgm =>
        clear hg2
        obtain ⟨fullK, hfK, N22, hsK, hneed⟩ := lam_pack N21
        replace hgm := hsK _ hgm
        clear N21 hfK
        refine wpAny_call ?_
        k_dflt (refine' kla_code ?k1 ?k2 ?k3 ?k4 ?k5 ?kA ?kF ?kK ?k6 ?k7 ?k8 ?k9 ?kB ?_ ?c2 ?c3 ?c4 ?c5; (case kA => exact rfl); (case kF => exact rfl); (case kK => exact rfl); (case k1 => k_asm); (case k2 => k_asm); (case k3 => k_asm); (case k4 => k_asm); (case k5 => k_asm); (case k6 => k_mem); (case k7 => exact codeRec_news (by k_asm) (by k_mem) (by assumption) (by assumption)); (case k8 => ktr_room); (case k9 => exact rfl); (case c5 => decide); (case kB => exact locs rfl); (case c2 => exact rfl); (case c3 => exact rfl); (case c4 => exact rfl); k_whole; intro g' L' h' FG' F' N' B' X' T'; (try dsimp only); (try k_fold))
        k_steps
        exact KskEnd.intro (by assumption) (by assumption) hneed
      case fin3 =>
        intro D30 h30 tk30 out30 c30 F30 N30 l30 hout
        dsimp only
        (try k_lt l30)
        obtain ⟨gs3, hD30, hlen30⟩ := ksk_dat hout (by rw [List.length_map, hl12, hgs2, List.length_map]) hD12 hok12
        have hsz30 : out30.size ≤ 4 := by rw [← Array.length_toList, hlen30]; omega
        clear hout
        k_steps
        rename News h₀ _ _ (_ :: _ :: _ :: _) => kNx
        obtain ⟨ls40, hls40⟩ := row_list hok20
        obtain ⟨tlx, N41, ap41, d41⟩ := tell_end (ls := ls40) (gs := gs3) (full := full) (e6 := (106, tabObj _)) kNx (by repeat (first | exact List.Mem.head _ | refine List.Mem.tail _ ?_)) (fun p hp => by repeat (first | exact hp | refine List.mem_cons_of_mem _ ?_)) hfull.out ap13.out
          (lt_key (by assumption) (fun p hp => by repeat (first | exact hp | refine List.mem_cons_of_mem _ ?_)))
          (lt_key (by assumption) (fun p hp => by repeat (first | exact hp | refine List.mem_cons_of_mem _ ?_)))
          (by intro p hp; exact ktn_ltOf (by assumption : _ ∧ _ ∧ _ ∧ _ ∧ _ ∧ _ ∧ _ ∧ _ ∧ AllLt _ full).2.2.2.2.2.2.2.2 p hp)
          (by rw [← hls40]; exact hD20) (hD30)
        exact hret _ tlx _ _ _ (by assumption) N41 ap41 ⟨_, d41, by have := hD20.length; rw [hls40, List.length_map] at this; dsimp only; omega, by have := hD30.length; rw [List.length_map, hlen30] at this; dsimp only; omega, (nu_le num).1, (nu_le num).2⟩
    · obtain ⟨gs3, hgs3⟩ := gone_list hok12
      rename News h₀ _ _ (_ :: _ :: _ :: _) => kNx
      obtain ⟨ls40, hls40⟩ := row_list hok9
      obtain ⟨tlx, N41, ap41, d41⟩ := tell_end (ls := ls40) (gs := gs3) (full := full) (e6 := (106, tabObj _)) kNx (by repeat (first | exact List.Mem.head _ | refine List.Mem.tail _ ?_)) (fun p hp => by repeat (first | exact hp | refine List.mem_cons_of_mem _ ?_)) hfull.out ap13.out
        (lt_key (by assumption) (fun p hp => by repeat (first | exact hp | refine List.mem_cons_of_mem _ ?_)))
        (lt_key (by assumption) (fun p hp => by repeat (first | exact hp | refine List.mem_cons_of_mem _ ?_)))
        (by intro p hp; exact ktn_ltOf (by assumption : _ ∧ _ ∧ _ ∧ AllLt _ full).2.2.2 p hp)
        (by rw [← hls40]; exact hD9) (by rw [← hgs3]; exact hD12)
      exact hret _ tlx _ _ _ (by assumption) N41 ap41 ⟨_, d41, by have := hD9.length; rw [hls40, List.length_map] at this; dsimp only; omega, by have := hD12.length; rw [hgs3, List.length_map] at this; dsimp only; omega, (nu_le num).1, (nu_le num).2⟩
end Mine

end
section
open PySem PySem.W PySem.Calls PySem.Spec PyProof.Rows
set_option Elab.async false
set_option maxRecDepth 100000
set_option maxHeartbeats 8000000
namespace Mine
theorem fresh_M7 : True := by
  w_top off
  trivial
def CellsPost (h₀ : Heap) (L : Addr) (m : Str → Option Value) (s : Shared) (v : Value) (s' : Shared) : Prop :=
  ∃ (D : Addr) (vs : List Value) (ns : List Int) (nn : Nat) (h' : Heap) (tk : Nat), v = .ref D ∧ s' = { s with heap := h', toks := tk } ∧ Fr h₀ L h' m ∧ News h₀ L h' [(D, listOf vs.toArray nn), (106, tabObj #[])] ∧ IntsAre vs ns ∧ 3 ≤ ns.length ∧ ns.length ≤ 9 ∧ (@LT.lt Nat _ 106 D)
structure CellsP (h₀ : Heap) (L : Addr) (m : Str → Option Value) (s : Shared) (v : Value) (s' : Shared) : Prop where
  out : CellsPost h₀ L m s v s'
theorem cells_mono {M : Model} {A : Around} {E : Value → Shared → Prop} {t : Sem Value} {h₀ : Heap} {L : Addr} {m : Str → Option Value} {s : Shared} {Q : Value → Shared → Prop} (_F : Fr h₀ L s.heap m) (h : wpAny M A t (CellsP h₀ L m s) E s) (k : ∀ v s', CellsP h₀ L m s v s' → Q v s') : wpAny M A t Q E s :=
  wpAny_mono h k fun _ _ e => e
local macro_rules | `(tactic| kqd_in) => `(tactic| exact DatIn.bytes _ _)
local macro_rules | `(tactic| walk_at "call ref") => `(tactic| (k_here; refine Stop.out ?_))
local macro_rules | `(tactic| walk_at "call ref") => `(tactic| (k_here; k_dflt (refine' call_cls ?k1 ?k2 ?k3 ?k4 ?k5 ?k6 ?_; (case k1 | k2 | k3 => k_asm); (case k4 | k5 | k6 => k_is); k_whole; intro x' d' h' F' N' l1 l2; (try k_lt l1); (try k_lt2 l2); (try k_sweep); (refine' code_def ?k1 ?k2 ?k3 ?k4 ?k5 ?kA ?kF ?kK ?k6 ?k7 ?k8 ?k9 ?kB ?_ ?c2 ?c3 ?c4 ?c5; (case kA | kF | kK => exact rfl); (case k1 | k2 | k3 | k4 | k5 => k_asm); (case k6 | k7 => k_is); (case k8 => ktr_room); (case k9 => exact BindsTo.of_eq rfl); (case c5 => decide); (case kB => exact locs rfl); (case c2 | c3 | c4 => exact rfl); k_whole; intro g' L' h' FG' F' N' B' X' T'; (try dsimp only); (try k_fold)))))
local macro_rules | `(tactic| k_mem) => `(tactic| first | with_reducible exact List.Mem.head _ | exact List.mem_cons_of_mem _ (by ktr_member) | exact List.mem_cons_of_mem _ (List.mem_cons_of_mem _ (by ktr_member)) | exact List.mem_cons_of_mem _ (List.mem_cons_of_mem _ (List.mem_cons_of_mem _ (by ktr_member))) | exact List.mem_cons_of_mem _ (List.mem_cons_of_mem _ (List.mem_cons_of_mem _ (List.mem_cons_of_mem _ (by ktr_member)))) | exact List.mem_cons_of_mem _ (List.mem_cons_of_mem _ (List.mem_cons_of_mem _ (List.mem_cons_of_mem _ (List.mem_cons_of_mem _ (by ktr_member))))) | exact List.mem_cons_of_mem _ (List.mem_cons_of_mem _ (List.mem_cons_of_mem _ (List.mem_cons_of_mem _ (List.mem_cons_of_mem _ (List.mem_cons_of_mem _ (by ktr_member)))))))
local macro_rules | `(tactic| k_all) => `(tactic| assumption)
local macro_rules | `(tactic| k_in) => `(tactic| (refine' Frag.In.keeps ?X9 (Fr.keep ?F9); (case F9 => with_reducible assumption); (case X9 => with_reducible assumption)))
local macro_rules | `(tactic| walk_at "callWith ref") => `(tactic| (k_here; k_dflt (refine' callWith_M0 ?k1 ?k2 ?_; (case k1 => k_meth); (case k2 => k_is); k_whole; try dsimp only [List.nil_append, List.cons_append])))
local macro_rules | `(tactic| walk_at "compareOp NotEq bool bool") => `(tactic| (k_here; refine Stop.out ?_))
local macro_rules | `(tactic| walk_at "exec For Name Tuple cons nil") => `(tactic| (k_here; refine Stop.out ?_))
local macro_rules | `(tactic| walk_at "pyIter ref") => `(tactic| (k_here; refine Stop.out ?_))
local macro_rules | `(tactic| walk_at "compareOp NotEq ref ref") => `(tactic| (k_here; refine Stop.out ?_))
local macro_rules | `(tactic| walk_at "compareOp Eq ref ref") => `(tactic| (k_here; refine Stop.out ?_))
local macro_rules | `(tactic| walk_at "call type:tuple") => `(tactic| (k_here; (with_reducible show wpAny _ _ (call (Value.type _) [Value.ref _]) _ _ _); k_dflt (refine call_tuple_tup (News.isTup (by k_asm) (by k_mem)) ?_)))
local macro_rules | `(tactic| walk_at "eval IfExp") => `(tactic| (k_here; refine Stop.out ?_))
local macro_rules | `(tactic| walk_at "subscriptTail Name Slice ref ref") => `(tactic| (k_here; (with_reducible show wpAny _ _ (subscriptTail _ (Expr.Slice none (some (Expr.Constant (Const.int 6) _ _)) none _) _ _) _ _ _); refine Stop.out ?_))
theorem opq7 {g h : Heap} {L : Addr} {l : List (Addr × Obj)} (N : News g L h l) : ∃ full, full = l ∧ News g L h full := ⟨l, rfl, N⟩
theorem fresh_box {news tl : List (Addr × Obj)} {t : Tell} {y : Value} (h : FreshBox news t tl y) (h1 : t.ls.length ≤ 8) (h2 : t.gs.length ≤ 8) : ∃ x, y = .ref x ∧ BoxIn (tl ++ news) (.ref x) t := by
  obtain ⟨x, d, la, ga, e0, e1, e2, e3, e4, e5, e6, k0, k1, k2, k3, k4, k5, k6, t0, t1, t2, t3, t4, n, vs, ws, rest, rfl, rfl, -, -, -, hx, hd, hL, hG⟩ := h
  obtain ⟨nu, top, fl, ls, gs⟩ := t
  refine ⟨x, rfl, .mk (List.mem_append_left _ (.tail _ (.tail _ hx))) (List.mem_append_left _ (.tail _ (.tail _ hd))) (.head _) (.tail _ (.head _)) (hL.imp fun _ _ => LetterIn.mono fun p hp => ?_) (hG.imp fun _ _ h => h.mono fun p hp => ?_) (by rw [hL.length]; exact h1) (by rw [hG.length]; exact h2)⟩
  · rcases List.mem_append.mp hp with hp | hp
    · exact List.mem_append_left _ (.tail _ (.tail _ hp))
    · exact List.mem_append_right _ hp
  · rcases List.mem_append.mp hp with hp | hp
    · exact List.mem_append_left _ (.tail _ (.tail _ hp))
    · exact List.mem_append_right _ hp
theorem box_inst {news : List (Addr × Obj)} {x : Addr} {t : Tell} (h : BoxIn news (.ref x) t) : ∃ (d la ga : Addr) (e0 e1 e2 e3 e4 e5 e6 : Int) (k0 k1 k2 k3 k4 k5 k6 t0 t1 t2 t3 t4 : Tok) (n : Nat) (nu top fl : Int), (x, instObj 83 d) ∈ news ∧
    (d, dictOf [⟨e0, .str (Str.ofString "name") k0, .str (Str.ofString "q") t0⟩, ⟨e1, .str (Str.ofString "validity") k1, .int 4 t1⟩, ⟨e2, .str (Str.ofString "next_uid") k2, .int nu t2⟩, ⟨e3, .str (Str.ofString "top") k3, .int top t3⟩,
      ⟨e4, .str (Str.ofString "floor") k4, .int fl t4⟩, ⟨e5, .str (Str.ofString "letters") k5, .ref la⟩, ⟨e6, .str (Str.ofString "gone") k6, .ref ga⟩] n) ∈ news := by
  cases h with
  | mk a b => exact ⟨_, _, _, _, _, _, _, _, _, _, _, _, _, _, _, _, _, _, _, _, _, _, _, _, _, _, a, b⟩
theorem ne_bool_same {prog : Program} {w : World} {A : Around} {E : Value → Shared → Prop} {s : Shared} {Q : Value → Shared → Prop} (b : Bool) (h : Q (.bool false) s) : wpAny (model prog w) A (compareOp .NotEq (.bool b) (.bool b)) Q E s := by
  have q := PySem.SeqAt.RcNeAt.bool_bool (A := A) (s := s) b b
  rw [show (!(b == b)) = false by simp] at q
  exact q prog w E Q h
theorem tells_neq {t : Tell} {r : Row} {g : Int × Int} (h : Tell.dat ⟨t.nu, t.top, t.fl, t.ls ++ [r], t.gs ++ [g]⟩ = t.dat) : False := by
  have e := tell_inj h
  have e2 := congrArg (fun x : Tell => x.ls.length) e
  simp at e2
theorem other_pack {g h : Heap} {L la ga : Addr} {o1 o2 : Obj} {rest news : List (Addr × Obj)} (N : News g L h ((la, o1) :: (ga, o2) :: rest ++ news)) (ap : Apart ((la, o1) :: (ga, o2) :: rest) news) (ha : ∀ p ∈ rest, p.1 ≠ la) (hg : ∀ p ∈ rest, p.1 ≠ ga) :
    ∃ r, r = rest ++ news ∧ News g L h ((la, o1) :: (ga, o2) :: r) ∧ (∀ p ∈ news, p ∈ r) ∧ (∀ p ∈ r, p.1 ≠ la) ∧ (∀ p ∈ r, p.1 ≠ ga) ∧ (∀ p ∈ rest, p ∈ r) :=
  ⟨_, rfl, N, fun p hp => List.mem_append_right _ hp, fun p hp => (List.mem_append.mp hp).elim (ha p) fun h => ap p h _ (.head _), fun p hp => (List.mem_append.mp hp).elim (hg p) fun h => ap p h _ (.tail _ (.head _)), fun p hp => List.mem_append_left _ hp⟩
theorem law_holds : PySem.Challenge.rw_or0028_01.Holds := tp (by
  k_go0
  (all_goals try k_fold)
  k_steps
  constructor
  refine cells_mono (by k_asm) ?cells ?rest
  case cells =>
    refine IfExp_ ?_
    k_steps
    · rename News _ _ _ [_, _, _, _] => Nx
      refine CellsP.mk ?_
      unfold CellsPost
      exact ⟨_, _, _, _, _, _, rfl, rfl, (by assumption), (fun p hp => Nx p (by
        rcases List.mem_cons.mp hp with rfl | hp
        · exact .head _
        · exact .tail _ (.tail _ (.tail _ hp)))), (by assumption), (by simp only [List.length_take, List.length_append, List.length_cons, List.length_nil]; omega), (by rw [List.length_take]; exact Nat.min_le_left _ _), (by rename _ ∧ _ ∧ _ => hq; exact hq.2.2)⟩
    · refine CellsP.mk ?_
      unfold CellsPost
      exact ⟨_, _, _, _, _, _, rfl, rfl, (by assumption), (by assumption), (by assumption), (by rw [List.length_take]; omega), (by rw [List.length_take]; exact Nat.min_le_left _ _), (by assumption)⟩
  case rest =>
    rintro v s' ⟨cD, vs0, ns0, nn0, h0, tk0, rfl, rfl, F0, N0, hI0, h3, h9, hlt⟩
    replace hI0 : Hid _ := ⟨hI0⟩
    dsimp only
    k_steps
    constructor
    rename News _ _ _ _ => Nx
    k_dflt (refine slice_upto (a := 6) (by k_asm) Nx (News.isTup Nx (.head _)) (Nat.le_of_ble_eq_true rfl) rfl (Nat.le_of_ble_eq_true rfl) ?_ (by with_unfolding_all rfl) (by intro _; with_unfolding_all rfl))
    intro D' h' F' N' l1
    (try k_lt l1)
    k_steps
    constructor
    k_dflt (refine For_unrF (by k_asm) ?_ (by intro _; rfl))
    k_steps
    constructor
    rename Fr _ _ _ _ => Fx
    rename News _ _ _ _ => Ny
    obtain ⟨G, hGe⟩ := name_ref (x := Str.ofString "good") Fx rfl
    obtain ⟨Bd, hBe⟩ := name_ref (x := Str.ofString "bad") Fx rfl
    subst hGe
    subst hBe
    obtain ⟨lst, hlst, Nz⟩ := opq7 Ny
    have hgood0 : DatIn lst (.ref G) goodT.dat := by
      rw [hlst]
      show DatIn _ _ (.tuple [.str _, .int 4, .int 5, .int 6, .int 1, .tuple [.tuple [.int 1, .bytes _, .tuple [], .int 0, .int 3], .tuple [.int 3, .bytes _, .tuple [], .int 2, .int 2]], .tuple [.tuple [.int 2, .int 4], .tuple [.int 4, .int 6]]])
      kqd_in
    have hbad0 : DatIn lst (.ref Bd) badT.dat := by
      rw [hlst]
      show DatIn _ _ (.tuple [.str _, .int 4, .int 5, .int 6, .int 1, .tuple [.tuple [.int 1, .bytes _, .tuple [], .int 0, .int 3], .tuple [.int 3, .bytes _, .tuple [], .int 2, .int 2]], .tuple [.tuple [.int 3, .int 4], .tuple [.int 4, .int 6]]])
      kqd_in
    have hcD0 : (cD, listOf vs0.toArray nn0) ∈ lst := by
      rw [hlst]
      repeat (first | exact List.Mem.head _ | refine List.Mem.tail _ ?_)
    obtain ⟨full, N50, h106, hcut⟩ := cut106 (a := 106) Nz (by rw [hlst]; repeat (first | exact List.Mem.head _ | refine List.Mem.tail _ ?_))
    have hgood1 := dat_cut hcut hgood0
    have hbad1 := dat_cut hcut hbad0
    have hcD1 := hcut _ _ hcD0 (by simp)
    clear hgood0 hbad0 hcD0 hcut Nz hlst Ny
    k_dflt (refine telling_of hcD1 hI0.out h3 h9 h106 _ _ _ _ _ _ _ _ _ _ _ _ _ _ _ _ _ (by k_asm) (by k_asm) (by k_asm) (by k_asm) (by k_asm) (by k_asm) (by exact rfl) (by ktr_room) (by ktr_units) ?_)
    rintro rT tlT psT hT1 tkT FT NT apT ⟨tT, dT, lT1, lT2, lT3, lT4⟩
    dsimp only
    obtain ⟨full2, hfull2, NT⟩ := opq7 NT
    have hsubT : ∀ p ∈ full, p ∈ full2 := fun p hp => by rw [hfull2]; exact .tail _ (List.mem_append_right _ hp)
    have h106T : ((106 : Addr), tabObj psT) ∈ full2 := by rw [hfull2]; exact .head _
    replace dT := dT.mono (fun p hp => show p ∈ full2 by rw [hfull2]; exact .tail _ hp)
    have hgood2 := hgood1.mono hsubT
    have hbad2 := hbad1.mono hsubT
    clear hgood1 hbad1 hcD1 h106 N50 apT
    rename CodeHd _ _ _ => cdh
    clear cdh
    k_steps
    constructor
    rename News _ _ _ (_ :: _) => Nw
    obtain ⟨full3, hfull3, Nw⟩ := opq7 Nw
    have hsub3 : ∀ p ∈ full2, p ∈ full3 := fun p hp => by rw [hfull3]; exact .tail _ hp
    have h106T3 := hsub3 _ h106T
    have hgood3 := hgood2.mono hsub3
    have hbad3 := hbad2.mono hsub3
    have dT3 := dT.mono hsub3
    refine told_loop (full := full3) (items := #[.ref G, .ref Bd, rT]) (k := 0) (fun v => ∃ t : Tell, DatIn full3 v t.dat ∧ t.ls.length ≤ 4 ∧ t.gs.length ≤ 4 ∧ t.nu ≤ 12 ∧ t.top ≤ 11) (by rfl) (by rw [hfull3]; exact .head _) ?items (by k_asm) Nw ?step ?fin
    case items =>
      intro i v hv
      match i, hv with
      | 0, hv => cases hv; exact ⟨goodT, hgood3, by decide, by decide, by decide, by decide⟩
      | 1, hv => cases hv; exact ⟨badT, hbad3, by decide, by decide, by decide, by decide⟩
      | 2, hv => cases hv; exact ⟨tT, dT3, by omega, by omega, by omega, by omega⟩
      | n + 3, hv => simp at hv
    case fin =>
      intro h' tk vt vb vo F60 N60
      k_steps
    case step =>
      rintro v vt vb vo h₁ tk₁ rest ⟨t, ht, hl1', hl2', hnu, htop⟩ hsub F70 N70
      have hl1 : t.ls.length ≤ 8 := by omega
      have hl2 : t.gs.length ≤ 8 := by omega
      obtain ⟨va, rfl⟩ : ∃ a, v = .ref a := by cases ht; exact ⟨_, rfl⟩
      replace ht := ht.mono hsub
      have hgood4 := hgood3.mono hsub
      have hbad4 := hbad3.mono hsub
      clear hgood3 hbad3 hgood2 hbad2 dT dT3 hfull3 hfull2
      k_steps
      constructor
      k_dflt (refine Tells2.use (remade_of ht hl1 hl2) (by k_asm) (by k_asm) (by k_asm) (by k_asm) (by k_asm) (by exact rfl) (by ktr_room) (by ktr_units) ?_)
      intro y1 tl1 hh1 tk1 F1 N1 ap1 o1
      dsimp only
      obtain ⟨x1, rfl, hb1⟩ := fresh_box o1 hl1 hl2
      obtain ⟨r1, hr1, N1⟩ := opq7 N1
      have hs1 : ∀ p ∈ rest, p ∈ r1 := fun p hp => by rw [hr1]; exact List.mem_append_right _ hp
      replace ht := ht.mono hs1
      replace hgood4 := hgood4.mono hs1
      replace hbad4 := hbad4.mono hs1
      rw [← hr1] at hb1
      obtain ⟨d1, lb1, gb1, f0, f1, f2, f3, f4, f5, f6, j0, j1, j2, j3, j4, j5, j6, u0, u1, u2, u3, u4, nb1, nu1, top1, fl1, hx1, hxd1⟩ := box_inst hb1
      k_steps
      constructor
      k_dflt (refine Tells2.use (is_sound_of hb1) (by k_asm) (by k_asm) (by k_asm) (by k_asm) (by k_asm) (by exact rfl) (by ktr_room) (by ktr_units) ?_)
      intro y2 tl2 hh2 tk2 F2 N2 ap2 o2
      dsimp only
      obtain ⟨b2, rfl, hb2⟩ := o2
      obtain ⟨r2, hr2, N2⟩ := opq7 N2
      have hs2 : ∀ p ∈ r1, p ∈ r2 := fun p hp => by rw [hr2]; exact List.mem_append_right _ hp
      replace ht := ht.mono hs2
      replace hgood4 := hgood4.mono hs2
      replace hbad4 := hbad4.mono hs2
      replace hb1 := hb1.mono hs2
      replace hx1 := hs2 _ hx1
      replace hxd1 := hs2 _ hxd1
      k_steps
      constructor
      k_dflt (refine Tells2.use (law_sound_of ht hl1 hl2 hnu htop) (by k_asm) (by k_asm) (by k_asm) (by k_asm) (by k_asm) (by exact rfl) (by ktr_room) (by ktr_units) ?_)
      intro y3 tl3 hh3 tk3 F3 N3 ap3 o3
      dsimp only
      obtain ⟨b3, rfl, hb3⟩ := o3
      obtain ⟨r3, hr3, N3⟩ := opq7 N3
      have hs3 : ∀ p ∈ r2, p ∈ r3 := fun p hp => by rw [hr3]; exact List.mem_append_right _ hp
      replace ht := ht.mono hs3
      replace hgood4 := hgood4.mono hs3
      replace hbad4 := hbad4.mono hs3
      replace hb1 := hb1.mono hs3
      replace hx1 := hs3 _ hx1
      replace hxd1 := hs3 _ hxd1
      have hbe : b3 = b2 := by rw [Bool.eq_iff_iff, hb3, hb2]
      subst hbe
      have hcmp : ∀ b : Bool, b = b := fun _ => rfl
      k_steps
      constructor
      refine ne_bool_same _ ?_
      k_steps
      constructor
      k_dflt (refine Tells2.use (box_told hb1) (by k_asm) (by k_asm) (by k_asm) (by k_asm) (by k_asm) (by exact rfl) (by ktr_room) (by ktr_units) ?_)
      intro y4 tl4 hh4 tk4 F4 N4 ap4 o4
      dsimp only
      obtain ⟨r4, hr4, N4⟩ := opq7 N4
      have hs4 : ∀ p ∈ r3, p ∈ r4 := fun p hp => by rw [hr4]; exact List.mem_append_right _ hp
      replace ht := ht.mono hs4
      replace hgood4 := hgood4.mono hs4
      replace hbad4 := hbad4.mono hs4
      replace hb1 := hb1.mono hs4
      replace hx1 := hs4 _ hx1
      replace hxd1 := hs4 _ hxd1
      have hd4 := o4 r4 (fun q hq => by rw [hr4]; exact hq)
      obtain ⟨ya4, rfl⟩ : ∃ a, y4 = .ref a := by cases hd4; exact ⟨_, rfl⟩
      k_steps
      constructor
      k_dflt (refine ne_dats (n := 3) (by k_asm) (cmp_tell t t) hd4 ht (by ktr_units) (fun _ => ?_) (fun hne => absurd rfl hne))
      k_steps
      constructor
      k_dflt (refine Tells2.use (remade_of hgood4 (by decide) (by decide)) (by k_asm) (by k_asm) (by k_asm) (by k_asm) (by k_asm) (by exact rfl) (by ktr_room) (by ktr_units) ?_)
      intro y5 tl5 hh5 tk5 F5 N5 ap5 o5
      dsimp only
      obtain ⟨x5, rfl, hb5⟩ := fresh_box o5 (by decide) (by decide)
      obtain ⟨r5, hr5, N5⟩ := opq7 N5
      have hs5 : ∀ p ∈ r4, p ∈ r5 := fun p hp => by rw [hr5]; exact List.mem_append_right _ hp
      replace ht := ht.mono hs5
      replace hgood4 := hgood4.mono hs5
      replace hbad4 := hbad4.mono hs5
      replace hb1 := hb1.mono hs5
      replace hx1 := hs5 _ hx1
      replace hxd1 := hs5 _ hxd1
      rw [← hr5] at hb5
      k_steps
      constructor
      k_dflt (refine Tells2.use (is_sound_of hb5) (by k_asm) (by k_asm) (by k_asm) (by k_asm) (by k_asm) (by exact rfl) (by ktr_room) (by ktr_units) ?_)
      intro y6 tl6 hh6 tk6 F6 N6 ap6 o6
      dsimp only
      obtain ⟨b6, rfl, hb6⟩ := o6
      obtain rfl : b6 = true := hb6.mpr good_sound
      obtain ⟨r6, hr6, N6⟩ := opq7 N6
      have hs6 : ∀ p ∈ r5, p ∈ r6 := fun p hp => by rw [hr6]; exact List.mem_append_right _ hp
      replace ht := ht.mono hs6
      replace hgood4 := hgood4.mono hs6
      replace hbad4 := hbad4.mono hs6
      replace hb1 := hb1.mono hs6
      replace hx1 := hs6 _ hx1
      replace hxd1 := hs6 _ hxd1
      k_steps
      constructor
      k_dflt (refine Tells2.use (remade_of hbad4 (by decide) (by decide)) (by k_asm) (by k_asm) (by k_asm) (by k_asm) (by k_asm) (by exact rfl) (by ktr_room) (by ktr_units) ?_)
      intro y7 tl7 hh7 tk7 F7 N7 ap7 o7
      dsimp only
      obtain ⟨x7, rfl, hb7⟩ := fresh_box o7 (by decide) (by decide)
      obtain ⟨r7, hr7, N7⟩ := opq7 N7
      have hs7 : ∀ p ∈ r6, p ∈ r7 := fun p hp => by rw [hr7]; exact List.mem_append_right _ hp
      replace ht := ht.mono hs7
      replace hgood4 := hgood4.mono hs7
      replace hbad4 := hbad4.mono hs7
      replace hb1 := hb1.mono hs7
      replace hx1 := hs7 _ hx1
      replace hxd1 := hs7 _ hxd1
      rw [← hr7] at hb7
      k_steps
      constructor
      k_dflt (refine Tells2.use (is_sound_of hb7) (by k_asm) (by k_asm) (by k_asm) (by k_asm) (by k_asm) (by exact rfl) (by ktr_room) (by ktr_units) ?_)
      intro y8 tl8 hh8 tk8 F8 N8 ap8 o8
      dsimp only
      obtain ⟨b8, rfl, hb8⟩ := o8
      obtain rfl : b8 = false := Bool.eq_false_iff.mpr fun h => bad_unsound (hb8.mp h)
      obtain ⟨r8, hr8, N8⟩ := opq7 N8
      have hs8 : ∀ p ∈ r7, p ∈ r8 := fun p hp => by rw [hr8]; exact List.mem_append_right _ hp
      replace ht := ht.mono hs8
      replace hgood4 := hgood4.mono hs8
      replace hbad4 := hbad4.mono hs8
      replace hb1 := hb1.mono hs8
      replace hx1 := hs8 _ hx1
      replace hxd1 := hs8 _ hxd1
      k_steps
      constructor
      k_dflt (refine Tells2.use (box_told hb1) (by k_asm) (by k_asm) (by k_asm) (by k_asm) (by k_asm) (by exact rfl) (by ktr_room) (by ktr_units) ?_)
      intro y9 tl9 hh9 tk9 F9 N9 ap9 o9
      dsimp only
      obtain ⟨r9, hr9, N9⟩ := opq7 N9
      have hs9 : ∀ p ∈ r8, p ∈ r9 := fun p hp => by rw [hr9]; exact List.mem_append_right _ hp
      replace ht := ht.mono hs9
      replace hgood4 := hgood4.mono hs9
      replace hbad4 := hbad4.mono hs9
      replace hb1 := hb1.mono hs9
      replace hx1 := hs9 _ hx1
      replace hxd1 := hs9 _ hxd1
      have hd9 := o9 r9 (fun q hq => by rw [hr9]; exact hq)
      obtain ⟨ya9, rfl⟩ : ∃ a, y9 = .ref a := by cases hd9; exact ⟨_, rfl⟩
      k_steps
      constructor
      k_dflt (refine Tells2.use (remade_of hd9 hl1 hl2) (by k_asm) (by k_asm) (by k_asm) (by k_asm) (by k_asm) (by exact rfl) (by ktr_room) (by ktr_units) ?_)
      intro y10 tl10 hh10 tk10 F10 N10 ap10 o10
      dsimp only
      obtain ⟨x10, d10, la10, ga10, e0, e1, e2, e3, e4, e5, e6, k0, k1, k2, k3, k4, k5, k6, t0, t1, t2, t3, t4, nd, vs10, ws10, rest10, rfl, htl10, hra, hrb, hab, hx10, hdd10, hL10, hG10⟩ := o10
      subst htl10
      obtain ⟨r10, hr10, N10, hs10, ha10, hg10, hrs10⟩ := other_pack N10 ap10 hra hrb
      replace ht := ht.mono hs10
      replace hgood4 := hgood4.mono hs10
      replace hbad4 := hbad4.mono hs10
      replace hb1 := hb1.mono hs10
      replace hx1 := hs10 _ hx1
      replace hxd1 := hs10 _ hxd1
      have hvl : vs10.length ≤ 8 := by rw [hL10.length]; exact hl1
      have hwl : ws10.length ≤ 8 := by rw [hG10.length]; exact hl2
      replace hx10 := hrs10 _ hx10
      replace hdd10 := hrs10 _ hdd10
      rw [← hr10] at hL10 hG10
      k_steps
      rename News _ _ _ (_ :: _) => Nf
      obtain ⟨rL, gG, r11, N11, hs11, hla11, hLL, hga11, hGG⟩ := other_grown Nf
      have hbO : BoxIn r11 (.ref x10) ⟨t.nu, t.top, t.fl, t.ls ++ [rL], t.gs ++ [gG]⟩ := .mk (hs11 _ hx10) (hs11 _ hdd10) hla11 hga11 ((hL10.imp fun _ _ => LetterIn.mono hs11).snoc hLL) ((hG10.imp fun _ _ h => h.mono hs11).snoc hGG) (by rw [List.length_append, hL10.length, List.length_singleton]; omega) (by rw [List.length_append, hG10.length, List.length_singleton]; omega)
      replace ht := ht.mono hs11
      replace hgood4 := hgood4.mono hs11
      replace hbad4 := hbad4.mono hs11
      replace hb1 := hb1.mono hs11
      replace hx1 := hs11 _ hx1
      replace hxd1 := hs11 _ hxd1
      replace hx10 := hs11 _ hx10
      replace hdd10 := hs11 _ hdd10
      clear hLL hGG hla11 hga11
      constructor
      k_dflt (refine Tells2.use (box_told hb1) (by k_asm) (by k_asm) (by k_asm) (by k_asm) (by k_asm) (by exact rfl) (by ktr_room) (by ktr_units) ?_)
      intro y12 tl12 hh12 tk12 F12 N12 ap12 o12
      dsimp only
      obtain ⟨r12, hr12, N12⟩ := opq7 N12
      have hs12 : ∀ p ∈ r11, p ∈ r12 := fun p hp => by rw [hr12]; exact List.mem_append_right _ hp
      replace ht := ht.mono hs12
      replace hgood4 := hgood4.mono hs12
      replace hbad4 := hbad4.mono hs12
      replace hb1 := hb1.mono hs12
      replace hx1 := hs12 _ hx1
      replace hxd1 := hs12 _ hxd1
      replace hbO := hbO.mono hs12
      replace hx10 := hs12 _ hx10
      replace hdd10 := hs12 _ hdd10
      have hd12 := o12 r12 (fun q hq => by rw [hr12]; exact hq)
      obtain ⟨ya12, rfl⟩ : ∃ a, y12 = .ref a := by cases hd12; exact ⟨_, rfl⟩
      k_steps
      constructor
      k_dflt (refine ne_dats (n := 3) (by k_asm) (cmp_tell t t) hd12 ht (by ktr_units) (fun _ => ?_) (fun hne => absurd rfl hne))
      k_steps
      constructor
      k_dflt (refine Tells2.use (box_told hbO) (by k_asm) (by k_asm) (by k_asm) (by k_asm) (by k_asm) (by exact rfl) (by ktr_room) (by ktr_units) ?_)
      intro y13 tl13 hh13 tk13 F13 N13 ap13 o13
      dsimp only
      obtain ⟨r13, hr13, N13⟩ := opq7 N13
      have hs13 : ∀ p ∈ r12, p ∈ r13 := fun p hp => by rw [hr13]; exact List.mem_append_right _ hp
      replace ht := ht.mono hs13
      have hd13 := o13 r13 (fun q hq => by rw [hr13]; exact hq)
      obtain ⟨ya13, rfl⟩ : ∃ a, y13 = .ref a := by cases hd13; exact ⟨_, rfl⟩
      k_steps
      constructor
      k_dflt (refine eq_dats (n := 3) (by k_asm) (cmp_tell _ t) hd13 ht (by ktr_units) (fun heq => (tells_neq (show Tell.dat _ = Tell.dat t from congrArg Dat.tuple heq)).elim) (fun _ => ?_))
      k_steps
      rename News _ _ _ _ => Ng
      exact LStep.next ⟨_, _, _, fr_nextT (by assumption), fun p hp => Ng p (hs13 _ (hs12 _ (hs11 _ (hs10 _ (hs9 _ (hs8 _ (hs7 _ (hs6 _ (hs5 _ (hs4 _ (hs3 _ (hs2 _ (hs1 _ hp)))))))))))))⟩
    )
end Mine

end
theorem PySem.Challenge.cw_or0028_01_holds : PySem.Challenge.rw_or0028_01.Holds :=
  Mine.law_holds
