import PyProof.Rows.All
import Wide.All
import OpenK.AllK
import Wide.FinOn
import PySem.Challenge.RW_xm0649_01
open PySem PySem.W PyProof.Rows PySem.Calls PySem.Spec
set_option Elab.async false
namespace Mine
local macro_rules | `(tactic| walk_at $s:str) => `(tactic| k_extra $s)
local macro_rules | `(tactic| k_updF) => `(tactic| k_extra "k_updF")
local macro_rules | `(tactic| k_ne) => `(tactic| k_extra "k_ne")
local macro_rules | `(tactic| k_all) => `(tactic| k_extra "k_all")
local macro_rules | `(tactic| mul_fits) => `(tactic| k_extra "mul_fits")
local macro_rules | `(tactic| walk1) => `(tactic| (k_unmd; k_unfold; (try dsimp only)))
-- HD
section
set_option maxRecDepth 100000 in
set_option maxHeartbeats 8000000 in
open_top hd for PySem.Challenge.rw_xm0649_01
end
-- T0
section
section
variable {prog : Program} {w : World} {A A₀ : Around} {s : Shared} {K : Frag} {L : Addr} {h₀ base : Heap} {m mg mb : Str → Option Value} {news : List (Addr × Obj)} {p : Program} {loose : List Str} {mean : ExcName → Option Value}
/-- entering a def with cells; what stood ahead of the call and is not of the ledger stays in the ground -/
theorem enterC {env : Env} {outer : List Env} {R : Result → Shared → Prop} {name qual : Str} {params : Arguments} {body : List Stmt} {scope : Scope} {dV kV doc pm cdv ct oc : Value} {an od : Option Addr} {osl : Array (Option Value)} {f : Addr} {args : Args} {binds : List (Str × Value)}
    (B : Below A₀ base outer h₀) (F : Fr h₀ L s.heap m) (X₀ : K.In h₀) (N : News h₀ L s.heap news) (T : Top p loose mean mg mb h₀) (hA : A.frames = some (env :: outer)) (hf : env.frame = some L) (hke : env.scope.kind = .function)
    (ho : K.lookup f = some ⟨oc, od, .func (fnOf name qual params body scope dV kV doc pm an cdv ct), osl⟩) (hcd : codeIn K cdv qual = true) (hroom : A.depth < recursionLimit)
    (hbind : BindsTo s (fnOf name qual params body scope dV kV doc pm an cdv ct) args binds) (hkind : (binds.all fun y => scope.names.lookup y.1 == some .local || scope.names.lookup y.1 == some .cell) = true)
    (hnd : ((cellsFrom 0 scope.names []).map (·.1)).Nodup)
    (h : ∀ g L' h₁ tk cells, Fr h₀ L g m → Fr g L' h₁ (bindL (envOfC qual scope L' f cdv).kindOf binds fun _ => none) → News g L' h₁ (cells ++ news) →
      CellsAre (bindC (envOfC qual scope L' f cdv).kindOf binds fun _ => none) (cellsFrom (L' + 1) scope.names []) cells → Below A base (env :: outer) g → K.In g → Top p loose mean mg mb g → (∀ p ∈ news, p.1 < L') → GSub s.heap g (news.map (·.1)) →
      wpAny (model prog w) (A.deeper (envOfC qual scope L' f cdv)) (execs body (envOfC qual scope L' f cdv))
        (fun fl s' => LeaveK h₀ L m g R (match fl with | .ret v => v | _ => .none) s')
        (fun e s' => wpAny (model prog w) (A.deeper (envOfC qual scope L' f cdv)) (leaving (envOfC qual scope L' f cdv) e) (fun _ s'' => R (.error e) s'') (fun e' s'' => R (.error e') s'') s')
        { s with heap := h₁, toks := tk })
    (hco : scope.isCoroutine = false) (hgen : scope.isGenerator = false) (hk : scope.kind = .function) : codeAny (model prog w) A (.call (.ref f) args) R s := by
  obtain ⟨FG, BG, st, lv⟩ := groundX (R := R) B F N hA hf hke
  refine codeAny_call_function hroom ((X₀.keeps F.keep) _ _ ho) rfl hco hgen rfl (codeRec_of (X₀.keeps F.keep) hcd) (hbind _ _ _ _ ?_)
  refine wpAny_newFunctionEnv_cells hk (kindsX hkind _) fun env' he s' x => ?_
  subst he
  refine ⟨(T.nolimit.keeps F.keep).keeps x.toInCall.keep, codeAny_func ?_⟩
  obtain ⟨h₁, tk, rfl, _⟩ := x.done
  have hk₁ := x.toInCall.keep
  obtain ⟨cells, NC, Y⟩ := Cl.news (h₀ := s.heap) (Nat.le_refl _) fun n c hm => ⟨x.cell n c (lookup_of_mem_nodup (cellsFrom_names scope.names 0 (s.heap.objs.size + 1) [] [] rfl ▸ hnd) hm), x.above n c hm⟩
  have N₁ : News (hideAll s.heap (news.map (·.1))) s.heap.objs.size h₁ (cells ++ news) := by
    intro q hq
    rcases List.mem_append.mp hq with hq | hq
    · refine ⟨(NC q hq).1, (NC q hq).2.1, ?_⟩
      cases e : (hideAll s.heap (news.map (·.1))).get? q.1 with
      | none => rfl
      | some o => exact absurd (of_hideAll _ e) (by rw [(NC q hq).2.2]; exact nofun)
    · exact ⟨hk₁ _ _ (N q hq).1, Nat.ne_of_lt (Heap.lt_size (N q hq).1), hideAll_none _ (List.mem_map_of_mem hq)⟩
  exact wpAny_mono (h _ s.heap.objs.size h₁ tk cells FG ⟨x.toInCall.ns, fun b o e => hk₁ b o (of_hideAll _ e), Nat.le_of_eq (hideAll_size _ _)⟩ N₁ Y BG (X₀.keeps st) (T.keeps st) (fun q hq => Heap.lt_size (N q hq).1) (fun b o e n => hideAll_get _ e n)) (fun fl s' hl => lv _ _ hl) fun _ _ y => y
end
theorem keep_of {H g H' : Heap} {L' : Addr} {m' : Str → Option Value} {adr : List Addr} (G : GSub H g adr) (F : Fr g L' H' m') : ∀ b o, H.get? b = some o → b ∉ adr → H'.get? b = some o := fun b o e n => F.keep b o (G b o e n)

theorem paired_len {α β : Type} {R : α → β → Prop} : ∀ {l : List α} {ys : List β}, Paired R l ys → ys.length = l.length
  | _, _, .nil => rfl
  | _, _, .cons _ r => by rw [List.length_cons, List.length_cons, paired_len r]

/-- a turn's end: nothing of the ledger has changed -/
def TEnd (h₀ : Heap) (L : Addr) (m : Str → Option Value) (s : Shared) (all : List (Addr × Obj)) (s' : Shared) : Prop := ∃ h' tk, s' = { s with heap := h', toks := tk } ∧ Fr h₀ L h' m ∧ News h₀ L h' all
def TTest (h₀ : Heap) (L : Addr) (m : Str → Option Value) (s : Shared) (all : List (Addr × Obj)) (b ok : Bool) (s' : Shared) : Prop := ok = b ∧ TEnd h₀ L m s all s'
def TElt (h₀ : Heap) (L : Addr) (m : Str → Option Value) (s : Shared) (all : List (Addr × Obj)) (R : Value → Prop) (y : Value) (s' : Shared) : Prop := R y ∧ TEnd h₀ L m s all s'
theorem TTest.intro {h₀ h' : Heap} {L : Addr} {m : Str → Option Value} {s : Shared} {all all' : List (Addr × Obj)} {b ok : Bool} {tk : Nat} (e : ok = b) (F : Fr h₀ L h' m) (N : News h₀ L h' all') (hs : ∀ p ∈ all, p ∈ all') : TTest h₀ L m s all b ok { s with heap := h', toks := tk } := ⟨e, h', tk, rfl, F, fun p hp => N p (hs p hp)⟩
theorem TElt.intro {h₀ h' : Heap} {L : Addr} {m : Str → Option Value} {s : Shared} {all all' : List (Addr × Obj)} {R : Value → Prop} {y : Value} {tk : Nat} (e : R y) (F : Fr h₀ L h' m) (N : News h₀ L h' all') (hs : ∀ p ∈ all, p ∈ all') : TElt h₀ L m s all R y { s with heap := h', toks := tk } := ⟨e, h', tk, rfl, F, fun p hp => N p (hs p hp)⟩

section
open PyProof.Rows.LCg
variable {prog : Program} {w : World} {A : Around} {s : Shared} {h₀ : Heap} {L : Addr} {m : Str → Option Value} {env : Env} {news : List (Addr × Obj)}
/-- a comprehension with one test whose turns change nothing that was there: what is kept is told by the turn's number -/
theorem filt {ct elt : Expr} {x : Str} {scope : Scope} {cl : List (Str × Addr)} {S : List (Addr × Obj) → Prop} {P : Nat → Value → Prop} {Fin : List Value → List (Addr × Obj) → Prop} {n : Nat} (q : Nat → Bool) (R : Nat → Value → Prop)
    (turn : ∀ i v I oI C oC D m₂ ys h tk (E' : Value → Shared → Prop), i < n → P i v → NsObj oC m₂ → m₂ x = some v → Fr h₀ L h m → News h₀ L h ((I, oI) :: (C, oC) :: (D, lst ys) :: news) → Off3 I C D news → ((@Ne Nat I C) ∧ (@Ne Nat I D) ∧ (@Ne Nat C D)) →
      wpAny (model prog w) A (isTrue ct (compEnvC scope cl C env) (eval ct (compEnvC scope cl C env))) (fun ok s' => TTest h₀ L m { s with heap := h, toks := tk } ((I, oI) :: (C, oC) :: (D, lst ys) :: news) (q i) ok s') E' { s with heap := h, toks := tk })
    (eltT : ∀ i v I oI C oC D m₂ ys h tk (E' : Value → Shared → Prop), i < n → q i = true → P i v → NsObj oC m₂ → m₂ x = some v → Fr h₀ L h m → News h₀ L h ((I, oI) :: (C, oC) :: (D, lst ys) :: news) → Off3 I C D news → ((@Ne Nat I C) ∧ (@Ne Nat I D) ∧ (@Ne Nat C D)) →
      wpAny (model prog w) A (eval elt (compEnvC scope cl C env)) (fun y s' => TElt h₀ L m { s with heap := h, toks := tk } ((I, oI) :: (C, oC) :: (D, lst ys) :: news) (R i) y s') E' { s with heap := h, toks := tk })
    (hS : S news) (fin : ∀ ys, Paired R ((List.range n).filter q) ys → Fin ys news) : LCt.CompRestT prog w A h₀ L m env ct elt x scope cl s S P Fin n 0 [] news := by
  have key : ∀ (j i : Nat) (ys : List Value), i + j = n → Paired R ((List.range i).filter q) ys → LCt.CompRestT prog w A h₀ L m env ct elt x scope cl s S P Fin j i ys news := by
    intro j
    induction j with
    | zero =>
      intro i ys hi hy
      obtain rfl : i = n := by omega
      exact LCt.CompRestT.zero (fin ys hy)
    | succ j ih =>
      intro i ys hi hy
      refine LCt.CompRestT.succ ?_
      intro v I oI C oC D m₂ h tk E' hv hC hx F N off ne
      refine wpAny_mono (turn i v I oI C oC D m₂ ys h tk E' (by omega) hv hC hx F N off ne) (fun ok s₂ hq => ?_) fun _ _ e => e
      obtain ⟨rfl, h', tk', rfl, F', N'⟩ := hq
      cases hqi : q i with
      | true =>
        simp only [if_true]
        refine wpAny_mono (eltT i v I oI C oC D m₂ ys h' tk' E' (by omega) hqi hv hC hx F' N' off ne) (fun y s₃ hr => ?_) fun _ _ e => e
        obtain ⟨hR, h'', tk'', rfl, F'', N''⟩ := hr
        refine ⟨h'', tk'', news, rfl, F'', N'', off, hS, ih (i + 1) _ (by omega) ?_⟩
        rw [List.range_succ, List.filter_append]
        have : List.filter q [i] = [i] := by simp [hqi]
        rw [this]
        exact hy.snoc hR
      | false =>
        simp only [Bool.false_eq_true, if_false]
        refine ⟨h', tk', news, rfl, F', N', off, hS, ih (i + 1) _ (by omega) ?_⟩
        rw [List.range_succ, List.filter_append]
        have : List.filter q [i] = [] := by simp [hqi]
        rw [this, List.append_nil]
        exact hy
  exact key n 0 [] (by omega) .nil
end

theorem fm_lo (v : Int) {k : Int} (h : 0 < k) : 0 ≤ v.fmod k := Int.fmod_nonneg_of_pos v h
theorem fm_hi (v : Int) {k : Int} (h : 0 < k) : v.fmod k < k := Int.fmod_lt_of_pos v h

abbrev src (x y : Int) (tx ty : Tok) (n : Nat) : Obj := W.listOf [Value.int x tx, Value.int y ty].toArray n

theorem wpAny_room {α : Type} {M : Model} {dp un dp' un' : Nat} {gd : Option (List Code)} {cn : Str} {cs : Scope} {L a : Addr} {ccd : Value} {cl : List (Str × Addr)} {outer : List Env} {t : Sem α} {Q : α → Shared → Prop} {E : Value → Shared → Prop} {s : Shared}
    (h : wpAny M (ktrTop dp' un' gd cn cs L a ccd cl outer) t Q E s) (hd : dp ≤ dp') (hu : un ≤ un') : wpAny M (ktrTop dp un gd cn cs L a ccd cl outer) t Q E s :=
  fun Γ p hΓ => h Γ p ⟨hΓ.1, Nat.le_trans hΓ.2.1 hd, hΓ.2.2.1, hΓ.2.2.2.1, Nat.le_trans hΓ.2.2.2.2 hu⟩

theorem news_sub {h₀ h : Heap} {L : Addr} {l l' : List (Addr × Obj)} (N : News h₀ L h l) (hs : ∀ p ∈ l', p ∈ l) : News h₀ L h l' := fun p hp => N p (hs p hp)
theorem mem_hole {pre post : List (Addr × Obj)} {q : Addr × Obj} : ∀ p ∈ q :: (pre ++ post), p ∈ pre ++ q :: post := by
  intro p hp; simp only [List.mem_cons, List.mem_append] at hp ⊢; rcases hp with h | h | h <;> simp [h]
theorem mem_hole' {pre post : List (Addr × Obj)} {q : Addr × Obj} : ∀ p ∈ pre ++ q :: post, p ∈ q :: (pre ++ post) := by
  intro p hp; simp only [List.mem_cons, List.mem_append] at hp ⊢; rcases hp with h | h | h <;> simp [h]

theorem allLt_hd {d a : Nat} {o : Obj} {r : List (Addr × Obj)} (h : AllLt d ((a, o) :: r)) : @LT.lt Nat _ a d := h.1
theorem allLt_tl {d a : Nat} {o : Obj} {r : List (Addr × Obj)} (h : AllLt d ((a, o) :: r)) : AllLt d r := h.2
theorem allLt_ne {d a : Nat} {o : Obj} : ∀ {l : List (Addr × Obj)}, AllLt d l → (a, o) ∈ l → @Ne Nat a d
  | _ :: _, h, .head _ => Nat.ne_of_lt h.1
  | _ :: _, h, .tail _ hm => allLt_ne h.2 hm
def AllNe (d : Nat) : List (Addr × Obj) → Prop
  | [] => True
  | p :: r => @Ne Nat p.1 d ∧ AllNe d r
theorem allNe_of {d : Addr} : ∀ {l : List (Addr × Obj)}, (∀ p ∈ l, p.1 ≠ d) → AllNe d l
  | [], _ => trivial
  | p :: _, h => ⟨h p (.head _), allNe_of fun q hq => h q (.tail _ hq)⟩
theorem allNe_ne {d a : Nat} {o : Obj} : ∀ {l : List (Addr × Obj)}, AllNe d l → (a, o) ∈ l → @Ne Nat a d
  | _ :: _, h, .head _ => h.1
  | _ :: _, h, .tail _ hm => allNe_ne h.2 hm
theorem off1_ne {d : Addr} {a : Nat} {o : Obj} : ∀ {l : List (Addr × Obj)}, LCg.Off1 d l → (a, o) ∈ l → @Ne Nat a d
  | _ :: _, h, .head _ => h.1
  | _ :: _, h, .tail _ hm => off1_ne h.2 hm
theorem off1_hd {d : Addr} {a : Nat} {o : Obj} {r : List (Addr × Obj)} (h : LCg.Off1 d ((a, o) :: r)) : @Ne Nat a d := h.1
theorem off1_tl {d : Addr} {a : Nat} {o : Obj} {r : List (Addr × Obj)} (h : LCg.Off1 d ((a, o) :: r)) : LCg.Off1 d r := h.2
theorem off3_a {I C D : Addr} {a : Nat} {o : Obj} {r : List (Addr × Obj)} (h : LCg.Off3 I C D ((a, o) :: r)) : @Ne Nat a I := h.1.1
theorem off3_b {I C D : Addr} {a : Nat} {o : Obj} {r : List (Addr × Obj)} (h : LCg.Off3 I C D ((a, o) :: r)) : @Ne Nat a C := h.1.2.1
theorem off3_c {I C D : Addr} {a : Nat} {o : Obj} {r : List (Addr × Obj)} (h : LCg.Off3 I C D ((a, o) :: r)) : @Ne Nat a D := h.1.2.2
theorem off3_tl {I C D : Addr} {a : Nat} {o : Obj} {r : List (Addr × Obj)} (h : LCg.Off3 I C D ((a, o) :: r)) : LCg.Off3 I C D r := h.2
theorem small_len {x : Str} (h : x.length ≤ 1000) : Builtin.Range.small 1 (x.length : Int) 1 = true :=
  small_one (by decide) (by decide) (by omega) (by omega)
theorem small_d {d k : Int} (h : 0 ≤ d) (h2 : d < k) (h3 : k ≤ 1000) : Builtin.Range.small 0 d 1 = true :=
  small_one (by decide) (by decide) (by omega) (by omega)
theorem lt_len {x : Str} {i : Nat} (h : i < ((x.length : Int) - 1).toNat) : i + 1 < x.length := by omega
theorem size_d {d k : Int} (h : 0 ≤ d) (h2 : d < k) (h3 : k ≤ 1000) : (d - 0).toNat ≤ sizeLine := by rw [PySem.sizeLine_eq]; omega
theorem len_d {α : Type} {l : List α} {d : Int} (h : l.length = (d - 0).toNat) (h2 : d < 7) : l.length ≤ 8 := by omega
section
variable {la : Addr} {g : Obj → List (Addr × Obj)}
theorem upd_of {post : List (Addr × Obj)} {o : Obj} (h2 : ∀ p ∈ post, p.1 ≠ la) : ∀ {pre : List (Addr × Obj)}, (∀ p ∈ pre, p.1 ≠ la) → UpdF la o (pre ++ (la, o) :: post) (fun o' => pre ++ (la, o') :: post)
  | [], _ => .head h2
  | p :: r, h => .tail (h p List.mem_cons_self) (upd_of h2 fun q hq => h q (List.mem_cons_of_mem _ hq))
def UpdG (la : Addr) (g : Obj → List (Addr × Obj)) : Prop := ∀ o, UpdF la o (g o) g
theorem UpdG.of {o : Obj} {l : List (Addr × Obj)} (U : UpdF la o l g) : UpdG la g := by
  obtain ⟨pre, post, rfl, hg, hp1, hp2⟩ := U.split
  have hgf : g = fun o => pre ++ (la, o) :: post := funext hg
  intro o'
  rw [hgf]; exact upd_of hp2 hp1
theorem UpdG.at (G : UpdG la g) : ∀ o, UpdF la o (g o) g := G
theorem UpdG.tail {p : Addr × Obj} (h : p.1 ≠ la) (G : UpdG la g) : UpdG la (fun o => p :: g o) := fun o => .tail h (G o)
theorem UpdG.head {l : List (Addr × Obj)} (h : ∀ p ∈ l, p.1 ≠ la) : UpdG la (fun o => (la, o) :: l) := fun _ => .head h
theorem off1_all {d : Addr} : ∀ {l : List (Addr × Obj)}, LCg.Off1 d l → ∀ p ∈ l, p.1 ≠ d
  | [], _, _, h => nomatch h
  | q :: r, h, p, hp => by
    rcases List.mem_cons.mp hp with rfl | hp
    · exact h.1
    · exact off1_all h.2 p hp
theorem UpdG.hole (G : UpdG la g) (o : Obj) : (la, o) ∈ g o := by
  obtain ⟨pre, post, e0, hg, hp1, hp2⟩ := (G o).split
  rw [hg]; exact List.mem_append_right _ List.mem_cons_self
/-- the same for a turn of a comprehension, whatever lies in its three objects -/
def UpdG3 (la I C D : Addr) (g : Obj → List (Addr × Obj)) : Prop := ∀ oI oC oD, UpdG la (fun o => (I, oI) :: (C, oC) :: (D, oD) :: g o)
theorem UpdG3.at {I C D : Addr} (G : UpdG3 la I C D g) : ∀ oI oC oD o, UpdF la o ((I, oI) :: (C, oC) :: (D, oD) :: g o) (fun o => (I, oI) :: (C, oC) :: (D, oD) :: g o) := fun oI oC oD o => G oI oC oD o
theorem UpdG3.of {I C D : Addr} {o : Obj} (G : UpdG la g) (off : LCg.Off3 I C D (g o)) : UpdG3 la I C D g := fun oI oC oD => by
  obtain ⟨n1, n2, n3⟩ := off.mem _ (G.hole o)
  exact .tail (Ne.symm n1) (.tail (Ne.symm n2) (.tail (Ne.symm n3) G))
/-- marks the ledger that the function started with -/
def UpdB (la : Addr) (g : Obj → List (Addr × Obj)) : Prop := UpdG la g
theorem UpdB.g3 {I C D : Addr} {o : Obj} (G : UpdB la g) (off : LCg.Off3 I C D (g o)) : UpdG3 la I C D g := UpdG3.of G off
theorem UpdB.of2 {h₀ h : Heap} {L c : Addr} {oc o : Obj} (_N : News h₀ L h [(c, oc), (la, o)]) (hne : c ≠ la) : UpdB la (fun o => [(c, oc), (la, o)]) := UpdG.tail hne (.head fun _ h => nomatch h)
theorem UpdB.off {I C D : Addr} {o o' : Obj} (G : UpdB la g) (off : LCg.Off3 I C D (g o)) : LCg.Off3 I C D (g o') := by
  obtain ⟨pre, post, e0, hg, hp1, hp2⟩ := (G default).split
  refine LCg.Off3.of fun p hp => ?_
  have hm := off.mem
  rw [hg] at hp hm
  rcases List.mem_append.mp hp with hp | hp
  · exact hm p (List.mem_append_left _ hp)
  · rcases List.mem_cons.mp hp with rfl | hp
    · exact hm (la, o) (List.mem_append_right _ List.mem_cons_self)
    · exact hm p (List.mem_append_right _ (List.mem_cons_of_mem _ hp))
theorem endB {h₀ h' : Heap} {L I C D : Addr} {m : Str → Option Value} {s₁ : Shared} {oI oC oD o o₀ : Obj} {rest : Value → List (Addr × Obj) → Prop} {y : Value} {tk : Nat} {all : List (Addr × Obj)}
    (G : UpdB la g) (off : LCg.Off3 I C D (g o₀)) (F : Fr h₀ L h' m) (N : News h₀ L h' all) (_hs : (la, o) ∈ all) (sub : ∀ p ∈ (I, oI) :: (C, oC) :: (D, oD) :: g o, p ∈ all) (r : rest y (g o)) :
    LCg.CompEnd h₀ L m s₁ I oI C oC D oD (fun _ => True) rest y { s₁ with heap := h', toks := tk } := LCg.CompEnd.intro F N (g o) sub (G.off off) trivial r
theorem UpdB.at (G : UpdB la g) : ∀ o, UpdF la o (g o) g := G
end
end
-- T1
section
variable {w : World} {p : Program} {loose : List Str} {mean : ExcName → Option Value} {mg mb : Str → Option Value} {gd : Option (List Code)} {cn : Str} {cs : Scope} {a : Addr} {ccd : Value} {cl : List (Str × Addr)} {outer : List Env} {A₀ : Around} {base h₀ : Heap} {L : Addr} {m : Str → Option Value} {s : Shared} {Q E : Value → Shared → Prop} {news all : List (Addr × Obj)} {g : Obj → List (Addr × Obj)}

section
set_option maxRecDepth 100000 in
set_option maxHeartbeats 8000000 in
theorem take_spec {la : Addr} {x y top : Int} {tx ty tt : Tok} {n : Nat}
    (B : Below A₀ base outer h₀) (F : Fr h₀ L s.heap m) (X : (hd.heap_39 w.params).In h₀) (N : News h₀ L s.heap ((la, src x y tx ty n) :: news)) (T : Top p loose mean mg mb h₀) (hk : cs.kind = .function)
    (off : ∀ q ∈ news, q.1 ≠ la) (hx : 0 ≤ x) (hy : 0 ≤ y) (hy2 : y < 2147483647) (ht : 1 ≤ top) (ht2 : top ≤ 64)
    (ret : ∀ d t x' y' tx' ty' h' tk', 0 ≤ d → d < top → 0 ≤ x' → 0 ≤ y' → y' < 2147483647 → Fr h₀ L h' m → News h₀ L h' ((la, src x' y' tx' ty' n) :: news) → Q (.int d t) { s with heap := h', toks := tk' }) :
    wpAny (model PySem.Challenge.rw_xm0649_01.row.prog w) (ktrTop 400 4000 gd cn cs L a ccd cl outer) (call (.ref 88) [.ref la, .int top tt]) Q E s := by
  w_top off
  k_with_none
  k_with "k_all" => (assumption)
  k_with "mul_fits" => (k_dflt exact PySem.IntMulOk.of_left (PySem.intBits_le_64 (by show -2 ^ 64 < Int.fmod _ 2147483647; exact Int.lt_of_lt_of_le (by decide) (fm_lo _ (by decide))) (by show Int.fmod _ 2147483647 < 2 ^ 64; exact Int.lt_trans (fm_hi _ (by decide)) (by decide))))
  revert X; k_fill; intro X
  have hI : IntsAre [Value.int x tx, Value.int y ty] [x, y] := .cons x tx (.cons y ty .nil)
  refine wpAny_call ?_
  k_dflt cell_enter
  k_steps
  all_goals (refine' ret _ _ _ _ _ _ _ _ ?_ ?_ ?_ ?_ ?_ ?F ?N; (case F => k_asm); (case N => k_asm))
  all_goals first | assumption | exact fm_lo _ (by omega) | exact fm_hi _ (by omega) | exact Int.fdiv_nonneg hx (by omega)
end

theorem take_use {la : Addr} {x y top : Int} {tx ty tt : Tok} {n dp un : Nat}
    (B : Below A₀ base outer h₀) (F : Fr h₀ L s.heap m) (X : (hd.heap_39 w.params).In h₀) (N : News h₀ L s.heap all) (T : Top p loose mean mg mb h₀) (hk : cs.kind = .function)
    (U : UpdF la (src x y tx ty n) all g) (hx : 0 ≤ x) (hy : 0 ≤ y) (hy2 : y < 2147483647) (ht : 1 ≤ top) (ht2 : top ≤ 64) (hd : dp ≤ 400) (hu : un ≤ 4000)
    (ret : ∀ d t x' y' tx' ty' h' tk', 0 ≤ d → d < top → 0 ≤ x' → 0 ≤ y' → y' < 2147483647 → Fr h₀ L h' m → News h₀ L h' (g (src x' y' tx' ty' n)) → Q (.int d t) { s with heap := h', toks := tk' }) :
    wpAny (model PySem.Challenge.rw_xm0649_01.row.prog w) (ktrTop dp un gd cn cs L a ccd cl outer) (call (.ref 88) [.ref la, .int top tt]) Q E s := by
  obtain ⟨pre, post, rfl, hg, h1, h2⟩ := U.split
  refine wpAny_room (take_spec B F X (news_sub N mem_hole) T hk ?_ hx hy hy2 ht ht2 ?_) hd hu
  · intro q hq; rcases List.mem_append.mp hq with h | h
    · exact h1 q h
    · exact h2 q h
  · intro d t x' y' tx' ty' h' tk' a1 a2 a3 a4 a5 F' N'
    exact ret d t x' y' tx' ty' h' tk' a1 a2 a3 a4 a5 F' (by rw [hg]; exact news_sub N' mem_hole')
end
-- T2
section
variable {w : World} {p : Program} {loose : List Str} {mean : ExcName → Option Value} {mg mb : Str → Option Value} {gd : Option (List Code)} {cn : Str} {cs : Scope} {a : Addr} {ccd : Value} {cl : List (Str × Addr)} {outer : List Env} {A₀ : Around} {base h₀ : Heap} {L : Addr} {m : Str → Option Value} {s : Shared} {Q E : Value → Shared → Prop} {news all : List (Addr × Obj)} {g : Obj → List (Addr × Obj)}

theorem my_len {prog : Program} {A : Around} {l : Addr} {vs : List Value} {nt : Nat} {Q : Value → Shared → Prop} (N : News h₀ L s.heap all) (hm : (l, W.listOf vs.toArray nt) ∈ all) (hv : vs.length ≤ 64)
    (h : Q (.int (vs.length : Int) (s.toks + 1)) { s with toks := s.toks + 1 + 1 }) : wpAny (model prog w) A (call (.builtin "len") [.ref l]) Q E s :=
  len_list (PySem.IsL.isList (n := nt) (N _ hm).1) (by simp; omega) (by simpa using h)
theorem my_item {prog : Program} {A : Around} {l : Addr} {vs : List Value} {nt : Nat} {value slice : PySem.Expr} {k : Int} {u : Tok} {Q : Value → Shared → Prop} (N : News h₀ L s.heap all) (hm : (l, W.listOf vs.toArray nt) ∈ all) (hv : vs.length ≤ 64)
    (h0 : 0 ≤ k) (h1 : k < (vs.length : Int)) (h : ∀ v, v ∈ vs → Q v s)
    (hs : subscripted slice false (.ref l) (.int k u) = operate [.ref l, .int k u] (getItem (.ref l) (.int k u))) : wpAny (model prog w) A (subscriptTail value slice (.ref l) (.int k u)) Q E s := by
  have hl : s.heap.IsList l vs.toArray := PySem.IsL.isList (n := nt) (N _ hm).1
  have hk : k.toNat < vs.length := by omega
  have hx : vs[k.toNat]? = some vs[k.toNat] := List.getElem?_eq_getElem hk
  exact tail_any hl.typeIs slot_list_getitem.lookup (wpAny_getItem_list hl h0 (by omega) (by simpa using hx) (h _ (List.getElem_mem hk))) hs

theorem my_item_str {prog : Program} {A : Around} {l : Addr} {vs : List Value} {nt : Nat} {value slice : PySem.Expr} {k : Int} {u : Tok} {P : Str → Prop} {Q : Value → Shared → Prop} (N : News h₀ L s.heap all) (hm : (l, W.listOf vs.toArray nt) ∈ all) (hv : vs.length ≤ 64)
    (h0 : 0 ≤ k) (h1 : k < (vs.length : Int)) (hP : ∀ v ∈ vs, ∃ z t, v = .str z t ∧ P z) (h : ∀ z t, P z → Q (.str z t) s)
    (hs : subscripted slice false (.ref l) (.int k u) = operate [.ref l, .int k u] (getItem (.ref l) (.int k u))) : wpAny (model prog w) A (subscriptTail value slice (.ref l) (.int k u)) Q E s :=
  my_item N hm hv h0 h1 (fun v hv => by obtain ⟨z, t, rfl, hp⟩ := hP v hv; exact h z t hp) hs

section
set_option maxRecDepth 100000 in
set_option maxHeartbeats 8000000 in
theorem one_spec {la lt : Addr} {x y : Int} {tx ty : Tok} {n nt : Nat} {vs : List Value} {P : Str → Prop}
    (B : Below A₀ base outer h₀) (F : Fr h₀ L s.heap m) (X : (hd.heap_39 w.params).In h₀) (N : News h₀ L s.heap ((la, src x y tx ty n) :: (lt, W.listOf vs.toArray nt) :: news)) (T : Top p loose mean mg mb h₀) (hk : cs.kind = .function)
    (off : ∀ q ∈ news, q.1 ≠ la) (hne : lt ≠ la) (hx : 0 ≤ x) (hy : 0 ≤ y) (hy2 : y < 2147483647) (hv1 : 1 ≤ vs.length) (hv2 : vs.length ≤ 64) (hP : ∀ v ∈ vs, ∃ z t, v = .str z t ∧ P z)
    (ret : ∀ z t x' y' tx' ty' h' tk', P z → 0 ≤ x' → 0 ≤ y' → y' < 2147483647 → Fr h₀ L h' m → News h₀ L h' ((la, src x' y' tx' ty' n) :: (lt, W.listOf vs.toArray nt) :: news) → Q (.str z t) { s with heap := h', toks := tk' }) :
    wpAny (model PySem.Challenge.rw_xm0649_01.row.prog w) (ktrTop 390 3900 gd cn cs L a ccd cl outer) (call (.ref 95) [.ref la, .ref lt]) Q E s := by
  w_top off
  k_with_none
  k_with "k_all" => (assumption)
  k_with "call ref" => ((k_here; k_dflt (refine' take_use ?k1 ?k2 ?k3 ?k4 ?k5 ?k6 ?k7 ?k8 ?k9 ?k10 ?k11 ?k12 ?k13 ?k14 ?_; (case k1 => k_asm); (case k2 => k_asm); (case k3 => k_asm); (case k4 => k_asm); (case k5 => k_asm); (case k6 => exact rfl); (case k7 => k_updF); (case k8 => assumption); (case k9 => assumption); (case k10 => assumption); (case k11 => first | decide | omega); (case k12 => first | decide | omega); (case k13 => exact Nat.le_of_ble_eq_true rfl); (case k14 => exact Nat.le_of_ble_eq_true rfl); k_whole; intro d' t' x' y' tx' ty' h' tk' a1' a2' a3' a4' a5' F' N'; (try dsimp only at N'); (try k_sweep))))
  k_with "call builtin:len" => ((k_here; (with_reducible show wpAny _ _ (call (Value.builtin "len") [Value.ref _]) _ _ _); k_dflt (refine' my_len ?k1 ?k2 ?k3 ?_; (case k1 => k_asm); (case k2 => k_mem); (case k3 => assumption); k_whole)))
  k_with "subscriptTail" => ((k_here; (with_reducible show wpAny _ _ (subscriptTail _ _ (Value.ref _) (Value.int _ _)) _ _ _); k_dflt (refine' my_item_str ?k1 ?k2 ?k3 ?k4 ?k5 ?k7 ?_ ?k6; (case k1 => k_asm); (case k2 => k_mem); (case k3 => assumption); (case k4 => assumption); (case k5 => assumption); (case k7 => assumption); (case k6 => with_unfolding_all rfl); k_whole; intro z' t' hp')))
  revert X; k_fill; intro X
  refine wpAny_call ?_
  k_dflt cell_enter
  k_steps
  all_goals (refine' ret _ _ _ _ _ _ _ _ ?_ ?_ ?_ ?_ ?F ?N; (case F => k_asm); (case N => k_asm))
  all_goals assumption
end

theorem one_use {la lt : Addr} {x y : Int} {tx ty : Tok} {n nt dp un : Nat} {vs : List Value} {P : Str → Prop}
    (B : Below A₀ base outer h₀) (F : Fr h₀ L s.heap m) (X : (hd.heap_39 w.params).In h₀) (N : News h₀ L s.heap all) (T : Top p loose mean mg mb h₀) (hk : cs.kind = .function)
    (U : UpdF la (src x y tx ty n) all g) (hm : (lt, W.listOf vs.toArray nt) ∈ all) (hx : 0 ≤ x) (hy : 0 ≤ y) (hy2 : y < 2147483647) (hv1 : 1 ≤ vs.length) (hv2 : vs.length ≤ 64) (hP : ∀ v ∈ vs, ∃ z t, v = .str z t ∧ P z) (hd : dp ≤ 390) (hu : un ≤ 3900)
    (ret : ∀ z t x' y' tx' ty' h' tk', P z → 0 ≤ x' → 0 ≤ y' → y' < 2147483647 → Fr h₀ L h' m → News h₀ L h' (g (src x' y' tx' ty' n)) → Q (.str z t) { s with heap := h', toks := tk' }) :
    wpAny (model PySem.Challenge.rw_xm0649_01.row.prog w) (ktrTop dp un gd cn cs L a ccd cl outer) (call (.ref 95) [.ref la, .ref lt]) Q E s := by
  obtain ⟨pre, post, rfl, hg, h1, h2⟩ := U.split
  have hoff : ∀ q ∈ pre ++ post, q.1 ≠ la := fun q hq => (List.mem_append.mp hq).elim (h1 q) (h2 q)
  have hm' : lt = la ∧ W.listOf vs.toArray nt = src x y tx ty n ∨ (lt, W.listOf vs.toArray nt) ∈ pre ++ post := by
    rcases List.mem_cons.mp (mem_hole' _ hm) with h | h
    · cases h; exact .inl ⟨rfl, rfl⟩
    · exact .inr h
  rcases hm' with ⟨rfl, h⟩ | hm'
  · exfalso
    have e := congrArg (fun o : Obj => match o.data with | .seq a _ => a.toList | _ => []) h
    have e' : vs = [Value.int x tx, Value.int y ty] := e
    obtain ⟨z, t, hz, _⟩ := hP (Value.int x tx) (by rw [e']; exact List.mem_cons_self)
    cases hz
  · have hne : lt ≠ la := hoff _ hm'
    refine wpAny_room (one_spec (news := pre ++ post) (nt := nt) (n := n) (tx := tx) (ty := ty) B F X (news_sub N ?_) T hk hoff hne hx hy hy2 hv1 hv2 hP ?_) hd hu
    · intro q hq
      rcases List.mem_cons.mp hq with rfl | hq
      · exact mem_hole _ List.mem_cons_self
      · rcases List.mem_cons.mp hq with rfl | hq
        · exact hm
        · exact mem_hole _ (List.mem_cons_of_mem _ hq)
    · intro z t x' y' tx' ty' h' tk' hp a3 a4 a5 F' N'
      refine ret z t x' y' tx' ty' h' tk' hp a3 a4 a5 F' ?_
      rw [hg]
      refine news_sub N' fun q hq => ?_
      rcases List.mem_cons.mp (mem_hole' _ hq) with rfl | hq
      · exact List.mem_cons_self
      · exact List.mem_cons_of_mem _ (List.mem_cons_of_mem _ hq)
end
-- T3
section
variable {w : World} {p : Program} {loose : List Str} {mean : ExcName → Option Value} {mg mb : Str → Option Value} {gd : Option (List Code)} {cn : Str} {cs : Scope} {a : Addr} {ccd : Value} {cl : List (Str × Addr)} {outer : List Env} {A₀ : Around} {base h₀ : Heap} {L : Addr} {m : Str → Option Value} {s : Shared} {Q E : Value → Shared → Prop} {news all : List (Addr × Obj)} {g : Obj → List (Addr × Obj)}

theorem ok_item {x : Str} (h : PyData.strOk x = true) (i : Int) : PyData.strOk (Txt.item x i) = true := by
  unfold PyData.strOk Txt.item
  cases e : Txt.charAt x i with
  | none => simp
  | some c =>
    have hm : c ∈ x.cps := by
      unfold Txt.charAt at e
      cases e2 : seqIndex? i x.length with
      | none => rw [e2] at e; cases e
      | some k => rw [e2] at e; exact Array.mem_of_getElem? e
    have h2 : ∀ c ∈ x.cps, decide (c < 0x110000) = true := by
      unfold PyData.strOk at h
      exact fun c hc => (Array.all_eq_true_iff_forall_mem.mp h) c hc
    have := h2 c hm
    simpa using this

theorem eq_pair {prog : Program} {A : Around} {x1 x2 y1 y2 : Str} {u1 u2 v1 v2 : Tok} {D1 D2 : Addr} {n1 n2 : Nat} {Q : Value → Shared → Prop} (N : News h₀ L s.heap all)
    (h1 : (D1, ({ cls := .type "tuple", data := .seq #[.str x1 u1, .str x2 u2] n1 } : Obj)) ∈ all) (h2 : (D2, ({ cls := .type "tuple", data := .seq #[.str y1 v1, .str y2 v2] n2 } : Obj)) ∈ all) (hu : A.units + 64 < cLine) (hs1 : PyData.strOk x1 = true) (hs2 : PyData.strOk x2 = true) (hs3 : PyData.strOk y1 = true) (hs4 : PyData.strOk y2 = true)
    (h : Q (.bool (decide (x1 = y1 ∧ x2 = y2))) s) : wpAny (model prog w) A (compareOp .Eq (.ref D1) (.ref D2)) Q E s := by
  refine eq_dataH (reads_tuple_at (N _ h1).1 rfl rfl (.cons (.str x1 u1) (.cons (.str x2 u2) .nil))) (reads_tuple_at (N _ h2).1 rfl rfl (.cons (.str y1 v1) (.cons (.str y2 v2) .nil))) ?_ ?_ hu ?_
  · simp [SeqAt.shaped, PyData.canLay0, PyData.canLayAll0, PyData.depth, PyData.depthAll, hs1, hs2]
  · simp [SeqAt.shaped, PyData.canLay0, PyData.canLayAll0, PyData.depth, PyData.depthAll, hs3, hs4]
  have e : PyData.eqv (.tuple [.str x1, .str x2]) (.tuple [.str y1, .str y2]) = decide (x1 = y1 ∧ x2 = y2) := by
    simp only [PyData.eqv, PyData.eqvAll, Bool.and_true]
    by_cases e1 : x1 = y1 <;> by_cases e2 : x2 = y2 <;> simp [e1, e2]
  rw [e]; exact h
theorem ones_of {α : Type} : ∀ {l : List α} {ys : List Value}, Paired (fun _ y => ∃ t, y = Value.int 1 t) l ys → IntsAre ys (l.map fun _ => 1)
  | _, _, .nil => .nil
  | _, _, .cons h r => by obtain ⟨t, rfl⟩ := h; exact .cons 1 t (ones_of r)
theorem ne_nil {prog : Program} {A : Around} {l : List Nat} {ys : List Value} {D1 D2 : Addr} {Q : Value → Shared → Prop} (N : News h₀ L s.heap all)
    (h1 : (D1, LCg.lst ys) ∈ all) (h2 : (D2, W.listOf #[] 0) ∈ all) (hp : Paired (fun _ y => ∃ t, y = Value.int 1 t) l ys) (hu : A.units + 64 < cLine)
    (h : Q (.bool (!decide (l = []))) s) : wpAny (model prog w) A (compareOp .NotEq (.ref D1) (.ref D2)) Q E s := by
  refine ke_ne_ints (xs := ys) (ys := []) (ns := l.map fun _ => 1) (ms := []) ⟨_, (N _ h1).1, rfl, _, rfl⟩ ⟨_, (N _ h2).1, rfl, _, rfl⟩ (ones_of hp) .nil hu ?_
  have e : (l.map (fun _ => (1 : Int)) = []) ↔ l = [] := by cases l <;> simp
  rw [show decide (l.map (fun _ => (1 : Int)) = []) = decide (l = []) from decide_eq_decide.mpr e]; exact h
/-- are the two signs anywhere side by side? -/
def besideB (x one other : Str) : Bool := !decide ((List.range ((x.length : Int) - 1).toNat).filter (fun i : Nat => decide (Txt.item x (1 + (i : Int) - 1) = one ∧ Txt.item x (1 + (i : Int)) = other)) = [])
set_option maxRecDepth 100000 in
set_option maxHeartbeats 2000000 in
theorem beside_spec {x one other : Str} {tx t1 t2 : Tok}
    (B : Below A₀ base outer h₀) (F : Fr h₀ L s.heap m) (X : (hd.heap_39 w.params).In h₀) (T : Top p loose mean mg mb h₀) (hk : cs.kind = .function)
    (hx : x.length ≤ 1000) (hk1 : PyData.strOk x = true) (hk2 : PyData.strOk one = true) (hk3 : PyData.strOk other = true)
    (ret : ∀ h' tk', Fr h₀ L h' m → (∀ b o, s.heap.get? b = some o → h'.get? b = some o) → Q (.bool (besideB x one other)) { s with heap := h', toks := tk' }) :
    wpAny (model PySem.Challenge.rw_xm0649_01.row.prog w) (ktrTop 380 3800 gd cn cs L a ccd cl outer) (call (.ref 107) [.str x tx, .str one t1, .str other t2]) Q E s := by
  w_top off
  k_with_none
  k_with "compareOp Eq ref ref" => ((k_here; (with_reducible show wpAny _ _ (compareOp CmpOp.Eq (Value.ref _) (Value.ref _)) _ _ _); k_dflt (refine' eq_pair ?N ?a ?b ?c ?d ?e ?f ?g ?_; (case N => k_asm); (case a => k_mem); (case b => k_mem); (case c => exact Nat.le_of_ble_eq_true rfl); (case d => first | assumption | exact ok_item (by assumption) _); (case e => first | assumption | exact ok_item (by assumption) _); (case f => first | assumption | exact ok_item (by assumption) _); (case g => first | assumption | exact ok_item (by assumption) _); k_whole)))
  k_with "compareOp NotEq ref ref" => ((k_here; (with_reducible show wpAny _ _ (compareOp CmpOp.NotEq (Value.ref _) (Value.ref _)) _ _ _); k_dflt (refine' ne_nil ?N ?a ?b ?c ?d ?_; (case N => k_asm); (case a => k_mem); (case b => k_mem); (case c => assumption); (case d => exact Nat.le_of_ble_eq_true rfl); k_whole)))
  k_with "TTest" => ((k_dflt (refine' TTest.intro ?e ?F ?N ?hs; (case e => exact rfl); (case F => k_asm); (case N => k_asm); (case hs => lcg_sub))))
  k_with "TElt" => ((k_dflt (refine' TElt.intro ?e ?F ?N ?hs; (case e => exact ⟨_, rfl⟩); (case F => k_asm); (case N => k_asm); (case hs => lcg_sub))))
  k_with "CompSrcT" => ((k_here; k_dflt (
  (refine LCt.CompSrcT.range (by rfl) (by k_asm) (by k_asm) (by assumption) (by exact small_len (by assumption)) (by first | exact rangeSize_nat _ _ | rfl) (by first | exact Nat.le_of_ble_eq_true rfl | (rw [PySem.sizeLine_eq]; omega) | size_fits) ?_; intro g'; (refine' filt _ (fun _ y => ∃ t, y = Value.int 1 t) (fun i' v' I' oI' C' oC' D' m' ys' h' tk' E' hi' hv' hC' hx' F' N' off' ne' => ?_) (fun i' v' I' oI' C' oC' D' m' ys' h' tk' E' hi' hq' hv' hC' hx' F' N' off' ne' => ?_) trivial (fun ys' hY' => ?_)); (all_goals (try (obtain ⟨t9', hv9'⟩ := hv'; subst hv9'))); (all_goals (try (clear off' ne'))); kcf_last))))
  revert X; k_fill; intro X
  have N : News h₀ L s.heap [] := News.nil
  refine wpAny_call ?_
  k_dflt ((refine' enterC ?k1 ?k2 ?k3 ?k4 ?k5 ?kA ?kF ?kK ?k6 ?k7 ?k8 ?k9 ?kB ?kD ?_ ?c2 ?c3 ?c4; (case kA => exact rfl); (case kF => exact rfl); (case kK => assumption); (case k1 => k_asm); (case k2 => k_asm); (case k3 => k_asm); (case k4 => k_asm); (case k5 => k_asm); (case k6 => k_is); (case k7 => k_is); (case k8 => k_room); (case k9 => exact BindsTo.of_eq rfl); (case kB => exact rfl); (case kD => decide +kernel); (case c2 => exact rfl); (case c3 => exact rfl); (case c4 => exact rfl); k_whole; intro g' L' h' tk' cells' FG' F' N' Y' B' X' T' l1 kG'; (try k_lt l1); k_cells Y'; (try simp only [List.cons_append, List.nil_append] at N'); (try dsimp only); (try k_lift B'); (try k_fold)))
  k_steps
  all_goals (refine' ret _ _ ?F ?K; (case F => k_asm); (case K => exact fun b o e => keep_of (by assumption) (by with_reducible assumption) b o e List.not_mem_nil))

theorem beside_use {x one other : Str} {tx t1 t2 : Tok} {dp un : Nat}
    (B : Below A₀ base outer h₀) (F : Fr h₀ L s.heap m) (X : (hd.heap_39 w.params).In h₀) (N : News h₀ L s.heap all) (T : Top p loose mean mg mb h₀) (hk : cs.kind = .function)
    (hx : x.length ≤ 1000) (hk1 : PyData.strOk x = true) (hk2 : PyData.strOk one = true) (hk3 : PyData.strOk other = true) (hd : dp ≤ 380) (hu : un ≤ 3800)
    (ret : ∀ h' tk', Fr h₀ L h' m → News h₀ L h' all → Q (.bool (besideB x one other)) { s with heap := h', toks := tk' }) :
    wpAny (model PySem.Challenge.rw_xm0649_01.row.prog w) (ktrTop dp un gd cn cs L a ccd cl outer) (call (.ref 107) [.str x tx, .str one t1, .str other t2]) Q E s :=
  wpAny_room (beside_spec B F X T hk hx hk1 hk2 hk3 fun h' tk' F' k => ret h' tk' F' (N.grown k)) hd hu
end
-- T4a
section
section
open PyProof.Rows.LCg
variable {prog : Program} {w : World} {A : Around} {E : Value → Shared → Prop} {s₂ : Shared} {h₀ : Heap} {L : Addr} {m : Str → Option Value} {env : Env} {news : List (Addr × Obj)}
theorem cons2 {α : Type} {P : α → Prop} {l₁ l₂ : List α} {x y : α} (h1 : ∀ p ∈ l₁, P p) (hx : P x) (hy : P y) (h2 : ∀ p ∈ l₂, P p) : ∀ p ∈ l₁ ++ x :: y :: l₂, P p := by
  intro p hp
  rcases List.mem_append.mp hp with hp | hp
  · exact h1 p hp
  · rcases List.mem_cons.mp hp with rfl | hp
    · exact hx
    · rcases List.mem_cons.mp hp with rfl | hp
      · exact hy
      · exact h2 p hp
/-- a comprehension over pairs, with one test; its turns change nothing that was there -/
theorem pair_filt {elt iter c : PySem.Expr} {a b : Str} {pa pb tp : Pos} {kk : Nat} {scope : Scope} {cl : List (Str × Addr)} {pos : Pos} {I : Addr} {fp wr : List Addr} {n : Nat} {Pt : Nat → Array Value → Prop} {St : Nat → Heap → Prop} {Mid : Nat → Addr → Heap → Prop}
    {V : Nat → Value → Value → Prop} (q : Nat → Bool) (R : Nat → Value → Prop) {RR : Value → Addr → Result → Shared → Prop}
    (hh : A.handled = none) (W : WalksU prog w A I fp wr n Pt St Mid) (hV : ∀ i vals, Pt i vals → ∃ x y, vals = #[x, y] ∧ V i x y) (hsz : n ≤ sizeLine)
    (hwr : ∀ b ∈ wr, h₀.get? b = none ∧ b ≠ L ∧ b < s₂.heap.objs.size ∧ ∀ p ∈ news, p.1 ≠ b)
    (hfp : ∀ b ∈ fp, b ∈ wr ∨ b ∈ news.map (·.1) ∨ ∃ o, h₀.get? b = some o)
    (hlive : ∀ i h, St i h → ∀ b ∈ wr, ∃ o, h.get? b = some o)
    (hcell : ∀ y ∈ scope.names, y.2 ≠ .cell) (hkind : scope.kind = .function) (hxa : scope.names.lookup a = some .local) (hxb : scope.names.lookup b = some .local) (hab : ¬ a = b)
    (hst : St 0 s₂.heap) (F : Fr h₀ L s₂.heap m) (N : News h₀ L s₂.heap news)
    (turn : ∀ i va vb own C oC D ys m₂ h tk (E' : Value → Shared → Prop), i < n → V i va vb → NsObj oC m₂ → m₂ a = some va → m₂ b = some vb → own.map (·.1) = wr → Fr h₀ L h m → News h₀ L h (own ++ (C, oC) :: (D, lst ys) :: news) →
      wpAny (model prog w) A (isTrue c (compEnvC scope cl C env) (eval c (compEnvC scope cl C env))) (fun ok s' => TTest h₀ L m { s₂ with heap := h, toks := tk } (own ++ (C, oC) :: (D, lst ys) :: news) (q i) ok s') E' { s₂ with heap := h, toks := tk })
    (eltT : ∀ i va vb own C oC D ys m₂ h tk (E' : Value → Shared → Prop), i < n → q i = true → V i va vb → NsObj oC m₂ → m₂ a = some va → m₂ b = some vb → own.map (·.1) = wr → Fr h₀ L h m → News h₀ L h (own ++ (C, oC) :: (D, lst ys) :: news) →
      wpAny (model prog w) A (eval elt (compEnvC scope cl C env)) (fun y s' => TElt h₀ L m { s₂ with heap := h, toks := tk } (own ++ (C, oC) :: (D, lst ys) :: news) (R i) y s') E' { s₂ with heap := h, toks := tk })
    (hRR : ∀ D C h tk m' ys, Fr h₀ L h m → News h₀ L h ((D, lst ys) :: news) → h.Ns C m' → h₀.get? C = none → h₀.get? D = none → C ≠ L → D ≠ L → C ≠ D → (∀ p ∈ news, p.1 ≠ C ∧ p.1 < D) → Paired R ((List.range n).filter q) ys → RR (.ref D) C (.ok .next) { s₂ with heap := h, toks := tk }) :
    wpAny (model prog w) A (newList []) (fun acc s₃ => wpAny (model prog w) A (newFunctionEnv scope env.globals cl [] env.qual none .none (some env)) (fun cenv s₄ =>
      codeAny (model prog w) A (.compStart (.ListComp elt [⟨.Tuple [.Name a pa, .Name b pb] kk tp, iter, [c], 0⟩] scope pos) 0 (.ref I) acc { cenv with scope := relabel scope env }) (RR acc cenv.locals) s₄) E s₃) E s₂ := by
  refine wpAny_newObj_type (wpAny_newFunctionEnv hcell (by intro y hy; simp at hy) (fun h₁ hns₁ hsb₁ => ?_) hkind)
  dsimp only at hns₁ hsb₁ ⊢
  generalize hH2 : s₂.heap.push { cls := .type "list", dict := none, data := .seq ([] : List Value).toArray } = H2 at hns₁ hsb₁ ⊢
  have hC : H2.objs.size = s₂.heap.objs.size + 1 := by rw [← hH2, Heap.size_push]
  generalize hDd : s₂.heap.objs.size = D at *
  generalize hCd : H2.objs.size = C at *
  have hDC : D ≠ C := by rw [hC]; exact Nat.ne_of_lt (Nat.lt_succ_self _)
  have below : ∀ b, b < D → b ≠ C ∧ b ≠ D := fun b hb => ⟨by rw [hC]; exact Nat.ne_of_lt (Nat.lt_succ_of_lt hb), Nat.ne_of_lt hb⟩
  have old : ∀ b o, s₂.heap.get? b = some o → h₁.get? b = some o := fun b o e => hsb₁.extBut b o (below b (hDd ▸ Heap.lt_size e)).1 (Heap.get?_push_of_some _ (hH2 ▸ Heap.get?_push_of_some _ e))
  have hacc : h₁.get? D = some (lst []) := hsb₁.extBut _ _ hDC (Heap.get?_push_of_some _ (by rw [← hH2, ← hDd]; exact Heap.get?_push_size _ rfl))
  have fresh : ∀ a, D ≤ a → s₂.heap.get? a = none := fun a ha => by
    cases e : s₂.heap.get? a with
    | none => rfl
    | some o' => exact absurd (hDd ▸ Heap.lt_size e) (Nat.not_lt.mpr ha)
  have fresh₀ : ∀ a, D ≤ a → h₀.get? a = none := fun a ha => by
    cases e : h₀.get? a with
    | none => rfl
    | some o' => have := F.keep a o' e; rw [fresh a ha] at this; cases this
  have hD₀ : h₀.get? D = none := fresh₀ _ (Nat.le_refl _)
  have hC₀ : h₀.get? C = none := fresh₀ _ (by rw [hC]; exact Nat.le_succ _)
  have hLlt : L < D := hDd ▸ F.ns.lt
  have hDL : D ≠ L := Ne.symm (below L hLlt).2
  have hCL : C ≠ L := Ne.symm (below L hLlt).1
  have newsLt : ∀ p ∈ news, p.1 < D := fun p hp => hDd ▸ Heap.lt_size (N p hp).1
  have hCw : C ∉ wr := fun h => (below C (hwr C h).2.2.1).1 rfl
  have hDw : D ∉ wr := fun h => (below D (hwr D h).2.2.1).2 rfl
  have hLw : L ∉ wr := fun h => (hwr L h).2.1 rfl
  have nw : ∀ p ∈ news, p.1 ∉ wr := fun p hp h => (hwr _ h).2.2.2 p hp rfl
  have nC : ∀ p ∈ news, p.1 ≠ C := fun p hp => (below _ (newsLt p hp)).1
  have nD : ∀ p ∈ news, p.1 ≠ D := fun p hp => (below _ (newsLt p hp)).2
  have hCf : C ∉ fp := fun h => by
    rcases hfp C h with h | h | ⟨o, h⟩
    · exact hCw h
    · obtain ⟨p, hp, e⟩ := List.mem_map.mp h; exact nC p hp e
    · rw [hC₀] at h; cases h
  have hDf : D ∉ fp := fun h => by
    rcases hfp D h with h | h | ⟨o, h⟩
    · exact hDw h
    · obtain ⟨p, hp, e⟩ := List.mem_map.mp h; exact nD p hp e
    · rw [hD₀] at h; cases h
  have w0 : ∀ b o, h₀.get? b = some o → b ∉ wr := fun b o e h => by rw [(hwr b h).1] at e; cases e
  have hst₁ : St 0 h₁ := W.frame _ _ _ hst fun b _ o e => old b o e
  have stKeep : ∀ i h h' (own : List (Addr × Obj)) (oC oD : Obj), own.map (·.1) = wr → Fr h₀ L h m → Fr h₀ L h' m → News h₀ L h (own ++ (C, oC) :: (D, oD) :: news) → News h₀ L h' (own ++ (C, oC) :: (D, oD) :: news) → St i h → St i h' := by
    intro i h h' own oC oD ho Fh Fh' Nh Nh' st
    refine W.frame _ _ _ st fun b hb o e => ?_
    rcases hfp b hb with hm | hm | ⟨o', e'⟩
    · rw [← ho] at hm
      obtain ⟨p, hp, rfl⟩ := List.mem_map.mp hm
      have z := (Nh p (List.mem_append_left _ hp)).1
      rw [z] at e; cases e
      exact (Nh' p (List.mem_append_left _ hp)).1
    · obtain ⟨p, hp, rfl⟩ := List.mem_map.mp hm
      have hp' : p ∈ own ++ (C, oC) :: (D, oD) :: news := List.mem_append_right _ (.tail _ (.tail _ hp))
      have z := (Nh p hp').1
      rw [z] at e; cases e
      exact (Nh' p hp').1
    · have z := Fh.keep b o' e'
      rw [z] at e; cases e
      exact Fh'.keep b _ e'
  have loop : ∀ s₃ : Shared, s₃ = { s₂ with heap := h₁, toks := s₂.toks + ([] : List (Str × Value)).length } →
      codeAny (model prog w) A (.compLoop (.ListComp elt [⟨.Tuple [.Name a pa, .Name b pb] kk tp, iter, [c], 0⟩] scope pos) 0 (.ref I) (.ref D) (compEnvC scope cl C env)) (RR (.ref D) C) s₃ := by
    rintro s₃ rfl
    refine kct_loop
      (fun k s' => ∃ h' tk i ys m', s' = { s₂ with heap := h', toks := tk } ∧ i ≤ n ∧ k = n + 1 - i ∧ Paired R ((List.range i).filter q) ys ∧ St i h' ∧ Fr h₀ L h' m ∧ h'.Ns C m' ∧ News h₀ L h' ((D, lst ys) :: news)) ?_ (n + 1)
      ⟨h₁, _, 0, [], _, rfl, Nat.zero_le _, rfl, .nil, hst₁, F.keeps old, hns₁, fun p hp => ?_⟩
    · rintro k s' ⟨h', tk, i, ys, m', rfl, hi, rfl, hy, hst', F', hn', N'⟩
      by_cases hlt : i < n
      · refine W.item i _ _ _ hlt hst' fun T vals h₂ tk₂ hPt hT hMid hk₂ => ?_
        obtain ⟨x, y, rfl, hVi⟩ := hV i vals hPt
        refine W.go _ _ _ i T _ _ _ hMid fun h₃ hst₃ hk₃ => ?_
        have hT₃ : h₃.IsTuple T #[x, y] := hT.at fun o e => hk₃ T o (W.apart i T _ hMid) e
        have up₃ : ∀ c o, c ∉ wr → h'.get? c = some o → h₃.get? c = some o := fun c o hc e => hk₃ c o hc (hk₂ c o hc e)
        refine kcp_assign (env := compEnvC scope cl C env) hh hT₃ (lookup_relabel_local hxa) (lookup_relabel_local hxb) (by simp [compEnvC, relabel, hkind]) (hn'.at' fun o e => up₃ _ o hCw e) fun h₄ tk₄ hn₄ hs₄ => ?_
        have up : ∀ c o, c ∉ wr → c ≠ C → h'.get? c = some o → h₄.get? c = some o := fun c o h1 h2 e => hs₄ c o h2 (up₃ c o h1 e)
        have hst₄ : St (i + 1) h₄ := W.frame _ _ _ hst₃ fun b hb o e => hs₄ b o (fun e2 => hCf (by have e3 : b = C := e2; rw [← e3]; exact hb)) e
        obtain ⟨oC, heC, hoC⟩ := ns_obj hn₄
        have F₄ : Fr h₀ L h₄ m := ⟨F'.ns.at' fun o e => up _ o hLw (Ne.symm hCL) e, fun c o e => up c o (w0 c o e) (fun q => by rw [q, hC₀] at e; cases e) (F'.keep c o e), F'.above⟩
        obtain ⟨own, ho, hoN⟩ : ∃ own : List (Addr × Obj), own.map (·.1) = wr ∧ ∀ p ∈ own, h₄.get? p.1 = some p.2 := by
          refine ⟨wr.map fun b => (b, (h₄.get? b).getD default), by rw [List.map_map]; exact List.map_id'' (fun _ => rfl) _, ?_⟩
          intro p hp
          obtain ⟨b, hb, rfl⟩ := List.mem_map.mp hp
          obtain ⟨o, e⟩ := hlive _ _ hst₄ b hb
          show h₄.get? b = some ((h₄.get? b).getD default)
          rw [e]; rfl
        have N₄ : News h₀ L h₄ (own ++ (C, oC) :: (D, lst ys) :: news) := by
          refine cons2 (fun p hp => ?_) ⟨heC, hCL, hC₀⟩ ⟨up _ _ hDw hDC (N' _ List.mem_cons_self).1, hDL, hD₀⟩ (fun p hp => ?_)
          · have hb : p.1 ∈ wr := ho ▸ List.mem_map_of_mem hp
            exact ⟨hoN p hp, (hwr _ hb).2.1, (hwr _ hb).1⟩
          · have z := N' p (List.mem_cons_of_mem _ hp)
            exact ⟨up _ _ (nw p hp) (nC p hp) z.1, z.2⟩
        have ys_le : ys.length ≤ i := by
          rw [paired_len hy]
          exact Nat.le_trans (List.length_filter_le _ _) (Nat.le_of_eq (List.length_range ..))
        have hma : (fun z => if z = b then some y else if z = a then some x else m' z) a = some x := by simp [hab]
        have hmb : (fun z => if z = b then some y else if z = a then some x else m' z) b = some y := by simp
        refine wpAny_mono (turn i x y own C oC D ys _ h₄ _ _ hlt hVi hoC hma hmb ho F₄ N₄) (fun ok s₅ h₅ => ?_) fun _ _ e => e
        obtain ⟨rfl, h₅, tk₅, rfl, F₅, N₅⟩ := h₅
        have hst₅ := stKeep _ _ _ own oC _ ho F₄ F₅ N₄ N₅ hst₄
        have zC₅ := (N₅ (C, oC) (List.mem_append_right _ List.mem_cons_self)).1
        cases hqi : q i with
        | false =>
          simp only [Bool.false_eq_true, if_false]
          refine ⟨n + 1 - (i + 1), by omega, h₅, tk₅, i + 1, ys, _, rfl, hlt, rfl, ?_, hst₅, F₅, hoC.ns zC₅, fun p hp => N₅ p (List.mem_append_right _ (List.mem_cons_of_mem _ hp))⟩
          rw [List.range_succ, List.filter_append, show List.filter q [i] = [] by simp [hqi], List.append_nil]
          exact hy
        | true =>
          simp only [if_true]
          refine wpAny_mono (eltT i x y own C oC D ys _ h₅ _ _ hlt hqi hVi hoC hma hmb ho F₅ N₅) (fun v s₆ h₆ => ?_) fun _ _ e => e
          obtain ⟨hRv, h₆, tk₆, rfl, F₆, N₆⟩ := h₆
          have hst₆ := stKeep _ _ _ own oC _ ho F₅ F₆ N₅ N₆ hst₅
          have zC₆ := (N₆ (C, oC) (List.mem_append_right _ List.mem_cons_self)).1
          have zD₆ := (N₆ (D, lst ys) (List.mem_append_right _ (List.mem_cons_of_mem _ List.mem_cons_self))).1
          refine append_at (hsz := by show ys.toArray.size ≤ sizeLine; rw [List.size_toArray]; exact Nat.le_trans ys_le (Nat.le_trans hi hsz)) zD₆ fun h₇ hs₇ hD₇ => ?_
          refine ⟨n + 1 - (i + 1), by omega, h₇, _, i + 1, ys ++ [v], _, rfl, hlt, rfl, ?_, W.frame _ _ _ hst₆ fun b hb o e => hs₇.extBut b o (fun q => hDf (q ▸ hb)) e, F₆.change hs₇ hDL hD₀,
            (hoC.ns zC₆).sameBut hs₇ (Ne.symm hDC), fun p hp => ?_⟩
          · rw [List.range_succ, List.filter_append, show List.filter q [i] = [i] by simp [hqi]]
            exact hy.snoc hRv
          · rcases List.mem_cons.mp hp with rfl | hp
            · exact ⟨hD₇.trans (congrArg some (lst_snoc ys v)), hDL, hD₀⟩
            · have z := N₆ p (List.mem_append_right _ (List.mem_cons_of_mem _ (List.mem_cons_of_mem _ hp)))
              exact ⟨hs₇.extBut _ _ (nD p hp) z.1, z.2⟩
      · obtain rfl : i = n := Nat.le_antisymm hi (Nat.not_lt.mp hlt)
        refine W.done _ _ _ hst' fun h₂ tk₂ hk₂ => ?_
        refine hRR D C h₂ tk₂ m' ys ⟨F'.ns.at' fun o e => hk₂ _ o hLw e, fun c o e => hk₂ c o (w0 c o e) (F'.keep c o e), F'.above⟩ (fun p hp => ?_) (hn'.at' fun o e => hk₂ _ o hCw e) hC₀ hD₀ hCL hDL (Ne.symm hDC) (fun p hp => ⟨nC p hp, newsLt p hp⟩) hy
        have z := N' p hp
        refine ⟨hk₂ _ _ ?_ z.1, z.2⟩
        rcases List.mem_cons.mp hp with rfl | hp
        · exact hDw
        · exact nw p hp
    · rcases List.mem_cons.mp hp with rfl | hp
      · exact ⟨hacc, hDL, hD₀⟩
      · exact ⟨old _ _ (N p hp).1, (N p hp).2⟩
  exact codeAny_compStart_list (loop _ rfl) (W.self 0 _ _ _ hst₁ (loop _ rfl))
end
end
-- T4b
section
section
open PyProof.Rows.LCg
theorem item_sign {x : Str} {i c : Nat} (h : x.cps[i]? = some c) : Txt.item x (i : Int) = ⟨#[c]⟩ := by
  have hi : i < x.cps.size := by
    rcases Nat.lt_or_ge i x.cps.size with h' | h'
    · exact h'
    · rw [Array.getElem?_eq_none h'] at h; cases h
  have e : seqIndex? (i : Int) x.length = some i := by
    unfold seqIndex?
    have h1 : ¬ ((i : Int) < 0) := by omega
    simp [h1]
    exact hi
  unfold Txt.item Txt.charAt
  rw [e]
  show (⟨#[(x.cps[i]?).getD 0]⟩ : Str) = _
  rw [h]; rfl
variable {prog : Program} {w : World} {A : Around} {E : Value → Shared → Prop} {s : Shared} {h₀ : Heap} {L : Addr} {m : Str → Option Value} {env : Env} {news : List (Addr × Obj)}
/-- what a comprehension over enumerate(text), with one test, asks of its source -/
def EnumSrc (prog : Program) (w : World) (A : Around) (h₀ : Heap) (L : Addr) (m : Str → Option Value) (env : Env) (c elt : PySem.Expr) (a b : Str) (scope : Scope) (cl : List (Str × Addr)) (Fin : Shared → List Value → List (Addr × Obj) → Prop) (xv : Value) (s₁ : Shared) : Prop :=
  ∃ (e it : Addr) (x : Str) (t : Tok) (news : List (Addr × Obj)), xv = .ref e ∧ A.handled = none ∧ x.length ≤ sizeLine ∧ Fr h₀ L s₁.heap m ∧ News h₀ L s₁.heap news ∧ IsEnum s₁.heap e it 0 .none ∧ s₁.heap.IsStrIter it (strIterType x) x t 0 ∧ e ≠ it ∧
    h₀.get? e = none ∧ h₀.get? it = none ∧ e ≠ L ∧ it ≠ L ∧ (∀ p ∈ news, p.1 ≠ e ∧ p.1 ≠ it) ∧
    ∃ (q : Nat → Bool) (R : Nat → Value → Prop),
      (∀ (i : Nat) (t1 t2 : Tok) oe oit C oC D ys m₂ h tk (E' : Value → Shared → Prop), i < x.length → NsObj oC m₂ → m₂ a = some (.int i t1) → m₂ b = some (.str (Txt.item x i) t2) → Fr h₀ L h m → News h₀ L h ((e, oe) :: (it, oit) :: (C, oC) :: (D, lst ys) :: news) →
        wpAny (model prog w) A (isTrue c (compEnvC scope cl C env) (eval c (compEnvC scope cl C env))) (fun ok s' => TTest h₀ L m { s₁ with heap := h, toks := tk } ((e, oe) :: (it, oit) :: (C, oC) :: (D, lst ys) :: news) (q i) ok s') E' { s₁ with heap := h, toks := tk }) ∧
      (∀ (i : Nat) (t1 t2 : Tok) oe oit C oC D ys m₂ h tk (E' : Value → Shared → Prop), i < x.length → q i = true → NsObj oC m₂ → m₂ a = some (.int i t1) → m₂ b = some (.str (Txt.item x i) t2) → Fr h₀ L h m → News h₀ L h ((e, oe) :: (it, oit) :: (C, oC) :: (D, lst ys) :: news) →
        wpAny (model prog w) A (eval elt (compEnvC scope cl C env)) (fun y s' => TElt h₀ L m { s₁ with heap := h, toks := tk } ((e, oe) :: (it, oit) :: (C, oC) :: (D, lst ys) :: news) (R i) y s') E' { s₁ with heap := h, toks := tk }) ∧
      (∀ ys, Paired R ((List.range x.length).filter q) ys → Fin s₁ ys news)
theorem EnumSrc.call {c elt : PySem.Expr} {a b : Str} {scope : Scope} {cl : List (Str × Addr)} {Fin : Shared → List Value → List (Addr × Obj) → Prop} {x : Str} {t : Tok} (q : Nat → Bool) (R : Nat → Value → Prop)
    (hh : A.handled = none) (hx : x.length ≤ sizeLine) (F : Fr h₀ L s.heap m) (N : News h₀ L s.heap news)
    (turn : ∀ e it (i : Nat) (t1 t2 : Tok) oe oit C oC D ys m₂ h tk (E' : Value → Shared → Prop), i < x.length → NsObj oC m₂ → m₂ a = some (.int i t1) → m₂ b = some (.str (Txt.item x i) t2) → Fr h₀ L h m → News h₀ L h ((e, oe) :: (it, oit) :: (C, oC) :: (D, lst ys) :: news) →
        wpAny (model prog w) A (isTrue c (compEnvC scope cl C env) (eval c (compEnvC scope cl C env))) (fun ok s' => TTest h₀ L m { s with heap := h, toks := tk } ((e, oe) :: (it, oit) :: (C, oC) :: (D, lst ys) :: news) (q i) ok s') E' { s with heap := h, toks := tk })
    (eltT : ∀ e it (i : Nat) (t1 t2 : Tok) oe oit C oC D ys m₂ h tk (E' : Value → Shared → Prop), i < x.length → q i = true → NsObj oC m₂ → m₂ a = some (.int i t1) → m₂ b = some (.str (Txt.item x i) t2) → Fr h₀ L h m → News h₀ L h ((e, oe) :: (it, oit) :: (C, oC) :: (D, lst ys) :: news) →
        wpAny (model prog w) A (eval elt (compEnvC scope cl C env)) (fun y s' => TElt h₀ L m { s with heap := h, toks := tk } ((e, oe) :: (it, oit) :: (C, oC) :: (D, lst ys) :: news) (R i) y s') E' { s with heap := h, toks := tk })
    (fin : ∀ g ys, Paired R ((List.range x.length).filter q) ys → Fin { s with heap := g } ys news) :
    wpAny (model prog w) A (call (.type "enumerate") [.str x t]) (EnumSrc prog w A h₀ L m env c elt a b scope cl Fin) E s := by
  have hLs : L < s.heap.objs.size := F.ns.lt
  have hfr : ∀ k, s.heap.objs.size ≤ k → h₀.get? k = none := fun k hk => by
    cases e : h₀.get? k with
    | none => rfl
    | some o => exact absurd (Heap.lt_size (F.keep _ _ e)) (Nat.not_lt.mpr hk)
  refine call_enumerate_str fun h' he hit hsz hk => ?_
  refine ⟨s.heap.objs.size + 1, s.heap.objs.size, x, t, news, rfl, hh, hx, F.keeps hk, N.grown hk, he, hit, Nat.succ_ne_self _, hfr _ (Nat.le_succ _), hfr _ (Nat.le_refl _), Nat.ne_of_gt (Nat.lt_succ_of_lt hLs), Nat.ne_of_gt hLs, fun q hq => ?_, q, R, ?_, ?_, fin h'⟩
  · have := Heap.lt_size (N q hq).1
    exact ⟨Nat.ne_of_lt (Nat.lt_succ_of_lt this), Nat.ne_of_lt this⟩
  · exact fun i t1 t2 oe oit C oC D ys m₂ h tk E' => turn _ _ i t1 t2 oe oit C oC D ys m₂ h tk E'
  · exact fun i t1 t2 oe oit C oC D ys m₂ h tk E' => eltT _ _ i t1 t2 oe oit C oC D ys m₂ h tk E'
theorem two_own {own : List (Addr × Obj)} {x y : Addr} (h : own.map (·.1) = [x, y]) : ∃ ox oy, own = [(x, ox), (y, oy)] := by
  cases own with
  | nil => cases h
  | cons p r =>
    cases r with
    | nil => cases h
    | cons p' r =>
      cases r with
      | cons _ _ => cases h
      | nil =>
        rw [List.map_cons, List.map_cons, List.map_nil] at h
        obtain ⟨h1, h2⟩ := List.cons.inj h
        obtain ⟨h3, _⟩ := List.cons.inj h2
        subst h1; subst h3
        exact ⟨p.2, p'.2, rfl⟩
theorem enum_ListComp {elt iter c : PySem.Expr} {a b : Str} {pa pb tp : Pos} {kk : Nat} {scope : Scope} {cl : List (Str × Addr)} {pos : Pos} {Q : Value → Shared → Prop} (_F₀ : Fr h₀ L s.heap m)
    (hclos : closureFor scope env = pure cl) (hcell : ∀ y ∈ scope.names, y.2 ≠ .cell) (hkind : scope.kind = .function)
    (hnames : ∀ y ∈ scope.names, y.2 = .local → scope.names.lookup y.1 = some .local) (hxa : scope.names.lookup a = some .local) (hxb : scope.names.lookup b = some .local) (hab : ¬ a = b)
    (h : wpAny (model prog w) A (eval iter env) (EnumSrc prog w A h₀ L m env c elt a b scope cl (fun s₂ => FinE h₀ L m s₂ Q)) E s)
    (hs : ∀ x, foldedSetIterable iter env x = pure x := by intro _; rfl) :
    wpAny (model prog w) A (eval (.ListComp elt [⟨.Tuple [.Name a pa, .Name b pb] kk tp, iter, [c], 0⟩] scope pos) env) Q E s := by
  rw [eval_ListComp]
  refine wpAny_comprehension_free (use := none) rfl hs hclos hkind hnames (wpAny_mono h (fun xv s₁ h₁ => ?_) fun _ _ e => e)
  obtain ⟨e, it, x, t, news, rfl, hh, hx, F, N, he, hit, hei, he₀, hi₀, heL, hiL, hoff, q, R, turn, eltT, fin⟩ := h₁
  refine wpAny_pyIter_enum he ?_
  have hlt : ∀ k, k ∈ [e, it] → k < s₁.heap.objs.size := fun k hk => by
    rcases List.mem_cons.mp hk with rfl | hk
    · exact Heap.lt_size he
    · obtain ⟨o, ho, _⟩ := hit; rw [List.mem_singleton.mp hk]; exact Heap.lt_size ho
  have go : ∀ (ty : String) (D : Draws prog w A.in1 it [it] x.cps.size (fun i v => ∃ c u, x.cps[i]? = some c ∧ v = .str ⟨#[c]⟩ u) (fun i h => h.IsStrIter it ty x t i)), s₁.heap.IsStrIter it ty x t 0 → _ := fun ty D hit' =>
    pair_filt (prog := prog) (w := w) (A := A) (E := E) (s₂ := s₁) (h₀ := h₀) (L := L) (m := m) (env := env) (news := news) (elt := elt) (iter := iter) (c := c) (a := a) (b := b) (pa := pa) (pb := pb) (tp := tp) (kk := kk) (scope := scope) (cl := cl) (pos := pos)
      (V := fun i va vb => ∃ t1 t2, va = .int i t1 ∧ vb = .str (Txt.item x i) t2) q R (RR := compPost (model prog w) A E none Q)
      hh (WalksT.enumerateD D e hei (fun hm => hei (List.mem_singleton.mp hm)) (List.mem_singleton.mpr rfl)).toU
      (fun i vals hv => by
        obtain ⟨t1, v, ⟨c, u, hc, rfl⟩, rfl⟩ := hv
        exact ⟨_, _, rfl, t1, u, rfl, by rw [item_sign hc]⟩)
      hx
      (fun k hk => by
        have hk' := hlt k hk
        rcases List.mem_cons.mp hk with rfl | hk
        · exact ⟨he₀, heL, hk', fun p hp => (hoff p hp).1⟩
        · have := List.mem_singleton.mp hk; subst this; exact ⟨hi₀, hiL, hk', fun p hp => (hoff p hp).2⟩)
      (fun k hk => .inl hk)
      (fun i h st k hk => by
        obtain ⟨⟨old, hE⟩, o, ho, _⟩ := st
        rcases List.mem_cons.mp hk with rfl | hk
        · exact ⟨_, hE⟩
        · rw [List.mem_singleton.mp hk]; exact ⟨o, ho⟩)
      hcell hkind hxa hxb hab ⟨⟨_, he⟩, hit'⟩ F N
      (fun i va vb own C oC D ys m₂ h tk E' hi hv hC ha hb ho F' N' => by
        obtain ⟨t1, t2, rfl, rfl⟩ := hv
        obtain ⟨oe, oit, rfl⟩ := two_own ho
        exact turn i t1 t2 oe oit C oC D ys m₂ h tk E' hi hC ha hb F' N')
      (fun i va vb own C oC D ys m₂ h tk E' hi hq hv hC ha hb ho F' N' => by
        obtain ⟨t1, t2, rfl, rfl⟩ := hv
        obtain ⟨oe, oit, rfl⟩ := two_own ho
        exact eltT i t1 t2 oe oit C oC D ys m₂ h tk E' hi hq hC ha hb F' N')
      (fun D C h tk m' ys F' N' hn hC₀ hD₀ hCL hDL hCD offC hy => by
        refine ⟨m', hn, fun h'' hs'' => fin ys hy D h'' tk (F'.change hs'' hCL hC₀) (fun p hp => ?_) ?_⟩
        · refine ⟨hs''.extBut _ _ ?_ (N' p hp).1, (N' p hp).2⟩
          rcases List.mem_cons.mp hp with rfl | hp
          · exact Ne.symm hCD
          · exact (offC p hp).1
        · clear fin turn eltT N'
          induction news with
          | nil => trivial
          | cons p r ih => exact ⟨Nat.ne_of_lt (offC p List.mem_cons_self).2, ih (fun q hq => N q (List.mem_cons_of_mem _ hq)) (fun q hq => hoff q (List.mem_cons_of_mem _ hq)) (fun q hq => offC q (List.mem_cons_of_mem _ hq))⟩)
  cases ha : x.cps.all (· < 128)
  · exact go "str_iterator" (Draws.strWide (A := A.in1) hh it x t) (by simpa [strIterType, ha] using hit)
  · exact go "str_ascii_iterator" (Draws.strAscii (A := A.in1) hh it x t) (by simpa [strIterType, ha] using hit)

/-- the sign at i is a hyphen, and the last one -/
def lastDash (x : Str) (i : Nat) : Bool := decide (Txt.item x i = Str.ofString "-") && decide ((i : Int) = (x.length : Int) - 1)
theorem EnumSrc.dash {c elt : PySem.Expr} {a b : Str} {scope : Scope} {cl : List (Str × Addr)} {Fin : Shared → List Value → List (Addr × Obj) → Prop} {x : Str} {t : Tok}
    (hh : A.handled = none) (hx : x.length ≤ sizeLine) (F : Fr h₀ L s.heap m) (N : News h₀ L s.heap news)
    (turn : ∀ e it (i : Nat) (t1 t2 : Tok) oe oit C oC D ys m₂ h tk (E' : Value → Shared → Prop), i < x.length → NsObj oC m₂ → m₂ a = some (.int i t1) → m₂ b = some (.str (Txt.item x i) t2) → Fr h₀ L h m → News h₀ L h ((e, oe) :: (it, oit) :: (C, oC) :: (D, lst ys) :: news) →
        wpAny (model prog w) A (isTrue c (compEnvC scope cl C env) (eval c (compEnvC scope cl C env))) (fun ok s' => TTest h₀ L m { s with heap := h, toks := tk } ((e, oe) :: (it, oit) :: (C, oC) :: (D, lst ys) :: news) (lastDash x i) ok s') E' { s with heap := h, toks := tk })
    (eltT : ∀ e it (i : Nat) (t1 t2 : Tok) oe oit C oC D ys m₂ h tk (E' : Value → Shared → Prop), i < x.length → NsObj oC m₂ → m₂ a = some (.int i t1) → m₂ b = some (.str (Txt.item x i) t2) → Fr h₀ L h m → News h₀ L h ((e, oe) :: (it, oit) :: (C, oC) :: (D, lst ys) :: news) →
        wpAny (model prog w) A (eval elt (compEnvC scope cl C env)) (fun y s' => TElt h₀ L m { s with heap := h, toks := tk } ((e, oe) :: (it, oit) :: (C, oC) :: (D, lst ys) :: news) (fun y => ∃ t, y = .int 1 t) y s') E' { s with heap := h, toks := tk })
    (fin : ∀ g ys, ys.length = ((List.range x.length).filter (lastDash x)).length → ys.length ≤ x.length → Fin { s with heap := g } ys news) :
    wpAny (model prog w) A (PySem.call (.type "enumerate") [.str x t]) (EnumSrc prog w A h₀ L m env c elt a b scope cl Fin) E s :=
  EnumSrc.call (lastDash x) (fun _ y => ∃ t, y = .int 1 t) hh hx F N turn (fun e it i t1 t2 oe oit C oC D ys m₂ h tk E' hi _ => eltT e it i t1 t2 oe oit C oC D ys m₂ h tk E' hi)
    fun g ys hy => fin g ys (paired_len hy) (by rw [paired_len hy]; exact Nat.le_trans (List.length_filter_le _ _) (Nat.le_of_eq (List.length_range ..)))
theorem lastDash_tt {x : Str} {i : Nat} (h1 : (Txt.item x (i : Int) == Str.ofString "-") = true) (h2 : (i : Int) = (x.length : Int) - 1) : true = lastDash x i := by
  unfold lastDash; rw [decide_eq_true (beq_iff_eq.mp h1), decide_eq_true h2]; rfl
theorem lastDash_ff {x : Str} {i : Nat} (h1 : (Txt.item x (i : Int) == Str.ofString "-") = false) : false = lastDash x i := by
  unfold lastDash; rw [decide_eq_false (beq_eq_false_iff_ne.mp h1)]; rfl
theorem lastDash_tf {x : Str} {i : Nat} (h2 : ¬ (i : Int) = (x.length : Int) - 1) : false = lastDash x i := by
  unfold lastDash; rw [decide_eq_false h2, Bool.and_false]
theorem len_lst {ys : List Value} {l : Addr} {Q : Value → Shared → Prop} (N : News h₀ L s.heap news) (hm : (l, lst ys) ∈ news) (hb : ys.length ≤ 2 ^ 20)
    (h : Q (.int (ys.length : Int) (s.toks + 1)) { s with toks := s.toks + 1 + 1 }) : wpAny (model prog w) A (call (.builtin "len") [.ref l]) Q E s :=
  len_list (l := l) (items := ys.toArray) ⟨_, (N _ hm).1, rfl, _, rfl⟩ (by simp only [List.size_toArray]; omega) (by simpa using h)
end
end
-- X1
section
set_option maxRecDepth 100000
open Builtin
section
variable {M : Model} {prog : Program} {w : World} {A : Around} {E : Value → Shared → Prop} {R : Result → Shared → Prop} {h : Heap} {g : Array GenState} {d : Drawn} {t : Nat} {os : OsState}
variable {nm q nm' q' : Str} {C N D ND : Addr} {bs bs' bm : List Value} {hdct hdct' : Bool} {sn sn' : List Str} {sub sub' : List Value} {ab ab' : Bool} {col col' : Option Bool} {dd dd' : Option Addr} {k0 k1 k2 k3 k5 j0 j1 j2 j3 j5 : Option Value} {B newId newId' initId : String}

/-- the class's line holds what its base's line holds: a class under an own class of an exception's -/
theorem line_has {v : Value} (h : bm.contains v = true) : (Value.ref C :: .ref D :: bm).contains v = true := by
  rw [List.contains_cons, List.contains_cons, h, Bool.or_true, Bool.or_true]
theorem line_not {n : String} (h : bm.contains (.type n) = false) : (Value.ref C :: .ref D :: bm).contains (.type n) = false := by
  rw [List.contains_cons, List.contains_cons, h]; rfl

theorem check_new2 (F : ExcBaseFacts B newId initId bm) {rest : List Value} {Q : Unit → Shared → Prop} (hC : h.get? C = some (excClassObj nm q C N bs (.ref D :: bm) hdct sn sub ab col dd k0 k1 k2 k3 k5 newId))
    (hq : Q () ⟨h, g, d, t, os⟩) : wpAny M A (checkBuiltinCall newId ⟨.ref C :: rest, []⟩) Q E ⟨h, g, d, t, os⟩ := by
  have hcont : (Value.ref C :: .ref D :: bm).contains (.type B) = true := line_has F.hasB
  have hstar := F.noStar
  simp only [checkBuiltinCall, F.newKind, F.newSplit, F.newRow]
  repeat (first | refine wpAny_loadPart_at hC ?_ | (refine wpAny_isSubtype_exc hC ?_; rw [hcont]) | refine wpAny_staticBase_exc hC ?_ | refine wpAny_madeBy_exc hC ?_ | simp only [bne_self_eq_false, Bool.false_eq_true, if_false] | wp_step)
  exact hq

theorem exc_new2 (F : ExcBaseFacts B newId initId bm) {rest : List Value} (hC : h.get? C = some (excClassObj nm q C N bs (.ref D :: bm) hdct sn sub ab col dd k0 k1 k2 k3 k5 newId))
    (hq : R (.ok (.ret (.ref (h.objs.size + 1)))) ⟨(h.push { cls := .type "tuple", data := .seq rest.toArray }).push
      { cls := .ref C, data := .fields #[.ref h.objs.size, .none, .none, .none, .bool false, .none] }, g, d, t, os⟩) (hrest : rest.length ≤ sizeLine) :
    codeAny (model prog w) A (.builtin newId ⟨.ref C :: rest, []⟩) R ⟨h, g, d, t, os⟩ := by
  have hends := F.ends
  have hcB : (Value.ref C :: .ref D :: bm).contains (.type B) = true := line_has F.hasB
  have hcA : (Value.ref C :: .ref D :: bm).contains (.type "AttributeError") = false := line_not F.noAttr
  have hcN : (Value.ref C :: .ref D :: bm).contains (.type "NameError") = false := line_not F.noName
  refine codeAny_builtinAt F.entry ?_
  unfold Builtin.«BaseException.__new__»
  refine PySem.wpAt_bind ?_
  show PySem.wpAt _ _ _ (stack >>= _) _ _ _
  refine PySem.wpAt_bind (PySem.wpAt_stack fun p below => PySem.wpAt_of_wpAny ?_)
  wp_walk
  refine PySem.wpAt_of_wpAny ?_
  rw [F.owner]
  repeat (first | with_reducible refine wpAny_madeHere_exc F.canon hC ?_ | with_reducible refine wpAny_loadPart_at hC ?_ | (with_reducible refine wpAny_isSubtype_exc hC ?_; first | rw [hcB] | rw [hcA] | rw [hcN]) | wp_step)
  show R _ _
  rw [Heap.size_push]
  exact hq

theorem lookup2 {name : Str} {mN mD : Str → Option Value} {v : Value} {Q : Option Value → Shared → Prop}
    (hC : h.get? C = some (excClassObj nm q C N bs (.ref D :: bm) hdct sn sub ab col dd k0 k1 k2 k3 k5 newId)) (hn : h.Ns N mN) (hi : mN name = none)
    (hD : h.get? D = some (excClassObj nm' q' D ND bs' bm hdct' sn' sub' ab' col' dd' j0 j1 j2 j3 j5 newId')) (hnD : h.Ns ND mD) (hv : mD name = some v)
    (hq : Q (some v) ⟨h, g, d, t, os⟩) : wpAny M A (typeLookup (.ref C) name) Q E ⟨h, g, d, t, os⟩ := by
  rw [typeLookup_eq]
  refine wpAny_bind (wpAny_mroOf_exc hC ?_)
  rw [lookupAlong_cons]
  refine wpAny_bind (wpAny_classOwn_exc hC hn ?_)
  rw [hi, lookupAlong_cons]
  refine wpAny_bind (wpAny_classOwn_exc hD hnD ?_)
  rw [hv]
  exact wpAny_pure hq

theorem type_call2 (F : ExcBaseFacts B newId initId bm) {mN mD : Str → Option Value} {rest : List Value} {fI : Addr} {oI : Obj} {Q : Fin → Shared → Prop}
    (hC : h.get? C = some (excClassObj nm q C N bs (.ref D :: bm) hdct sn sub ab col dd k0 k1 k2 k3 k5 newId)) (hn : h.Ns N mN) (hi : mN "__init__" = none)
    (hD : h.get? D = some (excClassObj nm' q' D ND bs' bm hdct' sn' sub' ab' col' dd' j0 j1 j2 j3 j5 newId')) (hnD : h.Ns ND mD) (hv : mD "__init__" = some (.ref fI))
    (hfI : h.get? fI = some oI) (hfc : oI.cls = .type "function")
    (hq : ∀ h' e, Heap.MadeExcOf h h' e (.ref C) rest →
      wpAny (model prog w) A (call (.ref fI) (.ref e :: rest)) (fun r s' => r = .none ∧ Q (.done (.ret (.ref e))) s') E ⟨h', g, d, t, os⟩) (hrest : rest.length ≤ sizeLine) :
    wpAny (model prog w) A (Builtin.«type.__call__» ⟨.ref C :: rest, []⟩) Q E ⟨h, g, d, t, os⟩ := by
  repeat (first | with_reducible refine wpAny_loadPart_at hC ?_ | with_reducible refine wpAny_madeBy_exc hC ?_ | wp_step)
  refine codeAny_call_builtin_code (Code.quiet_builtin _ F.quiet) (check_new2 F hC ?_)
  refine exc_new2 F hC ?_ hrest
  show wpAny _ _ _ _ _ _
  have up : ∀ b o, h.get? b = some o → ((h.push { cls := .type "tuple", data := .seq rest.toArray }).push { cls := .ref C, data := .fields #[.ref h.objs.size, .none, .none, .none, .bool false, .none] }).get? b = some o := fun b o e => Heap.get?_push_of_some _ (Heap.get?_push_of_some _ e)
  have hC₁ := up _ _ hC
  have hfI₁ := up _ _ hfI
  have hn₁ := hn.keeps up
  have hget : ((h.push { cls := .type "tuple", data := .seq rest.toArray }).push
      { cls := .ref C, data := .fields #[.ref h.objs.size, .none, .none, .none, .bool false, .none] }).get? (h.objs.size + 1) = some
      { cls := .ref C, data := .fields #[.ref h.objs.size, .none, .none, .none, .bool false, .none] } := by heap_get
  have hcC : (Value.ref C :: .ref D :: bm).contains (.ref C) = true := by simp
  unfold isInstance
  repeat (first | with_reducible refine wpAny_loadPart_at hget ?_ | (with_reducible refine wpAny_isSubtype_exc hC₁ ?_; rw [hcC]) | wp_step)
  show wpAny _ _ (typeLookup (.ref C) _) _ _ _
  refine lookup2 hC₁ hn₁ hi (up _ _ hD) (hnD.keeps up) hv ?_
  refine wpAny_holding (wpAny_bind ?_)
  unfold bindSpecial
  refine wpAny_bind (wpAny_typeOf (T := "function") ⟨_, hfI₁, hfc⟩ ?_)
  rw [if_pos (by decide)]
  refine wpAny_pure (wpAny_bind (wpAny_mono (hq _ (h.objs.size + 1) ⟨up, Heap.get?_none_of_le (Nat.le_succ _), h.objs.size, hget, Heap.get?_none_of_le (Nat.le_refl _), ?_⟩) (fun r s' hr => ?_) fun _ _ x => x))
  · exact Heap.get?_push_of_some _ (Heap.get?_push_at rfl rfl)
  · obtain ⟨rfl, hQ⟩ := hr
    wp_walk
    exact hQ

theorem call_exc2 (F : ExcBaseFacts B newId initId bm) {mN mD : Str → Option Value} {rest : List Value} {fI : Addr} {oI : Obj} {Q : Value → Shared → Prop}
    (hC : h.get? C = some (excClassObj nm q C N bs (.ref D :: bm) hdct sn sub ab col dd k0 k1 k2 k3 k5 newId)) (hn : h.Ns N mN) (hi : mN "__init__" = none)
    (hD : h.get? D = some (excClassObj nm' q' D ND bs' bm hdct' sn' sub' ab' col' dd' j0 j1 j2 j3 j5 newId')) (hnD : h.Ns ND mD) (hv : mD "__init__" = some (.ref fI))
    (hfI : h.get? fI = some oI) (hfc : oI.cls = .type "function")
    (hq : ∀ h' e, Heap.MadeExcOf h h' e (.ref C) rest →
      wpAny (model prog w) (A.under (.builtin "type.__call__" ⟨.ref C :: rest, []⟩)) (call (.ref fI) (.ref e :: rest)) (fun r s' => r = .none ∧ Q (.ref e) s') E ⟨h', g, d, t, os⟩) (hrest : rest.length ≤ sizeLine) :
    wpAny (model prog w) A (call (.ref C) rest) Q E ⟨h, g, d, t, os⟩ := by
  have f1 := tc_lookup
  have f2 := tc_bind (.ref C)
  have hT : (⟨h, g, d, t, os⟩ : Shared).TypeIs (.ref C) "type" := ⟨_, hC, rfl⟩
  refine wpAny_call (codeAny_of_tree ?_)
  show wpAny _ _ (callAny (.ref C) _) _ _ _
  repeat (any_goals (first | assumption | with_reducible refine wpAny_loadPart_at hC ?_ | wp_step))
  refine ⟨rfl, ?_⟩
  refine codeAny_call_builtin_at (Code.quiet_builtin _ (by decide +kernel)) entry_typeCall (wpAny_check_type_call_sub hC (type_call2 F hC hn hi hD hnD hv hfI hfc (fun h' e hm => ?_) hrest))
  exact hq h' e hm
end
end
-- X2
section
set_option maxRecDepth 100000
open Builtin Builtin.ObjectAttr
section
variable {M : Model} {prog : Program} {w : World} {A : Around} {E : Value → Shared → Prop} {R : Result → Shared → Prop} {h : Heap} {g : Array GenState} {d : Drawn} {t : Nat} {os : OsState}
variable {nm q nm' q' : Str} {C N D ND x : Addr} {bs bs' bm : List Value} {hdct' : Bool} {sn sn' : List Str} {sub sub' : List Value} {ab ab' : Bool} {col col' : Option Bool} {dd dd' : Option Addr} {k0 k1 k2 k3 k5 j0 j1 j2 j3 j5 : Option Value} {B newId newId' sa owner : String}
  {mN mD : Str → Option Value} {name : Str} {v : Value}

theorem lookup2n {name : Str} {y : Option Value} {Q : Option Value → Shared → Prop}
    (hC : h.get? C = some (excClassObj nm q C N bs (.ref D :: bm) true sn sub ab col dd k0 k1 k2 k3 k5 newId)) (hn : h.Ns N mN) (hi : mN name = none)
    (hD : h.get? D = some (excClassObj nm' q' D ND bs' bm hdct' sn' sub' ab' col' dd' j0 j1 j2 j3 j5 newId')) (hnD : h.Ns ND mD) (hv : mD name = none)
    (hbm : mroOf (.type B) = pure bm) (hB : typeLookup (.type B) name = pure y)
    (hq : Q y ⟨h, g, d, t, os⟩) : wpAny M A (typeLookup (.ref C) name) Q E ⟨h, g, d, t, os⟩ := by
  have hrest : lookupAlong bm name = pure y := by rw [typeLookup_eq, hbm] at hB; exact hB
  rw [typeLookup_eq]
  refine wpAny_bind (wpAny_mroOf_exc hC ?_)
  rw [lookupAlong_cons]
  refine wpAny_bind (wpAny_classOwn_exc hC hn ?_)
  rw [hi, lookupAlong_cons]
  refine wpAny_bind (wpAny_classOwn_exc hD hnD ?_)
  rw [hv, hrest]
  exact wpAny_pure hq

theorem check_sa2 {o : Obj} {nameV : Value} {Q : Unit → Shared → Prop} (SF : StoreFacts B bm sa owner)
    (hC : h.get? C = some (excClassObj nm q C N bs (.ref D :: bm) true sn sub ab col dd k0 k1 k2 k3 k5 newId)) (hx : h.get? x = some o) (hc : o.cls = .ref C) (hq : Q () ⟨h, g, d, t, os⟩) :
    wpAny M A (checkBuiltinCall sa ⟨[.ref x, nameV, v], []⟩) Q E ⟨h, g, d, t, os⟩ := by
  have hcB : (Value.ref C :: .ref D :: bm).contains (.type owner) = true := line_has SF.hasOwner
  have ha := SF.args (.ref x) nameV v
  simp only [checkBuiltinCall, SF.kind, SF.split]
  refine wpAny_bind ?_
  · unfold isInstance
    repeat (first | (with_reducible refine wpAny_loadPart_at hx ?_; rw [hc]) | (with_reducible refine wpAny_isSubtype_exc hC ?_; rw [hcB]) | wp_step)
    cases hsig : Manifest.signature? sa with
    | none => exact wpAny_pure hq
    | some sig =>
      simp only [argsOk, hsig] at ha
      have h2 : Bind.checkArgs sa sig ⟨[.ref x, nameV, v], []⟩ = pure () := ha
      show wpAny M A (Bind.checkArgs sa sig ⟨[.ref x, nameV, v], []⟩) Q E _
      rw [h2]; exact wpAny_pure hq

theorem store_entry2 {o : Obj} {tk : Tok} {Q : Fin → Shared → Prop} (SF : StoreFacts B bm sa owner)
    (hC : h.get? C = some (excClassObj nm q C N bs (.ref D :: bm) true sn sub ab col dd k0 k1 k2 k3 k5 newId)) (hn : h.Ns N mN) (hna : mN name = none)
    (hD : h.get? D = some (excClassObj nm' q' D ND bs' bm hdct' sn' sub' ab' col' dd' j0 j1 j2 j3 j5 newId')) (hnD : h.Ns ND mD) (hnaD : mD name = none)
    (hB : typeLookup (.type B) name = pure none) (hx : h.get? x = some o) (hc : o.cls = .ref C) (hdn : o.dict = none) (hnc : ∀ c, o.data ≠ .cls c)
    (hq : ∀ h' tk' dx, (∀ b ob, b ≠ x → h.get? b = some ob → h'.get? b = some ob) → h'.get? x = some { o with dict := some dx } → h.get? dx = none → Q (.done (.ret .none)) ⟨h', g, d, tk', os⟩) :
    wpAny (model prog w) A (Builtin.«object.__setattr__» ⟨[.ref x, .str name tk, v], []⟩) Q E ⟨h, g, d, t, os⟩ := by
  have hpass := SF.passes (.ref x)
  unfold Builtin.«object.__setattr__»
  repeat (first | rw [refuse_eq] | (rw [refuseLoop_ref, refuseLoop_ref, hpass]) | (with_reducible refine wpAny_loadPart_at hx ?_; rw [hc]) | with_reducible refine wpAny_mroOf_exc hC ?_ | with_reducible refine lookup2n hC hn hna hD hnD hnaD SF.mro hB ?_ | wp_step)
  rw [hdn, if_neg (by simp [typeHasDict])]
  split
  · rename_i hcd
    cases hcd
  split
  · rename_i c hcd
    exact absurd hcd (hnc c)
  · have hx₁ : (h.push { cls := .type "dict", data := .dict #[] }).get? x = some o := Heap.get?_push_of_some _ hx
    have hxs : x ≠ h.objs.size := Nat.ne_of_lt (Heap.lt_size hx)
    refine wpAny_bind (wpAny_alloc' ?_)
    refine wpAny_bind (wpAny_update' hx₁ ?_)
    refine wpAny_pure ?_
    have hgd : ((h.push { cls := .type "dict", data := .dict #[] }).update x fun o => { cls := o.cls, dict := some h.objs.size, data := o.data, slots := o.slots }).get? h.objs.size
        = some { cls := .type "dict", data := .dict #[] } :=
      (Heap.get?_update_ne _ _ _ _ hxs.symm).trans (Heap.get?_push_at rfl rfl)
    have hnd : ((h.push { cls := .type "dict", data := .dict #[] }).update x fun o => { cls := o.cls, dict := some h.objs.size, data := o.data, slots := o.slots }).Ns h.objs.size (fun _ => none) :=
      ⟨_, #[], _, hgd, rfl, fun e he => absurd he (by simp), fun _ => rfl⟩
    show wpAny _ _ (storeInDict h.objs.size (.str name tk) name v) _ _ _
    unfold storeInDict newKeyGuard
    refine wpAny_bind (wpAny_pure (wpAny_bind (wpAny_nsSet1 (Heap.Ns1.of_empty hnd) fun h' hn' hs => ?_)))
    obtain ⟨oD, esD, epD, hoD, hdD, hcD⟩ := hn'.count (Within.cons name v Within.nil)
    refine wpAny_bind (wpAny_lookBehind hoD (by rw [hdD]; exact pastItsLine_dict (Nat.le_trans hcD (by rw [List.length_cons, List.length_nil, sizeLine_eq]; omega))) ?_)
    wp_walk
    have hx' : h'.get? x = some { cls := o.cls, dict := some h.objs.size, data := o.data, slots := o.slots } := by
      refine (hs.2 x hxs).trans (Heap.get?_update_self _ hx₁ ?_)
      have hfr := (Heap.get?_some_iff.mp hx).2
      obtain ⟨oc, od, odt, osl⟩ := o
      cases odt <;> first | rfl | exact hfr
    exact hq h' _ h.objs.size (fun b ob hbx hb => (hs.2 b (Nat.ne_of_lt (Heap.lt_size hb))).trans ((Heap.get?_update_ne _ _ _ _ hbx).trans (Heap.get?_push_of_some _ hb))) hx' (Heap.get?_none_of_le (Nat.le_refl _))

theorem store2 {o : Obj} {Q : Unit → Shared → Prop} (SF : StoreFacts B bm sa owner)
    (hC : h.get? C = some (excClassObj nm q C N bs (.ref D :: bm) true sn sub ab col dd k0 k1 k2 k3 k5 newId)) (hn : h.Ns N mN) (hns : mN "__setattr__" = none) (hna : mN name = none)
    (hD : h.get? D = some (excClassObj nm' q' D ND bs' bm hdct' sn' sub' ab' col' dd' j0 j1 j2 j3 j5 newId')) (hnD : h.Ns ND mD) (hnsD : mD "__setattr__" = none) (hnaD : mD name = none)
    (hB : typeLookup (.type B) name = pure none) (hx : h.get? x = some o) (hc : o.cls = .ref C) (hdn : o.dict = none) (hnc : ∀ c, o.data ≠ .cls c)
    (hq : ∀ h' tk' dx, (∀ b ob, b ≠ x → h.get? b = some ob → h'.get? b = some ob) → h'.get? x = some { o with dict := some dx } → h.get? dx = none → Q () ⟨h', g, d, tk', os⟩) :
    wpAny (model prog w) A (setAttr (.ref x) name v) Q E ⟨h, g, d, t, os⟩ := by
  have f3 := SF.slot.bind (.ref x)
  unfold setAttr callSpecial? specialOf
  repeat (any_goals (first | assumption | (with_reducible refine wpAny_loadPart_at hx ?_; rw [hc]) | (with_reducible refine lookup2n hC hn hns hD hnD hnsD SF.mro SF.slot.lookup ?_) | wp_step))
  exact codeAny_call_builtin SF.slot.plain SF.entry (check_sa2 SF hC hx hc (store_entry2 SF hC hn hna hD hnD hnaD hB hx hc hdn hnc fun h' tk' dx a b c => by wp_walk; exact hq h' tk' dx a b c))
end
end
-- X3
section
set_option maxRecDepth 100000
section
variable {M : Model} {prog : Program} {w : World} {A : Around} {E : Value → Shared → Prop} {R : Result → Shared → Prop} {h : Heap} {g : Array GenState} {d : Drawn} {t : Nat} {os : OsState}
variable {nm q nm' q' : Str} {C N D ND x : Addr} {bs bs' bm : List Value} {hdct : Bool} {sn sn' : List Str} {sub sub' : List Value} {ab ab' : Bool} {col col' : Option Bool} {dd dd' : Option Addr} {k0 k1 k2 k3 k5 : Option Value} {B newId initId : String}
theorem check_init2 (F : ExcBaseFacts B newId initId bm) {e : Addr} {oe : Obj} {rest : List Value} {Q : Unit → Shared → Prop}
    (hC : h.get? C = some (excClassObj nm q C N bs (.ref D :: bm) hdct sn sub ab col dd k0 k1 k2 k3 k5 newId)) (he : h.get? e = some oe) (hcls : oe.cls = .ref C) (hq : Q () ⟨h, g, d, t, os⟩) :
    wpAny M A (checkBuiltinCall initId ⟨.ref e :: rest, []⟩) Q E ⟨h, g, d, t, os⟩ := by
  have hcB : (Value.ref C :: .ref D :: bm).contains (.type B) = true := line_has F.hasB
  have hshort := F.noStar
  simp only [checkBuiltinCall, F.initKind, F.initSplit, F.initRow]
  repeat (first | (with_reducible refine wpAny_loadPart_at he ?_; rw [hcls]) | with_reducible refine wpAny_loadPart_at hC ?_ | (with_reducible refine wpAny_isSubtype_exc hC ?_; rw [hcB]) | wp_step)
  refine wpAny_onRaise ?_
  rw [show ∀ (a b : String) (n : Nat), Bind.check ⟨.positional, "*", B, .self, [⟨"args", .varPos, false⟩]⟩ a b n (List.map (fun x => x.fst) ({ pos := Value.ref e :: rest } : Args).kw) = pure () from
    fun a b n => check_star_args _ _ _ _ _ _]
  exact wpAny_pure hq

abbrev excO (C t : Addr) : Obj := { cls := .ref C, data := .fields #[.ref t, .none, .none, .none, .bool false, .none] }
abbrev tupO (vs : List Value) : Obj := { cls := .type "tuple", data := .seq vs.toArray }

theorem init_call2 (F : ExcBaseFacts B newId initId bm) {e t₀ : Addr} {rest : List Value} {Q : Value → Shared → Prop}
    (hC : h.get? C = some (excClassObj nm q C N bs (.ref D :: bm) hdct sn sub ab col dd k0 k1 k2 k3 k5 newId)) (he : h.get? e = some (excO C t₀)) (hrest : rest.length ≤ 16)
    (hq : ∀ h' t', (∀ b o, b ≠ e → h.get? b = some o → h'.get? b = some o) → h'.get? e = some (excO C t') → h.get? t' = none → h'.get? t' = some (tupO rest) → h.objs.size ≤ t' → Q .none ⟨h', g, d, t, os⟩) :
    wpAny (model prog w) A (call (.builtin initId) (.ref e :: rest)) Q E ⟨h, g, d, t, os⟩ := by
  refine wpAny_call (codeAny_call_builtin F.init.plain F.initEntry (check_init2 F hC he rfl ?_))
  have hsz : rest.length ≤ sizeLine := by rw [sizeLine_eq]; omega
  wp_walk
  have hne : e ≠ h.objs.size := Nat.ne_of_lt (Heap.lt_size he)
  refine hq _ h.objs.size (fun b o hb hbo => ?_) ?_ (Heap.get?_none_of_le (Nat.le_refl _)) ?_ (Nat.le_refl _)
  · rw [Heap.get?_update_other _ _ (Ne.symm hb)]
    exact Heap.get?_push_of_some _ hbo
  · rw [Heap.get?_update_self _ (Heap.get?_push_of_some _ he) rfl]
    rfl
  · rw [Heap.get?_update_other _ _ hne]
    exact Heap.get?_push_at rfl rfl
end
end
-- X4
section
set_option maxRecDepth 100000
abbrev bmE : List Value := [.type "Exception", .type "BaseException", .type "object"]
theorem k44 {w : World} {h : Heap} (X : (hd.heap_39 w.params).In h) (_hp : PySem.Challenge.rw_xm0649_01.row.prog = PySem.Challenge.rw_xm0649_01.row.prog) :
    ∃ nm q bs sn sub ab col dd k0 k1 k2 k3 k5, h.get? 44 = some (excClassObj nm q 44 43 bs (.ref 31 :: bmE) true sn sub ab col dd k0 k1 k2 k3 k5 "Exception.__new__") := by
  revert X _hp; k_fill; intro X _hp
  exact ⟨_, _, _, _, _, _, _, _, _, _, _, _, _, X 44 _ (by k_is)⟩
theorem k31 {w : World} {h : Heap} (X : (hd.heap_39 w.params).In h) (_hp : PySem.Challenge.rw_xm0649_01.row.prog = PySem.Challenge.rw_xm0649_01.row.prog) :
    ∃ nm q bs sn sub ab col dd k0 k1 k2 k3 k5, h.get? 31 = some (excClassObj nm q 31 30 bs bmE true sn sub ab col dd k0 k1 k2 k3 k5 "Exception.__new__") := by
  revert X _hp; k_fill; intro X _hp
  exact ⟨_, _, _, _, _, _, _, _, _, _, _, _, _, X 31 _ (by k_is)⟩
theorem k28 {w : World} {h : Heap} (X : (hd.heap_39 w.params).In h) (_hp : PySem.Challenge.rw_xm0649_01.row.prog = PySem.Challenge.rw_xm0649_01.row.prog) :
    ∃ o, h.get? 28 = some o ∧ o.cls = .type "function" := by
  revert X _hp; k_fill; intro X _hp
  exact ⟨_, X 28 _ (by k_is), rfl⟩
theorem ns43 {w : World} {h : Heap} (X : (hd.heap_39 w.params).In h) (_hp : PySem.Challenge.rw_xm0649_01.row.prog = PySem.Challenge.rw_xm0649_01.row.prog) :
    ∃ m, h.Ns 43 m ∧ m "__init__" = none ∧ m "__setattr__" = none ∧ m "message" = none := by
  revert X _hp; k_fill; intro X _hp
  refine ⟨_, ⟨_, _, _, X 43 _ (by k_is), rfl, ?_, fun _ => rfl⟩, ?_, ?_, ?_⟩
  · intro e he
    simp at he
    rcases he with rfl | rfl | rfl | rfl <;> exact ⟨_, _, rfl⟩
  all_goals kernel_rfl
theorem ns30 {w : World} {h : Heap} (X : (hd.heap_39 w.params).In h) (_hp : PySem.Challenge.rw_xm0649_01.row.prog = PySem.Challenge.rw_xm0649_01.row.prog) :
    ∃ m, h.Ns 30 m ∧ m "__init__" = some (.ref 28) ∧ m "__setattr__" = none ∧ m "message" = none := by
  revert X _hp; k_fill; intro X _hp
  refine ⟨_, ⟨_, _, _, X 30 _ (by k_is), rfl, ?_, fun _ => rfl⟩, ?_, ?_, ?_⟩
  · intro e he
    simp at he
    rcases he with rfl | rfl | rfl | rfl | rfl | rfl <;> exact ⟨_, _, rfl⟩
  all_goals kernel_rfl
end
-- X5
section
set_option maxRecDepth 100000
variable {w : World} {p : Program} {loose : List Str} {mean : ExcName → Option Value} {mg mb : Str → Option Value} {gd : Option (List Code)} {cn : Str} {cs : Scope} {a : Addr} {ccd : Value} {cl : List (Str × Addr)} {outer : List Env} {A A₀ : Around} {base h₀ : Heap} {L : Addr} {m : Str → Option Value} {s : Shared} {E : Value → Shared → Prop} {news all : List (Addr × Obj)} {g : Obj → List (Addr × Obj)}

theorem fresh_of_fr {h h₀ : Heap} {L e : Addr} {m : Str → Option Value} (F : Fr h₀ L h m) (he : h.get? e = none) : h₀.get? e = none := by
  cases q : h₀.get? e with
  | none => rfl
  | some o => rw [F.keep _ _ q] at he; cases he
theorem ne_of_fr {h h₀ : Heap} {L e : Addr} {m : Str → Option Value} (F : Fr h₀ L h m) (he : h.get? e = none) : e ≠ L := by
  rintro rfl
  obtain ⟨o, _, _, ho, _⟩ := F.ns
  rw [ho] at he; cases he
/-- one object of the ledger has changed, all that stood else stands -/
theorem hole_to {e : Addr} {o o' : Obj} {h' : Heap} (F : Fr h₀ L s.heap m) (N : News h₀ L s.heap all) (U : UpdF e o all g) (hk : ∀ b ob, b ≠ e → s.heap.get? b = some ob → h'.get? b = some ob) (he : h'.get? e = some o') :
    Fr h₀ L h' m ∧ News h₀ L h' (g o') := by
  obtain ⟨pre, post, rfl, hg, h1, h2⟩ := U.split
  have D := N (e, o) (by simp)
  refine ⟨⟨F.ns.at' fun ob q => hk L ob (Ne.symm D.2.1) q, fun b ob q => hk b ob (fun z => by rw [z, D.2.2] at q; cases q) (F.keep b ob q), F.above⟩, ?_⟩
  rw [hg]
  intro q hq
  rcases List.mem_append.mp hq with hq | hq
  · have z := N q (List.mem_append_left _ hq); exact ⟨hk _ _ (h1 q hq) z.1, z.2⟩
  · rcases List.mem_cons.mp hq with rfl | hq
    · exact ⟨he, D.2⟩
    · have z := N q (List.mem_append_right _ (.tail _ hq)); exact ⟨hk _ _ (h2 q hq) z.1, z.2⟩

theorem init_K {e t₀ : Addr} {v : Value} {Q : Value → Shared → Prop} (F : Fr h₀ L s.heap m) (X₀ : (hd.heap_39 w.params).In h₀) (N : News h₀ L s.heap all) (U : UpdF e (excO 44 t₀) all g)
    (h : ∀ h' t', Fr h₀ L h' m → News h₀ L h' ((t', tupO [v]) :: g (excO 44 t')) → (∀ q ∈ all, q.1 < t') → Q .none { s with heap := h' }) :
    wpAny (model PySem.Challenge.rw_xm0649_01.row.prog w) A (call (.builtin "Exception.__init__") [.ref e, v]) Q E s := by
  have X := X₀.keeps F.keep
  obtain ⟨_, _, _, _, _, _, _, _, _, _, _, _, _, hC⟩ := k44 X rfl
  have he : s.heap.get? e = some (excO 44 t₀) := by
    obtain ⟨pre, post, rfl, _⟩ := U.split
    exact (N (e, excO 44 t₀) (by simp)).1
  obtain ⟨hh, gg, dr, t, os⟩ := s
  refine init_call2 PySem.F.excBase_Exception hC he (by simp) fun h' t' k1 k2 k3 k4 k5 => ?_
  obtain ⟨F', N'⟩ := hole_to F N U k1 k2
  refine h h' t' F' (fun q hq => ?_) (fun q hq => Nat.lt_of_lt_of_le (Heap.lt_size (N q hq).1) k5)
  rcases List.mem_cons.mp hq with rfl | hq
  · exact ⟨k4, ne_of_fr F k3, fresh_of_fr F k3⟩
  · exact N' q hq

theorem store_K {e t₀ : Addr} {v : Value} {Q : Unit → Shared → Prop} (F : Fr h₀ L s.heap m) (X₀ : (hd.heap_39 w.params).In h₀) (N : News h₀ L s.heap all) (U : UpdF e (excO 44 t₀) all g)
    (h : ∀ h' tk' dx, Fr h₀ L h' m → News h₀ L h' (g { excO 44 t₀ with dict := some dx }) → Q () { s with heap := h', toks := tk' }) :
    wpAny (model PySem.Challenge.rw_xm0649_01.row.prog w) A (setAttr (.ref e) "message" v) Q E s := by
  have X := X₀.keeps F.keep
  obtain ⟨_, _, _, _, _, _, _, _, _, _, _, _, _, hC⟩ := k44 X rfl
  obtain ⟨_, _, _, _, _, _, _, _, _, _, _, _, _, hD⟩ := k31 X rfl
  obtain ⟨mN, hN, n1, n2, n3⟩ := ns43 X rfl
  obtain ⟨mD, hND, d1, d2, d3⟩ := ns30 X rfl
  have he : s.heap.get? e = some (excO 44 t₀) := by
    obtain ⟨pre, post, rfl, _⟩ := U.split
    exact (N (e, excO 44 t₀) (by simp)).1
  obtain ⟨hh, gg, dr, t, os⟩ := s
  refine store2 (o := excO 44 t₀) PySem.F.store_Exception hC hN n2 n3 hD hND d2 d3 (by rw [typeLookup_type, builtinLookup_eq_fast]; kernel_rfl) he rfl rfl nofun fun h' tk' dx k1 k2 k3 => ?_
  obtain ⟨F', N'⟩ := hole_to F N U k1 k2
  exact h h' tk' dx F' N'

theorem fault_end {hh h' g' h1 : Heap} {L' e t' : Addr} {m' : Str → Option Value} {v : Value} {oe oe' : Obj} (k1 : ∀ b o, hh.get? b = some o → h'.get? b = some o) (k2 : hh.get? e = none)
    (G : GSub h' g' (List.map (fun x => x.1) [(e, oe')])) (F : Fr g' L' h1 m') (N : News g' L' h1 [(t', tupO [v]), (e, oe)]) (hte : e < t') :
    (∀ b o, hh.get? b = some o → h1.get? b = some o) ∧ hh.get? t' = none ∧ h1.get? e = some oe ∧ h1.get? t' = some (tupO [v]) := by
  have up : ∀ b o, hh.get? b = some o → g'.get? b = some o := fun b o q => G b o (k1 b o q) fun hm => by
    have e1 : b = e := by simpa using hm
    rw [e1, k2] at q; cases q
  refine ⟨fun b o q => F.keep b o (up b o q), ?_, (N (e, oe) (by simp)).1, (N (t', tupO [v]) (by simp)).1⟩
  cases q : hh.get? t' with
  | none => rfl
  | some o => have := up _ _ q; rw [(N (t', tupO [v]) (by simp)).2.2] at this; cases this
theorem type_Exception : typeOf (.type "Exception") = pure (.type "type") := by kernel_rfl
set_option maxHeartbeats 4000000 in
theorem fault_spec {msg : Str} {tk : Tok} {Q : Value → Shared → Prop} (B : Below A₀ base outer h₀) (F : Fr h₀ L s.heap m) (X : (hd.heap_39 w.params).In h₀) (T : Top p loose mean mg mb h₀) (hk : cs.kind = .function)
    (ret : ∀ e t dx h' tk', Fr h₀ L h' m → (∀ b o, s.heap.get? b = some o → h'.get? b = some o) → s.heap.get? e = none → s.heap.get? t = none → h'.get? e = some { excO 44 t with dict := some dx } → h'.get? t = some (tupO [.str msg tk]) → Q (.ref e) { s with heap := h', toks := tk' }) :
    wpAny (model PySem.Challenge.rw_xm0649_01.row.prog w) (ktrTop 395 3900 gd cn cs L a ccd cl outer) (call (.ref 44) [.str msg tk]) Q E s := by
  w_top off
  k_with_none
  k_with "getMethod type:Exception" => ((k_here; refine' method_type ?F ?X ?m (by decide +kernel) ?e ?h ?_; (case F => k_asm); (case X => k_asm); (case m => exact type_Exception); (case e => k_dflt k_is); (case h => k_handed)))
  k_with "call builtin:Exception.__init__" => ((k_here; k_dflt (refine' init_K ?F ?X ?N ?U ?_; (case F => k_asm); (case X => k_asm); (case N => k_asm); (case U => k_updF); k_whole; intro h' t' F' N' l1; (try k_lt l1); (try dsimp only at N'); (try k_sweep))))
  k_with "setAttr ref" => ((k_here; k_dflt (refine' store_K ?F ?X ?N ?U ?_; (case F => k_asm); (case X => k_asm); (case N => k_asm); (case U => k_updF); k_whole; intro h' tk' dx' F' N'; (try dsimp only at N'); (try k_sweep))))
  revert X; k_fill; intro X
  have Xs := X.keeps F.keep
  obtain ⟨_, _, _, _, _, _, _, _, _, _, _, _, _, hC⟩ := k44 Xs rfl
  obtain ⟨_, _, _, _, _, _, _, _, _, _, _, _, _, hD⟩ := k31 Xs rfl
  obtain ⟨mN, hN, n1, n2, n3⟩ := ns43 Xs rfl
  obtain ⟨mD, hND, d1, d2, d3⟩ := ns30 Xs rfl
  obtain ⟨oI, hI, hIc⟩ := k28 Xs rfl
  obtain ⟨hh, gg, dr, t, os⟩ := s
  dsimp only at *
  refine call_exc2 PySem.F.excBase_Exception hC hN n1 hD hND d1 hI hIc (fun h' e hm => ?_) (by rw [sizeLine_eq]; simp)
  obtain ⟨k1, k2, t₀, k3, k4, k5⟩ := hm
  have hne : e ≠ t₀ := fun q => by rw [q] at k3; rw [k3] at k5; cases k5
  have F' : Fr h₀ L h' m := F.keeps k1
  have N' : News h₀ L h' [(e, excO 44 t₀)] := fun q hq => by
    rw [List.mem_singleton.mp hq]; exact ⟨k3, ne_of_fr F k2, fresh_of_fr F k2⟩
  clear hC hD hI hIc n1 n2 n3 d1 d2 d3
  refine wpAny_call ?_
  k_dflt ((refine' code_defG ?k1 ?k2 ?k3 ?k4 ?k5 ?kA ?kF ?kK ?k6 ?k7 ?k8 ?k9 ?kB ?_ ?c2 ?c3 ?c4 ?c5; (case kA => exact rfl); (case kF => exact rfl); (case kK => assumption); (case k1 => k_asm); (case k2 => k_asm); (case k3 => k_asm); (case k4 => k_asm); (case k5 => k_asm); (case k6 => k_is); (case k7 => k_is); (case k8 => k_room); (case k9 => exact BindsTo.of_eq rfl); (case c5 => decide); (case kB => exact locs rfl); (case c2 => exact rfl); (case c3 => exact rfl); (case c4 => exact rfl); k_whole; intro g' L' h' FG' F' N' B' X' T' kG'; (try dsimp only); (try k_lift B'); (try k_fold)))
  k_steps
  obtain ⟨a1, a2, a3, a4⟩ := fault_end k1 k2 (by assumption) (by assumption) (by assumption) (by assumption)
  exact ret _ _ _ _ _ (by assumption) a1 k2 a2 a3 a4
end
-- X6
section
set_option maxRecDepth 100000
variable {w : World} {p : Program} {loose : List Str} {mean : ExcName → Option Value} {mg mb : Str → Option Value} {gd : Option (List Code)} {cn : Str} {cs : Scope} {a : Addr} {ccd : Value} {cl : List (Str × Addr)} {outer : List Env} {A A₀ : Around} {base h₀ : Heap} {L : Addr} {m : Str → Option Value} {s : Shared} {E : Value → Shared → Prop} {news all : List (Addr × Obj)} {g : Obj → List (Addr × Obj)}

/-- what has come back from the making is raised -/
def RaisableF (E : Value → Shared → Prop) (v : Value) (s₁ : Shared) : Prop :=
  ∃ (e t dx : Addr) (nm q : Str) (bs : List Value) (sn : List Str) (sub : List Value) (ab : Bool) (col : Option Bool) (dd : Option Addr) (k0 k1 k2 k3 k5 : Option Value),
    v = .ref e ∧ s₁.heap.get? 44 = some (excClassObj nm q 44 43 bs (.ref 31 :: bmE) true sn sub ab col dd k0 k1 k2 k3 k5 "Exception.__new__") ∧ s₁.heap.get? e = some { excO 44 t with dict := some dx } ∧ E (.ref e) s₁
theorem raiseStmt_F {M : Model} {env : Env} {x : Sem Value} {Q : Flow → Shared → Prop} (hh : A.handled = none) (h : wpAny M A x (RaisableF E) E s) :
    wpAny M A (raiseStmt env (some x) none) Q E s := by
  have hcB : (Value.ref 44 :: .ref 31 :: bmE).contains (.type "BaseException") = true := by decide
  unfold raiseStmt
  refine wpAny_bind (wpAny_mono h (fun v s₁ h₁ => ?_) fun _ _ x => x)
  obtain ⟨e, t, dx, _, _, _, _, _, _, _, _, _, _, _, _, _, rfl, hC, he, hE⟩ := h₁
  obtain ⟨hp, g, d, tk, os⟩ := s₁
  repeat (first | with_reducible refine wpAny_loadPart_at he ?_ | with_reducible refine wpAny_loadPart_at hC ?_ | (with_reducible refine wpAny_isSubtype_exc hC ?_; rw [hcB]) | wp_step)
  exact wpAny_raiseNew_none hh hE
theorem Raise_F {M : Model} {env : Env} {e : Expr} {pos : Pos} {Q : Flow → Shared → Prop} (hh : A.handled = none) (h : wpAny M A (eval e env) (RaisableF E) E s) :
    wpAny M A (exec (.Raise (some e) none pos) env) Q E s := by
  show wpAny M A (do standAt pos; raiseStmt env (some (do let v ← eval e env; standAt pos; pure v)) none) Q E s
  refine wpAny_bind (wpAny_standAt (raiseStmt_F hh ?_))
  exact wpAny_bind (wpAny_mono h (fun v s₁ h₁ => wpAny_bind (wpAny_standAt (wpAny_pure h₁))) fun _ _ x => x)

/-- made just now, nothing else changed -/
structure MadeF (h h' : Heap) (e : Addr) : Prop where
  keeps : ∀ b o, h.get? b = some o → h'.get? b = some o
  new : h.get? e = none
  there : ∃ t dx, h'.get? e = some { excO 44 t with dict := some dx }

theorem leaves_madeF {M : Model} {base h : Heap} {env : Env} {outer : List Env} {L e : Addr} {Q : Unit → Shared → Prop}
    (hfr : A.frames = some (env :: outer)) (hf : env.frame = some L) (hkb : base.StaysIn h) (hl : h.FunFrames base (env :: outer)) (hx : MadeF h s.heap e)
    (hQ : ∀ h' t, Heap.FlyingW base outer e (.ref 44) (.ref t) h' → s.heap.UpToSlots h' → Q () { s with heap := h' }) : wpAny M A (leaving env (.ref e)) Q E s := by
  obtain ⟨t, dx, he⟩ := hx.there
  have fresh : ∀ b, h.get? b = none → base.get? b = none := fun b hb => by
    cases hq : base.get? b with
    | none => rfl
    | some o' => have := hkb b o' hq; rw [hb] at this; cases this
  refine wpAny_leaving_firstW (a0 := .ref t) hfr (hl.of_keeps fun b o hb _ => ⟨o, hx.keeps b o hb, rfl⟩) hf he (fun b o hb => hx.keeps b o (hkb b o hb)) (fresh e hx.new) rfl rfl rfl fun h' hL => ?_
  obtain ⟨k1, ⟨_, _, k2⟩, k3, k4⟩ := hL
  exact hQ h' t ⟨k1, fresh e hx.new, k2, k3⟩ k4

/-- a TreeFault flies out over the frames l: what stood at h stands, frames up to their slots -/
def Thrown (l : List Env) (e : Addr) (h h' : Heap) : Prop :=
  ∃ B t, (∀ b o, h.get? b = some o → b ∉ l.filterMap (·.frame) → B.get? b = some o) ∧ Heap.FlyingW B l e (.ref 44) (.ref t) h' ∧ h.UpToSlots h'

theorem thrown_first {M : Model} {base g h h' : Heap} {env : Env} {outer : List Env} {L e : Addr} {m : Str → Option Value} {s' : Shared} {Q : Unit → Shared → Prop}
    (K : Below A base outer g) (F : Fr g L h m) (hf : env.frame = some L) (hk : env.scope.kind = .function) (hx : MadeF h s'.heap e) (G : ∀ b o, h'.get? b = some o → g.get? b = some o)
    (hQ : ∀ h₂, Thrown outer e h' h₂ → Q () { s' with heap := h₂ }) : wpAny M (A.deeper env) (leaving env (.ref e)) Q E s' := by
  have K' := pushX K F hf hk
  have hin : ∀ env' ∈ env :: outer, ∀ b, env'.frame = some b → b ∈ (env :: outer).filterMap (·.frame) := fun env' he b hb => List.mem_filterMap.mpr ⟨env', he, hb⟩
  refine leaves_madeF K'.stack hf (fun b o q => of_hideAll _ q) (funFrames_hide K'.frames hin) hx fun h₂ t x1 x2 => hQ h₂ ⟨_, t, fun b o q hb => ?_, x1, ?_⟩
  · have hg := G b o q
    refine hideAll_get _ (F.keep b o hg) fun hm => ?_
    obtain ⟨env', he, hb'⟩ := List.mem_filterMap.mp hm
    rcases List.mem_cons.mp he with rfl | he
    · rw [hf] at hb'
      have := Nat.lt_of_lt_of_le (Heap.lt_size hg) F.above
      rw [← Option.some.inj hb'] at this
      exact Nat.lt_irrefl _ this
    · exact hb (List.mem_filterMap.mpr ⟨env', he, hb'⟩)
  · exact (Heap.UpToSlots.of_keeps fun b o q => hx.keeps _ _ (F.keep _ _ (G b o q))).trans x2

theorem thrown_on {M : Model} {g h₁ h' : Heap} {base : Heap} {env : Env} {outer : List Env} {L e : Addr} {m : Str → Option Value} {s' : Shared} {Q : Unit → Shared → Prop}
    (K : Below A base outer g) (F : Fr g L h₁ m) (hf : env.frame = some L) (R : Thrown (env :: outer) e h₁ s'.heap) (G : ∀ b o, h'.get? b = some o → g.get? b = some o)
    (hQ : ∀ h₂, Thrown outer e h' h₂ → Q () { s' with heap := h₂ }) : wpAny M (A.deeper env) (leaving env (.ref e)) Q E s' := by
  obtain ⟨B, t, hB, hfl, hsm⟩ := R
  refine wpAny_leaves_onW (Around.frames_deeper K.stack) hf hfl fun h₂ x1 x2 => hQ h₂ ⟨B, t, fun b o q hb => hB b o (F.keep _ _ (G b o q)) fun hm => ?_, x1, ?_⟩
  · obtain ⟨env', he, hb'⟩ := List.mem_filterMap.mp hm
    rcases List.mem_cons.mp he with rfl | he
    · rw [hf] at hb'
      have := Nat.lt_of_lt_of_le (Heap.lt_size (G b o q)) F.above
      rw [← Option.some.inj hb'] at this
      exact Nat.lt_irrefl _ this
    · exact hb (List.mem_filterMap.mpr ⟨env', he, hb'⟩)
  · exact ((Heap.UpToSlots.of_keeps fun b o q => F.keep _ _ (G b o q)).trans hsm).trans x2
end
-- X7
section
set_option maxRecDepth 100000
variable {w : World} {p : Program} {loose : List Str} {mean : ExcName → Option Value} {mg mb : Str → Option Value} {gd : Option (List Code)} {cn : Str} {cs : Scope} {a : Addr} {ccd : Value} {cl : List (Str × Addr)} {outer : List Env} {A A₀ : Around} {base h₀ : Heap} {L : Addr} {m : Str → Option Value} {s : Shared} {Q E : Value → Shared → Prop} {news all : List (Addr × Obj)} {g : Obj → List (Addr × Obj)}
theorem fault_use {E' : Value → Shared → Prop} {msg : Str} {tk : Tok} {dp un : Nat} (B : Below A₀ base outer h₀) (F : Fr h₀ L s.heap m) (X : (hd.heap_39 w.params).In h₀) (T : Top p loose mean mg mb h₀) (hk : cs.kind = .function) (hd : dp ≤ 395) (hu : un ≤ 3900)
    (ret : ∀ e h' tk', MadeF s.heap h' e → E' (.ref e) { s with heap := h', toks := tk' }) :
    wpAny (model PySem.Challenge.rw_xm0649_01.row.prog w) (ktrTop dp un gd cn cs L a ccd cl outer) (call (.ref 44) [.str msg tk]) (RaisableF E') E s :=
  wpAny_room (fault_spec B F X T hk fun e t dx h' tk' F' k1 k2 k3 k4 k5 => by
    obtain ⟨_, _, _, _, _, _, _, _, _, _, _, _, _, hC⟩ := k44 (X.keeps F'.keep) rfl
    exact ⟨e, t, dx, _, _, _, _, _, _, _, _, _, _, _, _, _, rfl, hC, k4, ret e h' tk' ⟨k1, k2, t, dx, k4⟩⟩) hd hu
theorem sub_nil {H g : Heap} (G : GSub H g (List.map (fun x : Addr × Obj => x.1) [])) : ∀ b o, H.get? b = some o → g.get? b = some o := fun b o q => G b o q List.not_mem_nil
def badC (x : Str) : Bool := !(Builtin.Str.occurrences x (Str.ofString "--") 0 x.length 1).isEmpty || (Txt.slice x (some (-1)) none == Str.ofString "-")
def badI (x : Str) : Bool := !(Builtin.Str.occurrences x (Str.ofString "?>") 0 x.length 1).isEmpty
theorem badC_1 {x : Str} (h : (Builtin.Str.occurrences x (Str.ofString "--") 0 x.length 1).isEmpty = false) : badC x = true := by unfold badC; rw [h]; rfl
theorem badC_2 {x : Str} (h : (Txt.slice x (some (-1)) none == Str.ofString "-") = true) : badC x = true := by unfold badC; rw [h, Bool.or_true]
theorem badC_3 {x : Str} (h : (Builtin.Str.occurrences x (Str.ofString "--") 0 x.length 1).isEmpty = true) (h' : (Txt.slice x (some (-1)) none == Str.ofString "-") = false) : badC x = false := by unfold badC; rw [h, h']; rfl
theorem badI_1 {x : Str} (h : (Builtin.Str.occurrences x (Str.ofString "?>") 0 x.length 1).isEmpty = false) : badI x = true := by unfold badI; rw [h]; rfl
theorem badI_2 {x : Str} (h : (Builtin.Str.occurrences x (Str.ofString "?>") 0 x.length 1).isEmpty = true) : badI x = false := by unfold badI; rw [h]; rfl
def wroteC (x : Str) : Str := Str.ofString "<!--" ++ x ++ Str.ofString "-->"
def wroteI (x y : Str) : Str := Str.ofString "<?" ++ y ++ (if x = Str.ofString "" then Str.ofString "" else Str.ofString " " ++ x) ++ Str.ofString "?>"
theorem wroteI_1 {x y : Str} (h : (x != Str.ofString "") = true) : Str.ofString "<?" ++ y ++ (Str.ofString " " ++ x) ++ Str.ofString "?>" = wroteI x y := by
  unfold wroteI; rw [if_neg (by simpa using h)]
theorem wroteI_2 {x y : Str} (h : (x != Str.ofString "") = false) : Str.ofString "<?" ++ y ++ Str.ofString "" ++ Str.ofString "?>" = wroteI x y := by
  unfold wroteI; rw [if_pos (by simpa using h)]
theorem keep_nil {H g H' : Heap} {L' : Addr} {m' : Str → Option Value} (G : GSub H g (List.map (fun x : Addr × Obj => x.1) [])) (F : Fr g L' H' m') : ∀ b o, H.get? b = some o → H'.get? b = some o := fun b o e => F.keep b o (sub_nil G b o e)
set_option maxHeartbeats 4000000 in
theorem comment_spec {x : Str} {tx : Tok} (B : Below A₀ base outer h₀) (F : Fr h₀ L s.heap m) (X : (hd.heap_39 w.params).In h₀) (T : Top p loose mean mg mb h₀) (hk : cs.kind = .function) (hx : x.length ≤ 100)
    (good : ∀ t h' tk', badC x = false → Fr h₀ L h' m → (∀ b o, s.heap.get? b = some o → h'.get? b = some o) → Q (.str (wroteC x) t) { s with heap := h', toks := tk' })
    (bad : ∀ e h' tk', badC x = true → Thrown (envX cn cs L a ccd cl :: outer) e s.heap h' → E (.ref e) { s with heap := h', toks := tk' }) :
    wpAny (model PySem.Challenge.rw_xm0649_01.row.prog w) (ktrTop 390 3800 gd cn cs L a ccd cl outer) (call (.ref 60) [.str x tx]) Q E s := by
  w_top off
  k_with_none
  k_with "exec Raise some none" => ((k_here; k_dflt (refine Raise_F rfl ?_)))
  k_with "call ref" => ((k_here; k_dflt (refine' fault_use ?k1 ?k2 ?k3 ?k4 ?k5 ?k6 ?k7 ?_; (case k2 => k_asm); (case k1 => k_asm); (case k3 => k_asm); (case k4 => k_asm); (case k5 => exact rfl); (case k6 => exact Nat.le_of_ble_eq_true rfl); (case k7 => exact Nat.le_of_ble_eq_true rfl); k_whole; intro e' h' tk' M')))
  k_with "leaving ref" => ((k_here; k_dflt (refine' thrown_first ?k1 ?k2 ?k3 ?k4 ?k5 ?k6 ?_; (case k5 => assumption); (case k2 => k_asm); (case k1 => k_asm); (case k3 => exact rfl); (case k4 => exact rfl); (case k6 => exact sub_nil (by assumption)); k_whole; intro h' R')))
  revert X; k_fill; intro X
  have N : News h₀ L s.heap [] := News.nil
  refine wpAny_call ?_
  k_dflt ((refine' code_defG ?k1 ?k2 ?k3 ?k4 ?k5 ?kA ?kF ?kK ?k6 ?k7 ?k8 ?k9 ?kB ?_ ?c2 ?c3 ?c4 ?c5; (case kA => exact rfl); (case kF => exact rfl); (case kK => assumption); (case k1 => k_asm); (case k2 => k_asm); (case k3 => k_asm); (case k4 => k_asm); (case k5 => k_asm); (case k6 => k_is); (case k7 => k_is); (case k8 => k_room); (case k9 => exact BindsTo.of_eq rfl); (case c5 => decide); (case kB => exact locs rfl); (case c2 => exact rfl); (case c3 => exact rfl); (case c4 => exact rfl); k_whole; intro g' L' h' FG' F' N' B' X' T' kG'; (try dsimp only); (try k_lift B'); (try k_fold)))
  k_steps
  all_goals first
    | exact bad _ _ _ (badC_1 (by assumption)) (by assumption)
    | exact bad _ _ _ (badC_2 (by assumption)) (by assumption)
    | (refine' good _ _ _ (badC_3 (by assumption) (by assumption)) ?F ?K; (case F => k_asm); (case K => exact keep_nil (by assumption) (by with_reducible assumption)))
set_option maxHeartbeats 4000000 in
theorem instr_spec {x y : Str} {tx ty : Tok} (B : Below A₀ base outer h₀) (F : Fr h₀ L s.heap m) (X : (hd.heap_39 w.params).In h₀) (T : Top p loose mean mg mb h₀) (hk : cs.kind = .function) (hx : x.length ≤ 100) (hy : y.length ≤ 100)
    (good : ∀ t h' tk', badI x = false → Fr h₀ L h' m → (∀ b o, s.heap.get? b = some o → h'.get? b = some o) → Q (.str (wroteI x y) t) { s with heap := h', toks := tk' })
    (bad : ∀ e h' tk', badI x = true → Thrown (envX cn cs L a ccd cl :: outer) e s.heap h' → E (.ref e) { s with heap := h', toks := tk' }) :
    wpAny (model PySem.Challenge.rw_xm0649_01.row.prog w) (ktrTop 390 3800 gd cn cs L a ccd cl outer) (call (.ref 67) [.str y ty, .str x tx]) Q E s := by
  w_top off
  k_with_none
  k_with "exec Raise some none" => ((k_here; k_dflt (refine Raise_F rfl ?_)))
  k_with "call ref" => ((k_here; k_dflt (refine' fault_use ?k1 ?k2 ?k3 ?k4 ?k5 ?k6 ?k7 ?_; (case k2 => k_asm); (case k1 => k_asm); (case k3 => k_asm); (case k4 => k_asm); (case k5 => exact rfl); (case k6 => exact Nat.le_of_ble_eq_true rfl); (case k7 => exact Nat.le_of_ble_eq_true rfl); k_whole; intro e' h' tk' M')))
  k_with "leaving ref" => ((k_here; k_dflt (refine' thrown_first ?k1 ?k2 ?k3 ?k4 ?k5 ?k6 ?_; (case k5 => assumption); (case k2 => k_asm); (case k1 => k_asm); (case k3 => exact rfl); (case k4 => exact rfl); (case k6 => exact sub_nil (by assumption)); k_whole; intro h' R')))
  revert X; k_fill; intro X
  have N : News h₀ L s.heap [] := News.nil
  refine wpAny_call ?_
  k_dflt ((refine' code_defG ?k1 ?k2 ?k3 ?k4 ?k5 ?kA ?kF ?kK ?k6 ?k7 ?k8 ?k9 ?kB ?_ ?c2 ?c3 ?c4 ?c5; (case kA => exact rfl); (case kF => exact rfl); (case kK => assumption); (case k1 => k_asm); (case k2 => k_asm); (case k3 => k_asm); (case k4 => k_asm); (case k5 => k_asm); (case k6 => k_is); (case k7 => k_is); (case k8 => k_room); (case k9 => exact BindsTo.of_eq rfl); (case c5 => decide); (case kB => exact locs rfl); (case c2 => exact rfl); (case c3 => exact rfl); (case c4 => exact rfl); k_whole; intro g' L' h' FG' F' N' B' X' T' kG'; (try dsimp only); (try k_lift B'); (try k_fold)))
  k_steps
  all_goals first
    | exact bad _ _ _ (badI_1 (by assumption)) (by assumption)
    | (rw [wroteI_1 (by assumption)]; refine' good _ _ _ (badI_2 (by assumption)) ?F ?K; (case F => k_asm); (case K => exact keep_nil (by assumption) (by with_reducible assumption)))
    | (rw [wroteI_2 (by assumption)]; refine' good _ _ _ (badI_2 (by assumption)) ?F ?K; (case F => k_asm); (case K => exact keep_nil (by assumption) (by with_reducible assumption)))
end
-- X8
section
set_option maxRecDepth 100000
section
variable {prog : Program} {w : World} {A A₀ : Around} {s : Shared} {K : Frag} {L : Addr} {h₀ base : Heap} {m mg mb : Str → Option Value} {news : List (Addr × Obj)} {p : Program} {loose : List Str} {mean : ExcName → Option Value}
/-- entering a def with cells; the answer is told as it is -/
theorem enterR {env : Env} {outer : List Env} {R : Result → Shared → Prop} {name qual : Str} {params : Arguments} {body : List Stmt} {scope : Scope} {dV kV doc pm cdv ct oc : Value} {an od : Option Addr} {osl : Array (Option Value)} {f : Addr} {args : Args} {binds : List (Str × Value)}
    (B : Below A₀ base outer h₀) (F : Fr h₀ L s.heap m) (X₀ : K.In h₀) (N : News h₀ L s.heap news) (T : Top p loose mean mg mb h₀) (hA : A.frames = some (env :: outer)) (hf : env.frame = some L) (hke : env.scope.kind = .function)
    (ho : K.lookup f = some ⟨oc, od, .func (fnOf name qual params body scope dV kV doc pm an cdv ct), osl⟩) (hcd : codeIn K cdv qual = true) (hroom : A.depth < recursionLimit)
    (hbind : BindsTo s (fnOf name qual params body scope dV kV doc pm an cdv ct) args binds) (hkind : (binds.all fun y => scope.names.lookup y.1 == some .local || scope.names.lookup y.1 == some .cell) = true)
    (hnd : ((cellsFrom 0 scope.names []).map (·.1)).Nodup)
    (h : ∀ g L' h₁ tk cells, Fr h₀ L g m → Fr g L' h₁ (bindL (envOfC qual scope L' f cdv).kindOf binds fun _ => none) → News g L' h₁ (cells ++ news) →
      CellsAre (bindC (envOfC qual scope L' f cdv).kindOf binds fun _ => none) (cellsFrom (L' + 1) scope.names []) cells → Below A base (env :: outer) g → K.In g → Top p loose mean mg mb g → (∀ p ∈ news, p.1 < L') → GSub s.heap g (news.map (·.1)) →
      wpAny (model prog w) (A.deeper (envOfC qual scope L' f cdv)) (execs body (envOfC qual scope L' f cdv))
        (fun fl s' => R (.ok (.ret (match fl with | .ret v => v | _ => .none))) s')
        (fun e s' => wpAny (model prog w) (A.deeper (envOfC qual scope L' f cdv)) (leaving (envOfC qual scope L' f cdv) e) (fun _ s'' => R (.error e) s'') (fun e' s'' => R (.error e') s'') s')
        { s with heap := h₁, toks := tk })
    (hco : scope.isCoroutine = false) (hgen : scope.isGenerator = false) (hk : scope.kind = .function) : codeAny (model prog w) A (.call (.ref f) args) R s := by
  obtain ⟨FG, BG, st, lv⟩ := groundX (R := R) B F N hA hf hke
  refine codeAny_call_function hroom ((X₀.keeps F.keep) _ _ ho) rfl hco hgen rfl (codeRec_of (X₀.keeps F.keep) hcd) (hbind _ _ _ _ ?_)
  refine wpAny_newFunctionEnv_cells hk (kindsX hkind _) fun env' he s' x => ?_
  subst he
  refine ⟨(T.nolimit.keeps F.keep).keeps x.toInCall.keep, codeAny_func ?_⟩
  obtain ⟨h₁, tk, rfl, _⟩ := x.done
  have hk₁ := x.toInCall.keep
  obtain ⟨cells, NC, Y⟩ := Cl.news (h₀ := s.heap) (Nat.le_refl _) fun n c hm => ⟨x.cell n c (lookup_of_mem_nodup (cellsFrom_names scope.names 0 (s.heap.objs.size + 1) [] [] rfl ▸ hnd) hm), x.above n c hm⟩
  have N₁ : News (hideAll s.heap (news.map (·.1))) s.heap.objs.size h₁ (cells ++ news) := by
    intro q hq
    rcases List.mem_append.mp hq with hq | hq
    · refine ⟨(NC q hq).1, (NC q hq).2.1, ?_⟩
      cases e : (hideAll s.heap (news.map (·.1))).get? q.1 with
      | none => rfl
      | some o => exact absurd (of_hideAll _ e) (by rw [(NC q hq).2.2]; exact nofun)
    · exact ⟨hk₁ _ _ (N q hq).1, Nat.ne_of_lt (Heap.lt_size (N q hq).1), hideAll_none _ (List.mem_map_of_mem hq)⟩
  exact h _ s.heap.objs.size h₁ tk cells FG ⟨x.toInCall.ns, fun b o e => hk₁ b o (of_hideAll _ e), Nat.le_of_eq (hideAll_size _ _)⟩ N₁ Y BG (X₀.keeps st) (T.keeps st) (fun q hq => Heap.lt_size (N q hq).1) (fun b o e n => hideAll_get _ e n)
/-- entering a plain def; the answer is told as it is -/
theorem enterT {env : Env} {outer : List Env} {R : Result → Shared → Prop} {name qual : Str} {params : Arguments} {body : List Stmt} {scope : Scope} {dV kV doc pm cdv ct oc : Value} {an od : Option Addr} {osl : Array (Option Value)} {f : Addr} {args : Args} {binds : List (Str × Value)}
    (B : Below A₀ base outer h₀) (F : Fr h₀ L s.heap m) (X₀ : K.In h₀) (N : News h₀ L s.heap news) (T : Top p loose mean mg mb h₀) (hA : A.frames = some (env :: outer)) (hf : env.frame = some L) (hke : env.scope.kind = .function)
    (ho : K.lookup f = some ⟨oc, od, .func (fnOf name qual params body scope dV kV doc pm an cdv ct), osl⟩) (hcd : codeIn K cdv qual = true) (hroom : A.depth < recursionLimit)
    (hbind : BindsTo s (fnOf name qual params body scope dV kV doc pm an cdv ct) args binds) (hloc : ∀ y ∈ binds, scope.names.lookup y.1 = some .local)
    (h : ∀ g L' h₁, Fr h₀ L g m → Fr g L' h₁ (fun y => binds.reverse.lookup y) → News g L' h₁ news → Below A base (env :: outer) g → K.In g → Top p loose mean mg mb g → GSub s.heap g (news.map (·.1)) →
      wpAny (model prog w) (A.deeper (envOf qual scope L' f cdv)) (execs body (envOf qual scope L' f cdv))
        (fun fl s' => R (.ok (.ret (match fl with | .ret v => v | _ => .none))) s')
        (fun e s' => wpAny (model prog w) (A.deeper (envOf qual scope L' f cdv)) (leaving (envOf qual scope L' f cdv) e) (fun _ s'' => R (.error e) s'') (fun e' s'' => R (.error e') s'') s')
        { s with heap := h₁, toks := s.toks + binds.length })
    (hco : scope.isCoroutine = false) (hgen : scope.isGenerator = false) (hk : scope.kind = .function)
    (hcell : ∀ x ∈ scope.names, x.2 ≠ .cell) : codeAny (model prog w) A (.call (.ref f) args) R s := by
  obtain ⟨FG, BG, st, lv⟩ := groundX (R := R) B F N hA hf hke
  refine codeAny_call_def (fd := fnX name qual params body scope [] dV kV doc pm an cdv ct) (body := body) (binds := binds) hroom ((X₀.keeps F.keep) _ _ ho) rfl (T.nolimit.keeps F.keep) (codeRec_of (X₀.keeps F.keep) hcd) rfl hbind hcell hloc (fun h₁ hns hk₁ => ?_) hco hgen hk
  exact h _ s.heap.objs.size h₁ FG ⟨hns, fun b o e => hk₁ b o (of_hideAll _ e), Nat.le_of_eq (hideAll_size _ _)⟩
    (fun q hq => ⟨hk₁ _ _ (N q hq).1, Nat.ne_of_lt (Heap.lt_size (N q hq).1), hideAll_none _ (List.mem_map_of_mem hq)⟩) BG (X₀.keeps st) (T.keeps st) (fun b o e n => hideAll_get _ e n)
end

section
variable {w : World} {p : Program} {loose : List Str} {mean : ExcName → Option Value} {mg mb : Str → Option Value} {A A₀ : Around} {base h₀ : Heap} {L : Addr} {m : Str → Option Value} {s : Shared} {E : Value → Shared → Prop} {news all : List (Addr × Obj)}
/-- as Thrown, the frames that have been left told apart -/
def Flown (l : List Env) (fr : List Addr) (e : Addr) (h h' : Heap) : Prop :=
  ∃ B t, (∀ b o, h.get? b = some o → b ∉ fr → B.get? b = some o) ∧ Heap.FlyingW B l e (.ref 44) (.ref t) h' ∧ h.UpToSlots h'
theorem Thrown.pop {M : Model} {base g h₁ : Heap} {env : Env} {outer : List Env} {L e : Addr} {m : Str → Option Value} {s' : Shared} {Q : Unit → Shared → Prop}
    (K : Below A base outer g) (_F : Fr g L h₁ m) (hf : env.frame = some L) (R : Thrown (env :: outer) e h₁ s'.heap)
    (hQ : ∀ h₂, Flown outer ((env :: outer).filterMap (·.frame)) e h₁ h₂ → Q () { s' with heap := h₂ }) : wpAny M (A.deeper env) (leaving env (.ref e)) Q E s' := by
  obtain ⟨B, t, hB, hfl, hsm⟩ := R
  exact wpAny_leaves_onW (Around.frames_deeper K.stack) hf hfl fun h₂ x1 x2 => hQ h₂ ⟨B, t, hB, x1, hsm.trans x2⟩

/-- the frame's own except clause takes the TreeFault; the caller's ground is laid anew -/
theorem caught_F {env₁ env₂ : Env} {cn : Str} {cs : Scope} {ca : Addr} {ccd : Value} {Ll Lt Lw e : Addr} {fr : List Addr} {gl gt gw hl : Heap} {ml mt mw : Str → Option Value} {s' : Shared} {b₀ : Stmt} {suite : List Stmt} {x : Str} {np pos : Pos} {rest : List ExceptHandler} {Q : Flow → Shared → Prop} {KF : Frag} {Aw : Around}
    (R : Flown [envOf cn cs Lt ca ccd, env₁, env₂] fr e hl s'.heap) (hfr : ∀ b ∈ fr, b = Ll ∨ b = Lt ∨ b = Lw ∨ b = L) (Fl : Fr gl Ll hl ml) (Nl : News gl Ll hl all) (FGl : Fr gt Lt gl mt) (FGt : Fr gw Lw gt mw) (FGw : Fr h₀ L gw m) (Kt : Below A₀ h₀ [env₁, env₂] gt) (Kw : Below Aw h₀ [env₂] gw)
    (hf₂ : env₂.frame = some L) (X : KF.In h₀) (XK : ∀ {h : Heap}, KF.In h → ∃ nm q bs sn sub ab col dd k0 k1 k2 k3 k5, h.get? 44 = some (excClassObj nm q 44 43 bs (.ref 31 :: bmE) true sn sub ab col dd k0 k1 k2 k3 k5 "Exception.__new__"))
    (T : Top p loose mean mg mb h₀) (ex : nsIn KF mainGlobals x = some (some (.ref 44)))
    (k : ∀ g' h', Below Aw h₀ [env₂] g' → Fr g' Lw h' mw → KF.In g' → Top p loose mean mg mb g' → News g' Lw h' all → Fr h₀ L g' m → (∀ b o, gw.get? b = some o → b ≠ L → g'.get? b = some o) →
      wpAny (model PySem.Challenge.rw_xm0649_01.row.prog w) ((A₀.deeper (envOf cn cs Lt ca ccd)).mark (some (.ref e))) (execs (b₀ :: suite) (envOf cn cs Lt ca ccd)) Q E { s' with heap := h' })
    (hk : cs.kind = .function := by rfl) (hx : (envOf cn cs Lt ca ccd).kindOf x = some .globalImplicit := by rfl) (hd : (x == ("__debug__" : Str)) = false := by decide)
    (hE : PassesOwnAt (model PySem.Challenge.rw_xm0649_01.row.prog w) ((A₀.deeper (envOf cn cs Lt ca ccd)).mark (some (.ref e))) (A₀.deeper (envOf cn cs Lt ca ccd)) (envOf cn cs Lt ca ccd) E := by passes_own) :
    wpAny (model PySem.Challenge.rw_xm0649_01.row.prog w) (A₀.deeper (envOf cn cs Lt ca ccd)) (noteFrame (.ref e) (envOf cn cs Lt ca ccd))
      (fun _ s₂ => wpAny (model PySem.Challenge.rw_xm0649_01.row.prog w) (A₀.deeper (envOf cn cs Lt ca ccd)) (setFlight (.ref e) none) (fun _ s₃ =>
        wpAny (model PySem.Challenge.rw_xm0649_01.row.prog w) (A₀.deeper (envOf cn cs Lt ca ccd)) (handleBy (.ref e) (envOf cn cs Lt ca ccd) (.ExceptHandler (some (.Name x np)) none (b₀ :: suite) pos :: rest)) Q E s₃) E s₂) E s' := by
  obtain ⟨B, t, hB, hfl, hsm⟩ := R
  have hnL : ∀ b o, h₀.get? b = some o → b ≠ L ∧ b ≠ Lw ∧ b ≠ Lt ∧ b ≠ Ll := fun b o q => by
    have h1 := Heap.lt_size q
    have h2 := Heap.lt_size (FGw.keep b o q)
    have h3 := Heap.lt_size (FGt.keep b o (FGw.keep b o q))
    have h4 := Heap.lt_size (FGl.keep b o (FGt.keep b o (FGw.keep b o q)))
    exact ⟨Nat.ne_of_lt (Nat.lt_of_lt_of_le h1 FGw.above), Nat.ne_of_lt (Nat.lt_of_lt_of_le h2 FGt.above), Nat.ne_of_lt (Nat.lt_of_lt_of_le h3 FGl.above), Nat.ne_of_lt (Nat.lt_of_lt_of_le h4 Fl.above)⟩
  have up₀ : ∀ b o, gw.get? b = some o → hl.get? b = some o := fun b o q => Fl.keep _ _ (FGl.keep _ _ (FGt.keep _ _ q))
  have hbB : ∀ b o, h₀.get? b = some o → B.get? b = some o := fun b o q => hB b o (up₀ b o (FGw.keep b o q)) fun hm => by
    obtain ⟨n1, n2, n3, n4⟩ := hnL b o q
    rcases hfr b hm with z | z | z | z
    · exact n4 z
    · exact n3 z
    · exact n2 z
    · exact n1 z
  refine wpAny_looks_onW (Around.frames_deeper Kt.stack) rfl hfl fun h₄ hheld₄ hsm₄ => ?_
  refine wpAny_landsW hheld₄ fun h₅ hheld hsm₅' => ?_
  have hsm₅ := hsm₄.trans hsm₅'
  have st₅ : h₀.StaysIn h₅ := fun b o q => hheld.1 b o (hbB b o q)
  obtain ⟨ob, hob, hobc⟩ := hheld.there
  have hglob : h₅.Ns mainGlobals mg := T.g.keeps st₅
  refine wpAny_handleBy_cons (codeAny_handlers_test (Name_function_global hk hx (loadGlobal_global (env := envOf cn cs Lt ca ccd) hglob (mg_of X T.g ex) ?_) hd)) (by intro q; cases q)
  obtain ⟨_, _, _, _, _, _, _, _, _, _, _, _, _, hC⟩ := XK (X.keeps st₅)
  obtain ⟨hp', gg, dr, tk, os⟩ := s'
  refine wpAny_excMatches_sub_self hC hob hobc (by decide) (codeAny_handlers_suite ?_)
  refine lands_againW hheld fun h₆ hfl₆ hsm₆ => ?_
  have sm := (hsm.trans hsm₅).trans hsm₆
  have gLw : gw.get? L = none → False := fun q => by obtain ⟨o, _, _, ho, _⟩ := FGw.ns; rw [q] at ho; cases ho
  obtain ⟨oL, esL, epL, hoL, hdL, hkL, hfL⟩ := FGw.ns
  obtain ⟨sl, hsl⟩ := sm L oL (up₀ L oL hoL) (fun vs q => by rw [hdL] at q; cases q)
  have hfree : ({ oL with slots := sl } : Obj).isFreed = false := by
    obtain ⟨c, d, dt, s0⟩ := oL
    dsimp only at hdL
    subst hdL
    rfl
  have keepW : ∀ b o, gw.get? b = some o → b ≠ L → b ≠ Lw → h₆.get? b = some o := fun b o q n1 n2 => by
    refine hfl₆.1 b o (hB b o (up₀ b o q) fun hm => ?_)
    have h3 := Heap.lt_size (FGt.keep b o q)
    have h4 := Heap.lt_size (FGl.keep b o (FGt.keep b o q))
    rcases hfr b hm with z | z | z | z
    · exact Nat.ne_of_lt (Nat.lt_of_lt_of_le h4 Fl.above) z
    · exact Nat.ne_of_lt (Nat.lt_of_lt_of_le h3 FGl.above) z
    · exact n2 z
    · exact n1 z
  have g'size : (gw.update L fun _ => { oL with slots := sl }).objs.size = gw.objs.size := Heap.size_after_update ..
  have g'ne : ∀ b, b ≠ L → (gw.update L fun _ => { oL with slots := sl }).get? b = gw.get? b := fun b hb => Heap.get?_update_ne _ _ _ _ hb
  have g'L : (gw.update L fun _ => { oL with slots := sl }).get? L = some { oL with slots := sl } := Heap.get?_update_self _ hoL hfree
  have stw : ∀ b o, h₀.get? b = some o → (gw.update L fun _ => { oL with slots := sl }).get? b = some o := fun b o q => by rw [g'ne b (hnL b o q).1]; exact FGw.keep b o q
  refine wpAny_passesOwnAt hE (k (gw.update L fun _ => { oL with slots := sl }) h₆ ?_ ?_ (X.keeps stw) (T.keeps stw) ?_ ?_ ?_)
  · refine ⟨Kw.stack, stw, ?_⟩
    obtain ⟨hk2, ⟨L2, o2, hf2, hn2, ho2, hd2⟩, _⟩ := Kw.frames
    rw [hf₂] at hf2
    have hf2' := Option.some.inj hf2
    subst hf2'
    exact ⟨hk2, ⟨L, _, hf₂, hn2, g'L, fun vs q => by dsimp only at q; rw [hdL] at q; cases q⟩, trivial⟩
  · refine ⟨sm.ns (FGt.ns.keeps fun b o q => Fl.keep _ _ (FGl.keep _ _ q)), fun b o q => ?_, by rw [g'size]; exact FGt.above⟩
    by_cases hb : b = L
    · subst hb; rw [g'L] at q; cases q; exact hsl
    · rw [g'ne b hb] at q
      exact keepW b o q hb (Nat.ne_of_lt (Nat.lt_of_lt_of_le (Heap.lt_size q) FGt.above))
  · intro q hq
    obtain ⟨n1, n2, n3⟩ := Nl q hq
    have inl : ∀ b o, gl.get? b = some o → q.1 ≠ b := fun b o hb z => by rw [z, hb] at n3; cases n3
    have nL : q.1 ≠ L := inl L oL (FGl.keep _ _ (FGt.keep _ _ hoL))
    obtain ⟨ow, _, _, how, _⟩ := FGt.ns
    have nLw : q.1 ≠ Lw := inl Lw ow (FGl.keep _ _ how)
    obtain ⟨ot, _, _, hot, _⟩ := FGl.ns
    have nLt : q.1 ≠ Lt := inl Lt ot hot
    refine ⟨hfl₆.1 _ _ (hB _ _ n1 fun hm => ?_), nLw, ?_⟩
    · rcases hfr _ hm with z | z | z | z
      · exact n2 z
      · exact nLt z
      · exact nLw z
      · exact nL z
    · rw [g'ne _ nL]
      cases z : gw.get? q.1 with
      | none => rfl
      | some o => exact absurd rfl (inl q.1 o (FGl.keep _ _ (FGt.keep _ _ z)))
  · exact ⟨⟨_, esL, epL, g'L, hdL, hkL, hfL⟩, stw, FGw.above⟩
  · intro b o q hb; rw [g'ne b hb]; exact q
end
end
-- T4c
section
variable {w : World} {prog : Program} {A : Around} {h₀ : Heap} {L : Addr} {m : Str → Option Value} {s : Shared} {E : Value → Shared → Prop} {news all : List (Addr × Obj)}
theorem join_le (sep : Str) (ys : List Str) : (Txt.join sep ys).length ≤ (ys.map (·.length)).sum + ys.length * sep.length := by
  unfold Txt.join
  rw [StrLaws.glued_eq_join]
  induction ys with
  | nil => simp [Str.join]; rfl
  | cons a r ih =>
    cases r with
    | nil => simp [Str.join]
    | cons b r =>
      have e : (Str.join sep (a :: b :: r)).length = a.length + sep.length + (Str.join sep (b :: r)).length := by
        show (a ++ sep ++ Str.join sep (b :: r)).cps.size = _
        show ((a.cps ++ sep.cps) ++ (Str.join sep (b :: r)).cps).size = _
        rw [Array.size_append, Array.size_append]; rfl
      rw [e]
      simp only [List.map_cons, List.sum_cons, List.length_cons] at ih ⊢
      rw [Nat.succ_mul] 
      omega
theorem join_lst {D : Addr} {n : Nat} {items : Array Value} {ys : List Str} {x : Str} {t : Tok} {Q : Value → Shared → Prop} (N : News h₀ L s.heap all) (hm : (D, W.listOf items n) ∈ all) (hi : StrsAre items.toList ys) (hsep : x.length ≤ 16)
    (hw : (ys.map (·.length)).sum + ys.length ≤ 1048576) (h : ∀ t' k, (Txt.join x ys).length ≤ (ys.map (·.length)).sum + ys.length * x.length → Q (.str (Txt.join x ys) t') { s with toks := k }) : wpAny (model prog w) A (call (.builtin "str.join") [.str x t, .ref D]) Q E s :=
  join_listW (items := items) ⟨_, (N _ hm).1, rfl, _, rfl⟩ hi hsep hw fun t' k => h t' k (join_le _ _)
theorem cat_cps (a b : Str) : (a ++ b).cps = a.cps ++ b.cps := rfl
theorem str_ext {a b : Str} (h : a.cps = b.cps) : a = b := by cases a; cases b; cases h; rfl
theorem join_C (x : Str) : Txt.join (Str.ofString "") [Str.ofString "<", Str.ofString "!", Str.ofString "--", x, Str.ofString "--", Str.ofString ">"] = wroteC x := by
  unfold wroteC Txt.join
  rw [StrLaws.glued_eq_join]
  apply str_ext
  simp only [Str.join, cat_cps, show Str.ofString "" = ⟨#[]⟩ from by decide +kernel, show Str.ofString "<" = ⟨#[60]⟩ from by decide +kernel, show Str.ofString "!" = ⟨#[33]⟩ from by decide +kernel, show Str.ofString "--" = ⟨#[45,45]⟩ from by decide +kernel, show Str.ofString ">" = ⟨#[62]⟩ from by decide +kernel, show Str.ofString "<!--" = ⟨#[60,33,45,45]⟩ from by decide +kernel, show Str.ofString "-->" = ⟨#[45,45,62]⟩ from by decide +kernel]
  apply Array.toList_inj.mp
  simp
theorem join_I1 (y : Str) : Str.ofString "<?" ++ Txt.join (Str.ofString " ") [y] ++ Str.ofString "?>" = wroteI (Str.ofString "") y := by
  unfold wroteI Txt.join
  rw [StrLaws.glued_eq_join, if_pos rfl]
  apply str_ext
  simp only [Str.join, cat_cps, show Str.ofString "" = ⟨#[]⟩ from by decide +kernel, Array.append_empty]
theorem join_I2 (x y : Str) (h : x ≠ Str.ofString "") : Str.ofString "<?" ++ Txt.join (Str.ofString " ") [y, x] ++ Str.ofString "?>" = wroteI x y := by
  unfold wroteI Txt.join
  rw [StrLaws.glued_eq_join, if_neg h]
  apply str_ext
  simp only [Str.join, cat_cps, Array.append_assoc]
theorem item_nat {x : Str} {k : Nat} (h : k < x.length) : Txt.item x (k : Int) = ⟨#[x.cps.getD k 0]⟩ :=
  beq_iff_eq.mp (item_closes (i := (k : Int)) ⟨by omega, by omega⟩)
theorem one_inj {a b : Nat} : ((⟨#[a]⟩ : Str) = ⟨#[b]⟩) ↔ a = b := ⟨fun h => by injection h with h; injection h with h; injection h, fun h => by rw [h]⟩
theorem law_last (x : Str) : (Txt.slice x (some (-1)) none == Str.ofString "-") = !decide ((List.range x.length).filter (lastDash x) = []) := by
  rw [show Str.ofString "-" = ⟨#[45]⟩ from by decide +kernel]
  by_cases h0 : x.length = 0
  · have e : x = ⟨#[]⟩ := by
      cases x with | mk c => exact congrArg Str.mk (Array.eq_empty_of_size_eq_zero h0)
    subst e; decide +kernel
  · have e1 : Txt.slice x (some (-1)) none = Txt.slice x (some ((x.length : Int) - 1)) none := by
      unfold Txt.slice
      have : PySem.Builtin.Str.strSliceIndices (some (-1)) none 1 x.length = PySem.Builtin.Str.strSliceIndices (some ((x.length : Int) - 1)) none 1 x.length := by
        have a1 : ((-1 : Int) < 0) := by decide
        have a2 : ¬ ((x.length : Int) - 1 < 0) := by omega
        have a3 : (1 : Int) > 0 := by decide
        simp only [PySem.Builtin.Str.strSliceIndices, a1, a2, a3, if_true, if_false]
        rw [show (-1 : Int) + (x.length : Int) = (x.length : Int) - 1 from by omega]
      rw [this]
    rw [e1, slice_from_eq (b := (x.length : Int)) (by omega) (by omega) rfl]
    have e2 : ((x.length : Int) - 1).toNat = x.length - 1 := by omega
    have e3 : ((x.length : Int) - ((x.length : Int) - 1)).toNat = 1 := by omega
    rw [e2, e3]
    have hlt : x.length - 1 < x.cps.toList.length := by rw [Array.length_toList]; show _ < x.length; omega
    have e4 : (x.cps.toList.drop (x.length - 1)).take 1 = [x.cps.getD (x.length - 1) 0] := by
      rw [List.drop_eq_getElem_cons hlt]
      have : x.length - 1 < x.cps.size := by show _ < x.length; omega
      simp [Array.getD, this]
    rw [e4, Bool.eq_iff_iff, beq_iff_eq, Bool.not_eq_true', decide_eq_false_iff_not]
    constructor
    · intro h hf
      have : x.length - 1 ∈ (List.range x.length).filter (lastDash x) := by
        rw [List.mem_filter]
        refine ⟨List.mem_range.mpr (by omega), ?_⟩
        unfold lastDash
        rw [item_nat (by omega), show Str.ofString "-" = ⟨#[45]⟩ from by decide +kernel, decide_eq_true (show (((x.length - 1 : Nat) : Int) = (x.length : Int) - 1) from by omega), Bool.and_true, decide_eq_true_eq]
        exact h
      rw [hf] at this
      cases this
    · intro h
      obtain ⟨i, hi⟩ := List.exists_mem_of_ne_nil _ h
      rw [List.mem_filter] at hi
      obtain ⟨h1, h2⟩ := hi
      have h1 := List.mem_range.mp h1
      unfold lastDash at h2
      rw [Bool.and_eq_true, decide_eq_true_eq, decide_eq_true_eq, item_nat h1, show Str.ofString "-" = ⟨#[45]⟩ from by decide +kernel] at h2
      have : i = x.length - 1 := by omega
      subst this
      exact h2.1
theorem law_beside (x : Str) (c d : Nat) : (!(Builtin.Str.occurrences x ⟨#[c, d]⟩ 0 x.length 1).isEmpty) = besideB x ⟨#[c]⟩ ⟨#[d]⟩ := by
  rw [Bool.eq_iff_iff, StrLaws.found_iff]
  unfold besideB
  rw [Bool.not_eq_true', decide_eq_false_iff_not]
  have key : ∀ i, i + 2 ≤ x.length → (Builtin.Str.subAt x ⟨#[c, d]⟩ i = true ↔ x.cps.getD i 0 = c ∧ x.cps.getD (i + 1) 0 = d) := by
    intro i hi
    rw [StrLaws.subAt_eq]
    have h1 : i < x.cps.toList.length := by rw [Array.length_toList]; show _ < x.length; omega
    have h2 : i + 1 < x.cps.toList.length := by rw [Array.length_toList]; show _ < x.length; omega
    have g1 : i < x.cps.size := h1
    have g2 : i + 1 < x.cps.size := h2
    rw [List.drop_eq_getElem_cons h1, List.drop_eq_getElem_cons h2]
    show ((List.take 2 _) == [c, d]) = true ↔ _
    simp [Array.getD, g1, g2]
  constructor
  · rintro ⟨i, hi, hs⟩ hf
    have hi : i + 2 ≤ x.length := hi
    have hm : i ∈ (List.range ((x.length : Int) - 1).toNat).filter (fun i : Nat => decide (Txt.item x (1 + (i : Int) - 1) = ⟨#[c]⟩ ∧ Txt.item x (1 + (i : Int)) = ⟨#[d]⟩)) := by
      rw [List.mem_filter]
      refine ⟨List.mem_range.mpr (by omega), ?_⟩
      rw [decide_eq_true_eq, show (1 + (i : Int) - 1) = (i : Int) from by omega, show (1 + (i : Int)) = ((i + 1 : Nat) : Int) from by omega, item_nat (by omega), item_nat (by omega), one_inj, one_inj]
      exact (key i hi).mp hs
    rw [hf] at hm
    cases hm
  · intro h
    obtain ⟨i, hi⟩ := List.exists_mem_of_ne_nil _ h
    rw [List.mem_filter] at hi
    obtain ⟨h1, h2⟩ := hi
    have h1 := List.mem_range.mp h1
    have hl : i + 2 ≤ x.length := by omega
    rw [decide_eq_true_eq, show (1 + (i : Int) - 1) = (i : Int) from by omega, show (1 + (i : Int)) = ((i + 1 : Nat) : Int) from by omega, item_nat (by omega), item_nat (by omega), one_inj, one_inj] at h2
    exact ⟨i, hl, (key i hl).mpr h2⟩
end
-- T4d
section
def Tag (_n : Nat) (_x _y : Str) : Prop := True
def DueV (b : Bool) (z : Str) (v : Value) : Prop := (b = true ∧ v = .none) ∨ (b = false ∧ ∃ t, v = .str z t)
section
variable {w : World} {prog : Program} {A : Around} {h₀ : Heap} {L : Addr} {m : Str → Option Value} {s : Shared} {E : Value → Shared → Prop} {news all : List (Addr × Obj)} {x y : Str}
theorem due_bad {b : Bool} {z : Str} (h : b = true) : DueV b z .none := .inl ⟨h, rfl⟩
theorem due_good {b : Bool} {z : Str} {t : Tok} (h : b = false) : DueV b z (.str z t) := .inr ⟨h, t, rfl⟩
theorem badC_eq (x : Str) : badC x = (besideB x (Str.ofString "-") (Str.ofString "-") || !decide ((List.range x.length).filter (lastDash x) = [])) := by
  unfold badC
  rw [law_last, show Str.ofString "--" = ⟨#[45, 45]⟩ from by decide +kernel, show Str.ofString "-" = ⟨#[45]⟩ from by decide +kernel, law_beside]
theorem badI_eq (x : Str) : badI x = besideB x (Str.ofString "?") (Str.ofString ">") := by
  unfold badI
  rw [show Str.ofString "?>" = ⟨#[63, 62]⟩ from by decide +kernel, show Str.ofString "?" = ⟨#[63]⟩ from by decide +kernel, show Str.ofString ">" = ⟨#[62]⟩ from by decide +kernel, law_beside]
theorem len_ne {l : List Nat} {ys : List Value} (h : ys.length = l.length) : (0 < (ys.length : Int)) ↔ ¬ l = [] := by
  cases l with
  | nil => simp at h; simp [h]
  | cons a r => simp at h; simp [h]
theorem dueC_1 {ys : List Value} (h : ys.length = ((List.range x.length).filter (lastDash x)).length) (h2 : 0 < (ys.length : Int)) : DueV (badC x) (wroteC x) .none :=
  due_bad (by rw [badC_eq, decide_eq_false ((len_ne h).mp h2), Bool.not_false, Bool.or_true])
theorem dueC_2 (h : besideB x (Str.ofString "-") (Str.ofString "-") = true) : DueV (badC x) (wroteC x) .none := due_bad (by rw [badC_eq, h, Bool.true_or])
theorem dueC_3 {ys : List Value} {t : Tok} (h : ys.length = ((List.range x.length).filter (lastDash x)).length) (h2 : ¬ 0 < (ys.length : Int)) (h3 : besideB x (Str.ofString "-") (Str.ofString "-") = false) :
    DueV (badC x) (wroteC x) (.str (Txt.join (Str.ofString "") [Str.ofString "<", Str.ofString "!", Str.ofString "--", x, Str.ofString "--", Str.ofString ">"]) t) := by
  rw [join_C]
  exact due_good (by rw [badC_eq, h3, decide_eq_true (Classical.not_not.mp fun q => h2 ((len_ne h).mpr q))]; rfl)
theorem dueI_1 (h : besideB x (Str.ofString "?") (Str.ofString ">") = true) : DueV (badI x) (wroteI x y) .none := due_bad (by rw [badI_eq, h])
theorem dueI_2 {t : Tok} (h : besideB x (Str.ofString "?") (Str.ofString ">") = false) (he : (x == Str.ofString "") = true) : DueV (badI x) (wroteI x y) (.str (Str.ofString "<?" ++ Txt.join (Str.ofString " ") [y] ++ Str.ofString "?>") t) := by
  have e := beq_iff_eq.mp he
  subst e
  rw [join_I1]; exact due_good (by rw [badI_eq, h])
theorem dueI_3 {t : Tok} (h : besideB x (Str.ofString "?") (Str.ofString ">") = false) (he : (x == Str.ofString "") = false) : DueV (badI x) (wroteI x y) (.str (Str.ofString "<?" ++ Txt.join (Str.ofString " ") [y, x] ++ Str.ofString "?>") t) := by
  rw [join_I2 _ _ (beq_eq_false_iff_ne.mp he)]; exact due_good (by rw [badI_eq, h])
theorem joinIf {M : Model} {t : Sem Value} {b : Bool} {z : Str} {Q : Value → Shared → Prop} (F : Fr h₀ L s.heap m) (N : News h₀ L s.heap all) (h1 : wpAny M A t (fun v s' => TElt h₀ L m s all (DueV b z) v s') E s)
    (h2 : ∀ v h' tk', DueV b z v → Fr h₀ L h' m → News h₀ L h' all → Q v { s with heap := h', toks := tk' }) : wpAny M A t Q E s :=
  wpAny_mono h1 (fun v s' h => by obtain ⟨hv, h', tk, rfl, F', N'⟩ := h; exact h2 v h' tk hv F' N') (fun _ _ h => h)
def TriedEnd (b : Bool) (z : Str) (Aw : Around) (h₀ : Heap) (envs : List Env) (gw : Heap) (Lw : Addr) (mw : Str → Option Value) (KF : Frag) (p : Program) (loose : List Str) (mean : ExcName → Option Value) (mg mb : Str → Option Value) (all : List (Addr × Obj)) (L : Addr) (m : Str → Option Value) (s : Shared) (v : Value) (s' : Shared) : Prop :=
  ∃ g' h' tk', s' = { s with heap := h', toks := tk' } ∧ DueV b z v ∧ Below Aw h₀ envs g' ∧ Fr g' Lw h' mw ∧ KF.In g' ∧ Top p loose mean mg mb g' ∧ News g' Lw h' all ∧ Fr h₀ L g' m ∧ (∀ b o, gw.get? b = some o → b ≠ L → g'.get? b = some o)
theorem Fr.over {g : Heap} {L' : Addr} {m' : Str → Option Value} {h : Heap} (FG : Fr h₀ L g m) (F : Fr g L' h m') : Fr h₀ L h m := ⟨FG.ns.keeps F.keep, fun b o q => F.keep b o (FG.keep b o q), FG.above⟩
theorem news_under {g : Heap} {L' : Addr} {h : Heap} (FG : Fr h₀ L g m) (N : News g L' h all) : News h₀ L h all := fun p hp => by
  obtain ⟨n1, n2, n3⟩ := N p hp
  refine ⟨n1, fun e => ?_, ?_⟩
  · obtain ⟨o, _, _, ho, _⟩ := FG.ns
    rw [e, ho] at n3; cases n3
  · cases e : h₀.get? p.1 with
    | none => rfl
    | some o => rw [FG.keep _ _ e] at n3; cases n3
end
section
variable {w : World} {prog : Program} {p : Program} {loose : List Str} {mean : ExcName → Option Value} {mg mb : Str → Option Value} {Aw A : Around} {h₀ : Heap} {L Lw : Addr} {m mw : Str → Option Value} {s : Shared} {E : Value → Shared → Prop} {news all : List (Addr × Obj)} {x y : Str} {KF : Frag} {envs : List Env} {gw : Heap} {b : Bool} {z : Str}
theorem TriedEnd.caught {g' h' : Heap} {v : Value} {tk' : Nat} {all' : List (Addr × Obj)} (D : DueV b z v) (B : Below Aw h₀ envs g') (F : Fr g' Lw h' mw) (X : KF.In g') (T : Top p loose mean mg mb g') (N : News g' Lw h' all') (FG : Fr h₀ L g' m) (k : ∀ b o, gw.get? b = some o → b ≠ L → g'.get? b = some o) (hs : ∀ q ∈ all, q ∈ all') :
    TriedEnd b z Aw h₀ envs gw Lw mw KF p loose mean mg mb all L m s v { s with heap := h', toks := tk' } :=
  ⟨g', h', tk', rfl, D, B, F, X, T, fun q hq => N q (hs q hq), FG, k⟩
theorem TriedEnd.fine {h' : Heap} {v : Value} {tk' : Nat} {all' : List (Addr × Obj)} {gt : Heap} {Lt : Addr} {mt : Str → Option Value} (D : DueV b z v) (B : Below Aw h₀ envs gw) (F₁ : Fr gw Lw gt mw) (F : Fr gt Lt h' mt) (X : KF.In gw) (T : Top p loose mean mg mb gw) (N : News gt Lt h' all') (FG : Fr h₀ L gw m) (hs : ∀ q ∈ all, q ∈ all') :
    TriedEnd b z Aw h₀ envs gw Lw mw KF p loose mean mg mb all L m s v { s with heap := h', toks := tk' } :=
  ⟨gw, h', tk', rfl, D, B, Fr.over F₁ F, X, T, fun q hq => news_under F₁ N q (hs q hq), FG, fun _ _ e _ => e⟩
theorem joinTried {M : Model} {t : Sem Value} {Q : Value → Shared → Prop} (B : Below Aw h₀ envs gw) (F : Fr gw Lw s.heap mw) (X : KF.In gw) (T : Top p loose mean mg mb gw) (N : News gw Lw s.heap all) (FG : Fr h₀ L gw m)
    (h1 : wpAny M A t (fun v s' => TriedEnd b z Aw h₀ envs gw Lw mw KF p loose mean mg mb all L m s v s') E s)
    (h2 : ∀ v g' h' tk', DueV b z v → Below Aw h₀ envs g' → Fr g' Lw h' mw → KF.In g' → Top p loose mean mg mb g' → News g' Lw h' all → Fr h₀ L g' m → (∀ b o, gw.get? b = some o → b ≠ L → g'.get? b = some o) → Q v { s with heap := h', toks := tk' }) : wpAny M A t Q E s :=
  wpAny_mono h1 (fun v s' h => by obtain ⟨g', h', tk, rfl, D, B', F', X', T', N', FG', k⟩ := h; exact h2 v g' h' tk D B' F' X' T' N' FG' k) (fun _ _ h => h)
theorem due_ne {v v' : Value} {Q : Value → Shared → Prop} (h : DueV b z v) (h' : DueV b z v') (hq : Q (.bool false) s) : wpAny (model prog w) A (compareOp .NotEq v v') Q E s := by
  w_top off
  k_with_none
  rcases h with ⟨hb, rfl⟩ | ⟨hb, t, rfl⟩ <;> rcases h' with ⟨hb', rfl⟩ | ⟨hb', t', rfl⟩ <;> (try (rw [hb] at hb'; cases hb'))
  · k_steps; all_goals (first | exact hq)
  · k_steps; all_goals (first | exact hq | (simpa using hq))
theorem due_eq {v v' : Value} {Q : Value → Shared → Prop} (h : DueV b z v) (h' : DueV b z v') (hq : Q (.bool true) s) : wpAny (model prog w) A (compareOp .Eq v v') Q E s := by
  w_top off
  k_with_none
  rcases h with ⟨hb, rfl⟩ | ⟨hb, t, rfl⟩ <;> rcases h' with ⟨hb', rfl⟩ | ⟨hb', t', rfl⟩ <;> (try (rw [hb] at hb'; cases hb'))
  · k_steps; all_goals (first | exact hq)
  · k_steps; all_goals (first | exact hq | (simpa using hq))
end
end
section
section
variable {w : World} {prog : Program} {p : Program} {loose : List Str} {mean : ExcName → Option Value} {mg mb : Str → Option Value} {Aw A : Around} {h₀ : Heap} {L Lw : Addr} {m mw : Str → Option Value} {s : Shared} {E : Value → Shared → Prop} {news all : List (Addr × Obj)} {x y : Str} {KF : Frag} {envs : List Env} {gw : Heap} {M : Model} {t : Sem Value} {Q : Value → Shared → Prop}
theorem joinIfC (_ : Tag 1 x y) (F : Fr h₀ L s.heap m) (N : News h₀ L s.heap all) (h1 : wpAny M A t (fun v s' => TElt h₀ L m s all (DueV (badC x) (wroteC x)) v s') E s)
    (h2 : ∀ v h' tk', DueV (badC x) (wroteC x) v → Fr h₀ L h' m → News h₀ L h' all → Q v { s with heap := h', toks := tk' }) : wpAny M A t Q E s := joinIf F N h1 h2
theorem joinIfI (_ : Tag 3 x y) (F : Fr h₀ L s.heap m) (N : News h₀ L s.heap all) (h1 : wpAny M A t (fun v s' => TElt h₀ L m s all (DueV (badI x) (wroteI x y)) v s') E s)
    (h2 : ∀ v h' tk', DueV (badI x) (wroteI x y) v → Fr h₀ L h' m → News h₀ L h' all → Q v { s with heap := h', toks := tk' }) : wpAny M A t Q E s := joinIf F N h1 h2
theorem joinTriedC (_ : Tag 2 x y) (F : Fr gw Lw s.heap mw) (N : News gw Lw s.heap all) (B : Below Aw h₀ envs gw) (X : KF.In gw) (T : Top p loose mean mg mb gw) (FG : Fr h₀ L gw m)
    (h1 : wpAny M A t (fun v s' => TriedEnd (badC x) (wroteC x) Aw h₀ envs gw Lw mw KF p loose mean mg mb all L m s v s') E s)
    (h2 : ∀ v g' h' tk', DueV (badC x) (wroteC x) v → Below Aw h₀ envs g' → Fr g' Lw h' mw → KF.In g' → Top p loose mean mg mb g' → News g' Lw h' all → Fr h₀ L g' m → (∀ b o, gw.get? b = some o → b ≠ L → g'.get? b = some o) → Q v { s with heap := h', toks := tk' }) : wpAny M A t Q E s := joinTried B F X T N FG h1 h2
theorem joinTriedI (_ : Tag 4 x y) (F : Fr gw Lw s.heap mw) (N : News gw Lw s.heap all) (B : Below Aw h₀ envs gw) (X : KF.In gw) (T : Top p loose mean mg mb gw) (FG : Fr h₀ L gw m)
    (h1 : wpAny M A t (fun v s' => TriedEnd (badI x) (wroteI x y) Aw h₀ envs gw Lw mw KF p loose mean mg mb all L m s v s') E s)
    (h2 : ∀ v g' h' tk', DueV (badI x) (wroteI x y) v → Below Aw h₀ envs g' → Fr g' Lw h' mw → KF.In g' → Top p loose mean mg mb g' → News g' Lw h' all → Fr h₀ L g' m → (∀ b o, gw.get? b = some o → b ≠ L → g'.get? b = some o) → Q v { s with heap := h', toks := tk' }) : wpAny M A t Q E s := joinTried B F X T N FG h1 h2
end
end
section
abbrev lamQ : Str := (Str.ofString "_law_written_right" ++ Str.ofString ".<locals>.") ++ Str.ofString "<lambda>"
/-- the table of the code of _law_written_right, both of its lambdas made -/
abbrev lamTab (c1 c2 : Addr) : Obj := tabObj (#[] ++ #[rawInt ((49 : Nat) : Int), rawInt ((18 : Nat) : Int), .ref c1] ++ #[rawInt ((53 : Nat) : Int), rawInt ((22 : Nat) : Int), .ref c2])
structure Lams (c1 c2 : Addr) (o1 o2 : Obj) (v1 v2 : Array Value) (t1 t2 : Tok) : Prop where
  d1 : o1.data = .fields v1
  e1 : v1[1]? = some (.str lamQ t1)
  d2 : o2.data = .fields v2
  e2 : v2[1]? = some (.str lamQ t2)
theorem kept_through {H g1 g2 g3 h : Heap} {L L' : Addr} {m : Str → Option Value} {adr : List Addr} (G : GSub H g1 adr) (k1 : ∀ b o, g1.get? b = some o → b ≠ L → g2.get? b = some o) (k2 : ∀ b o, g2.get? b = some o → b ≠ L → g3.get? b = some o) (F : Fr g3 L' h m) :
    ∀ b o, H.get? b = some o → b ∉ adr → b ≠ L → h.get? b = some o := fun b o e n nl => F.keep b o (k2 b o (k1 b o (G b o e n) nl) nl)
end
section
theorem fresh_through {H g1 g2 g3 h : Heap} {L L' c : Addr} {oc : Obj} {all3 : List (Addr × Obj)} {adr : List Addr} (G : GSub H g1 adr) (k1 : ∀ b o, g1.get? b = some o → b ≠ L → g2.get? b = some o) (k2 : ∀ b o, g2.get? b = some o → b ≠ L → g3.get? b = some o)
    (N3 : News g3 L' h all3) (hc3 : (c, oc) ∈ all3) (FG : ∃ o, g3.get? L = some o) (h109 : ∀ a ∈ adr, a < c) : ∀ b o, H.get? b = some o → b ≠ c := fun b o e q => by
  subst q
  have hn := (N3 _ hc3).2.2
  by_cases hL : b = L
  · subst hL; obtain ⟨o', ho'⟩ := FG; rw [ho'] at hn; cases hn
  · by_cases ha : b ∈ adr
    · exact absurd (h109 b ha) (Nat.lt_irrefl _)
    · rw [k2 b o (k1 b o (G b o e ha) hL) hL] at hn; cases hn
theorem fr_at {h₀ g : Heap} {L : Addr} {m : Str → Option Value} (F : Fr h₀ L g m) : ∃ o, g.get? L = some o := let ⟨o, _, _, ho, _⟩ := F.ns; ⟨o, ho⟩
end
-- T4
section
variable {w : World} {p : Program} {loose : List Str} {mean : ExcName → Option Value} {mg mb : Str → Option Value} {gd : Option (List Code)} {cn : Str} {cs : Scope} {a : Addr} {ccd : Value} {cl : List (Str × Addr)} {outer : List Env} {A₀ : Around} {base h₀ : Heap} {L : Addr} {m : Str → Option Value} {s : Shared} {Q E : Value → Shared → Prop} {news all : List (Addr × Obj)} {g : Obj → List (Addr × Obj)}
theorem comment_use {x : Str} {tx : Tok} {dp un : Nat} (B : Below A₀ base outer h₀) (F : Fr h₀ L s.heap m) (X : (hd.heap_39 w.params).In h₀) (N : News h₀ L s.heap all) (T : Top p loose mean mg mb h₀) (hk : cs.kind = .function) (hx : x.length ≤ 100) (hd : dp ≤ 390) (hu : un ≤ 3800)
    (good : ∀ t h' tk', badC x = false → Fr h₀ L h' m → News h₀ L h' all → Q (.str (wroteC x) t) { s with heap := h', toks := tk' })
    (bad : ∀ e h' tk', badC x = true → Thrown (envX cn cs L a ccd cl :: outer) e s.heap h' → E (.ref e) { s with heap := h', toks := tk' }) :
    wpAny (model PySem.Challenge.rw_xm0649_01.row.prog w) (ktrTop dp un gd cn cs L a ccd cl outer) (call (.ref 60) [.str x tx]) Q E s :=
  wpAny_room (comment_spec B F X T hk hx (fun t h' tk' hb F' k => good t h' tk' hb F' (N.grown k)) bad) hd hu
theorem instr_use {x y : Str} {tx ty : Tok} {dp un : Nat} (B : Below A₀ base outer h₀) (F : Fr h₀ L s.heap m) (X : (hd.heap_39 w.params).In h₀) (N : News h₀ L s.heap all) (T : Top p loose mean mg mb h₀) (hk : cs.kind = .function) (hx : x.length ≤ 100) (hy : y.length ≤ 100) (hd : dp ≤ 390) (hu : un ≤ 3800)
    (good : ∀ t h' tk', badI x = false → Fr h₀ L h' m → News h₀ L h' all → Q (.str (wroteI x y) t) { s with heap := h', toks := tk' })
    (bad : ∀ e h' tk', badI x = true → Thrown (envX cn cs L a ccd cl :: outer) e s.heap h' → E (.ref e) { s with heap := h', toks := tk' }) :
    wpAny (model PySem.Challenge.rw_xm0649_01.row.prog w) (ktrTop dp un gd cn cs L a ccd cl outer) (call (.ref 67) [.str y ty, .str x tx]) Q E s :=
  wpAny_room (instr_spec B F X T hk hx hy (fun t h' tk' hb F' k => good t h' tk' hb F' (N.grown k)) bad) hd hu

set_option maxRecDepth 100000 in
set_option maxHeartbeats 40000000 in
theorem written_spec {x y : Str} {tx ty : Tok}
    (B : Below A₀ h₀ [] h₀) (F : Fr h₀ L s.heap m) (X : (hd.heap_39 w.params).In h₀) (T : Top p loose mean mg mb h₀) (hk : cs.kind = .function)
    (C : CodeHd h₀ 111 109) (N : News h₀ L s.heap [(109, tabObj #[])])
    (hx : x.length ≤ 100) (hy : y.length ≤ 100) (hk1 : PyData.strOk x = true) (hk2 : PyData.strOk y = true)
    (ret : ∀ c1 c2 o1 o2 v1 v2 t1 t2 h' tk', Lams c1 c2 o1 o2 v1 v2 t1 t2 → (∀ b o, s.heap.get? b = some o → b ≠ c1) → (∀ b o, s.heap.get? b = some o → b ≠ c2) → @Ne Nat c1 c2 → Fr h₀ L h' m → News h₀ L h' [(109, lamTab c1 c2), (c1, o1), (c2, o2)] → (∀ b o, s.heap.get? b = some o → b ∉ [109] → b ≠ L → h'.get? b = some o) → Q (.bool true) { s with heap := h', toks := tk' }) :
    wpAny (model PySem.Challenge.rw_xm0649_01.row.prog w) (ktrTop 370 3700 gd cn cs L a ccd cl []) (call (.ref 112) [.str x tx, .str y ty]) Q E s := by
  w_top off
  k_with_none
  k_with "eval ListComp" => ((k_here; k_dflt (refine enum_ListComp (by k_asm) (by with_unfolding_all rfl) (by decide) (by rfl) (by decide) (by rfl) (by rfl) (by decide) ?_)))
  k_with "call type:enumerate" => ((k_here; k_dflt (refine' EnumSrc.dash ?hh ?hx ?F ?N (fun e' it' i' t1' t2' oe' oit' C' oC' D' ys' m' h' tk' E' hi' hC' ha' hb' F' N' => ?_) (fun e' it' i' t1' t2' oe' oit' C' oC' D' ys' m' h' tk' E' hi' hC' ha' hb' F' N' => ?_) (fun g' ys' hl' hn' => ?_); (case hh => rfl); (case hx => rw [PySem.sizeLine_eq]; omega); (case F => k_asm); (case N => k_asm); (all_goals (try k_fold)))))
  k_with "TTest" => ((k_dflt (refine' TTest.intro ?e ?F ?N ?hs; (case e => first | exact rfl | exact lastDash_tt (by assumption) (by assumption) | exact lastDash_ff (by assumption) | exact lastDash_tf (by assumption)); (case F => k_asm); (case N => k_asm); (case hs => lcg_sub))))
  k_with "TElt" => ((k_dflt (refine' TElt.intro ?e ?F ?N ?hs; (case e => first | exact ⟨_, rfl⟩ | exact dueC_1 (by assumption) (by assumption) | exact dueC_2 (by assumption) | exact dueC_3 (by assumption) (by assumption) (by assumption) | exact dueI_1 (by assumption) | exact dueI_2 (by assumption) (by assumption) | exact dueI_3 (by assumption) (by assumption)); (case F => k_asm); (case N => k_asm); (case hs => lcg_sub))))
  k_with "call builtin:len" => ((k_here; (with_reducible show wpAny _ _ (call (Value.builtin "len") [Value.ref _]) _ _ _); k_dflt (refine' len_lst ?k1 ?k2 ?k3 ?_; (case k1 => k_asm); (case k2 => k_mem); (case k3 => omega); k_whole)))
  k_with "call ref" => ((k_here; k_dflt (refine wpAny_call ?_; (refine' enterT (f := 102) ?k1 ?k2 ?k3 ?k4 ?k5 ?kA ?kF ?kK ?k6 ?k7 ?k8 ?k9 ?kB ?_ ?c2 ?c3 ?c4 ?c5; (case kA => exact rfl); (case kF => exact rfl); (case kK => exact rfl); (case k2 => k_asm); (case k1 => k_asm); (case k3 => k_asm); (case k4 => k_asm); (case k5 => k_asm); (case k6 => k_is); (case k7 => k_is); (case k8 => k_room); (case k9 => exact BindsTo.of_eq rfl); (case c5 => decide); (case kB => exact locs rfl); (case c2 => exact rfl); (case c3 => exact rfl); (case c4 => exact rfl); k_whole; intro g' L' h' FG' F' N' B' X' T' kG'; (try dsimp only); (try k_lift B'); (try k_fold)))))
  k_with "call ref" => ((k_here; k_dflt (refine' instr_use ?k1 ?k2 ?k3 ?k4 ?k5 ?k6 ?k7 ?k8 ?k9 ?k10 ?_ ?_; (case k2 => k_asm); (case k1 => k_asm); (case k3 => k_asm); (case k4 => k_asm); (case k5 => k_asm); (case k6 => exact rfl); (case k7 => assumption); (case k8 => assumption); (case k9 => exact Nat.le_of_ble_eq_true rfl); (case k10 => exact Nat.le_of_ble_eq_true rfl); k_whole; (intro t' h' tk' hb' F' N'); rotate_left; (intro e' h' tk' hb' R'); rotate_left)))
  k_with "call ref" => ((k_here; k_dflt (refine' comment_use ?k1 ?k2 ?k3 ?k4 ?k5 ?k6 ?k7 ?k9 ?k10 ?_ ?_; (case k2 => k_asm); (case k1 => k_asm); (case k3 => k_asm); (case k4 => k_asm); (case k5 => k_asm); (case k6 => exact rfl); (case k7 => assumption); (case k9 => exact Nat.le_of_ble_eq_true rfl); (case k10 => exact Nat.le_of_ble_eq_true rfl); k_whole; (intro t' h' tk' hb' F' N'); rotate_left; (intro e' h' tk' hb' R'); rotate_left)))
  k_with "call ref" => ((k_here; k_dflt (refine' beside_use ?k1 ?k2 ?k3 ?k4 ?k5 ?k6 ?k7 ?k8 ?k9 ?k10 ?k11 ?k12 ?_; (case k2 => k_asm); (case k1 => k_asm); (case k3 => k_asm); (case k4 => k_asm); (case k5 => k_asm); (case k6 => exact rfl); (case k7 => omega); (case k8 => assumption); (case k9 => decide +kernel); (case k10 => decide +kernel); (case k11 => exact Nat.le_of_ble_eq_true rfl); (case k12 => exact Nat.le_of_ble_eq_true rfl); k_whole; intro h' tk' F' N'; (try k_sweep))))
  k_with "leaving ref" => ((k_here; k_dflt (refine' Thrown.pop ?k1 ?k2 ?k3 ?k4 ?_; (case k4 => assumption); (case k2 => assumption); (case k1 => assumption); (case k3 => exact rfl); k_whole; intro h' R')))
  k_with "noteFrame ref" => ((k_here; k_dflt (refine' caught_F (KF := hd.heap_39 w.params) ?R ?hfr ?Fl ?Nl ?FGl ?FGt ?FGw ?Kt ?Kw ?hf ?X ?XK ?T ?ex ?_; (case R => assumption); (case Fl => assumption); (case FGl => assumption); (case FGt => assumption); (case FGw => assumption); (case Nl => assumption); (case Kt => assumption); (case Kw => assumption); (case hf => exact rfl); (case X => assumption); (case XK => exact fun X => k44 X rfl); (case T => assumption); (case ex => k_is); (case hfr => simp [envX, envOf, envOfC]); k_whole; intro g' h' B'' F'' X'' T'' N'' FG'' keep''; (try dsimp only); (try k_lift B''); (try k_fold))))
  k_with "call builtin:str.join" => ((k_here; (try dsimp only); (k_dflt (show wpAny _ _ (call (Value.builtin "str.join") [Value.str _ _, Value.ref _]) _ _ _)); k_dflt (refine' join_lst ?k1 ?k2 ?k3 ?k4 ?k5 ?_; (case k1 => k_asm); (case k2 => k_mem); (case k3 => first | exact .cons _ _ (.cons _ _ (.cons _ _ (.cons _ _ (.cons _ _ (.cons _ _ .nil))))) | exact .cons _ _ (.cons _ _ .nil) | exact .cons _ _ .nil); (case k4 => decide +kernel); (case k5 => simp only [List.map, List.sum_cons, List.sum_nil, List.length_cons, List.length_nil]; (try (have : (Str.ofString "<").length = 1 := by decide +kernel)); (try (have : (Str.ofString "!").length = 1 := by decide +kernel)); (try (have : (Str.ofString "--").length = 2 := by decide +kernel)); (try (have : (Str.ofString ">").length = 1 := by decide +kernel)); omega); k_whole; intro t' k' hl'; (try dsimp only); (have hl2 := Nat.le_trans hl' (show _ ≤ 300 from by (simp only [List.map, List.sum_cons, List.sum_nil, List.length_cons, List.length_nil]; (try (have : (Str.ofString "<").length = 1 := by decide +kernel)); (try (have : (Str.ofString "!").length = 1 := by decide +kernel)); (try (have : (Str.ofString "--").length = 2 := by decide +kernel)); (try (have : (Str.ofString ">").length = 1 := by decide +kernel)); (have : (Str.ofString " ").length = 1 := by decide +kernel); (have : (Str.ofString "").length = 0 := by decide +kernel); omega))); clear hl')))
  k_with "eval IfExp" => ((k_here; (with_reducible rename Tag 1 _ _ => tg); (with_reducible show wpAny _ _ (eval (Expr.IfExp (Expr.BoolOp _ _ _) _ _ _) _) _ _ _); k_dflt (refine joinIfC tg (by k_asm) (by k_asm) ?_ ?_; k_whole; (clear tg; try k_fold); rotate_left; (clear tg; intro v' h' tk' D' F' N'; try dsimp only); rotate_left)))
  k_with "eval IfExp" => ((k_here; (with_reducible rename Tag 3 _ _ => tg); (with_reducible show wpAny _ _ (eval (Expr.IfExp (Expr.Call _ _ _ _) _ _ _) _) _ _ _);k_dflt (refine joinIfI tg (by k_asm) (by k_asm) ?_ ?_; k_whole; (clear tg; try k_fold); rotate_left; (clear tg; intro v' h' tk' D' F' N'; try dsimp only); rotate_left)))
  k_with "call ref" => ((k_here; (with_reducible show wpAny _ _ (call (Value.ref 102) _) _ _ _); (with_reducible rename Tag 4 _ _ => tg); k_dflt (refine joinTriedI tg (by k_asm) (by k_asm) (by assumption) (by assumption) (by assumption) (by assumption) ?_ ?_; k_whole; (clear tg; try k_fold); rotate_left; (clear tg; intro v' g' h' tk' D' B' F' X' T' N' FG' keep'; (try dsimp only); (try k_lift B'); (try k_fold)); rotate_left)))
  k_with "call ref" => ((k_here; (with_reducible show wpAny _ _ (call (Value.ref 102) _) _ _ _); (with_reducible rename Tag 2 _ _ => tg); (with_reducible rename Tag 4 _ _ => tg4); k_dflt (refine joinTriedC tg (by k_asm) (by k_asm) (by assumption) (by assumption) (by assumption) (by assumption) ?_ ?_; k_whole; (clear tg; clear tg4; try k_fold); rotate_left; (clear tg; intro v' g' h' tk' D' B' F' X' T' N' FG' keep'; (try dsimp only); (try k_lift B'); (try k_fold)); rotate_left)))
  k_with "TriedEnd" => ((k_dflt (first
  | (refine' TriedEnd.fine ?D ?B ?F1 ?F ?X ?T ?N ?G ?hs; (case D => exact due_good (by assumption)); (case F => assumption); (case N => assumption); (case F1 => assumption); (case B => assumption); (case X => assumption); (case T => assumption); (case G => assumption); (case hs => lcg_sub))
  | (refine' TriedEnd.caught ?D ?B ?F ?X ?T ?N ?G ?k ?hs; (case D => exact due_bad (by assumption)); (case F => assumption); (case N => assumption); (case B => assumption); (case X => assumption); (case T => assumption); (case G => assumption); (case k => assumption); (case hs => lcg_sub)))))
  k_with "compareOp NotEq" => ((k_here; k_dflt (refine due_ne (by assumption) (by assumption) ?_)))
  k_with "compareOp Eq" => ((k_here; k_dflt (refine due_eq (by assumption) (by assumption) ?_)))
  revert X; k_fill; intro X
  have t1 : Tag 1 x y := trivial
  have t2 : Tag 2 x y := trivial
  have t3 : Tag 3 x y := trivial
  have t4 : Tag 4 x y := trivial
  refine wpAny_call ?_
  k_dflt ((refine' enterR ?k1 ?k2 ?k3 ?k4 ?k5 ?kA ?kF ?kK ?k6 ?k7 ?k8 ?k9 ?kB ?kD ?_ ?c2 ?c3 ?c4; (case kA => exact rfl); (case kF => exact rfl); (case kK => assumption); (case k1 => k_asm); (case k2 => k_asm); (case k3 => k_asm); (case k4 => k_asm); (case k5 => k_asm); (case k6 => k_is); (case k7 => k_is); (case k8 => k_room); (case k9 => exact BindsTo.of_eq rfl); (case kB => exact rfl); (case kD => decide +kernel); (case c2 => exact rfl); (case c3 => exact rfl); (case c4 => exact rfl); k_whole; intro g' L' h' tk' cells' FG' F' N' Y' B' X' T' l1 kG'; (try k_lt l1); k_cells Y'; (try simp only [List.cons_append, List.nil_append] at N'); (try dsimp only); (try k_lift B'); (try k_fold)))
  k_steps
  all_goals (with_reducible rename News _ _ _ _ => NZ)
  all_goals (refine' ret _ _ _ _ _ _ _ _ _ _ ⟨?a1, ?a2, ?a3, ?a4⟩ ?f1 ?f2 ?f3 ?F ?N ?K; (case F => exact Fr.over (by assumption) (by assumption)); (case N => exact news_under (by assumption) (news_sub NZ (by lcg_sub))); (case a3 => assumption); (case a1 => assumption); (case a4 => assumption); (case a2 => assumption);  (case f1 => exact fresh_through (by assumption) (by assumption) (by assumption) NZ (by k_mem) (fr_at (by assumption)) (fun b hb => by have e : b = 109 := List.mem_singleton.mp hb; rw [e]; show @LT.lt Nat _ (109 : Nat) _; omega)); (case f2 => exact fresh_through (by assumption) (by assumption) (by assumption) NZ (by k_mem) (fr_at (by assumption)) (fun b hb => by have e : b = 109 := List.mem_singleton.mp hb; rw [e]; show @LT.lt Nat _ (109 : Nat) _; omega)); (case f3 => omega); (case K => exact kept_through (by assumption) (by assumption) (by assumption) (by assumption)))
end
-- T4h
section
variable {w : World} {p : Program} {loose : List Str} {mean : ExcName → Option Value} {mg mb : Str → Option Value} {gd : Option (List Code)} {cn : Str} {cs : Scope} {a : Addr} {ccd : Value} {cl : List (Str × Addr)} {outer : List Env} {A₀ : Around} {base h₀ : Heap} {L : Addr} {m : Str → Option Value} {s : Shared} {Q E : Value → Shared → Prop} {news all : List (Addr × Obj)} {g : Obj → List (Addr × Obj)}
set_option maxRecDepth 100000 in
set_option maxHeartbeats 40000000 in
theorem written_hit {x y : Str} {tx ty : Tok} {c1 c2 : Addr} {o1 o2 : Obj} {v1 v2 : Array Value} {t1 t2 : Tok}
    (B : Below A₀ h₀ [] h₀) (F : Fr h₀ L s.heap m) (X : (hd.heap_39 w.params).In h₀) (T : Top p loose mean mg mb h₀) (hk : cs.kind = .function)
    (C : CodeHd h₀ 111 109) (Lm : Lams c1 c2 o1 o2 v1 v2 t1 t2) (N : News h₀ L s.heap [(109, lamTab c1 c2), (c1, o1), (c2, o2)])
    (hx : x.length ≤ 100) (hy : y.length ≤ 100) (hk1 : PyData.strOk x = true) (hk2 : PyData.strOk y = true)
    (ret : ∀ h' tk', Fr h₀ L h' m → News h₀ L h' [(109, lamTab c1 c2), (c1, o1), (c2, o2)] → (∀ b o, s.heap.get? b = some o → b ∉ [109, c1, c2] → b ≠ L → h'.get? b = some o) → Q (.bool true) { s with heap := h', toks := tk' }) :
    wpAny (model PySem.Challenge.rw_xm0649_01.row.prog w) (ktrTop 370 3700 gd cn cs L a ccd cl []) (call (.ref 112) [.str x tx, .str y ty]) Q E s := by
  w_top off
  k_with_none
  k_with "eval ListComp" => ((k_here; k_dflt (refine enum_ListComp (by k_asm) (by with_unfolding_all rfl) (by decide) (by rfl) (by decide) (by rfl) (by rfl) (by decide) ?_)))
  k_with "call type:enumerate" => ((k_here; k_dflt (refine' EnumSrc.dash ?hh ?hx ?F ?N (fun e' it' i' t1' t2' oe' oit' C' oC' D' ys' m' h' tk' E' hi' hC' ha' hb' F' N' => ?_) (fun e' it' i' t1' t2' oe' oit' C' oC' D' ys' m' h' tk' E' hi' hC' ha' hb' F' N' => ?_) (fun g' ys' hl' hn' => ?_); (case hh => rfl); (case hx => rw [PySem.sizeLine_eq]; omega); (case F => k_asm); (case N => k_asm); (all_goals (try k_fold)))))
  k_with "TTest" => ((k_dflt (refine' TTest.intro ?e ?F ?N ?hs; (case e => first | exact rfl | exact lastDash_tt (by assumption) (by assumption) | exact lastDash_ff (by assumption) | exact lastDash_tf (by assumption)); (case F => k_asm); (case N => k_asm); (case hs => lcg_sub))))
  k_with "TElt" => ((k_dflt (refine' TElt.intro ?e ?F ?N ?hs; (case e => first | exact ⟨_, rfl⟩ | exact dueC_1 (by assumption) (by assumption) | exact dueC_2 (by assumption) | exact dueC_3 (by assumption) (by assumption) (by assumption) | exact dueI_1 (by assumption) | exact dueI_2 (by assumption) (by assumption) | exact dueI_3 (by assumption) (by assumption)); (case F => k_asm); (case N => k_asm); (case hs => lcg_sub))))
  k_with "call builtin:len" => ((k_here; (with_reducible show wpAny _ _ (call (Value.builtin "len") [Value.ref _]) _ _ _); k_dflt (refine' len_lst ?k1 ?k2 ?k3 ?_; (case k1 => k_asm); (case k2 => k_mem); (case k3 => omega); k_whole)))
  k_with "call ref" => ((k_here; k_dflt (refine wpAny_call ?_; (refine' enterT (f := 102) ?k1 ?k2 ?k3 ?k4 ?k5 ?kA ?kF ?kK ?k6 ?k7 ?k8 ?k9 ?kB ?_ ?c2 ?c3 ?c4 ?c5; (case kA => exact rfl); (case kF => exact rfl); (case kK => exact rfl); (case k2 => k_asm); (case k1 => k_asm); (case k3 => k_asm); (case k4 => k_asm); (case k5 => k_asm); (case k6 => k_is); (case k7 => k_is); (case k8 => k_room); (case k9 => exact BindsTo.of_eq rfl); (case c5 => decide); (case kB => exact locs rfl); (case c2 => exact rfl); (case c3 => exact rfl); (case c4 => exact rfl); k_whole; intro g' L' h' FG' F' N' B' X' T' kG'; (try dsimp only); (try k_lift B'); (try k_fold)))))
  k_with "call ref" => ((k_here; k_dflt (refine' instr_use ?k1 ?k2 ?k3 ?k4 ?k5 ?k6 ?k7 ?k8 ?k9 ?k10 ?_ ?_; (case k2 => k_asm); (case k1 => k_asm); (case k3 => k_asm); (case k4 => k_asm); (case k5 => k_asm); (case k6 => exact rfl); (case k7 => assumption); (case k8 => assumption); (case k9 => exact Nat.le_of_ble_eq_true rfl); (case k10 => exact Nat.le_of_ble_eq_true rfl); k_whole; (intro t' h' tk' hb' F' N'); rotate_left; (intro e' h' tk' hb' R'); rotate_left)))
  k_with "call ref" => ((k_here; k_dflt (refine' comment_use ?k1 ?k2 ?k3 ?k4 ?k5 ?k6 ?k7 ?k9 ?k10 ?_ ?_; (case k2 => k_asm); (case k1 => k_asm); (case k3 => k_asm); (case k4 => k_asm); (case k5 => k_asm); (case k6 => exact rfl); (case k7 => assumption); (case k9 => exact Nat.le_of_ble_eq_true rfl); (case k10 => exact Nat.le_of_ble_eq_true rfl); k_whole; (intro t' h' tk' hb' F' N'); rotate_left; (intro e' h' tk' hb' R'); rotate_left)))
  k_with "call ref" => ((k_here; k_dflt (refine' beside_use ?k1 ?k2 ?k3 ?k4 ?k5 ?k6 ?k7 ?k8 ?k9 ?k10 ?k11 ?k12 ?_; (case k2 => k_asm); (case k1 => k_asm); (case k3 => k_asm); (case k4 => k_asm); (case k5 => k_asm); (case k6 => exact rfl); (case k7 => omega); (case k8 => assumption); (case k9 => decide +kernel); (case k10 => decide +kernel); (case k11 => exact Nat.le_of_ble_eq_true rfl); (case k12 => exact Nat.le_of_ble_eq_true rfl); k_whole; intro h' tk' F' N'; (try k_sweep))))
  k_with "leaving ref" => ((k_here; k_dflt (refine' Thrown.pop ?k1 ?k2 ?k3 ?k4 ?_; (case k4 => assumption); (case k2 => assumption); (case k1 => assumption); (case k3 => exact rfl); k_whole; intro h' R')))
  k_with "noteFrame ref" => ((k_here; k_dflt (refine' caught_F (KF := hd.heap_39 w.params) ?R ?hfr ?Fl ?Nl ?FGl ?FGt ?FGw ?Kt ?Kw ?hf ?X ?XK ?T ?ex ?_; (case R => assumption); (case Fl => assumption); (case FGl => assumption); (case FGt => assumption); (case FGw => assumption); (case Nl => assumption); (case Kt => assumption); (case Kw => assumption); (case hf => exact rfl); (case X => assumption); (case XK => exact fun X => k44 X rfl); (case T => assumption); (case ex => k_is); (case hfr => simp [envX, envOf, envOfC]); k_whole; intro g' h' B'' F'' X'' T'' N'' FG'' keep''; (try dsimp only); (try k_lift B''); (try k_fold))))
  k_with "call builtin:str.join" => ((k_here; (try dsimp only); (k_dflt (show wpAny _ _ (call (Value.builtin "str.join") [Value.str _ _, Value.ref _]) _ _ _)); k_dflt (refine' join_lst ?k1 ?k2 ?k3 ?k4 ?k5 ?_; (case k1 => k_asm); (case k2 => k_mem); (case k3 => first | exact .cons _ _ (.cons _ _ (.cons _ _ (.cons _ _ (.cons _ _ (.cons _ _ .nil))))) | exact .cons _ _ (.cons _ _ .nil) | exact .cons _ _ .nil); (case k4 => decide +kernel); (case k5 => simp only [List.map, List.sum_cons, List.sum_nil, List.length_cons, List.length_nil]; (try (have : (Str.ofString "<").length = 1 := by decide +kernel)); (try (have : (Str.ofString "!").length = 1 := by decide +kernel)); (try (have : (Str.ofString "--").length = 2 := by decide +kernel)); (try (have : (Str.ofString ">").length = 1 := by decide +kernel)); omega); k_whole; intro t' k' hl'; (try dsimp only); (have hl2 := Nat.le_trans hl' (show _ ≤ 300 from by (simp only [List.map, List.sum_cons, List.sum_nil, List.length_cons, List.length_nil]; (try (have : (Str.ofString "<").length = 1 := by decide +kernel)); (try (have : (Str.ofString "!").length = 1 := by decide +kernel)); (try (have : (Str.ofString "--").length = 2 := by decide +kernel)); (try (have : (Str.ofString ">").length = 1 := by decide +kernel)); (have : (Str.ofString " ").length = 1 := by decide +kernel); (have : (Str.ofString "").length = 0 := by decide +kernel); omega))); clear hl')))
  k_with "eval IfExp" => ((k_here; (with_reducible rename Tag 1 _ _ => tg); (with_reducible show wpAny _ _ (eval (Expr.IfExp (Expr.BoolOp _ _ _) _ _ _) _) _ _ _); k_dflt (refine joinIfC tg (by k_asm) (by k_asm) ?_ ?_; k_whole; (clear tg; try k_fold); rotate_left; (clear tg; intro v' h' tk' D' F' N'; try dsimp only); rotate_left)))
  k_with "eval IfExp" => ((k_here; (with_reducible rename Tag 3 _ _ => tg); (with_reducible show wpAny _ _ (eval (Expr.IfExp (Expr.Call _ _ _ _) _ _ _) _) _ _ _);k_dflt (refine joinIfI tg (by k_asm) (by k_asm) ?_ ?_; k_whole; (clear tg; try k_fold); rotate_left; (clear tg; intro v' h' tk' D' F' N'; try dsimp only); rotate_left)))
  k_with "call ref" => ((k_here; (with_reducible show wpAny _ _ (call (Value.ref 102) _) _ _ _); (with_reducible rename Tag 4 _ _ => tg); k_dflt (refine joinTriedI tg (by k_asm) (by k_asm) (by assumption) (by assumption) (by assumption) (by assumption) ?_ ?_; k_whole; (clear tg; try k_fold); rotate_left; (clear tg; intro v' g' h' tk' D' B' F' X' T' N' FG' keep'; (try dsimp only); (try k_lift B'); (try k_fold)); rotate_left)))
  k_with "call ref" => ((k_here; (with_reducible show wpAny _ _ (call (Value.ref 102) _) _ _ _); (with_reducible rename Tag 2 _ _ => tg); (with_reducible rename Tag 4 _ _ => tg4); k_dflt (refine joinTriedC tg (by k_asm) (by k_asm) (by assumption) (by assumption) (by assumption) (by assumption) ?_ ?_; k_whole; (clear tg; clear tg4; try k_fold); rotate_left; (clear tg; intro v' g' h' tk' D' B' F' X' T' N' FG' keep'; (try dsimp only); (try k_lift B'); (try k_fold)); rotate_left)))
  k_with "TriedEnd" => ((k_dflt (first
  | (refine' TriedEnd.fine ?D ?B ?F1 ?F ?X ?T ?N ?G ?hs; (case D => exact due_good (by assumption)); (case F => assumption); (case N => assumption); (case F1 => assumption); (case B => assumption); (case X => assumption); (case T => assumption); (case G => assumption); (case hs => lcg_sub))
  | (refine' TriedEnd.caught ?D ?B ?F ?X ?T ?N ?G ?k ?hs; (case D => exact due_bad (by assumption)); (case F => assumption); (case N => assumption); (case B => assumption); (case X => assumption); (case T => assumption); (case G => assumption); (case k => assumption); (case hs => lcg_sub)))))
  k_with "compareOp NotEq" => ((k_here; k_dflt (refine due_ne (by assumption) (by assumption) ?_)))
  k_with "compareOp Eq" => ((k_here; k_dflt (refine due_eq (by assumption) (by assumption) ?_)))
  revert X; k_fill; intro X
  obtain ⟨d1, e1, d2, e2⟩ := Lm
  have g1 : Tag 1 x y := trivial
  have g2 : Tag 2 x y := trivial
  have g3 : Tag 3 x y := trivial
  have g4 : Tag 4 x y := trivial
  refine wpAny_call ?_
  k_dflt ((refine' enterR ?k1 ?k2 ?k3 ?k4 ?k5 ?kA ?kF ?kK ?k6 ?k7 ?k8 ?k9 ?kB ?kD ?_ ?c2 ?c3 ?c4; (case kA => exact rfl); (case kF => exact rfl); (case kK => assumption); (case k1 => k_asm); (case k2 => k_asm); (case k3 => k_asm); (case k4 => k_asm); (case k5 => k_asm); (case k6 => k_is); (case k7 => k_is); (case k8 => k_room); (case k9 => exact BindsTo.of_eq rfl); (case kB => exact rfl); (case kD => decide +kernel); (case c2 => exact rfl); (case c3 => exact rfl); (case c4 => exact rfl); k_whole; intro g' L' h' tk' cells' FG' F' N' Y' B' X' T' l1 kG'; (try k_lt l1); k_cells Y'; (try simp only [List.cons_append, List.nil_append] at N'); (try dsimp only); (try k_lift B'); (try k_fold)))
  k_steps
  all_goals (with_reducible rename News _ _ _ _ => NZ)
  all_goals (first | (refine' ret _ _ ?F ?N ?K; (case F => exact Fr.over (by assumption) (by assumption)); (case N => exact news_under (by assumption) (news_sub NZ (by lcg_sub))); (case K => exact kept_through (by assumption) (by assumption) (by assumption) (by assumption))))
end
-- T5p
section
variable {w : World} {p : Program} {loose : List Str} {mean : ExcName → Option Value} {mg mb : Str → Option Value} {gd : Option (List Code)} {cn : Str} {cs : Scope} {a : Addr} {ccd : Value} {cl : List (Str × Addr)} {outer : List Env} {A₀ : Around} {base h₀ : Heap} {L : Addr} {m : Str → Option Value} {s : Shared} {Q E : Value → Shared → Prop} {news all : List (Addr × Obj)} {g : Obj → List (Addr × Obj)}
def prefOf (x : Str) : Str := if (Builtin.Str.occurrences x (Str.ofString ":") 0 x.length 1).isEmpty = true then Str.ofString "" else ((Txt.split x (Str.ofString ":"))[Int.toNat 0]?).getD (Str.ofString "")
theorem prefOf_1 {x : Str} (h : (Builtin.Str.occurrences x (Str.ofString ":") 0 x.length 1).isEmpty = true) : prefOf x = Str.ofString "" := by unfold prefOf; rw [if_pos h]
theorem prefOf_2 {x y : Str} {l : List Str} (h : (Builtin.Str.occurrences x (Str.ofString ":") 0 x.length 1).isEmpty = false) (hl : l = Txt.split x (Str.ofString ":")) (hy : l[Int.toNat 0]? = some y) : prefOf x = y := by
  unfold prefOf; rw [if_neg (by rw [h]; decide), ← hl, hy]; rfl
section
set_option maxRecDepth 100000 in
set_option maxHeartbeats 2000000 in
theorem prefix_spec {x : Str} {tx : Tok}
    (B : Below A₀ base outer h₀) (F : Fr h₀ L s.heap m) (X : (hd.heap_39 w.params).In h₀) (T : Top p loose mean mg mb h₀) (hk : cs.kind = .function)
    (hx : x.length ≤ 1000) (hk1 : PyData.strOk x = true)
    (ret : ∀ t h' tk', Fr h₀ L h' m → (∀ b o, s.heap.get? b = some o → h'.get? b = some o) → Q (.str (prefOf x) t) { s with heap := h', toks := tk' }) :
    wpAny (model PySem.Challenge.rw_xm0649_01.row.prog w) (ktrTop 395 3950 gd cn cs L a ccd cl outer) (call (.ref 53) [.str x tx]) Q E s := by
  w_top off
  k_with_none
  revert X; k_fill; intro X
  have N : News h₀ L s.heap [] := News.nil
  refine wpAny_call ?_
  k_dflt ((refine' code_defG ?k1 ?k2 ?k3 ?k4 ?k5 ?kA ?kF ?kK ?k6 ?k7 ?k8 ?k9 ?kB ?_ ?c2 ?c3 ?c4 ?c5; (case kA => exact rfl); (case kF => exact rfl); (case kK => assumption); (case k1 => k_asm); (case k2 => k_asm); (case k3 => k_asm); (case k4 => k_asm); (case k5 => k_asm); (case k6 => k_is); (case k7 => k_is); (case k8 => k_room); (case k9 => exact BindsTo.of_eq rfl); (case c5 => decide); (case kB => exact locs rfl); (case c2 => exact rfl); (case c3 => exact rfl); (case c4 => exact rfl); k_whole; intro g' L' h' FG' F' N' B' X' T' kG'; (try dsimp only); (try k_lift B'); (try k_fold)))
  k_steps
  · rename_i h1 _ _ _ _; rw [← prefOf_1 h1]; refine' ret _ _ _ ?F ?K; (case F => k_asm); (case K => exact keep_nil (by assumption) (by with_reducible assumption))
  · have e := prefOf_2 (x := x) (by assumption) (by assumption) (by assumption)
    rw [← e]; refine' ret _ _ _ ?F ?K; (case F => k_asm); (case K => exact keep_nil (by assumption) (by with_reducible assumption))
end
theorem prefix_use {x : Str} {tx : Tok} {dp un : Nat} (B : Below A₀ base outer h₀) (F : Fr h₀ L s.heap m) (X : (hd.heap_39 w.params).In h₀) (N : News h₀ L s.heap all) (T : Top p loose mean mg mb h₀) (hk : cs.kind = .function)
    (hx : x.length ≤ 1000) (hk1 : PyData.strOk x = true) (hd : dp ≤ 395) (hu : un ≤ 3950)
    (ret : ∀ t h' tk', Fr h₀ L h' m → News h₀ L h' all → Q (.str (prefOf x) t) { s with heap := h', toks := tk' }) :
    wpAny (model PySem.Challenge.rw_xm0649_01.row.prog w) (ktrTop dp un gd cn cs L a ccd cl outer) (call (.ref 53) [.str x tx]) Q E s :=
  wpAny_room (prefix_spec B F X T hk hx hk1 fun t h' tk' F' k => ret t h' tk' F' (N.grown k)) hd hu
end
-- T5q
section
def NameP (z : Str) : Prop := z = Str.ofString "a" ∨ z = Str.ofString "xml" ∨ z = Str.ofString "b-1" ∨ z = Str.ofString ""
theorem names_P {t1 t2 t3 t4 : Tok} : ∀ v ∈ [Value.str (Str.ofString "a") t1, .str (Str.ofString "xml") t2, .str (Str.ofString "b-1") t3, .str (Str.ofString "") t4], ∃ z t, v = Value.str z t ∧ NameP z := by
  intro v hv
  simp only [List.mem_cons, List.mem_nil_iff, or_false] at hv
  unfold NameP
  rcases hv with rfl | rfl | rfl | rfl
  · exact ⟨_, _, rfl, .inl rfl⟩
  · exact ⟨_, _, rfl, .inr (.inl rfl)⟩
  · exact ⟨_, _, rfl, .inr (.inr (.inl rfl))⟩
  · exact ⟨_, _, rfl, .inr (.inr (.inr rfl))⟩
theorem nameP_len {z : Str} (h : NameP z) : z.length ≤ 3 := by
  unfold NameP at h; rcases h with rfl | rfl | rfl | rfl <;> decide +kernel
theorem nameP_ok {z : Str} (h : NameP z) : PyData.strOk z = true := by
  unfold NameP at h; rcases h with rfl | rfl | rfl | rfl <;> decide +kernel
theorem nm1 {a : Str} (h : NameP a) : prefOf a = Str.ofString "" := by
  unfold NameP at h; rcases h with rfl | rfl | rfl | rfl <;> decide +kernel
theorem nm2 {a b : Str} (h : NameP a) (h' : NameP b) : prefOf (a ++ Str.ofString ":" ++ b) = a := by
  unfold NameP at h h'; rcases h with rfl | rfl | rfl | rfl <;> rcases h' with rfl | rfl | rfl | rfl <;> decide +kernel
theorem nm3 {a b c : Str} (h : NameP a) (h' : NameP b) (h'' : NameP c) : prefOf (a ++ Str.ofString ":" ++ b ++ Str.ofString ":" ++ c) = a := by
  unfold NameP at h h' h''; rcases h with rfl | rfl | rfl | rfl <;> rcases h' with rfl | rfl | rfl | rfl <;> rcases h'' with rfl | rfl | rfl | rfl <;> decide +kernel
theorem nl1 {a : Str} (h : NameP a) : a.length ≤ 1000 := Nat.le_trans (nameP_len h) (by decide)
theorem nl2 {a b : Str} (h : NameP a) (h' : NameP b) : (a ++ Str.ofString ":" ++ b).length ≤ 1000 := by
  unfold NameP at h h'; rcases h with rfl | rfl | rfl | rfl <;> rcases h' with rfl | rfl | rfl | rfl <;> decide +kernel
theorem nl3 {a b c : Str} (h : NameP a) (h' : NameP b) (h'' : NameP c) : (a ++ Str.ofString ":" ++ b ++ Str.ofString ":" ++ c).length ≤ 1000 := by
  unfold NameP at h h' h''; rcases h with rfl | rfl | rfl | rfl <;> rcases h' with rfl | rfl | rfl | rfl <;> rcases h'' with rfl | rfl | rfl | rfl <;> decide +kernel
theorem no2 {a b : Str} (h : NameP a) (h' : NameP b) : PyData.strOk (a ++ Str.ofString ":" ++ b) = true := by
  unfold NameP at h h'; rcases h with rfl | rfl | rfl | rfl <;> rcases h' with rfl | rfl | rfl | rfl <;> decide +kernel
theorem no3 {a b c : Str} (h : NameP a) (h' : NameP b) (h'' : NameP c) : PyData.strOk (a ++ Str.ofString ":" ++ b ++ Str.ofString ":" ++ c) = true := by
  unfold NameP at h h' h''; rcases h with rfl | rfl | rfl | rfl <;> rcases h' with rfl | rfl | rfl | rfl <;> rcases h'' with rfl | rfl | rfl | rfl <;> decide +kernel
theorem qb1 {a : Str} {Q : Value → Shared → Prop} {s : Shared} (q : Q (.bool true) s) (h : NameP a) : Q (.bool (prefOf a == Str.ofString "")) s := by rw [nm1 h, beq_self_eq_true]; exact q
theorem qb2 {a b : Str} {Q : Value → Shared → Prop} {s : Shared} (q : Q (.bool true) s) (h : NameP a) (h' : NameP b) : Q (.bool (prefOf (a ++ Str.ofString ":" ++ b) == a)) s := by rw [nm2 h h', beq_self_eq_true]; exact q
theorem qb3 {a b c : Str} {Q : Value → Shared → Prop} {s : Shared} (q : Q (.bool true) s) (h : NameP a) (h' : NameP b) (h'' : NameP c) : Q (.bool (prefOf (a ++ Str.ofString ":" ++ b ++ Str.ofString ":" ++ c) == a)) s := by rw [nm3 h h' h'', beq_self_eq_true]; exact q
end
-- T7g
section
section
open PyProof.Rows.LCg
def SrcInv (x y : Int) : Prop := 0 ≤ x ∧ 0 ≤ y ∧ y < 2147483647
/-- one turn's answer: the value, and the source drawn from -/
def GElt (h₀ : Heap) (L : Addr) (m : Str → Option Value) (s : Shared) (own : List (Addr × Obj)) (g : Obj → List (Addr × Obj)) (n : Nat) (R : Value → Prop) (v : Value) (s' : Shared) : Prop :=
  R v ∧ ∃ x y tx ty h' tk, s' = { s with heap := h', toks := tk } ∧ SrcInv x y ∧ Fr h₀ L h' m ∧ News h₀ L h' (own ++ g (src x y tx ty n))
theorem GElt.intro {h₀ : Heap} {L : Addr} {m : Str → Option Value} {s : Shared} {own all : List (Addr × Obj)} {g : Obj → List (Addr × Obj)} {n : Nat} {R : Value → Prop} {v : Value} {h' : Heap} {tk : Nat} {x y : Int} {tx ty : Tok}
    (r : R v) (F : Fr h₀ L h' m) (N : News h₀ L h' all) (hs : ∀ p ∈ own ++ g (src x y tx ty n), p ∈ all) (i1 : 0 ≤ x) (i2 : 0 ≤ y) (i3 : y < 2147483647) : GElt h₀ L m s own g n R v { s with heap := h', toks := tk } :=
  ⟨r, x, y, tx, ty, h', tk, rfl, ⟨i1, i2, i3⟩, F, news_sub N hs⟩
variable {prog : Program} {w : World} {A : Around} {s : Shared} {h₀ : Heap} {L : Addr} {m : Str → Option Value} {env : Env} {news : List (Addr × Obj)} {g : Obj → List (Addr × Obj)} {la : Addr} {nn : Nat}
theorem off_hole {I C D : Addr} {pre post : List (Addr × Obj)} {o o' : Obj} (h : Off3 I C D (pre ++ (la, o) :: post)) : Off3 I C D (pre ++ (la, o') :: post) :=
  Off3.of fun p hp => by
    rcases List.mem_append.mp hp with hp | hp
    · exact h.mem p (List.mem_append_left _ hp)
    · rcases List.mem_cons.mp hp with rfl | hp
      · exact h.mem (la, o) (List.mem_append_right _ List.mem_cons_self)
      · exact h.mem p (List.mem_append_right _ (List.mem_cons_of_mem _ hp))
theorem gath {elt : Expr} {xn : Str} {scope : Scope} {cl : List (Str × Addr)} {P : Nat → Value → Prop} {Fin : List Value → List (Addr × Obj) → Prop} {n : Nat} {x y : Int} {tx ty : Tok} (R : Value → Prop)
    (_hm : (la, src x y tx ty nn) ∈ news) (U : UpdF la (src x y tx ty nn) news g) (hx : 0 ≤ x) (hy : 0 ≤ y) (hy2 : y < 2147483647)
    (turn : ∀ i v I oI C oC D m₂ ys h tk x y tx ty (E' : Value → Shared → Prop), i < n → P i v → NsObj oC m₂ → m₂ xn = some v → 0 ≤ x → 0 ≤ y → y < 2147483647 → Fr h₀ L h m → News h₀ L h ((I, oI) :: (C, oC) :: (D, lst ys) :: g (src x y tx ty nn)) → Off3 I C D (g (src x y tx ty nn)) → ((@Ne Nat I C) ∧ (@Ne Nat I D) ∧ (@Ne Nat C D)) →
      UpdG la (fun o => (I, oI) :: (C, oC) :: (D, lst ys) :: g o) →
      wpAny (model prog w) A (eval elt (compEnvC scope cl C env)) (fun v s' => GElt h₀ L m { s with heap := h, toks := tk } [(I, oI), (C, oC), (D, lst ys)] g nn R v s') E' { s with heap := h, toks := tk })
    (fin : ∀ ys x y tx ty, 0 ≤ x → 0 ≤ y → y < 2147483647 → ys.length = n → (∀ v ∈ ys, R v) → Fin ys (g (src x y tx ty nn))) : CompRest prog w A h₀ L m env elt xn scope cl s (fun _ => True) P Fin n 0 [] news := by
  have U0 := U
  obtain ⟨pre, post, rfl, hg, hp1, hp2⟩ := U.split
  have key : ∀ (j i : Nat) (ys : List Value) (x y : Int) (tx ty : Tok), i + j = n → ys.length = i → (∀ v ∈ ys, R v) → 0 ≤ x → 0 ≤ y → y < 2147483647 →
      CompRest prog w A h₀ L m env elt xn scope cl s (fun _ => True) P Fin j i ys (g (src x y tx ty nn)) := by
    intro j
    induction j with
    | zero =>
      intro i ys x y tx ty hi hl hR h1 h2 h3
      exact CompRest.zero (fin ys x y tx ty h1 h2 h3 (by omega) hR)
    | succ j ih =>
      intro i ys x y tx ty hi hl hR h1 h2 h3
      refine CompRest.succ ?_
      intro v I oI C oC D m₂ h tk E' hv hC hx F N off ne
      refine wpAny_mono (turn i v I oI C oC D m₂ ys h tk x y tx ty E' (by omega) hv hC hx h1 h2 h3 F N off ne (by
        have hin : (la, src x y tx ty nn) ∈ g (src x y tx ty nn) := by rw [hg]; exact List.mem_append_right _ List.mem_cons_self
        obtain ⟨n1, n2, n3⟩ := off.mem _ hin
        exact .tail (Ne.symm n1) (.tail (Ne.symm n2) (.tail (Ne.symm n3) (.of U0))))) (fun v' s₂ hq => ?_) fun _ _ e => e
      obtain ⟨hr, x', y', tx', ty', h', tk', rfl, ⟨i1, i2, i3⟩, F', N'⟩ := hq
      refine ⟨h', tk', g (src x' y' tx' ty' nn), rfl, F', N', ?_, trivial, ih (i + 1) (ys ++ [v']) x' y' tx' ty' (by omega) (by simp [hl]) ?_ i1 i2 i3⟩
      · rw [hg] at off ⊢; exact off_hole off
      · intro u hu
        rcases List.mem_append.mp hu with hu | hu
        · exact hR u hu
        · rw [List.mem_singleton.mp hu]; exact hr
  have := key n 0 [] x y tx ty (by omega) rfl (fun _ h => nomatch h) hx hy hy2
  rw [hg] at this
  exact this
end
/-- short pieces of text -/
def PieceP (z : Str) : Prop := z.length ≤ 5 ∧ PyData.strOk z = true
theorem strs_of {R : Str → Prop} : ∀ {ys : List Value}, (∀ v ∈ ys, ∃ z t, v = Value.str z t ∧ R z) → ∃ zs : List Str, StrsAre ys zs ∧ ∀ z ∈ zs, R z
  | [], _ => ⟨[], .nil, fun _ h => nomatch h⟩
  | v :: r, h => by
    obtain ⟨z, t, rfl, hz⟩ := h v List.mem_cons_self
    obtain ⟨zs, h1, h2⟩ := strs_of (ys := r) fun v hv => h v (List.mem_cons_of_mem _ hv)
    exact ⟨z :: zs, .cons z t h1, fun u hu => by rcases List.mem_cons.mp hu with rfl | hu; exact hz; exact h2 u hu⟩
theorem ok_append {a b : Str} (h : PyData.strOk a = true) (h' : PyData.strOk b = true) : PyData.strOk (a ++ b) = true := by
  unfold PyData.strOk at *
  rw [cat_cps, Array.all_append, h, h']; rfl
theorem join_ok : ∀ {zs : List Str}, (∀ z ∈ zs, PyData.strOk z = true) → PyData.strOk (Str.join (Str.ofString "") zs) = true
  | [], _ => by decide +kernel
  | [z], h => h z List.mem_cons_self
  | a :: b :: r, h => by
    have e : Str.join (Str.ofString "") (a :: b :: r) = a ++ Str.ofString "" ++ Str.join (Str.ofString "") (b :: r) := rfl
    rw [e]
    exact ok_append (ok_append (h a List.mem_cons_self) (by decide +kernel)) (join_ok fun z hz => h z (List.mem_cons_of_mem _ hz))
theorem sum_len : ∀ {zs : List Str} {k : Nat}, (∀ z ∈ zs, z.length ≤ k) → (zs.map (·.length)).sum ≤ zs.length * k
  | [], _, _ => by simp
  | a :: r, k, h => by
    have h1 := h a List.mem_cons_self
    have h2 := sum_len (zs := r) fun z hz => h z (List.mem_cons_of_mem _ hz)
    simp only [List.map_cons, List.sum_cons, List.length_cons, Nat.succ_mul]
    omega
section
variable {w : World} {prog : Program} {A : Around} {h₀ : Heap} {L : Addr} {m : Str → Option Value} {s : Shared} {E : Value → Shared → Prop} {news all : List (Addr × Obj)}
theorem join_pieces {D : Addr} {ys : List Value} {t : Tok} {Q : Value → Shared → Prop} (N : News h₀ L s.heap all) (hm : (D, LCg.lst ys) ∈ all) (hP : ∀ v ∈ ys, ∃ z t, v = Value.str z t ∧ PieceP z) (hl : ys.length ≤ 8)
    (h : ∀ z t' k, z.length ≤ 100 → PyData.strOk z = true → Q (.str z t') { s with toks := k }) : wpAny (model prog w) A (call (.builtin "str.join") [.str (Str.ofString "") t, .ref D]) Q E s := by
  obtain ⟨zs, h1, h2⟩ := strs_of hP
  have hz : zs.length = ys.length := (StrsAre.length h1).symm
  have hsum := sum_len (zs := zs) (k := 5) fun z hz => (h2 z hz).1
  refine join_listW (items := ys.toArray) (ys := zs) ⟨_, (N _ hm).1, rfl, _, rfl⟩ h1 (by decide +kernel) (by omega) fun t' k => h _ t' k ?_ ?_
  · have := join_le (Str.ofString "") zs
    rw [show (Str.ofString "").length = 0 from by decide +kernel] at this
    omega
  · unfold Txt.join; rw [StrLaws.glued_eq_join]; exact join_ok fun z hz => (h2 z hz).2
end
end
-- T7p
section
variable {w : World} {p : Program} {loose : List Str} {mean : ExcName → Option Value} {mg mb : Str → Option Value} {gd : Option (List Code)} {cn : Str} {cs : Scope} {a : Addr} {ccd : Value} {cl : List (Str × Addr)} {outer : List Env} {A₀ : Around} {base h₀ : Heap} {L : Addr} {m : Str → Option Value} {s : Shared} {Q E : Value → Shared → Prop} {news all : List (Addr × Obj)} {g : Obj → List (Addr × Obj)}
theorem fresh_in {H g h : Heap} {L' c : Addr} {oc : Obj} {l : List (Addr × Obj)} (G : GSub H g []) (N : News g L' h l) (hm : (c, oc) ∈ l) : ∀ b o, H.get? b = some o → b ≠ c := fun b o e q => by
  subst q
  have hn := (N _ hm).2.2
  rw [G b o e List.not_mem_nil] at hn; cases hn
theorem src_mem {la : Addr} {x y : Int} {tx ty : Tok} {n : Nat} {l : List (Addr × Obj)} (hm : (la, W.listOf #[Value.int x tx, Value.int y ty] n) ∈ l) : ∀ p ∈ [(la, src x y tx ty n)], p ∈ l := fun p hp => by rw [List.mem_singleton.mp hp]; exact hm
theorem pool_end {ns : List Int} (h1 : decide (ns = []) = false) (h2 : 0 < -(ns.length : Int) ∨ (ns.length : Int) ≤ 0) : False := by
  cases ns with
  | nil => simp at h1
  | cons a r => simp at h2; omega
section
set_option maxRecDepth 100000 in
set_option maxHeartbeats 2000000 in
theorem pool_spec {sa : Addr} {vs : List Value} {ns : List Int}
    (B : Below A₀ base outer h₀) (F : Fr h₀ L s.heap m) (X : (hd.heap_39 w.params).In h₀) (T : Top p loose mean mg mb h₀) (hk : cs.kind = .function)
    (hL : base.IsList sa vs.toArray) (hI : IntsAre vs ns) (hn : ¬ ((63 : Nat) : Int) < (ns.length : Int)) (hY : (PyData.list (List.map PyData.int ns)).layable0 = true)
    (ret : ∀ la x y tx ty n h' tk', 0 ≤ x → 0 ≤ y → y < 2147483647 → (∀ b o, s.heap.get? b = some o → b ≠ la) → Fr h₀ L h' m → News h₀ L h' [(la, src x y tx ty n)] → (∀ b o, s.heap.get? b = some o → h'.get? b = some o) → Q (.ref la) { s with heap := h', toks := tk' }) :
    wpAny (model PySem.Challenge.rw_xm0649_01.row.prog w) (ktrTop 390 3900 gd cn cs L a ccd cl outer) (call (.ref 81) [.ref sa]) Q E s := by
  w_top off
  k_with_none
  revert X; k_fill; intro X
  have N : News h₀ L s.heap [] := News.nil
  refine wpAny_call ?_
  k_dflt ((refine' code_defG ?k1 ?k2 ?k3 ?k4 ?k5 ?kA ?kF ?kK ?k6 ?k7 ?k8 ?k9 ?kB ?_ ?c2 ?c3 ?c4 ?c5; (case kA => exact rfl); (case kF => exact rfl); (case kK => assumption); (case k1 => k_asm); (case k2 => k_asm); (case k3 => k_asm); (case k4 => k_asm); (case k5 => k_asm); (case k6 => k_is); (case k7 => k_is); (case k8 => k_room); (case k9 => exact BindsTo.of_eq rfl); (case c5 => decide); (case kB => exact locs rfl); (case c2 => exact rfl); (case c3 => exact rfl); (case c4 => exact rfl); k_whole; intro g' L' h' FG' F' N' B' X' T' kG'; (try dsimp only); (try k_lift B'); (try k_fold)))
  k_steps
  all_goals first
    | exact (pool_end (by assumption) (by assumption)).elim
    | (refine' ret _ _ _ _ _ 0 _ _ ?zza ?zzb ?zzc ?zzf ?zzF ?zzN ?zzK; (case zzF => k_asm); (case zzN => (refine news_sub (by assumption) ?_); refine src_mem ?_; exact List.mem_cons_self); (case zzK => exact keep_nil (by assumption) (by with_reducible assumption)); (case zzf => exact fresh_in (by assumption) (by assumption) (by k_mem)); (case zzb => exact fm_lo _ (by decide)); (case zzc => exact fm_hi _ (by decide)); (case zza => omega))
end
end
-- T7u
section
variable {w : World} {p : Program} {loose : List Str} {mean : ExcName → Option Value} {mg mb : Str → Option Value} {gd : Option (List Code)} {cn : Str} {cs : Scope} {a : Addr} {ccd : Value} {cl : List (Str × Addr)} {outer : List Env} {A₀ : Around} {base h₀ : Heap} {L : Addr} {m : Str → Option Value} {s : Shared} {Q E : Value → Shared → Prop} {news all : List (Addr × Obj)} {g : Obj → List (Addr × Obj)}
theorem off1_of {c : Addr} {h : Heap} : ∀ {l : List (Addr × Obj)}, News h₀ L h l → (∀ b o, h.get? b = some o → b ≠ c) → LCg.Off1 c l
  | [], _, _ => trivial
  | p :: r, N, f => ⟨f _ _ (N p List.mem_cons_self).1, off1_of (fun q hq => N q (List.mem_cons_of_mem _ hq)) f⟩
theorem written_use0 {x y : Str} {tx ty : Tok} {dp un : Nat}
    (B : Below A₀ h₀ [] h₀) (F : Fr h₀ L s.heap m) (X : (hd.heap_39 w.params).In h₀) (N : News h₀ L s.heap all) (T : Top p loose mean mg mb h₀) (hk : cs.kind = .function)
    (C : CodeHd h₀ 111 109) (U : UpdF 109 (tabObj #[]) all g)
    (hx : x.length ≤ 100) (hy : y.length ≤ 100) (hk1 : PyData.strOk x = true) (hk2 : PyData.strOk y = true) (hd : dp ≤ 370) (hu : un ≤ 3700)
    (ret : ∀ c1 c2 o1 o2 v1 v2 t1 t2 h' tk', Lams c1 c2 o1 o2 v1 v2 t1 t2 → LCg.Off1 c1 all → LCg.Off1 c2 all → @Ne Nat c1 c2 → Fr h₀ L h' m → News h₀ L h' ((c1, o1) :: (c2, o2) :: g (lamTab c1 c2)) → Q (.bool true) { s with heap := h', toks := tk' }) :
    wpAny (model PySem.Challenge.rw_xm0649_01.row.prog w) (ktrTop dp un gd cn cs L a ccd cl []) (call (.ref 112) [.str x tx, .str y ty]) Q E s := by
  obtain ⟨pre, post, rfl, hg, h1, h2⟩ := U.split
  refine wpAny_room (written_spec B F X T hk C (news_sub N (l' := [(109, tabObj #[])]) fun q hq => by rw [List.mem_singleton.mp hq]; exact List.mem_append_right _ List.mem_cons_self) hx hy hk1 hk2 ?_) hd hu
  intro c1 c2 o1 o2 v1 v2 t1 t2 h' tk' Lm f1 f2 f3 F' N' k
  refine ret c1 c2 o1 o2 v1 v2 t1 t2 h' tk' Lm (off1_of N f1) (off1_of N f2) f3 F' fun q hq => ?_
  rw [hg] at hq
  have old : ∀ q ∈ pre ++ post, News h₀ L h' [q] := fun q hq => fun q' hq' => by
    rw [List.mem_singleton.mp hq']
    have hne : q.1 ≠ 109 := (List.mem_append.mp hq).elim (h1 q) (h2 q)
    have hN := N q (mem_hole _ (List.mem_cons_of_mem _ hq))
    exact ⟨k _ _ hN.1 (by simpa using hne) hN.2.1, hN.2⟩
  rcases List.mem_cons.mp hq with rfl | hq
  · exact N' _ (List.mem_cons_of_mem _ List.mem_cons_self)
  · rcases List.mem_cons.mp hq with rfl | hq
    · exact N' _ (List.mem_cons_of_mem _ (List.mem_cons_of_mem _ List.mem_cons_self))
    · rcases List.mem_cons.mp (mem_hole' _ hq) with rfl | hq
      · exact N' _ List.mem_cons_self
      · exact old q hq q List.mem_cons_self
theorem pool_use {sa : Addr} {vs : List Value} {ns : List Int} {dp un : Nat}
    (B : Below A₀ base outer h₀) (F : Fr h₀ L s.heap m) (X : (hd.heap_39 w.params).In h₀) (N : News h₀ L s.heap all) (T : Top p loose mean mg mb h₀) (hk : cs.kind = .function)
    (hL : base.IsList sa vs.toArray) (hI : IntsAre vs ns) (hn : ¬ ((63 : Nat) : Int) < (ns.length : Int)) (hY : (PyData.list (List.map PyData.int ns)).layable0 = true) (hd : dp ≤ 390) (hu : un ≤ 3900)
    (ret : ∀ la x y tx ty n h' tk', 0 ≤ x → 0 ≤ y → y < 2147483647 → LCg.Off1 la all → UpdG la (fun o => (la, o) :: all) → Fr h₀ L h' m → News h₀ L h' ((la, src x y tx ty n) :: all) → Q (.ref la) { s with heap := h', toks := tk' }) :
    wpAny (model PySem.Challenge.rw_xm0649_01.row.prog w) (ktrTop dp un gd cn cs L a ccd cl outer) (call (.ref 81) [.ref sa]) Q E s :=
  wpAny_room (pool_spec B F X T hk hL hI hn hY fun la x y tx ty n h' tk' h1 h2 h3 f F' N' k => ret la x y tx ty n h' tk' h1 h2 h3 (off1_of N f) (.head (off1_all (off1_of N f))) F' fun q hq => by
    rcases List.mem_cons.mp hq with rfl | hq
    · exact N' _ List.mem_cons_self
    · exact N.grown k q hq) hd hu
theorem written_use1 {x y : Str} {tx ty : Tok} {dp un : Nat} {c1 c2 : Addr} {o1 o2 : Obj} {v1 v2 : Array Value} {t1 t2 : Tok}
    (B : Below A₀ h₀ [] h₀) (F : Fr h₀ L s.heap m) (X : (hd.heap_39 w.params).In h₀) (N : News h₀ L s.heap all) (T : Top p loose mean mg mb h₀) (hk : cs.kind = .function)
    (C : CodeHd h₀ 111 109) (Lm : Lams c1 c2 o1 o2 v1 v2 t1 t2) (i0 : (109, lamTab c1 c2) ∈ all) (i1 : (c1, o1) ∈ all) (i2 : (c2, o2) ∈ all)
    (hx : x.length ≤ 100) (hy : y.length ≤ 100) (hk1 : PyData.strOk x = true) (hk2 : PyData.strOk y = true) (hd : dp ≤ 370) (hu : un ≤ 3700)
    (ret : ∀ h' tk', Fr h₀ L h' m → News h₀ L h' all → Q (.bool true) { s with heap := h', toks := tk' }) :
    wpAny (model PySem.Challenge.rw_xm0649_01.row.prog w) (ktrTop dp un gd cn cs L a ccd cl []) (call (.ref 112) [.str x tx, .str y ty]) Q E s := by
  refine wpAny_room (written_hit B F X T hk C Lm (news_sub N (l' := [(109, lamTab c1 c2), (c1, o1), (c2, o2)]) fun q hq => ?_) hx hy hk1 hk2 ?_) hd hu
  · rcases List.mem_cons.mp hq with rfl | hq
    · exact i0
    · rcases List.mem_cons.mp hq with rfl | hq
      · exact i1
      · rw [List.mem_singleton.mp hq]; exact i2
  intro h' tk' F' N' k
  refine ret h' tk' F' fun q hq => ?_
  have hN := N q hq
  have same : ∀ r ∈ all, q.1 = r.1 → q = r := fun r hr e => by
    have hr := (N r hr).1
    rw [← e, hN.1] at hr
    exact Prod.ext e (Option.some.inj hr)
  by_cases e0 : q.1 = 109
  · rw [same _ i0 e0]; exact N' _ List.mem_cons_self
  · by_cases e1 : q.1 = c1
    · rw [same _ i1 e1]; exact N' _ (List.mem_cons_of_mem _ List.mem_cons_self)
    · by_cases e2 : q.1 = c2
      · rw [same _ i2 e2]; exact N' _ (List.mem_cons_of_mem _ (List.mem_cons_of_mem _ List.mem_cons_self))
      · exact ⟨k _ _ hN.1 (by simp [e0, e1, e2]) hN.2.1, hN.2⟩
end
-- I1
section
/-- a pair of a text and a value -/
def pairO (k : Str) (t : Tok) (v : Value) (n : Nat) : Obj := { cls := .type "tuple", data := .seq #[.str k t, v] n }
/-- the values are tuples of the ledger, one for each pair -/
def TupsIn (ys : List Value) (qs : List (Str × Value)) (tups : List (Addr × Obj)) : Prop :=
  ys.length = qs.length ∧ ∀ (i : Nat) (q : Str × Value), qs[i]? = some q → ∃ (T : Addr) (t : Tok) (n : Nat), ys[i]? = some (Value.ref T) ∧ (T, pairO q.1 t q.2 n) ∈ tups
theorem TupsIn.nil {tups : List (Addr × Obj)} : TupsIn [] [] tups := ⟨rfl, fun i q h => by simp at h⟩
theorem TupsIn.mono {ys : List Value} {qs : List (Str × Value)} {tups tups' : List (Addr × Obj)} (h : TupsIn ys qs tups) (hs : ∀ p ∈ tups, p ∈ tups') : TupsIn ys qs tups' :=
  ⟨h.1, fun i q e => let ⟨T, t, n, a, b⟩ := h.2 i q e; ⟨T, t, n, a, hs _ b⟩⟩
theorem TupsIn.snoc {ys : List Value} {qs : List (Str × Value)} {tups : List (Addr × Obj)} {T : Addr} {k : Str} {t : Tok} {v : Value} {n : Nat} (h : TupsIn ys qs tups) (hm : (T, pairO k t v n) ∈ tups) : TupsIn (ys ++ [.ref T]) (qs ++ [(k, v)]) tups := by
  refine ⟨by rw [List.length_append, List.length_append, h.1]; rfl, fun i q e => ?_⟩
  by_cases hi : i < qs.length
  · rw [List.getElem?_append_left hi] at e
    obtain ⟨T', t', n', a, b⟩ := h.2 i q e
    exact ⟨T', t', n', by rw [List.getElem?_append_left (by rw [h.1]; exact hi)]; exact a, b⟩
  · have hle : qs.length ≤ i := by omega
    rw [List.getElem?_append_right hle] at e
    have hz : i - qs.length = 0 := by
      rcases Nat.eq_zero_or_pos (i - qs.length) with h0 | h0
      · exact h0
      · rw [List.getElem?_eq_none (by simp; omega)] at e; cases e
    rw [hz] at e
    have e' : (k, v) = q := by simpa using e
    subst e'
    refine ⟨T, t, n, ?_, hm⟩
    rw [List.getElem?_append_right (by rw [h.1]; exact hle), h.1, hz]; rfl
theorem TupsIn.fns {ys : List Value} {qs : List (Str × Value)} {tups : List (Addr × Obj)} (h : TupsIn ys qs tups) :
    ∃ (Ts : Nat → Addr) (vals : Nat → Array Value), ∀ (i : Nat) (q : Str × Value), qs[i]? = some q → ys[i]? = some (Value.ref (Ts i)) ∧ ∃ (t : Tok) (n : Nat), vals i = #[Value.str q.1 t, q.2] ∧ (Ts i, pairO q.1 t q.2 n) ∈ tups := by
  have P : ∀ i : Nat, ∃ Tv : Addr × Array Value, ∀ q : Str × Value, qs[i]? = some q → ys[i]? = some (Value.ref Tv.1) ∧ ∃ (t : Tok) (n : Nat), Tv.2 = #[Value.str q.1 t, q.2] ∧ (Tv.1, pairO q.1 t q.2 n) ∈ tups := fun i => by
    cases e : qs[i]? with
    | none => exact ⟨(0, #[]), fun q h' => nomatch h'⟩
    | some q =>
      obtain ⟨T, t, n, a, b⟩ := h.2 i q e
      exact ⟨(T, #[Value.str q.1 t, q.2]), fun q' h' => by cases h'; exact ⟨a, t, n, rfl, b⟩⟩
  exact ⟨fun i => (P i).choose.1, fun i => (P i).choose.2, fun i q e => (P i).choose_spec q e⟩
theorem subL_of : ∀ {l all : List (Addr × Obj)}, (∀ p ∈ l, p ∈ all) → SubL l all
  | [], _, _ => trivial
  | p :: _, _, h => ⟨h p List.mem_cons_self, subL_of fun q hq => h q (List.mem_cons_of_mem _ hq)⟩
section
variable {prog : Program} {w : World} {K : Type} {A : Around} {E : Value → Shared → Prop} {s : Shared} {env : Env} {h₀ : Heap} {body : List Stmt} {Q : Flow → Shared → Prop} {rest : List (Addr × Obj)} {d lp : Addr} {m₀ : Str → Option Value}
/-- a turn's end: the dict has one more pair stored -/
def LEnd (prog : Program) (w : World) (h₀ : Heap) (L : Addr) (s : Shared) (I : Addr) (oI : Obj) (d : Addr) (rest : List (Addr × Obj)) (a b : Str) (m₀ : Str → Option Value) (σ : List (Str × Value)) (f : Flow) (s' : Shared) : Prop :=
  f = .next ∧ ∃ h' tk m' od, s' = { s with heap := h', toks := tk } ∧ Fr h₀ L h' m' ∧ (∀ z, z ≠ b → z ≠ a → m' z = m₀ z) ∧ News h₀ L h' ((I, oI) :: (d, od) :: rest) ∧ od.IsDictOf (PySem.strKind prog w) σ
theorem LEnd.intro {L I : Addr} {oI od : Obj} {a b : Str} {m' : Str → Option Value} {σ : List (Str × Value)} {h' : Heap} {tk : Nat} (F : Fr h₀ L h' m') (hm : ∀ z, z ≠ b → z ≠ a → m' z = m₀ z) (N : News h₀ L h' ((I, oI) :: (d, od) :: rest)) (hd : od.IsDictOf (PySem.strKind prog w) σ) :
    LEnd prog w h₀ L s I oI d rest a b m₀ σ .next { s with heap := h', toks := tk } := ⟨rfl, h', tk, m', od, rfl, F, hm, N, hd⟩
theorem over_eq {m m' : Str → Option Value} {a b : Str} (h : ∀ z, z ≠ b → z ≠ a → m' z = m z) : m' = fun z => if z = b then m' b else if z = a then m' a else m z := by
  funext z
  by_cases hb : z = b
  · simp [hb]
  · by_cases ha : z = a
    · subst ha; simp [hb]
    · simp [hb, ha, h z hb ha]
theorem pairs_turns {a b : Str} {pa pb tp : Pos} {kk nt : Nat} {ys : List Value} {qs kvs : List (Str × Value)} {od : Obj} {tups : List (Addr × Obj)}
    (hh : A.handled = none) (ha : env.kindOf a = some .local) (hb : env.kindOf b = some .local) (hp : (env.scope.kind == .class || (env.scope.kind == .module && env.locals != env.globals)) = false)
    (F : Fr h₀ env.locals s.heap m₀) (N : News h₀ env.locals s.heap ((d, od) :: rest)) (hm : (lp, W.listOf ys.toArray nt) ∈ rest) (hs : ∀ p ∈ tups, p ∈ rest) (hT : TupsIn ys qs tups) (hd : od.IsDictOf (PySem.strKind prog w) kvs) (hdr : ∀ p ∈ rest, p.1 ≠ d)
    (turn : ∀ I oI od k t v σ h tk, σ.length ≤ kvs.length + qs.length → od.IsDictOf (PySem.strKind prog w) σ → UpdF d od ((I, oI) :: (d, od) :: rest) (fun o => (I, oI) :: (d, o) :: rest) →
      Fr h₀ env.locals h (fun z => if z = b then some v else if z = a then some (.str k t) else m₀ z) → News h₀ env.locals h ((I, oI) :: (d, od) :: rest) →
      wpAny (model prog w) A (execs body env) (LEnd prog w h₀ env.locals { s with heap := h, toks := tk } I oI d rest a b m₀ (stored σ k v)) E { s with heap := h, toks := tk })
    (fin : ∀ od av bv h tk, od.IsDictOf (PySem.strKind prog w) (merged kvs qs) → Fr h₀ env.locals h (fun z => if z = b then bv else if z = a then av else m₀ z) → News h₀ env.locals h ((d, od) :: rest) → Q .next { s with heap := h, toks := tk }) :
    wpAny (model prog w) A (pyIter (.ref lp)) (fun it s₂ => TurnsAt prog w A h₀ env (.Tuple [.Name a pa, .Name b pb] kk tp) body Q E it s₂) E s := by
  obtain ⟨Ts, vals, hf⟩ := hT.fns
  have hlp := N _ (List.mem_cons_of_mem _ hm)
  have hl : s.heap.IsList lp ys.toArray := ⟨_, hlp.1, rfl, _, rfl⟩
  have hlt : lp < s.heap.objs.size := Heap.lt_size hlp.1
  have hne : lp ≠ s.heap.objs.size := Nat.ne_of_lt hlt
  have hsz : ys.toArray.size = qs.length := by rw [List.size_toArray]; exact hT.1
  have hat : ∀ j, j < ys.toArray.size → ∃ q, qs[j]? = some q := fun j hj => ⟨_, List.getElem?_eq_getElem (by rw [← hsz]; exact hj)⟩
  have hTm : ∀ j, j < ys.toArray.size → ∃ o, (Ts j, o) ∈ tups := fun j hj => by
    obtain ⟨q, e⟩ := hat j hj
    obtain ⟨_, t, n, _, h⟩ := hf j q e
    exact ⟨_, h⟩
  have hTlt : ∀ j, j < ys.toArray.size → Ts j < s.heap.objs.size := fun j hj => by
    obtain ⟨o, h⟩ := hTm j hj
    exact Heap.lt_size (N _ (List.mem_cons_of_mem _ (hs _ h))).1
  have Wk := WalksU.listOfTuples (prog := prog) (w := w) hh s.heap.objs.size lp hne ys.toArray Ts vals (fun j hj => by
    obtain ⟨q, e⟩ := hat j hj
    have := (hf j q e).1
    simpa using this) (fun j hj => Nat.ne_of_lt (hTlt j hj))
  refine wpAny_pyIter_list hl ?_
  refine ktu_core (tk0 := s.toks) (ws := [(s.heap.objs.size, "list_iterator")]) (keep := (lp, W.listOf ys.toArray nt) :: tups) (xs := qs.map fun q => Itm.pair (fun t => .str q.1 t) q.2) (news := (d, od) :: rest) (KTurns.ofWalksU Wk.bound) (by rw [List.length_map]; exact hsz)
    (fun i v h hp => ?_) (fun i h st => ?_) (fun b hb => ?_) (fun b hb => by simpa using hb) (fun b hb => ?_) ?_ (fun p hp hI => ?_) ?_ (F.push _) (fun p hp => ⟨Heap.get?_push_of_some _ (N p hp).1, (N p hp).2⟩) ?_ ?_
  · obtain ⟨T, vs, rfl, ⟨hi, rfl⟩, hT'⟩ := hp
    obtain ⟨q, e⟩ := hat i hi
    obtain ⟨_, t, n, hv, _⟩ := hf i q e
    refine ⟨.pair (fun t => .str q.1 t) q.2, by rw [List.getElem?_map, e]; rfl, T, t, rfl, ?_⟩
    rw [hv] at hT'
    exact hT'
  · obtain ⟨it, hit, hic, _⟩ := st.1
    exact ⟨[(s.heap.objs.size, it)], ⟨⟨rfl, hic⟩, trivial⟩, fun p hp => by rw [List.mem_singleton.mp hp]; exact hit⟩
  · have hb' : b = s.heap.objs.size := by simpa using hb
    rw [hb']
    exact ⟨List.mem_cons_self .., next_is_new F⟩
  · rcases List.mem_cons.mp hb with e | hb
    · exact .inl (by simp [e])
    · rcases List.mem_cons.mp hb with e | hb
      · exact .inr ⟨W.listOf ys.toArray nt, by rw [e]; exact List.mem_cons_self⟩
      · obtain ⟨j, hj, rfl⟩ := List.mem_map.mp hb
        obtain ⟨o, h⟩ := hTm j (List.mem_range.mp hj)
        exact .inr ⟨o, List.mem_cons_of_mem _ h⟩
  · intro hI
    rcases List.mem_cons.mp hI with e | hI
    · exact absurd F.ns.lt (e ▸ Nat.lt_irrefl _)
    · rcases List.mem_cons.mp hI with e | hI
      · exact hlp.2.1 e.symm
      · obtain ⟨j, hj, e⟩ := List.mem_map.mp hI
        obtain ⟨o, h⟩ := hTm j (List.mem_range.mp hj)
        exact (N _ (List.mem_cons_of_mem _ (hs _ h))).2.1 e
  · exact absurd (Heap.lt_size (N p hp).1) ((List.mem_singleton.mp hI) ▸ Nat.lt_irrefl _)
  · exact ⟨⟨_, Heap.get?_push_size _ rfl, rfl, rfl⟩, hl.at fun o e => Heap.get?_push_of_some _ e, fun k hk => by
      obtain ⟨q, e⟩ := hat k hk
      obtain ⟨_, t, n, hv, h⟩ := hf k q e
      rw [hv]
      exact ⟨_, Heap.get?_push_of_some _ (N _ (List.mem_cons_of_mem _ (hs _ h))).1, rfl, _, rfl⟩⟩
  · refine subL_of fun p hp => List.mem_cons_of_mem _ ?_
    rcases List.mem_cons.mp hp with rfl | hp
    · exact hm
    · exact hs p hp
  · have hId : s.heap.objs.size ≠ d := fun e => by have := Heap.lt_size (N _ List.mem_cons_self).1; rw [e] at this; exact Nat.lt_irrefl _ this
    have hIr : ∀ p ∈ rest, p.1 ≠ s.heap.objs.size := fun p hp e => by have := Heap.lt_size (N p (List.mem_cons_of_mem _ hp)).1; rw [e] at this; exact Nat.lt_irrefl _ this
    have key : ∀ (qs' : List (Str × Value)) (σ : List (Str × Value)) (od : Obj) (m' : Str → Option Value), od.IsDictOf (PySem.strKind prog w) σ → merged σ qs' = merged kvs qs → σ.length + qs'.length ≤ kvs.length + qs.length → (∀ z, z ≠ b → z ≠ a → m' z = m₀ z) →
        ItemsRest prog w A E h₀ env (.Tuple [.Name a pa, .Name b pb] kk tp) body Q s [(s.heap.objs.size, "list_iterator")] ((lp, W.listOf ys.toArray nt) :: tups) (qs'.map fun q => Itm.pair (fun t => .str q.1 t) q.2) m' ((d, od) :: rest) := by
      intro qs'
      induction qs' with
      | nil =>
        intro σ od m' hd e _ hm'
        refine ItemsRest.zero fun h tk F' N' => fin od (m' a) (m' b) h tk (by rw [← e]; exact hd) ?_ N'
        rw [← over_eq hm']; exact F'
      | cons q r ih =>
        intro σ od m' hd e hlen hm'
        refine ItemsRest.pair fun T t h tk hTup F' => AllObj.cons fun oI hc => AllObj.nil fun N' => ?_
        refine kcp_assign hh hTup ha hb hp F'.ns fun h₁ tk₁ hn₁ hk₁ => ?_
        have hL₀ : h₀.get? env.locals = none := Heap.get?_none_of_le F'.above
        have F₁ : Fr h₀ env.locals h₁ (fun z => if z = b then some q.2 else if z = a then some (.str q.1 t) else m₀ z) := by
          refine ⟨?_, fun c o ec => hk₁ c o (fun e2 => by rw [e2, hL₀] at ec; cases ec) (F'.keep c o ec), F'.above⟩
          have em : (fun z => if z = b then some q.2 else if z = a then some (Value.str q.1 t) else m₀ z) = (fun z => if z = b then some q.2 else if z = a then some (Value.str q.1 t) else m' z) := by
            funext z
            by_cases h1 : z = b
            · simp [h1]
            · by_cases h2 : z = a
              · simp [h2]
              · simp [h1, h2, hm' z h1 h2]
          rw [em]; exact hn₁
        have N₁ : News h₀ env.locals h₁ ((s.heap.objs.size, oI) :: (d, od) :: rest) := fun p hp => ⟨hk₁ _ _ (N' p hp).2.1 (N' p hp).1, (N' p hp).2⟩
        refine wpAny_mono (turn s.heap.objs.size oI od q.1 t q.2 σ h₁ tk₁ (by rw [List.length_cons] at hlen; omega) hd (.tail hId (.head hdr)) F₁ N₁) (fun f s₃ h₃ => ?_) fun _ _ e => e
        obtain ⟨rfl, h₂, tk₂, m₂, od₂, rfl, F₂, hm₂, N₂, hd₂⟩ := h₃
        refine ⟨h₂, tk₂, m₂, (d, od₂) :: rest, rfl, F₂, N₂, ?_, subL_of ?_, ih (stored σ q.1 q.2) od₂ m₂ hd₂ ?_ ?_ hm₂⟩
        · intro p hp p' hp' e'
          rw [List.mem_singleton.mp hp'] at e'
          rcases List.mem_cons.mp hp with rfl | hp
          · exact hId e'.symm
          · exact hIr p hp e'
        · intro p hp
          rcases List.mem_cons.mp hp with rfl | hp
          · exact List.mem_cons_of_mem _ hm
          · exact List.mem_cons_of_mem _ (hs p hp)
        · rw [← e]; rfl
        · have := stored_length_le σ q.1 q.2
          rw [List.length_cons] at hlen; omega
    exact key qs kvs od m₀ hd rfl (Nat.le_refl _) fun _ _ _ => rfl
end
end
-- I2
section
theorem keep_same {g h₀ H h' : Heap} {L L' : Addr} {l : List (Addr × Obj)} (N : News h₀ L H l) (N' : News g L' h' l) (k : ∀ b o, H.get? b = some o → b ∉ l.map (·.1) → h'.get? b = some o) : ∀ b o, H.get? b = some o → h'.get? b = some o := fun b o e => by
  by_cases hb : b ∈ l.map (·.1)
  · obtain ⟨p, hp, rfl⟩ := List.mem_map.mp hb
    have h1 := (N p hp).1
    rw [h1] at e; cases e
    exact (N' p hp).1
  · exact k b o e hb
theorem my_dict {prog : Program} {w : World} {A : Around} {E : Value → Shared → Prop} {s : Shared} {h₀ : Heap} {L src : Addr} {m : Str → Option Value} {news : List (Addr × Obj)} {od : Obj} {kvs : List (Str × Value)} {Q : Value → Shared → Prop}
    (F : Fr h₀ L s.heap m) (N : News h₀ L s.heap news) (hbig : h₀.NoLimit) (hm : (src, od) ∈ news) (hd : od.IsDictOf (PySem.strKind prog w) kvs) (lo : (src == sysModules) = false) (hsz : kvs.length ≤ 64)
    (k : ∀ d o h', Fr h₀ L h' m → News h₀ L h' ((d, o) :: news) → (d == sysModules) = false → o.IsDictOf (PySem.strKind prog w) kvs → (∀ p ∈ news, p.1 ≠ d) → (∀ b o, s.heap.get? b = some o → b ≠ d) → Q (.ref d) { s with heap := h' }) :
    wpAny (model prog w) A (call (.type "dict") [.ref src]) Q E s := by
  refine kt_call_dict lo (Heap.dictOf_iff.mpr ⟨od, (N _ hm).1, hd⟩) (Nat.le_trans hsz (by rw [PySem.sizeLine_eq]; decide)) fun h' hm hs => ?_
  obtain ⟨o', ho', hd'⟩ := Heap.dictOf_iff.mp hm
  have N1 := News.push F N { cls := .type "dict", data := .dict #[] }
  exact k _ o' h' ((F.push _).change hs (N1 _ (.head _)).2.1 (N1.fresh (.head _))) (N1.setHead N.apart hs ho') (F.notModules (modules_low hbig)) hd' N.apart fun b o e => Nat.ne_of_lt (Heap.lt_size e)
variable {w : World} {p : Program} {loose : List Str} {mean : ExcName → Option Value} {mg mb : Str → Option Value} {gd : Option (List Code)} {cn : Str} {cs : Scope} {a : Addr} {ccd : Value} {cl : List (Str × Addr)} {outer : List Env} {A₀ : Around} {base h₀ : Heap} {L : Addr} {m : Str → Option Value} {s : Shared} {Q E : Value → Shared → Prop} {news all : List (Addr × Obj)} {g : Obj → List (Addr × Obj)}
theorem fresh_g {H g : Heap} {l : List (Addr × Obj)} {d : Addr} {L' : Addr} {h : Heap} {od : Obj} (G : GSub H g (l.map (·.1))) (hl : ∀ p ∈ l, p.1 ≠ d) (N : News g L' h [(d, od)]) : ∀ b o, H.get? b = some o → b ≠ d := fun b o e q => by
  subst q
  have hn := (N _ List.mem_cons_self).2.2
  rw [G b o e (fun hb => by obtain ⟨p, hp, e'⟩ := List.mem_map.mp hb; exact hl p hp e')] at hn; cases hn
section
set_option maxRecDepth 100000 in
set_option maxHeartbeats 2000000 in
theorem inner_spec {sa lp : Addr} {so : Obj} {ys : List Value} {qs kvs : List (Str × Value)} {tups : List (Addr × Obj)} {nt : Nat}
    (B : Below A₀ base outer h₀) (F : Fr h₀ L s.heap m) (X : (hd.heap_39 w.params).In h₀) (T : Top p loose mean mg mb h₀) (hk : cs.kind = .function)
    (N : News h₀ L s.heap ((sa, so) :: (lp, W.listOf ys.toArray nt) :: tups)) (hT : TupsIn ys qs tups) (hd : so.IsDictOf (PySem.strKind PySem.Challenge.rw_xm0649_01.row.prog w) kvs) (lo : (sa == sysModules) = false) (hn : kvs.length + qs.length ≤ 64)
    (ret : ∀ d od h' tk', (∀ b o, s.heap.get? b = some o → b ≠ d) → (d == sysModules) = false → od.IsDictOf (PySem.strKind PySem.Challenge.rw_xm0649_01.row.prog w) (merged kvs qs) → Fr h₀ L h' m → News h₀ L h' [(d, od)] → (∀ b o, s.heap.get? b = some o → h'.get? b = some o) → Q (.ref d) { s with heap := h', toks := tk' }) :
    wpAny (model PySem.Challenge.rw_xm0649_01.row.prog w) (ktrTop 380 3800 gd cn cs L a ccd cl outer) (call (.ref 74) [.ref sa, .ref lp]) Q E s := by
  w_top off
  k_with_none
  k_with "call type:dict" => ((k_here; k_dflt (refine my_dict (by k_asm) (by k_asm) (Top.nolimit (by k_asm)) (by k_mem) (by assumption) (by assumption) (by omega) ?_; intro d' o' h' F' N' lo' hd' ap' fr')))
  k_with "exec For Tuple Name cons nil" => ((k_here; k_dflt (refine For_turns (by k_asm) ?_)))
  k_with "pyIter ref" => ((k_here; k_dflt (refine' pairs_turns ?q1 ?q2 ?q3 ?q4 ?q5 ?q6 ?q7 ?q8 ?q9 ?q10 ?q11 (fun I' oI' od' k' t' v' σ' h' tk' hl' hd' U' F' N' => ?_) (fun od' av' bv' h' tk' hd' F' N' => ?_); (case q9 => assumption); (case q1 => rfl); (case q2 => exact rfl); (case q3 => exact rfl); (case q4 => rfl); (case q5 => k_asm); (case q6 => k_asm); (case q7 => k_mem); (case q8 => exact (fun p hp => by (repeat (first | exact hp | refine List.mem_cons_of_mem _ ?_)))); (case q10 => assumption); (case q11 => assumption); (all_goals (try dsimp only at F' N')))))
  k_with "setItem ref str" => ((k_here; k_dflt (refine kda_set (knd := PySem.strKind _ _) (by k_asm) (by k_asm) (by assumption) (by assumption) (strKind_is _ _ _ _) (by rw [PySem.sizeLine_eq]; omega) ?_; intro h' o' F' N' hd'; (try dsimp only at N'))))
  k_with "LEnd" => ((k_dflt (refine LEnd.intro (by k_asm) (fun z h1 h2 => by ((try dsimp only); simp only [h1, h2, if_false])) (by k_asm) (by assumption))))
  revert X; k_fill; intro X
  refine wpAny_call ?_
  k_dflt ((refine' code_defG ?k1 ?k2 ?k3 ?k4 ?k5 ?kA ?kF ?kK ?k6 ?k7 ?k8 ?k9 ?kB ?_ ?c2 ?c3 ?c4 ?c5; (case kA => exact rfl); (case kF => exact rfl); (case kK => assumption); (case k1 => k_asm); (case k2 => k_asm); (case k3 => k_asm); (case k4 => k_asm); (case k5 => k_asm); (case k6 => k_is); (case k7 => k_is); (case k8 => k_room); (case k9 => exact BindsTo.of_eq rfl); (case c5 => decide); (case kB => exact locs rfl); (case c2 => exact rfl); (case c3 => exact rfl); (case c4 => exact rfl); k_whole; intro g' L' h' FG' F' N' B' X' T' kG'; (try dsimp only); (try k_lift B'); (try k_fold)))
  k_steps
  all_goals (with_reducible rename News _ _ _ _ => NZ)
  all_goals (refine' ret _ _ _ _ ?zza ?zzb ?zzc ?F ?N ?K; (case N => exact news_sub NZ (by lcg_sub)); (case F => k_asm); (case zza => exact fresh_g (l := (sa, so) :: (lp, W.listOf ys.toArray nt) :: tups) (by assumption) (by assumption) (news_sub (by assumption) (by lcg_sub))); (case zzb => assumption); (case zzc => assumption); (case K => exact keep_same N (news_sub NZ (fun p hp => List.mem_cons_of_mem _ hp)) (keep_of (by assumption) (by with_reducible assumption))))
end
theorem off1_ofI {c : Addr} {h : Heap} : ∀ {l : List (Addr × Obj)}, News h₀ L h l → (∀ b o, h.get? b = some o → b ≠ c) → LCg.Off1 c l
  | [], _, _ => trivial
  | p :: r, N, f => ⟨f _ _ (N p List.mem_cons_self).1, off1_ofI (fun q hq => N q (List.mem_cons_of_mem _ hq)) f⟩
theorem inner_use {sa lp : Addr} {so : Obj} {ys : List Value} {qs kvs : List (Str × Value)} {tups : List (Addr × Obj)} {nt dp un : Nat}
    (B : Below A₀ base outer h₀) (F : Fr h₀ L s.heap m) (X : (hd.heap_39 w.params).In h₀) (N : News h₀ L s.heap all) (T : Top p loose mean mg mb h₀) (hk : cs.kind = .function)
    (h1 : (sa, so) ∈ all) (h2 : (lp, W.listOf ys.toArray nt) ∈ all) (h3 : ∀ p ∈ tups, p ∈ all) (hT : TupsIn ys qs tups) (hd : so.IsDictOf (PySem.strKind PySem.Challenge.rw_xm0649_01.row.prog w) kvs) (lo : (sa == sysModules) = false) (hn : kvs.length + qs.length ≤ 64) (hd' : dp ≤ 380) (hu : un ≤ 3800)
    (ret : ∀ d od h' tk', (∀ p ∈ all, p.1 ≠ d) → (d == sysModules) = false → od.IsDictOf (PySem.strKind PySem.Challenge.rw_xm0649_01.row.prog w) (merged kvs qs) → Fr h₀ L h' m → News h₀ L h' ((d, od) :: all) → Q (.ref d) { s with heap := h', toks := tk' }) :
    wpAny (model PySem.Challenge.rw_xm0649_01.row.prog w) (ktrTop dp un gd cn cs L a ccd cl outer) (call (.ref 74) [.ref sa, .ref lp]) Q E s :=
  wpAny_room (inner_spec B F X T hk (news_sub N fun q hq => by
    rcases List.mem_cons.mp hq with rfl | hq
    · exact h1
    · rcases List.mem_cons.mp hq with rfl | hq
      · exact h2
      · exact h3 q hq) hT hd lo hn fun d od h' tk' f lo' hd' F' N' k => ret d od h' tk' (fun q hq => f _ _ (N q hq).1) lo' hd' F' fun q hq => by
    rcases List.mem_cons.mp hq with rfl | hq
    · exact N' _ List.mem_cons_self
    · exact N.grown k q hq) hd' hu
end
-- J1
section
section
open PyProof.Rows.LCg
variable {prog : Program} {w : World} {A : Around} {E : Value → Shared → Prop} {s : Shared} {h₀ : Heap} {L : Addr} {m : Str → Option Value} {env : Env} {g : Obj → List (Addr × Obj)} {la : Addr} {nn : Nat}
theorem stored_all {P : Str × Value → Prop} {kvs : List (Str × Value)} {k : Str} {v : Value} (h : ∀ q ∈ kvs, P q) (hk : P (k, v)) : ∀ q ∈ stored kvs k v, P q := by
  intro q hq
  unfold stored at hq
  split at hq
  · obtain ⟨q', hq', rfl⟩ := List.mem_map.mp hq
    by_cases e : q'.1 = k
    · simp only [e, if_true]; exact hk
    · simp only [e, if_false]; exact h q' hq'
  · rcases List.mem_append.mp hq with hq | hq
    · exact h q hq
    · rw [List.mem_singleton.mp hq]; exact hk
/-- the ledger's addresses do not hang on what lies in the hole -/
theorem UpdG.addr (G : UpdG la g) {o o' : Obj} : ∀ p ∈ g o, ∃ p' ∈ g o', p'.1 = p.1 := by
  obtain ⟨pre, post, e0, hg, hp1, hp2⟩ := (G o).split
  intro p hp
  rw [hg] at hp ⊢
  rcases List.mem_append.mp hp with hp | hp
  · exact ⟨p, List.mem_append_left _ hp, rfl⟩
  · rcases List.mem_cons.mp hp with rfl | hp
    · exact ⟨_, List.mem_append_right _ List.mem_cons_self, rfl⟩
    · exact ⟨p, List.mem_append_right _ (List.mem_cons_of_mem _ hp), rfl⟩
theorem stored_new {kvs : List (Str × Value)} {k : Str} {v : Value} (h : k ∉ kvs.map (·.1)) : stored kvs k v = kvs ++ [(k, v)] := by
  unfold stored
  rw [if_neg]
  intro hc
  obtain ⟨q, hq, e⟩ := List.any_eq_true.mp hc
  exact h (List.mem_map.mpr ⟨q, hq, of_decide_eq_true e⟩)
/-- a turn's answer: key and value -/
def DElt (h₀ : Heap) (L : Addr) (m : Str → Option Value) (s : Shared) (own : List (Addr × Obj)) (g : Obj → List (Addr × Obj)) (n : Nat) (z : Str) (R : Value → Prop) (kv vv : Value) (s' : Shared) : Prop :=
  ∃ t, kv = .str z t ∧ GElt h₀ L m s own g n R vv s'
theorem dict_block {ct kx vx iter : PySem.Expr} {xn : Str} {px : Pos} {scope : Scope} {cl : List (Str × Addr)} {pos : Pos} {s₂ : Shared} {I ax : Addr} {vs : List Value} {nt : Nat} {RR : Value → Addr → Result → Shared → Prop} {nts : List (Str × Tok)} {R : Value → Prop} {x y : Int} {tx ty : Tok}
    (hh : A.handled = none) (hIx : ax ≠ I) (hv : vs = nts.map fun q => Value.str q.1 q.2) (hnd : (nts.map (·.1)).Nodup) (hsz : vs.length ≤ 64) (hcell : ∀ y ∈ scope.names, y.2 ≠ .cell) (hkind : scope.kind = .function) (hx : scope.names.lookup xn = some .local) (hst : s₂.heap.IsListIter I ax 0)
    (F : Fr h₀ L s₂.heap m) (N : News h₀ L s₂.heap (g (src x y tx ty nn))) (U : UpdG la g) (inv : SrcInv x y) (hIL : L ≠ I) (hI₀ : h₀.get? I = none) (hIlt : I < s₂.heap.objs.size) (offI : ∀ p ∈ g (src x y tx ty nn), p.1 ≠ I) (hax : ∀ o, (ax, W.listOf vs.toArray nt) ∈ g o)
    (turn : ∀ (q : Str × Tok) I oI C oC D oD m₂ h tk x y tx ty (E' : Value → Shared → Prop), q ∈ nts → NsObj oC m₂ → m₂ xn = some (.str q.1 q.2) → 0 ≤ x → 0 ≤ y → y < 2147483647 → Fr h₀ L h m → News h₀ L h ((I, oI) :: (C, oC) :: (D, oD) :: g (src x y tx ty nn)) → UpdG la (fun o => (I, oI) :: (C, oC) :: (D, oD) :: g o) →
      wpAny (model prog w) A (isTrue ct (compEnvC scope cl C env) (eval ct (compEnvC scope cl C env))) (fun ok s' => if ok = true then
          wpAny (model prog w) A (eval kx (compEnvC scope cl C env)) (fun kv s₄ => wpAny (model prog w) A (eval vx (compEnvC scope cl C env)) (fun vv s₅ => DElt h₀ L m { s₂ with heap := h, toks := tk } [(I, oI), (C, oC), (D, oD)] g nn q.1 R kv vv s₅) E' s₄) E' s'
        else GElt h₀ L m { s₂ with heap := h, toks := tk } [(I, oI), (C, oC), (D, oD)] g nn (fun _ => True) .none s') E' { s₂ with heap := h, toks := tk })
    (hRR : ∀ D oD C h tk m' kvs x y tx ty, Fr h₀ L h m → News h₀ L h ((D, oD) :: g (src x y tx ty nn)) → (∀ o, ∀ p ∈ g o, p.1 ≠ C ∧ p.1 ≠ D) → h.Ns C m' → h₀.get? C = none → C ≠ L → C ≠ D → s₂.heap.objs.size ≤ D → oD.IsDictOf (PySem.strKind prog w) kvs → (kvs.map (·.1)).Sublist (nts.map (·.1)) → (∀ q ∈ kvs, R q.2) → SrcInv x y → RR (.ref D) C (.ok .next) { s₂ with heap := h, toks := tk }) :
    wpAny (model prog w) A newDict (fun acc s₃ => wpAny (model prog w) A (newFunctionEnv scope env.globals cl [] env.qual none .none (some env)) (fun cenv s₄ =>
      codeAny (model prog w) A (.compStart (.DictComp kx vx [⟨.Name xn px, iter, [ct], 0⟩] scope pos) 0 (.ref I) acc { cenv with scope := relabel scope env }) (RR acc cenv.locals) s₄) E s₃) E s₂ := by
  have hlist : ∀ {h : Heap} {l : List (Addr × Obj)} {x y : Int} {tx ty : Tok}, News h₀ L h l → (∀ p ∈ g (src x y tx ty nn), p ∈ l) → h.IsList ax vs.toArray := fun N hs => ⟨_, (N _ (hs _ (hax _))).1, rfl, _, rfl⟩
  refine wpAny_newObj_type (wpAny_newFunctionEnv hcell (by intro y hy; simp at hy) (fun h₁ hns₁ hsb₁ => ?_) hkind)
  dsimp only at hns₁ hsb₁ ⊢
  have hnew : (s₂.heap.push { cls := .type "dict", dict := none, data := .dict #[] }).DictOf (PySem.strKind prog w) s₂.heap.objs.size [] := Heap.DictOf.new s₂.heap
  generalize hH2 : s₂.heap.push { cls := .type "dict", dict := none, data := .dict #[] } = H2 at hns₁ hsb₁ hnew ⊢
  have hC : H2.objs.size = s₂.heap.objs.size + 1 := by rw [← hH2, Heap.size_push]
  generalize hDd : s₂.heap.objs.size = D at *
  generalize hCd : H2.objs.size = C at *
  have hDC : D ≠ C := by rw [hC]; exact Nat.ne_of_lt (Nat.lt_succ_self _)
  have below : ∀ b, b < D → b ≠ C ∧ b ≠ D := fun b hb => ⟨by rw [hC]; exact Nat.ne_of_lt (Nat.lt_succ_of_lt hb), Nat.ne_of_lt hb⟩
  have old : ∀ b o, s₂.heap.get? b = some o → h₁.get? b = some o := fun b o e => hsb₁.extBut b o (below b (hDd ▸ Heap.lt_size e)).1 (Heap.get?_push_of_some _ (hH2 ▸ Heap.get?_push_of_some _ e))
  have hacc : h₁.DictOf (PySem.strKind prog w) D [] := hnew.at fun o e => hsb₁.extBut _ _ hDC (Heap.get?_push_of_some _ e)
  have fresh₀ : ∀ a, D ≤ a → h₀.get? a = none := fun a ha => by
    cases e : h₀.get? a with
    | none => rfl
    | some o' => have h1 := Heap.lt_size (F.keep a o' e); rw [hDd] at h1; exact absurd h1 (Nat.not_lt.mpr ha)
  have hD₀ : h₀.get? D = none := fresh₀ _ (Nat.le_refl _)
  have hC₀ : h₀.get? C = none := fresh₀ _ (by rw [hC]; exact Nat.le_succ _)
  have hLlt : L < D := hDd ▸ F.ns.lt
  have hDL : D ≠ L := Ne.symm (below L hLlt).2
  have hCL : C ≠ L := Ne.symm (below L hLlt).1
  have hCI : I ≠ C := (below I hIlt).1
  have hDI : I ≠ D := (below I hIlt).2
  have hoff : ∀ o, ∀ p ∈ g o, p.1 ≠ I ∧ p.1 ≠ C ∧ p.1 ≠ D := fun o p hp => by
    obtain ⟨p', hp', e⟩ := U.addr (o' := src x y tx ty nn) p hp
    have hl : p'.1 < D := hDd ▸ Heap.lt_size (N p' hp').1
    rw [← e]
    exact ⟨offI p' hp', (below _ hl).1, (below _ hl).2⟩
  have hstI : ∀ {h : Heap} {i : Nat} {o : Obj}, h.get? I = some o → ∀ {h' : Heap}, h.IsListIter I ax i → h'.get? I = some o → h'.IsListIter I ax i := fun e _ st e' => by
    obtain ⟨o', q, r⟩ := st; rw [e] at q; cases q; exact ⟨_, e', r⟩
  have Wk := Walks.list (prog := prog) (w := w) hh I ax hIx vs.toArray
  have loop : ∀ s₃ : Shared, s₃ = { s₂ with heap := h₁, toks := s₂.toks + ([] : List (Str × Value)).length } →
      codeAny (model prog w) A (.compLoop (.DictComp kx vx [⟨.Name xn px, iter, [ct], 0⟩] scope pos) 0 (.ref I) (.ref D) (compEnvC scope cl C env))
        (RR (.ref D) C) s₃ := by
    rintro s₃ rfl
    refine codeAny_compLoop_testsD
      (fun k s' => ∃ h' tk i kvs oD m' x y tx ty, s' = { s₂ with heap := h', toks := tk } ∧ i ≤ vs.length ∧ k = vs.length + 1 - i ∧ (kvs.map (·.1)).Sublist ((nts.map (·.1)).take i) ∧ h'.IsListIter I ax i ∧ Fr h₀ L h' m ∧ h'.Ns C m' ∧ News h₀ L h' ((D, oD) :: g (src x y tx ty nn)) ∧
        oD.IsDictOf (PySem.strKind prog w) kvs ∧ (∀ q ∈ kvs, R q.2) ∧ SrcInv x y) ?_ (vs.length + 1) ?_
    · rintro k s' ⟨h', tk, i, kvs, oD, m', x, y, tx, ty, rfl, hi, rfl, hyl, hst', F', hn', N', hdo, hgood, i1, i2, i3⟩
      have hl' : h'.IsList ax vs.toArray := hlist N' fun p hp => List.mem_cons_of_mem _ hp
      by_cases hlt : i < vs.length
      · refine Wk.item i _ _ _ (by simpa using hlt) ⟨hst', hl'⟩ fun v h₂ tk₂ hPv hst₂ hk₂ => ?_
        obtain ⟨q, hq, rfl⟩ : ∃ q, nts[i]? = some q ∧ v = Value.str q.1 q.2 := by
          have hPv' : vs[i]? = some v := by simpa using hPv
          rw [hv, List.getElem?_map] at hPv'
          obtain ⟨q, e1, e2⟩ := Option.map_eq_some_iff.mp hPv'
          exact ⟨q, e1, e2.symm⟩
        have hvm : q ∈ nts := List.mem_of_getElem? hq
        have hqn : (nts.map (·.1))[i]? = some q.1 := by rw [List.getElem?_map, hq]; rfl
        have htk : (nts.map (·.1)).take (i + 1) = (nts.map (·.1)).take i ++ [q.1] := by rw [List.take_add_one, hqn]; rfl
        have hkl : kvs.length ≤ i := by
          have := hyl.length_le
          rw [List.length_map, List.length_take] at this
          exact Nat.le_trans this (Nat.min_le_left _ _)
        have hqk : q.1 ∉ kvs.map (·.1) := fun hc => by
          have h1 := hyl.subset hc
          have h2 : ((nts.map (·.1)).take (i + 1)).Nodup := hnd.sublist (List.take_sublist _ _)
          rw [htk] at h2
          exact (List.nodup_append.mp h2).2.2 _ h1 _ (List.mem_singleton.mpr rfl) rfl
        refine wpAny_assign_Name (wpAny_storeName_local (lookup_relabel_local hx) (hn'.at' fun o e => hk₂ _ o (by simpa using Ne.symm hCI) e) (fun h₃ hn₃ hs₃ => ?_) (by simp [compEnvC, relabel, hkind]))
        refine wpAny_tests_one ?_
        have hst₃ : h₃.IsListIter I ax (i + 1) := hst₂.1.at fun o e => hs₃.extBut I o hCI e
        obtain ⟨oI, heI⟩ : ∃ o, h₃.get? I = some o := let ⟨o, e, _⟩ := hst₃; ⟨o, e⟩
        obtain ⟨oC, heC, hoC⟩ := ns_obj hn₃
        have F₃ : Fr h₀ L h₃ m := (fr_but F' hk₂ hIL hI₀).change hs₃ hCL hC₀
        have N₂ : News h₀ L h₂ ((D, oD) :: g (src x y tx ty nn)) := news_but N' hk₂ fun p hp => by
          rcases List.mem_cons.mp hp with rfl | hp
          · exact Ne.symm hDI
          · exact (hoff _ p hp).1
        have N₃ : News h₀ L h₃ ((I, oI) :: (C, oC) :: (D, oD) :: g (src x y tx ty nn)) := fun p hp => by
          rcases List.mem_cons.mp hp with rfl | hp
          · exact ⟨heI, Ne.symm hIL, hI₀⟩
          · rcases List.mem_cons.mp hp with rfl | hp
            · exact ⟨heC, hCL, hC₀⟩
            · have z := N₂ p hp
              refine ⟨hs₃.extBut _ _ ?_ z.1, z.2⟩
              rcases List.mem_cons.mp hp with rfl | hp
              · exact hDC
              · exact (hoff _ p hp).2.1
        have hla := hoff _ _ (U.hole (src x y tx ty nn))
        refine wpAny_mono (turn q I oI C oC D oD _ h₃ _ x y tx ty _ hvm hoC (by simp) i1 i2 i3 F₃ N₃ (.tail (Ne.symm hla.1) (.tail (Ne.symm hla.2.1) (.tail (Ne.symm hla.2.2) U)))) (fun ok s₄ h₄ => ?_) fun _ _ e => e
        cases ok with
        | true =>
          simp only [if_true] at h₄ ⊢
          refine wpAny_mono h₄ (fun kv s₅ h₅ => wpAny_mono h₅ (fun vv s₆ h₆ => ?_) fun _ _ e => e) fun _ _ e => e
          obtain ⟨t, rfl, hr, x', y', tx', ty', h₆, tk₆, rfl, inv', F₆, N₆⟩ := h₆
          have zI := (N₆ (I, oI) List.mem_cons_self).1
          have zC := (N₆ (C, oC) (List.mem_cons_of_mem _ List.mem_cons_self)).1
          have zD := (N₆ (D, oD) (List.mem_cons_of_mem _ (List.mem_cons_of_mem _ List.mem_cons_self))).1
          have N₆' : News h₀ L h₆ (g (src x' y' tx' ty' nn)) := fun p hp => N₆ p (List.mem_cons_of_mem _ (List.mem_cons_of_mem _ (List.mem_cons_of_mem _ hp)))
          refine wpAny_dictSet_pairs (hsz := by rw [PySem.sizeLine_eq]; omega) (strKind_is prog w q.1 t) (Heap.dictOf_iff.mpr ⟨oD, zD, hdo⟩) fun h₇ hl₇ hs₇ => ?_
          obtain ⟨oD', zD', hdo'⟩ := Heap.dictOf_iff.mp hl₇
          rw [stored_new hqk] at hdo'
          refine ⟨vs.length + 1 - (i + 1), by omega, h₇, _, i + 1, kvs ++ [(q.1, vv)], oD', _, x', y', tx', ty', rfl, hlt, rfl, by rw [htk, List.map_append]; exact hyl.append (List.Sublist.refl _), (hstI heI hst₃ zI).at fun o e => hs₇.extBut I o hDI e, F₆.change hs₇ hDL hD₀,
            (hoC.ns zC).sameBut hs₇ (Ne.symm hDC), fun p hp => ?_, hdo', fun q' hq' => by (rcases List.mem_append.mp hq' with h8 | h8); exact hgood q' h8; (rw [List.mem_singleton.mp h8]; exact hr), inv'⟩
          rcases List.mem_cons.mp hp with rfl | hp
          · exact ⟨zD', hDL, hD₀⟩
          · exact ⟨hs₇.extBut _ _ (hoff _ p hp).2.2 (N₆' p hp).1, (N₆' p hp).2⟩
        | false =>
          simp only [Bool.false_eq_true, if_false] at h₄ ⊢
          obtain ⟨_, x', y', tx', ty', h₆, tk₆, rfl, inv', F₆, N₆⟩ := h₄
          have zI := (N₆ (I, oI) List.mem_cons_self).1
          have zC := (N₆ (C, oC) (List.mem_cons_of_mem _ List.mem_cons_self)).1
          refine ⟨vs.length + 1 - (i + 1), by omega, h₆, tk₆, i + 1, kvs, oD, _, x', y', tx', ty', rfl, hlt, rfl, by rw [htk]; exact hyl.trans (List.sublist_append_left _ _), hstI heI hst₃ zI, F₆, hoC.ns zC, fun p hp => ?_, hdo, hgood, inv'⟩
          rcases List.mem_cons.mp hp with rfl | hp
          · exact N₆ _ (List.mem_cons_of_mem _ (List.mem_cons_of_mem _ List.mem_cons_self))
          · exact N₆ p (List.mem_cons_of_mem _ (List.mem_cons_of_mem _ (List.mem_cons_of_mem _ hp)))
      · obtain rfl : i = vs.length := Nat.le_antisymm hi (Nat.not_lt.mp hlt)
        refine Wk.done _ _ _ (by rw [List.size_toArray]; exact ⟨hst', hl'⟩) fun h₂ tk₂ hk₂ => ?_
        exact hRR D oD C h₂ tk₂ _ kvs x y tx ty (fr_but F' hk₂ hIL hI₀) (news_but N' hk₂ fun p hp => by
          rcases List.mem_cons.mp hp with rfl | hp
          · exact Ne.symm hDI
          · exact (hoff _ p hp).1) (fun o p hp => (hoff o p hp).2) (hn'.at' fun o e => hk₂ _ o (by simpa using Ne.symm hCI) e) hC₀ hCL (Ne.symm hDC) (Nat.le_refl _) hdo (hyl.trans (List.take_sublist _ _)) hgood ⟨i1, i2, i3⟩
    · obtain ⟨oD, zD, hdo⟩ := Heap.dictOf_iff.mp hacc
      refine ⟨h₁, _, 0, [], oD, _, x, y, tx, ty, rfl, Nat.zero_le _, rfl, List.nil_sublist _, hst.at fun o e => old _ o e, F.keeps old, hns₁, fun p hp => ?_, hdo, (fun q hq => nomatch hq), inv⟩
      rcases List.mem_cons.mp hp with rfl | hp
      · exact ⟨zD, hDL, hD₀⟩
      · exact ⟨old _ _ (N p hp).1, (N p hp).2⟩
  refine codeAny_compStart_dict (loop _ rfl) (Wk.self 0 _ _ _ ⟨hst.at fun o e => old _ o e, ?_⟩ (loop _ rfl))
  exact ⟨_, old _ _ (N _ (hax _)).1, rfl, _, rfl⟩

/-- what the dict comprehension asks of its source -/
def DictSrc (prog : Program) (w : World) (A : Around) (h₀ : Heap) (L : Addr) (m : Str → Option Value) (env : Env) (ct kx vx : PySem.Expr) (xn yn : Str) (scope : Scope) (cl : List (Str × Addr)) (Q : Flow → Shared → Prop) (xv : Value) (s₁ : Shared) : Prop :=
  ∃ (ax la : Addr) (vs : List Value) (nt nn : Nat) (x y : Int) (tx ty : Tok) (g : Obj → List (Addr × Obj)) (nts : List (Str × Tok)) (R : Value → Prop), xv = .ref ax ∧ A.handled = none ∧ vs = nts.map (fun q => Value.str q.1 q.2) ∧ (nts.map (·.1)).Nodup ∧ vs.length ≤ 64 ∧ Fr h₀ L s₁.heap m ∧ News h₀ L s₁.heap (g (src x y tx ty nn)) ∧ UpdG la g ∧ SrcInv x y ∧ (∀ o, (ax, W.listOf vs.toArray nt) ∈ g o) ∧
    (∀ (q : Str × Tok) I oI C oC D oD m₂ h tk x y tx ty (E' : Value → Shared → Prop), q ∈ nts → NsObj oC m₂ → m₂ xn = some (.str q.1 q.2) → 0 ≤ x → 0 ≤ y → y < 2147483647 → Fr h₀ L h m → News h₀ L h ((I, oI) :: (C, oC) :: (D, oD) :: g (src x y tx ty nn)) → UpdG la (fun o => (I, oI) :: (C, oC) :: (D, oD) :: g o) →
      wpAny (model prog w) A (isTrue ct (compEnvC scope cl C env) (eval ct (compEnvC scope cl C env))) (fun ok s' => if ok = true then
          wpAny (model prog w) A (eval kx (compEnvC scope cl C env)) (fun kv s₄ => wpAny (model prog w) A (eval vx (compEnvC scope cl C env)) (fun vv s₅ => DElt h₀ L m { s₁ with heap := h, toks := tk } [(I, oI), (C, oC), (D, oD)] g nn q.1 R kv vv s₅) E' s₄) E' s'
        else GElt h₀ L m { s₁ with heap := h, toks := tk } [(I, oI), (C, oC), (D, oD)] g nn (fun _ => True) .none s') E' { s₁ with heap := h, toks := tk }) ∧
    ∀ D oD kvs h' tk x y tx ty, 0 ≤ x → 0 ≤ y → y < 2147483647 → Fr h₀ L h' (fun z => if z = yn then some (.ref D) else m z) → News h₀ L h' ((D, oD) :: g (src x y tx ty nn)) → UpdG la (fun o => (D, oD) :: g o) → (∀ o, ∀ p ∈ g o, p.1 ≠ D) → s₁.heap.objs.size < D → oD.IsDictOf (PySem.strKind prog w) kvs → (kvs.map (·.1)).Sublist (nts.map (·.1)) → (∀ q ∈ kvs, R q.2) → Q .next { s₁ with heap := h', toks := tk }
theorem UpdF.src {o : Obj} {l : List (Addr × Obj)} (U : UpdF la o l g) : l = g o := by
  obtain ⟨pre, post, rfl, hg, _, _⟩ := U.split
  exact (hg o).symm
theorem UpdF.other {o o' z : Obj} {l : List (Addr × Obj)} {b : Addr} (U : UpdF la o l g) (hm : (b, z) ∈ l) (hne : b ≠ la) : (b, z) ∈ g o' := by
  obtain ⟨pre, post, rfl, hg, _, _⟩ := U.split
  rw [hg]
  rcases List.mem_append.mp hm with h | h
  · exact List.mem_append_left _ h
  · rcases List.mem_cons.mp h with h | h
    · exact absurd (congrArg Prod.fst h) hne
    · exact List.mem_append_right _ (List.mem_cons_of_mem _ h)
theorem DictSrc.intro {ct kx vx : PySem.Expr} {xn yn : Str} {scope : Scope} {cl : List (Str × Addr)} {Q : Flow → Shared → Prop} {ax : Addr} {vs : List Value} {nt : Nat} {x y : Int} {tx ty : Tok} {news : List (Addr × Obj)} {nts : List (Str × Tok)} (R : Value → Prop)
    (_hs : (la, src x y tx ty nn) ∈ news) (hm : (ax, W.listOf vs.toArray nt) ∈ news) (U : UpdF la (src x y tx ty nn) news g) (hne : ax ≠ la) (hbig : h₀.NoLimit) (hh : A.handled = none) (hv : vs = nts.map fun q => Value.str q.1 q.2) (hnd : (nts.map (·.1)).Nodup) (hsz : vs.length ≤ 64) (F : Fr h₀ L s.heap m) (N : News h₀ L s.heap news) (hx : 0 ≤ x) (hy : 0 ≤ y) (hy2 : y < 2147483647)
    (turn : ∀ (q : Str × Tok) I oI C oC D oD m₂ h tk x y tx ty (E' : Value → Shared → Prop), q ∈ nts → NsObj oC m₂ → m₂ xn = some (.str q.1 q.2) → 0 ≤ x → 0 ≤ y → y < 2147483647 → Fr h₀ L h m → News h₀ L h ((I, oI) :: (C, oC) :: (D, oD) :: g (src x y tx ty nn)) → UpdG la (fun o => (I, oI) :: (C, oC) :: (D, oD) :: g o) →
      wpAny (model prog w) A (isTrue ct (compEnvC scope cl C env) (eval ct (compEnvC scope cl C env))) (fun ok s' => if ok = true then
          wpAny (model prog w) A (eval kx (compEnvC scope cl C env)) (fun kv s₄ => wpAny (model prog w) A (eval vx (compEnvC scope cl C env)) (fun vv s₅ => DElt h₀ L m { s with heap := h, toks := tk } [(I, oI), (C, oC), (D, oD)] g nn q.1 R kv vv s₅) E' s₄) E' s'
        else GElt h₀ L m { s with heap := h, toks := tk } [(I, oI), (C, oC), (D, oD)] g nn (fun _ => True) .none s') E' { s with heap := h, toks := tk })
    (fin : ∀ D oD kvs h' tk x y tx ty, 0 ≤ x → 0 ≤ y → y < 2147483647 → Fr h₀ L h' (fun z => if z = yn then some (.ref D) else m z) → News h₀ L h' ((D, oD) :: g (src x y tx ty nn)) → UpdG la (fun o => (D, oD) :: g o) → (∀ o, ∀ p ∈ g o, p.1 ≠ D) → (D == sysModules) = false → oD.IsDictOf (PySem.strKind prog w) kvs → (kvs.map (·.1)).Sublist (nts.map (·.1)) → (∀ q ∈ kvs, R q.2) → Q .next { s with heap := h', toks := tk }) :
    DictSrc prog w A h₀ L m env ct kx vx xn yn scope cl Q (.ref ax) s :=
  ⟨ax, la, vs, nt, nn, x, y, tx, ty, g, nts, R, rfl, hh, hv, hnd, hsz, F, by rw [← UpdF.src U]; exact N, .of U, ⟨hx, hy, hy2⟩, fun _ => UpdF.other U hm hne, turn, fun D oD kvs h' tk x y tx ty a1 a2 a3 F' N' U' ap lt => fin D oD kvs h' tk x y tx ty a1 a2 a3 F' N' U' ap (beq_eq_false_iff_ne.mpr (Nat.ne_of_gt (Nat.lt_trans (modules_low hbig) (Nat.lt_trans (Nat.lt_of_le_of_lt F.above F.ns.lt) lt))))⟩
theorem Assign_DictComp_draw {ct kx vx iter : PySem.Expr} {xn yn : Str} {px py : Pos} {scope : Scope} {cl : List (Str × Addr)} {pos spos : Pos} {Q : Flow → Shared → Prop} (F₀ : Fr h₀ L s.heap m) (hLe : env.locals = L)
    (hsw : swapsWith (.DictComp kx vx [⟨.Name xn px, iter, [ct], 0⟩] scope pos) (some (.Name yn py)) spos.line env = pure true)
    (hclos : closureFor scope env = pure cl) (hcell : ∀ z ∈ scope.names, z.2 ≠ .cell) (hkind : scope.kind = .function)
    (hnames : ∀ z ∈ scope.names, z.2 = .local → scope.names.lookup z.1 = some .local) (hx : scope.names.lookup xn = some .local)
    (hy : env.kindOf yn = some .local) (hp : (env.scope.kind == .class || (env.scope.kind == .module && env.locals != env.globals)) = false)
    (h : wpAny (model prog w) A (eval iter env) (DictSrc prog w A h₀ L m env ct kx vx xn yn scope cl Q) E s)
    (hs : ∀ x, foldedSetIterable iter env x = pure x := by intro _; rfl) :
    wpAny (model prog w) A (exec (.Assign [.Name yn py] (.DictComp kx vx [⟨.Name xn px, iter, [ct], 0⟩] scope pos) spos) env) Q E s := by
  subst hLe
  rw [exec_Assign_Name_used _ _ _ _ hsw]
  refine wpAny_bind (wpAny_standAt (wpAny_bind ?_))
  show wpAny _ A (do let _ ← comprehension (.DictComp kx vx [⟨.Name xn px, iter, [ct], 0⟩] scope pos) scope env _ newDict false (eval iter env) (some (assign (.Name yn py) env))) _ _ s
  refine wpAny_bind (wpAny_mono (wpAny_comprehension_free (use := some (assign (.Name yn py) env)) (Q := fun _ s' => Q .next s') rfl hs hclos hkind hnames
    (wpAny_mono h (fun xv s₁ h₁ => ?_) fun _ _ e => e)) (fun _ s' hq => wpAny_pure (wpAny_pure hq)) fun _ _ e => e)
  obtain ⟨ax, la, vs, nt, nn, x, y, tx, ty, g, nts, R, rfl, hh, hv, hnd, hsz, F, N, U, inv, hax, turn, cont⟩ := h₁
  have hl : s₁.heap.IsList ax vs.toArray := ⟨_, (N _ (hax _)).1, rfl, _, rfl⟩
  have hlt : ax < s₁.heap.objs.size := by obtain ⟨_, e, _⟩ := hl; exact Heap.lt_size e
  refine wpAny_pyIter_list hl ?_
  have up : ∀ b o, s₁.heap.get? b = some o → (s₁.heap.push { cls := .type "list_iterator", data := .fields #[.ref ax, .int 0 0] }).get? b = some o := fun b o e => Heap.get?_push_of_some _ e
  refine dict_block (U := U) (R := R) (nn := nn) hh (Nat.ne_of_lt hlt) hv hnd hsz hcell hkind hx ⟨_, Heap.get?_push_size _ rfl, rfl, rfl⟩ (F.keeps up) (N.grown up) inv (Nat.ne_of_lt F.ns.lt) (next_is_new F) ?_ (fun p hp => Nat.ne_of_lt (Heap.lt_size (N p hp).1)) hax turn ?_
  · show s₁.heap.objs.size < (s₁.heap.push _).objs.size
    rw [Heap.size_push]; exact Nat.lt_succ_self _
  · intro D oD C h' tk m' kvs x' y' tx' ty' F' N' offC hn hC₀ hCL hCD hDs hdo hlen hgood inv'
    show wpAny _ A (assign (.Name yn py) env (.ref D)) _ _ _
    refine wpAny_assign_Name (wpAny_storeName_local hy F'.ns (fun h₂ hn₂ hs₂ => ?_) hp)
    have hL₀ : h₀.get? env.locals = none := Heap.get?_none_of_le F'.above
    have F₂ : Fr h₀ env.locals h₂ (fun z => if z = yn then some (.ref D) else m z) := ⟨hn₂, fun b o e => hs₂.extBut b o (fun q => by rw [q, hL₀] at e; cases e) (F'.keep b o e), F'.above⟩
    have hDlt : s₁.heap.objs.size < D := Nat.lt_of_lt_of_le (by show s₁.heap.objs.size < (s₁.heap.push _).objs.size; rw [Heap.size_push]; exact Nat.lt_succ_self _) hDs
    refine ⟨m', hn.sameBut hs₂ hCL, fun h'' hs'' => cont D oD kvs h'' _ x' y' tx' ty' inv'.1 inv'.2.1 inv'.2.2 (F₂.change hs'' hCL hC₀) (fun p hp => ?_) (.tail (Ne.symm (offC _ _ (U.hole default)).2) U) (fun o p hp => (offC o p hp).2) hDlt hdo hlen hgood⟩
    have z : h₂.get? p.1 = some p.2 := hs₂.extBut _ _ (N' p hp).2.1 (N' p hp).1
    refine ⟨hs''.extBut _ _ ?_ z, (N' p hp).2⟩
    rcases List.mem_cons.mp hp with rfl | hp
    · exact Ne.symm hCD
    · exact (offC _ p hp).1
end
end
-- J2
section
section
open PyProof.Rows.LCg
variable {prog : Program} {w : World} {A : Around} {E : Value → Shared → Prop} {s : Shared} {h₀ : Heap} {L : Addr} {m : Str → Option Value} {env : Env} {g : Obj → List (Addr × Obj)} {la : Addr} {nn : Nat} {news : List (Addr × Obj)}
/-- the tuples lie elsewhere than at these addresses -/
def ApartT (tups : List (Addr × Obj)) (l : List Addr) : Prop := ∀ b ∈ l, ∀ p ∈ tups, p.1 ≠ b
theorem ApartT.at {tups : List (Addr × Obj)} {l : List Addr} {b : Addr} (h : ApartT tups l) (hb : b ∈ l) : ∀ p ∈ tups, p.1 ≠ b := h b hb
/-- a turn's answer: one more pair, and the source drawn from -/
def PElt (h₀ : Heap) (L : Addr) (m : Str → Option Value) (s : Shared) (own : List (Addr × Obj)) (g : Obj → List (Addr × Obj)) (n : Nat) (tups : List (Addr × Obj)) (KV : Str → Value → Prop) (v : Value) (s' : Shared) : Prop :=
  ∃ T k t v' nt x y tx ty h' tk, v = .ref T ∧ KV k v' ∧ s' = { s with heap := h', toks := tk } ∧ SrcInv x y ∧ Fr h₀ L h' m ∧ News h₀ L h' ((T, pairO k t v' nt) :: (own ++ (g (src x y tx ty n) ++ tups))) ∧ Off1 T (own ++ g (src x y tx ty n))
theorem PElt.intro {own all tups : List (Addr × Obj)} {n : Nat} {KV : Str → Value → Prop} {T : Addr} {k : Str} {t : Tok} {v' : Value} {nt : Nat} {h' : Heap} {tk : Nat} {x y : Int} {tx ty : Tok}
    (r : KV k v') (F : Fr h₀ L h' m) (N : News h₀ L h' all) (hs : ∀ p ∈ (T, pairO k t v' nt) :: (own ++ (g (src x y tx ty n) ++ tups)), p ∈ all) (i1 : 0 ≤ x) (i2 : 0 ≤ y) (i3 : y < 2147483647) (o1 : Off1 T (own ++ g (src x y tx ty n))) :
    PElt h₀ L m s own g n tups KV (.ref T) { s with heap := h', toks := tk } := ⟨T, k, t, v', nt, x, y, tx, ty, h', tk, rfl, r, rfl, ⟨i1, i2, i3⟩, F, news_sub N hs, o1⟩
theorem updG_app {tups : List (Addr × Obj)} (U : UpdG la g) (h : ∀ p ∈ tups, p.1 ≠ la) : UpdG la (fun o => g o ++ tups) := by
  obtain ⟨pre, post, e0, hg, hp1, hp2⟩ := (U default).split
  intro o
  have e : (fun o => g o ++ tups) = fun o => pre ++ (la, o) :: (post ++ tups) := by
    funext o'; rw [hg]; simp
  rw [e]
  exact upd_of (fun p hp => by
    rcases List.mem_append.mp hp with hp | hp
    · exact hp2 p hp
    · exact h p hp) hp1
theorem gathT {elt : PySem.Expr} {xn : Str} {scope : Scope} {cl : List (Str × Addr)} {P : Nat → Value → Prop} {Fin : List Value → List (Addr × Obj) → Prop} {n : Nat} {x y : Int} {tx ty : Tok} (KV : Str → Value → Prop)
    (_hm : (la, src x y tx ty nn) ∈ news) (U : UpdF la (src x y tx ty nn) news g) (hx : 0 ≤ x) (hy : 0 ≤ y) (hy2 : y < 2147483647)
    (turn : ∀ i v I oI C oC D m₂ ys tups h tk x y tx ty (E' : Value → Shared → Prop), P i v → NsObj oC m₂ → m₂ xn = some v → 0 ≤ x → 0 ≤ y → y < 2147483647 → Fr h₀ L h m → News h₀ L h ((I, oI) :: (C, oC) :: (D, lst ys) :: (g (src x y tx ty nn) ++ tups)) →
      UpdG la (fun o => (I, oI) :: (C, oC) :: (D, lst ys) :: (g o ++ tups)) →
      wpAny (model prog w) A (eval elt (compEnvC scope cl C env)) (fun v s' => PElt h₀ L m { s with heap := h, toks := tk } [(I, oI), (C, oC), (D, lst ys)] g nn tups KV v s') E' { s with heap := h, toks := tk })
    (fin : ∀ ys qs tups x y tx ty, 0 ≤ x → 0 ≤ y → y < 2147483647 → ys.length = n → TupsIn ys qs tups → (∀ q ∈ qs, KV q.1 q.2) → ApartT tups ((g (src x y tx ty nn)).map (·.1)) → UpdG la (fun o => g o ++ tups) → Fin ys (g (src x y tx ty nn) ++ tups)) :
    CompRest prog w A h₀ L m env elt xn scope cl s (fun _ => True) P Fin n 0 [] news := by
  have UG := UpdG.of U
  have key : ∀ (j i : Nat) (ys : List Value) (qs : List (Str × Value)) (tups : List (Addr × Obj)) (x y : Int) (tx ty : Tok), i + j = n → ys.length = i → TupsIn ys qs tups → (∀ q ∈ qs, KV q.1 q.2) → ApartT tups ((g (src x y tx ty nn)).map (·.1)) → 0 ≤ x → 0 ≤ y → y < 2147483647 →
      CompRest prog w A h₀ L m env elt xn scope cl s (fun _ => True) P Fin j i ys (g (src x y tx ty nn) ++ tups) := by
    intro j
    induction j with
    | zero =>
      intro i ys qs tups x y tx ty hi hl hT hK hA h1 h2 h3
      exact CompRest.zero (fin ys qs tups x y tx ty h1 h2 h3 (by omega) hT hK hA (updG_app UG fun p hp => hA _ (List.mem_map_of_mem (UG.hole _)) p hp))
    | succ j ih =>
      intro i ys qs tups x y tx ty hi hl hT hK hA h1 h2 h3
      refine CompRest.succ ?_
      intro v I oI C oC D m₂ h tk E' hv hC hx F N off ne
      have offm := off.mem
      have hla := offm _ (List.mem_append_left _ (UG.hole (src x y tx ty nn)))
      refine wpAny_mono (turn i v I oI C oC D m₂ ys tups h tk x y tx ty E' hv hC hx h1 h2 h3 F N (.tail (Ne.symm hla.1) (.tail (Ne.symm hla.2.1) (.tail (Ne.symm hla.2.2) (updG_app UG fun p hp => hA _ (List.mem_map_of_mem (UG.hole _)) p hp))))) (fun v' s₂ hq => ?_) fun _ _ e => e
      obtain ⟨T, k, t, v', nt, x', y', tx', ty', h', tk', rfl, hr, rfl, ⟨i1, i2, i3⟩, F', N', o1⟩ := hq
      have o1m := off1_all o1
      have addr : ∀ p ∈ g (src x' y' tx' ty' nn), ∃ p' ∈ g (src x y tx ty nn), p'.1 = p.1 := fun p hp => UG.addr p hp
      refine ⟨h', tk', g (src x' y' tx' ty' nn) ++ ((T, pairO k t v' nt) :: tups), rfl, F', fun p hp => N' p ?_, Off3.of fun p hp => ?_, trivial, ih (i + 1) (ys ++ [.ref T]) (qs ++ [(k, v')]) ((T, pairO k t v' nt) :: tups) x' y' tx' ty' (by omega) (by simp [hl]) (TupsIn.snoc (n := nt) (t := t) (hT.mono fun p hp => List.mem_cons_of_mem _ hp) List.mem_cons_self) ?_ ?_ i1 i2 i3⟩
      · simp only [List.mem_cons, List.mem_append, List.not_mem_nil, or_false] at hp ⊢
        rcases hp with h | h | h | h | h | h <;> simp [h]
      · rcases List.mem_append.mp hp with hp | hp
        · obtain ⟨p', hp', e⟩ := addr p hp
          rw [← e]
          exact offm _ (List.mem_append_left _ hp')
        · rcases List.mem_cons.mp hp with rfl | hp
          · exact ⟨fun e => o1m (I, oI) (by simp) e.symm, fun e => o1m (C, oC) (by simp) e.symm, fun e => o1m (D, lst ys) (by simp) e.symm⟩
          · exact offm _ (List.mem_append_right _ hp)
      · intro q hq
        rcases List.mem_append.mp hq with hq | hq
        · exact hK q hq
        · rw [List.mem_singleton.mp hq]; exact hr
      · intro b hb p hp
        rcases List.mem_cons.mp hp with rfl | hp
        · obtain ⟨q, hq, rfl⟩ := List.mem_map.mp hb
          exact fun e => o1m q (List.mem_append_right _ hq) e.symm
        · obtain ⟨q, hq, rfl⟩ := List.mem_map.mp hb
          obtain ⟨q', hq', e⟩ := addr q hq
          rw [← e]
          exact hA _ (List.mem_map_of_mem hq') p hp
  have := key n 0 [] [] [] x y tx ty (by omega) rfl .nil (fun _ h => nomatch h) (fun _ _ _ h => nomatch h) hx hy hy2
  rw [List.append_nil] at this
  rw [UpdF.src U]
  exact this
end
end
-- J3
section
set_option maxRecDepth 100000
section
variable {prog : Program} {w : World} {A : Around} {E : Value → Shared → Prop} {s : Shared} {h₀ : Heap} {L : Addr} {m : Str → Option Value} {news all : List (Addr × Obj)} {g : Obj → List (Addr × Obj)}
/-- fewer than two values: sorting changes nothing -/
theorem few_sort {D : Addr} {its : Array Value} {n : Nat} {Q : Value → Shared → Prop} (F : Fr h₀ L s.heap m) (N : News h₀ L s.heap ((D, listOf its n) :: news)) (hn : ∀ p ∈ news, p.1 ≠ D) (hl : its.size < 2)
    (h : ∀ e1 h', Fr h₀ L h' m → News h₀ L h' ((D, seqObj "list" its e1) :: news) → Q .none { s with heap := h' }) :
    wpAny (model prog w) A (call (.builtin "list.sort") [.ref D]) Q E s := by
  have nz := N _ List.mem_cons_self
  have ho : s.heap.get? D = some (seqObj "list" its n) := nz.1
  have ha : D < s.heap.objs.size := Heap.lt_size ho
  have N₀ : News h₀ L s.heap news := fun p hp => N p (List.mem_cons_of_mem _ hp)
  refine wpAny_call_entry slot_list_sort ⟨_, nz.1, rfl⟩ entry_list_sort ?_ (args_list_sort _)
  have s1 := Heap.SameBut.update s.heap D (Obj.mapSeq fun _ => (#[] : Array Value))
  obtain ⟨e1, ho1⟩ : ∃ e1, (s.heap.update D (Obj.mapSeq fun _ => (#[] : Array Value))).get? D = some (seqObj "list" #[] e1) := ⟨_, get?_update_seq ho fun _ => #[]⟩
  have F3 : Fr h₀ L (((s.heap.update D (Obj.mapSeq fun _ => (#[] : Array Value))).push (seqObj "tuple" its.toList.toArray 0)).push (seqObj "list" #[] 0)) m := ((kas_fr F s1 nz.2.1 nz.2.2).push _).push _
  have N2 : News h₀ L (((s.heap.update D (Obj.mapSeq fun _ => (#[] : Array Value))).push (seqObj "tuple" its.toList.toArray 0)).push (seqObj "list" #[] 0)) news :=
    (kas_news N₀ s1 hn).grown fun b x e => Heap.get?_push_of_some _ (Heap.get?_push_of_some _ e)
  have ho6 : (((s.heap.update D (Obj.mapSeq fun _ => (#[] : Array Value))).push (seqObj "tuple" its.toList.toArray 0)).push (seqObj "list" #[] 0)).get? D = some (seqObj "list" #[] e1) := Heap.get?_push_of_some _ (Heap.get?_push_of_some _ ho1)
  rw [list_sort_plain]
  refine wpAny_bind (listItems_at ho rfl ?_)
  refine wpAny_bind (listUpdate_at ho rfl ?_ (by rw [sizeLine_eq]; omega) (Nat.zero_le _))
  refine wpAny_bind (seqEpoch_at ho1 rfl ?_)
  refine wpAny_bind (wpAny_newTuple ?_ (by rw [Array.length_toList, sizeLine_eq]; omega))
  refine wpAny_bind (wpAny_newList ?_ (Nat.zero_le _))
  refine wpAny_holding ?_
  show wpAny (model prog w) _ _ _ _ { s with heap := ((s.heap.update D (Obj.mapSeq fun _ => (#[] : Array Value))).push (seqObj "tuple" its.toList.toArray 0)).push (seqObj "list" #[] 0) }
  dsimp only
  rw [if_pos hl, if_pos hl]
  refine wpAny_bind (wpAny_pure ?_)
  rw [StateT.run_pure]
  refine wpAny_bind (wpAny_pure ?_)
  dsimp only
  have hout : (arrOf (SortSt.mk' general' (its.zip its) #[] 7 none)).map (·.2) = its := by
    show (its.zip its).map (·.2) = its
    apply Array.ext
    · simp
    · intro i h1 h2; simp
  rw [hout]
  refine wpAny_bind (seqEpoch_at ho6 rfl ?_)
  refine wpAny_bind (listUpdate_at ho6 rfl ?_ (Nat.zero_le _) (by rw [sizeLine_eq]; omega))
  simp only [bne_self_eq_false, Bool.false_eq_true, if_false]
  have s2 := Heap.SameBut.update (((s.heap.update D (Obj.mapSeq fun _ => (#[] : Array Value))).push (seqObj "tuple" its.toList.toArray 0)).push (seqObj "list" #[] 0)) D (Obj.mapSeq fun _ => its)
  obtain ⟨c2, hc2⟩ : ∃ c2, ((((s.heap.update D (Obj.mapSeq fun _ => (#[] : Array Value))).push (seqObj "tuple" its.toList.toArray 0)).push (seqObj "list" #[] 0)).update D (Obj.mapSeq fun _ => its)).get? D = some (seqObj "list" its c2) := ⟨_, get?_update_seq ho6 fun _ => its⟩
  refine wpAny_pure ⟨_, rfl, h c2 _ (kas_fr F3 s2 nz.2.1 nz.2.2) fun p hp => ?_⟩
  rcases List.mem_cons.mp hp with rfl | hp
  · exact ⟨hc2, nz.2⟩
  · exact kas_news N2 s2 hn p hp
theorem sub1 {α : Type} {l : List α} {c : α} (h : l.Sublist [c]) : l = [] ∨ l = [c] := by
  cases h with
  | cons _ h => exact .inl (List.sublist_nil.mp h)
  | cons_cons _ h => exact .inr (congrArg _ (List.sublist_nil.mp h))
theorem sub2 {α : Type} {l : List α} {b c : α} (h : l.Sublist [b, c]) : l = [] ∨ l = [c] ∨ l = [b] ∨ l = [b, c] := by
  cases h with
  | cons _ h => exact (sub1 h).elim .inl fun e => .inr (.inl e)
  | cons_cons _ h => exact (sub1 h).elim (fun e => .inr (.inr (.inl (congrArg _ e)))) fun e => .inr (.inr (.inr (congrArg _ e)))
theorem sub8 {α : Type} {l : List α} {a b c : α} (h : l.Sublist [a, b, c]) : l = [] ∨ l = [a] ∨ l = [b] ∨ l = [c] ∨ l = [a, b] ∨ l = [a, c] ∨ l = [b, c] ∨ l = [a, b, c] := by
  cases h with
  | cons _ h =>
    rcases sub2 h with e | e | e | e
    · exact .inl e
    · exact .inr (.inr (.inr (.inl e)))
    · exact .inr (.inr (.inl e))
    · exact .inr (.inr (.inr (.inr (.inr (.inr (.inl e))))))
  | cons_cons _ h =>
    rcases sub2 h with e | e | e | e
    · exact .inr (.inl (congrArg _ e))
    · exact .inr (.inr (.inr (.inr (.inr (.inl (congrArg _ e))))))
    · exact .inr (.inr (.inr (.inr (.inl (congrArg _ e)))))
    · exact .inr (.inr (.inr (.inr (.inr (.inr (.inr (congrArg _ e)))))))
theorem map_0 {kvs : List (Str × Value)} (h : kvs.map (·.1) = []) : kvs = [] := List.map_eq_nil_iff.mp h
theorem map_1 {kvs : List (Str × Value)} {a : Str} (h : kvs.map (·.1) = [a]) : ∃ v, kvs = [(a, v)] := by
  cases kvs with
  | nil => cases h
  | cons q r => obtain ⟨e1, e2⟩ := List.cons.inj h; subst e1; rw [map_0 e2]; exact ⟨q.2, rfl⟩
theorem map_2 {kvs : List (Str × Value)} {a b : Str} (h : kvs.map (·.1) = [a, b]) : ∃ v u, kvs = [(a, v), (b, u)] := by
  cases kvs with
  | nil => cases h
  | cons q r => obtain ⟨e1, e2⟩ := List.cons.inj h; subst e1; obtain ⟨v, rfl⟩ := map_1 e2; exact ⟨q.2, v, rfl⟩
theorem map_3 {kvs : List (Str × Value)} {a b c : Str} (h : kvs.map (·.1) = [a, b, c]) : ∃ v u x, kvs = [(a, v), (b, u), (c, x)] := by
  cases kvs with
  | nil => cases h
  | cons q r => obtain ⟨e1, e2⟩ := List.cons.inj h; subst e1; obtain ⟨v, u, rfl⟩ := map_2 e2; exact ⟨q.2, v, u, rfl⟩
/-- what sorting a view of items gives: new tuples, one for each pair, in the dict's own order -/
def Sorted (h₀ : Heap) (L : Addr) (m : Str → Option Value) (s : Shared) (all : List (Addr × Obj)) (kvs : List (Str × Value)) (v : Value) (s' : Shared) : Prop :=
  ∃ B its n tups h' tk, v = .ref B ∧ s' = { s with heap := h', toks := tk } ∧ Fr h₀ L h' m ∧ News h₀ L h' ((B, seqObj "list" its n) :: (tups ++ all)) ∧ TupsIn its.toList kvs tups ∧ (∀ p ∈ all, p.1 ≠ B) ∧ (∀ p ∈ all, ∀ q ∈ tups, q.1 ≠ p.1) ∧ ∀ p ∈ tups, p.2.cls = .type "tuple"
theorem tups_1 {a1 : Addr} {k1 : Str} {t1 : Tok} {v1 : Value} : TupsIn [Value.ref a1] [(k1, v1)] [(a1, ({ cls := .type "tuple", data := .seq #[.str k1 t1, v1] } : Obj))] :=
  TupsIn.snoc (n := 0) (t := t1) (ys := []) (qs := []) .nil List.mem_cons_self
theorem tups_2 {a1 a2 : Addr} {k1 k2 : Str} {t1 t2 : Tok} {v1 v2 : Value} : TupsIn [Value.ref a1, Value.ref a2] [(k1, v1), (k2, v2)] [(a2, ({ cls := .type "tuple", data := .seq #[.str k2 t2, v2] } : Obj)), (a1, ({ cls := .type "tuple", data := .seq #[.str k1 t1, v1] } : Obj))] :=
  TupsIn.snoc (n := 0) (t := t2) (ys := [.ref a1]) (qs := [(k1, v1)]) (tups_1.mono fun _ hp => List.mem_cons_of_mem _ hp) List.mem_cons_self
theorem tups_3 {a1 a2 a3 : Addr} {k1 k2 k3 : Str} {t1 t2 t3 : Tok} {v1 v2 v3 : Value} : TupsIn [Value.ref a1, Value.ref a2, Value.ref a3] [(k1, v1), (k2, v2), (k3, v3)] [(a3, ({ cls := .type "tuple", data := .seq #[.str k3 t3, v3] } : Obj)), (a2, ({ cls := .type "tuple", data := .seq #[.str k2 t2, v2] } : Obj)), (a1, ({ cls := .type "tuple", data := .seq #[.str k1 t1, v1] } : Obj))] :=
  TupsIn.snoc (n := 0) (t := t3) (ys := [.ref a1, .ref a2]) (qs := [(k1, v1), (k2, v2)]) (tups_2.mono fun _ hp => List.mem_cons_of_mem _ hp) List.mem_cons_self
set_option maxHeartbeats 4000000 in
theorem sorted_e0 {K : Frag} {v d : Addr} {od : Obj}  (X : K.In h₀) (hA : A.handled = none) (F : Fr h₀ L s.heap m) (N : News h₀ L s.heap all) (hv : (v, { cls := .type "dict_items", data := .fields #[.ref d] }) ∈ all) (hm : (d, od) ∈ all)
    (hod : od.IsDictOf (PySem.strKind prog w) []) : wpAny (model prog w) A (call (.builtin "sorted") [.ref v]) (Sorted h₀ L m s all []) E s := by
  refine kdx_sortedN (enc := PyData.str) (ps := []) hA F N hv hm hod (Nat.le_of_ble_eq_true rfl) (fun _ _ h => Value.isStrOf_shape h) rfl fun lo hl => ?_
  refine KdxOpen.nil fun B h' tk hlt F' N' => ?_
  simp only [List.nil_append, List.cons_append] at N' hlt ⊢
  have hne : ∀ p ∈ all, p.1 ≠ B := fun p hp => Nat.ne_of_lt (hlt p hp)
  exact few_sort F' N' (fun p hp => Nat.ne_of_lt (hlt p hp)) (Nat.le_of_ble_eq_true rfl) fun e1 h2 F2 N2 => ⟨B, _, e1, [], h2, _, rfl, rfl, F2, N2, .nil, hne, (fun p hp q hq => nomatch hq), fun q hq => nomatch hq⟩
set_option maxHeartbeats 4000000 in
theorem sorted_e {K : Frag} {v d : Addr} {od : Obj} {v1 : Value} (X : K.In h₀) (hA : A.handled = none) (F : Fr h₀ L s.heap m) (N : News h₀ L s.heap all) (hv : (v, { cls := .type "dict_items", data := .fields #[.ref d] }) ∈ all) (hm : (d, od) ∈ all)
    (hod : od.IsDictOf (PySem.strKind prog w) [(Str.ofString "", v1)]) : wpAny (model prog w) A (call (.builtin "sorted") [.ref v]) (Sorted h₀ L m s all [(Str.ofString "", v1)]) E s := by
  refine kdx_sortedN (enc := PyData.str) (ps := [(fun t => .str (Str.ofString "") t, v1)]) hA F N hv hm hod (Nat.le_of_ble_eq_true rfl) (fun _ _ h => Value.isStrOf_shape h) rfl fun lo hl => ?_
  refine KdxOpen.cons fun a1 t1 _ b1 _ => KdxOpen.nil fun B h' tk hlt F' N' => ?_
  simp only [List.nil_append, List.cons_append] at N' hlt ⊢
  have hne : ∀ p ∈ all, p.1 ≠ B := fun p hp => Nat.ne_of_lt (hlt p (List.mem_cons_of_mem _ hp))
  exact few_sort F' N' (fun p hp => Nat.ne_of_lt (hlt p hp)) (Nat.le_of_ble_eq_true rfl) fun e1 h2 F2 N2 => ⟨B, _, e1, [(a1, { cls := .type "tuple", data := .seq #[.str (Str.ofString "") t1, v1] })], h2, _, rfl, rfl, F2, N2, tups_1, hne, (fun p hp q hq => by rw [List.mem_singleton.mp hq]; exact Nat.ne_of_gt (b1 p hp)), fun q hq => by rw [List.mem_singleton.mp hq]⟩
set_option maxHeartbeats 4000000 in
theorem sorted_p {K : Frag} {v d : Addr} {od : Obj} {v1 : Value} (X : K.In h₀) (hA : A.handled = none) (F : Fr h₀ L s.heap m) (N : News h₀ L s.heap all) (hv : (v, { cls := .type "dict_items", data := .fields #[.ref d] }) ∈ all) (hm : (d, od) ∈ all)
    (hod : od.IsDictOf (PySem.strKind prog w) [(Str.ofString "p", v1)]) : wpAny (model prog w) A (call (.builtin "sorted") [.ref v]) (Sorted h₀ L m s all [(Str.ofString "p", v1)]) E s := by
  refine kdx_sortedN (enc := PyData.str) (ps := [(fun t => .str (Str.ofString "p") t, v1)]) hA F N hv hm hod (Nat.le_of_ble_eq_true rfl) (fun _ _ h => Value.isStrOf_shape h) rfl fun lo hl => ?_
  refine KdxOpen.cons fun a1 t1 _ b1 _ => KdxOpen.nil fun B h' tk hlt F' N' => ?_
  simp only [List.nil_append, List.cons_append] at N' hlt ⊢
  have hne : ∀ p ∈ all, p.1 ≠ B := fun p hp => Nat.ne_of_lt (hlt p (List.mem_cons_of_mem _ hp))
  exact few_sort F' N' (fun p hp => Nat.ne_of_lt (hlt p hp)) (Nat.le_of_ble_eq_true rfl) fun e1 h2 F2 N2 => ⟨B, _, e1, [(a1, { cls := .type "tuple", data := .seq #[.str (Str.ofString "p") t1, v1] })], h2, _, rfl, rfl, F2, N2, tups_1, hne, (fun p hp q hq => by rw [List.mem_singleton.mp hq]; exact Nat.ne_of_gt (b1 p hp)), fun q hq => by rw [List.mem_singleton.mp hq]⟩
set_option maxHeartbeats 4000000 in
theorem sorted_q {K : Frag} {v d : Addr} {od : Obj} {v1 : Value} (X : K.In h₀) (hA : A.handled = none) (F : Fr h₀ L s.heap m) (N : News h₀ L s.heap all) (hv : (v, { cls := .type "dict_items", data := .fields #[.ref d] }) ∈ all) (hm : (d, od) ∈ all)
    (hod : od.IsDictOf (PySem.strKind prog w) [(Str.ofString "q", v1)]) : wpAny (model prog w) A (call (.builtin "sorted") [.ref v]) (Sorted h₀ L m s all [(Str.ofString "q", v1)]) E s := by
  refine kdx_sortedN (enc := PyData.str) (ps := [(fun t => .str (Str.ofString "q") t, v1)]) hA F N hv hm hod (Nat.le_of_ble_eq_true rfl) (fun _ _ h => Value.isStrOf_shape h) rfl fun lo hl => ?_
  refine KdxOpen.cons fun a1 t1 _ b1 _ => KdxOpen.nil fun B h' tk hlt F' N' => ?_
  simp only [List.nil_append, List.cons_append] at N' hlt ⊢
  have hne : ∀ p ∈ all, p.1 ≠ B := fun p hp => Nat.ne_of_lt (hlt p (List.mem_cons_of_mem _ hp))
  exact few_sort F' N' (fun p hp => Nat.ne_of_lt (hlt p hp)) (Nat.le_of_ble_eq_true rfl) fun e1 h2 F2 N2 => ⟨B, _, e1, [(a1, { cls := .type "tuple", data := .seq #[.str (Str.ofString "q") t1, v1] })], h2, _, rfl, rfl, F2, N2, tups_1, hne, (fun p hp q hq => by rw [List.mem_singleton.mp hq]; exact Nat.ne_of_gt (b1 p hp)), fun q hq => by rw [List.mem_singleton.mp hq]⟩
set_option maxHeartbeats 4000000 in
theorem sorted_ep {K : Frag} {v d : Addr} {od : Obj} {v1 v2 : Value} (X : K.In h₀) (hA : A.handled = none) (F : Fr h₀ L s.heap m) (N : News h₀ L s.heap all) (hv : (v, { cls := .type "dict_items", data := .fields #[.ref d] }) ∈ all) (hm : (d, od) ∈ all)
    (hod : od.IsDictOf (PySem.strKind prog w) [(Str.ofString "", v1), (Str.ofString "p", v2)]) : wpAny (model prog w) A (call (.builtin "sorted") [.ref v]) (Sorted h₀ L m s all [(Str.ofString "", v1), (Str.ofString "p", v2)]) E s := by
  w_top off
  k_with_none
  refine kdx_sortedN (enc := PyData.str) (ps := [(fun t => .str (Str.ofString "") t, v1), (fun t => .str (Str.ofString "p") t, v2)]) hA F N hv hm hod (Nat.le_of_ble_eq_true rfl) (fun _ _ h => Value.isStrOf_shape h) rfl fun lo hl => ?_
  refine KdxOpen.cons fun a1 t1 _ b1 _ => KdxOpen.cons fun a2 t2 _ b2 _ => KdxOpen.nil fun B h' tk hlt F' N' => ?_
  simp only [List.nil_append, List.cons_append] at N' hlt ⊢
  have hne : ∀ p ∈ all, p.1 ≠ B := fun p hp => Nat.ne_of_lt (hlt p (List.mem_cons_of_mem _ (List.mem_cons_of_mem _ hp)))
  k_dflt (refine kat_lsort F' N' (.head fun p hp => Nat.ne_of_lt (hlt p hp)) rfl (Nat.le_of_ble_eq_true rfl) (Nat.le_of_ble_eq_true rfl) ?_)
  intro e1 h2 F2 N2
  kat_kinds
  k_steps
  exact KasFin.intro F2 N2 (.head fun p hp => Nat.ne_of_lt (hlt p hp)) fun h3 c F3 N3 => ⟨B, _, c, [(a2, ({ cls := .type "tuple", data := .seq #[.str (Str.ofString "p") t2, v2] } : Obj)), (a1, ({ cls := .type "tuple", data := .seq #[.str (Str.ofString "") t1, v1] } : Obj))], h3, _, rfl, rfl, F3, N3, tups_2, hne, (fun p hp q hq => by
    simp only [List.mem_cons, List.not_mem_nil, or_false] at hq
    rcases hq with rfl | rfl
    · exact Nat.ne_of_gt (b2 p hp)
    · exact Nat.ne_of_gt (b1 p hp)), fun q hq => by
    simp only [List.mem_cons, List.not_mem_nil, or_false] at hq
    rcases hq with rfl | rfl <;> rfl⟩
set_option maxHeartbeats 4000000 in
theorem sorted_eq {K : Frag} {v d : Addr} {od : Obj} {v1 v2 : Value} (X : K.In h₀) (hA : A.handled = none) (F : Fr h₀ L s.heap m) (N : News h₀ L s.heap all) (hv : (v, { cls := .type "dict_items", data := .fields #[.ref d] }) ∈ all) (hm : (d, od) ∈ all)
    (hod : od.IsDictOf (PySem.strKind prog w) [(Str.ofString "", v1), (Str.ofString "q", v2)]) : wpAny (model prog w) A (call (.builtin "sorted") [.ref v]) (Sorted h₀ L m s all [(Str.ofString "", v1), (Str.ofString "q", v2)]) E s := by
  w_top off
  k_with_none
  refine kdx_sortedN (enc := PyData.str) (ps := [(fun t => .str (Str.ofString "") t, v1), (fun t => .str (Str.ofString "q") t, v2)]) hA F N hv hm hod (Nat.le_of_ble_eq_true rfl) (fun _ _ h => Value.isStrOf_shape h) rfl fun lo hl => ?_
  refine KdxOpen.cons fun a1 t1 _ b1 _ => KdxOpen.cons fun a2 t2 _ b2 _ => KdxOpen.nil fun B h' tk hlt F' N' => ?_
  simp only [List.nil_append, List.cons_append] at N' hlt ⊢
  have hne : ∀ p ∈ all, p.1 ≠ B := fun p hp => Nat.ne_of_lt (hlt p (List.mem_cons_of_mem _ (List.mem_cons_of_mem _ hp)))
  k_dflt (refine kat_lsort F' N' (.head fun p hp => Nat.ne_of_lt (hlt p hp)) rfl (Nat.le_of_ble_eq_true rfl) (Nat.le_of_ble_eq_true rfl) ?_)
  intro e1 h2 F2 N2
  kat_kinds
  k_steps
  exact KasFin.intro F2 N2 (.head fun p hp => Nat.ne_of_lt (hlt p hp)) fun h3 c F3 N3 => ⟨B, _, c, [(a2, ({ cls := .type "tuple", data := .seq #[.str (Str.ofString "q") t2, v2] } : Obj)), (a1, ({ cls := .type "tuple", data := .seq #[.str (Str.ofString "") t1, v1] } : Obj))], h3, _, rfl, rfl, F3, N3, tups_2, hne, (fun p hp q hq => by
    simp only [List.mem_cons, List.not_mem_nil, or_false] at hq
    rcases hq with rfl | rfl
    · exact Nat.ne_of_gt (b2 p hp)
    · exact Nat.ne_of_gt (b1 p hp)), fun q hq => by
    simp only [List.mem_cons, List.not_mem_nil, or_false] at hq
    rcases hq with rfl | rfl <;> rfl⟩
set_option maxHeartbeats 4000000 in
theorem sorted_pq {K : Frag} {v d : Addr} {od : Obj} {v1 v2 : Value} (X : K.In h₀) (hA : A.handled = none) (F : Fr h₀ L s.heap m) (N : News h₀ L s.heap all) (hv : (v, { cls := .type "dict_items", data := .fields #[.ref d] }) ∈ all) (hm : (d, od) ∈ all)
    (hod : od.IsDictOf (PySem.strKind prog w) [(Str.ofString "p", v1), (Str.ofString "q", v2)]) : wpAny (model prog w) A (call (.builtin "sorted") [.ref v]) (Sorted h₀ L m s all [(Str.ofString "p", v1), (Str.ofString "q", v2)]) E s := by
  w_top off
  k_with_none
  refine kdx_sortedN (enc := PyData.str) (ps := [(fun t => .str (Str.ofString "p") t, v1), (fun t => .str (Str.ofString "q") t, v2)]) hA F N hv hm hod (Nat.le_of_ble_eq_true rfl) (fun _ _ h => Value.isStrOf_shape h) rfl fun lo hl => ?_
  refine KdxOpen.cons fun a1 t1 _ b1 _ => KdxOpen.cons fun a2 t2 _ b2 _ => KdxOpen.nil fun B h' tk hlt F' N' => ?_
  simp only [List.nil_append, List.cons_append] at N' hlt ⊢
  have hne : ∀ p ∈ all, p.1 ≠ B := fun p hp => Nat.ne_of_lt (hlt p (List.mem_cons_of_mem _ (List.mem_cons_of_mem _ hp)))
  k_dflt (refine kat_lsort F' N' (.head fun p hp => Nat.ne_of_lt (hlt p hp)) rfl (Nat.le_of_ble_eq_true rfl) (Nat.le_of_ble_eq_true rfl) ?_)
  intro e1 h2 F2 N2
  kat_kinds
  k_steps
  exact KasFin.intro F2 N2 (.head fun p hp => Nat.ne_of_lt (hlt p hp)) fun h3 c F3 N3 => ⟨B, _, c, [(a2, ({ cls := .type "tuple", data := .seq #[.str (Str.ofString "q") t2, v2] } : Obj)), (a1, ({ cls := .type "tuple", data := .seq #[.str (Str.ofString "p") t1, v1] } : Obj))], h3, _, rfl, rfl, F3, N3, tups_2, hne, (fun p hp q hq => by
    simp only [List.mem_cons, List.not_mem_nil, or_false] at hq
    rcases hq with rfl | rfl
    · exact Nat.ne_of_gt (b2 p hp)
    · exact Nat.ne_of_gt (b1 p hp)), fun q hq => by
    simp only [List.mem_cons, List.not_mem_nil, or_false] at hq
    rcases hq with rfl | rfl <;> rfl⟩
set_option maxHeartbeats 4000000 in
theorem sorted_epq {K : Frag} {v d : Addr} {od : Obj} {v1 v2 v3 : Value} (X : K.In h₀) (hA : A.handled = none) (F : Fr h₀ L s.heap m) (N : News h₀ L s.heap all) (hv : (v, { cls := .type "dict_items", data := .fields #[.ref d] }) ∈ all) (hm : (d, od) ∈ all)
    (hod : od.IsDictOf (PySem.strKind prog w) [(Str.ofString "", v1), (Str.ofString "p", v2), (Str.ofString "q", v3)]) : wpAny (model prog w) A (call (.builtin "sorted") [.ref v]) (Sorted h₀ L m s all [(Str.ofString "", v1), (Str.ofString "p", v2), (Str.ofString "q", v3)]) E s := by
  w_top off
  k_with_none
  refine kdx_sortedN (enc := PyData.str) (ps := [(fun t => .str (Str.ofString "") t, v1), (fun t => .str (Str.ofString "p") t, v2), (fun t => .str (Str.ofString "q") t, v3)]) hA F N hv hm hod (Nat.le_of_ble_eq_true rfl) (fun _ _ h => Value.isStrOf_shape h) rfl fun lo hl => ?_
  refine KdxOpen.cons fun a1 t1 _ b1 _ => KdxOpen.cons fun a2 t2 _ b2 _ => KdxOpen.cons fun a3 t3 _ b3 _ => KdxOpen.nil fun B h' tk hlt F' N' => ?_
  simp only [List.nil_append, List.cons_append] at N' hlt ⊢
  have hne : ∀ p ∈ all, p.1 ≠ B := fun p hp => Nat.ne_of_lt (hlt p (List.mem_cons_of_mem _ (List.mem_cons_of_mem _ (List.mem_cons_of_mem _ hp))))
  k_dflt (refine kat_lsort F' N' (.head fun p hp => Nat.ne_of_lt (hlt p hp)) rfl (Nat.le_of_ble_eq_true rfl) (Nat.le_of_ble_eq_true rfl) ?_)
  intro e1 h2 F2 N2
  kat_kinds
  k_steps
  exact KasFin.intro F2 N2 (.head fun p hp => Nat.ne_of_lt (hlt p hp)) fun h3 c F3 N3 => ⟨B, _, c, [(a3, ({ cls := .type "tuple", data := .seq #[.str (Str.ofString "q") t3, v3] } : Obj)), (a2, ({ cls := .type "tuple", data := .seq #[.str (Str.ofString "p") t2, v2] } : Obj)), (a1, ({ cls := .type "tuple", data := .seq #[.str (Str.ofString "") t1, v1] } : Obj))], h3, _, rfl, rfl, F3, N3, tups_3, hne, (fun p hp q hq => by
    simp only [List.mem_cons, List.not_mem_nil, or_false] at hq
    rcases hq with rfl | rfl | rfl
    · exact Nat.ne_of_gt (b3 p hp)
    · exact Nat.ne_of_gt (b2 p hp)
    · exact Nat.ne_of_gt (b1 p hp)), fun q hq => by
    simp only [List.mem_cons, List.not_mem_nil, or_false] at hq
    rcases hq with rfl | rfl | rfl <;> rfl⟩
theorem sorted_items {K : Frag} {v d : Addr} {od : Obj} {kvs : List (Str × Value)} (X : K.In h₀) (hA : A.handled = none) (F : Fr h₀ L s.heap m) (N : News h₀ L s.heap all) (hv : (v, { cls := .type "dict_items", data := .fields #[.ref d] }) ∈ all) (hm : (d, od) ∈ all)
    (hod : od.IsDictOf (PySem.strKind prog w) kvs) (hs : (kvs.map (·.1)).Sublist [Str.ofString "", Str.ofString "p", Str.ofString "q"]) : wpAny (model prog w) A (call (.builtin "sorted") [.ref v]) (Sorted h₀ L m s all kvs) E s := by
  rcases sub8 hs with h | h | h | h | h | h | h | h
  · obtain rfl := map_0 h; exact sorted_e0 X hA F N hv hm hod
  · obtain ⟨v1, rfl⟩ := map_1 h; exact sorted_e X hA F N hv hm hod
  · obtain ⟨v1, rfl⟩ := map_1 h; exact sorted_p X hA F N hv hm hod
  · obtain ⟨v1, rfl⟩ := map_1 h; exact sorted_q X hA F N hv hm hod
  · obtain ⟨v1, v2, rfl⟩ := map_2 h; exact sorted_ep X hA F N hv hm hod
  · obtain ⟨v1, v2, rfl⟩ := map_2 h; exact sorted_eq X hA F N hv hm hod
  · obtain ⟨v1, v2, rfl⟩ := map_2 h; exact sorted_pq X hA F N hv hm hod
  · obtain ⟨v1, v2, v3, rfl⟩ := map_3 h; exact sorted_epq X hA F N hv hm hod
/-- a written part, and the rest -/
def TailOf (all W tl : List (Addr × Obj)) : Prop := all = W ++ tl
theorem TailOf.nil {tl : List (Addr × Obj)} : TailOf tl [] tl := rfl
theorem TailOf.cons {p : Addr × Obj} {all W tl : List (Addr × Obj)} (h : TailOf all W tl) : TailOf (p :: all) (p :: W) tl := congrArg (p :: ·) h
theorem sorted_use {K : Frag} {v d : Addr} {od : Obj} {kvs qs : List (Str × Value)} {ys : List Value} {tl W : List (Addr × Obj)} {c : Addr} {oc : Obj} {Q : Value → Shared → Prop} (hT : TupsIn ys qs tl) (hAp : ∀ p ∈ tl, p.1 ≠ c)
    (X : K.In h₀) (hA : A.handled = none) (F : Fr h₀ L s.heap m) (N : News h₀ L s.heap all) (hW : TailOf all W tl) (hc : (c, oc) ∈ all) (hv : (v, { cls := .type "dict_items", data := .fields #[.ref d] }) ∈ all) (hm : (d, od) ∈ all)
    (hod : od.IsDictOf (PySem.strKind prog w) kvs) (hs : (kvs.map (·.1)).Sublist [Str.ofString "", Str.ofString "p", Str.ofString "q"])
    (k : ∀ B its n tl' h' tk, TupsIn ys qs tl' → TupsIn its kvs tl' → (∀ p ∈ tl, p ∈ tl') → (∀ p ∈ tl', p.1 ≠ c) → (∀ p ∈ W ++ tl', p.1 ≠ B) → Fr h₀ L h' m → News h₀ L h' ((B, PySem.W.listOf its.toArray n) :: (W ++ tl')) → Q (.ref B) { s with heap := h', toks := tk }) :
    wpAny (model prog w) A (call (.builtin "sorted") [.ref v]) Q E s := by
  have hW' : all = W ++ tl := hW
  subst hW'
  refine wpAny_mono (sorted_items X hA F N hv hm hod hs) (fun v' s' hq => ?_) fun _ _ e => e
  obtain ⟨B, its, n, tups, h', tk, rfl, rfl, F', N', hT', hB, hap, hcl⟩ := hq
  have hBt : ∀ p ∈ tups, p.1 ≠ B := fun p hp e => by
    have h1 := (N' p (List.mem_cons_of_mem _ (List.mem_append_left _ hp))).1
    have h2 := (N' _ List.mem_cons_self).1
    rw [e] at h1
    have h3 := congrArg Obj.cls (Option.some.inj (h1.symm.trans h2))
    rw [hcl p hp] at h3
    have h4 : Value.type "tuple" = Value.type "list" := h3
    exact absurd (Value.type.inj h4) (by decide)
  refine k B its.toList n (tups ++ tl) h' tk (hT.mono fun p hp => List.mem_append_right _ hp) (hT'.mono fun p hp => List.mem_append_left _ hp) (fun p hp => List.mem_append_right _ hp) (fun p hp => ?_) (fun p hp => ?_) F' fun p hp => ?_
  · rcases List.mem_append.mp hp with hp | hp
    · exact hap _ hc p hp
    · exact hAp p hp
  · rcases List.mem_append.mp hp with hp | hp
    · exact hB p (List.mem_append_left _ hp)
    · rcases List.mem_append.mp hp with hp | hp
      · exact hBt p hp
      · exact hB p (List.mem_append_right _ hp)
  · rcases List.mem_cons.mp hp with rfl | hp
    · have := N' _ List.mem_cons_self; simpa using this
    · rcases List.mem_append.mp hp with hp | hp
      · exact N' p (List.mem_cons_of_mem _ (List.mem_append_right _ (List.mem_append_left _ hp)))
      · rcases List.mem_append.mp hp with hp | hp
        · exact N' p (List.mem_cons_of_mem _ (List.mem_append_left _ hp))
        · exact N' p (List.mem_cons_of_mem _ (List.mem_append_right _ (List.mem_append_right _ hp)))
end
end
-- J4
section
section
variable {prog : Program} {w : World} {A : Around} {E : Value → Shared → Prop} {s : Shared} {env : Env} {h₀ : Heap} {body : List Stmt} {Q : Flow → Shared → Prop} {all : List (Addr × Obj)} {c lv : Addr} {m₀ : Str → Option Value} {gc : Obj → List (Addr × Obj)} {target : PySem.Expr}
/-- a turn's end: nothing but the loop's own cell has changed -/
def SEnd (h₀ : Heap) (L : Addr) (s : Shared) (I : Addr) (oI : Obj) (gc : Obj → List (Addr × Obj)) (y : Str) (m₀ : Str → Option Value) (f : Flow) (s' : Shared) : Prop :=
  f = .next ∧ ∃ h' tk m' oc v', s' = { s with heap := h', toks := tk } ∧ Fr h₀ L h' m' ∧ (∀ z, z ≠ y → m' z = m₀ z) ∧ News h₀ L h' ((I, oI) :: gc oc) ∧ oc.data = .cell v'
theorem SEnd.intro {L I : Addr} {oI oc : Obj} {y : Str} {m' : Str → Option Value} {v' : Option Value} {h' : Heap} {tk : Nat} (F : Fr h₀ L h' m') (N : News h₀ L h' all) (hd : oc.data = .cell v') (hs : ∀ p ∈ (I, oI) :: gc oc, p ∈ all) (hm : ∀ z, z ≠ y → m' z = m₀ z) :
    SEnd h₀ L s I oI gc y m₀ .next { s with heap := h', toks := tk } := ⟨rfl, h', tk, m', oc, v', rfl, F, hm, news_sub N hs, hd⟩
theorem over1 {m m' : Str → Option Value} {y : Str} (h : ∀ z, z ≠ y → m' z = m z) : m' = fun z => if z = y then m' y else m z := by
  funext z
  by_cases hb : z = y
  · simp [hb]
  · simp [hb, h z hb]
theorem strs_turns {ys₀ : List Value} {qs₀ : List (Str × Value)} {tl : List (Addr × Obj)} {y : Str} {oc : Obj} {v₀ : Option Value} {nt : Nat} {vs : List Value}
    (_hT : TupsIn ys₀ qs₀ tl) (_hAp : ∀ p ∈ tl, p.1 ≠ c) (hh : A.handled = none) (F : Fr h₀ env.locals s.heap m₀) (N : News h₀ env.locals s.heap all) (hm : (lv, W.listOf vs.toArray nt) ∈ all) (hc : (c, oc) ∈ all) (hd : oc.data = .cell v₀) (U : UpdF c oc all gc) (hne : lv ≠ c)
    (turn : ∀ I oI v oc v₀ mv h tk, v ∈ vs → oc.data = .cell v₀ → UpdF c oc ((I, oI) :: gc oc) (fun o => (I, oI) :: gc o) →
      Fr h₀ env.locals h (fun z => if z = y then mv else m₀ z) → News h₀ env.locals h ((I, oI) :: gc oc) →
      wpAny (model prog w) A (assign target env v) (fun _ s₂ => wpAny (model prog w) A (execs body env) (SEnd h₀ env.locals { s with heap := h, toks := tk } I oI gc y m₀) E s₂) E { s with heap := h, toks := tk })
    (fin : ∀ oc mv h tk, Fr h₀ env.locals h (fun z => if z = y then mv else m₀ z) → News h₀ env.locals h (gc oc) → Q .next { s with heap := h, toks := tk }) :
    wpAny (model prog w) A (pyIter (.ref lv)) (fun it s₂ => TurnsAt prog w A h₀ env target body Q E it s₂) E s := by
  have hg : ∀ o, (lv, W.listOf vs.toArray nt) ∈ gc o := fun o => UpdF.other U hm hne
  obtain ⟨pre, post, e0, hgc, hp1, hp2⟩ := U.split
  have addr : ∀ o o', ∀ p ∈ gc o, ∃ p' ∈ gc o', p'.1 = p.1 := fun o o' p hp => by
    rw [hgc] at hp ⊢
    rcases List.mem_append.mp hp with hp | hp
    · exact ⟨p, List.mem_append_left _ hp, rfl⟩
    · rcases List.mem_cons.mp hp with rfl | hp
      · exact ⟨_, List.mem_append_right _ List.mem_cons_self, rfl⟩
      · exact ⟨p, List.mem_append_right _ (List.mem_cons_of_mem _ hp), rfl⟩
  have hgf : gc = fun o => pre ++ (c, o) :: post := funext hgc
  have Ug : ∀ o, UpdF c o (gc o) gc := fun o => by rw [hgf]; exact upd_of hp2 hp1
  have ea : all = gc oc := by rw [e0, hgc]
  refine iter_listTurns hh F N hm rfl rfl fun I hI => ?_
  have hIg : ∀ o, ∀ p ∈ gc o, p.1 ≠ I := fun o p hp => by
    obtain ⟨p', hp', e⟩ := addr o oc p hp
    rw [← ea] at hp'
    rw [← e]; exact Nat.ne_of_lt (hI p' hp')
  have key : ∀ (us : List Value) (oc : Obj) (v₀ : Option Value) (m' : Str → Option Value), (∀ v ∈ us, v ∈ vs) → oc.data = .cell v₀ → (∀ z, z ≠ y → m' z = m₀ z) →
      ItemsRest prog w A E h₀ env target body Q s [(I, "list_iterator")] [(lv, W.listOf vs.toArray nt)] (us.map .val) m' (gc oc) := by
    intro us
    induction us with
    | nil =>
      intro oc v₀ m' _ _ hm'
      refine ItemsRest.zero fun h tk F' N' => fin oc (m' y) h tk ?_ N'
      rw [← over1 hm']; exact F'
    | cons u r ih =>
      intro oc v₀ m' hu hd hm'
      refine ItemsRest.val fun h tk F' => AllObj.cons fun oI hc => AllObj.nil fun N' => ?_
      have F₁ : Fr h₀ env.locals h (fun z => if z = y then m' y else m₀ z) := by rw [← over1 hm']; exact F'
      have hIc : I ≠ c := fun e => hIg oc (c, oc) (by rw [hgc]; exact List.mem_append_right _ List.mem_cons_self) e.symm
      refine wpAny_mono (turn I oI u oc v₀ (m' y) h tk (hu u List.mem_cons_self) hd (.tail hIc (Ug oc)) F₁ N') (fun _ s₂ h₂ => wpAny_mono h₂ (fun f s₃ h₃ => ?_) fun _ _ e => e) fun _ _ e => e
      obtain ⟨rfl, h₂, tk₂, m₂, oc₂, v₂, rfl, F₂, hm₂, N₂, hd₂⟩ := h₃
      refine ⟨h₂, tk₂, m₂, gc oc₂, rfl, F₂, N₂, ?_, ⟨hg _, trivial⟩, ih oc₂ v₂ m₂ (fun v hv => hu v (List.mem_cons_of_mem _ hv)) hd₂ hm₂⟩
      intro p hp p' hp' e'
      rw [List.mem_singleton.mp hp'] at e'
      exact hIg _ p hp e'
  rw [ea]
  exact key vs oc v₀ m₀ (fun v hv => hv) hd fun _ _ => rfl
end
end
-- J5
section
section
open PyProof.Rows.LCg
variable {prog : Program} {w : World} {A : Around} {E : Value → Shared → Prop} {s : Shared} {h₀ : Heap} {L : Addr} {m : Str → Option Value} {env : Env} {news : List (Addr × Obj)}
def keyAt (qs : List (Str × Value)) (i : Nat) : Str := ((qs[i]?).map (·.1)).getD (Str.ofString "")
def valAt (qs : List (Str × Value)) (i : Nat) : Value := ((qs[i]?).map (·.2)).getD .none
/-- the values behind one key, in their order -/
def behind (qs : List (Str × Value)) (z : Str) : List Value := (qs.filter (fun q => q.1 == z)).map (·.2)
theorem paired_map {f : Nat → Value} : ∀ {l : List Nat} {zs : List Value}, Paired (fun i y => y = f i) l zs → zs = l.map f
  | _, _, .nil => rfl
  | _, _, .cons h r => by rw [List.map_cons, ← paired_map r, h]
theorem behind_eq {z : Str} : ∀ {qs : List (Str × Value)} (n : Nat), n ≤ qs.length → ((List.range n).filter (fun i => keyAt qs i == z)).map (valAt qs) = behind (qs.take n) z := by
  intro qs n
  induction n with
  | zero => intro _; rfl
  | succ n ih =>
    intro hn
    have e : qs[n]? = some qs[n] := List.getElem?_eq_getElem hn
    have hk : keyAt qs n = qs[n].1 := by unfold keyAt; rw [e]; rfl
    have hv : valAt qs n = qs[n].2 := by unfold valAt; rw [e]; rfl
    rw [List.range_succ, List.filter_append, List.map_append, ih (by omega)]
    unfold behind
    rw [List.take_add_one, e, List.filter_append, List.map_append]
    congr 1
    by_cases hz : (qs[n].1 == z) = true
    · simp [hk, hv, hz]
    · simp [hk, hz]
/-- what a comprehension over the pairs, with one test upon the key, asks of its source -/
def PairSrc (prog : Program) (w : World) (A : Around) (h₀ : Heap) (L : Addr) (m : Str → Option Value) (env : Env) (c elt : PySem.Expr) (a b : Str) (scope : Scope) (cl : List (Str × Addr)) (Fin : Shared → List Value → List (Addr × Obj) → Prop) (xv : Value) (s₁ : Shared) : Prop :=
  ∃ (lp : Addr) (ys : List Value) (nt : Nat) (qs : List (Str × Value)) (tups news : List (Addr × Obj)) (z : Str), xv = .ref lp ∧ A.handled = none ∧ ys.length ≤ 64 ∧ Fr h₀ L s₁.heap m ∧ News h₀ L s₁.heap news ∧ (lp, PySem.W.listOf ys.toArray nt) ∈ news ∧ (∀ p ∈ tups, p ∈ news) ∧ TupsIn ys qs tups ∧
      (∀ I oI k v t C oC D zs m₂ h tk (E' : Value → Shared → Prop), (k, v) ∈ qs → NsObj oC m₂ → m₂ a = some (.str k t) → m₂ b = some v → Fr h₀ L h m → News h₀ L h ((I, oI) :: (C, oC) :: (D, lst zs) :: news) →
        wpAny (model prog w) A (isTrue c (compEnvC scope cl C env) (eval c (compEnvC scope cl C env))) (fun ok s' => TTest h₀ L m { s₁ with heap := h, toks := tk } ((I, oI) :: (C, oC) :: (D, lst zs) :: news) (k == z) ok s') E' { s₁ with heap := h, toks := tk }) ∧
      (∀ I oI k v t C oC D zs m₂ h tk (E' : Value → Shared → Prop), (k, v) ∈ qs → NsObj oC m₂ → m₂ a = some (.str k t) → m₂ b = some v → Fr h₀ L h m → News h₀ L h ((I, oI) :: (C, oC) :: (D, lst zs) :: news) →
        wpAny (model prog w) A (eval elt (compEnvC scope cl C env)) (fun y s' => TElt h₀ L m { s₁ with heap := h, toks := tk } ((I, oI) :: (C, oC) :: (D, lst zs) :: news) (fun y => y = v) y s') E' { s₁ with heap := h, toks := tk }) ∧
      (∀ g, Fin { s₁ with heap := g } (behind qs z) news)
/-- marks the text that the turn goes by -/
def Pfx (_z : Str) : Prop := True
theorem PairSrc.intro {c elt : PySem.Expr} {a b : Str} {scope : Scope} {cl : List (Str × Addr)} {Fin : Shared → List Value → List (Addr × Obj) → Prop} {lp : Addr} {ys : List Value} {nt : Nat} {qs : List (Str × Value)} {tups : List (Addr × Obj)} {z : Str}
    (_pf : Pfx z) (hT : TupsIn ys qs tups) (hq : qs.length ≤ 64) (hh : A.handled = none) (F : Fr h₀ L s.heap m) (N : News h₀ L s.heap news) (hm : (lp, PySem.W.listOf ys.toArray nt) ∈ news) (hsub : ∀ p ∈ tups, p ∈ news)
    (turn : ∀ I oI k v t C oC D zs m₂ h tk (E' : Value → Shared → Prop), (k, v) ∈ qs → NsObj oC m₂ → m₂ a = some (.str k t) → m₂ b = some v → Fr h₀ L h m → News h₀ L h ((I, oI) :: (C, oC) :: (D, lst zs) :: news) →
        wpAny (model prog w) A (isTrue c (compEnvC scope cl C env) (eval c (compEnvC scope cl C env))) (fun ok s' => TTest h₀ L m { s with heap := h, toks := tk } ((I, oI) :: (C, oC) :: (D, lst zs) :: news) (k == z) ok s') E' { s with heap := h, toks := tk })
    (eltT : ∀ I oI k v t C oC D zs m₂ h tk (E' : Value → Shared → Prop), (k, v) ∈ qs → NsObj oC m₂ → m₂ a = some (.str k t) → m₂ b = some v → Fr h₀ L h m → News h₀ L h ((I, oI) :: (C, oC) :: (D, lst zs) :: news) →
        wpAny (model prog w) A (eval elt (compEnvC scope cl C env)) (fun y s' => TElt h₀ L m { s with heap := h, toks := tk } ((I, oI) :: (C, oC) :: (D, lst zs) :: news) (fun y => y = v) y s') E' { s with heap := h, toks := tk })
    (fin : ∀ g, Fin { s with heap := g } (behind qs z) news) : PairSrc prog w A h₀ L m env c elt a b scope cl Fin (.ref lp) s :=
  ⟨lp, ys, nt, qs, tups, news, z, rfl, hh, by rw [hT.1]; exact hq, F, N, hm, hsub, hT, turn, eltT, fin⟩
theorem one_own {own : List (Addr × Obj)} {x : Addr} (h : own.map (·.1) = [x]) : ∃ ox, own = [(x, ox)] := by
  cases own with
  | nil => cases h
  | cons p r =>
    rw [List.map_cons] at h
    obtain ⟨h1, h2⟩ := List.cons.inj h
    have := List.map_eq_nil_iff.mp h2
    subst this; subst h1
    exact ⟨p.2, rfl⟩
theorem pairs_ListComp {elt iter c : PySem.Expr} {a b : Str} {pa pb tp : Pos} {kk : Nat} {scope : Scope} {cl : List (Str × Addr)} {pos : Pos} {Q : Value → Shared → Prop} (_F₀ : Fr h₀ L s.heap m)
    (hclos : closureFor scope env = pure cl) (hcell : ∀ y ∈ scope.names, y.2 ≠ .cell) (hkind : scope.kind = .function)
    (hnames : ∀ y ∈ scope.names, y.2 = .local → scope.names.lookup y.1 = some .local) (hxa : scope.names.lookup a = some .local) (hxb : scope.names.lookup b = some .local) (hab : ¬ a = b)
    (h : wpAny (model prog w) A (eval iter env) (PairSrc prog w A h₀ L m env c elt a b scope cl (fun s₂ => FinE h₀ L m s₂ Q)) E s)
    (hs : ∀ x, foldedSetIterable iter env x = pure x := by intro _; rfl) :
    wpAny (model prog w) A (eval (.ListComp elt [⟨.Tuple [.Name a pa, .Name b pb] kk tp, iter, [c], 0⟩] scope pos) env) Q E s := by
  rw [eval_ListComp]
  refine wpAny_comprehension_free (use := none) rfl hs hclos hkind hnames (wpAny_mono h (fun xv s₁ h₁ => ?_) fun _ _ e => e)
  obtain ⟨lp, ys, nt, qs, tups, news, z, rfl, hh, h64, F, N, hm, hsub, hT, turn, eltT, fin⟩ := h₁
  have hlp := N _ hm
  have hl : s₁.heap.IsList lp ys.toArray := ⟨_, hlp.1, rfl, _, rfl⟩
  have hlt : lp < s₁.heap.objs.size := Heap.lt_size hlp.1
  obtain ⟨Ts, vals, hf⟩ := hT.fns
  have hsz : ys.toArray.size = qs.length := by rw [List.size_toArray]; exact hT.1
  have hat : ∀ j, j < ys.toArray.size → ∃ q, qs[j]? = some q := fun j hj => ⟨_, List.getElem?_eq_getElem (by rw [← hsz]; exact hj)⟩
  have hTm : ∀ j, j < ys.toArray.size → ∃ o, (Ts j, o) ∈ news := fun j hj => by
    obtain ⟨q, e⟩ := hat j hj
    obtain ⟨_, t, n, _, h⟩ := hf j q e
    exact ⟨_, hsub _ h⟩
  have hTlt : ∀ j, j < ys.toArray.size → Ts j < s₁.heap.objs.size := fun j hj => by
    obtain ⟨o, h⟩ := hTm j hj
    exact Heap.lt_size (N _ h).1
  have up : ∀ b o, s₁.heap.get? b = some o → (s₁.heap.push { cls := .type "list_iterator", data := .fields #[.ref lp, .int 0 0] }).get? b = some o := fun b o e => Heap.get?_push_of_some _ e
  have Wk := WalksU.listOfTuples (prog := prog) (w := w) hh s₁.heap.objs.size lp (Nat.ne_of_lt hlt) ys.toArray Ts vals (fun j hj => by
    obtain ⟨q, e⟩ := hat j hj
    have := (hf j q e).1
    simpa using this) (fun j hj => Nat.ne_of_lt (hTlt j hj))
  refine wpAny_pyIter_list hl ?_
  refine pair_filt (prog := prog) (w := w) (news := news) (h₀ := h₀) (L := L) (m := m) (V := fun i va vb => ∃ q t, qs[i]? = some q ∧ va = .str q.1 t ∧ vb = q.2) (fun i => keyAt qs i == z) (fun i y => y = valAt qs i) (RR := compPost (model prog w) A E none Q)
    hh Wk.bound (fun i vs hv => ?_) (by rw [List.size_toArray, PySem.sizeLine_eq]; omega) (fun b hb => ?_) (fun b hb => ?_) (fun i h st b hb => ?_) hcell hkind hxa hxb hab ?_ (F.keeps up) (N.grown up) (fun i va vb own C oC D zs m₂ h tk E' hi hv hC ha hb ho F' N' => ?_) (fun i va vb own C oC D zs m₂ h tk E' hi hq hv hC ha hb ho F' N' => ?_) (fun D C h tk m' zs F' N' hn hC₀ hD₀ hCL hDL hCD offC hy => ?_)
  · obtain ⟨hi, rfl⟩ := hv
    obtain ⟨q, e⟩ := hat i hi
    obtain ⟨_, t, n, hv, _⟩ := hf i q e
    exact ⟨_, _, hv, q, t, e, rfl, rfl⟩
  · rw [List.mem_singleton.mp hb]
    exact ⟨next_is_new F, Nat.ne_of_gt F.ns.lt, by rw [Heap.size_push]; exact Nat.lt_succ_self _, fun p hp => Nat.ne_of_lt (Heap.lt_size (N p hp).1)⟩
  · rcases List.mem_cons.mp hb with rfl | hb
    · exact .inl (List.mem_singleton.mpr rfl)
    · refine .inr (.inl ?_)
      rcases List.mem_cons.mp hb with rfl | hb
      · exact List.mem_map.mpr ⟨_, hm, rfl⟩
      · obtain ⟨j, hj, rfl⟩ := List.mem_map.mp hb
        obtain ⟨o, h⟩ := hTm j (List.mem_range.mp hj)
        exact List.mem_map.mpr ⟨_, h, rfl⟩
  · rw [List.mem_singleton.mp hb]
    obtain ⟨it, hit, _⟩ := st.1
    exact ⟨it, hit⟩
  · exact ⟨⟨_, Heap.get?_push_size _ rfl, rfl, rfl⟩, hl.at fun o e => Heap.get?_push_of_some _ e, fun k hk => by
      obtain ⟨q, e⟩ := hat k hk
      obtain ⟨_, t, n, hv, h⟩ := hf k q e
      rw [hv]
      exact ⟨_, Heap.get?_push_of_some _ (N _ (hsub _ h)).1, rfl, _, rfl⟩⟩
  · obtain ⟨q, t, e, rfl, rfl⟩ := hv
    obtain ⟨ox, rfl⟩ := one_own ho
    have hk : keyAt qs i = q.1 := by unfold keyAt; rw [e]; rfl
    show wpAny _ _ _ (fun ok s' => TTest _ _ _ _ _ (keyAt qs i == z) ok s') _ _
    rw [hk]
    exact turn _ ox q.1 q.2 t C oC D zs m₂ h tk E' (List.mem_of_getElem? e) hC ha hb F' N'
  · obtain ⟨q, t, e, rfl, rfl⟩ := hv
    obtain ⟨ox, rfl⟩ := one_own ho
    have hk : valAt qs i = q.2 := by unfold valAt; rw [e]; rfl
    show wpAny _ _ _ (fun y s' => TElt _ _ _ _ _ (fun y => y = valAt qs i) y s') _ _
    rw [hk]
    exact eltT _ ox q.1 q.2 t C oC D zs m₂ h tk E' (List.mem_of_getElem? e) hC ha hb F' N'
  · have hz : zs = behind qs z := by
      rw [paired_map hy, hsz, behind_eq _ (Nat.le_refl _), List.take_length]
    subst hz
    refine ⟨m', hn, fun h'' hs'' => fin s₁.heap D h'' tk (F'.change hs'' hCL hC₀) (fun p hp => ?_) ?_⟩
    · refine ⟨hs''.extBut _ _ ?_ (N' p hp).1, (N' p hp).2⟩
      rcases List.mem_cons.mp hp with rfl | hp
      · exact Ne.symm hCD
      · exact (offC p hp).1
    · clear fin turn eltT N' hm hsub hTm hlp Wk hf hT
      induction news with
      | nil => trivial
      | cons p r ih => exact ⟨Nat.ne_of_lt (offC p List.mem_cons_self).2, ih (fun q hq => N q (List.mem_cons_of_mem _ hq)) (fun q hq => offC q (List.mem_cons_of_mem _ hq))⟩
end
end
-- J6
section
def SmallP (z : Str) : Prop := z.length ≤ 3 ∧ PyData.strOk z = true ∧ ¬ z = Str.ofString "r"
theorem SmallP.mk' {z : Str} (h : z.length ≤ 3) (h2 : PyData.strOk z = true) (h3 : ¬ z = Str.ofString "r") : SmallP z := ⟨h, h2, h3⟩
def SmallV (v : Value) : Prop := ∃ z t, v = .str z t ∧ SmallP z
def SmallKV (k : Str) (v : Value) : Prop := SmallP k ∧ SmallV v
theorem at_map (k z : Str) (v : Value) : ∀ kvs : List (Str × Value), valueAt (kvs.map fun kv => if kv.1 = k then (kv.1, v) else kv) z = if k = z then (valueAt kvs k).map (fun _ => v) else valueAt kvs z
  | [] => by by_cases hz : k = z <;> simp [valueAt, hz]
  | q :: r => by
    have ih := at_map k z v r
    obtain ⟨a, b⟩ := q
    unfold valueAt at ih ⊢
    rw [List.map_cons, List.find?_cons, List.find?_cons, List.find?_cons]
    by_cases hz : k = z
    · subst hz
      by_cases hk : a = k
      · subst hk; simp
      · simp only [if_true] at ih
        simp only [hk, if_false, decide_false, if_true]
        exact ih
    · by_cases hk : a = k
      · subst hk
        simp only [if_true, hz, decide_false, if_false] at ih ⊢
        exact ih
      · by_cases hza : a = z
        · subst hza; simp [hk, hz]
        · simp only [hk, if_false, hza, decide_false, hz] at ih ⊢
          exact ih
theorem at_stored (kvs : List (Str × Value)) (k z : Str) (v : Value) : valueAt (stored kvs k v) z = if k = z then some v else valueAt kvs z := by
  unfold stored
  split
  · rename_i h
    rw [at_map]
    by_cases hz : k = z
    · rw [if_pos hz, if_pos hz]
      obtain ⟨q, hq, e⟩ := List.any_eq_true.mp h
      cases e2 : valueAt kvs k with
      | some x => rfl
      | none =>
        unfold valueAt at e2
        have := List.find?_eq_none.mp (Option.map_eq_none_iff.mp e2) q hq
        exact absurd e this
    · rw [if_neg hz, if_neg hz]
  · rename_i h
    by_cases hz : k = z
    · subst hz
      have hn : kvs.find? (fun kv => decide (kv.1 = k)) = none := by
        rw [List.find?_eq_none]
        intro q hq e
        exact h (List.any_eq_true.mpr ⟨q, hq, e⟩)
      unfold valueAt
      rw [List.find?_append, hn]; simp
    · unfold valueAt
      rw [List.find?_append]
      cases e : kvs.find? (fun kv => decide (kv.1 = z)) with
      | some q => simp [hz]
      | none => simp [hz]
theorem at_merged (kvs : List (Str × Value)) (z : Str) : ∀ (qs : List (Str × Value)) (n : Nat), n ≤ qs.length → valueAt (merged kvs (qs.take n)) z = ((behind (qs.take n) z).getLast?).or (valueAt kvs z) := by
  intro qs n
  induction n with
  | zero => intro _; rfl
  | succ n ih =>
    intro hn
    have e : qs[n]? = some qs[n] := List.getElem?_eq_getElem hn
    rw [merged_take_succ kvs qs n _ e, at_stored, ih (by omega)]
    unfold behind
    rw [List.take_add_one, e, List.filter_append, List.map_append]
    by_cases hz : qs[n].1 = z
    · simp [hz]
    · have hb : (qs[n].1 == z) = false := by simpa using hz
      simp [hz, hb]
theorem at_all (kvs qs : List (Str × Value)) (z : Str) : valueAt (merged kvs qs) z = ((behind qs z).getLast?).or (valueAt kvs z) := by
  have := at_merged kvs z qs qs.length (Nat.le_refl _)
  rwa [List.take_length] at this
theorem at_mem {kvs : List (Str × Value)} {z : Str} {v : Value} (h : valueAt kvs z = some v) : ∃ q ∈ kvs, q.1 = z ∧ q.2 = v := by
  unfold valueAt at h
  obtain ⟨q, e1, e2⟩ := Option.map_eq_some_iff.mp h
  exact ⟨q, List.mem_of_find?_eq_some e1, by simpa using List.find?_some e1, e2⟩
theorem behind_mem {qs : List (Str × Value)} {z : Str} {v : Value} (h : v ∈ behind qs z) : ∃ q ∈ qs, q.1 = z ∧ q.2 = v := by
  obtain ⟨q, hq, e⟩ := List.mem_map.mp h
  obtain ⟨h1, h2⟩ := List.mem_filter.mp hq
  exact ⟨q, h1, by simpa using h2, e⟩
/-- no key of either is 'r' -/
theorem at_r {kvs qs : List (Str × Value)} {z : Str} (h1 : ∀ q ∈ kvs, ¬ q.1 = z) (h2 : ∀ q ∈ qs, ¬ q.1 = z) : (valueAt (merged kvs qs) z).isSome = false := by
  rw [at_all]
  have e1 : behind qs z = [] := by
    cases e : behind qs z with
    | nil => rfl
    | cons v r =>
      obtain ⟨q, hq, hz, _⟩ := behind_mem (qs := qs) (z := z) (v := v) (by rw [e]; exact List.mem_cons_self)
      exact absurd hz (h2 q hq)
  have e2 : valueAt kvs z = none := by
    cases e : valueAt kvs z with
    | none => rfl
    | some v => obtain ⟨q, hq, hz, _⟩ := at_mem e; exact absurd hz (h1 q hq)
  rw [e1, e2]; rfl
theorem list_last {α : Type} (l : List α) : (l = []) ∨ ∃ l' v, l = l' ++ [v] := by
  rcases List.eq_nil_or_concat l with h | ⟨l', v, h⟩
  · exact .inl h
  · exact .inr ⟨l', v, by rw [h]; simp⟩
section
variable {prog : Program} {w : World} {A : Around} {E : Value → Shared → Prop} {s : Shared} {h₀ : Heap} {L : Addr} {m : Str → Option Value} {all : List (Addr × Obj)} {Q : Value → Shared → Prop}
theorem last_use {value slice : PySem.Expr} {l : Addr} {vl vu vk : Value} {ops : List Value} {qs kvs : List (Str × Value)} {z : Str}
    (F : Fr h₀ L s.heap m) (N : News h₀ L s.heap all) (hl : (l, LCg.lst (behind qs z)) ∈ all) (pl : IsPart vl (some (-1))) (pu : IsPart vu none) (pk : IsPart vk none) (hq : qs.length ≤ 64) (hK : ∀ q ∈ qs, SmallKV q.1 q.2) (hR : ∀ q ∈ kvs, SmallV q.2)
    (hs : subscripted slice false (.ref l) (.ref s.heap.objs.size) = operate ops (getItem (.ref l) (.ref s.heap.objs.size))) (ht : ∀ r, letTemporaryGo value (.ref l) r = pure ())
    (c1 : ∀ u tu D h', SmallP u → valueAt (merged kvs qs) z = some (.str u tu) → Fr h₀ L h' m → News h₀ L h' ((D, PySem.W.listOf [Value.str u tu].toArray 0) :: all) → (∀ p ∈ all, p.1 < D) → Q (.ref D) { s with heap := h' })
    (c2 : ∀ D h', valueAt (merged kvs qs) z = none → valueAt kvs z = none → Fr h₀ L h' m → News h₀ L h' ((D, PySem.W.listOf ([] : List Value).toArray 0) :: all) → (∀ p ∈ all, p.1 < D) → Q (.ref D) { s with heap := h' })
    (c3 : ∀ u tu D h', SmallP u → valueAt (merged kvs qs) z = some (.str u tu) → valueAt kvs z = some (.str u tu) → Fr h₀ L h' m → News h₀ L h' ((D, PySem.W.listOf ([] : List Value).toArray 0) :: all) → (∀ p ∈ all, p.1 < D) → Q (.ref D) { s with heap := h' }) :
    wpAny (model prog w) A (subscriptTail value slice (.ref l) (.ref s.heap.objs.size)) Q E { s with heap := s.heap.push { cls := .type "slice", data := .fields #[vl, vu, vk] } } := by
  have hlen : (behind qs z).length ≤ 64 := by
    unfold behind; rw [List.length_map]; exact Nat.le_trans (List.length_filter_le _ _) hq
  have hll : s.heap.IsList l (behind qs z).toArray := ⟨_, (N _ hl).1, rfl, _, rfl⟩
  have hsz : (behind qs z).toArray.size ≤ sizeLine := by rw [List.size_toArray, PySem.sizeLine_eq]; omega
  rcases list_last (behind qs z) with hb | ⟨l', v, hb⟩
  · refine kmk_slice3_lit (zs := []) F N hll pl pu pk (by decide) (by rw [hb]; exact congrArg Array.toList (slicePick_last #[] 1 (Nat.le_refl 1))) (fun D h' F' N' l1 => ?_) hs ht hsz
    have hv := at_all kvs qs z
    rw [hb] at hv
    cases e : valueAt kvs z with
    | none => rw [e] at hv; exact c2 D h' hv e F' N' l1
    | some x =>
      rw [e] at hv
      obtain ⟨q, hq', _, e2⟩ := at_mem e
      obtain ⟨u, tu, e3, hu⟩ := hR q hq'
      have e4 : x = .str u tu := e2.symm.trans e3
      subst e4
      exact c3 u tu D h' hu hv e F' N' l1
  · have hv := at_all kvs qs z
    rw [hb] at hv
    have hvm : v ∈ behind qs z := by rw [hb]; exact List.mem_append_right _ List.mem_cons_self
    obtain ⟨q, hq', _, e2⟩ := behind_mem hvm
    obtain ⟨u, tu, e3, hu⟩ := (hK q hq').2
    have e4 : v = .str u tu := e2.symm.trans e3
    subst e4
    refine kmk_slice3_lit (zs := [Value.str u tu]) F N hll pl pu pk (by decide) ?_ (fun D h' F' N' l1 => c1 u tu D h' hu (by simpa using hv) F' N' l1) hs ht hsz
    have h1 := slicePick_last (behind qs z).toArray 1 (Nat.le_refl 1)
    have h2 : slicePick (behind qs z).toArray (some (-1)) none none = ((behind qs z).toArray.toList.drop ((behind qs z).toArray.size - 1)).toArray := h1
    rw [h2, hb]
    simp
theorem ne_str_nil {D1 D2 : Addr} {u : Str} {tu : Tok} {n1 n2 : Nat} (N : News h₀ L s.heap all) (h1 : (D1, PySem.W.listOf [Value.str u tu].toArray n1) ∈ all) (h2 : (D2, PySem.W.listOf ([] : List Value).toArray n2) ∈ all) (hu : A.units + 64 < cLine) (ho : SmallP u)
    (h : Q (.bool true) s) : wpAny (model prog w) A (compareOp .NotEq (.ref D1) (.ref D2)) Q E s := by
  refine ne_dataH (reads_list_at (N _ h1).1 rfl rfl (.cons (.str u tu) .nil)) (reads_list_at (N _ h2).1 rfl rfl .nil) ?_ (by decide) hu h
  simp [SeqAt.shaped, PyData.canLay0, PyData.canLayAll0, PyData.depth, PyData.depthAll, ho.2.1]
theorem ne_nil_nil {D1 D2 : Addr} {n1 n2 : Nat} (N : News h₀ L s.heap all) (h1 : (D1, PySem.W.listOf ([] : List Value).toArray n1) ∈ all) (h2 : (D2, PySem.W.listOf ([] : List Value).toArray n2) ∈ all) (hu : A.units + 64 < cLine)
    (h : Q (.bool false) s) : wpAny (model prog w) A (compareOp .NotEq (.ref D1) (.ref D2)) Q E s :=
  ne_dataH (reads_list_at (N _ h1).1 rfl rfl .nil) (reads_list_at (N _ h2).1 rfl rfl .nil) (by decide) (by decide) hu h
theorem ne_str_str {D1 D2 : Addr} {u : Str} {tu tu' : Tok} {n1 n2 : Nat} (N : News h₀ L s.heap all) (h1 : (D1, PySem.W.listOf [Value.str u tu].toArray n1) ∈ all) (h2 : (D2, PySem.W.listOf [Value.str u tu'].toArray n2) ∈ all) (hu : A.units + 64 < cLine) (ho : SmallP u)
    (h : Q (.bool false) s) : wpAny (model prog w) A (compareOp .NotEq (.ref D1) (.ref D2)) Q E s := by
  refine ne_dataH (reads_list_at (N _ h1).1 rfl rfl (.cons (.str u tu) .nil)) (reads_list_at (N _ h2).1 rfl rfl (.cons (.str u tu') .nil)) ?_ ?_ hu ?_
  · simp [SeqAt.shaped, PyData.canLay0, PyData.canLayAll0, PyData.depth, PyData.depthAll, ho.2.1]
  · simp [SeqAt.shaped, PyData.canLay0, PyData.canLayAll0, PyData.depth, PyData.depthAll, ho.2.1]
  · have e : PyData.eqv (.list [.str u]) (.list [.str u]) = true := by simp [PyData.eqv, PyData.eqvAll]
    rw [e]; exact h
theorem ne_none_none {D1 D2 : Addr} {n1 n2 : Nat} (N : News h₀ L s.heap all) (h1 : (D1, PySem.W.listOf [Value.none].toArray n1) ∈ all) (h2 : (D2, PySem.W.listOf [Value.none].toArray n2) ∈ all) (hu : A.units + 64 < cLine)
    (h : Q (.bool false) s) : wpAny (model prog w) A (compareOp .NotEq (.ref D1) (.ref D2)) Q E s :=
  ne_dataH (reads_list_at (N _ h1).1 rfl rfl (.cons .none .nil)) (reads_list_at (N _ h2).1 rfl rfl (.cons .none .nil)) (by decide) (by decide) hu h
/-- two lists of the same pairs are alike -/
def pairD (q : Str × Value) : PyData := .tuple [.str q.1, .str (match q.2 with | .str z _ => z | _ => q.1)]
theorem reads_pairs {h : Heap} : ∀ {its : List Value} {kvs : List (Str × Value)}, its.length = kvs.length → (∀ (i : Nat) (q : Str × Value), kvs[i]? = some q → ∃ T t n, its[i]? = some (Value.ref T) ∧ h.get? T = some (pairO q.1 t q.2 n)) → (∀ q ∈ kvs, SmallV q.2) → ∃ as, ReadsAll h its (kvs.map pairD) as
  | [], [], _, _, _ => ⟨_, .nil⟩
  | [], _ :: _, hl, _, _ => by cases hl
  | _ :: _, [], hl, _, _ => by cases hl
  | v :: r, q :: kvs, hl, hg, hR => by
    obtain ⟨T, t, n, e1, e2⟩ := hg 0 q rfl
    obtain ⟨u, tu, e3, _⟩ := hR q List.mem_cons_self
    obtain ⟨as, ha⟩ := reads_pairs (its := r) (kvs := kvs) (Nat.succ.inj hl) (fun i q' e => hg (i + 1) q' e) (fun q' hq => hR q' (List.mem_cons_of_mem _ hq))
    have e1' : v = .ref T := Option.some.inj e1
    subst e1'
    obtain ⟨k, x⟩ := q
    dsimp only at e3
    subst e3
    have hr : Reads h (.ref T) (pairD (k, .str u tu)) _ := reads_tuple_at e2 rfl rfl (.cons (.str k t) (.cons (.str u tu) .nil))
    exact ⟨_, .cons hr ha⟩
theorem lay_pairs : ∀ {kvs : List (Str × Value)}, (∀ q ∈ kvs, SmallV q.2) → (∀ q ∈ kvs, PyData.strOk q.1 = true) → PyData.canLayAll0 (kvs.map pairD) = true ∧ PyData.depthAll (kvs.map pairD) ≤ 2
  | [], _, _ => ⟨rfl, by simp [PyData.depthAll]⟩
  | q :: r, h1, h2 => by
    obtain ⟨i1, i2⟩ := lay_pairs (kvs := r) (fun q' hq => h1 q' (List.mem_cons_of_mem _ hq)) (fun q' hq => h2 q' (List.mem_cons_of_mem _ hq))
    obtain ⟨u, tu, e3, hu⟩ := h1 q List.mem_cons_self
    have h3 := h2 q List.mem_cons_self
    obtain ⟨k, x⟩ := q
    dsimp only at e3 h3
    subst e3
    constructor
    · simp only [List.map_cons, pairD, PyData.canLayAll0, PyData.canLay0, h3, hu.2.1, i1, Bool.and_self]
    · simp only [List.map_cons, pairD, PyData.depthAll, PyData.depth]
      omega
theorem eq_pairs {B1 B2 : Addr} {its1 its2 : List Value} {n1 n2 : Nat} {kvs : List (Str × Value)} {tl : List (Addr × Obj)} (N : News h₀ L s.heap all) (h1 : (B1, PySem.W.listOf its1.toArray n1) ∈ all) (h2 : (B2, PySem.W.listOf its2.toArray n2) ∈ all) (hT1 : TupsIn its1 kvs tl) (hT2 : TupsIn its2 kvs tl) (hs : ∀ p ∈ tl, p ∈ all)
    (hR : ∀ q ∈ kvs, SmallV q.2) (hk : ∀ q ∈ kvs, PyData.strOk q.1 = true) (hu : A.units + 64 < cLine) (h : Q (.bool true) s) : wpAny (model prog w) A (compareOp .Eq (.ref B1) (.ref B2)) Q E s := by
  obtain ⟨as1, r1⟩ := reads_pairs (h := s.heap) hT1.1 (fun i q e => let ⟨T, t, n, a, b⟩ := hT1.2 i q e; ⟨T, t, n, a, (N _ (hs _ b)).1⟩) hR
  obtain ⟨as2, r2⟩ := reads_pairs (h := s.heap) hT2.1 (fun i q e => let ⟨T, t, n, a, b⟩ := hT2.2 i q e; ⟨T, t, n, a, (N _ (hs _ b)).1⟩) hR
  obtain ⟨l1, l2⟩ := lay_pairs hR hk
  have hsh : SeqAt.shaped (.list (kvs.map pairD)) = true := by
    have hd : (PyData.list (kvs.map pairD)).depth ≤ 64 := by simp only [PyData.depth]; omega
    have hc : (PyData.list (kvs.map pairD)).canLay0 = true := by simpa only [PyData.canLay0] using l1
    unfold SeqAt.shaped
    rw [hc, decide_eq_true hd]; rfl
  refine eq_dataH (reads_list_at (N _ h1).1 rfl rfl (by simpa using r1)) (reads_list_at (N _ h2).1 rfl rfl (by simpa using r2)) hsh hsh hu ?_
  rw [SeqAt.eqv_refl _ (SeqAt.canLay_of_shaped hsh)]; exact h
theorem keys_ok {kvs : List (Str × Value)} (h : (kvs.map (·.1)).Sublist [Str.ofString "", Str.ofString "p", Str.ofString "q"]) : ∀ q ∈ kvs, PyData.strOk q.1 = true := fun q hq => by
  have := h.subset (List.mem_map_of_mem hq)
  simp only [List.mem_cons, List.not_mem_nil, or_false] at this
  rcases this with e | e | e <;> (rw [e]; decide +kernel)
theorem keys_r {kvs : List (Str × Value)} (h : (kvs.map (·.1)).Sublist [Str.ofString "", Str.ofString "p", Str.ofString "q"]) : ∀ q ∈ kvs, ¬ q.1 = Str.ofString "r" := fun q hq => by
  have := h.subset (List.mem_map_of_mem hq)
  simp only [List.mem_cons, List.not_mem_nil, or_false] at this
  rcases this with e | e | e <;> (rw [e]; decide +kernel)
theorem qs_r {qs : List (Str × Value)} (h : ∀ q ∈ qs, SmallKV q.1 q.2) : ∀ q ∈ qs, ¬ q.1 = Str.ofString "r" := fun q hq => (h q hq).1.2.2
end
end
-- J7
section
section
variable {prog : Program} {w : World} {A : Around} {E : Value → Shared → Prop} {s : Shared} {env : Env} {h₀ : Heap} {body : List Stmt} {Q : Flow → Shared → Prop} {all : List (Addr × Obj)} {la : Addr} {nn : Nat} {m₀ : Str → Option Value} {g : Obj → List (Addr × Obj)}
/-- a turn's end: only the source is drawn from, and two names are set -/
def REnd (h₀ : Heap) (L : Addr) (s : Shared) (I : Addr) (oI : Obj) (g : Obj → List (Addr × Obj)) (nn : Nat) (a b : Str) (m₀ : Str → Option Value) (f : Flow) (s' : Shared) : Prop :=
  f = .next ∧ ∃ h' tk m' x y tx ty, s' = { s with heap := h', toks := tk } ∧ SrcInv x y ∧ Fr h₀ L h' m' ∧ (∀ z, z ≠ b → z ≠ a → m' z = m₀ z) ∧ News h₀ L h' ((I, oI) :: g (src x y tx ty nn))
theorem REnd.intro {L I : Addr} {oI : Obj} {a b : Str} {m' : Str → Option Value} {h' : Heap} {tk : Nat} {x y : Int} {tx ty : Tok} (F : Fr h₀ L h' m') (N : News h₀ L h' all) (_hs : (la, src x y tx ty nn) ∈ all) (hs : ∀ p ∈ (I, oI) :: g (src x y tx ty nn), p ∈ all) (i1 : 0 ≤ x) (i2 : 0 ≤ y) (i3 : y < 2147483647) (hm : ∀ z, z ≠ b → z ≠ a → m' z = m₀ z) :
    REnd h₀ L s I oI g nn a b m₀ .next { s with heap := h', toks := tk } := ⟨rfl, h', tk, m', x, y, tx, ty, rfl, ⟨i1, i2, i3⟩, F, hm, news_sub N hs⟩
theorem over2 {m m' : Str → Option Value} {a b : Str} (h : ∀ z, z ≠ b → z ≠ a → m' z = m z) : m' = fun z => if z = b then m' b else if z = a then m' a else m z := by
  funext z
  by_cases hb : z = b
  · simp [hb]
  · by_cases ha : z = a
    · subst ha; simp [hb]
    · simp [hb, ha, h z hb ha]
theorem range_turns {a b xn : Str} {px : Pos} {r : Addr} {lo hi : Int} {t u v : Tok} {n : Nat} {x y : Int} {tx ty : Tok}
    (hh : A.handled = none) (F : Fr h₀ env.locals s.heap m₀) (N : News h₀ env.locals s.heap (g (src x y tx ty nn))) (U : UpdG la g) (hx : 0 ≤ x) (hy : 0 ≤ y) (hy2 : y < 2147483647) (hr : IsRange s.heap r lo hi 1 t u v) (hsm : Builtin.Range.small lo hi 1 = true) (hn : Builtin.Range.rangeSize lo hi 1 = ((n : Nat) : Int))
    (turn : ∀ I oI i t x y tx ty av bv h tk, 0 ≤ x → 0 ≤ y → y < 2147483647 → UpdG la (fun o => (I, oI) :: g o) → (∀ o, ∀ p ∈ g o, p.1 ≠ I) → Fr h₀ env.locals h (fun z => if z = b then bv else if z = a then av else m₀ z) → News h₀ env.locals h ((I, oI) :: g (src x y tx ty nn)) →
      wpAny (model prog w) A (assign (.Name xn px) env (.int i t)) (fun _ s₂ => wpAny (model prog w) A (execs body env) (REnd h₀ env.locals { s with heap := h, toks := tk } I oI g nn a b m₀) E s₂) E { s with heap := h, toks := tk })
    (fin : ∀ x y tx ty av bv h tk, 0 ≤ x → 0 ≤ y → y < 2147483647 → Fr h₀ env.locals h (fun z => if z = b then bv else if z = a then av else m₀ z) → News h₀ env.locals h (g (src x y tx ty nn)) → Q .next { s with heap := h, toks := tk }) :
    wpAny (model prog w) A (pyIter (.ref r)) (fun it s₂ => TurnsAt prog w A h₀ env (.Name xn px) body Q E it s₂) E s := by
  have addr : ∀ o o', ∀ p ∈ g o, ∃ p' ∈ g o', p'.1 = p.1 := fun o o' p hp => by
    obtain ⟨pre, post, e0, hg, hp1, hp2⟩ := (U o).split
    rw [hg] at hp ⊢
    rcases List.mem_append.mp hp with hp | hp
    · exact ⟨p, List.mem_append_left _ hp, rfl⟩
    · rcases List.mem_cons.mp hp with rfl | hp
      · exact ⟨_, List.mem_append_right _ List.mem_cons_self, rfl⟩
      · exact ⟨p, List.mem_append_right _ (List.mem_cons_of_mem _ hp), rfl⟩
  refine wpAny_pyIter_range hr hsm ?_
  generalize hI : s.heap.objs.size = I
  have hIg : ∀ o, ∀ p ∈ g o, p.1 ≠ I := fun o p hp => by
    obtain ⟨p', hp', e⟩ := addr o (src x y tx ty nn) p hp
    rw [← e, ← hI]; exact Nat.ne_of_lt (Heap.lt_size (N p' hp').1)
  have hIla : I ≠ la := fun e => hIg default _ (UpdG.hole U default) e.symm
  have key : ∀ (us : List Int) (x y : Int) (tx ty : Tok) (m' : Str → Option Value), 0 ≤ x → 0 ≤ y → y < 2147483647 → (∀ z, z ≠ b → z ≠ a → m' z = m₀ z) →
      ItemsRest prog w A E h₀ env (.Name xn px) body Q s [(I, "range_iterator")] [] (us.map fun i => .tok (fun t => .int i t)) m' (g (src x y tx ty nn)) := by
    intro us
    induction us with
    | nil =>
      intro x y tx ty m' h1 h2 h3 hm'
      refine ItemsRest.zero fun h tk F' N' => fin x y tx ty (m' a) (m' b) h tk h1 h2 h3 ?_ N'
      rw [← over2 hm']; exact F'
    | cons i us ih =>
      intro x y tx ty m' h1 h2 h3 hm'
      refine ItemsRest.tok fun t h tk F' => AllObj.cons fun oI hc => AllObj.nil fun N' => ?_
      have F₁ : Fr h₀ env.locals h (fun z => if z = b then m' b else if z = a then m' a else m₀ z) := by rw [← over2 hm']; exact F'
      refine wpAny_mono (turn I oI i t x y tx ty (m' a) (m' b) h tk h1 h2 h3 (.tail hIla U) hIg F₁ N') (fun _ s₂ h₂ => wpAny_mono h₂ (fun f s₃ h₃ => ?_) fun _ _ e => e) fun _ _ e => e
      obtain ⟨rfl, h₂, tk₂, m₂, x', y', tx', ty', rfl, ⟨i1, i2, i3⟩, F₂, hm₂, N₂⟩ := h₃
      refine ⟨h₂, tk₂, m₂, g (src x' y' tx' ty' nn), rfl, F₂, N₂, ?_, trivial, ih x' y' tx' ty' m₂ i1 i2 i3 hm₂⟩
      intro p hp p' hp' e'
      rw [List.mem_singleton.mp hp'] at e'
      exact hIg _ p hp e'
  have up : ∀ b o, s.heap.get? b = some o → ∀ o', (s.heap.push o').get? b = some o := fun b o e o' => Heap.get?_push_of_some _ e
  refine ktu_core (tk0 := s.toks) (ws := [(I, "range_iterator")]) (keep := []) (xs := ((List.range n).map fun i : Nat => lo + (i : Int)).map fun i => .tok (fun t => .int i t)) (KTurns.ofWalks (LCg.range_walks hh lo n).bound fun i v s Q E _ q => wpAny_of_eq rfl q) (by simp) (fun i v h hp => ?_) (fun i h st => ?_) (fun b hb => ?_) (fun b hb => by simpa using hb) (fun b hb => ?_) ?_ (fun p hp hJ => ?_) ?_ (F.push _) (fun p hp => ⟨Heap.get?_push_of_some _ (N p hp).1, (N p hp).2⟩) trivial (key _ x y tx ty m₀ hx hy hy2 fun _ _ _ => rfl)
  · obtain ⟨hi, t, rfl⟩ := hp
    exact ⟨.tok (fun t => .int (lo + (i : Int)) t), by simp [hi], t, rfl⟩
  · have st' : h.get? I = some _ := st
    exact ⟨[(I, _)], ⟨⟨rfl, rfl⟩, trivial⟩, fun p hp => by rw [List.mem_singleton.mp hp]; exact st'⟩
  · have hb' : b = I := by simpa using hb
    rw [hb', ← hI]
    exact ⟨List.mem_cons_self .., next_is_new F⟩
  · exact .inl (by simpa using hb)
  · intro hJ
    exact absurd F.ns.lt (by rw [List.mem_singleton.mp hJ, hI]; exact Nat.lt_irrefl _)
  · exact hIg _ p hp (List.mem_singleton.mp hJ)
  · show IsRangeIter _ _ _ _ _
    rw [hn, ← hI]
    simpa using Heap.get?_push_size _ rfl
theorem range_use {a b xn : Str} {px : Pos} {r : Addr} {lo hi : Int} {t u v : Tok} {n : Nat} {x y : Int} {tx ty : Tok}
    (hh : A.handled = none) (F : Fr h₀ env.locals s.heap m₀) (N : News h₀ env.locals s.heap all) (_hs : (la, src x y tx ty nn) ∈ all) (U : UpdF la (src x y tx ty nn) all g) (hx : 0 ≤ x) (hy : 0 ≤ y) (hy2 : y < 2147483647) (hr : IsRange s.heap r lo hi 1 t u v) (hsm : Builtin.Range.small lo hi 1 = true) (hn : Builtin.Range.rangeSize lo hi 1 = ((n : Nat) : Int))
    (turn : ∀ I oI i t x y tx ty av bv h tk, 0 ≤ x → 0 ≤ y → y < 2147483647 → UpdG la (fun o => (I, oI) :: g o) → Fr h₀ env.locals h (fun z => if z = b then bv else if z = a then av else m₀ z) → News h₀ env.locals h ((I, oI) :: g (src x y tx ty nn)) →
      wpAny (model prog w) A (assign (.Name xn px) env (.int i t)) (fun _ s₂ => wpAny (model prog w) A (execs body env) (REnd h₀ env.locals { s with heap := h, toks := tk } I oI g nn a b m₀) E s₂) E { s with heap := h, toks := tk })
    (fin : ∀ x y tx ty av bv h tk, 0 ≤ x → 0 ≤ y → y < 2147483647 → UpdG la g → Fr h₀ env.locals h (fun z => if z = b then bv else if z = a then av else m₀ z) → News h₀ env.locals h (g (src x y tx ty nn)) → Q .next { s with heap := h, toks := tk }) :
    wpAny (model prog w) A (pyIter (.ref r)) (fun it s₂ => TurnsAt prog w A h₀ env (.Name xn px) body Q E it s₂) E s := by
  have e := UpdF.split U
  obtain ⟨pre, post, rfl, hg, _, _⟩ := e
  exact range_turns hh F (by rw [hg]; exact N) (.of U) hx hy hy2 hr hsm hn (fun I oI i t x y tx ty av bv h tk a1 a2 a3 U' _ F' N' => turn I oI i t x y tx ty av bv h tk a1 a2 a3 U' F' N') fun x y tx ty av bv h tk a1 a2 a3 F' N' => fin x y tx ty av bv h tk a1 a2 a3 (.of U) F' N'
end
end
-- T5
section
variable {w : World} {p : Program} {loose : List Str} {mean : ExcName → Option Value} {mg mb : Str → Option Value} {gd : Option (List Code)} {cn : Str} {cs : Scope} {a : Addr} {ccd : Value} {cl : List (Str × Addr)} {outer : List Env} {A₀ : Around} {base h₀ : Heap} {L : Addr} {m : Str → Option Value} {s : Shared} {Q E : Value → Shared → Prop} {news all : List (Addr × Obj)} {g : Obj → List (Addr × Obj)}
theorem names_cases {ys : List Value} {d : Int} (h : ∀ v ∈ ys, ∃ z t, v = Value.str z t ∧ NameP z) (hl : ys.length = (1 + d - 0).toNat) (h0 : 0 ≤ d) (h3 : d < 3) :
    (∃ z1 t1, ys = [Value.str z1 t1] ∧ NameP z1) ∨ (∃ z1 t1 z2 t2, ys = [Value.str z1 t1, Value.str z2 t2] ∧ NameP z1 ∧ NameP z2) ∨ (∃ z1 t1 z2 t2 z3 t3, ys = [Value.str z1 t1, Value.str z2 t2, Value.str z3 t3] ∧ NameP z1 ∧ NameP z2 ∧ NameP z3) := by
  match ys, h, hl with
  | [], _, hl => simp at hl; omega
  | [a], h, _ =>
    obtain ⟨z, t, rfl, hz⟩ := h a (by simp)
    exact .inl ⟨z, t, rfl, hz⟩
  | [a, b], h, _ =>
    obtain ⟨z, t, rfl, hz⟩ := h a (by simp)
    obtain ⟨z2, t2, rfl, hz2⟩ := h b (by simp)
    exact .inr (.inl ⟨z, t, z2, t2, rfl, hz, hz2⟩)
  | [a, b, c], h, _ =>
    obtain ⟨z, t, rfl, hz⟩ := h a (by simp)
    obtain ⟨z2, t2, rfl, hz2⟩ := h b (by simp)
    obtain ⟨z3, t3, rfl, hz3⟩ := h c (by simp)
    exact .inr (.inr ⟨z, t, z2, t2, z3, t3, rfl, hz, hz2, hz3⟩)
  | _ :: _ :: _ :: _ :: _, _, hl => simp at hl; omega
section
local macro_rules | `(tactic| k_lt $h:ident) => `(tactic| replace $h := allLt_of $h)
set_option maxRecDepth 100000 in
set_option maxHeartbeats 8000000 in
theorem names_spec {la : Addr} {x y : Int} {tx ty : Tok} {n : Nat}
    (B : Below A₀ base outer h₀) (F : Fr h₀ L s.heap m) (X : (hd.heap_39 w.params).In h₀) (T : Top p loose mean mg mb h₀) (hk : cs.kind = .function)
    (N : News h₀ L s.heap [(la, src x y tx ty n)]) (hx : 0 ≤ x) (hy : 0 ≤ y) (hy2 : y < 2147483647)
    (ret : ∀ x' y' tx' ty' h' tk', 0 ≤ x' → 0 ≤ y' → y' < 2147483647 → Fr h₀ L h' m → News h₀ L h' [(la, src x' y' tx' ty' n)] → (∀ b o, s.heap.get? b = some o → b ∉ [la] → h'.get? b = some o) → Q (.bool true) { s with heap := h', toks := tk' }) :
    wpAny (model PySem.Challenge.rw_xm0649_01.row.prog w) (ktrTop 380 3800 gd cn cs L a ccd cl outer) (call (.ref 117) [.ref la]) Q E s := by
  w_top off
  k_with_none
  k_with "k_all" => (assumption)
  k_with "k_updF" => ((with_reducible rename UpdG _ _ => uG; have uH := UpdG.at uG; exact uH _))
  k_with "k_ne" => ((refine neN ?_; (try dsimp only); first | with_reducible assumption | with_reducible exact Ne.symm (by assumption) | exact allLt_ne (by with_reducible assumption) (by k_mem) | exact (allLt_ne (by with_reducible assumption) (by k_mem)).symm | exact allNe_ne (by with_reducible assumption) (by k_mem) | exact (allNe_ne (by with_reducible assumption) (by k_mem)).symm | exact off1_ne (by with_reducible assumption) (by k_mem) | exact (off1_ne (by with_reducible assumption) (by k_mem)).symm))
  k_with "call ref" => ((k_here; k_dflt (refine' take_use ?k1 ?k2 ?k3 ?k4 ?k5 ?k6 ?k7 ?k8 ?k9 ?k10 ?k11 ?k12 ?k13 ?k14 ?_; (case k1 => k_asm); (case k2 => k_asm); (case k3 => k_asm); (case k4 => k_asm); (case k5 => k_asm); (case k6 => exact rfl); (case k7 => k_updF); (case k8 => assumption); (case k9 => assumption); (case k10 => assumption); (case k11 => first | decide | omega); (case k12 => first | decide | omega); (case k13 => exact Nat.le_of_ble_eq_true rfl); (case k14 => exact Nat.le_of_ble_eq_true rfl); k_whole; intro d' t' x' y' tx' ty' h' tk' a1' a2' a3' a4' a5' F' N'; (try dsimp only at N'); (try k_sweep))))
  k_with "call ref" => ((k_here; k_dflt (refine' one_use (P := NameP) ?k1 ?k2 ?k3 ?k4 ?k5 ?k6 ?k7 ?kM ?k8 ?k9 ?k10 ?k11 ?k12 ?kP ?k13 ?k14 ?_; (case k1 => k_asm); (case k2 => k_asm); (case k3 => k_asm); (case k4 => k_asm); (case k5 => k_asm); (case k6 => exact rfl); (case k7 => k_updF); (case kM => k_mem); (case k8 => assumption); (case k9 => assumption); (case k10 => assumption); (case k11 => exact Nat.le_of_ble_eq_true rfl); (case k12 => exact Nat.le_of_ble_eq_true rfl); (case kP => exact names_P); (case k13 => exact Nat.le_of_ble_eq_true rfl); (case k14 => exact Nat.le_of_ble_eq_true rfl); k_whole; intro z' t' x' y' tx' ty' h' tk' hp' a3' a4' a5' F' N'; (try dsimp only at N'))))
  k_with "call ref" => ((k_here; k_dflt (refine' prefix_use ?k1 ?k2 ?k3 ?k4 ?k5 ?k6 ?k7 ?k8 ?k9 ?k10 ?_; (case k1 => k_asm); (case k2 => k_asm); (case k3 => k_asm); (case k4 => k_asm); (case k5 => k_asm); (case k6 => exact rfl); (case k7 => first | exact nl1 (by assumption) | exact nl2 (by assumption) (by assumption) | exact nl3 (by assumption) (by assumption) (by assumption)); (case k8 => first | exact nameP_ok (by assumption) | exact no2 (by assumption) (by assumption) | exact no3 (by assumption) (by assumption) (by assumption)); (case k9 => exact Nat.le_of_ble_eq_true rfl); (case k10 => exact Nat.le_of_ble_eq_true rfl); k_whole; intro t' h' tk' F' N')))
  k_with "CompSrc" => ((k_here; k_dflt (
  (refine LCg.CompSrc.range (by rfl) (by k_asm) (by k_asm) (by assumption) (by exact small_d (k := 4) (by omega) (by omega) (by decide)) (by exact rangeSize_nat _ _) (by exact size_d (k := 4) (by omega) (by omega) (by decide)) ?_; intro g'; (refine gath (fun v => ∃ z t, v = Value.str z t ∧ NameP z) (by k_mem) (by k_updF) (by assumption) (by assumption) (by assumption) (fun i' v' I' oI' C' oC' D' m' ys' h' tk' x' y' tx' ty' E' hi' hv' hC' hx' b1' b2' b3' F' N' off' ne' U' => ?_) (fun ys' x' y' tx' ty' b1' b2' b3' hl' hP' => ?_)); (all_goals (try (obtain ⟨t9', hv9'⟩ := hv'; subst hv9'))); (all_goals (try dsimp only at N')); (all_goals (try (rcases names_cases hP' hl' (by assumption) (by assumption) with ⟨z1', t1', hz', hp1'⟩ | ⟨z1', t1', z2', t2', hz', hp1', hp2'⟩ | ⟨z1', t1', z2', t2', z3', t3', hz', hp1', hp2', hp3'⟩ <;> subst hz' <;> (have hn1' := nameP_len hp1') <;> (try (have hn2' := nameP_len hp2')) <;> (try (have hn3' := nameP_len hp3')))))))))
  k_with "GElt" => ((k_dflt (refine GElt.intro ⟨_, _, rfl, by assumption⟩ (by k_asm) (by k_asm) (by lcg_sub) (by assumption) (by assumption) (by assumption))))
  k_with "exec For Name Subscript cons nil" => ((k_here; (rename Fr _ _ _ _ => lF'); (with_unfolding_all refine' For_invVF lF' ?k1 ?k2 ?_; (case k1 => exact rfl); (case k2 => exact rfl); k_whole)))
  revert X; k_fill; intro X
  refine wpAny_call ?_
  k_dflt ((refine' enterC ?k1 ?k2 ?k3 ?k4 ?k5 ?kA ?kF ?kK ?k6 ?k7 ?k8 ?k9 ?kB ?kD ?_ ?c2 ?c3 ?c4; (case kA => exact rfl); (case kF => exact rfl); (case kK => assumption); (case k1 => k_asm); (case k2 => k_asm); (case k3 => k_asm); (case k4 => k_asm); (case k5 => k_asm); (case k6 => k_is); (case k7 => k_is); (case k8 => k_room); (case k9 => exact BindsTo.of_eq rfl); (case kB => exact rfl); (case kD => decide +kernel); (case c2 => exact rfl); (case c3 => exact rfl); (case c4 => exact rfl); k_whole; intro g' L' h' tk' cells' FG' F' N' Y' B' X' T' l1 kG'; (try (replace l1 := allLt_of l1; simp only [AllLt, and_true] at l1)); k_cells Y'; (try simp only [List.cons_append, List.nil_append] at N'); (try dsimp only); (try k_lift B'); (try k_fold)))
  k_steps
  all_goals (first | (with_reducible refine qb3 ?_ (by assumption) (by assumption) (by assumption)) | (with_reducible refine qb2 ?_ (by assumption) (by assumption)) | (with_reducible refine qb1 ?_ (by assumption)))
  all_goals (refine' ret _ _ _ _ _ _ ?_ ?_ ?_ ?F ?N ?K; (case F => k_asm); (case K => exact fun b o e n => keep_of (by assumption) (by with_reducible assumption) b o e n); (case N => exact news_sub (by assumption) (by lcg_sub)))
  all_goals assumption
end
theorem names_use {la : Addr} {x y : Int} {tx ty : Tok} {n dp un : Nat}
    (B : Below A₀ base outer h₀) (F : Fr h₀ L s.heap m) (X : (hd.heap_39 w.params).In h₀) (N : News h₀ L s.heap all) (T : Top p loose mean mg mb h₀) (hk : cs.kind = .function)
    (U : UpdF la (src x y tx ty n) all g) (hx : 0 ≤ x) (hy : 0 ≤ y) (hy2 : y < 2147483647) (hd : dp ≤ 380) (hu : un ≤ 3800)
    (ret : ∀ x' y' tx' ty' h' tk', 0 ≤ x' → 0 ≤ y' → y' < 2147483647 → Fr h₀ L h' m → News h₀ L h' (g (src x' y' tx' ty' n)) → Q (.bool true) { s with heap := h', toks := tk' }) :
    wpAny (model PySem.Challenge.rw_xm0649_01.row.prog w) (ktrTop dp un gd cn cs L a ccd cl outer) (call (.ref 117) [.ref la]) Q E s := by
  obtain ⟨pre, post, rfl, hg, h1, h2⟩ := U.split
  refine wpAny_room (names_spec B F X T hk (news_sub N (l' := [(la, src x y tx ty n)]) fun q hq => mem_hole _ (by rcases List.mem_singleton.mp hq with rfl; exact List.mem_cons_self)) hx hy hy2 ?_) hd hu
  intro x' y' tx' ty' h' tk' a3 a4 a5 F' N' k
  refine ret x' y' tx' ty' h' tk' a3 a4 a5 F' ?_
  rw [hg]
  refine news_sub (l := (la, src x' y' tx' ty' n) :: (pre ++ post)) (fun q hq => ?_) mem_hole'
  rcases List.mem_cons.mp hq with rfl | hq'
  · exact N' _ List.mem_cons_self
  · have hne : q.1 ≠ la := (List.mem_append.mp hq').elim (h1 q) (h2 q)
    have hN := N q (mem_hole _ (List.mem_cons_of_mem _ hq'))
    exact ⟨k _ _ hN.1 (by simpa using hne), hN.2⟩
end
-- T6
section
variable {w : World} {p : Program} {loose : List Str} {mean : ExcName → Option Value} {mg mb : Str → Option Value} {gd : Option (List Code)} {cn : Str} {cs : Scope} {a : Addr} {ccd : Value} {cl : List (Str × Addr)} {outer : List Env} {A₀ : Around} {base h₀ : Heap} {L : Addr} {m : Str → Option Value} {s : Shared} {Q E : Value → Shared → Prop} {news all : List (Addr × Obj)} {g : Obj → List (Addr × Obj)}
theorem DElt.intro {L : Addr} {m : Str → Option Value} {s : Shared} {own all : List (Addr × Obj)} {g : Obj → List (Addr × Obj)} {n : Nat} {R : Value → Prop} {z : Str} {t : Tok} {vv : Value} {h' : Heap} {tk : Nat} {x y : Int} {tx ty : Tok}
    (r : R vv) (F : Fr h₀ L h' m) (N : News h₀ L h' all) (hs : ∀ p ∈ own ++ g (src x y tx ty n), p ∈ all) (i1 : 0 ≤ x) (i2 : 0 ≤ y) (i3 : y < 2147483647) : DElt h₀ L m s own g n z R (.str z t) vv { s with heap := h', toks := tk } :=
  ⟨t, rfl, GElt.intro r F N hs i1 i2 i3⟩
section
local macro_rules | `(tactic| k_lt $h:ident) => `(tactic| replace $h := allLt_of $h)
set_option maxRecDepth 100000 in
set_option maxHeartbeats 2500000 in
theorem scope_spec {la : Addr} {x y : Int} {tx ty : Tok} {n : Nat}
    (B : Below A₀ base outer h₀) (F : Fr h₀ L s.heap m) (X : (hd.heap_39 w.params).In h₀) (T : Top p loose mean mg mb h₀) (hk : cs.kind = .function)
    (N : News h₀ L s.heap [(la, src x y tx ty n)]) (hx : 0 ≤ x) (hy : 0 ≤ y) (hy2 : y < 2147483647)
    (ret : ∀ x' y' tx' ty' h' tk', 0 ≤ x' → 0 ≤ y' → y' < 2147483647 → Fr h₀ L h' m → News h₀ L h' [(la, src x' y' tx' ty' n)] → (∀ b o, s.heap.get? b = some o → b ∉ [la] → h'.get? b = some o) → Q (.bool true) { s with heap := h', toks := tk' }) :
    wpAny (model PySem.Challenge.rw_xm0649_01.row.prog w) (ktrTop 370 3700 gd cn cs L a ccd cl outer) (call (.ref 122) [.ref la]) Q E s := by
  w_top off
  k_with_none
  k_with "k_updF" => ((with_reducible rename UpdG _ _ => uG; have uH := UpdG.at uG; exact uH _))
  k_with "k_all" => (assumption)
  k_with "call ref" => ((k_here; k_dflt (refine' take_use ?k1 ?k2 ?k3 ?k4 ?k5 ?k6 ?k7 ?k8 ?k9 ?k10 ?k11 ?k12 ?k13 ?k14 ?_; (case k1 => k_asm); (case k2 => k_asm); (case k3 => k_asm); (case k4 => k_asm); (case k5 => k_asm); (case k6 => exact rfl); (case k7 => k_updF); (case k8 => assumption); (case k9 => assumption); (case k10 => assumption); (case k11 => first | decide | omega); (case k12 => first | decide | omega); (case k13 => exact Nat.le_of_ble_eq_true rfl); (case k14 => exact Nat.le_of_ble_eq_true rfl); k_whole; intro d' t' x' y' tx' ty' h' tk' a1' a2' a3' a4' a5' F' N'; (try dsimp only at N'); (try k_sweep))))
  k_with "call ref" => ((k_here; k_dflt (refine' one_use (P := SmallP) ?k1 ?k2 ?k3 ?k4 ?k5 ?k6 ?k7 ?kM ?k8 ?k9 ?k10 ?k11 ?k12 ?kP ?k13 ?k14 ?_; (case k1 => k_asm); (case k2 => k_asm); (case k3 => k_asm); (case k4 => k_asm); (case k5 => k_asm); (case k6 => exact rfl); (case k7 => k_updF); (case kM => k_mem); (case k8 => assumption); (case k9 => assumption); (case k10 => assumption); (case k11 => exact Nat.le_of_ble_eq_true rfl); (case k12 => exact Nat.le_of_ble_eq_true rfl); (case kP => ((repeat (refine List.forall_mem_cons.mpr ⟨⟨_, _, rfl, SmallP.mk' (by decide +kernel) (by decide +kernel) (by decide +kernel)⟩, ?_⟩)); exact List.forall_mem_nil _)); (case k13 => exact Nat.le_of_ble_eq_true rfl); (case k14 => exact Nat.le_of_ble_eq_true rfl); k_whole; intro z' t' x' y' tx' ty' h' tk' hp' a3' a4' a5' F' N'; (try dsimp only at N'))))
  k_with "exec Assign cons DictComp" => ((k_here; k_dflt (refine Assign_DictComp_draw (by k_asm) (by rfl) (by with_unfolding_all rfl) (by with_unfolding_all rfl) (by decide) (by rfl) (by decide) (by rfl) (by rfl) (by rfl) ?_)))
  k_with "DictSrc" => ((k_here; k_dflt (refine' DictSrc.intro (nts := [(_, _), (_, _), (_, _)]) SmallV ?q0 ?q1 ?q2 ?q3 ?qb ?q4 ?q5 ?q6 ?q7 ?q8 ?q9 ?q10 ?q11 ?q12 ?_ ?_; (case q8 => k_asm); (case q9 => k_asm); (case q1 => k_mem); (case q0 => k_mem); (case q2 => k_updF); (case q3 => k_ne); (case qb => exact Top.nolimit (by k_asm)); (case q4 => rfl); (case q5 => rfl); (case q6 => exact (by decide +kernel : [Str.ofString "", Str.ofString "p", Str.ofString "q"].Nodup)); (case q7 => exact Nat.le_of_ble_eq_true rfl); (case q10 => assumption); (case q11 => assumption); (case q12 => assumption); k_whole; (intro q' I' oI' C' oC' D' oD' m' h' tk' x' y' tx' ty' E' hq' hC' hx' b1' b2' b3' F' N' U'; (try dsimp only at N')); rotate_left; (intro D' oD' kvs' h' tk' x' y' tx' ty' b1' b2' b3' F' N' U' ap' lt' hd' sub' R'; (replace ap' := allNe_of (ap' default)); (try dsimp only at ap'); (have hkl' : List.length kvs' ≤ 3 := by have := sub'.length_le; simpa using this); (replace sub' := (show List.Sublist (List.map _ _) [Str.ofString "", Str.ofString "p", Str.ofString "q"] from sub')); (try dsimp only at N')); rotate_left)))
  k_with "GElt" => ((k_dflt (refine GElt.intro True.intro (by k_asm) (by k_asm) (by lcg_sub) (by assumption) (by assumption) (by assumption))))
  k_with "DElt" => ((k_dflt (refine DElt.intro ⟨_, _, rfl, by assumption⟩ (by k_asm) (by k_asm) (by lcg_sub) (by assumption) (by assumption) (by assumption))))
  k_with "k_ne" => ((refine neN ?_; (try dsimp only); first | with_reducible assumption | with_reducible exact Ne.symm (by assumption) | exact allLt_ne (by with_reducible assumption) (by k_mem) | exact (allLt_ne (by with_reducible assumption) (by k_mem)).symm | exact allNe_ne (by with_reducible assumption) (by k_mem) | exact (allNe_ne (by with_reducible assumption) (by k_mem)).symm | exact off1_ne (by with_reducible assumption) (by k_mem) | exact (off1_ne (by with_reducible assumption) (by k_mem)).symm))
  k_with "CompSrc" => ((k_here; k_dflt (
  (refine LCg.CompSrc.range (by rfl) (by k_asm) (by k_asm) (by assumption) (by exact small_d (by assumption) (by assumption) (by decide)) (by first | exact rangeSize_nat _ _ | rfl) (by exact size_d (by assumption) (by assumption) (by decide)) ?_; intro g'; (refine gathT SmallKV (by k_mem) (by k_updF) (by assumption) (by assumption) (by assumption) (fun i' v' I' oI' C' oC' D' m' ys' tups' h' tk' x' y' tx' ty' E' hv' hC' hx' b1' b2' b3' F' N' U' => ?_) (fun ys' qs' tups' x' y' tx' ty' b1' b2' b3' hl' hT' hK' hA' U' => ?_)); (all_goals (try (have hAc' := ApartT.at hA' (.tail _ (.tail _ (.tail _ (.tail _ (.head _))))); (try dsimp only at hAc'); clear hA'; (have hql' : List.length qs' ≤ 4 := by rw [← hT'.1, hl']; omega)))); (all_goals (try (obtain ⟨t9', hv9'⟩ := hv'; subst hv9'))); (all_goals (try dsimp only at N' U')); (all_goals (try dsimp only [List.cons_append, List.nil_append] at N' U'))))))
  k_with "PElt" => ((k_dflt (refine' PElt.intro ?r ?F ?N ?hs ?i1 ?i2 ?i3 ?o1; (case F => k_asm); (case N => k_asm); (case hs => exact fun _ hp => hp); (case r => exact ⟨by assumption, _, _, rfl, by assumption⟩); (case i1 => assumption); (case i2 => assumption); (case i3 => assumption); (case o1 => (repeat (first | exact True.intro | refine And.intro (by k_ne) ?_))))))
  k_with "call builtin:sorted" => ((k_here; k_dflt (refine' sorted_use ?zT ?zA ?zX ?zh ?zF ?zN ?zW ?zc ?zv ?zm ?zd ?zs ?_; (case zT => assumption); (case zF => k_asm); (case zN => k_asm); (case zX => assumption); (case zA => assumption); (case zh => rfl); (case zW => (first | exact TailOf.cons (TailOf.cons (TailOf.cons (TailOf.cons (TailOf.cons (TailOf.cons (TailOf.cons (TailOf.cons (TailOf.cons (TailOf.nil))))))))) | exact TailOf.cons (TailOf.cons (TailOf.cons (TailOf.cons (TailOf.cons (TailOf.cons (TailOf.cons (TailOf.cons (TailOf.cons (TailOf.cons (TailOf.nil)))))))))) | exact TailOf.cons (TailOf.cons (TailOf.cons (TailOf.cons (TailOf.cons (TailOf.cons (TailOf.cons (TailOf.cons (TailOf.cons (TailOf.cons (TailOf.cons (TailOf.nil))))))))))) | exact TailOf.cons (TailOf.cons (TailOf.cons (TailOf.cons (TailOf.cons (TailOf.cons (TailOf.cons (TailOf.cons (TailOf.cons (TailOf.cons (TailOf.cons (TailOf.cons (TailOf.nil)))))))))))) | exact TailOf.cons (TailOf.cons (TailOf.cons (TailOf.cons (TailOf.cons (TailOf.cons (TailOf.cons (TailOf.cons (TailOf.cons (TailOf.cons (TailOf.cons (TailOf.cons (TailOf.cons (TailOf.nil))))))))))))) | exact TailOf.cons (TailOf.cons (TailOf.cons (TailOf.cons (TailOf.cons (TailOf.cons (TailOf.cons (TailOf.cons (TailOf.cons (TailOf.cons (TailOf.cons (TailOf.cons (TailOf.cons (TailOf.cons (TailOf.nil)))))))))))))) | exact TailOf.cons (TailOf.cons (TailOf.cons (TailOf.cons (TailOf.cons (TailOf.cons (TailOf.cons (TailOf.cons (TailOf.cons (TailOf.cons (TailOf.cons (TailOf.cons (TailOf.cons (TailOf.cons (TailOf.cons (TailOf.nil))))))))))))))) | exact TailOf.cons (TailOf.cons (TailOf.cons (TailOf.cons (TailOf.cons (TailOf.cons (TailOf.cons (TailOf.cons (TailOf.cons (TailOf.cons (TailOf.cons (TailOf.cons (TailOf.cons (TailOf.cons (TailOf.cons (TailOf.cons (TailOf.nil)))))))))))))))) | exact TailOf.cons (TailOf.cons (TailOf.cons (TailOf.cons (TailOf.cons (TailOf.cons (TailOf.cons (TailOf.cons (TailOf.cons (TailOf.cons (TailOf.cons (TailOf.cons (TailOf.cons (TailOf.cons (TailOf.cons (TailOf.cons (TailOf.cons (TailOf.nil))))))))))))))))) | exact TailOf.cons (TailOf.cons (TailOf.cons (TailOf.cons (TailOf.cons (TailOf.cons (TailOf.cons (TailOf.cons (TailOf.cons (TailOf.cons (TailOf.cons (TailOf.cons (TailOf.cons (TailOf.cons (TailOf.cons (TailOf.cons (TailOf.cons (TailOf.cons (TailOf.nil)))))))))))))))))) | exact TailOf.cons (TailOf.cons (TailOf.cons (TailOf.cons (TailOf.cons (TailOf.cons (TailOf.cons (TailOf.cons (TailOf.cons (TailOf.cons (TailOf.cons (TailOf.cons (TailOf.cons (TailOf.cons (TailOf.cons (TailOf.cons (TailOf.cons (TailOf.cons (TailOf.cons (TailOf.nil))))))))))))))))))) | exact TailOf.cons (TailOf.cons (TailOf.cons (TailOf.cons (TailOf.cons (TailOf.cons (TailOf.cons (TailOf.cons (TailOf.cons (TailOf.cons (TailOf.cons (TailOf.cons (TailOf.cons (TailOf.cons (TailOf.cons (TailOf.cons (TailOf.cons (TailOf.cons (TailOf.cons (TailOf.cons (TailOf.nil)))))))))))))))))))) | exact TailOf.cons (TailOf.cons (TailOf.cons (TailOf.cons (TailOf.cons (TailOf.cons (TailOf.cons (TailOf.cons (TailOf.cons (TailOf.cons (TailOf.cons (TailOf.cons (TailOf.cons (TailOf.cons (TailOf.cons (TailOf.cons (TailOf.cons (TailOf.cons (TailOf.cons (TailOf.cons (TailOf.cons (TailOf.nil))))))))))))))))))))) | exact TailOf.cons (TailOf.cons (TailOf.cons (TailOf.cons (TailOf.cons (TailOf.cons (TailOf.cons (TailOf.cons (TailOf.cons (TailOf.cons (TailOf.cons (TailOf.cons (TailOf.cons (TailOf.cons (TailOf.cons (TailOf.cons (TailOf.cons (TailOf.cons (TailOf.cons (TailOf.cons (TailOf.cons (TailOf.cons (TailOf.nil)))))))))))))))))))))) | exact TailOf.cons (TailOf.cons (TailOf.cons (TailOf.cons (TailOf.cons (TailOf.cons (TailOf.cons (TailOf.cons (TailOf.cons (TailOf.cons (TailOf.cons (TailOf.cons (TailOf.cons (TailOf.cons (TailOf.cons (TailOf.cons (TailOf.cons (TailOf.cons (TailOf.cons (TailOf.cons (TailOf.cons (TailOf.cons (TailOf.cons (TailOf.nil))))))))))))))))))))))))); (case zc => k_mem); (case zv => k_mem); (case zm => k_mem); (case zd => assumption); (case zs => assumption); k_whole; intro B' its' n' tl' h' tk' hT' hT2' hs' hA' hB' F' N'; (dsimp only [List.cons_append, List.nil_append] at N' hB'); (try k_sweep); (replace hB' := allNe_of hB'))))
  k_with "call ref" => ((k_here; k_dflt (refine' inner_use ?k1 ?k2 ?k3 ?k4 ?k5 ?k6 ?z1 ?z2 ?z3 ?z4 ?z5 ?z6 ?z7 ?z8 ?z9 ?_; (case k2 => k_asm); (case k1 => k_asm); (case k3 => k_asm); (case k4 => k_asm); (case k5 => k_asm); (case k6 => exact rfl); (case z1 => k_mem); (case z2 => k_mem); (case z5 => assumption); (case z4 => assumption); (case z3 => exact fun p hp => by (repeat (first | exact hp | refine List.mem_cons_of_mem _ ?_))); (case z6 => assumption); (case z7 => omega); (case z8 => exact Nat.le_of_ble_eq_true rfl); (case z9 => exact Nat.le_of_ble_eq_true rfl); k_whole; intro d' od' h' tk' ap' lo' hd' F' N'; (try k_sweep); (replace ap' := allNe_of ap'))))
  k_with "k_updF" => (with_reducible assumption)
  k_with "exec For Name BinOp cons nil" => ((k_here; k_dflt (refine For_turns (by k_asm) ?_)))
  k_with "pyIter ref" => ((k_here; k_dflt (refine' strs_turns (y := Str.ofString "last") ?qT ?qA ?q1 ?q2 ?q3 ?q4 ?q5 ?q6 ?q7 ?q8 ?_ ?_; (case q2 => k_asm); (case q3 => k_asm); (case qT => assumption); (case qA => assumption); (case q1 => rfl); (case q4 => k_mem); (case q5 => k_mem); (case q6 => assumption); (case q7 => k_updF); (case q8 => k_ne); k_whole; (intro I' oI' v' oc' v0' mv' h' tk' hv' hd' U' F' N'; (try dsimp only at F' N' U'); (have hz' : ∃ z t, v' = Value.str z t := by (simp only [List.mem_cons, List.not_mem_nil, or_false] at hv'; rcases hv' with h | h | h | h <;> exact ⟨_, _, h⟩)); obtain ⟨z', t', hz'⟩ := hz'; subst hz'; clear hv'; (have pf' : Pfx z' := True.intro)); rotate_left; (intro oc' mv' h' tk' F' N'; (try dsimp only at F' N')); rotate_left)))
  k_with "eval ListComp" => ((k_here; k_dflt (refine pairs_ListComp (by k_asm) (by with_unfolding_all rfl) (by decide) (by rfl) (by decide) (by rfl) (by rfl) (by decide) ?_)))
  k_with "PairSrc" => ((k_here; k_dflt (refine' PairSrc.intro ?qp ?qT ?qq ?q1 ?q2 ?q3 ?q4 ?q5 ?_ ?_ ?_; (case q2 => k_asm); (case q3 => k_asm); (case qp => assumption); (case q4 => k_mem); (case qT => assumption); (case qq => omega); (case q1 => rfl); (case q5 => exact fun p hp => by (repeat (first | exact hp | refine List.mem_cons_of_mem _ ?_))); k_whole; (intro I' oI' k' v' t' C' oC' D' zs' m' h' tk' E' hq' hC' ha' hb' F' N'; try k_fold); rotate_left; (intro I' oI' k' v' t' C' oC' D' zs' m' h' tk' E' hq' hC' ha' hb' F' N'; try k_fold); rotate_left; (intro g'); rotate_left)))
  k_with "TTest" => ((k_dflt (refine' TTest.intro ?e ?F ?N ?hs; (case e => exact rfl); (case F => k_asm); (case N => k_asm); (case hs => exact fun _ hp => hp))))
  k_with "TElt" => ((k_dflt (refine' TElt.intro ?e ?F ?N ?hs; (case e => exact rfl); (case F => k_asm); (case N => k_asm); (case hs => exact fun _ hp => hp))))
  k_with "SEnd" => ((k_dflt (refine' SEnd.intro ?F ?N ?d ?hs ?m; (case F => k_asm); (case N => k_asm); (case hs => exact fun p hp => by (repeat (first | exact hp | refine List.mem_cons_of_mem _ ?_))); (case d => assumption); (case m => (intro z h1; (try dsimp only); simp only [h1, if_false])))))
  k_with "FinA" => (((unfold LCg.FinA); (intro D' h' tk' F' N' o1'); (try dsimp only at N' o1'); (try dsimp only [List.nil_append, List.cons_append] at N' o1'); (try dsimp only);  (try k_sweep)))
  k_with "FinE" => (((unfold LCg.FinE); (intro D' h' tk' F' N' o1'); (try dsimp only at N' o1'); (try dsimp only [List.nil_append, List.cons_append] at N' o1'); (try dsimp only);  (try k_sweep)))
  k_with "subscriptTail" => ((k_here; k_dflt (refine kba_turn (value' := PySem.Expr.Name (PySem.Str.ofString "_") ⟨0, 0, 0, 0⟩) (fun _ => rfl) ?_; refine' last_use ?F ?N ?l ?pl ?pu ?pk ?q ?K ?R ?s ?t ?_ ?_ ?_; (case F => k_asm); (case N => k_asm); (case l => k_mem); (case pl => exact IsPart.int _ _); (case pu => exact IsPart.none); (case pk => exact IsPart.none); (case K => assumption); (case R => assumption); (case q => omega); (case s => with_unfolding_all rfl); (case t => (intro _; with_unfolding_all rfl)); k_whole; (intro u' tu' D' h' hu' hv1' F' N' l1; (try k_lt l1); (try k_sweep)); rotate_left; (intro D' h' hv1' hv2' F' N' l1; (try k_lt l1); (try k_sweep)); rotate_left; (intro u' tu' D' h' hu' hv1' hv2' F' N' l1; (try k_lt l1); (try k_sweep)); rotate_left)))
  k_with "compareOp NotEq ref ref" => ((k_here; k_dflt (first
  | (refine' ne_str_nil ?N ?a ?b ?c ?d ?_; (case N => k_asm); (case a => k_mem); (case b => k_mem); (case c => exact Nat.le_of_ble_eq_true rfl); (case d => assumption); k_whole)
  | (refine' ne_nil_nil ?N ?a ?b ?c ?_; (case N => k_asm); (case a => k_mem); (case b => k_mem); (case c => exact Nat.le_of_ble_eq_true rfl); k_whole)
  | (refine' ne_str_str ?N ?a ?b ?c ?d ?_; (case N => k_asm); (case a => k_mem); (case b => k_mem); (case c => exact Nat.le_of_ble_eq_true rfl); (case d => assumption); k_whole)
  | (refine' ne_none_none ?N ?a ?b ?c ?_; (case N => k_asm); (case a => k_mem); (case b => k_mem); (case c => exact Nat.le_of_ble_eq_true rfl); k_whole))))
  k_with "call builtin:dict.get" => ((k_here; k_dflt (refine' kdg_get1 (knd := PySem.strKind _ _) ?N ?a ?b ?c ?d _ ?e ?_; (case N => k_asm); (case a => k_mem); (case b => assumption); (case c => assumption); (case d => exact strKind_is _ _ _ _); (case e => assumption); k_whole; (try dsimp only [Option.getD]))))
  k_with "compareOp Eq ref ref" => ((k_here; k_dflt (refine' eq_pairs ?N ?a ?b ?t1 ?t2 ?hs ?R ?K ?u ?_; (case N => k_asm); (case a => k_mem); (case b => k_mem); (case t1 => assumption); (case t2 => assumption); (case hs => exact fun p hp => by (repeat (first | exact hp | refine List.mem_cons_of_mem _ ?_))); (case R => assumption); (case K => exact keys_ok (by assumption)); (case u => exact Nat.le_of_ble_eq_true rfl); k_whole)))
  k_with "compareOp NotIn str ref" => ((k_here; k_dflt (refine' kdg_notin (knd := PySem.strKind _ _) ?N ?a ?b ?c ?d false ?e ?_; (case N => k_asm); (case a => k_mem); (case b => assumption); (case c => assumption); (case d => exact strKind_is _ _ _ _); (case e => exact at_r (keys_r (by assumption)) (qs_r (by assumption))); k_whole; (try dsimp only [Bool.not_false]))))
  revert X; k_fill; intro X
  refine wpAny_call ?_
  k_dflt ((refine' enterC ?k1 ?k2 ?k3 ?k4 ?k5 ?kA ?kF ?kK ?k6 ?k7 ?k8 ?k9 ?kB ?kD ?_ ?c2 ?c3 ?c4; (case kA => exact rfl); (case kF => exact rfl); (case kK => assumption); (case k1 => k_asm); (case k2 => k_asm); (case k3 => k_asm); (case k4 => k_asm); (case k5 => k_asm); (case k6 => k_is); (case k7 => k_is); (case k8 => k_room); (case k9 => exact BindsTo.of_eq rfl); (case kB => exact rfl); (case kD => decide +kernel); (case c2 => exact rfl); (case c3 => exact rfl); (case c4 => exact rfl); k_whole; intro g' L' h' tk' cells' FG' F' N' Y' B' X' T' l1 kG'; (try (replace l1 := allLt_of l1; simp only [AllLt, and_true] at l1)); k_cells Y'; (try dsimp only [List.cons_append, List.nil_append] at N'); (try dsimp only); (try k_lift B'); (try k_fold)))
  k_steps
  all_goals (refine' ret _ _ _ _ _ _ ?_ ?_ ?_ ?F ?N ?K; (case F => k_asm); (case N => (refine news_sub (by assumption) ?_; refine src_mem ?_; k_dflt k_mem)); (case K => exact fun b o e n => keep_of (by assumption) (by with_reducible assumption) b o e n))
  all_goals assumption
end
theorem scope_use {la : Addr} {x y : Int} {tx ty : Tok} {n dp un : Nat}
    (B : Below A₀ base outer h₀) (F : Fr h₀ L s.heap m) (X : (hd.heap_39 w.params).In h₀) (N : News h₀ L s.heap all) (T : Top p loose mean mg mb h₀) (hk : cs.kind = .function)
    (U : UpdF la (src x y tx ty n) all g) (hx : 0 ≤ x) (hy : 0 ≤ y) (hy2 : y < 2147483647) (hd : dp ≤ 370) (hu : un ≤ 3700)
    (ret : ∀ x' y' tx' ty' h' tk', 0 ≤ x' → 0 ≤ y' → y' < 2147483647 → Fr h₀ L h' m → News h₀ L h' (g (src x' y' tx' ty' n)) → Q (.bool true) { s with heap := h', toks := tk' }) :
    wpAny (model PySem.Challenge.rw_xm0649_01.row.prog w) (ktrTop dp un gd cn cs L a ccd cl outer) (call (.ref 122) [.ref la]) Q E s := by
  obtain ⟨pre, post, rfl, hg, h1, h2⟩ := U.split
  refine wpAny_room (scope_spec B F X T hk (news_sub N (l' := [(la, src x y tx ty n)]) fun q hq => mem_hole _ (by rcases List.mem_singleton.mp hq with rfl; exact List.mem_cons_self)) hx hy hy2 ?_) hd hu
  intro x' y' tx' ty' h' tk' a3 a4 a5 F' N' k
  refine ret x' y' tx' ty' h' tk' a3 a4 a5 F' ?_
  rw [hg]
  refine news_sub (l := (la, src x' y' tx' ty' n) :: (pre ++ post)) (fun q hq => ?_) mem_hole'
  rcases List.mem_cons.mp hq with rfl | hq'
  · exact N' _ List.mem_cons_self
  · have hne : q.1 ≠ la := (List.mem_append.mp hq').elim (h1 q) (h2 q)
    have hN := N q (mem_hole _ (List.mem_cons_of_mem _ hq'))
    exact ⟨k _ _ hN.1 (by simpa using hne), hN.2⟩
end
-- T7
section
theorem PieceP.le {z : Str} (h : PieceP z) : z.length ≤ 5 := h.1
theorem PieceP.mk' {z : Str} (h : z.length ≤ 5) (h2 : PyData.strOk z = true) : PieceP z := ⟨h, h2⟩
section
local macro_rules | `(tactic| k_lt $h:ident) => `(tactic| replace $h := allLt_of $h)
set_option maxRecDepth 100000 in
set_option maxHeartbeats 2500000 in
theorem law_holds : PySem.Challenge.rw_xm0649_01.Holds := hd (by
  k_with_none
  k_with "k_updF" => ((with_reducible rename UpdG _ _ => uG; have uH := UpdG.at uG; exact uH _))
  k_with "k_ne" => ((refine neN ?_; (try dsimp only); first | with_reducible assumption | with_reducible exact Ne.symm (by assumption) | exact allLt_ne (by with_reducible assumption) (by k_mem) | exact (allLt_ne (by with_reducible assumption) (by k_mem)).symm | exact allNe_ne (by with_reducible assumption) (by k_mem) | exact (allNe_ne (by with_reducible assumption) (by k_mem)).symm | exact off1_ne (by with_reducible assumption) (by k_mem) | exact (off1_ne (by with_reducible assumption) (by k_mem)).symm))
  k_with "k_all" => (assumption)
  k_with "call ref" => ((k_here; k_dflt (refine' written_use0 ?k1 ?k2 ?k3 ?k4 ?k5 ?k6 ?kC ?k7 ?k8 ?k9 ?k10 ?k11 ?k12 ?k13 ?_; (case k2 => k_asm); (case k1 => k_asm); (case k3 => k_asm); (case k4 => k_asm); (case k5 => k_asm); (case k6 => exact rfl); (case kC => kn_code); (case k7 => k_updF); (case k8 => first | assumption | exact Nat.le_of_ble_eq_true (by with_unfolding_all rfl) | decide +kernel); (case k9 => first | assumption | decide +kernel); (case k10 => first | assumption | decide +kernel); (case k11 => first | assumption | decide +kernel); (case k12 => exact Nat.le_of_ble_eq_true rfl); (case k13 => exact Nat.le_of_ble_eq_true rfl); k_whole; intro c1' c2' o1' o2' v1' v2' t1' t2' h' tk' Lm' f1' f2' f3' F' N'; (try dsimp only at N');   (try k_sweep))))
  k_with "call ref" => ((k_here; k_dflt (refine' written_use1 ?k1 ?k2 ?k3 ?k4 ?k5 ?k6 ?kC ?kL ?m0 ?m1 ?m2 ?k8 ?k9 ?k10 ?k11 ?k12 ?k13 ?_; (case k2 => k_asm); (case k1 => k_asm); (case k3 => k_asm); (case k4 => k_asm); (case k5 => k_asm); (case k6 => exact rfl); (case kC => kn_code); (case kL => assumption); (case m0 => k_mem); (case m1 => k_mem); (case m2 => k_mem); (case k8 => first | assumption | decide +kernel); (case k9 => first | assumption | exact Nat.le_trans (PieceP.le (by assumption)) (by decide) | decide +kernel); (case k10 => first | assumption | decide +kernel); (case k11 => first | assumption | exact (by assumption : PieceP _).2 | decide +kernel); (case k12 => exact Nat.le_of_ble_eq_true rfl); (case k13 => exact Nat.le_of_ble_eq_true rfl); k_whole; intro h' tk' F' N'; (try k_sweep))))
  k_with "call ref" => ((k_here; k_dflt (refine' names_use ?k1 ?k2 ?k3 ?k4 ?k5 ?k6 ?k7 ?k8 ?k9 ?k10 ?k11 ?k12 ?_; (case k2 => k_asm); (case k1 => k_asm); (case k3 => k_asm); (case k4 => k_asm); (case k5 => k_asm); (case k6 => exact rfl); (case k7 => k_updF); (case k8 => assumption); (case k9 => assumption); (case k10 => assumption); (case k11 => exact Nat.le_of_ble_eq_true rfl); (case k12 => exact Nat.le_of_ble_eq_true rfl); k_whole; intro x' y' tx' ty' h' tk' a3' a4' a5' F' N'; (try dsimp only at N'); (try k_sweep))))
  k_with "call ref" => ((k_here; k_dflt (refine' scope_use ?k1 ?k2 ?k3 ?k4 ?k5 ?k6 ?k7 ?k8 ?k9 ?k10 ?k11 ?k12 ?_; (case k2 => k_asm); (case k1 => k_asm); (case k3 => k_asm); (case k4 => k_asm); (case k5 => k_asm); (case k6 => exact rfl); (case k7 => k_updF); (case k8 => assumption); (case k9 => assumption); (case k10 => assumption); (case k11 => exact Nat.le_of_ble_eq_true rfl); (case k12 => exact Nat.le_of_ble_eq_true rfl); k_whole; intro x' y' tx' ty' h' tk' a3' a4' a5' F' N'; (try dsimp only at N'); (try k_sweep))))
  k_with "call ref" => ((k_here; k_dflt (refine' take_use ?k1 ?k2 ?k3 ?k4 ?k5 ?k6 ?k7 ?k8 ?k9 ?k10 ?k11 ?k12 ?k13 ?k14 ?_; (case k1 => k_asm); (case k2 => k_asm); (case k3 => k_asm); (case k4 => k_asm); (case k5 => k_asm); (case k6 => exact rfl); (case k7 => k_updF); (case k8 => assumption); (case k9 => assumption); (case k10 => assumption); (case k11 => first | decide | omega); (case k12 => first | decide | omega); (case k13 => exact Nat.le_of_ble_eq_true rfl); (case k14 => exact Nat.le_of_ble_eq_true rfl); k_whole; intro d' t' x' y' tx' ty' h' tk' a1' a2' a3' a4' a5' F' N'; (try dsimp only at N'); (try k_sweep))))
  k_with "call ref" => ((k_here; k_dflt (refine' one_use (P := PieceP) ?k1 ?k2 ?k3 ?k4 ?k5 ?k6 ?k7 ?kM ?k8 ?k9 ?k10 ?k11 ?k12 ?kP ?k13 ?k14 ?_; (case k1 => k_asm); (case k2 => k_asm); (case k3 => k_asm); (case k4 => k_asm); (case k5 => k_asm); (case k6 => exact rfl); (case k7 => k_updF); (case kM => k_mem); (case k8 => assumption); (case k9 => assumption); (case k10 => assumption); (case k11 => exact Nat.le_of_ble_eq_true rfl); (case k12 => exact Nat.le_of_ble_eq_true rfl); (case kP => ((repeat (refine List.forall_mem_cons.mpr ⟨⟨_, _, rfl, PieceP.mk' (by decide +kernel) (by decide +kernel)⟩, ?_⟩)); exact List.forall_mem_nil _)); (case k13 => exact Nat.le_of_ble_eq_true rfl); (case k14 => exact Nat.le_of_ble_eq_true rfl); k_whole; intro z' t' x' y' tx' ty' h' tk' hp' a3' a4' a5' F' N'; (try dsimp only at N'))))
  k_with "CompSrc" => ((k_here; k_dflt (
  (refine LCg.CompSrc.range (by rfl) (by k_asm) (by k_asm) (by assumption) (by exact small_d (by assumption) (by assumption) (by decide)) (by first | exact rangeSize_nat _ _ | rfl) (by exact size_d (by assumption) (by assumption) (by decide)) ?_; intro g'; (refine gath (fun v => ∃ z t, v = Value.str z t ∧ PieceP z) (by k_mem) (by k_updF) (by assumption) (by assumption) (by assumption) (fun i' v' I' oI' C' oC' D' m' ys' h' tk' x' y' tx' ty' E' hi' hv' hC' hx' b1' b2' b3' F' N' off' ne' U' => ?_) (fun ys' x' y' tx' ty' b1' b2' b3' hl' hP' => ?_)); (all_goals (try (obtain ⟨t9', hv9'⟩ := hv'; subst hv9'))); (all_goals (try dsimp only at N'))))))
  k_with "GElt" => ((k_dflt (refine GElt.intro ⟨_, _, rfl, by assumption⟩ (by k_asm) (by k_asm) (by lcg_sub) (by assumption) (by assumption) (by assumption))))
  k_with "call builtin:str.join" => ((k_here; k_dflt (refine join_pieces (by k_asm) (by k_mem) (by assumption) (len_d (by assumption) (by assumption)) ?_; intro z' t' k' hz' hz2')))
  k_with "call ref" => ((k_here; k_dflt (refine' pool_use ?k1 ?k2 ?k3 ?k4 ?k5 ?k6 ?kL ?kI ?kn ?ky ?k11 ?k12 ?_; (case k2 => k_asm); (case k1 => k_asm); (case k3 => k_asm); (case k4 => k_asm); (case k5 => k_asm); (case k6 => exact rfl); (case kL => assumption); (case kI => assumption); (case kn => assumption); (case ky => assumption); (case k11 => exact Nat.le_of_ble_eq_true rfl); (case k12 => exact Nat.le_of_ble_eq_true rfl); k_whole; intro la' x' y' tx' ty' n' h' tk' a3' a4' a5' o1' UG' F' N'; (try dsimp only at N');  (try k_sweep))))
  k_with "FinE" => (((unfold LCg.FinE); (intro D' h' tk' F' N' o1'); (try dsimp only at N' o1'); (try dsimp only [List.nil_append, List.cons_append] at N' o1'); (try dsimp only); (try k_sweep)))
  k_with "exec For Name Call cons nil" => ((k_here; k_dflt (refine For_turns (by k_asm) ?_)))
  k_with "pyIter ref" => ((k_here; k_dflt (refine' range_use (a := Str.ofString "turn") (b := Str.ofString "text") (n := 2) ?q1 ?q2 ?q3 ?q4 ?q5 ?q6 ?q7 ?q8 ?q9 ?qa ?qb ?_ ?_; (case q2 => k_asm); (case q3 => k_asm); (case q1 => rfl); (case q4 => k_mem); (case q5 => k_updF); (case q6 => assumption); (case q7 => assumption); (case q8 => assumption); (case q9 => assumption); (case qa => decide); (case qb => rfl); k_whole; (intro I' oI' i' t' x' y' tx' ty' av' bv' h' tk' b1' b2' b3' U' F' N'; (try dsimp only at F' N' U')); rotate_left; (intro x' y' tx' ty' av' bv' h' tk' b1' b2' b3' U' F' N'; (try dsimp only at F' N' U')); rotate_left)))
  k_with "REnd" => ((k_dflt (refine' REnd.intro ?F ?N ?h0 ?hs ?i1 ?i2 ?i3 ?m; (case F => k_asm); (case N => k_asm); (case h0 => k_mem); (case hs => exact fun p hp => by (repeat (first | exact hp | refine List.mem_cons_of_mem _ ?_))); (case i1 => assumption); (case i2 => assumption); (case i3 => assumption); (case m => (intro z h1 h2; (try dsimp only); simp only [h1, h2, if_false])))))
  k_go0
  all_goals try (rename AllLt _ _ => l9; have h109 := allLt_hd l9)
  all_goals try k_fold
  k_steps)
end
end
end Mine
theorem PySem.Challenge.cw_xm0649_01_holds : PySem.Challenge.rw_xm0649_01.Holds :=
  Mine.law_holds
