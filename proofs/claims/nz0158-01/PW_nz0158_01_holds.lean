import PyProof.Rows.All
import Wide.All
import OpenK.AllK
import Wide.FinOn
import PyProof.AttrMissHeap
import PyProof.FactsAll.zip
import KE.KDictOf
import PyProof.DictRoadsH
import PyProof.Rows.TupTab
import KE.KEqDict
import KE.LcSums
import Lean
import PySem.Challenge.RW_nz0158_01
open PySem PySem.W PyProof.Rows
set_option Elab.async false
set_option maxRecDepth 100000
set_option linter.all false
set_option compiler.extract_closed false
set_option tactic.hygienic false
namespace Mine
section
local macro_rules | `(tactic| o_head $_) => `(tactic| exact False.elim (by assumption))
theorem K0 (h : False) : PySem.Challenge.rw_nz0158_01.row.Holds := by k_head
end
def aQ (a : Array Lean.Syntax) : Lean.Syntax := .node .none `Lean.Parser.Tactic.tacticSeq #[.node .none `Lean.Parser.Tactic.tacticSeq1Indented #[.node .none `null a]]
def aT : Lean.Syntax := .node .none `Lean.Parser.Tactic.tacticRfl #[.atom .none "rfl"]
def aU : Lean.Syntax := .node .none `Lean.Parser.Tactic.withUnfoldingAll #[.atom .none "with_unfolding_all", aQ #[aT]]
def aN : Lean.Syntax := .node .none `Lean.Parser.Tactic.intro #[.atom .none "intro", .node .none `null #[.node .none `Lean.Parser.Term.hole #[.atom .none "_"]]]
def aR : Lean.Syntax := aQ #[aT]
def aD : Lean.Syntax := aQ #[.node .none `Lean.Parser.Tactic.decide #[.atom .none "decide", .node .none `Lean.Parser.Tactic.optConfig #[.node .none `null #[]]]]
def aW : Lean.Syntax := aQ #[aU]
def aI : Lean.Syntax := aQ #[aN, .atom .none ";", aT]
def aJ : Lean.Syntax := aQ #[aN, .atom .none ";", aU]
section
open PyProof.V
theorem fill {w : World} {h₀ : Heap} : (K0.heap_1 w.params).In h₀ → PySem.Challenge.rw_nz0158_01.row.prog = PySem.Challenge.rw_nz0158_01.row.prog → True := by
  k_fill
  intros; trivial
end
section --M0
open PySem PySem.W PyProof.Rows PySem.Calls PySem.Spec
noncomputable abbrev Led := List (Addr × Obj)
structure Ap (fp fs l : Led) : Prop where
  ap : ∀ p ∈ fp ++ fs, ∀ q ∈ l, q.1 ≠ p.1
  apf : ∀ p ∈ fp, ∀ q ∈ fs, q.1 ≠ p.1
  dist : fp.Pairwise fun p q => p.1 ≠ q.1
structure Has (h₀ h : Heap) (fp fs l : Led) : Prop where
  keep : ∀ b o, h₀.get? b = some o → h.get? b = some o
  size : h₀.objs.size ≤ h.objs.size
  at_ : ∀ p ∈ fp ++ (fs ++ l), h.get? p.1 = some p.2 ∧ h₀.get? p.1 = none
  apart : Ap fp fs l
noncomputable def Sub (l l' : Led) : Prop := ∀ p ∈ l, p ∈ l'
theorem Sub.refl (l : Led) : Sub l l := fun ω h => h
theorem Sub.trans {a b c : Led} (x : Sub a b) (y : Sub b c) : Sub a c := fun p h => y p (x p h)
theorem Sub.right {a b c : Led} (x : Sub (a ++ b) c) : Sub b c := fun p h => x p (List.mem_append_right _ h)
structure Gro (xs l l' : Led) : Prop where
  sub : Sub l l'
  new : ∀ q ∈ l', q ∈ l ∨ ∀ x ∈ xs, q.1 ≠ x.1
theorem Gro.refl (xs l : Led) : Gro xs l l := ⟨Sub.refl _, fun ω h => .inl h⟩
theorem Gro.trans {xs a b c : Led} (x : Gro xs a b) (y : Gro xs b c) : Gro xs a c := ⟨x.sub.trans y.sub, fun q h => (y.new q h).elim (x.new q) .inr⟩
theorem Gro.loc {xs loc l l' : Led} (x : Gro xs (loc ++ l) l') (h : ∀ p ∈ xs, ∀ q ∈ loc, q.1 ≠ p.1) : Gro xs l l' :=
  ⟨x.sub.right, fun q hq => (x.new q hq).elim (fun z => (List.mem_append.mp z).elim (fun z => .inr fun p hp => h p hp q z) .inl) .inr⟩
structure Ar (A : Around) (envs : List Env) (fs : Led) : Prop where
  frames : A.frames = some envs
  frs : TI.Frs envs fs
  free : A.handled = none
noncomputable def Room (A : Around) (d : Nat) : Prop := A.depth + d ≤ recursionLimit ∧ A.units + 40 * d ≤ cLine
noncomputable def Fly (h₀ : Heap) (envs : List Env) (e : Addr) (C : Value) (h : Heap) (fp fs l : Led) : Prop :=
  ∃ B a0, Heap.FlyingW B envs e C a0 h ∧ (∀ b o, h₀.get? b = some o → B.get? b = some o) ∧ (∀ p ∈ fp ++ l, B.get? p.1 = some p.2) ∧ Has h₀ h fp fs l ∧ TI.Frs envs fs
noncomputable def Does (M : Model) (h₀ : Heap) (fn : Value) (vals : List Value) (d : Nat) (fp l : Led) (P : Value → Led → Led → Prop) (X : Value → Led → Led → Prop) : Prop :=
  ∀ {A : Around} {envs : List Env} {fs xs : Led} {s : Shared} {Q : Value → Shared → Prop} {E : Value → Shared → Prop}, Ar A envs fs → Room A d → Has h₀ s.heap fp fs (xs ++ l) →
   (∀ v fp' l' h' tk, P v fp' l' → Has h₀ h' fp' fs (xs ++ l') → Gro xs l l' → Q v { s with heap := h', toks := tk }) →
   (∀ e C fp' fs' l' h' tk, X C fp' l' → Fly h₀ envs e C h' fp' fs' (xs ++ l') → TI.SameUp fs fs' → Gro xs l l' → E (.ref e) { s with heap := h', toks := tk }) →
   wpAny M A (call fn vals) Q E s
section
variable {prog : Program} {w : World} {A : Around} {E : Value → Shared → Prop} {s : Shared} {h₀ : Heap} {envs : List Env} {fp fs l : Led} {Q : Value → Shared → Prop}
  {name qual : Str} {params : Arguments} {body : List Stmt} {scope : Scope} {cl : List (Str × Addr)} {dV kV doc pm cdv ct : Value} {an : Option Addr} {fo : Obj} {f : Addr} {vals : List Value} {kw : List (Str × Value)} {binds : List (Str × Value)}
theorem m_enter (S : Has h₀ s.heap fp fs l) (hlim : h₀.NoLimit)
    (ho : h₀.get? f = some fo) (hd : fo.data = .func (fnX name qual params body scope cl dV kV doc pm an cdv ct)) (hcd : h₀.CodeRec cdv qual) (hroom : A.depth < recursionLimit)
    (hbind : BindsTo s (fnX name qual params body scope cl dV kV doc pm an cdv ct) ⟨vals, kw⟩ binds) (hloc : ∀ y ∈ binds, scope.names.lookup y.1 = some .local)
    (h : ∀ L' h₁ tk, Fr h₀ L' h₁ (fun y => binds.reverse.lookup y) → News h₀ L' h₁ (fp ++ (fs ++ l)) → (∀ p ∈ fp ++ (fs ++ l), p.1 < L') →
      wpAny (model prog w) (A.deeper (envX qual scope L' f cdv cl)) (execs body (envX qual scope L' f cdv cl))
        (fun fl s' => Q (match fl with | .ret v => v | _ => .none) s')
        (fun e s' => wpAny (model prog w) (A.deeper (envX qual scope L' f cdv cl)) (leaving (envX qual scope L' f cdv cl) e) (fun ω s'' => E e s'') (fun e' s'' => E e' s'') s')
        { s with heap := h₁, toks := tk })
    (hcell : ∀ x ∈ scope.names, x.2 ≠ .cell) (hco : autoParam (scope.isCoroutine = false) aR) (hgen : autoParam (scope.isGenerator = false) aR) (hk : autoParam (scope.kind = .function) aR) :
    wpAny (model prog w) A (call (.ref f) vals kw) Q E s := by
  refine wpAny_call (codeAny_call_def (fd := fnX name qual params body scope cl dV kV doc pm an cdv ct) (body := body) (binds := binds) hroom (S.keep _ _ ho) hd (hlim.keeps S.keep) (hcd.keeps S.keep) rfl hbind hcell hloc (fun h₁ hns hk₁ => ?_) hco hgen hk)
  refine wpAny_mono (h s.heap.objs.size h₁ _ ⟨hns, fun b o e => hk₁ b o (S.keep b o e), S.size⟩ (fun p hp => ⟨hk₁ _ _ (S.at_ p hp).1, Nat.ne_of_lt (Heap.lt_size (S.at_ p hp).1), (S.at_ p hp).2⟩) (fun p hp => Heap.lt_size (S.at_ p hp).1)) (fun fl s' hl => ?_) fun ω ω y => y
  exact hl
theorem m_enterC (S : Has h₀ s.heap fp fs l) (hlim : h₀.NoLimit)
    (ho : h₀.get? f = some fo) (hd : fo.data = .func (fnX name qual params body scope [] dV kV doc pm an cdv ct)) (hcd : h₀.CodeRec cdv qual) (hroom : A.depth < recursionLimit)
    (hbind : BindsTo s (fnX name qual params body scope [] dV kV doc pm an cdv ct) ⟨vals, kw⟩ binds)
    (hkind : (binds.all fun y => scope.names.lookup y.1 == some .local || scope.names.lookup y.1 == some .cell) = true)
    (hnd : ((cellsFrom 0 scope.names []).map (·.1)).Nodup)
    (h : ∀ L' h₁ tk cells, Fr h₀ L' h₁ (bindL (envOfC qual scope L' f cdv).kindOf binds fun ω => none) → News h₀ L' h₁ (cells ++ (fp ++ (fs ++ l))) →
      CellsAre (bindC (envOfC qual scope L' f cdv).kindOf binds fun ω => none) (cellsFrom (L' + 1) scope.names []) cells → (∀ p ∈ fp ++ (fs ++ l), p.1 < L') →
      wpAny (model prog w) (A.deeper (envOfC qual scope L' f cdv)) (execs body (envOfC qual scope L' f cdv))
        (fun fl s' => Q (match fl with | .ret v => v | _ => .none) s')
        (fun e s' => wpAny (model prog w) (A.deeper (envOfC qual scope L' f cdv)) (leaving (envOfC qual scope L' f cdv) e) (fun ω s'' => E e s'') (fun e' s'' => E e' s'') s')
        { s with heap := h₁, toks := tk })
    (hco : autoParam (scope.isCoroutine = false) aR) (hgen : autoParam (scope.isGenerator = false) aR) (hk : autoParam (scope.kind = .function) aR) :
    wpAny (model prog w) A (call (.ref f) vals kw) Q E s := by
  refine wpAny_call (codeAny_call_function hroom (S.keep _ _ ho) hd hco hgen rfl (hcd.keeps S.keep) (hbind _ _ _ _ ?_))
  refine wpAny_newFunctionEnv_cells hk (kindsX hkind _) fun env' he s' x => ?_
  subst he
  refine ⟨(hlim.keeps S.keep).keeps x.toInCall.keep, codeAny_func ?_⟩
  obtain ⟨h₁, tk, rfl, _⟩ := x.done
  have hk₁ := x.toInCall.keep
  obtain ⟨cells, NC, Y⟩ := Cl.news (h₀ := s.heap) (Nat.le_refl _) fun n c hm => ⟨x.cell n c (lookup_of_mem_nodup (cellsFrom_names scope.names 0 (s.heap.objs.size + 1) [] [] rfl ▸ hnd) hm), x.above n c hm⟩
  refine wpAny_mono (h s.heap.objs.size h₁ tk cells ⟨x.toInCall.ns, fun b o e => hk₁ b o (S.keep b o e), S.size⟩ (fun p hp => ?_) Y (fun p hp => Heap.lt_size (S.at_ p hp).1)) (fun fl s' hl => ?_) fun ω ω y => y
  · rcases List.mem_append.mp hp with hp | hp
    · refine ⟨(NC p hp).1, (NC p hp).2.1, ?_⟩
      cases q : h₀.get? p.1 with
      | none => rfl
      | some o => have := S.keep _ _ q; rw [(NC p hp).2.2] at this; cases this
    · exact ⟨hk₁ _ _ (S.at_ p hp).1, Nat.ne_of_lt (Heap.lt_size (S.at_ p hp).1), (S.at_ p hp).2⟩
  · exact hl
end
section
variable {M : Model} {A : Around} {E : Value → Shared → Prop} {s : Shared} {h₀ h : Heap} {envs outer : List Env} {fp fs l loc : Led} {Q : Value → Shared → Prop} {fn : Value} {vals : List Value} {d : Nat} {env : Env} {L e : Addr} {m : Str → Option Value}
  {P X : Value → Led → Led → Prop} {C : Value}
theorem ns_obj {h : Heap} {L : Addr} {m : Str → Option Value} (n : h.Ns L m) : ∃ oL es ep, h.get? L = some oL ∧ oL.data = .dict es ep := by
  obtain ⟨o, es, ep, ho, hd, _⟩ := n
  exact ⟨o, es, ep, ho, hd⟩
theorem ns_up {h h' : Heap} {L : Addr} {m : Str → Option Value} {oL : Obj} {sl : Array (Option Value)} (n : h.Ns L m) (e : h.get? L = some oL) (e' : h'.get? L = some { oL with slots := sl }) : h'.Ns L m := by
  obtain ⟨o, es, ep, ho, hd, r⟩ := n
  rw [e] at ho; cases ho
  exact ⟨_, es, ep, e', hd, r⟩
theorem fr_none {h₀ h : Heap} {L : Addr} {m : Str → Option Value} (F : Fr h₀ L h m) : h₀.get? L = none := by
  cases q : h₀.get? L with
  | none => rfl
  | some o => exact absurd (Nat.lt_of_lt_of_le (Heap.lt_size q) F.above) (Nat.lt_irrefl _)
theorem Does.use {xs : Led} (Cl : Does M h₀ fn vals d fp (loc ++ l) P X) (F : Fr h₀ L s.heap m) (N : News h₀ L s.heap (loc ++ (fp ++ (fs ++ (xs ++ l)))))
    (hA : A.frames = some (env :: outer)) (hf : env.frame = some L) (hk : env.scope.kind = .function) (Fs : TI.Frs outer fs) (hh : A.handled = none) (hr : Room A d)
    (Z : Ap fp fs (xs ++ l)) (zl : ∀ p ∈ fp ++ fs, ∀ q ∈ loc, q.1 ≠ p.1)
    (hQ : ∀ v fp' l' h' tk, P v fp' l' → Fr h₀ L h' m → News h₀ L h' (fp' ++ (fs ++ (xs ++ l'))) → Ap fp' fs (xs ++ l') → Gro xs (loc ++ l) l' → Q v { s with heap := h', toks := tk })
    (hE : ∀ e C fp' oL' fs' l' h' tk, X C fp' l' → Fly h₀ (env :: outer) e C h' fp' ((L, oL') :: fs') (xs ++ l') → h'.Ns L m → h₀.objs.size ≤ L → TI.SameUp fs fs' → Gro xs (loc ++ l) l' → E (.ref e) { s with heap := h', toks := tk }) :
    wpAny M A (call fn vals) Q E s := by
  obtain ⟨oL, es, ep, hoL, hdL⟩ := ns_obj F.ns
  have sz : h₀.objs.size ≤ s.heap.objs.size := Nat.le_trans F.above (Nat.le_of_lt F.ns.lt)
  have mem : ∀ p ∈ fp ++ (fs ++ (xs ++ (loc ++ l))), p ∈ loc ++ (fp ++ (fs ++ (xs ++ l))) := fun p hp => by
    simp only [List.mem_append] at hp ⊢
    rcases hp with hp | hp | hp | hp | hp <;> simp [hp]
  refine Cl (A := A) (envs := env :: outer) (fs := (L, oL) :: fs) (xs := xs) ⟨hA, ⟨by rw [hk]; decide, hf, ⟨es, ep, hdL⟩, Fs⟩, hh⟩ hr ⟨F.keep, sz, fun p hp => ?_, ⟨fun p hp q hq => ?_, fun p hp q hq => ?_, Z.dist⟩⟩ ?_ ?_
  · have hp' : p = (L, oL) ∨ p ∈ fp ++ (fs ++ (xs ++ (loc ++ l))) := by
      simp only [List.mem_append, List.mem_cons] at hp ⊢
      rcases hp with hp | ((hp | hp) | (hp | (hp | hp))) <;> simp [hp]
    rcases hp' with rfl | hp'
    · exact ⟨hoL, fr_none F⟩
    · exact ⟨(N p (mem p hp')).1, (N p (mem p hp')).2.2⟩
  · have hq' : q ∈ loc ∨ q ∈ xs ++ l := by
      simp only [List.mem_append] at hq ⊢
      rcases hq with hq | hq | hq <;> simp [hq]
    rcases List.mem_append.mp hp with hp | hp
    · rcases hq' with hq' | hq'
      · exact zl p (List.mem_append_left _ hp) q hq'
      · exact Z.ap p (List.mem_append_left _ hp) q hq'
    · rcases List.mem_cons.mp hp with rfl | hp
      · rcases hq' with hq' | hq'
        · exact (N q (List.mem_append_left _ hq')).2.1
        · exact (N q (List.mem_append_right _ (List.mem_append_right _ (List.mem_append_right _ hq')))).2.1
      · rcases hq' with hq' | hq'
        · exact zl p (List.mem_append_right _ hp) q hq'
        · exact Z.ap p (List.mem_append_right _ hp) q hq'
  · rcases List.mem_cons.mp hq with rfl | hq
    · exact fun e => (N p (List.mem_append_right _ (List.mem_append_left _ hp))).2.1 e.symm
    · exact Z.apf p hp q hq
  · intro v fp' l' h' tk hp H hs
    have hL' := H.at_ (L, oL) (List.mem_append_right _ (List.mem_append_left _ (List.mem_cons_self)))
    refine hQ v fp' l' h' tk hp ⟨?_, H.keep, F.above⟩ (fun p hp' => ?_) ⟨fun p hp' q hq => ?_, fun p hp' q hq => ?_, H.apart.dist⟩ hs
    · exact ns_up F.ns hoL hL'.1
    · have hm : p ∈ fp' ++ (((L, oL) :: fs) ++ (xs ++ l')) := by
        simp only [List.mem_append, List.mem_cons] at hp' ⊢
        rcases hp' with hp' | hp' | hp' | hp' <;> simp [hp']
      refine ⟨(H.at_ p hm).1, ?_, (H.at_ p hm).2⟩
      rcases List.mem_append.mp hp' with hp' | hp'
      · exact fun e => H.apart.apf p hp' (L, oL) List.mem_cons_self e.symm
      · rcases List.mem_append.mp hp' with hp' | hp'
        · exact (N p (List.mem_append_right _ (List.mem_append_right _ (List.mem_append_left _ hp')))).2.1
        · exact H.apart.ap (L, oL) (List.mem_append_right _ List.mem_cons_self) p hp'
    · refine H.apart.ap p ?_ q hq
      rcases List.mem_append.mp hp' with hp' | hp'
      · exact List.mem_append_left _ hp'
      · exact List.mem_append_right _ (List.mem_cons_of_mem _ hp')
    · exact H.apart.apf p hp' q (List.mem_cons_of_mem _ hq)
  · intro e C fp' fs' l' h' tk hx HF hs hl
    cases fs' with
    | nil => exact hs.elim
    | cons q fs' =>
      obtain ⟨x1, ⟨sl, x2⟩, x3⟩ := hs
      obtain ⟨qa, qo⟩ := q
      dsimp only at x1 x2
      subst x1 x2
      refine hE e C fp' _ fs' l' h' tk hx HF ?_ F.above x3 hl
      have := HF.choose_spec.choose_spec.2.2.2.1.at_ (qa, { oL with slots := sl }) (List.mem_append_right _ (List.mem_append_left _ List.mem_cons_self))
      exact ns_up F.ns hoL this.1
theorem fly_up {h₀ : Heap} {s : Shared} {e : Addr} {C : Value} {fp fs l : Led} {h' B : Heap} {a0 : Value} {envs : List Env}
    (H : Has h₀ s.heap fp fs l) (hB0 : ∀ b o, h₀.get? b = some o → B.get? b = some o) (hBl : ∀ p ∈ fp ++ l, B.get? p.1 = some p.2) (Fs : TI.Frs envs fs)
    (hfl : Heap.FlyingW B envs e C a0 h') (hu : s.heap.UpToSlots h') (hsz : h₀.objs.size ≤ h'.objs.size) : ∃ fs', Fly h₀ envs e C h' fp fs' l ∧ TI.SameUp fs fs' := by
  obtain ⟨fs', SU, hat⟩ := TI.sameUp_of (h' := h') (frs := fs) fun p hp => by
    obtain ⟨es, ep, hd⟩ := Fs.dict p hp
    exact hu p.1 p.2 (H.at_ p (List.mem_append_right _ (List.mem_append_left _ hp))).1 fun vs q => by rw [hd] at q; cases q
  refine ⟨fs', ⟨B, a0, hfl, hB0, hBl, ⟨fun b o e => hfl.1 b o (hB0 b o e), hsz, fun p hp => ?_, ⟨fun p hp q hq => ?_, fun p hp q hq => ?_, H.apart.dist⟩⟩, Fs.up SU⟩, SU⟩
  · rcases List.mem_append.mp hp with hp | hp
    · exact ⟨hfl.1 _ _ (hBl p (List.mem_append_left _ hp)), (H.at_ p (List.mem_append_left _ hp)).2⟩
    · rcases List.mem_append.mp hp with hp | hp
      · obtain ⟨q, hq, e⟩ := SU.fwd p hp
        exact ⟨hat p hp, by rw [e]; exact (H.at_ q (List.mem_append_right _ (List.mem_append_left _ hq))).2⟩
      · exact ⟨hfl.1 _ _ (hBl p (List.mem_append_right _ hp)), (H.at_ p (List.mem_append_right _ (List.mem_append_right _ hp))).2⟩
  · rcases List.mem_append.mp hp with hp | hp
    · exact H.apart.ap p (List.mem_append_left _ hp) q hq
    · obtain ⟨x, hx, e⟩ := SU.fwd p hp
      rw [e]; exact H.apart.ap x (List.mem_append_right _ hx) q hq
  · obtain ⟨x, hx, e⟩ := SU.fwd q hq
    rw [e]; exact H.apart.apf p hp x hx
theorem size_of_ns {h : Heap} {L : Addr} {m : Str → Option Value} {n : Nat} (x : h.Ns L m) (k : n ≤ L) : n ≤ h.objs.size := Nat.le_trans k (Nat.le_of_lt x.lt)
theorem leave_fly {oL : Obj} {L : Addr} {m : Str → Option Value} {C : Value} (hA : A.frames = some (env :: outer)) (hf : env.frame = some L) (x : Fly h₀ (env :: outer) e C s.heap fp ((L, oL) :: fs) l) (hn : s.heap.Ns L m) (hL : h₀.objs.size ≤ L) {Q : Unit → Shared → Prop}
    (hE : ∀ fs' h', Fly h₀ outer e C h' fp fs' l → TI.SameUp fs fs' → Q () { s with heap := h' }) : wpAny M A (leaving env (.ref e)) Q E s := by
  obtain ⟨B, a0, hfl, hB0, hBl, H, Fs⟩ := x
  refine wpAny_leaves_onW hA hf hfl fun h' hfl' hu => ?_
  have H' : Has h₀ s.heap fp fs l := ⟨H.keep, H.size, fun p hp => H.at_ p (by
      simp only [List.mem_append, List.mem_cons] at hp ⊢
      rcases hp with hp | hp | hp <;> simp [hp]), ⟨fun p hp q hq => H.apart.ap p (by
      simp only [List.mem_append, List.mem_cons] at hp ⊢
      rcases hp with hp | hp <;> simp [hp]) q hq, fun p hp q hq => H.apart.apf p hp q (List.mem_cons_of_mem _ hq), H.apart.dist⟩⟩
  obtain ⟨fs', x1, x2⟩ := fly_up H' hB0 hBl Fs.2.2.2 hfl' hu (size_of_ns (Heap.UpToSlots.ns hu hn) hL)
  exact hE fs' h' x1 x2
end
section
variable {prog : Program} {w : World} {A : Around} {E : Value → Shared → Prop} {s : Shared} {h₀ : Heap} {envs : List Env} {fp fs l : Led} {Q : Value → Shared → Prop} {K : Frag}
  {name qual : Str} {params : Arguments} {body : List Stmt} {scope : Scope} {cl : List (Str × Addr)} {dV kV doc pm cdv ct oc : Value} {an od : Option Addr} {osl : Array (Option Value)} {f : Addr} {vals : List Value} {kw : List (Str × Value)} {binds : List (Str × Value)}
theorem Room.depth {A : Around} {d : Nat} (R : Room A (d + 1)) : A.depth < recursionLimit := Nat.lt_of_lt_of_le (Nat.lt_add_of_pos_right (Nat.succ_pos d)) R.1
theorem Room.deeper {A : Around} {d : Nat} {env : Env} (R : Room A (d + 1)) : Room (A.deeper env) d := ⟨by have := R.1; rw [depth_deeper]; lia, by have := R.2; rw [units_deeper]; lia⟩
theorem Room.mono {A : Around} {d d' : Nat} (R : Room A d) (h : d' ≤ d) : Room A d' := ⟨by have := R.1; lia, by have := R.2; lia⟩
theorem m_call (S : Has h₀ s.heap fp fs l) (X₀ : K.In h₀) (hlim : h₀.NoLimit)
    (ho : K.lookup f = some ⟨oc, od, .func (fnX name qual params body scope cl dV kV doc pm an cdv ct), osl⟩) (hcd : codeIn K cdv qual = true) (hroom : A.depth < recursionLimit)
    (hbind : BindsTo s (fnX name qual params body scope cl dV kV doc pm an cdv ct) ⟨vals, kw⟩ binds) (hloc : ∀ y ∈ binds, scope.names.lookup y.1 = some .local)
    (h : ∀ L' h₁ tk, Fr h₀ L' h₁ (fun y => binds.reverse.lookup y) → News h₀ L' h₁ (fp ++ (fs ++ l)) → (∀ p ∈ fp ++ (fs ++ l), p.1 < L') →
      wpAny (model prog w) (A.deeper (envX qual scope L' f cdv cl)) (execs body (envX qual scope L' f cdv cl))
        (fun fl s' => Q (match fl with | .ret v => v | _ => .none) s')
        (fun e s' => wpAny (model prog w) (A.deeper (envX qual scope L' f cdv cl)) (leaving (envX qual scope L' f cdv cl) e) (fun ω s'' => E e s'') (fun e' s'' => E e' s'') s')
        { s with heap := h₁, toks := tk })
    (hcell : ∀ x ∈ scope.names, x.2 ≠ .cell) (hco : autoParam (scope.isCoroutine = false) aR) (hgen : autoParam (scope.isGenerator = false) aR) (hk : autoParam (scope.kind = .function) aR) :
    wpAny (model prog w) A (call (.ref f) vals kw) Q E s :=
  m_enter S hlim (X₀ _ _ ho) rfl (codeRec_of X₀ hcd) hroom hbind hloc h hcell hco hgen hk
end
theorem Ap.same {fp fp' fs l : Led} (Z : Ap fp fs l) (e : fp'.map (·.1) = fp.map (·.1)) : Ap fp' fs l := by
  have mem : ∀ p ∈ fp', ∃ q ∈ fp, q.1 = p.1 := fun p hp => by
    have : p.1 ∈ fp.map (·.1) := e ▸ List.mem_map_of_mem hp
    obtain ⟨q, hq, e⟩ := List.mem_map.mp this
    exact ⟨q, hq, e⟩
  refine ⟨fun p hp q hq => ?_, fun p hp q hq => ?_, ?_⟩
  · rcases List.mem_append.mp hp with hp | hp
    · obtain ⟨x, hx, ex⟩ := mem p hp
      rw [← ex]; exact Z.ap x (List.mem_append_left _ hx) q hq
    · exact Z.ap p (List.mem_append_right _ hp) q hq
  · obtain ⟨x, hx, ex⟩ := mem p hp
    rw [← ex]; exact Z.apf x hx q hq
  · have h1 : (fp.map (·.1)).Pairwise (· ≠ ·) := List.pairwise_map.mpr Z.dist
    rw [← e] at h1
    exact List.pairwise_map.mp h1
theorem Has.back {h₀ h : Heap} {L : Addr} {m : Str → Option Value} {fp fs l : Led} (F : Fr h₀ L h m) (N : News h₀ L h (fp ++ (fs ++ l))) (Z : Ap fp fs l) : Has h₀ h fp fs l :=
  ⟨F.keep, Nat.le_trans F.above (Nat.le_of_lt F.ns.lt), fun p hp => ⟨(N p hp).1, (N p hp).2.2⟩, Z⟩
theorem News.sub {h₀ h : Heap} {L : Addr} {l l' : Led} (N : News h₀ L h l') (s : ∀ p ∈ l, p ∈ l') : News h₀ L h l := fun p hp => N p (s p hp)
theorem zl_nil {X : Led} : ∀ p ∈ X, ∀ q ∈ ([] : Led), q.1 ≠ p.1 := fun ω ω ω h => nomatch h
end
section --M1
open PySem PySem.W PyProof.Rows PySem.Calls PySem.Spec
set_option maxHeartbeats 1000000
noncomputable abbrev excTail : List Value := [.ref 47, .type "Exception", .type "BaseException", .type "object"]
inductive ExcOk (C : Addr) (o : Obj) (nid : String) : Prop
  | mk (nm qn : Str) (N : Addr) (bs : List Value) (sn : List Str) (sub : List Value) (ab : Bool) (col : Option Bool) (dd : Option Addr) (k0 k1 k2 k3 k5 : Option Value) (e : o = excClassObj nm qn C N bs excTail true sn sub ab col dd k0 k1 k2 k3 k5 nid) : ExcOk C o nid
inductive ExcAt (h : Heap) (C : Addr) (nid : String) : Prop
  | mk (nm qn : Str) (N : Addr) (bs : List Value) (sn : List Str) (sub : List Value) (ab : Bool) (col : Option Bool) (dd : Option Addr) (k0 k1 k2 k3 k5 : Option Value) (e : h.get? C = some (excClassObj nm qn C N bs excTail true sn sub ab col dd k0 k1 k2 k3 k5 nid)) : ExcAt h C nid
theorem ExcAt.of {h : Heap} {C : Addr} {o : Obj} {nid : String} (e : h.get? C = some o) (q : ExcOk C o nid) : ExcAt h C nid := by
  obtain ⟨nm, qn, N, bs, sn, sub, ab, col, dd, k0, k1, k2, k3, k5, rfl⟩ := q
  exact ⟨nm, qn, N, bs, sn, sub, ab, col, dd, k0, k1, k2, k3, k5, e⟩
noncomputable abbrev excObj (C t : Addr) : Obj := { cls := .ref C, data := .fields #[.ref t, .none, .none, .none, .bool false, .none] }
section
variable {prog : Program} {w : World} {A : Around} {E : Value → Shared → Prop} {h : Heap} {g : Array GenState} {d : Drawn} {t : Nat} {os : OsState} {C : Addr} {newId initId : String} {bmB : List Value}
theorem exc_check {M : Model} (F : ExcBaseFacts "Exception" newId initId bmB) (Y : ExcAt h C newId) {rest : List Value} {Q : Unit → Shared → Prop} (hq : Q () ⟨h, g, d, t, os⟩) : wpAny M A (checkBuiltinCall newId ⟨.ref C :: rest, []⟩) Q E ⟨h, g, d, t, os⟩ := by
  obtain ⟨nm, qn, N, bs, sn, sub, ab, col, dd, k0, k1, k2, k3, k5, hC⟩ := Y
  have hc : (Value.ref C :: excTail).contains (.type "Exception") = true := by rw [List.contains_cons, show excTail.contains (.type "Exception") = true from by decide +kernel, Bool.or_true]
  have hst := F.noStar
  simp only [checkBuiltinCall, F.newKind, F.newSplit, F.newRow]
  repeat (first | refine wpAny_loadPart_at hC ?_ | (refine wpAny_isSubtype_exc hC ?_; rw [hc]) | refine wpAny_staticBase_exc hC ?_ | refine wpAny_madeBy_exc hC ?_ | simp only [bne_self_eq_false, Bool.false_eq_true, if_false] | wp_step)
  exact hq
theorem exc_new (F : ExcBaseFacts "Exception" newId initId bmB) (Y : ExcAt h C newId) {rest : List Value} {R : Result → Shared → Prop}
    (hq : R (.ok (.ret (.ref (h.objs.size + 1)))) ⟨(h.push { cls := .type "tuple", data := .seq rest.toArray }).push (excObj C h.objs.size), g, d, t, os⟩) (hrest : rest.length ≤ sizeLine) :
    codeAny (model prog w) A (.builtin newId ⟨.ref C :: rest, []⟩) R ⟨h, g, d, t, os⟩ := by
  obtain ⟨nm, qn, N, bs, sn, sub, ab, col, dd, k0, k1, k2, k3, k5, hC⟩ := Y
  have hends := F.ends
  have e1 : (Value.ref C :: excTail).contains (.type "Exception") = true := by rw [List.contains_cons, show excTail.contains (.type "Exception") = true from by decide +kernel, Bool.or_true]
  have e3 : (Value.ref C :: excTail).contains (.type "AttributeError") = false := by rw [List.contains_cons, show excTail.contains (.type "AttributeError") = false from by decide +kernel]; rfl
  have e4 : (Value.ref C :: excTail).contains (.type "NameError") = false := by rw [List.contains_cons, show excTail.contains (.type "NameError") = false from by decide +kernel]; rfl
  refine codeAny_builtinAt F.entry ?_
  unfold Builtin.«BaseException.__new__»
  refine PySem.wpAt_bind ?_
  show PySem.wpAt _ _ _ (stack >>= _) _ _ _
  refine PySem.wpAt_bind (PySem.wpAt_stack fun p below => PySem.wpAt_of_wpAny ?_)
  wp_walk
  refine PySem.wpAt_of_wpAny ?_
  rw [F.owner]
  repeat (first | with_reducible refine wpAny_madeHere_exc F.canon hC ?_ | with_reducible refine wpAny_loadPart_at hC ?_ | (with_reducible refine wpAny_isSubtype_exc hC ?_; first | rw [e1] | rw [e3] | rw [e4]) | wp_step)
  show R _ _
  rw [Heap.size_push]
  exact hq
theorem exc_type_call (F : ExcBaseFacts "Exception" newId initId bmB) {K : Frag} (X : K.In h) (Y : ExcAt h C newId) {rest : List Value} {fI : Addr} {Q : Fin → Shared → Prop}
    (hi : findIn K (.ref C) "__init__" = some (some (.ref fI))) (hf : typeIn K (.ref fI) = some (.type "function")) (hrest : rest.length ≤ sizeLine)
    (hq : wpAny (model prog w) A (call (.ref fI) (.ref (h.objs.size + 1) :: rest)) (fun r s' => r = .none ∧ Q (.done (.ret (.ref (h.objs.size + 1)))) s') E
      ⟨(h.push { cls := .type "tuple", data := .seq rest.toArray }).push (excObj C h.objs.size), g, d, t, os⟩) :
    wpAny (model prog w) A (Builtin.«type.__call__» ⟨.ref C :: rest, []⟩) Q E ⟨h, g, d, t, os⟩ := by
  have Y' := Y
  obtain ⟨nm, qn, N, bs, sn, sub, ab, col, dd, k0, k1, k2, k3, k5, hC⟩ := Y
  repeat (first | with_reducible refine wpAny_loadPart_at hC ?_ | with_reducible refine wpAny_madeBy_exc hC ?_ | wp_step)
  refine codeAny_call_builtin_code (Code.quiet_builtin _ F.quiet) (exc_check F Y' ?_)
  refine exc_new F Y' ?_ hrest
  show wpAny _ _ _ _ _ _
  have kk : ∀ b o, h.get? b = some o → ((h.push { cls := .type "tuple", data := .seq rest.toArray }).push (excObj C h.objs.size)).get? b = some o := fun b o e => Heap.get?_push_of_some _ (Heap.get?_push_of_some _ e)
  have hC₁ := kk _ _ hC
  have hget : ((h.push { cls := .type "tuple", data := .seq rest.toArray }).push (excObj C h.objs.size)).get? (h.objs.size + 1) = some (excObj C h.objs.size) := by heap_get
  have hcC : (Value.ref C :: excTail).contains (.ref C) = true := by simp
  unfold isInstance
  repeat (first | with_reducible refine wpAny_loadPart_at hget ?_ | (with_reducible refine wpAny_isSubtype_exc hC₁ ?_; rw [hcC]) | wp_step)
  show wpAny _ _ (typeLookup (.ref C) _) _ _ _
  have X₁ := X.keeps kk
  refine (looks_findIn (M := model prog w) X₁ hi).at ?_
  refine wpAny_holding (wpAny_bind ?_)
  refine (bind_fn (M := model prog w) X₁ _ hf).at ?_
  refine wpAny_bind (wpAny_mono hq (fun r s' hr => ?_) fun ω ω x => x)
  obtain ⟨rfl, hQ⟩ := hr
  wp_walk
  exact hQ
theorem exc_call (F : ExcBaseFacts "Exception" newId initId bmB) {K : Frag} (X : K.In h) (Y : ExcAt h C newId) {rest : List Value} {fI : Addr} {Q : Value → Shared → Prop}
    (hi : findIn K (.ref C) "__init__" = some (some (.ref fI))) (hf : typeIn K (.ref fI) = some (.type "function")) (hrest : rest.length ≤ sizeLine)
    (hq : wpAny (model prog w) (A.under (.builtin "type.__call__" ⟨.ref C :: rest, []⟩)) (call (.ref fI) (.ref (h.objs.size + 1) :: rest)) (fun r s' => r = .none ∧ Q (.ref (h.objs.size + 1)) s') E
      ⟨(h.push { cls := .type "tuple", data := .seq rest.toArray }).push (excObj C h.objs.size), g, d, t, os⟩) :
    wpAny (model prog w) A (call (.ref C) rest) Q E ⟨h, g, d, t, os⟩ := by
  have Y' := Y
  obtain ⟨nm, qn, N, bs, sn, sub, ab, col, dd, k0, k1, k2, k3, k5, hC⟩ := Y
  have f1 := tc_lookup
  have f2 := tc_bind (.ref C)
  have hT : (⟨h, g, d, t, os⟩ : Shared).TypeIs (.ref C) "type" := ⟨_, hC, rfl⟩
  refine wpAny_call (codeAny_of_tree ?_)
  show wpAny _ _ (callAny (.ref C) _) _ _ _
  repeat (any_goals (first | assumption | with_reducible refine wpAny_loadPart_at hC ?_ | wp_step))
  refine ⟨rfl, ?_⟩
  refine codeAny_call_builtin_at (Code.quiet_builtin _ (by decide +kernel)) entry_typeCall (wpAny_check_type_call_sub hC (exc_type_call F X Y' hi hf hrest hq))
end
section
variable {M : Model} {A : Around} {E : Value → Shared → Prop} {env : Env} {C : Addr} {nid : String}
theorem exc_raise {s : Shared} {x : Sem Value} {Q : Flow → Shared → Prop} (hh : A.handled = none)
    (h : wpAny M A x (fun v s₁ => ∃ e t od, v = .ref e ∧ ExcAt s₁.heap C nid ∧ s₁.heap.get? e = some { cls := .ref C, dict := od, data := .fields #[.ref t, .none, .none, .none, .bool false, .none] } ∧ E (.ref e) s₁) E s) :
    wpAny M A (raiseStmt env (some x) none) Q E s := by
  unfold raiseStmt
  refine wpAny_bind (wpAny_mono h (fun v s₁ h₁ => ?_) fun ω ω x => x)
  obtain ⟨e, t, od, rfl, Y, he, hE⟩ := h₁
  obtain ⟨nm, qn, N, bs, sn, sub, ab, col, dd, k0, k1, k2, k3, k5, hC⟩ := Y
  have hcB : (Value.ref C :: excTail).contains (.type "BaseException") = true := by rw [List.contains_cons, show excTail.contains (.type "BaseException") = true from by decide +kernel, Bool.or_true]
  obtain ⟨hp, g, d, tk, os⟩ := s₁
  repeat (first | with_reducible refine wpAny_loadPart_at he ?_ | with_reducible refine wpAny_loadPart_at hC ?_ | (with_reducible refine wpAny_isSubtype_exc hC ?_; rw [hcB]) | wp_step)
  exact wpAny_raiseNew_none hh hE
theorem exc_Raise {s : Shared} {x : Expr} {pos : Pos} {Q : Flow → Shared → Prop} (hh : A.handled = none)
    (h : wpAny M A (eval x env) (fun v s₁ => ∃ e t od, v = .ref e ∧ ExcAt s₁.heap C nid ∧ s₁.heap.get? e = some { cls := .ref C, dict := od, data := .fields #[.ref t, .none, .none, .none, .bool false, .none] } ∧ E (.ref e) s₁) E s) :
    wpAny M A (exec (.Raise (some x) none pos) env) Q E s := by
  rw [arm_exec_Raise]
  show wpAny M A (do standAt pos; raiseStmt env (some (do let v ← eval x env; standAt pos; pure v)) none) Q E s
  exact wpAny_bind (wpAny_standAt (exc_raise hh (wpAny_bind (wpAny_mono h (fun v s₁ h₁ => wpAny_bind (wpAny_standAt (wpAny_pure h₁))) fun ω ω x => x))))
end
end
section --M2
open PySem PySem.W PyProof.Rows PySem.Calls PySem.Spec Builtin Builtin.ObjectAttr
set_option maxHeartbeats 1000000
section
variable {prog : Program} {w : World} {A : Around} {E : Value → Shared → Prop} {h : Heap} {g : Array GenState} {d : Drawn} {t : Nat} {os : OsState} {C e : Addr} {K : Frag} {name : Str} {v : Value} {nid : String}
theorem exc_refuse (self : Value) (C : Addr) : refuseLoop self "__setattr__" (.ref C :: excTail) = pure () := by
  rw [refuseLoop_ref, refuseLoop_ref]
  exact PySem.F.store_Exception.passes self
theorem exc_set_code {tk : Tok} {vs : Array Value} {R : Result → Shared → Prop} (X : K.In h) (Y : ExcAt h C nid) (hn : findIn K (.ref C) name = some none)
    (hx : h.get? e = some { cls := .ref C, dict := none, data := .fields vs })
    (hq : ∀ h' tk' dx, h'.get? e = some { cls := .ref C, dict := some dx, data := .fields vs } → (∀ b o, b ≠ e → h.get? b = some o → h'.get? b = some o) → R (.ok (.ret .none)) ⟨h', g, d, tk', os⟩) :
    codeAny (model prog w) A (.call (.builtin "object.__setattr__") ⟨[.ref e, .str name tk, v], []⟩) R ⟨h, g, d, t, os⟩ := by
  obtain ⟨nm, qn, N, bs, sn, sub, ab, col, dd, k0, k1, k2, k3, k5, hC⟩ := Y
  have hr := exc_refuse (.ref e) C
  have SF := PySem.F.store_object
  have hcB : (Value.ref C :: excTail).contains (.type "object") = true := by rw [List.contains_cons, show excTail.contains (.type "object") = true from by decide +kernel, Bool.or_true]
  have L0 : Looks (model prog w) h (typeOf (.ref e)) (.ref C) := (Looks.ld hx).andThen .now
  have L1 : Looks (model prog w) h (mroOf (.ref C)) (.ref C :: excTail) := ((Looks.ld (part := none) hC).andThen .now).andThen .now
  have L2 : Looks (model prog w) h (isSubtype (.ref C) (.type "object")) true := by
    refine L1.andThen ?_
    dsimp only
    rw [hcB]
    exact .now
  refine codeAny_call_builtin SF.slot.plain SF.entry (@check_slot (model prog w) _ _ ⟨h, g, d, t, os⟩ "object.__setattr__" "object" "__setattr__" (.ref e) [.str name tk, v] [] _ SF.kind SF.split (L0.andThen L2) (SF.args (.ref e) (.str name tk) v) ?_)
  rw [osa_eq, refuse_eq]
  refine wpAny_bind (wpAny_bind (L0.at (wpAny_bind (L1.at ?_))))
  rw [hr]
  refine wpAny_pure (wpAny_bind (L0.at (wpAny_bind ((looks_findIn X hn).at (wpAny_bind (wpAny_pure ?_))))))
  refine wpAny_bind (wpAny_pure (wpAny_bind (wpAny_bind (wpAny_loadPart hx (wpAny_bind (wpAny_bind (wpAny_loadPart hC (wpAny_pure ?_))))))))
  have hx₁ : (h.push { cls := .type "dict", data := .dict #[] }).get? e = some { cls := .ref C, dict := none, data := .fields vs } := Heap.get?_push_of_some _ hx
  have hxs : e ≠ h.objs.size := Nat.ne_of_lt (Heap.lt_size hx)
  refine wpAny_bind (wpAny_alloc' ?_)
  refine wpAny_bind (wpAny_update' hx₁ ?_)
  refine wpAny_pure (a := some h.objs.size) ?_
  have hgd : ((h.push { cls := .type "dict", data := .dict #[] }).update e fun o => { cls := o.cls, dict := some h.objs.size, data := o.data, slots := o.slots }).get? h.objs.size
      = some { cls := .type "dict", data := .dict #[] } := (Heap.get?_update_ne _ _ _ _ hxs.symm).trans (Heap.get?_push_at rfl rfl)
  have hnd : ((h.push { cls := .type "dict", data := .dict #[] }).update e fun o => { cls := o.cls, dict := some h.objs.size, data := o.data, slots := o.slots }).Ns h.objs.size (fun ω => none) :=
    ⟨_, #[], _, hgd, rfl, fun e he => absurd he (by simp), fun ω => rfl⟩
  show wpAny _ _ (storeInDict h.objs.size (.str name tk) name v) _ _ _
  unfold storeInDict newKeyGuard
  refine wpAny_bind (wpAny_pure (wpAny_bind (wpAny_nsSet1 (Heap.Ns1.of_empty hnd) fun h' hn' hs => ?_)))
  obtain ⟨oD, esD, epD, hoD, hdD, hcD⟩ := hn'.count (Within.cons name v Within.nil)
  refine wpAny_bind (wpAny_lookBehind hoD (by rw [hdD]; exact pastItsLine_dict (Nat.le_trans hcD (by rw [List.length_cons, List.length_nil, sizeLine_eq]; lia))) ?_)
  refine wpAny_pure (hq h' _ h.objs.size ?_ fun b ob hb ho => ?_)
  · exact (hs.2 e hxs).trans (Heap.get?_update_self _ hx₁ rfl)
  · exact (hs.2 b (Nat.ne_of_lt (Heap.lt_size ho))).trans ((Heap.get?_update_ne _ _ _ _ hb).trans (Heap.get?_push_of_some _ ho))
theorem exc_set {vs : Array Value} {Q : Unit → Shared → Prop} (X : K.In h) (Y : ExcAt h C nid) (hn : findIn K (.ref C) name = some none) (hsa : findIn K (.ref C) "__setattr__" = some (some (.builtin "object.__setattr__")))
    (hx : h.get? e = some { cls := .ref C, dict := none, data := .fields vs })
    (hq : ∀ h' tk' dx, h'.get? e = some { cls := .ref C, dict := some dx, data := .fields vs } → (∀ b o, b ≠ e → h.get? b = some o → h'.get? b = some o) → Q () ⟨h', g, d, tk', os⟩) :
    wpAny (model prog w) A (setAttr (.ref e) name v) Q E ⟨h, g, d, t, os⟩ :=
  set_plain (od := none) X ⟨hx, rfl, rfl, trivial⟩ hsa (exc_set_code X Y hn hx hq)
end

/- SUPER -/
section
variable {prog : Program} {w : World} {A : Around} {E : Value → Shared → Prop} {h : Heap} {g : Array GenState} {d : Drawn} {t : Nat} {os : OsState} {C e so D : Addr} {K : Frag} {nid : String}
theorem wd_type : typeOf (.builtin "Exception.__init__") = pure (.type "wrapper_descriptor") := by kernel_rfl
theorem wd_get : Slot "wrapper_descriptor" "__get__" "wrapper_descriptor.__get__" := .of (owner := "wrapper_descriptor") (n := "__get__") (by rw [typeLookup_type, builtinLookup_eq_fast]; kernel_rfl) (by decide +kernel) (by decide +kernel) (by decide +kernel)
  (.inl (by decide +kernel)) (by rw [isSubtype_type]; kernel_rfl)
theorem wd_entry : entryFor table "wrapper_descriptor.__get__" = some Builtin.«wrapper_descriptor.__get__» := entryFor_of_tree (by kernel_rfl)
theorem wd_args (a b c : Value) : argsOk "wrapper_descriptor.__get__" ⟨[a, b, c], []⟩ := by unfold argsOk; kernel_rfl
theorem wd_run (Y : ExcAt h C nid) {vs : Array Value} {od : Option Addr} {Q : Fin → Shared → Prop} (hx : h.get? e = some { cls := .ref C, dict := od, data := .fields vs })
    (hq : Q (.done (.ret (.ref h.objs.size))) ⟨h.push { cls := .type "method-wrapper", data := .fields #[.builtin "Exception.__init__", .ref e] }, g, d, t, os⟩) :
    wpAny (model prog w) A (Builtin.«wrapper_descriptor.__get__» ⟨[.builtin "Exception.__init__", .ref e, .ref C], []⟩) Q E ⟨h, g, d, t, os⟩ := by
  obtain ⟨nm, qn, N, bs, sn, sub, ab, col, dd, k0, k1, k2, k3, k5, hC⟩ := Y
  have hcB : (Value.ref C :: excTail).contains (.type "Exception") = true := by rw [List.contains_cons, show excTail.contains (.type "Exception") = true from by decide +kernel, Bool.or_true]
  unfold Builtin.«wrapper_descriptor.__get__»
  repeat (first | with_reducible refine wpAny_loadPart_at hx ?_ | (with_reducible refine wpAny_isSubtype_exc hC ?_; rw [hcB]) | wp_step)
  have hcut : ".".intercalate ("Exception.__init__".cutAt '.').dropLast = "Exception" := by decide +kernel
  rw [hcut]
  refine wpAny_isSubtype_exc hC ?_
  rw [hcB]
  repeat wp_step
  exact hq
theorem super_ga (Y : ExcAt h C nid) (X : K.In h) {vs : Array Value} {od : Option Addr} {tk : Tok} {l : List Value} {Q : Fin → Shared → Prop} (hx : h.get? e = some { cls := .ref C, dict := od, data := .fields vs })
    (hso : h.get? so = some { cls := .type "super", dict := none, data := .fields #[.ref D, .ref e, .ref C], slots := #[] }) (hno : Looks (model prog w) h (opaqueClassAbove (.ref C)) none)
    (hl : ((Value.ref C :: excTail).dropWhile (· != .ref D)).drop 1 = l) (hf : alongIn K "__init__" l = some (some (.builtin "Exception.__init__"))) (heC : e ≠ C)
    (hq : Q (.done (.ret (.ref h.objs.size))) ⟨h.push { cls := .type "method-wrapper", data := .fields #[.builtin "Exception.__init__", .ref e] }, g, d, t, os⟩) :
    wpAny (model prog w) A (Builtin.«super.__getattribute__» ⟨[.ref so, .str "__init__" tk], []⟩) Q E ⟨h, g, d, t, os⟩ := by
  have Y' := Y
  obtain ⟨nm, qn, N, bs, sn, sub, ab, col, dd, k0, k1, k2, k3, k5, hC⟩ := Y
  have L1 : Looks (model prog w) h (mroOf (.ref C)) (.ref C :: excTail) := ((Looks.ld (part := none) hC).andThen .now).andThen .now
  have hlk := wd_get.lookup
  have hne : (Value.ref e == Value.ref C) = false := by simp [heC]
  have hT : ∀ s : Shared, s.heap = h → wpAny (model prog w) A (typeOf (.builtin "Exception.__init__")) (fun v s' => v = .type "wrapper_descriptor" ∧ s' = s) (fun ω ω => False) s := fun s ω => by rw [wd_type]; exact wpAny_pure ⟨rfl, rfl⟩
  have hdt : ({ cls := .type "super", dict := none, data := .fields #[.ref D, .ref e, .ref C], slots := #[] } : Obj).data = .fields #[.ref D, .ref e, .ref C] := rfl
  have f0 : (#[.ref D, .ref e, .ref C] : Array Value)[0]? = some (.ref D) := rfl
  have f1 : (#[.ref D, .ref e, .ref C] : Array Value)[1]? = some (.ref e) := rfl
  have f2 : (#[.ref D, .ref e, .ref C] : Array Value)[2]? = some (.ref C) := rfl
  have hn : (("__init__" : Str) == ("__class__" : Str)) = false := by decide
  unfold Builtin.«super.__getattribute__»
  repeat (first
    | (with_reducible refine wpAny_field hso hdt f0 ?_) | (with_reducible refine wpAny_field hso hdt f1 ?_) | (with_reducible refine wpAny_field hso hdt f2 ?_)
    | (with_reducible refine ks_wpAny_notOpaque hno ?_)
    | (with_reducible refine Looks.at L1 ?_; rw [hl])
    | (refine ks_forIn_along X (fun ω ω => rfl) rfl ?_ hf)
    | rw [wd_type]
    | (simp only [hn, hne, Bool.or_false, Bool.false_eq_true, if_false])
    | wp_step
    | dsimp only)
  refine codeAny_call_builtin wd_get.plain wd_entry (wd_get.check _ _ _ _ _ _ _ _ wd_type (wd_args _ _ _) ?_)
  refine wd_run Y' hx ?_
  repeat (first | wp_step | dsimp only)
  exact hq
theorem super_getMethod (Y : ExcAt h C nid) (X : K.In h) {vs : Array Value} {od : Option Addr} {l : List Value} {pl : Sem Bool} {Q : Value × List Value → Shared → Prop} (hx : h.get? e = some { cls := .ref C, dict := od, data := .fields vs })
    (hso : h.get? so = some { cls := .type "super", dict := none, data := .fields #[.ref D, .ref e, .ref C], slots := #[] }) (hno : Looks (model prog w) h (opaqueClassAbove (.ref C)) none)
    (hl : ((Value.ref C :: excTail).dropWhile (· != .ref D)).drop 1 = l) (hf : alongIn K "__init__" l = some (some (.builtin "Exception.__init__"))) (heC : e ≠ C)
    (hq : Q (.ref h.objs.size, []) ⟨h.push { cls := .type "method-wrapper", data := .fields #[.builtin "Exception.__init__", .ref e] }, g, d, t + 1, os⟩) :
    wpAny (model prog w) A (getMethod (.ref so) "__init__" pl) Q E ⟨h, g, d, t, os⟩ := by
  have hlk := F.ks_slot_super_ga.lookup
  have hcan := F.ks_canon_super_ga
  have hT : ∀ t', (⟨h, g, d, t', os⟩ : Shared).TypeIs (.ref so) "super" := fun ω => ⟨_, hso, rfl⟩
  unfold getMethod
  refine wpAny_bind (wpAny_specialOf (hT _) hlk ?_)
  show wpAny _ _ (if (Manifest.canonical "super.__getattribute__" != "object.__getattribute__") = true then _ else _) _ _ _
  rw [if_pos hcan]
  unfold getAttr getAttrBy
  refine wpAny_bind (wpAny_bind (wpAny_mkText (wpAny_holding (wpAny_bind (wpAny_typeOf (hT _) (wpAny_bind (wpAny_of_eq hlk ?_)))))))
  show wpAny _ _ (getAttrByItsOwn (.ref so) (.str "__init__" t) (.type "super") (.builtin "super.__getattribute__") true false) _ _ _
  unfold getAttrByItsOwn hookBefore callGetattribute boundAndCalled
  refine wpAny_bind (wpAny_of_eq (show (if onTheHeap (.type "super") then typeLookup (.type "super") "__getattr__" else pure none) = pure none from rfl) ?_)
  refine wpAny_bind (wpAny_attempt (wpAny_holding ?_))
  show wpAny _ _ (bindSpecial (.builtin "super.__getattribute__") (.ref so) >>= _) _ _ _
  refine wpAny_bind (wpAny_of_eq (F.ks_slot_super_ga.bind _) ?_)
  refine wpAny_mono (Q := fun v s' => v = .ref h.objs.size ∧ s' = ⟨h.push { cls := .type "method-wrapper", data := .fields #[.builtin "Exception.__init__", .ref e] }, g, d, t + 1, os⟩) (E := fun ω ω => False)
    (wpAny_call_entry F.ks_slot_super_ga (hT _) F.ks_entry_super_ga (super_ga Y X hx hso hno hl hf heC ⟨_, rfl, rfl, rfl⟩) (F.ks_gaArgs_super _ _)) (fun v s' hv => ?_) fun ω ω z => z.elim
  obtain ⟨rfl, rfl⟩ := hv
  exact wpAny_pure (wpAny_pure hq)
theorem ei_bound {M : Model} {oe : Obj} {v : Value} {E : Value → Shared → Prop} {Q : Unit → Shared → Prop} (Y : ExcAt h C nid) (hx : h.get? e = some oe) (hc : oe.cls = .ref C) (hq : Q () ⟨h, g, d, t, os⟩) : wpAny M A (checkBoundCall "Exception.__init__" ⟨[.ref e, v], []⟩) Q E ⟨h, g, d, t, os⟩ := by
  obtain ⟨nm, qn, N, bs, sn, sub, ab, col, dd, k0, k1, k2, k3, k5, hC⟩ := Y
  have F := PySem.F.excBase_Exception
  have hshort := F.noStar
  simp only [checkBoundCall, F.initRow, F.initKind]
  rw [if_pos (by decide +kernel)]
  repeat (first | (with_reducible refine wpAny_loadPart_at hx ?_; rw [hc]) | with_reducible refine wpAny_loadPart_at hC ?_ | wp_step)
  exact hq
theorem mw_call (Y : ExcAt h C nid) {q t0 : Addr} {od : Option Addr} {v : Value} {Q : Value → Shared → Prop} (hq : h.get? q = some { cls := .type "method-wrapper", data := .fields #[.builtin "Exception.__init__", .ref e] })
    (hx : h.get? e = some { cls := .ref C, dict := od, data := .fields #[.ref t0, .none, .none, .none, .bool false, .none] })
    (hQ : ∀ h' t', h'.get? e = some { cls := .ref C, dict := od, data := .fields #[.ref t', .none, .none, .none, .bool false, .none] } → (∀ b o, b ≠ e → h.get? b = some o → h'.get? b = some o) → Q .none ⟨h', g, d, t, os⟩) :
    wpAny (model prog w) A (call (.ref q) [v]) Q E ⟨h, g, d, t, os⟩ := by
  refine wpAny_call (codeAny_of_tree ?_)
  show wpAny _ _ (callAny (.ref q) _) _ _ _
  unfold callAny
  refine wpAny_bind (wpAny_load hq ?_)
  dsimp only
  refine wpAny_bind (ei_bound Y hx rfl ?_)
  refine wpAny_pure ⟨Code.quiet_builtin _ (by decide +kernel), codeAny_builtin PySem.F.excBase_Exception.initEntry ?_⟩
  show wpAny _ _ (Builtin.«BaseException.__init__» ⟨[.ref e, v], []⟩) _ _ _
  unfold Builtin.«BaseException.__init__»
  repeat (first | with_reducible refine wpAny_loadPart_at hx ?_ | wp_step)
  refine hQ _ h.objs.size ?_ fun b o hb ho => ?_
  · exact Heap.get?_update_self _ (Heap.get?_push_of_some _ hx) rfl
  · exact (Heap.get?_update_other _ _ (Ne.symm hb)).trans (Heap.get?_push_of_some _ ho)
end
section
variable {prog : Program} {w : World} {A : Around} {E : Value → Shared → Prop} {s : Shared} {h₀ : Heap} {envs : List Env} {fp fs l : Led} {Q : Value → Shared → Prop} {K : Frag}
  {name qual : Str} {params : Arguments} {body : List Stmt} {scope : Scope} {dV kV doc pm cdv ct oc : Value} {an od : Option Addr} {osl : Array (Option Value)} {f cc : Addr} {vals : List Value} {kw : List (Str × Value)} {binds : List (Str × Value)}
theorem m_callS (S : Has h₀ s.heap fp fs l) (X₀ : K.In h₀) (hlim : h₀.NoLimit)
    (ho : K.lookup f = some ⟨oc, od, .func (ksFn name qual params body scope dV kV doc pm an cdv ct cc), osl⟩) (hcd : codeIn K cdv qual = true) (hroom : A.depth < recursionLimit)
    (hbind : BindsTo s (ksFn name qual params body scope dV kV doc pm an cdv ct cc) ⟨vals, kw⟩ binds) (hloc : ∀ y ∈ binds, scope.names.lookup y.1 = some .local)
    (h : ∀ L' h₁ tk, Fr h₀ L' h₁ (fun y => binds.reverse.lookup y) → News h₀ L' h₁ (fp ++ (fs ++ l)) → (∀ p ∈ fp ++ (fs ++ l), p.1 < L') →
      _root_.PySem.wpAt (model prog w) (A.deeper (ksEnv qual scope L' f cdv cc)) (.func body (ksEnv qual scope L' f cdv cc)) (execs body (ksEnv qual scope L' f cdv cc))
        (fun fl s' => Q (match fl with | .ret v => v | _ => .none) s')
        (fun e s' => wpAny (model prog w) (A.deeper (ksEnv qual scope L' f cdv cc)) (leaving (ksEnv qual scope L' f cdv cc) e) (fun ω s'' => E e s'') (fun e' s'' => E e' s'') s')
        { s with heap := h₁, toks := tk })
    (hcell : ∀ x ∈ scope.names, x.2 ≠ .cell) (hco : autoParam (scope.isCoroutine = false) aR) (hgen : autoParam (scope.isGenerator = false) aR) (hk : autoParam (scope.kind = .function) aR) :
    wpAny (model prog w) A (call (.ref f) vals kw) Q E s := by
  refine wpAny_call (ks_codeAny_call_defAt (fd := ksFn name qual params body scope dV kV doc pm an cdv ct cc) (body := body) (binds := binds) hroom (S.keep _ _ (X₀ _ _ ho)) rfl (hlim.keeps S.keep) ((codeRec_of X₀ hcd).keeps S.keep) rfl hbind hcell hloc (fun h₁ hns hk₁ => ?_) hco hgen hk)
  refine ks_wpAt_mono (h s.heap.objs.size h₁ _ ⟨hns, fun b o e => hk₁ b o (S.keep b o e), S.size⟩ (fun p hp => ⟨hk₁ _ _ (S.at_ p hp).1, Nat.ne_of_lt (Heap.lt_size (S.at_ p hp).1), (S.at_ p hp).2⟩) (fun p hp => Heap.lt_size (S.at_ p hp).1)) (fun fl s' hl => ?_) fun ω ω y => y
  exact hl
end
end
section --M3
open PySem PySem.W PyProof.Rows PySem.Calls PySem.Spec
set_option maxHeartbeats 1000000
noncomputable abbrev mwObj (e : Addr) : Obj := { cls := .type "method-wrapper", data := .fields #[.builtin "Exception.__init__", .ref e] }
section
variable {prog : Program} {w : World} {A : Around} {E : Value → Shared → Prop} {s : Shared} {h₀ : Heap} {L : Addr} {m : Str → Option Value} {news : Led} {K : Frag} {C e so D t q : Addr} {oC : Obj} {nid : String}
theorem push_news {h' : Heap} {q : Addr} {o : Obj} (F : Fr h₀ L s.heap m) (N : News h₀ L s.heap news) (hq : q = s.heap.objs.size) (ho : h'.get? q = some o) (k : ∀ b o, s.heap.get? b = some o → h'.get? b = some o) :
    Fr h₀ L h' m ∧ News h₀ L h' ((q, o) :: news) ∧ ∀ p ∈ news, p.1 < q := ks_newsPush F N hq ho k
theorem upd_news {h' : Heap} {o o' : Obj} {g : Obj → Led} (F : Fr h₀ L s.heap m) (N : News h₀ L s.heap news) (U : UpdF e o news g) (he : h'.get? e = some o') (k : ∀ b ob, b ≠ e → s.heap.get? b = some ob → h'.get? b = some ob) :
    Fr h₀ L h' m ∧ News h₀ L h' (g o') := by
  obtain ⟨pre, post, rfl, hg, a, b⟩ := U.split
  have hm := N (e, o) (List.mem_append_right _ (.head _))
  obtain ⟨oL, es, ep, hL, r⟩ := F.ns
  refine ⟨⟨⟨oL, es, ep, k _ _ (Ne.symm hm.2.1) hL, r⟩, fun b ob hb => k b ob (fun z => ?_) (F.keep b ob hb), F.above⟩, fun p hp => ?_⟩
  · have := hm.2.2; dsimp only at this; rw [← z, hb] at this; cases this
  · rw [hg] at hp
    rcases List.mem_append.mp hp with hp | hp
    · have := N p (List.mem_append_left _ hp)
      exact ⟨k _ _ (a p hp) this.1, this.2⟩
    · rcases List.mem_cons.mp hp with rfl | hp
      · exact ⟨he, hm.2⟩
      · have := N p (List.mem_append_right _ (.tail _ hp))
        exact ⟨k _ _ (b p hp) this.1, this.2⟩
theorem excAt_K {h : Heap} (X : K.In h) (ho : K.lookup C = some oC) (hok : ExcOk C oC nid) : ExcAt h C nid := .of (X _ _ ho) hok
theorem ne_exc {oe : Obj} (N : News h₀ L s.heap news) (hm : (e, oe) ∈ news) (X : K.In h₀) (ho : K.lookup C = some oC) : e ≠ C := fun z => by
  have := (N _ hm).2.2; dsimp only at this; rw [z, X _ _ ho] at this; cases this
theorem exc_super_method {l : List Value} {pl : Sem Bool} {Q : Value × List Value → Shared → Prop} (F : Fr h₀ L s.heap m) (X₀ : K.In h₀) (N : News h₀ L s.heap news) (hso : (so, ks_superObj D e C) ∈ news) (he : (e, excObj C t) ∈ news)
    (ho : K.lookup C = some oC) (hok : ExcOk C oC nid) (hno : nsIn K cStatics "thirdparty.any" = some none)
    (hl : ((Value.ref C :: excTail).dropWhile (· != .ref D)).drop 1 = l) (hf : alongIn K "__init__" l = some (some (.builtin "Exception.__init__")))
    (h : ∀ q h', Fr h₀ L h' m → News h₀ L h' ((q, mwObj e) :: news) → (∀ p ∈ news, p.1 < q) → Q (.ref q, []) { s with heap := h', toks := s.toks + 1 }) :
    wpAny (model prog w) A (getMethod (.ref so) "__init__" pl) Q E s := by
  have X : K.In s.heap := X₀.keeps F.keep
  have hne := ne_exc N he X₀ ho
  obtain ⟨hh, g, d, tk, os⟩ := s
  refine super_getMethod (excAt_K X ho hok) X (N _ he).1 (N _ hso).1 (looks_opaque X hno) hl hf hne ?_
  obtain ⟨F', N', l'⟩ := push_news (s := ⟨hh, g, d, tk, os⟩) (o := mwObj e) F N rfl (Heap.get?_push_at rfl rfl) (fun b o e => Heap.get?_push_of_some _ e)
  exact h _ _ F' N' l'
noncomputable def MwP (q e : Addr) (h : Heap) : Prop := h.get? q = some (mwObj e)
theorem keeps_Mw {M : Model} (h : Heap) (X : MwP q e h) : ∃ k, (k = Keeper.frame ∨ k = Keeper.machine ∨ k = Keeper.boundFrame) ∧ Looks M h (keeperOf (.ref q)) k :=
  ⟨.machine, .inr (.inl rfl), (Looks.ld (part := none) X).andThen .now⟩
theorem callWith_Mw {env : Env} {pos : Pos} {x : Expr} {rest : List Expr} {Q : Value → Shared → Prop} (h : wpAny (model prog w) A (spliced (backTo pos (starEach (x :: rest) env))) (fun vs s₁ => MwP q e s₁.heap ∧ wpAny (model prog w) A (call (.ref q) ([] ++ vs)) Q E s₁) E s)
    (he : autoParam (starEach (x :: rest) env = (false, eval x env) :: starEach rest env) aR) (hplain : autoParam ((backTo pos (starEach rest env)).any (·.1) = false) aR) :
    wpAny (model prog w) A (callWith pos (.ref q) [] (backTo pos (starEach (x :: rest) env)) []) Q E s := by
  rw [he] at h ⊢
  exact callWith_of (by show ((false || (backTo pos (starEach rest env)).any (·.1)) || false) = false; rw [hplain]; rfl) keeps_Mw (evalArgs_plain h)
theorem exc_mw_call {v : Value} {g : Obj → Led} {Q : Value → Shared → Prop} (F : Fr h₀ L s.heap m) (X₀ : K.In h₀) (N : News h₀ L s.heap news) (hq : (q, mwObj e) ∈ news) (U : UpdF e (excObj C t) news g)
    (ho : K.lookup C = some oC) (hok : ExcOk C oC nid)
    (h : ∀ h' t', Fr h₀ L h' m → News h₀ L h' (g (excObj C t')) → Q .none { s with heap := h' }) : wpAny (model prog w) A (call (.ref q) [v]) Q E s := by
  have X : K.In s.heap := X₀.keeps F.keep
  obtain ⟨pre, post, rfl, hg, a, b⟩ := U.split
  have he := (N _ (List.mem_append_right pre (.head post))).1
  have hqq := (N _ hq).1
  obtain ⟨hh, g', d, tk, os⟩ := s
  refine mw_call (excAt_K X ho hok) hqq he fun h' t' x1 x2 => ?_
  obtain ⟨F', N'⟩ := upd_news (s := ⟨hh, g', d, tk, os⟩) F N U x1 x2
  exact h h' t' F' N'
theorem exc_setAttr {name : Str} {v : Value} {g : Obj → Led} {Q : Unit → Shared → Prop} (F : Fr h₀ L s.heap m) (X₀ : K.In h₀) (N : News h₀ L s.heap news) (U : UpdF e (excObj C t) news g)
    (ho : K.lookup C = some oC) (hok : ExcOk C oC nid) (hn : findIn K (.ref C) name = some none) (hsa : findIn K (.ref C) "__setattr__" = some (some (.builtin "object.__setattr__")))
    (h : ∀ h' tk dx, Fr h₀ L h' m → News h₀ L h' (g { cls := .ref C, dict := some dx, data := .fields #[.ref t, .none, .none, .none, .bool false, .none] }) → Q () { s with heap := h', toks := tk }) : wpAny (model prog w) A (setAttr (.ref e) name v) Q E s := by
  have X : K.In s.heap := X₀.keeps F.keep
  obtain ⟨pre, post, rfl, hg, a, b⟩ := U.split
  have he := (N _ (List.mem_append_right pre (.head post))).1
  obtain ⟨hh, g', d, tk, os⟩ := s
  refine exc_set X (excAt_K X ho hok) hn hsa he fun h' tk' dx x1 x2 => ?_
  obtain ⟨F', N'⟩ := upd_news (s := ⟨hh, g', d, tk, os⟩) F N U x1 x2
  exact h h' tk' dx F' N'
end
end
section --M4
open PySem PySem.W PyProof.Rows PySem.Calls PySem.Spec
set_option maxHeartbeats 1000000
section
variable {prog : Program} {w : World} {A : Around} {E : Value → Shared → Prop} {s : Shared} {h₀ : Heap} {L : Addr} {m : Str → Option Value} {loc fp fs l : Led} {K : Frag} {C e : Addr} {oC : Obj} {env : Env} {outer : List Env}
noncomputable abbrev excDone (C t : Addr) (od : Option Addr) : Obj := { cls := .ref C, dict := od, data := .fields #[.ref t, .none, .none, .none, .bool false, .none] }
theorem exc_make {v : Value} {fI : Addr} {d : Nat} {Q : Value → Shared → Prop} (F : Fr h₀ L s.heap m) (X₀ : K.In h₀) (N : News h₀ L s.heap (loc ++ (fp ++ (fs ++ l))))
    (hA : A.frames = some (env :: outer)) (hf : env.frame = some L) (hk : env.scope.kind = .function) (Fs : TI.Frs outer fs) (hh : A.handled = none) (hr : Room A (d + 1))
    (Z : Ap fp fs l) (zl : ∀ p ∈ fp ++ fs, ∀ q ∈ loc, q.1 ≠ p.1)
    (ho : K.lookup C = some oC) (hok : ExcOk C oC "Exception.__new__") (hi : findIn K (.ref C) "__init__" = some (some (.ref fI))) (hfi : typeIn K (.ref fI) = some (.type "function"))
    (D : ∀ e t l, Does (model prog w) h₀ (.ref fI) [.ref e, v] d [(e, excObj C t)] l (fun r fp' l' => r = .none ∧ l' = l ∧ ∃ t' od, fp' = [(e, excDone C t' od)]) (fun ω ω ω => False))
    (hQ : ∀ e t od h' tk, Fr h₀ L h' m → News h₀ L h' ((e, excDone C t od) :: (loc ++ (fp ++ (fs ++ l)))) → (∀ p ∈ loc ++ (fp ++ (fs ++ l)), p.1 ≠ e) → Q (.ref e) { s with heap := h', toks := tk }) :
    wpAny (model prog w) A (call (.ref C) [v]) Q E s := by
  have X : K.In s.heap := X₀.keeps F.keep
  obtain ⟨hh', g, dr, tk, os⟩ := s
  refine exc_call PySem.F.excBase_Exception X (excAt_K X ho hok) hi hfi (by show 1 ≤ sizeLine; rw [sizeLine_eq]; decide) ?_
  obtain ⟨oL, es, ep, hL, hrL⟩ := F.ns
  have k1 : ∀ b o, hh'.get? b = some o → ((hh'.push { cls := .type "tuple", data := .seq [v].toArray }).push (excObj C hh'.objs.size)).get? b = some o := fun b o e => Heap.get?_push_of_some _ (Heap.get?_push_of_some _ e)
  have hex : ((hh'.push { cls := .type "tuple", data := .seq [v].toArray }).push (excObj C hh'.objs.size)).get? (hh'.objs.size + 1) = some (excObj C hh'.objs.size) := by heap_get
  have F₁ : Fr h₀ L ((hh'.push { cls := .type "tuple", data := .seq [v].toArray }).push (excObj C hh'.objs.size)) m := ⟨⟨oL, es, ep, k1 _ _ hL, hrL⟩, fun b o e => k1 b o (F.keep b o e), F.above⟩
  have lt : ∀ p ∈ loc ++ (fp ++ (fs ++ l)), p.1 < hh'.objs.size + 1 := fun p hp => Nat.lt_succ_of_lt (Heap.lt_size (N p hp).1)
  have ne : ∀ p ∈ loc ++ (fp ++ (fs ++ l)), p.1 ≠ hh'.objs.size + 1 := fun p hp => Nat.ne_of_lt (lt p hp)
  have mfp : ∀ p ∈ fp, p ∈ loc ++ (fp ++ (fs ++ l)) := fun p hp => List.mem_append_right _ (List.mem_append_left _ hp)
  have mfs : ∀ p ∈ fs, p ∈ loc ++ (fp ++ (fs ++ l)) := fun p hp => List.mem_append_right _ (List.mem_append_right _ (List.mem_append_left _ hp))
  have ml : ∀ p ∈ l, p ∈ loc ++ (fp ++ (fs ++ l)) := fun p hp => List.mem_append_right _ (List.mem_append_right _ (List.mem_append_right _ hp))
  have hnone : h₀.get? (hh'.objs.size + 1) = none := by
    cases z : h₀.get? (hh'.objs.size + 1) with
    | none => rfl
    | some o => exact absurd (Heap.lt_size (F.keep _ _ z)) (Nat.not_lt.mpr (Nat.le_succ _))
  have N₁ : News h₀ L ((hh'.push { cls := .type "tuple", data := .seq [v].toArray }).push (excObj C hh'.objs.size)) ([] ++ ([(hh'.objs.size + 1, excObj C hh'.objs.size)] ++ (fs ++ ((loc ++ (fp ++ l)) ++ [])))) := fun p hp => by
    have hp' : p = (hh'.objs.size + 1, excObj C hh'.objs.size) ∨ p ∈ loc ++ (fp ++ (fs ++ l)) := by
      simp only [List.nil_append, List.append_nil, List.cons_append, List.mem_cons, List.mem_append] at hp ⊢
      rcases hp with hp | hp | hp | hp | hp <;> simp [hp]
    rcases hp' with rfl | hp'
    · exact ⟨hex, fun z => absurd (Heap.lt_size hL) (by rw [← z]; exact Nat.not_lt.mpr (Nat.le_succ _)), hnone⟩
    · exact ⟨k1 _ _ (N p hp').1, (N p hp').2⟩
  have hA' : (A.under (.builtin "type.__call__" ⟨[.ref C, v], []⟩)).frames = some (env :: outer) := by unfold Around.under; simp only [hA]; rfl
  refine Does.use (D (hh'.objs.size + 1) hh'.objs.size ([] ++ [])) (loc := []) (l := []) (xs := loc ++ (fp ++ l)) (env := env) (outer := outer) F₁ N₁ hA' hf hk Fs hh ⟨by have := hr.1; rw [depth_under_make]; lia, by have := hr.2; rw [units_under_make]; lia⟩ ⟨fun p hp q hq => ?_, fun p hp q hq => ?_, List.pairwise_singleton _ _⟩ zl_nil ?_ ?_
  · rw [List.append_nil] at hq
    rcases List.mem_append.mp hp with hp | hp
    · obtain rfl := List.mem_singleton.mp hp
      refine ne q ?_
      simp only [List.mem_append] at hq ⊢
      rcases hq with hq | hq | hq <;> simp [hq]
    · rcases List.mem_append.mp hq with hq | hq
      · exact zl p (List.mem_append_right _ hp) q hq
      · rcases List.mem_append.mp hq with hq | hq
        · exact Ne.symm (Z.apf q hq p hp)
        · exact Z.ap p (List.mem_append_right _ hp) q hq
  · obtain rfl := List.mem_singleton.mp hp
    exact ne q (mfs q hq)
  · rintro v' fp' l' h' tk' ⟨rfl, rfl, t', od, rfl⟩ F' N' Z' _
    refine ⟨rfl, hQ _ t' od h' tk' F' (fun p hp => N' p ?_) ne⟩
    simp only [List.nil_append, List.append_nil, List.cons_append, List.mem_cons, List.mem_append] at hp ⊢
    rcases hp with hp | hp | hp | hp | hp <;> simp [hp]
  · intro _ _ _ _ _ _ _ _ hx
    exact hx.elim
theorem leave_made {t : Addr} {od : Option Addr} {Q : Unit → Shared → Prop} {A : Around} (F : Fr h₀ L s.heap m) (N : News h₀ L s.heap ((e, excDone C t od) :: (loc ++ (fp ++ (fs ++ l))))) (hne : ∀ p ∈ loc ++ (fp ++ (fs ++ l)), p.1 ≠ e)
    (hA : A.frames = some (env :: outer)) (hf : env.frame = some L) (hk : env.scope.kind = .function) (Fs : TI.Frs outer fs) (Z : Ap fp fs l)
    (hQ : ∀ fs' h', Fly h₀ outer e (.ref C) h' fp fs' l → TI.SameUp fs fs' → Q () { s with heap := h' }) : wpAny (model prog w) A (leaving env (.ref e)) Q E s := by
  have he := N _ (List.mem_cons_self)
  have mm : ∀ p ∈ fp ++ (fs ++ l), p ∈ loc ++ (fp ++ (fs ++ l)) := fun p hp => List.mem_append_right _ hp
  have H : Has h₀ s.heap fp fs l := ⟨F.keep, Nat.le_trans F.above (Nat.le_of_lt F.ns.lt), fun p hp => ⟨(N p (.tail _ (mm p hp))).1, (N p (.tail _ (mm p hp))).2.2⟩, Z⟩
  let B := TI.gone s.heap (e :: L :: fs.map (·.1))
  have hB : ∀ b o, B.get? b = some o → s.heap.get? b = some o := fun b o z => (TI.gone_some z).2
  have hL0 := fr_none F
  have hB0 : ∀ b o, h₀.get? b = some o → B.get? b = some o := fun b o z => by
    refine (TI.gone_get fun hm => ?_).trans (F.keep b o z)
    rcases List.mem_cons.mp hm with rfl | hm
    · rw [he.2.2] at z; cases z
    · rcases List.mem_cons.mp hm with rfl | hm
      · rw [hL0] at z; cases z
      · obtain ⟨p, hp, rfl⟩ := List.mem_map.mp hm
        rw [(H.at_ p (List.mem_append_right _ (List.mem_append_left _ hp))).2] at z; cases z
  have hBl : ∀ p ∈ fp ++ l, B.get? p.1 = some p.2 := fun p hp => by
    have hp' : p ∈ fp ++ (fs ++ l) := by
      simp only [List.mem_append] at hp ⊢
      rcases hp with hp | hp <;> simp [hp]
    refine (TI.gone_get fun hm => ?_).trans (H.at_ p hp').1
    rcases List.mem_cons.mp hm with z | hm
    · exact hne p (mm p hp') z
    · rcases List.mem_cons.mp hm with z | hm
      · exact (N p (.tail _ (mm p hp'))).2.1 z
      · obtain ⟨x, hx, z⟩ := List.mem_map.mp hm
        rcases List.mem_append.mp hp with hp | hp
        · exact Z.apf p hp x hx z
        · exact Z.ap x (List.mem_append_right _ hx) p hp z.symm
  have hfl : s.heap.FunFrames B (env :: outer) := by
    refine Heap.FunFrames.cons (by rw [hk]; decide) hf F.ns (TI.gone_none (List.mem_cons_of_mem _ List.mem_cons_self)) (TI.Frs.fun Fs fun p hp => ⟨(H.at_ p (List.mem_append_right _ (List.mem_append_left _ hp))).1, TI.gone_none (List.mem_cons_of_mem _ (List.mem_cons_of_mem _ (List.mem_map_of_mem hp)))⟩)
  refine wpAny_leaving_firstW (base := B) (a0 := .ref t) hA hfl hf he.1 hB (TI.gone_none List.mem_cons_self) rfl rfl rfl fun h' hl => ?_
  obtain ⟨x1, ⟨_, _, x2⟩, x3, x4⟩ := hl
  obtain ⟨fs', y1, y2⟩ := fly_up (h' := h') (C := .ref C) H hB0 hBl Fs ⟨x1, TI.gone_none List.mem_cons_self, x2, x3⟩ x4 (size_of_ns (Heap.UpToSlots.ns (show s.heap.UpToSlots h' from x4) F.ns) F.above)
  exact hQ fs' h' y1 y2
end
end
section --M5
open PySem PySem.W PyProof.Rows PySem.Calls PySem.Spec
set_option maxHeartbeats 1000000
section
variable {M : Model} {A : Around} {E : Value → Shared → Prop} {s : Shared} {h₀ : Heap} {outer : List Env} {fp fs l : Led} {env : Env} {L e : Addr} {m : Str → Option Value} {C : Value}
noncomputable def FlyG (h₀ : Heap) (envs : List Env) (e : Addr) (C : Value) (h : Heap) (fp fs l : Led) : Prop :=
  ∃ B a0 fl, B.StaysIn h ∧ B.get? e = none ∧ h.FunFrames B envs ∧ h.TracedAtW B e C a0 fl ∧ (∀ b o, h₀.get? b = some o → B.get? b = some o) ∧ (∀ p ∈ fp ++ l, B.get? p.1 = some p.2) ∧ Has h₀ h fp fs l ∧ TI.Frs envs fs
theorem leaving_anyW {base : Heap} {e : Addr} {cls a0 fl : Value} {Q : Unit → Shared → Prop}
    (hfr : A.frames = some (env :: outer)) (hl : s.heap.FunFrames base (env :: outer)) (hf : env.frame = some L) (ht : s.heap.TracedAtW base e cls a0 fl) (hkb : base.StaysIn s.heap) (hen : base.get? e = none)
    (h : ∀ h', Heap.FlyingW base outer e cls a0 h' → s.heap.UpToSlots h' → Q () { s with heap := h' }) : wpAny M A (leaving env (.ref e)) Q E s := by
  obtain ⟨oe, vs, T, oT, ts, he, ⟨hcls, h0⟩, hd, h1, hnT, hTe, hT, hdT, h3⟩ := ht
  subst hcls
  by_cases hfl : (fl == rawInt L) = true
  · have hfl' : fl = rawInt L := eq_of_beq hfl
    subst hfl'
    unfold leaving
    refine wpAny_bind (wpAny_noteFrame_againW hf ⟨oe, vs, T, oT, ts, he, ⟨rfl, h0⟩, hd, h1, hnT, hTe, hT, hdT, h3⟩ ?_)
    refine wpAny_landsW (base := base) (l := env :: outer) (L := L) ⟨hkb, hen, hl, oe, vs, T, oT, ts, he, ⟨rfl, h0⟩, hd, h1, hnT, hTe, hT, hdT, h3⟩ fun h' hfl hu => ?_
    obtain ⟨k1, k2, ⟨_, _, k3⟩, k4⟩ := hfl
    exact h h' ⟨k1, k2, k3, k4⟩ hu
  · unfold leaving noteFrame
    simp only [hf]
    refine wpAny_bind (wpAny_bind (wpAny_field he hd h1 ?_))
    rw [if_pos (show (Value.ref T != Value.none) = true from by simp)]
    refine wpAny_bind (wpAny_field hT hdT h3 ?_)
    rw [if_neg hfl]
    refine wpAny_bind (wpAny_setField hT hdT (Array.getElem?_eq_some_iff.mp h3).1 ?_)
    have other : ∀ b, b ≠ T → (s.heap.update T (Obj.mapFields (·.setIfInBounds 3 Value.none))).get? b = s.heap.get? b := fun b hb => Heap.get?_update_other _ _ (Ne.symm hb)
    have noRecord : ∀ b o, s.heap.get? b = some o → (∀ vs, o.data ≠ .fields vs) → b ≠ T := fun b o hb hnf q => by
      rw [q, hT] at hb; injection hb with hb; subst hb; exact hnf ts hdT
    refine wpAny_newEntryW hfr (hl.of_keeps fun b o hb hnf => ⟨o, (other b (noRecord b o hb hnf)).trans hb, rfl⟩) hf ((other e (Ne.symm hTe)).trans he)
      (fun b o hbo => (other b fun q => by rw [q, hnT] at hbo; cases hbo).trans (hkb b o hbo)) hen hd (Array.getElem?_eq_some_iff.mp h1).1 h0
      fun h' ⟨x1, ⟨_, _, x2⟩, x3, x4⟩ => h h' ⟨x1, hen, x2, x3⟩ fun b o hb hnf => x4 b o ((other b (noRecord b o hb hnf)).trans hb) hnf
theorem leave_flyG {oL : Obj} {Q : Unit → Shared → Prop} (hA : A.frames = some (env :: outer)) (hf : env.frame = some L) (x : FlyG h₀ (env :: outer) e C s.heap fp ((L, oL) :: fs) l) (hn : s.heap.Ns L m) (hL : h₀.objs.size ≤ L)
    (hE : ∀ fs' h', Fly h₀ outer e C h' fp fs' l → TI.SameUp fs fs' → Q () { s with heap := h' }) : wpAny M A (leaving env (.ref e)) Q E s := by
  obtain ⟨B, a0, fl, x1, x2, x3, x4, hB0, hBl, H, Fs⟩ := x
  refine leaving_anyW hA x3 hf x4 x1 x2 fun h' hfl' hu => ?_
  have H' : Has h₀ s.heap fp fs l := ⟨H.keep, H.size, fun p hp => H.at_ p (by
      simp only [List.mem_append, List.mem_cons] at hp ⊢
      rcases hp with hp | hp | hp <;> simp [hp]), ⟨fun p hp q hq => H.apart.ap p (by
      simp only [List.mem_append, List.mem_cons] at hp ⊢
      rcases hp with hp | hp <;> simp [hp]) q hq, fun p hp q hq => H.apart.apf p hp q (List.mem_cons_of_mem _ hq), H.apart.dist⟩⟩
  obtain ⟨fs', y1, y2⟩ := fly_up H' hB0 hBl Fs.2.2.2 hfl' hu (size_of_ns (Heap.UpToSlots.ns hu hn) hL)
  exact hE fs' h' y1 y2
theorem noteFrame_frame {env env' : Env} (h : env.frame = env'.frame) (v : Value) : noteFrame v env = noteFrame v env' := by
  unfold noteFrame PySem.frameOf
  rw [h]
end
section
variable {M : Model} {A : Around} {E : Value → Shared → Prop} {s : Shared} {h₀ : Heap} {outer : List Env} {fp fs l : Led} {env cenv : Env} {L e : Addr} {m : Str → Option Value} {C : Value} {oL : Obj}
theorem flyG_up {h h' B : Heap} {a0 fl : Value} (H : Has h₀ h fp ((L, oL) :: fs) l) (hB0 : ∀ b o, h₀.get? b = some o → B.get? b = some o) (hBl : ∀ p ∈ fp ++ l, B.get? p.1 = some p.2) (Fs : TI.Frs (env :: outer) ((L, oL) :: fs))
    (x1 : B.StaysIn h') (x2 : B.get? e = none) (x3 : h'.FunFrames B (env :: outer)) (x4 : h'.TracedAtW B e C a0 fl) (hu : ∀ p ∈ (L, oL) :: fs, ∃ sl, h'.get? p.1 = some { p.2 with slots := sl }) (hn' : h'.Ns L m) (hL : h₀.objs.size ≤ L) :
    ∃ oL' fs', FlyG h₀ (env :: outer) e C h' fp ((L, oL') :: fs') l ∧ TI.SameUp fs fs' ∧ h'.Ns L m := by
  obtain ⟨fs1, SU, hat⟩ := TI.sameUp_of (h' := h') (frs := (L, oL) :: fs) hu
  have Fs' := Fs.up SU
  cases fs1 with
  | nil => exact SU.elim
  | cons q fs' =>
    obtain ⟨qa, qo⟩ := q
    obtain ⟨y1, ⟨sl, y2⟩, y3⟩ := SU
    dsimp only at y1 y2
    subst y1 y2
    refine ⟨_, fs', ⟨B, a0, fl, x1, x2, x3, x4, hB0, hBl, ⟨fun b o z => x1 b o (hB0 b o z), size_of_ns hn' hL, fun p hp => ?_, ⟨fun p hp q hq => ?_, fun p hp q hq => ?_, H.apart.dist⟩⟩, Fs'⟩, y3, hn'⟩
    · rcases List.mem_append.mp hp with hp | hp
      · exact ⟨x1 _ _ (hBl p (List.mem_append_left _ hp)), (H.at_ p (List.mem_append_left _ hp)).2⟩
      · rcases List.mem_append.mp hp with hp | hp
        · refine ⟨hat p hp, ?_⟩
          rcases List.mem_cons.mp hp with rfl | hp
          · exact (H.at_ (_, oL) (List.mem_append_right _ (List.mem_append_left _ List.mem_cons_self))).2
          · obtain ⟨x, hx, ex⟩ := y3.fwd p hp
            rw [ex]; exact (H.at_ x (List.mem_append_right _ (List.mem_append_left _ (List.mem_cons_of_mem _ hx)))).2
        · exact ⟨x1 _ _ (hBl p (List.mem_append_right _ hp)), (H.at_ p (List.mem_append_right _ (List.mem_append_right _ hp))).2⟩
    · rcases List.mem_append.mp hp with hp | hp
      · exact H.apart.ap p (List.mem_append_left _ hp) q hq
      · rcases List.mem_cons.mp hp with rfl | hp
        · exact H.apart.ap (_, oL) (List.mem_append_right _ List.mem_cons_self) q hq
        · obtain ⟨x, hx, ex⟩ := y3.fwd p hp
          rw [ex]; exact H.apart.ap x (List.mem_append_right _ (List.mem_cons_of_mem _ hx)) q hq
    · rcases List.mem_cons.mp hq with rfl | hq
      · exact H.apart.apf p hp (_, oL) List.mem_cons_self
      · obtain ⟨x, hx, ex⟩ := y3.fwd q hq
        rw [ex]; exact H.apart.apf p hp x (List.mem_cons_of_mem _ hx)
theorem comp_passes {what : String} {Cn : Addr} (hA : A.frames = some (env :: outer)) (hf : env.frame = some L) (hcf : cenv.frame = env.frame) (x : Fly h₀ (env :: outer) e C s.heap fp ((L, oL) :: fs) l) (hn : s.heap.Ns L m) (hL : h₀.objs.size ≤ L)
    {oC : Obj} (hCn : s.heap.get? Cn = some oC) (hCd : ∃ es ep, oC.data = .dict es ep) (hmC : ∃ mC, s.heap.Ns Cn mC) (hCB : ∀ p ∈ fp ++ l, p.1 ≠ Cn) (hCf : ∀ p ∈ (L, oL) :: fs, p.1 ≠ Cn) (hC0 : h₀.get? Cn = none)
    (hE : ∀ oL' fs' h', FlyG h₀ (env :: outer) e C h' fp ((L, oL') :: fs') l → h'.Ns L m → TI.SameUp fs fs' → E (.ref e) { s with heap := h' }) :
    notedBy M A cenv (fun x s' => ∃ m, s'.heap.Ns Cn m ∧ ∀ h', Heap.SameBut Cn s'.heap h' → ∀ cenv : Env, cenv.locals = Cn → wpAny M A (PySem.passOn what x cenv : Sem Value) (fun ω ω => False) E { s' with heap := h' }) (.ref e) s := by
  obtain ⟨B, a0, hfl, hB0, hBl, H, Fs⟩ := x
  show wpAny M A (noteFrame (.ref e) cenv) _ _ s
  rw [noteFrame_frame hcf]
  refine wpAny_looks_onW hA hf hfl fun h1 hheld hu1 => ?_
  obtain ⟨mC, hmC⟩ := hmC
  refine ⟨mC, Heap.UpToSlots.ns hu1 hmC, fun h2 hs2 cenv' ω => ?_⟩
  obtain ⟨x1, x2, x3, oe, vs, T, oT, ts, he, hcls, hd, h1', hnT, hTe, hT, hdT, h3⟩ := hheld
  obtain ⟨es, ep, hCd⟩ := hCd
  obtain ⟨slC, hC1⟩ := hu1 Cn oC hCn fun vs q => by rw [hCd] at q; cases q
  have heC : e ≠ Cn := fun z => by
    rw [z, hC1] at he; cases he
    have := hCd.symm.trans hd; cases this
  have hTC : T ≠ Cn := fun z => by
    rw [z, hC1] at hT; cases hT
    have := hCd.symm.trans hdT; cases this
  have up : ∀ b o, b ≠ Cn → h1.get? b = some o → h2.get? b = some o := fun b o hb z => (hs2.2 b hb).trans z
  have he2 := up e oe heC he
  have hT2 := up T oT hTC hT
  have hsz3 : 3 < ts.size := (Array.getElem?_eq_some_iff.mp h3).1
  unfold PySem.passOn
  refine wpAny_bind (wpAny_field he2 hd h1' ?_)
  rw [if_neg (show ¬ ((Value.ref T == Value.none) = true) from by simp)]
  unfold setFlight
  refine wpAny_bind (wpAny_bind (wpAny_field he2 hd h1' ?_))
  rw [if_pos (show (Value.ref T != Value.none) = true from by simp)]
  refine wpAny_setField hT2 hdT hsz3 ?_
  refine wpAny_throw ?_
  let B' := TI.gone B [Cn]
  have hB' : ∀ b o, B'.get? b = some o → B.get? b = some o ∧ b ≠ Cn := fun b o z => ⟨(TI.gone_some z).2, fun q => (TI.gone_some z).1 (by simp [q])⟩
  have toB' : ∀ b o, b ≠ Cn → B.get? b = some o → B'.get? b = some o := fun b o hb z => (TI.gone_get (by simp [hb])).trans z
  have noneB' : ∀ b, B.get? b = none → B'.get? b = none := fun b z => by
    cases q : B'.get? b with
    | none => rfl
    | some o => rw [(hB' b o q).1] at z; cases z
  have last : ∀ b, b ≠ T → (h2.update T (Obj.mapFields (·.setIfInBounds 3 (cenv'.frame.elim Value.none fun f => rawInt f)))).get? b = h2.get? b := fun b hb => Heap.get?_update_other _ _ (Ne.symm hb)
  have notT : ∀ b o, h1.get? b = some o → (∀ vs, o.data ≠ .fields vs) → b ≠ T := fun b o hb hnf q => by
    rw [q, hT] at hb; injection hb with hb; subst hb; exact hnf ts hdT
  have frs : ∀ p ∈ (L, oL) :: fs, ∃ sl, (h2.update T (Obj.mapFields (·.setIfInBounds 3 (cenv'.frame.elim Value.none fun f => rawInt f)))).get? p.1 = some { p.2 with slots := sl } := fun p hp => by
    obtain ⟨es', ep', hdp⟩ := Fs.dict p hp
    obtain ⟨sl, hs⟩ := hu1 p.1 p.2 (H.at_ p (List.mem_append_right _ (List.mem_append_left _ hp))).1 fun vs q => by rw [hdp] at q; cases q
    exact ⟨sl, (last p.1 (notT _ _ hs fun vs q => by dsimp only at q; rw [hdp] at q; cases q)).trans (up _ _ (hCf p hp) hs)⟩
  have hn3 : (h2.update T (Obj.mapFields (·.setIfInBounds 3 (cenv'.frame.elim Value.none fun f => rawInt f)))).Ns L m := by
    obtain ⟨sl, hs⟩ := frs (L, oL) List.mem_cons_self
    exact ns_up hn (H.at_ (L, oL) (List.mem_append_right _ (List.mem_append_left _ List.mem_cons_self))).1 hs
  have stays : B'.StaysIn (h2.update T (Obj.mapFields (·.setIfInBounds 3 (cenv'.frame.elim Value.none fun f => rawInt f)))) := fun b o z => by
    have := hB' b o z
    refine (last b fun q => ?_).trans (up b o this.2 (x1 b o this.1))
    rw [q, hnT] at this; cases this.1
  have funs : ∀ (l : List Env) (gs : Led), TI.Frs l gs → (∀ p ∈ gs, ∃ sl, (h2.update T (Obj.mapFields (·.setIfInBounds 3 (cenv'.frame.elim Value.none fun f => rawInt f)))).get? p.1 = some { p.2 with slots := sl }) → h1.FunFrames B l → (h2.update T (Obj.mapFields (·.setIfInBounds 3 (cenv'.frame.elim Value.none fun f => rawInt f)))).FunFrames B' l := by
    intro l
    induction l with
    | nil => intro _ _ _ _; trivial
    | cons ev r ih =>
      intro gs hg hgs hff
      cases gs with
      | nil => exact hg.elim
      | cons g gs =>
        obtain ⟨a1, a2, ⟨es', ep', a3⟩, a4⟩ := hg
        obtain ⟨b1, ⟨L1, o1, c1, c2, c3, c4⟩, b3⟩ := hff
        obtain ⟨sl, hs⟩ := hgs g List.mem_cons_self
        refine ⟨b1, ⟨g.1, _, a2, ?_, hs, fun vs q => ?_⟩, ih gs a4 (fun p hp => hgs p (List.mem_cons_of_mem _ hp)) b3⟩
        · rw [a2] at c1; cases c1; exact noneB' _ c2
        · dsimp only at q; rw [a3] at q; cases q
  obtain ⟨oL', fs', y1, y2, y3⟩ := flyG_up (B := B') (fl := cenv'.frame.elim Value.none fun f => rawInt f) H (fun b o z => toB' b o (fun q => by rw [q, hC0] at z; cases z) (hB0 b o z)) (fun p hp => toB' _ _ (hCB p hp) (hBl p hp)) Fs stays (noneB' _ x2) (funs _ _ Fs frs x3)
    ⟨oe, vs, T, _, _, (last e (Ne.symm hTe)).trans he2, hcls, hd, h1', noneB' _ hnT, hTe, Heap.get?_update_self _ hT2 (Obj.isFreed_of_fields (Obj.data_mapFields hdT _)), Obj.data_mapFields hdT _, by simp [hsz3]⟩ frs hn3 hL
  exact hE oL' fs' _ y1 y3 y2
end
end
section --M6
open PySem PySem.W PyProof.Rows PySem.Calls PySem.Spec
set_option maxHeartbeats 1000000
noncomputable def ledOf (h : Heap) (bs : List Addr) : Led := bs.filterMap fun b => (h.get? b).map fun o => (b, o)
theorem ledOf_mem {h : Heap} {bs : List Addr} {p : Addr × Obj} (hp : p ∈ ledOf h bs) : p.1 ∈ bs ∧ h.get? p.1 = some p.2 := by
  obtain ⟨b, hb, e⟩ := List.mem_filterMap.mp hp
  obtain ⟨o, ho, rfl⟩ := Option.map_eq_some_iff.mp e
  exact ⟨hb, ho⟩
theorem ledOf_keep {h h' : Heap} {bs : List Addr} (k : ∀ p ∈ ledOf h bs, h'.get? p.1 = some p.2) : ∀ b ∈ bs, ∀ o, h.get? b = some o → h'.get? b = some o := fun b hb o ho =>
  k (b, o) (List.mem_filterMap.mpr ⟨b, hb, by rw [ho]; rfl⟩)
section
variable {prog : Program} {w : World} {A : Around} {E : Value → Shared → Prop} {h₀ : Heap} {outer : List Env} {fp fs xs l loc : Led} {env : Env} {L : Addr} {m : Str → Option Value} {Q : Value → Shared → Prop}
inductive LoopC (h₀ : Heap) (L : Addr) (m : Str → Option Value) (fs xs l0 : Led) (s₂ : Shared) (n : Nat) (wrI : List Addr) (St : Nat → Heap → Prop) (Inv : Nat → List Value → Led → Led → Prop) (D C : Addr) (k : Nat) (s' : Shared) : Prop
  | mk (h' : Heap) (tk : Nat) (mC : Str → Option Value) (ys : Array Value) (fp' l' : Led) (i : Nat) (e : s' = { s₂ with heap := h', toks := tk }) (st : St i h') (pl : h'.PlainList D ys) (ns : h'.Ns C mC) (F : Fr h₀ L h' m) (N : News h₀ L h' (fp' ++ (fs ++ (xs ++ l')))) (Z : Ap fp' fs (xs ++ l')) (iv : Inv i ys.toList fp' l') (g : Gro xs l0 l') (ap : ∀ p ∈ fp' ++ (fs ++ (xs ++ l')), p.1 ≠ D ∧ p.1 ≠ C ∧ p.1 ∉ wrI) (hs : ys.size = i) (hi : i ≤ n) (hk : k = n + 1 - i)
theorem mem4 {α : Type} {p : α} {a b c d : List α} : p ∈ a ++ (b ++ (c ++ d)) ↔ p ∈ a ∨ p ∈ b ∨ p ∈ c ∨ p ∈ d := by
  rw [List.mem_append, List.mem_append, List.mem_append]
theorem mem_mid {α : Type} {p : α} {a b c d M : List α} (mx : ∀ p ∈ c, p ∈ M) (h : p ∈ a ++ (b ++ (c ++ d))) : p ∈ a ++ (b ++ (M ++ d)) :=
  mem4.mpr ((mem4.mp h).imp id fun h => h.imp id fun h => h.imp (mx p) id)
theorem mem_loc {α : Type} {p : α} {a b c d e : List α} (h : p ∈ a ++ (b ++ (c ++ (e ++ d)))) : p ∈ e ++ (a ++ (b ++ (c ++ d))) := by
  simp only [List.mem_append] at h ⊢
  rcases h with h | h | h | h | h <;> simp [h]
inductive Mid (xs l : Led) (p q : Addr × Obj) (M : Led) : Prop
  | mk (x : ∀ p ∈ xs, p ∈ M) (hp : p ∈ M) (hq : q ∈ M) (hl : ∀ p ∈ l, p ∈ M) (el : ∀ r ∈ M, r ∈ xs ∨ r = p ∨ r = q ∨ r ∈ l)
theorem mid_ex (xs l : Led) (p q : Addr × Obj) : ∃ M, Mid xs l p q M :=
  ⟨xs ++ (p :: q :: l), fun p h => List.mem_append_left _ h, List.mem_append_right _ (.head _), List.mem_append_right _ (.tail _ (.head _)), fun p h => List.mem_append_right _ (.tail _ (.tail _ h)), fun p h => by simpa only [List.mem_append, List.mem_cons] using h⟩
theorem comp_core {s₂ : Shared} {elt iter : Expr} {x : Str} {px : Pos} {scope : Scope} {cl : List (Str × Addr)} {pos : Pos} {I : Addr} {fpI wrI : List Addr} {n : Nat} {Pv : Nat → Value → Prop} {St : Nat → Heap → Prop} {use : Option (Value → Sem Unit)} {fn : Value} {args : Value → Tok → List Value} {d : Nat}
    {Inv : Nat → List Value → Led → Led → Prop} {Xc : Value → Led → Led → Prop}
    (W : Walks prog w A I fpI wrI n Pv St) (hst : St 0 s₂.heap) (hsz : n ≤ 1000000)
    (hI : ∀ b ∈ fpI, b < s₂.heap.objs.size ∧ h₀.get? b = none ∧ b ≠ L ∧ ∀ p ∈ fp ++ fs, p.1 ≠ b) (hlive : ∀ i h, St i h → ∀ b ∈ wrI, ∃ o, h.get? b = some o) (hwI : ∀ b ∈ wrI, ∀ p ∈ xs ++ (loc ++ l), p.1 ≠ b)
    (hcell : ∀ y ∈ scope.names, y.2 ≠ .cell) (hkind : scope.kind = .function) (hx : scope.names.lookup x = some .local)
    (F : Fr h₀ L s₂.heap m) (N : News h₀ L s₂.heap (loc ++ (fp ++ (fs ++ (xs ++ l)))))
    (hA : A.frames = some (env :: outer)) (hf : env.frame = some L) (hk : env.scope.kind = .function) (Fs : TI.Frs outer fs) (hh : A.handled = none) (hr : Room A d)
    (Z : Ap fp fs (xs ++ l)) (zl : ∀ p ∈ fp ++ fs, ∀ q ∈ loc, q.1 ≠ p.1)
    (helt : ∀ C (i : Nat) v h tk mC Q' E', Pv i v → h.Ns C mC → mC x = some v → Fr h₀ L h m → News h₀ L h (fs ++ (xs ++ (loc ++ l))) → C ≠ L → h₀.get? C = none → (∀ tk' u, wpAny (model prog w) A (call fn (args v u)) Q' E' { s₂ with heap := h, toks := tk' }) →
      wpAny (model prog w) A (eval elt (compEnvC scope cl C env)) Q' E' { s₂ with heap := h, toks := tk })
    (h0 : Inv 0 [] fp (loc ++ l)) (hInv : ∀ i ys fp' l', Inv i ys fp' l' → fp'.map (·.1) = fp.map (·.1))
    (step : ∀ (i : Nat) v u ys fp' l', Pv i v → Inv i ys fp' l' → Does (model prog w) h₀ fn (args v u) d fp' l' (fun r fp'' l'' => Inv (i + 1) (ys ++ [r]) fp'' l'') Xc)
    (hQ : ∀ D C ys fp' l' h' tk k mC, Inv n ys fp' l' → ys.length = n → Fr h₀ L h' m → News h₀ L h' ((D, listOf ys.toArray k) :: (fp' ++ (fs ++ (xs ++ l')))) → Ap fp' fs (xs ++ l') → (∀ p ∈ fp' ++ (fs ++ (xs ++ l')), p.1 ≠ D) → Gro xs (loc ++ l) l' →
      h'.Ns C mC → C ≠ L → C ≠ D → (∀ p ∈ fp' ++ (fs ++ (xs ++ l')), p.1 ≠ C) → h₀.get? C = none → compPost (model prog w) A E use Q (.ref D) C (.ok .next) { s₂ with heap := h', toks := tk })
    (hE : ∀ e C fp' oL' fs' l' h' tk, Xc C fp' l' → FlyG h₀ (env :: outer) e C h' fp' ((L, oL') :: fs') (xs ++ l') → h'.Ns L m → h₀.objs.size ≤ L → TI.SameUp fs fs' → Gro xs (loc ++ l) l' → E (.ref e) { s₂ with heap := h', toks := tk }) :
    wpAny (model prog w) A (newList []) (fun acc s₃ => wpAny (model prog w) A (newFunctionEnv scope env.globals cl [] env.qual none .none (some env)) (fun cenv s₄ =>
      codeAny (model prog w) A (.compStart (.ListComp elt [⟨.Name x px, iter, [], 0⟩] scope pos) 0 (.ref I) acc { cenv with scope := relabel scope env }) (compPost (model prog w) A E use Q acc cenv.locals) s₄) E s₃) E s₂ := by
  refine wpAny_newObj_type (wpAny_newFunctionEnv hcell (by intro y hy; simp at hy) (fun h₁ hns₁ hsb₁ => ?_) hkind)
  dsimp only at hns₁ hsb₁ ⊢
  generalize hH2 : s₂.heap.push { cls := .type "list", dict := none, data := .seq ([] : List Value).toArray } = H2 at hns₁ hsb₁ ⊢
  have hC : H2.objs.size = s₂.heap.objs.size + 1 := by rw [← hH2, Heap.size_push]
  have hDC : s₂.heap.objs.size ≠ H2.objs.size := by rw [hC]; exact Nat.ne_of_lt (Nat.lt_succ_self _)
  have below : ∀ b, b < s₂.heap.objs.size → b ≠ H2.objs.size ∧ b ≠ s₂.heap.objs.size := fun b hb => ⟨by rw [hC]; exact Nat.ne_of_lt (Nat.lt_succ_of_lt hb), Nat.ne_of_lt hb⟩
  have old : ∀ b o, s₂.heap.get? b = some o → h₁.get? b = some o := fun b o e => hsb₁.extBut b o (below b (Heap.lt_size e)).1 (Heap.get?_push_of_some _ (hH2 ▸ Heap.get?_push_of_some _ e))
  have hacc : h₁.PlainList s₂.heap.objs.size #[] := ⟨_, hsb₁.extBut _ _ hDC (Heap.get?_push_of_some _ (hH2 ▸ Heap.get?_push_size _ rfl))⟩
  have hst₁ : St 0 h₁ := W.frame _ _ _ hst fun b ω o e => old b o e
  have n0 : ∀ a, s₂.heap.objs.size ≤ a → h₀.get? a = none := fun a ha => by
    cases e : h₀.get? a with
    | none => rfl
    | some o' => exact absurd (Heap.lt_size (F.keep _ _ e)) (Nat.not_lt.mpr ha)
  have hLlt : L < s₂.heap.objs.size := F.ns.lt
  have hD0 := n0 _ (Nat.le_refl s₂.heap.objs.size)
  have hC0 : h₀.get? H2.objs.size = none := n0 _ (by rw [hC]; exact Nat.le_succ _)
  generalize hDe : s₂.heap.objs.size = D at *
  generalize hCe : H2.objs.size = C at *
  have loop : codeAny (model prog w) A (.compLoop (.ListComp elt [⟨.Name x px, iter, [], 0⟩] scope pos) 0 (.ref I) (.ref D) (compEnvC scope cl C env)) (compPost (model prog w) A E use Q (.ref D) C) { s₂ with heap := h₁, toks := s₂.toks + ([] : List (Str × Value)).length } := by
    refine codeAny_compLoop_tests
      (LoopC h₀ L m fs xs (loc ++ l) s₂ n wrI St Inv D C)
      ?_ (n + 1) ⟨h₁, _, _, #[], fp, loc ++ l, 0, rfl, hst₁, hacc, hns₁, ⟨?_, fun b o e => old b o (F.keep b o e), F.above⟩, ?_, ?_, h0, Gro.refl _ _, ?_, rfl, Nat.zero_le _, rfl⟩
    · rintro k s' ⟨H, tk, mC, ys, fp', l', i, rfl, hst', hacc', hnC, F', N', Z', hIv, hsub, hap, hys, hi, rfl⟩
      have hDw : D ∉ wrI := fun hm => by have := (hI _ (W.sub _ hm)).1; exact Nat.lt_irrefl _ this
      have hCw : C ∉ wrI := fun hm => by have := (hI _ (W.sub _ hm)).1; rw [hC] at this; exact Nat.lt_irrefl _ (Nat.lt_of_succ_lt this)
      have hDf : D ∉ fpI := fun hm => by have := (hI _ hm).1; exact Nat.lt_irrefl _ this
      have hCf : C ∉ fpI := fun hm => by have := (hI _ hm).1; rw [hC] at this; exact Nat.lt_irrefl _ (Nat.lt_of_succ_lt this)
      have hLw : L ∉ wrI := fun hm => (hI _ (W.sub _ hm)).2.2.1 rfl
      have hLC : L ≠ C := by rw [hC]; exact Nat.ne_of_lt (Nat.lt_succ_of_lt hLlt)
      have hLD : L ≠ D := Nat.ne_of_lt hLlt
      have fr_up : ∀ {h h' : Heap}, Fr h₀ L h m → (∀ o, h.get? L = some o → h'.get? L = some o) → (∀ b o, h₀.get? b = some o → h.get? b = some o → h'.get? b = some o) → Fr h₀ L h' m := fun {h h'} F k1 k2 => by
        obtain ⟨oL, es, ep, hL, r⟩ := F.ns
        exact ⟨⟨oL, es, ep, k1 _ hL, r⟩, fun b o e => k2 b o e (F.keep b o e), F.above⟩
      by_cases hlt : i < n
      · refine W.item i _ _ _ hlt hst' fun v ha tka hPv hsta hka => ?_
        have Fa : Fr h₀ L ha m := fr_up F' (fun o e => hka _ o hLw e) (fun b o e0 e => hka b o (fun hw => by have := (hI _ (W.sub _ hw)).2.1; rw [e0] at this; cases this) e)
        refine wpAny_assign_Name (wpAny_storeName_local (lookup_relabel_local hx) (hnC.at' fun o e => hka _ o hCw e) (fun hb hnb hsb => ?_) (by simp [compEnvC, relabel, hkind]))
        have hsb' : ∀ b o, b ≠ C → ha.get? b = some o → hb.get? b = some o := fun b o hne e => hsb.extBut b o hne e
        have Fb : Fr h₀ L hb m := fr_up Fa (fun o e => hsb' _ o hLC e) (fun b o e0 e => hsb' b o (fun z => by rw [z, hC0] at e0; cases e0) e)
        have Nb : ∀ p ∈ fp' ++ (fs ++ (xs ++ l')), hb.get? p.1 = some p.2 := fun p hp => hsb' _ _ (hap p hp).2.1 (hka _ _ (hap p hp).2.2 (N' p hp).1)
        have hstb : St (i + 1) hb := W.frame _ _ _ hsta fun b hb' o e => hsb' b o (fun z => hCf (z ▸ hb')) e
        refine wpAny_tests_nil ?_
        rw [if_pos rfl]
        refine helt C i v hb _ _ _ _ hPv hnb (by simp) Fb (fun p hp => ?_) (Ne.symm hLC) hC0 fun tkb u => ?_
        · have hp' : p ∈ fp' ++ (fs ++ (xs ++ l')) := by
            rcases List.mem_append.mp hp with hp | hp
            · exact mem4.mpr (.inr (.inl hp))
            · rcases List.mem_append.mp hp with hp | hp
              · exact mem4.mpr (.inr (.inr (.inl hp)))
              · exact mem4.mpr (.inr (.inr (.inr (hsub.sub p hp))))
          exact ⟨Nb p hp', (N' p hp').2⟩
        obtain ⟨nD, hoD⟩ := hacc'
        have hDb := hsb' _ _ hDC (hka _ _ hDw hoD)
        generalize hob : ({ cls := .type "list", data := .seq ys nD } : Obj) = oD at hDb
        obtain ⟨oC, esC, epC, hoC, hdC⟩ := ns_obj hnb
        obtain ⟨M, mx, mD, mC', mI, mM⟩ := mid_ex xs (ledOf hb fpI) (D, oD) (C, oC)
        have Nx : News h₀ L hb ([] ++ (fp' ++ (fs ++ (M ++ l')))) := fun p hp => by
          rcases mem4.mp (show p ∈ fp' ++ (fs ++ (M ++ l')) from hp) with hp | hp | hp | hp
          · have hp : p ∈ fp' ++ (fs ++ (xs ++ l')) := mem4.mpr (.inl hp); exact ⟨Nb p hp, (N' p hp).2⟩
          · have hp : p ∈ fp' ++ (fs ++ (xs ++ l')) := mem4.mpr (.inr (.inl hp)); exact ⟨Nb p hp, (N' p hp).2⟩
          · rcases mM p hp with hp | rfl | rfl | hp
            · have hp : p ∈ fp' ++ (fs ++ (xs ++ l')) := mem4.mpr (.inr (.inr (.inl hp))); exact ⟨Nb p hp, (N' p hp).2⟩
            · exact ⟨hDb, Ne.symm hLD, hD0⟩
            · exact ⟨hoC, Ne.symm hLC, hC0⟩
            · have := ledOf_mem hp
              exact ⟨this.2, (hI _ this.1).2.2.1, (hI _ this.1).2.1⟩
          · have hp : p ∈ fp' ++ (fs ++ (xs ++ l')) := mem4.mpr (.inr (.inr (.inr hp))); exact ⟨Nb p hp, (N' p hp).2⟩
        have hfpa : ∀ p ∈ fp', ∃ q ∈ fp, q.1 = p.1 := fun p hp => by
          have : p.1 ∈ fp.map (·.1) := hInv _ _ _ _ hIv ▸ List.mem_map_of_mem hp
          obtain ⟨q, hq, e⟩ := List.mem_map.mp this
          exact ⟨q, hq, e⟩
        have Zx : Ap fp' fs (M ++ l') := by
          refine ⟨fun p hp q hq => ?_, Z'.apf, Z'.dist⟩
          have hpm : p ∈ fp' ++ (fs ++ (xs ++ l')) := mem4.mpr ((List.mem_append.mp hp).imp id .inl)
          rcases List.mem_append.mp hq with hq | hq
          · rcases mM q hq with hq | rfl | rfl | hq
            · exact Z'.ap p hp q (List.mem_append_left _ hq)
            · exact fun z => (hap p hpm).1 z.symm
            · exact fun z => (hap p hpm).2.1 z.symm
            · have := (hI _ (ledOf_mem hq).1).2.2.2
              intro z
              rcases List.mem_append.mp hp with hp | hp
              · obtain ⟨x, hx1, hx2⟩ := hfpa p hp
                exact this x (List.mem_append_left _ hx1) (hx2.trans z.symm)
              · exact this p (List.mem_append_right _ hp) z.symm
          · exact Z'.ap p hp q (List.mem_append_right _ hq)
        refine Does.use (step i v u _ fp' l' hPv hIv) (loc := []) Fb Nx hA hf hk Fs hh hr Zx zl_nil ?_ ?_
        · intro r fp'' l'' hc tkc hInv' Fc Nc Zc hsubc
          have hDc := (Nc (D, oD) (mem4.mpr (.inr (.inr (.inl mD))))).1
          have keepI := ledOf_keep (h := hb) (h' := hc) (bs := fpI) fun p hp => (Nc p (mem4.mpr (.inr (.inr (.inl (mI p hp)))))).1
          have hstc : St (i + 1) hc := W.frame _ _ _ hstb keepI
          have hCc := (Nc (C, oC) (mem4.mpr (.inr (.inr (.inl mC'))))).1
          have hnCc : hc.Ns C _ := ns_up hnb hoC (sl := oC.slots) hCc
          rw [← hob] at hDc
          refine wpAny_list_append_plain (items := ys) ⟨nD, hDc⟩ (fun hd hpl hsd => ?_) (by rw [sizeLine_eq]; lia)
          have hsd' : ∀ b o, b ≠ D → hc.get? b = some o → hd.get? b = some o := fun b o hne e => hsd.extBut b o hne e
          have hap' : ∀ p ∈ fp'' ++ (fs ++ (xs ++ l'')), p.1 ≠ D ∧ p.1 ≠ C ∧ p.1 ∉ wrI := by
            intro p hp
            rcases mem4.mp hp with hp | hp | hp | hp
            · have e1 : p.1 ∈ fp'.map (·.1) := by rw [hInv _ _ _ _ hIv, ← hInv _ _ _ _ hInv']; exact List.mem_map_of_mem hp
              obtain ⟨q, hq, e⟩ := List.mem_map.mp e1
              rw [← e]; exact hap q (List.mem_append_left _ hq)
            · exact hap p (mem4.mpr (.inr (.inl hp)))
            · exact hap p (mem4.mpr (.inr (.inr (.inl hp))))
            · rcases hsubc.new p hp with z | z
              · exact hap p (mem4.mpr (.inr (.inr (.inr z))))
              · refine ⟨z (D, oD) mD, z (C, oC) mC', fun hw => ?_⟩
                obtain ⟨o, ho⟩ := hlive _ _ hstb _ hw
                exact z (p.1, o) (mI _ (List.mem_filterMap.mpr ⟨p.1, W.sub _ hw, by rw [ho]; rfl⟩)) rfl
          refine ⟨n + 1 - (i + 1), by lia, hd, _, _, ys.push r, fp'', l'', i + 1, rfl, ?_, hpl, hnCc.sameBut hsd (Ne.symm hDC), ?_, ?_, ?_, ?_, ?_, hap', by simp [hys], hlt, rfl⟩
          · exact W.frame _ _ _ hstc fun b hb' o e => hsd' b o (fun z => hDf (z ▸ hb')) e
          · exact fr_up Fc (fun o e => hsd' _ o hLD e) (fun b o e0 e => hsd' b o (fun z => by rw [z, hD0] at e0; cases e0) e)
          · intro p hp
            exact ⟨hsd' _ _ (hap' p hp).1 (Nc p (mem_mid mx hp)).1, (Nc p (mem_mid mx hp)).2⟩
          · exact ⟨fun p hp q hq => Zc.ap p hp q (List.mem_append.mpr ((List.mem_append.mp hq).imp (mx q) id)), Zc.apf, Zc.dist⟩
          · rw [Array.toList_push]; exact hInv'
          · exact hsub.trans ⟨hsubc.sub, fun q hq => (hsubc.new q hq).imp id fun z x hx => z x (mx x hx)⟩
        · intro e Cx fp'' oL' fs'' l'' hc tkc hx HF hnL hL0 SU hsubc
          obtain ⟨B, a0, hfl, hB0, hBl, H3, Fs3⟩ := HF
          have HF' : Fly h₀ (env :: outer) e Cx hc fp'' ((L, oL') :: fs'') (xs ++ l'') := by
            exact ⟨B, a0, hfl, hB0, fun p hp => hBl p (List.mem_append.mpr ((List.mem_append.mp hp).imp id fun h => List.mem_append.mpr ((List.mem_append.mp h).imp (mx p) id))), ⟨H3.keep, H3.size, fun p hp => H3.at_ p (mem_mid mx hp), ⟨fun p hp q hq => H3.apart.ap p hp q (List.mem_append.mpr ((List.mem_append.mp hq).imp (mx q) id)), H3.apart.apf, H3.apart.dist⟩⟩, Fs3⟩
          have hCc := (H3.at_ (C, oC) (mem4.mpr (.inr (.inr (.inl mC'))))).1
          refine comp_passes (s := { s₂ with heap := hc, toks := tkc }) hA hf (by rfl) HF' hnL hL0 hCc ⟨esC, epC, hdC⟩ ⟨_, ns_up hnb hoC (sl := oC.slots) hCc⟩ ?_ ?_ hC0 ?_
          · intro p hp
            rcases List.mem_append.mp hp with hp | hp
            · exact fun z => H3.apart.ap p (List.mem_append_left _ hp) (C, oC) (List.mem_append_left _ mC') z.symm
            · rcases List.mem_append.mp hp with hp | hp
              · exact (hap p (mem4.mpr (.inr (.inr (.inl hp))))).2.1
              · rcases hsubc.new p hp with z | z
                · exact (hap p (mem4.mpr (.inr (.inr (.inr z))))).2.1
                · exact z (C, oC) mC'
          · intro p hp
            rcases List.mem_cons.mp hp with rfl | hp
            · exact hLC
            · obtain ⟨q, hq, e⟩ := SU.fwd p hp
              rw [e]; exact (hap q (mem4.mpr (.inr (.inl hq)))).2.1
          · intro oL2 fs2 h2 y1 y2 y3
            exact hE e Cx fp'' oL2 fs2 l'' h2 tkc hx y1 y2 hL0 (SU.trans y3) (hsub.trans ⟨hsubc.sub, fun q hq => (hsubc.new q hq).imp id fun z x hx => z x (mx x hx)⟩)
      · have hin : i = n := by lia
        subst hin
        refine W.done _ _ _ hst' fun ha tka hka => ?_
        have Fa : Fr h₀ L ha m := fr_up F' (fun o e => hka _ o hLw e) (fun b o e0 e => hka b o (fun hw => by have := (hI _ (W.sub _ hw)).2.1; rw [e0] at this; cases this) e)
        obtain ⟨nD, hoD⟩ := hacc'
        have hys' : ys = ys.toList.toArray := by simp
        refine hQ D C ys.toList fp' l' ha tka nD mC hIv (by simpa using hys) Fa (fun p hp => ?_) Z' (fun p hp => (hap p hp).1) hsub (hnC.at' fun o e => hka _ o hCw e) (Ne.symm hLC) (Ne.symm hDC) (fun p hp => (hap p hp).2.1) hC0
        rcases List.mem_cons.mp hp with rfl | hp
        · exact ⟨by rw [← hys']; exact hka _ _ hDw hoD, Ne.symm hLD, hD0⟩
        · exact ⟨hka _ _ (hap p hp).2.2 (N' p hp).1, (N' p hp).2⟩
    · obtain ⟨oL, es, ep, hL, r⟩ := F.ns
      exact ⟨oL, es, ep, old _ _ hL, r⟩
    · exact fun p hp => ⟨old _ _ (N p (mem_loc hp)).1, (N p (mem_loc hp)).2⟩
    · refine ⟨fun p hp q hq => ?_, Z.apf, Z.dist⟩
      rcases List.mem_append.mp hq with hq | hq
      · exact Z.ap p hp q (List.mem_append_left _ hq)
      · rcases List.mem_append.mp hq with hq | hq
        · exact zl p hp q hq
        · exact Z.ap p hp q (List.mem_append_right _ hq)
    · intro p hp
      have hlt := Heap.lt_size (N p (mem_loc hp)).1
      rw [hDe] at hlt
      refine ⟨(below p.1 hlt).2, (below p.1 hlt).1, fun hw => ?_⟩
      rcases List.mem_append.mp hp with hp | hp
      · exact (hI _ (W.sub _ hw)).2.2.2 p (List.mem_append_left _ hp) rfl
      · rcases List.mem_append.mp hp with hp | hp
        · exact (hI _ (W.sub _ hw)).2.2.2 p (List.mem_append_right _ hp) rfl
        · exact hwI _ hw p hp rfl
  exact codeAny_compStart_list loop (W.self 0 _ _ _ hst₁ loop)
theorem comp_call {s₂ : Shared} {elt iter : Expr} {x : Str} {px : Pos} {scope : Scope} {cl : List (Str × Addr)} {pos : Pos} {I : Addr} {fpI wrI : List Addr} {n : Nat} {Pv : Nat → Value → Prop} {St : Nat → Heap → Prop} {fn : Value} {args : Value → Tok → List Value} {d : Nat}
    {Inv : Nat → List Value → Led → Led → Prop} {Xc : Value → Led → Led → Prop}
    (W : Walks prog w A I fpI wrI n Pv St) (hst : St 0 s₂.heap) (hsz : n ≤ 1000000)
    (hI : ∀ b ∈ fpI, b < s₂.heap.objs.size ∧ h₀.get? b = none ∧ b ≠ L ∧ ∀ p ∈ fp ++ fs, p.1 ≠ b) (hlive : ∀ i h, St i h → ∀ b ∈ wrI, ∃ o, h.get? b = some o) (hwI : ∀ b ∈ wrI, ∀ p ∈ xs ++ (loc ++ l), p.1 ≠ b)
    (hcell : ∀ y ∈ scope.names, y.2 ≠ .cell) (hkind : scope.kind = .function) (hx : scope.names.lookup x = some .local)
    (F : Fr h₀ L s₂.heap m) (N : News h₀ L s₂.heap (loc ++ (fp ++ (fs ++ (xs ++ l)))))
    (hA : A.frames = some (env :: outer)) (hf : env.frame = some L) (hk : env.scope.kind = .function) (Fs : TI.Frs outer fs) (hh : A.handled = none) (hr : Room A d)
    (Z : Ap fp fs (xs ++ l)) (zl : ∀ p ∈ fp ++ fs, ∀ q ∈ loc, q.1 ≠ p.1)
    (helt : ∀ C (i : Nat) v h tk mC Q' E', Pv i v → h.Ns C mC → mC x = some v → Fr h₀ L h m → News h₀ L h (fs ++ (xs ++ (loc ++ l))) → C ≠ L → h₀.get? C = none → (∀ tk' u, wpAny (model prog w) A (call fn (args v u)) Q' E' { s₂ with heap := h, toks := tk' }) →
      wpAny (model prog w) A (eval elt (compEnvC scope cl C env)) Q' E' { s₂ with heap := h, toks := tk })
    (h0 : Inv 0 [] fp (loc ++ l)) (hInv : ∀ i ys fp' l', Inv i ys fp' l' → fp'.map (·.1) = fp.map (·.1))
    (step : ∀ (i : Nat) v u ys fp' l', Pv i v → Inv i ys fp' l' → Does (model prog w) h₀ fn (args v u) d fp' l' (fun r fp'' l'' => Inv (i + 1) (ys ++ [r]) fp'' l'') Xc)
    (hQ : ∀ D ys fp' l' h' tk k, Inv n ys fp' l' → ys.length = n → Fr h₀ L h' m → News h₀ L h' ((D, listOf ys.toArray k) :: (fp' ++ (fs ++ (xs ++ l')))) → Ap fp' fs (xs ++ l') → (∀ p ∈ fp' ++ (fs ++ (xs ++ l')), p.1 ≠ D) → Gro xs (loc ++ l) l' → Q (.ref D) { s₂ with heap := h', toks := tk })
    (hE : ∀ e C fp' oL' fs' l' h' tk, Xc C fp' l' → FlyG h₀ (env :: outer) e C h' fp' ((L, oL') :: fs') (xs ++ l') → h'.Ns L m → h₀.objs.size ≤ L → TI.SameUp fs fs' → Gro xs (loc ++ l) l' → E (.ref e) { s₂ with heap := h', toks := tk }) :
    wpAny (model prog w) A (newList []) (fun acc s₃ => wpAny (model prog w) A (newFunctionEnv scope env.globals cl [] env.qual none .none (some env)) (fun cenv s₄ =>
      codeAny (model prog w) A (.compStart (.ListComp elt [⟨.Name x px, iter, [], 0⟩] scope pos) 0 (.ref I) acc { cenv with scope := relabel scope env }) (compPost (model prog w) A E none Q acc cenv.locals) s₄) E s₃) E s₂ := by
  refine comp_core W hst hsz hI hlive hwI hcell hkind hx F N hA hf hk Fs hh hr Z zl helt h0 hInv step ?_ hE
  intro D C ys fp' l' h' tk k mC a1 a2 F' N' Z' a3 a4 hnC hCL hCD a5 hC0
  refine ⟨mC, hnC, fun h3 hs3 => ?_⟩
  have hs3' : ∀ b o, b ≠ C → h'.get? b = some o → h3.get? b = some o := fun b o hne e => hs3.extBut b o hne e
  refine hQ D ys fp' l' h3 tk k a1 a2 (F'.change hs3 hCL hC0) (fun p hp => ?_) Z' a3 a4
  refine ⟨hs3' _ _ ?_ (N' p hp).1, (N' p hp).2⟩
  rcases List.mem_cons.mp hp with rfl | hp
  · exact Ne.symm hCD
  · exact a5 p hp
theorem comp_call_set {s₂ : Shared} {elt iter : Expr} {x : Str} {px : Pos} {scope : Scope} {cl : List (Str × Addr)} {pos : Pos} {I : Addr} {fpI wrI : List Addr} {n : Nat} {Pv : Nat → Value → Prop} {St : Nat → Heap → Prop} {y : Str} {py : Pos} {fn : Value} {args : Value → Tok → List Value} {d : Nat}
    {Inv : Nat → List Value → Led → Led → Prop} {Xc : Value → Led → Led → Prop}
    (W : Walks prog w A I fpI wrI n Pv St) (hst : St 0 s₂.heap) (hsz : n ≤ 1000000)
    (hI : ∀ b ∈ fpI, b < s₂.heap.objs.size ∧ h₀.get? b = none ∧ b ≠ L ∧ ∀ p ∈ fp ++ fs, p.1 ≠ b) (hlive : ∀ i h, St i h → ∀ b ∈ wrI, ∃ o, h.get? b = some o) (hwI : ∀ b ∈ wrI, ∀ p ∈ xs ++ (loc ++ l), p.1 ≠ b)
    (hcell : ∀ y ∈ scope.names, y.2 ≠ .cell) (hkind : scope.kind = .function) (hx : scope.names.lookup x = some .local)
    (F : Fr h₀ L s₂.heap m) (N : News h₀ L s₂.heap (loc ++ (fp ++ (fs ++ (xs ++ l)))))
    (hA : A.frames = some (env :: outer)) (hf : env.frame = some L) (hk : env.scope.kind = .function) (Fs : TI.Frs outer fs) (hh : A.handled = none) (hr : Room A d)
    (Z : Ap fp fs (xs ++ l)) (zl : ∀ p ∈ fp ++ fs, ∀ q ∈ loc, q.1 ≠ p.1)
    (helt : ∀ C (i : Nat) v h tk mC Q' E', Pv i v → h.Ns C mC → mC x = some v → Fr h₀ L h m → News h₀ L h (fs ++ (xs ++ (loc ++ l))) → C ≠ L → h₀.get? C = none → (∀ tk' u, wpAny (model prog w) A (call fn (args v u)) Q' E' { s₂ with heap := h, toks := tk' }) →
      wpAny (model prog w) A (eval elt (compEnvC scope cl C env)) Q' E' { s₂ with heap := h, toks := tk })
    (h0 : Inv 0 [] fp (loc ++ l)) (hInv : ∀ i ys fp' l', Inv i ys fp' l' → fp'.map (·.1) = fp.map (·.1))
    (step : ∀ (i : Nat) v u ys fp' l', Pv i v → Inv i ys fp' l' → Does (model prog w) h₀ fn (args v u) d fp' l' (fun r fp'' l'' => Inv (i + 1) (ys ++ [r]) fp'' l'') Xc)
    (hy : env.kindOf y = some .local) (hp : (env.scope.kind == .class || (env.scope.kind == .module && env.locals != env.globals)) = false) (hL : env.locals = L)
    (hQ : ∀ D ys fp' l' h' tk k, Inv n ys fp' l' → ys.length = n → Fr h₀ L h' (fun z => if z = y then some (.ref D) else m z) → News h₀ L h' ((D, listOf ys.toArray k) :: (fp' ++ (fs ++ (xs ++ l')))) → Ap fp' fs (xs ++ l') → (∀ p ∈ fp' ++ (fs ++ (xs ++ l')), p.1 ≠ D) → Gro xs (loc ++ l) l' → Q .none { s₂ with heap := h', toks := tk })
    (hE : ∀ e C fp' oL' fs' l' h' tk, Xc C fp' l' → FlyG h₀ (env :: outer) e C h' fp' ((L, oL') :: fs') (xs ++ l') → h'.Ns L m → h₀.objs.size ≤ L → TI.SameUp fs fs' → Gro xs (loc ++ l) l' → E (.ref e) { s₂ with heap := h', toks := tk }) :
    wpAny (model prog w) A (newList []) (fun acc s₃ => wpAny (model prog w) A (newFunctionEnv scope env.globals cl [] env.qual none .none (some env)) (fun cenv s₄ =>
      codeAny (model prog w) A (.compStart (.ListComp elt [⟨.Name x px, iter, [], 0⟩] scope pos) 0 (.ref I) acc { cenv with scope := relabel scope env }) (compPost (model prog w) A E (some (assign (.Name y py) env)) Q acc cenv.locals) s₄) E s₃) E s₂ := by
  refine comp_core W hst hsz hI hlive hwI hcell hkind hx F N hA hf hk Fs hh hr Z zl helt h0 hInv step ?_ hE
  intro D C ys fp' l' h' tk k mC a1 a2 F' N' Z' a3 a4 hnC hCL hCD a5 hC0
  subst hL
  show wpAny _ _ (assign (.Name y py) env (.ref D)) _ _ _
  refine wpAny_assign_Name (wpAny_storeName_local hy F'.ns (fun h2 hn2 hs2 => ?_) hp)
  replace hs2 : Heap.SameBut env.locals h' h2 := hs2
  refine ⟨mC, hnC.sameBut hs2 hCL, fun h3 hs3 => ?_⟩
  have hs3' : ∀ b o, b ≠ C → h2.get? b = some o → h3.get? b = some o := fun b o hne e => hs3.extBut b o hne e
  have F2 := F'.set hn2 hs2
  have N2 := N'.set hs2
  refine hQ D ys fp' l' h3 _ k a1 a2 (F2.change hs3 hCL hC0) (fun p hp => ?_) Z' a3 a4
  refine ⟨hs3' _ _ ?_ (N2 p hp).1, (N2 p hp).2⟩
  rcases List.mem_cons.mp hp with rfl | hp
  · exact Ne.symm hCD
  · exact a5 p hp
end
end
section --M7
open PySem PySem.W PyProof.Rows PySem.Calls PySem.Spec
open Builtin Builtin.Str
set_option maxHeartbeats 1000000
theorem Draws.tuple {prog : Program} {w : World} {A : Around} (hh : A.handled = none) (it t : Addr) (hne : t ≠ it) (items : Array Value) :
    Draws prog w A it [it, t] items.size (fun i v => items[i]? = some v) (fun i h => h.IsTupleIter it t i ∧ h.IsTuple t items) where
  live := fun ω ω st => by obtain ⟨o, ho, _⟩ := st.1; exact ⟨o, ho⟩
  frame := fun ω ω ω st hk => ⟨st.1.at fun o e => hk it (by simp) o e, st.2.at fun o e => hk t (by simp) o e⟩
  item := fun i s Q E hi st hQ => by
    obtain ⟨hit, ht⟩ := st
    obtain ⟨o, ho, hc, hd⟩ := id hit
    obtain ⟨ol, hol, _, nl, hdl⟩ := id ht
    have hx : items[i]? = some items[i] := by simp [hi]
    unfold Builtin.SmallTypes.nextOf
    refine wpAny_bind (wpAny_callSpecial?_slot (name := Str.ofString "__next__") hit.typeIs F.slot_tuple_iterator_next
      (wpAny_call_entry F.slot_tuple_iterator_next hit.typeIs F.entry_tuple_iterator_next ?_ (F.args_tuple_iterator_next_1 _)))
    show wpAny _ _ (field (.ref it) 0 >>= _) _ _ s
    refine wpAny_bind (wpAny_field ho hd (x := .ref t) rfl ?_)
    show wpAny _ _ (if (Value.ref t == Value.none) = true then _ else _) _ _ s
    rw [if_neg (show ¬ ((Value.ref t == Value.none) = true) from Bool.false_ne_true)]
    show wpAny _ _ (field (.ref it) 1 >>= _) _ _ s
    refine wpAny_bind (wpAny_field ho hd (x := .int i 0) rfl ?_)
    show wpAny _ _ (seqItems? (.ref t) >>= _) _ _ s
    refine wpAny_bind (wpAny_seqItems hol hdl ?_)
    simp only [Int.toNat_natCast, hx]
    refine wpAny_bind (wpAny_setField ho hd (by simp) (wpAny_pure ⟨_, rfl, wpAny_pure (hQ _ _ s.toks hx ⟨?_, ht.extBut (Heap.SameBut.update ..).extBut hne⟩ (Heap.SameBut.update ..))⟩))
    exact ⟨_, Heap.get?_update_self _ ho (Obj.isFreed_of_fields (Obj.data_mapFields hd _)), (Obj.cls_mapFields ..).trans hc, by
      rw [Obj.data_mapFields hd]; simp [rawInt]⟩
  done := fun s Q E st hE => by
    obtain ⟨hit, ht⟩ := st
    obtain ⟨o, ho, hc, hd⟩ := id hit
    obtain ⟨ol, hol, _, nl, hdl⟩ := id ht
    have hx : items[items.size]? = none := by simp
    unfold Builtin.SmallTypes.nextOf
    refine wpAny_bind (wpAny_callSpecial?_slot (name := Str.ofString "__next__") hit.typeIs F.slot_tuple_iterator_next
      (wpAny_call_entry F.slot_tuple_iterator_next hit.typeIs F.entry_tuple_iterator_next ?_ (F.args_tuple_iterator_next_1 _)))
    show wpAny _ _ (field (.ref it) 0 >>= _) _ _ s
    refine wpAny_bind (wpAny_field ho hd (x := .ref t) rfl ?_)
    show wpAny _ _ (if (Value.ref t == Value.none) = true then _ else _) _ _ s
    rw [if_neg (show ¬ ((Value.ref t == Value.none) = true) from Bool.false_ne_true)]
    show wpAny _ _ (field (.ref it) 1 >>= _) _ _ s
    refine wpAny_bind (wpAny_field ho hd (x := .int items.size 0) rfl ?_)
    show wpAny _ _ (seqItems? (.ref t) >>= _) _ _ s
    refine wpAny_bind (wpAny_seqItems hol hdl ?_)
    simp only [Int.toNat_natCast, hx]
    refine wpAny_bind (wpAny_rule (wpAny_bind (wpAny_setField ho hd (by simp) ?_)))
    show wpAny _ _ (newExc (.type "StopIteration") [] >>= _) _ _ _
    refine wpAny_bind ?_
    simp only [newExc, newTuple]
    refine wpAny_bind (wpAny_newObj_type ?_ (by size_fits))
    refine wpAny_bind (m := firstArgMember _ _) (wpAny_of_eq (a := Value.none) (by first | rfl | (simp only [firstArgMember]; rfl)) ?_)
    refine wpAny_newObj_type ?_ (by size_fits)
    simp only [raiseNew]
    refine wpAny_bind (wpAny_handled ?_)
    first | rw [show A.in1.handled = none from hh] | rw [hh]
    refine wpAny_bind (wpAny_pure (wpAny_throw ?_))
    exact hE _ _ (((Heap.SameBut.update ..).extBut.push _).push _) ⟨_, Heap.get?_push_size _ rfl, rfl⟩
structure ZipD (z TI TO i1 i2 : Addr) (f1 f2 : List Addr) : Prop where
  TIz : TI ≠ z
  TOz : TO ≠ z
  TITO : TI ≠ TO
  TIi1 : TI ≠ i1
  TIi2 : TI ≠ i2
  m1 : i1 ∈ f1
  m2 : i2 ∈ f2
  z1 : z ∉ f1
  z2 : z ∉ f2
  t1 : TO ∉ f1
  t2 : TO ∉ f2
  i12 : i1 ∉ f2
  i21 : i2 ∉ f1
theorem ZipD.i1z {z TI TO i1 i2 : Addr} {f1 f2 : List Addr} (D : ZipD z TI TO i1 i2 f1 f2) : i1 ≠ z := fun e => D.z1 (e ▸ D.m1)
theorem ZipD.i2z {z TI TO i1 i2 : Addr} {f1 f2 : List Addr} (D : ZipD z TI TO i1 i2 f1 f2) : i2 ≠ z := fun e => D.z2 (e ▸ D.m2)
theorem ZipD.i1t {z TI TO i1 i2 : Addr} {f1 f2 : List Addr} (D : ZipD z TI TO i1 i2 f1 f2) : i1 ≠ TO := fun e => D.t1 (e ▸ D.m1)
theorem ZipD.i2t {z TI TO i1 i2 : Addr} {f1 f2 : List Addr} (D : ZipD z TI TO i1 i2 f1 f2) : i2 ≠ TO := fun e => D.t2 (e ▸ D.m2)
section
variable {prog : Program} {w : World} {A : Around} {E : Value → Shared → Prop} {s : Shared} {z TI TO i1 i2 : Addr} {f1 f2 : List Addr} {n1 n2 : Nat} {P1 P2 : Nat → Value → Prop} {S1 S2 : Nat → Heap → Prop}
theorem zipD_item {k : Nat} {a b : Value} {Q : Value → Shared → Prop} (D : ZipD z TI TO i1 i2 f1 f2) (D1 : Draws prog w A i1 f1 n1 P1 S1) (D2 : Draws prog w A i2 f2 n2 P2 S2)
    (hz : IsZip s.heap z TI TO .none) (hTI : IsPair s.heap TI (.ref i1) (.ref i2)) (hTO : IsPair s.heap TO a b) (st1 : S1 k s.heap) (st2 : S2 k s.heap) (h1 : k < n1) (h2 : k < n2)
    (hQ : ∀ h' tk x y, P1 k x → P2 k y → IsZip h' z TI TO (rawInt s.heap.objs.size) → IsPair h' TO x y → S1 (k + 1) h' → S2 (k + 1) h' → IsPair h' s.heap.objs.size x y → h'.objs.size = s.heap.objs.size + 1 →
      (∀ c o, c ≠ z → c ≠ TO → c ≠ i1 → c ≠ i2 → s.heap.get? c = some o → h'.get? c = some o) → Q (.ref s.heap.objs.size) { s with heap := h', toks := tk }) :
    wpAny (model prog w) A (Builtin.«zip.__next__» ⟨[.ref z], []⟩) (fun fin s' => ∃ v, fin = .done (.ret v) ∧ Q v s') E s := by
  have n1z : ∀ {b}, b ∈ f1 → b ≠ z := fun h e => D.z1 (e ▸ h)
  have n2z : ∀ {b}, b ∈ f2 → b ≠ z := fun h e => D.z2 (e ▸ h)
  have n1t : ∀ {b}, b ∈ f1 → b ≠ TO := fun h e => D.t1 (e ▸ h)
  have n2t : ∀ {b}, b ∈ f2 → b ≠ TO := fun h e => D.t2 (e ▸ h)
  have n21 : ∀ {b}, b ∈ f2 → b ≠ i1 := fun h e => D.i12 (e ▸ h)
  have n12 : ∀ {b}, b ∈ f1 → b ≠ i2 := fun h e => D.i21 (e ▸ h)
  show wpAny _ _ (field (.ref z) 2 >>= _) _ _ _
  refine wpAny_bind (wpAny_field hz rfl (x := .bool false) rfl ?_)
  show wpAny _ _ (field (.ref z) 3 >>= _) _ _ _
  refine wpAny_bind (wpAny_field hz rfl (x := .ref TI) rfl ?_)
  refine wpAny_bind (wpAny_seqItems hTI rfl ?_)
  show wpAny _ _ (Builtin.SmallTypes.ownedTupleIsFree (.ref z) >>= _) _ _ _
  refine wpAny_bind ?_
  unfold Builtin.SmallTypes.ownedTupleIsFree
  refine wpAny_bind (wpAny_field hz rfl (x := .none) rfl (wpAny_pure ?_))
  simp only [if_true]
  refine wpAny_bind (wpAny_rule ?_)
  refine wpAny_bind (wpAny_field hz rfl (x := .ref TO) rfl ?_)
  refine wpAny_bind (wpAny_setField_rec hz (by simp) fun h₁ hz₁ hs₁ => ?_)
  replace hz₁ : IsZip h₁ z TI TO .ellipsis := hz₁
  refine wpAny_bind ?_
  simp only [List.zipIdx_cons, List.zipIdx_nil, List.forIn_cons, List.forIn_nil]
  refine wpAny_bind (wpAny_bind (wpAny_onRaise ?_))
  show wpAny _ _ (Builtin.SmallTypes.nextOf (.ref i1) >>= _) _ _ _
  refine wpAny_bind (D1.item k _ _ _ h1 (D1.frame _ _ _ st1 fun b hb o e => hs₁.extBut b o (n1z hb) e) fun x h₂ tk₂ hx h1₂ hs₂ => wpAny_pure ?_)
  have hTO₂ : IsPair h₂ TO a b := hs₂.extBut _ _ D.i1t.symm (hs₁.extBut _ _ D.TOz hTO)
  refine wpAny_bind (wpAny_seqItems hTO₂ rfl ?_)
  refine wpAny_bind (wpAny_updateSeq_pair hTO₂ fun h₃ hTO₃ hs₃ => ?_)
  replace hTO₃ : IsPair h₃ TO x b := hTO₃
  refine wpAny_bind (wpAny_letGo (wpAny_pure ?_))
  refine wpAny_bind (wpAny_bind (wpAny_onRaise ?_))
  show wpAny _ _ (Builtin.SmallTypes.nextOf (.ref i2) >>= _) _ _ _
  refine wpAny_bind (D2.item k _ _ _ h2 (D2.frame _ _ _ st2 fun b hb o e => hs₃.extBut b o (n2t hb) (hs₂.extBut b o (n21 hb) (hs₁.extBut b o (n2z hb) e))) fun y h₄ tk₄ hy h2₄ hs₄ => wpAny_pure ?_)
  have hTO₄ : IsPair h₄ TO x b := hs₄.extBut _ _ D.i2t.symm hTO₃
  refine wpAny_bind (wpAny_seqItems hTO₄ rfl ?_)
  refine wpAny_bind (wpAny_updateSeq_pair hTO₄ fun h₅ hTO₅ hs₅ => ?_)
  replace hTO₅ : IsPair h₅ TO x y := hTO₅
  refine wpAny_bind (wpAny_letGo (wpAny_pure (wpAny_pure ?_)))
  refine wpAny_bind (wpAny_seqItems hTO₅ rfl ?_)
  refine wpAny_bind (wpAny_newTuple ?_)
  have hsz : h₅.objs.size = s.heap.objs.size := by rw [hs₅.1, hs₄.1, hs₃.1, hs₂.1, hs₁.1]
  have hz₅ : IsZip h₅ z TI TO .ellipsis := hs₅.extBut _ _ D.TOz.symm (hs₄.extBut _ _ D.i2z.symm (hs₃.extBut _ _ D.TOz.symm (hs₂.extBut _ _ D.i1z.symm hz₁)))
  have hk₅ : ∀ c o, c ≠ z → c ≠ TO → c ≠ i1 → c ≠ i2 → s.heap.get? c = some o → h₅.get? c = some o := fun c o c1 c2 c3 c4 e =>
    hs₅.extBut _ _ c2 (hs₄.extBut _ _ c4 (hs₃.extBut _ _ c2 (hs₂.extBut _ _ c3 (hs₁.extBut _ _ c1 e))))
  have h1₅ : S1 (k + 1) h₅ := D1.frame _ _ _ h1₂ fun b hb o e => hs₅.extBut b o (n1t hb) (hs₄.extBut b o (n12 hb) (hs₃.extBut b o (n1t hb) e))
  have h2₅ : S2 (k + 1) h₅ := D2.frame _ _ _ h2₄ fun b hb o e => hs₅.extBut b o (n2t hb) e
  have hzlt : z < h₅.objs.size := Heap.lt_size hz₅
  show wpAny _ _ (Builtin.SmallTypes.ownedTupleHandOut (.ref z) (.ref h₅.objs.size) >>= _) _ _ _
  refine wpAny_bind ?_
  unfold Builtin.SmallTypes.ownedTupleHandOut
  have hz₆ : IsZip (h₅.push { cls := .type "tuple", data := .seq #[x, y] }) z TI TO .ellipsis := Heap.get?_push_of_some _ hz₅
  refine wpAny_bind (wpAny_setField_rec hz₆ (by simp) fun h₇ hz₇ hs₇ => ?_)
  replace hz₇ : IsZip h₇ z TI TO (rawInt h₅.objs.size) := hz₇
  refine wpAny_setField_rec hz₇ (by simp) fun h₈ hz₈ hs₈ => ?_
  replace hz₈ : IsZip h₈ z TI TO (rawInt h₅.objs.size) := hz₈
  have up : ∀ c o, c ≠ z → h₅.get? c = some o → h₈.get? c = some o := fun c o c1 e => hs₈.extBut _ _ c1 (hs₇.extBut _ _ c1 (Heap.get?_push_of_some _ e))
  have hT₈ : IsPair h₈ h₅.objs.size x y := hs₈.extBut _ _ (Nat.ne_of_gt hzlt) (hs₇.extBut _ _ (Nat.ne_of_gt hzlt) (Heap.get?_push_size _ rfl))
  have hz8 : h₈.objs.size = h₅.objs.size + 1 := by rw [hs₈.1, hs₇.1, Heap.size_push]
  rw [hsz] at hz₈ hT₈ hz8
  refine wpAny_pure ⟨_, rfl, ?_⟩
  show Q (.ref h₅.objs.size) _
  rw [hsz]
  exact hQ h₈ tk₄ x y hx hy hz₈ (up _ _ D.TOz hTO₅) (D1.frame _ _ _ h1₅ fun b hb o e => up b o (n1z hb) e) (D2.frame _ _ _ h2₅ fun b hb o e => up b o (n2z hb) e) hT₈ hz8 fun c o c1 c2 c3 c4 e => up c o c1 (hk₅ c o c1 c2 c3 c4 e)
theorem zipD_end {n : Nat} {a b : Value} {Q : Fin → Shared → Prop} (D : ZipD z TI TO i1 i2 f1 f2) (D1 : Draws prog w A i1 f1 n P1 S1)
    (hz : IsZip s.heap z TI TO .none) (hTI : IsPair s.heap TI (.ref i1) (.ref i2)) (hTO : IsPair s.heap TO a b) (st1 : S1 n s.heap)
    (hE : ∀ h' e, (∀ c o, c ≠ z → c ≠ TO → c ≠ i1 → c ≠ i2 → s.heap.get? c = some o → h'.get? c = some o) → (∃ o, h'.get? e = some o ∧ o.cls = .type "StopIteration") → E (.ref e) { s with heap := h' }) :
    wpAny (model prog w) A (Builtin.«zip.__next__» ⟨[.ref z], []⟩) Q E s := by
  have n1z : ∀ {b}, b ∈ f1 → b ≠ z := fun h e => D.z1 (e ▸ h)
  show wpAny _ _ (field (.ref z) 2 >>= _) _ _ _
  refine wpAny_bind (wpAny_field hz rfl (x := .bool false) rfl ?_)
  show wpAny _ _ (field (.ref z) 3 >>= _) _ _ _
  refine wpAny_bind (wpAny_field hz rfl (x := .ref TI) rfl ?_)
  refine wpAny_bind (wpAny_seqItems hTI rfl ?_)
  show wpAny _ _ (Builtin.SmallTypes.ownedTupleIsFree (.ref z) >>= _) _ _ _
  refine wpAny_bind ?_
  unfold Builtin.SmallTypes.ownedTupleIsFree
  refine wpAny_bind (wpAny_field hz rfl (x := .none) rfl (wpAny_pure ?_))
  simp only [if_true]
  refine wpAny_bind (wpAny_rule ?_)
  refine wpAny_bind (wpAny_field hz rfl (x := .ref TO) rfl ?_)
  refine wpAny_bind (wpAny_setField_rec hz (by simp) fun h₁ hz₁ hs₁ => ?_)
  replace hz₁ : IsZip h₁ z TI TO .ellipsis := hz₁
  refine wpAny_bind ?_
  simp only [List.zipIdx_cons, List.zipIdx_nil, List.forIn_cons, List.forIn_nil]
  refine wpAny_bind (wpAny_bind (wpAny_onRaise ?_))
  show wpAny _ _ (Builtin.SmallTypes.nextOf (.ref i1) >>= _) _ _ _
  refine wpAny_bind (D1.done _ _ _ (D1.frame _ _ _ st1 fun b hb o e => hs₁.extBut b o (n1z hb) e) fun h₂ e hs₂ he => ?_)
  obtain ⟨oe, hoe, hce⟩ := he
  have hz₂ : IsZip h₂ z TI TO .ellipsis := hs₂ _ _ D.i1z.symm hz₁
  have hez : e ≠ z := fun x => by subst x; rw [hz₂] at hoe; cases hoe; simp at hce
  exact wpAny_setField_rec hz₂ (by simp) fun h₃ ω hs₃ => hE h₃ e (fun c o c1 ω c3 ω x => hs₃.extBut _ _ c1 (hs₂ _ _ c3 (hs₁.extBut _ _ c1 x))) ⟨oe, hs₃.extBut _ _ hez hoe, hce⟩
end
theorem WalksT.zipD {prog : Program} {w : World} {A : Around} {z TI TO i1 i2 : Addr} {f1 f2 : List Addr} {n : Nat} {P1 P2 : Nat → Value → Prop} {S1 S2 : Nat → Heap → Prop}
    (D : ZipD z TI TO i1 i2 f1 f2) (D1 : Draws prog w A.in1 i1 f1 n P1 S1) (D2 : Draws prog w A.in1 i2 f2 n P2 S2) :
    WalksT prog w A z (z :: TI :: TO :: (f1 ++ f2)) [z, TO, i1, i2] n
      (fun i vals => ∃ x y, P1 i x ∧ P2 i y ∧ vals = #[x, y])
      (fun i h => IsZip h z TI TO .none ∧ IsPair h TI (.ref i1) (.ref i2) ∧ (∃ a b, IsPair h TO a b) ∧ S1 i h ∧ S2 i h)
      (fun i T h => IsZip h z TI TO (rawInt T) ∧ IsPair h TI (.ref i1) (.ref i2) ∧ (∃ a b, IsPair h TO a b) ∧ S1 (i + 1) h ∧ S2 (i + 1) h ∧ T ≠ z ∧ T ≠ TO ∧ T ≠ i1 ∧ T ≠ i2) where
  sub := fun c hc => by
    simp only [List.mem_cons, List.not_mem_nil, or_false, List.mem_append] at hc ⊢
    rcases hc with rfl | rfl | rfl | rfl
    · exact .inl rfl
    · exact .inr (.inr (.inl rfl))
    · exact .inr (.inr (.inr (.inl D.m1)))
    · exact .inr (.inr (.inr (.inr D.m2)))
  frame := fun i h h' hst hk => by
    obtain ⟨hz, hTI, ⟨a, b, hTO⟩, h1, h2⟩ := hst
    exact ⟨hk z (by simp) _ hz, hk TI (by simp) _ hTI, ⟨a, b, hk TO (by simp) _ hTO⟩, D1.frame _ _ _ h1 fun b hb o e => hk b (by simp [hb]) o e, D2.frame _ _ _ h2 fun b hb o e => hk b (by simp [hb]) o e⟩
  item := fun i s Q E hi hst hQ => by
    obtain ⟨hz, hTI, ⟨a, b, hTO⟩, h1, h2⟩ := hst
    have hT : s.TypeIs (.ref z) "zip" := ⟨_, hz, rfl⟩
    have lt : ∀ {c o}, s.heap.get? c = some o → s.heap.objs.size ≠ c := fun e => Nat.ne_of_gt (Heap.lt_size e)
    unfold pyNext
    refine wpAny_bind (wpAny_attempt (wpAny_callSpecial?_slot (name := Str.ofString "__next__") hT F.slot_zip_next
      (wpAny_call_entry F.slot_zip_next hT F.entry_zip_next
        (zipD_item D D1 D2 hz hTI hTO h1 h2 hi hi fun h' tk x y hx hy a1 a2 a3 a4 a5 a6 hk => wpAny_pure ?_) (F.args_zip_next_1 _))))
    exact hQ s.heap.objs.size #[x, y] h' tk ⟨_, _, hx, hy, rfl⟩ (Nat.le_refl _) ⟨_, a5, rfl, _, rfl⟩
      ⟨a1, hk _ _ D.TIz D.TITO D.TIi1 D.TIi2 hTI, ⟨_, _, a2⟩, a3, a4, lt hz, lt hTO, (by obtain ⟨_, e⟩ := D1.live _ _ h1; exact lt e), (by obtain ⟨_, e⟩ := D2.live _ _ h2; exact lt e)⟩
      fun c o hc e => hk c o (fun x => hc (by simp [x])) (fun x => hc (by simp [x])) (fun x => hc (by simp [x])) (fun x => hc (by simp [x])) e
  go := fun elts k pos i T s Q E hm hQ => by
    obtain ⟨hz, hTI, ⟨a, b, hTO⟩, h1, h2, _⟩ := hm
    refine wpAny_letOwnedTupleGo_zip hz fun h' hz' hs' => hQ h' ⟨hz', hs'.extBut _ _ D.TIz hTI, ⟨a, b, hs'.extBut _ _ D.TOz hTO⟩, D1.frame _ _ _ h1 fun b hb o e => hs'.extBut b o (fun x => D.z1 (x ▸ hb)) e, D2.frame _ _ _ h2 fun b hb o e => hs'.extBut b o (fun x => D.z2 (x ▸ hb)) e⟩ fun c o hc e => hs'.extBut _ _ (fun x => hc (by simp [x])) e
  apart := fun i T h hm hT => by
    obtain ⟨_, _, _, _, _, t1, t2, t3, t4⟩ := hm
    simp at hT
    rcases hT with rfl | rfl | rfl | rfl
    · exact t1 rfl
    · exact t2 rfl
    · exact t3 rfl
    · exact t4 rfl
  done := fun s Q E hst hQ => by
    obtain ⟨hz, hTI, ⟨a, b, hTO⟩, h1, h2⟩ := hst
    have hT : s.TypeIs (.ref z) "zip" := ⟨_, hz, rfl⟩
    unfold pyNext
    refine wpAny_bind (wpAny_attempt (wpAny_callSpecial?_slot (name := Str.ofString "__next__") hT F.slot_zip_next
      (wpAny_call_entry F.slot_zip_next hT F.entry_zip_next (zipD_end D D1 hz hTI hTO h1 fun h' e hk he => ?_) (F.args_zip_next_1 _))))
    obtain ⟨o, ho, hc⟩ := he
    refine wpAny_bind (wpAny_isInstance (T := "StopIteration") (b := true) ⟨o, ho, hc⟩ isSubtype_stop ?_)
    exact wpAny_pure (hQ h' s.toks fun c o hc e => hk c o (fun x => hc (by simp [x])) (fun x => hc (by simp [x])) (fun x => hc (by simp [x])) (fun x => hc (by simp [x])) e)
  self := fun i s Q E hst hQ => wpAny_pyIter_zip hst.1 hQ
noncomputable abbrev ztH1 (h : Heap) (l1 : Addr) : Heap := h.push { cls := .type "tuple_iterator", data := .fields #[.ref l1, .int 0 0] }
noncomputable abbrev ztH2 (h : Heap) (l1 l2 : Addr) : Heap := (ztH1 h l1).push { cls := .type "list_iterator", data := .fields #[.ref l2, .int 0 0] }
noncomputable abbrev ztH3 (h : Heap) (l1 l2 : Addr) : Heap := (ztH2 h l1 l2).push { cls := .type "tuple", data := .seq #[.ref h.objs.size, .ref (ztH1 h l1).objs.size] }
noncomputable abbrev ztH4 (h : Heap) (l1 l2 : Addr) : Heap := (ztH3 h l1 l2).push { cls := .type "tuple", data := .seq #[.none, .none] }
noncomputable abbrev ztH5 (h : Heap) (l1 l2 : Addr) : Heap := (ztH4 h l1 l2).push { cls := .type "zip", data := .fields #[.none, .bool false, .bool false, .ref (ztH2 h l1 l2).objs.size, .ref (ztH3 h l1 l2).objs.size] }
theorem meets_zt_new (l1 l2 : Addr) (xs ys : Array Value) :
    Meets (Builtin.«zip.__new__» ⟨[.type "zip", .ref l1, .ref l2], []⟩) (fun ω R s => s.heap.IsTuple l1 xs ∧ s.heap.IsList l2 ys ∧
      R (.ok (.ret (.ref (ztH4 s.heap l1 l2).objs.size))) { s with heap := ztH5 s.heap l1 l2 }) :=
  .of_wp fun prog w A R s h => by
    obtain ⟨hp, g, d, tk, os⟩ := s; obtain ⟨hl1, hl2, h⟩ := h
    have hsub := sub_zip
    have hL1 : Heap.IsTuple (Shared.heap ⟨hp, g, d, tk, os⟩) l1 xs := hl1
    have hL2 : Heap.IsList (Shared.heap ⟨hp.push { cls := .type "tuple_iterator", data := .fields #[.ref l1, .int 0 0] }, g, d, tk, os⟩) l2 ys := Heap.IsList.push hl2 _
    wp_walk using wpAny_pyIter_tuple hL1, wpAny_pyIter_list hL2
    exact ⟨_, rfl, h⟩
section
variable {prog : Program} {w : World} {A : Around} {E : Value → Shared → Prop} {s : Shared}
theorem call_zip_tl {l1 l2 : Addr} {xs ys : Array Value} {Q : Value → Shared → Prop} (hl1 : s.heap.IsTuple l1 xs) (hl2 : s.heap.IsList l2 ys)
    (h : ∀ h', IsZip h' (s.heap.objs.size + 4) (s.heap.objs.size + 2) (s.heap.objs.size + 3) .none → IsPair h' (s.heap.objs.size + 2) (.ref s.heap.objs.size) (.ref (s.heap.objs.size + 1)) →
      IsPair h' (s.heap.objs.size + 3) .none .none → h'.IsTupleIter s.heap.objs.size l1 0 → h'.IsListIter (s.heap.objs.size + 1) l2 0 → h'.objs.size = s.heap.objs.size + 5 →
      (∀ c o, s.heap.get? c = some o → h'.get? c = some o) → Q (.ref (s.heap.objs.size + 4)) { s with heap := h' }) :
    wpAny (model prog w) A (call (.type "zip") [.ref l1, .ref l2]) Q E s := by
  refine callType_new F.called_zip (by decide) (F.typeCall_zip_2 _ _) (F.newCall_zip_2 _ _) (fun obj => F.args_object_init_3 obj _ _) F.entry_zip_new
    (meets_zt_new l1 l2 xs ys) ⟨hl1, hl2, ?_⟩
  have z1 : (ztH1 s.heap l1).objs.size = s.heap.objs.size + 1 := Heap.size_push ..
  have z2 : (ztH2 s.heap l1 l2).objs.size = s.heap.objs.size + 2 := by rw [Heap.size_push, z1]
  have z3 : (ztH3 s.heap l1 l2).objs.size = s.heap.objs.size + 3 := by rw [Heap.size_push, z2]
  have z4 : (ztH4 s.heap l1 l2).objs.size = s.heap.objs.size + 4 := by rw [Heap.size_push, z3]
  have z5 : (ztH5 s.heap l1 l2).objs.size = s.heap.objs.size + 5 := by rw [Heap.size_push, z4]
  have g5 : (ztH5 s.heap l1 l2).get? (ztH4 s.heap l1 l2).objs.size = some _ := Heap.get?_push_size _ rfl
  have g4 : (ztH5 s.heap l1 l2).get? (ztH3 s.heap l1 l2).objs.size = some _ := Heap.get?_push_of_some _ (Heap.get?_push_size _ rfl)
  have g3 : (ztH5 s.heap l1 l2).get? (ztH2 s.heap l1 l2).objs.size = some _ := Heap.get?_push_of_some _ (Heap.get?_push_of_some _ (Heap.get?_push_size _ rfl))
  have g2 : (ztH5 s.heap l1 l2).get? (ztH1 s.heap l1).objs.size = some _ := Heap.get?_push_of_some _ (Heap.get?_push_of_some _ (Heap.get?_push_of_some _ (Heap.get?_push_size _ rfl)))
  have g1 : (ztH5 s.heap l1 l2).get? s.heap.objs.size = some _ := Heap.get?_push_of_some _ (Heap.get?_push_of_some _ (Heap.get?_push_of_some _ (Heap.get?_push_of_some _ (Heap.get?_push_size _ rfl))))
  show _ ∧ _
  rw [z2, z3, z4] at g5
  rw [z1, z2] at g3
  rw [z3] at g4
  rw [z1] at g2
  rw [z4]
  exact ⟨⟨_, g5, rfl⟩, h _ g5 g3 g4 ⟨_, g1, rfl, rfl⟩ ⟨_, g2, rfl, rfl⟩ z5 fun c o x =>
    Heap.get?_push_of_some _ (Heap.get?_push_of_some _ (Heap.get?_push_of_some _ (Heap.get?_push_of_some _ (Heap.get?_push_of_some _ x))))⟩
end
end
section --D0
open PySem PySem.W PyProof.Rows PySem.Calls PySem.Spec PyProof.V PySem.SeqAt
set_option maxHeartbeats 2000000
noncomputable abbrev tupO (vs : List Value) : Obj := { cls := .type "tuple", data := .seq vs.toArray }
noncomputable def TupIn (l : Led) (a : Addr) (vs : List Value) : Prop := ∃ o n, (a, o) ∈ l ∧ o.cls = .type "tuple" ∧ o.data = .seq vs.toArray n
theorem TupIn.isTup {h₀ h : Heap} {L : Addr} {l news : Led} {a : Addr} {vs : List Value} (N : News h₀ L h news) (x : TupIn l a vs) (s : Sub l news) : IsTup h a vs.toArray := by obtain ⟨o, n, hm, hc, hd⟩ := x; exact ⟨o, N.get (s _ hm), hc, n, hd⟩
theorem Sub.cons {l l' : Led} {p : Addr × Obj} (s : Sub l l') : Sub l (p :: l') := fun q h => .tail _ (s q h)
theorem Sub.app {l l' x : Led} (s : Sub l l') : Sub l (x ++ l') := fun q h => List.mem_append_right _ (s q h)
end
section --M8
open PySem PySem.W PyProof.Rows PySem.Calls PySem.Spec PySem.SeqAt
theorem valueAt_cons {K : Type} [DecidableEq K] (q : K × Value) (kvs : List (K × Value)) (x : K) : valueAt (q :: kvs) x = if q.1 = x then some q.2 else valueAt kvs x := by
  unfold valueAt
  by_cases h : q.1 = x
  · rw [List.find?_cons_of_pos (by simp [h]), if_pos h]; rfl
  · rw [List.find?_cons_of_neg (by simp [h]), if_neg h]
theorem valueAt_stored {K : Type} [DecidableEq K] (kvs : List (K × Value)) (k x : K) (v : Value) : valueAt (stored kvs k v) x = if x = k then some v else valueAt kvs x := by
  have app : ∀ l : List (K × Value), (l.any fun kv => decide (kv.1 = k)) = false → valueAt (l ++ [(k, v)]) x = if x = k then some v else valueAt l x := fun l => by
    induction l with
    | nil =>
      intro _; rw [List.nil_append, valueAt_cons]
      by_cases h : k = x
      · rw [if_pos h, if_pos h.symm]
      · rw [if_neg h, if_neg fun z => h z.symm]
    | cons q r ih =>
      intro h
      rw [List.any_cons, Bool.or_eq_false_iff] at h
      have hq : q.1 ≠ k := by simpa using h.1
      rw [List.cons_append, valueAt_cons, valueAt_cons, ih h.2]
      by_cases h1 : q.1 = x
      · rw [if_pos h1, if_pos h1, if_neg (fun z => hq (h1.trans z))]
      · rw [if_neg h1, if_neg h1]
  have map : ∀ l : List (K × Value), (l.any fun kv => decide (kv.1 = k)) = true → valueAt (l.map fun kv => if kv.1 = k then (kv.1, v) else kv) x = if x = k then some v else valueAt l x := fun l => by
    have nox : x ≠ k → ∀ l : List (K × Value), valueAt (l.map fun kv => if kv.1 = k then (kv.1, v) else kv) x = valueAt l x := fun hx l => by
      induction l with
      | nil => rfl
      | cons q r ih =>
        rw [List.map_cons, valueAt_cons, valueAt_cons, ih]
        by_cases h1 : q.1 = k
        · rw [if_pos h1]; have : q.1 ≠ x := fun z => hx (z.symm.trans h1); rw [if_neg this, if_neg this]
        · rw [if_neg h1]
    intro h
    by_cases hx : x = k
    · rw [if_pos hx]
      subst hx
      induction l with
      | nil => simp at h
      | cons q r ih =>
        rw [List.map_cons, valueAt_cons]
        by_cases h1 : q.1 = x
        · simp [h1]
        · rw [if_neg h1, if_neg h1]
          rw [List.any_cons] at h
          exact ih (by simpa [h1] using h)
    · rw [if_neg hx]; exact nox hx l
  unfold stored
  by_cases h : (kvs.any fun kv => decide (kv.1 = k)) = true
  · rw [if_pos h]; exact map kvs h
  · rw [if_neg h]; exact app kvs (Bool.not_eq_true _ ▸ h)
theorem lookup_snoc {α : Type} (l : List (Str × α)) (p : Str × α) (x : Str) : (l ++ [p]).reverse.lookup x = if x = p.1 then some p.2 else l.reverse.lookup x := by
  rw [List.reverse_append, List.reverse_singleton, List.singleton_append, List.lookup_cons]
  by_cases h : x = p.1
  · rw [if_pos h]; simp [h]
  · rw [if_neg h]; rw [show (x == p.1) = false from by simpa using h]
theorem Ap.less {fp fs l l' : Led} (Z : Ap fp fs l') (s : Sub l l') : Ap fp fs l := ⟨fun p hp q hq => Z.ap p hp q (s _ hq), Z.apf, Z.dist⟩
theorem Has.less {h₀ h : Heap} {fp fs l l' : Led} (H : Has h₀ h fp fs l') (s : Sub l l') : Has h₀ h fp fs l :=
  ⟨H.keep, H.size, fun p hp => H.at_ p (by
    simp only [List.mem_append] at hp ⊢
    rcases hp with hp | hp | hp
    · exact .inl hp
    · exact .inr (.inl hp)
    · exact .inr (.inr (s _ hp))), H.apart.less s⟩
theorem zipD_at {Z pa aa : Nat} (h1 : pa < Z) (h2 : aa < Z) : ZipD (Z + 4) (Z + 2) (Z + 3) Z (Z + 1) [Z, pa] [Z + 1, aa] := by
  have n : ∀ {a b : Nat}, a ≠ b → ((a : Addr) ≠ (b : Addr)) := fun h => h
  refine ⟨n (by lia), n (by lia), n (by lia), n (by lia), n (by lia), List.mem_cons_self, List.mem_cons_self, ?_, ?_, ?_, ?_, ?_, ?_⟩ <;>
  · intro h
    simp only [List.mem_cons, List.not_mem_nil, or_false] at h
    have h' : (_ : Nat) = _ ∨ (_ : Nat) = _ := h
    lia
theorem zip_wr {Z b : Nat} (h : b ∈ [Z + 4, Z + 3, Z, Z + 1]) : Z ≤ b := by
  simp only [List.mem_cons, List.not_mem_nil, or_false] at h
  lia
theorem zip_fp {Z pa aa b : Nat} (h : b < Z) (h1 : b ≠ pa) (h2 : b ≠ aa) : b ∉ (Z + 4) :: (Z + 2) :: (Z + 3) :: ([Z, pa] ++ [Z + 1, aa]) := by
  simp only [List.mem_cons, List.mem_append, List.not_mem_nil, or_false]
  lia
section
variable {prog : Program} {w : World} {A : Around} {E : Value → Shared → Prop} {s : Shared} {h₀ : Heap} {envs : List Env} {fp fs l : Led} {Q : Value → Shared → Prop} {K : Frag}
  {name qual : Str} {params : Arguments} {body : List Stmt} {scope : Scope} {dV kV doc pm cdv ct oc : Value} {an od : Option Addr} {osl : Array (Option Value)} {f : Addr} {vals : List Value} {kw : List (Str × Value)} {binds : List (Str × Value)}
theorem m_callC (S : Has h₀ s.heap fp fs l) (X₀ : K.In h₀) (hlim : h₀.NoLimit)
    (ho : K.lookup f = some ⟨oc, od, .func (fnX name qual params body scope [] dV kV doc pm an cdv ct), osl⟩) (hcd : codeIn K cdv qual = true) (hroom : A.depth < recursionLimit)
    (hbind : BindsTo s (fnX name qual params body scope [] dV kV doc pm an cdv ct) ⟨vals, kw⟩ binds)
    (hkind : (binds.all fun y => scope.names.lookup y.1 == some .local || scope.names.lookup y.1 == some .cell) = true)
    (hnd : ((cellsFrom 0 scope.names []).map (·.1)).Nodup)
    (h : ∀ L' h₁ tk cells, Fr h₀ L' h₁ (bindL (envOfC qual scope L' f cdv).kindOf binds fun ω => none) → News h₀ L' h₁ (cells ++ (fp ++ (fs ++ l))) →
      CellsAre (bindC (envOfC qual scope L' f cdv).kindOf binds fun ω => none) (cellsFrom (L' + 1) scope.names []) cells → (∀ p ∈ fp ++ (fs ++ l), p.1 < L') →
      wpAny (model prog w) (A.deeper (envX qual scope L' f cdv (cellsFrom (L' + 1) scope.names []))) (execs body (envX qual scope L' f cdv (cellsFrom (L' + 1) scope.names [])))
        (fun fl s' => Q (match fl with | .ret v => v | _ => .none) s')
        (fun e s' => wpAny (model prog w) (A.deeper (envX qual scope L' f cdv (cellsFrom (L' + 1) scope.names []))) (leaving (envX qual scope L' f cdv (cellsFrom (L' + 1) scope.names [])) e) (fun ω s'' => E e s'') (fun e' s'' => E e' s'') s')
        { s with heap := h₁, toks := tk })
    (hco : autoParam (scope.isCoroutine = false) aR) (hgen : autoParam (scope.isGenerator = false) aR) (hk : autoParam (scope.kind = .function) aR) :
    wpAny (model prog w) A (call (.ref f) vals kw) Q E s :=
  m_enterC S hlim (X₀ _ _ ho) rfl (codeRec_of X₀ hcd) hroom hbind hkind hnd h hco hgen hk
end
theorem it_eq_sym {prog : Program} {w : World} {A : Around} {E : Value → Shared → Prop} {Q : Value → Shared → Prop} {s : Shared} {h₀ : Heap} {L : Addr} {l news : Led} {a T : Addr} {tag nm : Str} {x : Value} {t t1 t2 : Tok} (N : News h₀ L s.heap news) (h : TupIn l a [.str tag t, x]) (sb : Sub l news)
    (hT : s.heap.IsTuple T #[.str (Str.ofString "sym") t1, .str nm t2]) (hu : A.units < cLine) {b : Bool} (he : EqAt A.in1 s x (.str nm t2) b)
    (k : Q (.bool ((tag == Str.ofString "sym") && b)) s) : wpAny (model prog w) A (compareOp .Eq (.ref a) (.ref T)) Q E s := by
  refine eq_tupleAt (e := fun j => if j = 0 then (tag == Str.ofString "sym") else b) (h.isTup N sb) hT hu (fun j h1 h2 => ?_) ?_
  · match j with
    | 0 => exact EqAt.str_str _ _ _ _
    | 1 => exact he
    | j + 2 => simp at h2; lia
  · simpa [List.range_succ] using k
theorem seqIdx_at {k : Int} {n : Nat} (h1 : 0 ≤ k) (h2 : k < n) : seqIndex? k n = some k.toNat := by
  unfold seqIndex?
  dsimp only
  rw [if_neg (Int.not_lt.mpr h1), if_pos (by simp [h1, h2])]
end
section --M9
open PySem PySem.W PyProof.Rows PySem.Calls PySem.Spec PySem.SeqAt
section
variable {prog : Program} {w : World} {A : Around} {E : Value → Shared → Prop} {s : Shared} {h₀ : Heap} {L : Addr} {m : Str → Option Value} {news l : Led}
theorem slice_tup {value slice : Expr} {t : Addr} {vs : List Value} {a : Nat} {u : Tok} {Q : Value → Shared → Prop}
    (F : Fr h₀ L s.heap m) (N : News h₀ L s.heap news) (ht : TupIn l t vs) (sb : Sub l news) (h1 : 1 ≤ a) (ha : a ≤ vs.length) (hz : vs.length ≤ 64)
    (h : ∀ D h', Fr h₀ L h' m → News h₀ L h' ((D, tupO (vs.drop a)) :: news) → (∀ p ∈ news, p.1 < D) → Q (.ref D) { s with heap := h' })
    (hs : subscripted slice false (.ref t) (.ref s.heap.objs.size) = operate [.ref s.heap.objs.size, .ref t] (getItem (.ref t) (.ref s.heap.objs.size)))
    (hg : ∀ r, letTemporaryGo value (.ref t) r = pure ()) :
    wpAny (model prog w) A (subscriptTail value slice (.ref t) (.ref s.heap.objs.size)) Q E { s with heap := s.heap.push { cls := .type "slice", data := .fields #[.int a u, .none, .none] } } := by
  refine slice_tuple_from F N (ht.isTup N sb) h1 (by simpa using ha) (fun h' F' N' => ?_) hs hg (by rw [sizeLine_eq]; simp; lia)
  exact h _ h' F' (by simpa using N') fun p hp => Nat.lt_succ_of_lt (Heap.lt_size (N p hp).1)
end
theorem Walks.tupL {prog : Program} {w : World} {A : Around} (hh : A.handled = none) (I ax : Addr) (hne : ax ≠ I) (vs : List Value) :
    Walks prog w A I [I, ax] [I] vs.length (fun i v => vs[i]? = some v) (fun i h => h.IsTupleIter I ax i ∧ h.IsTuple ax vs.toArray) := by
  have := Walks.tuple (prog := prog) (w := w) hh I ax hne vs.toArray
  simpa using this
theorem Walks.listL {prog : Program} {w : World} {A : Around} (hh : A.handled = none) (I ax : Addr) (hne : ax ≠ I) (vs : List Value) :
    Walks prog w A I [I, ax] [I] vs.length (fun i v => vs[i]? = some v) (fun i h => h.IsListIter I ax i ∧ h.IsList ax vs.toArray) := by
  have := Walks.list (prog := prog) (w := w) hh I ax hne vs.toArray
  simpa using this
set_option tactic.hygienic true in
theorem assign_comp {M : Model} {A : Around} {E : Value → Shared → Prop} {s : Shared} {env : Env} {elt iter : Expr} {x y : Str} {px py : Pos} {scope : Scope} {cl : List (Str × Addr)} {pos spos : Pos} {Q : Flow → Shared → Prop}
    (hsw : swapsWith (.ListComp elt [⟨.Name x px, iter, [], 0⟩] scope pos) (some (.Name y py)) spos.line env = pure true)
    (hclos : closureFor scope env = pure cl) (hkind : scope.kind = .function) (hnames : ∀ z ∈ scope.names, z.2 = .local → scope.names.lookup z.1 = some .local)
    (h : wpAny M A (eval iter env) (fun xv s₁ => wpAny M A (pyIter xv) (fun it s₂ => wpAny M A (newList []) (fun acc s₃ => wpAny M A (newFunctionEnv scope env.globals cl [] env.qual none .none (some env)) (fun cenv s₄ =>
      codeAny M A (.compStart (.ListComp elt [⟨.Name x px, iter, [], 0⟩] scope pos) 0 it acc { cenv with scope := relabel scope env }) (compPost M A E (some (assign (.Name y py) env)) (fun ω s' => Q .next s') acc cenv.locals) s₄) E s₃) E s₂) E s₁) E s)
    (hs : ∀ x, foldedSetIterable iter env x = pure x) :
    wpAny M A (exec (.Assign [.Name y py] (.ListComp elt [⟨.Name x px, iter, [], 0⟩] scope pos) spos) env) Q E s := by
  rw [exec_Assign_Name_used _ _ _ _ hsw]
  refine wpAny_bind (wpAny_standAt (wpAny_bind ?_))
  show wpAny _ A (do let _ ← comprehension (.ListComp elt [⟨.Name x px, iter, [], 0⟩] scope pos) scope env _ (newList []) false (eval iter env) (some (assign (.Name y py) env))) _ _ s
  exact wpAny_bind (wpAny_mono (wpAny_comprehension_free (use := some (assign (.Name y py) env)) (Q := fun ω s' => Q .next s') rfl hs hclos hkind hnames h) (fun ω s' hq => wpAny_pure (wpAny_pure hq)) fun ω ω e => e)
theorem eval_comp {M : Model} {A : Around} {E : Value → Shared → Prop} {s : Shared} {env : Env} {elt iter : Expr} {x : Str} {px : Pos} {scope : Scope} {cl : List (Str × Addr)} {pos : Pos} {Q : Value → Shared → Prop}
    (hclos : closureFor scope env = pure cl) (hkind : scope.kind = .function) (hnames : ∀ z ∈ scope.names, z.2 = .local → scope.names.lookup z.1 = some .local)
    (h : wpAny M A (eval iter env) (fun xv s₁ => wpAny M A (pyIter xv) (fun it s₂ => wpAny M A (newList []) (fun acc s₃ => wpAny M A (newFunctionEnv scope env.globals cl [] env.qual none .none (some env)) (fun cenv s₄ =>
      codeAny M A (.compStart (.ListComp elt [⟨.Name x px, iter, [], 0⟩] scope pos) 0 it acc { cenv with scope := relabel scope env }) (compPost M A E none Q acc cenv.locals) s₄) E s₃) E s₂) E s₁) E s)
    (hs : ∀ x, foldedSetIterable iter env x = pure x) :
    wpAny M A (eval (.ListComp elt [⟨.Name x px, iter, [], 0⟩] scope pos) env) Q E s := by
  rw [eval_ListComp]
  exact wpAny_comprehension_free (use := none) rfl hs hclos hkind hnames h
theorem fr_new {h₀ h : Heap} {L a : Addr} {m : Str → Option Value} (F : Fr h₀ L h m) (ha : h.objs.size ≤ a) : h₀.get? a = none := by
  cases e : h₀.get? a with
  | none => rfl
  | some o' => exact absurd (Heap.lt_size (F.keep _ _ e)) (Nat.not_lt.mpr ha)
theorem len_tupN {prog : Program} {w : World} {A : Around} {E : Value → Shared → Prop} {s : Shared} {h₀ : Heap} {L : Addr} {news l : Led} {t : Addr} {vs : List Value} {n : Int} {Q : Value → Shared → Prop} (N : News h₀ L s.heap news) (ht : TupIn l t vs) (sb : Sub l news) (hz : vs.length ≤ 1000)
    (hn : (vs.length : Int) = n) (h : Q (.int n (s.toks + 1)) { s with toks := s.toks + 1 + 1 }) : wpAny (model prog w) A (call (.builtin "len") [.ref t]) Q E s :=
  len_tuple (ht.isTup N sb) (by simp only [List.size_toArray]; lia) (by rw [List.size_toArray, hn]; exact h)
end
section --M10
open PySem PySem.W PyProof.Rows PySem.Calls PySem.Spec PySem.SeqAt
set_option maxHeartbeats 1000000
section
variable {prog : Program} {w : World} {A : Around} {E : Value → Shared → Prop} {h₀ : Heap} {outer : List Env} {fp fs xs l loc : Led} {env : Env} {L : Addr} {m : Str → Option Value} {Q : Value → Shared → Prop}
theorem src_facts {s : Shared} {h₀ : Heap} {L ax : Addr} {m : Str → Option Value} {oi : Obj} {vs : Array Value} {Is : Heap → Addr → Array Value → Prop} (F : Fr h₀ L s.heap m) (N : News h₀ L s.heap (loc ++ (fp ++ (fs ++ (xs ++ l))))) (hax : ax < s.heap.objs.size ∧ h₀.get? ax = none ∧ ax ≠ L ∧ ∀ p ∈ fp ++ fs, p.1 ≠ ax) :
    Fr h₀ L (s.heap.push oi) m ∧ News h₀ L (s.heap.push oi) (loc ++ (fp ++ (fs ++ (xs ++ l)))) ∧ (∀ b ∈ [s.heap.objs.size, ax], b < (s.heap.push oi).objs.size ∧ h₀.get? b = none ∧ b ≠ L ∧ ∀ p ∈ fp ++ fs, p.1 ≠ b) ∧ (∀ b ∈ [s.heap.objs.size], ∀ p ∈ xs ++ (loc ++ l), p.1 ≠ b) := by
  have up : ∀ b o, s.heap.get? b = some o → (s.heap.push oi).get? b = some o := fun b o e => Heap.get?_push_of_some _ e
  have lt : ∀ p ∈ loc ++ (fp ++ (fs ++ (xs ++ l))), p.1 < s.heap.objs.size := fun p hp => Heap.lt_size (N p hp).1
  refine ⟨F.keeps up, N.grown up, fun b hb => ?_, fun b hb p hp => ?_⟩
  · rw [Heap.size_push]
    rcases List.mem_cons.mp hb with rfl | hb
    · refine ⟨Nat.lt_succ_self _, fr_new F (Nat.le_refl _), Nat.ne_of_gt F.ns.lt, fun p hp => Nat.ne_of_lt (lt p ?_)⟩
      simp only [List.mem_append] at hp ⊢
      rcases hp with hp | hp <;> simp [hp]
    · rw [List.mem_singleton.mp hb]; exact ⟨Nat.lt_succ_of_lt hax.1, hax.2⟩
  · rw [List.mem_singleton.mp hb]
    refine Nat.ne_of_lt (lt p ?_)
    simp only [List.mem_append] at hp ⊢
    rcases hp with hp | hp | hp <;> simp [hp]
theorem comp_tup {s₂ : Shared} {elt iter : Expr} {x : Str} {px : Pos} {scope : Scope} {cl : List (Str × Addr)} {pos : Pos} {ax : Addr} {vs : List Value} {fn : Value} {args : Value → Tok → List Value} {d : Nat}
    {Inv : Nat → List Value → Led → Led → Prop} {Xc : Value → Led → Led → Prop}
    (hsrc : s₂.heap.IsTuple ax vs.toArray) (hsz : vs.length ≤ 1000000) (hax : ax < s₂.heap.objs.size ∧ h₀.get? ax = none ∧ ax ≠ L ∧ ∀ p ∈ fp ++ fs, p.1 ≠ ax)
    (hcell : ∀ y ∈ scope.names, y.2 ≠ .cell) (hkind : scope.kind = .function) (hx : scope.names.lookup x = some .local)
    (F : Fr h₀ L s₂.heap m) (N : News h₀ L s₂.heap (loc ++ (fp ++ (fs ++ (xs ++ l)))))
    (hA : A.frames = some (env :: outer)) (hf : env.frame = some L) (hk : env.scope.kind = .function) (Fs : TI.Frs outer fs) (hh : A.handled = none) (hr : Room A d)
    (Z : Ap fp fs (xs ++ l)) (zl : ∀ p ∈ fp ++ fs, ∀ q ∈ loc, q.1 ≠ p.1)
    (helt : ∀ C (i : Nat) v h tk mC Q' E', vs[i]? = some v → h.Ns C mC → mC x = some v → Fr h₀ L h m → News h₀ L h (fs ++ (xs ++ (loc ++ l))) → C ≠ L → h₀.get? C = none → (∀ tk' u, wpAny (model prog w) A (call fn (args v u)) Q' E' { s₂ with heap := h, toks := tk' }) →
      wpAny (model prog w) A (eval elt (compEnvC scope cl C env)) Q' E' { s₂ with heap := h, toks := tk })
    (h0 : Inv 0 [] fp (loc ++ l)) (hInv : ∀ i ys fp' l', Inv i ys fp' l' → fp'.map (·.1) = fp.map (·.1))
    (step : ∀ (i : Nat) v u ys fp' l', vs[i]? = some v → Inv i ys fp' l' → Does (model prog w) h₀ fn (args v u) d fp' l' (fun r fp'' l'' => Inv (i + 1) (ys ++ [r]) fp'' l'') Xc)
    (hQ : ∀ D ys fp' l' h' tk k, Inv vs.length ys fp' l' → ys.length = vs.length → Fr h₀ L h' m → News h₀ L h' ((D, listOf ys.toArray k) :: (fp' ++ (fs ++ (xs ++ l')))) → Ap fp' fs (xs ++ l') → (∀ p ∈ fp' ++ (fs ++ (xs ++ l')), p.1 ≠ D) → Gro xs (loc ++ l) l' → Q (.ref D) { s₂ with heap := h', toks := tk })
    (hE : ∀ e C fp' oL' fs' l' h' tk, Xc C fp' l' → FlyG h₀ (env :: outer) e C h' fp' ((L, oL') :: fs') (xs ++ l') → h'.Ns L m → h₀.objs.size ≤ L → TI.SameUp fs fs' → Gro xs (loc ++ l) l' → E (.ref e) { s₂ with heap := h', toks := tk }) :
    wpAny (model prog w) A (pyIter (.ref ax)) (fun it s₂ => wpAny (model prog w) A (newList []) (fun acc s₃ => wpAny (model prog w) A (newFunctionEnv scope env.globals cl [] env.qual none .none (some env)) (fun cenv s₄ =>
      codeAny (model prog w) A (.compStart (.ListComp elt [⟨.Name x px, iter, [], 0⟩] scope pos) 0 it acc { cenv with scope := relabel scope env }) (compPost (model prog w) A E none Q acc cenv.locals) s₄) E s₃) E s₂) E s₂ := by
  obtain ⟨F', N', hI, hwI⟩ := src_facts (Is := fun ω ω ω => True) (oi := { cls := .type "tuple_iterator", data := .fields #[.ref ax, .int 0 0] }) (vs := vs.toArray) F N hax
  refine wpAny_pyIter_tuple hsrc ?_
  refine comp_call (Walks.tupL hh s₂.heap.objs.size ax (Nat.ne_of_lt hax.1) vs) ⟨⟨_, Heap.get?_push_size _ rfl, rfl, rfl⟩, hsrc.push _⟩ hsz hI (fun i h st b hb => ?_) hwI hcell hkind hx F' N' hA hf hk Fs hh hr Z zl helt h0 hInv step hQ hE
  rw [List.mem_singleton.mp hb]
  obtain ⟨o, e, _⟩ := st.1
  exact ⟨o, e⟩
theorem comp_tup_set {s₂ : Shared} {elt iter : Expr} {x : Str} {px : Pos} {scope : Scope} {cl : List (Str × Addr)} {pos : Pos} {ax : Addr} {vs : List Value} {y : Str} {py : Pos} {fn : Value} {args : Value → Tok → List Value} {d : Nat}
    {Inv : Nat → List Value → Led → Led → Prop} {Xc : Value → Led → Led → Prop}
    (hsrc : s₂.heap.IsTuple ax vs.toArray) (hsz : vs.length ≤ 1000000) (hax : ax < s₂.heap.objs.size ∧ h₀.get? ax = none ∧ ax ≠ L ∧ ∀ p ∈ fp ++ fs, p.1 ≠ ax)
    (hcell : ∀ y ∈ scope.names, y.2 ≠ .cell) (hkind : scope.kind = .function) (hx : scope.names.lookup x = some .local)
    (F : Fr h₀ L s₂.heap m) (N : News h₀ L s₂.heap (loc ++ (fp ++ (fs ++ (xs ++ l)))))
    (hA : A.frames = some (env :: outer)) (hf : env.frame = some L) (hk : env.scope.kind = .function) (Fs : TI.Frs outer fs) (hh : A.handled = none) (hr : Room A d)
    (Z : Ap fp fs (xs ++ l)) (zl : ∀ p ∈ fp ++ fs, ∀ q ∈ loc, q.1 ≠ p.1)
    (helt : ∀ C (i : Nat) v h tk mC Q' E', vs[i]? = some v → h.Ns C mC → mC x = some v → Fr h₀ L h m → News h₀ L h (fs ++ (xs ++ (loc ++ l))) → C ≠ L → h₀.get? C = none → (∀ tk' u, wpAny (model prog w) A (call fn (args v u)) Q' E' { s₂ with heap := h, toks := tk' }) →
      wpAny (model prog w) A (eval elt (compEnvC scope cl C env)) Q' E' { s₂ with heap := h, toks := tk })
    (h0 : Inv 0 [] fp (loc ++ l)) (hInv : ∀ i ys fp' l', Inv i ys fp' l' → fp'.map (·.1) = fp.map (·.1))
    (step : ∀ (i : Nat) v u ys fp' l', vs[i]? = some v → Inv i ys fp' l' → Does (model prog w) h₀ fn (args v u) d fp' l' (fun r fp'' l'' => Inv (i + 1) (ys ++ [r]) fp'' l'') Xc)
    (hy : env.kindOf y = some .local) (hp : (env.scope.kind == .class || (env.scope.kind == .module && env.locals != env.globals)) = false) (hL : env.locals = L)
    (hQ : ∀ D ys fp' l' h' tk k, Inv vs.length ys fp' l' → ys.length = vs.length → Fr h₀ L h' (fun z => if z = y then some (.ref D) else m z) → News h₀ L h' ((D, listOf ys.toArray k) :: (fp' ++ (fs ++ (xs ++ l')))) → Ap fp' fs (xs ++ l') → (∀ p ∈ fp' ++ (fs ++ (xs ++ l')), p.1 ≠ D) → Gro xs (loc ++ l) l' → Q .none { s₂ with heap := h', toks := tk })
    (hE : ∀ e C fp' oL' fs' l' h' tk, Xc C fp' l' → FlyG h₀ (env :: outer) e C h' fp' ((L, oL') :: fs') (xs ++ l') → h'.Ns L m → h₀.objs.size ≤ L → TI.SameUp fs fs' → Gro xs (loc ++ l) l' → E (.ref e) { s₂ with heap := h', toks := tk }) :
    wpAny (model prog w) A (pyIter (.ref ax)) (fun it s₂ => wpAny (model prog w) A (newList []) (fun acc s₃ => wpAny (model prog w) A (newFunctionEnv scope env.globals cl [] env.qual none .none (some env)) (fun cenv s₄ =>
      codeAny (model prog w) A (.compStart (.ListComp elt [⟨.Name x px, iter, [], 0⟩] scope pos) 0 it acc { cenv with scope := relabel scope env }) (compPost (model prog w) A E (some (assign (.Name y py) env)) Q acc cenv.locals) s₄) E s₃) E s₂) E s₂ := by
  obtain ⟨F', N', hI, hwI⟩ := src_facts (Is := fun ω ω ω => True) (oi := { cls := .type "tuple_iterator", data := .fields #[.ref ax, .int 0 0] }) (vs := vs.toArray) F N hax
  refine wpAny_pyIter_tuple hsrc ?_
  refine comp_call_set (Walks.tupL hh s₂.heap.objs.size ax (Nat.ne_of_lt hax.1) vs) ⟨⟨_, Heap.get?_push_size _ rfl, rfl, rfl⟩, hsrc.push _⟩ hsz hI (fun i h st b hb => ?_) hwI hcell hkind hx F' N' hA hf hk Fs hh hr Z zl helt h0 hInv step hy hp hL hQ hE
  rw [List.mem_singleton.mp hb]
  obtain ⟨o, e, _⟩ := st.1
  exact ⟨o, e⟩
end
end
section --M11
open PySem PySem.W PyProof.Rows PySem.Calls PySem.Spec
noncomputable def DoesS (M : Model) (h₀ : Heap) (fn : Value) (vals : List Value) (d : Nat) (fp l : Led) (P : Value → Led → Led → Prop) : Prop :=
  ∀ {A : Around} {envs : List Env} {fs xs : Led} {s : Shared} {Q : Value → Shared → Prop} {E : Value → Shared → Prop}, Ar A envs fs → Room A d → Has h₀ s.heap fp fs (xs ++ l) →
   (∀ v fp' fs' l' h' tk, P v fp' l' → Has h₀ h' fp' fs' (xs ++ l') → TI.SameUp fs fs' → Gro xs l l' → Q v { s with heap := h', toks := tk }) →
   wpAny M A (call fn vals) Q E s
section
variable {M : Model} {A : Around} {E : Value → Shared → Prop} {s : Shared} {h₀ : Heap} {outer : List Env} {fp fs xs l loc : Led} {env : Env} {L : Addr} {m : Str → Option Value} {fn : Value} {vals : List Value} {d : Nat} {Q : Value → Shared → Prop} {P : Value → Led → Led → Prop}
theorem DoesS.use (Cl : DoesS M h₀ fn vals d fp (loc ++ l) P) (F : Fr h₀ L s.heap m) (N : News h₀ L s.heap (loc ++ (fp ++ (fs ++ (xs ++ l)))))
    (hA : A.frames = some (env :: outer)) (hf : env.frame = some L) (hk : env.scope.kind = .function) (Fs : TI.Frs outer fs) (hh : A.handled = none) (hr : Room A d)
    (Z : Ap fp fs (xs ++ l)) (zl : ∀ p ∈ fp ++ fs, ∀ q ∈ loc, q.1 ≠ p.1)
    (hQ : ∀ v fp' fs' l' h' tk, P v fp' l' → Fr h₀ L h' m → News h₀ L h' (fp' ++ (fs' ++ (xs ++ l'))) → TI.SameUp fs fs' → Ap fp' fs' (xs ++ l') → Gro xs (loc ++ l) l' → Q v { s with heap := h', toks := tk }) :
    wpAny M A (call fn vals) Q E s := by
  obtain ⟨oL, es, ep, hoL, hdL⟩ := ns_obj F.ns
  have sz : h₀.objs.size ≤ s.heap.objs.size := Nat.le_trans F.above (Nat.le_of_lt F.ns.lt)
  have mem : ∀ p ∈ fp ++ (fs ++ (xs ++ (loc ++ l))), p ∈ loc ++ (fp ++ (fs ++ (xs ++ l))) := fun p hp => by
    simp only [List.mem_append] at hp ⊢
    rcases hp with hp | hp | hp | hp | hp <;> simp [hp]
  refine Cl (A := A) (envs := env :: outer) (fs := (L, oL) :: fs) (xs := xs) ⟨hA, ⟨by rw [hk]; decide, hf, ⟨es, ep, hdL⟩, Fs⟩, hh⟩ hr ⟨F.keep, sz, fun p hp => ?_, ⟨fun p hp q hq => ?_, fun p hp q hq => ?_, Z.dist⟩⟩ ?_
  · have hp' : p = (L, oL) ∨ p ∈ fp ++ (fs ++ (xs ++ (loc ++ l))) := by
      simp only [List.mem_append, List.mem_cons] at hp ⊢
      rcases hp with hp | ((hp | hp) | (hp | (hp | hp))) <;> simp [hp]
    rcases hp' with rfl | hp'
    · exact ⟨hoL, fr_none F⟩
    · exact ⟨(N p (mem p hp')).1, (N p (mem p hp')).2.2⟩
  · have hq' : q ∈ loc ∨ q ∈ xs ++ l := by
      simp only [List.mem_append] at hq ⊢
      rcases hq with hq | hq | hq <;> simp [hq]
    rcases List.mem_append.mp hp with hp | hp
    · rcases hq' with hq' | hq'
      · exact zl p (List.mem_append_left _ hp) q hq'
      · exact Z.ap p (List.mem_append_left _ hp) q hq'
    · rcases List.mem_cons.mp hp with rfl | hp
      · rcases hq' with hq' | hq'
        · exact (N q (List.mem_append_left _ hq')).2.1
        · exact (N q (List.mem_append_right _ (List.mem_append_right _ (List.mem_append_right _ hq')))).2.1
      · rcases hq' with hq' | hq'
        · exact zl p (List.mem_append_right _ hp) q hq'
        · exact Z.ap p (List.mem_append_right _ hp) q hq'
  · rcases List.mem_cons.mp hq with rfl | hq
    · exact fun e => (N p (List.mem_append_right _ (List.mem_append_left _ hp))).2.1 e.symm
    · exact Z.apf p hp q hq
  · intro v fp' fs1 l' h' tk hp H SU hs
    cases fs1 with
    | nil => exact SU.elim
    | cons q fs' =>
      obtain ⟨qa, qo⟩ := q
      obtain ⟨y1, ⟨sl, y2⟩, y3⟩ := SU
      dsimp only at y1 y2
      subst y1 y2
      have hL' := H.at_ (qa, { oL with slots := sl }) (List.mem_append_right _ (List.mem_append_left _ (List.mem_cons_self)))
      refine hQ v fp' fs' l' h' tk hp ⟨?_, H.keep, F.above⟩ (fun p hp' => ?_) y3 ⟨fun p hp' q hq => ?_, fun p hp' q hq => ?_, H.apart.dist⟩ hs
      · exact ns_up F.ns hoL hL'.1
      · have hm : p ∈ fp' ++ (((qa, { oL with slots := sl }) :: fs') ++ (xs ++ l')) := by
          simp only [List.mem_append, List.mem_cons] at hp' ⊢
          rcases hp' with hp' | hp' | hp' | hp' <;> simp [hp']
        refine ⟨(H.at_ p hm).1, ?_, (H.at_ p hm).2⟩
        rcases List.mem_append.mp hp' with hp' | hp'
        · exact fun e => H.apart.apf p hp' (qa, { oL with slots := sl }) List.mem_cons_self e.symm
        · rcases List.mem_append.mp hp' with hp' | hp'
          · obtain ⟨x, hx, ex⟩ := y3.fwd p hp'
            rw [ex]; exact (N x (List.mem_append_right _ (List.mem_append_right _ (List.mem_append_left _ hx)))).2.1
          · exact H.apart.ap (qa, { oL with slots := sl }) (List.mem_append_right _ List.mem_cons_self) p hp'
      · refine H.apart.ap p ?_ q hq
        rcases List.mem_append.mp hp' with hp' | hp'
        · exact List.mem_append_left _ hp'
        · exact List.mem_append_right _ (List.mem_cons_of_mem _ hp')
      · exact H.apart.apf p hp' q (List.mem_cons_of_mem _ hq)
end
section
variable {prog : Program} {w : World} {A : Around} {E : Value → Shared → Prop} {s : Shared} {h₀ : Heap} {outer : List Env} {fp fs l : Led} {env : Env} {L e : Addr} {m : Str → Option Value} {C c : Value} {oL : Obj} {K : Frag} {t : Expr} {b₀ : Stmt} {suite : List Stmt} {pos : Pos} {rest hs : List ExceptHandler} {nm : Option Str} {body : List Stmt} {Q : Flow → Shared → Prop}
theorem catch_look {M : Model} (hA : A.frames = some (env :: outer)) (hf : env.frame = some L) (x : Fly h₀ (env :: outer) e C s.heap fp ((L, oL) :: fs) l) (hn : s.heap.Ns L m) (hL : h₀.objs.size ≤ L)
    (k : ∀ oL' fs' h', Fly h₀ (env :: outer) e C h' fp ((L, oL') :: fs') l → h'.Ns L m → TI.SameUp fs fs' → wpAny M A (handleBy (.ref e) env hs) Q E { s with heap := h' }) :
    wpAny M A (noteFrame (.ref e) env) (fun ω s₂ => wpAny M A (setFlight (.ref e) none) (fun ω s₃ => wpAny M A (handleBy (.ref e) env hs) Q E s₃) E s₂) E s := by
  obtain ⟨B, a0, hfl, hB0, hBl, H, Fs⟩ := x
  refine wpAny_looks_onW hA hf hfl fun h4 held hs4 => ?_
  refine wpAny_landsW held fun h5 hfl5 hs5 => ?_
  have hu : s.heap.UpToSlots h5 := hs4.trans hs5
  obtain ⟨fs1, y, SU⟩ := fly_up H hB0 hBl Fs hfl5 hu (size_of_ns (Heap.UpToSlots.ns hu hn) hL)
  cases fs1 with
  | nil => exact SU.elim
  | cons q fs' =>
    obtain ⟨qa, qo⟩ := q
    obtain ⟨y1, _, y3⟩ := SU
    dsimp only at y1
    subst y1
    exact k _ fs' h5 y (Heap.UpToSlots.ns hu hn) y3
theorem fly_type {M : Model} {envs : List Env} {h : Heap} (x : Fly h₀ envs e C h fp fs l) : Looks M h (typeOf (.ref e)) C := by
  obtain ⟨B, a0, hfl, _⟩ := x
  obtain ⟨ob, hob, hc⟩ := hfl.there
  subst hc
  exact (Looks.ld hob).andThen .now
theorem fly_fr {envs : List Env} {h : Heap} (x : Fly h₀ envs e C h fp fs l) (hn : h.Ns L m) (hL : h₀.objs.size ≤ L) : Fr h₀ L h m := by
  obtain ⟨_, _, _, _, _, H, _⟩ := x
  exact ⟨hn, H.keep, hL⟩
theorem catch_pass (x : Fly h₀ (env :: outer) e C s.heap fp ((L, oL) :: fs) l) (hn : s.heap.Ns L m) (hL : h₀.objs.size ≤ L) (X : K.In h₀) (hx : exmOne K C c = some false)
    (ht : ∀ (A' : Around) (E' Q' : Value → Shared → Prop) (s' : Shared), Fr h₀ L s'.heap m → Q' c s' → wpAny (model prog w) A' (eval t env) Q' E' s')
    (k : wpAny (model prog w) A (handleBy (.ref e) env rest) Q E s) : wpAny (model prog w) A (handleBy (.ref e) env (.ExceptHandler (some t) nm body pos :: rest)) Q E s := by
  have F := fly_fr x hn hL
  exact wpAny_handleBy_cons (codeAny_handlers_test (ht _ _ _ _ F ((exm_one (X.keeps F.keep) (fly_type x) hx).here k))) (by intro q; cases q)
theorem catch_hit (hA : A.frames = some (env :: outer)) (x : Fly h₀ (env :: outer) e C s.heap fp ((L, oL) :: fs) l) (hn : s.heap.Ns L m) (hL : h₀.objs.size ≤ L) (X : K.In h₀) (hx : exmOne K C c = some true)
    (ht : ∀ (A' : Around) (E' Q' : Value → Shared → Prop) (s' : Shared), Fr h₀ L s'.heap m → Q' c s' → wpAny (model prog w) A' (eval t env) Q' E' s')
    (k : ∀ oL' fs' h', Fr h₀ L h' m → Has h₀ h' fp ((L, oL') :: fs') l → TI.SameUp fs fs' → wpAny (model prog w) (A.mark (some (.ref e))) (execs (b₀ :: suite) env) Q (fun ω ω => False) { s with heap := h' }) :
    wpAny (model prog w) A (handleBy (.ref e) env (.ExceptHandler (some t) none (b₀ :: suite) pos :: rest)) Q E s := by
  have F := fly_fr x hn hL
  have x' := x
  obtain ⟨B, a0, hfl, hB0, hBl, H, Fs⟩ := x
  refine wpAny_handleBy_cons (codeAny_handlers_test (ht _ _ _ _ F ((exm_one (X.keeps F.keep) (fly_type x') hx).here ?_))) (by intro q; cases q)
  refine codeAny_handlers_suite ?_
  refine lands_againW hfl fun h6 hfl6 hs6 => ?_
  obtain ⟨fs1, y, SU⟩ := fly_up H hB0 hBl Fs hfl6 hs6 (size_of_ns (Heap.UpToSlots.ns hs6 hn) hL)
  cases fs1 with
  | nil => exact SU.elim
  | cons q fs' =>
    obtain ⟨qa, qo⟩ := q
    obtain ⟨y1, _, y3⟩ := SU
    dsimp only at y1
    subst y1
    have F6 := fly_fr y (Heap.UpToSlots.ns hs6 hn) hL
    obtain ⟨_, _, _, _, _, H6, _⟩ := y
    exact wpAny_mono (k _ fs' h6 F6 H6 y3) (fun ω ω q => q) fun ω ω q => q.elim
end
theorem Has.pop {h₀ h : Heap} {fp fs l : Led} {q : Addr × Obj} (H : Has h₀ h fp (q :: fs) l) : Has h₀ h fp fs l :=
  ⟨H.keep, H.size, fun p hp => H.at_ p (by
    simp only [List.mem_append, List.mem_cons] at hp ⊢
    rcases hp with hp | hp | hp <;> simp [hp]), ⟨fun p hp x hx => H.apart.ap p (by
    simp only [List.mem_append, List.mem_cons] at hp ⊢
    rcases hp with hp | hp <;> simp [hp]) x hx, fun p hp x hx => H.apart.apf p hp x (List.mem_cons_of_mem _ hx), H.apart.dist⟩⟩
end
section --M13
open PySem PySem.W PyProof.Rows PySem.Calls PySem.Spec
set_option maxHeartbeats 1000000
noncomputable abbrev testsOf (env : Env) (ifs : List Expr) : Sem Bool := forIn ifs true fun c r => if r = true then do let ok ← isTrue c env (eval c env); pure (ForInStep.yield ok) else pure (ForInStep.yield r)
section
variable {prog : Program} {w : World} {A : Around} {E : Value → Shared → Prop} {h₀ : Heap} {outer : List Env} {l : Led} {env : Env} {L : Addr} {m : Str → Option Value} {Q : Value → Shared → Prop}
theorem comp_loopG {R : Result → Shared → Prop} {s : Shared} {elt target iter : Expr} {ifs : List Expr} {scope : Scope} {pos : Pos} {it acc : Value} {cenv : Env} (J : Nat → Shared → Prop)
    (turn : ∀ k t, J k t → wpAny (model prog w) A (pyNext it) (fun r s₁ => match r with
      | none => R (.ok .next) s₁
      | some v => wpAny (model prog w) A (letOwnedTupleGo target it v) (fun ω s₂ => wpAny (model prog w) A (assign target cenv v) (fun ω s₃ => wpAny (model prog w) A (testsOf cenv ifs) (fun ok s₄ =>
          if ok = true then wpAny (model prog w) A (eval elt cenv) (fun x s₅ => wpAny (model prog w) A (call (.builtin "list.append") [acc, x]) (fun ω s₆ => ∃ j, j < k ∧ J j s₆) (notedBy (model prog w) A cenv fun e s' => R (.error e) s') s₅)
              (notedBy (model prog w) A cenv fun e s' => R (.error e) s') s₄
          else ∃ j, j < k ∧ J j s₄) (notedBy (model prog w) A cenv fun e s' => R (.error e) s') s₃) (notedBy (model prog w) A cenv fun e s' => R (.error e) s') s₂) (notedBy (model prog w) A cenv fun e s' => R (.error e) s') s₁)
      (notedBy (model prog w) A cenv fun e s' => R (.error e) s') t)
    (n : Nat) (h : J n s) : codeAny (model prog w) A (.compLoop (.ListComp elt [⟨target, iter, ifs, 0⟩] scope pos) 0 it acc cenv) R s := by
  refine codeAny_loop rfl J (fun k t hk => ?_) n h
  show wpAny _ A ((compTurn (.ListComp elt [⟨target, iter, ifs, 0⟩] scope pos) 0 it acc cenv).onRaise (fun x => do noteFrame x cenv; theTreesLotGoes x)) _ _ t
  refine wpAny_noted ?_
  rw [compTurn_list]
  refine wpAny_bind (wpAny_standAt (wpAny_bind ?_))
  refine wpAny_mono (turn k t hk) ?_ fun ω ω q => q
  rintro (_ | v) s1 h1
  · exact wpAny_pure h1
  · refine wpAny_bind (wpAny_mono h1 (fun ω s2 h2 => wpAny_bind (wpAny_mono h2 (fun ω s3 h3 => wpAny_bind (wpAny_mono h3 ?_ fun ω ω q => q)) fun ω ω q => q)) fun ω ω q => q)
    rintro (_ | _) s4 h4
    · exact wpAny_pure ⟨rfl, h4⟩
    · refine wpAny_bind (wpAny_bind (wpAny_mono h4 (fun x s5 h5 => ?_) fun ω ω q => q))
      exact wpAny_bind (wpAny_mono h5 (fun ω s6 h6 => wpAny_pure (wpAny_pure ⟨rfl, h6⟩)) fun ω ω q => q)
inductive LoopP (h₀ : Heap) (L : Addr) (m : Str → Option Value) (l : Led) (s₂ : Shared) (n : Nat) (St : Nat → Heap → Prop) (Inv : Nat → List Value → Prop) (D C : Addr) (k : Nat) (s' : Shared) : Prop
  | mk (h' : Heap) (tk : Nat) (mC : Str → Option Value) (ys : Array Value) (i : Nat) (e : s' = { s₂ with heap := h', toks := tk }) (st : St i h') (pl : h'.PlainList D ys) (ns : h'.Ns C mC) (F : Fr h₀ L h' m) (N : News h₀ L h' l) (iv : Inv i ys.toList) (hs : ys.size ≤ i) (hi : i ≤ n) (hk : k = n + 1 - i)
inductive TurnP (s₂ : Shared) (Inv : List Value → Prop) (ys : List Value) (C : Addr) (ha : Heap) (o : Option Value) (s₅ : Shared) : Prop
  | mk (h' : Heap) (tk' : Nat) (mC' : Str → Option Value) (e : s₅ = { s₂ with heap := h', toks := tk' }) (a : Inv (ys ++ o.toList)) (b : ∀ b ob, b ≠ C → ha.get? b = some ob → h'.get? b = some ob) (c : h'.Ns C mC')
theorem comp_pure {s₂ : Shared} {target elt iter : Expr} {ifs : List Expr} {scope : Scope} {cl : List (Str × Addr)} {pos : Pos} {I : Addr} {fpI wrI : List Addr} {vs : List Value} {St : Nat → Heap → Prop} {use : Option (Value → Sem Unit)}
    {Inv : Nat → List Value → Prop}
    (W : Walks prog w A I fpI wrI vs.length (fun i v => vs[i]? = some v) St) (hst : St 0 s₂.heap) (hsz : vs.length ≤ 1000000)
    (hI : ∀ b ∈ fpI, b < s₂.heap.objs.size ∧ b ≠ L) (hwI : ∀ b ∈ wrI, h₀.get? b = none ∧ ∀ p ∈ l, p.1 ≠ b)
    (hcell : ∀ y ∈ scope.names, y.2 ≠ .cell) (hkind : scope.kind = .function)
    (F : Fr h₀ L s₂.heap m) (N : News h₀ L s₂.heap l)
    (h0 : Inv 0 [])
    (turn : ∀ C (i : Nat) v h tk mC ys (Kk : Option Value → Shared → Prop), vs[i]? = some v → Inv i ys → h.Ns C mC → Fr h₀ L h m → News h₀ L h l → C ≠ L → h₀.get? C = none → (∀ p ∈ l, p.1 ≠ C) →
      (∀ o h' tk' mC', Inv (i + 1) (ys ++ o.toList) → (∀ b ob, b ≠ C → h.get? b = some ob → h'.get? b = some ob) → h'.Ns C mC' → Kk o { s₂ with heap := h', toks := tk' }) →
      wpAny (model prog w) A (assign target (compEnvC scope cl C env) v) (fun ω s₃ => wpAny (model prog w) A (testsOf (compEnvC scope cl C env) ifs) (fun ok s₄ =>
        if ok = true then wpAny (model prog w) A (eval elt (compEnvC scope cl C env)) (fun x s₅ => Kk (some x) s₅) (fun ω ω => False) s₄ else Kk none s₄) (fun ω ω => False) s₃) (fun ω ω => False) { s₂ with heap := h, toks := tk })
    (htg : ∀ (i : Nat) v (s : Shared) (Q : Unit → Shared → Prop) (E : Value → Shared → Prop), vs[i]? = some v → St (i + 1) s.heap → Q () s → wpAny (model prog w) A (letOwnedTupleGo target (.ref I) v) Q E s)
    (hQ : ∀ D C ys h' tk k mC, Inv vs.length ys → ys.length ≤ vs.length → Fr h₀ L h' m → News h₀ L h' ((D, listOf ys.toArray k) :: l) → (∀ p ∈ l, p.1 < D) →
      h'.Ns C mC → C ≠ L → C ≠ D → (∀ p ∈ l, p.1 ≠ C) → h₀.get? C = none → compPost (model prog w) A E use Q (.ref D) C (.ok .next) { s₂ with heap := h', toks := tk }) :
    wpAny (model prog w) A (newList []) (fun acc s₃ => wpAny (model prog w) A (newFunctionEnv scope env.globals cl [] env.qual none .none (some env)) (fun cenv s₄ =>
      codeAny (model prog w) A (.compStart (.ListComp elt [⟨target, iter, ifs, 0⟩] scope pos) 0 (.ref I) acc { cenv with scope := relabel scope env }) (compPost (model prog w) A E use Q acc cenv.locals) s₄) E s₃) E s₂ := by
  refine wpAny_newObj_type (wpAny_newFunctionEnv hcell (by intro y hy; simp at hy) (fun h₁ hns₁ hsb₁ => ?_) hkind)
  dsimp only at hns₁ hsb₁ ⊢
  generalize hH2 : s₂.heap.push { cls := .type "list", dict := none, data := .seq ([] : List Value).toArray } = H2 at hns₁ hsb₁ ⊢
  have hC : H2.objs.size = s₂.heap.objs.size + 1 := by rw [← hH2, Heap.size_push]
  have hDC : s₂.heap.objs.size ≠ H2.objs.size := by rw [hC]; exact Nat.ne_of_lt (Nat.lt_succ_self _)
  have below : ∀ b, b < s₂.heap.objs.size → b ≠ H2.objs.size ∧ b ≠ s₂.heap.objs.size := fun b hb => ⟨by rw [hC]; exact Nat.ne_of_lt (Nat.lt_succ_of_lt hb), Nat.ne_of_lt hb⟩
  have old : ∀ b o, s₂.heap.get? b = some o → h₁.get? b = some o := fun b o e => hsb₁.extBut b o (below b (Heap.lt_size e)).1 (Heap.get?_push_of_some _ (hH2 ▸ Heap.get?_push_of_some _ e))
  have hacc : h₁.PlainList s₂.heap.objs.size #[] := ⟨_, hsb₁.extBut _ _ hDC (Heap.get?_push_of_some _ (hH2 ▸ Heap.get?_push_size _ rfl))⟩
  have hst₁ : St 0 h₁ := W.frame _ _ _ hst fun b ω o e => old b o e
  have n0 : ∀ a, s₂.heap.objs.size ≤ a → h₀.get? a = none := fun a ha => fr_new F ha
  have hLlt : L < s₂.heap.objs.size := F.ns.lt
  have hlt : ∀ p ∈ l, p.1 < s₂.heap.objs.size := fun p hp => Heap.lt_size (N p hp).1
  have hD0 := n0 _ (Nat.le_refl s₂.heap.objs.size)
  have hC0 : h₀.get? H2.objs.size = none := n0 _ (by rw [hC]; exact Nat.le_succ _)
  generalize hDe : s₂.heap.objs.size = D at *
  generalize hCe : H2.objs.size = C at *
  have hDw : D ∉ wrI := fun hm => by have := (hI _ (W.sub _ hm)).1; exact Nat.lt_irrefl _ this
  have hCw : C ∉ wrI := fun hm => by have := (hI _ (W.sub _ hm)).1; rw [hC] at this; exact Nat.lt_irrefl _ (Nat.lt_of_succ_lt this)
  have hDf : D ∉ fpI := fun hm => by have := (hI _ hm).1; exact Nat.lt_irrefl _ this
  have hCf : C ∉ fpI := fun hm => by have := (hI _ hm).1; rw [hC] at this; exact Nat.lt_irrefl _ (Nat.lt_of_succ_lt this)
  have hLw : L ∉ wrI := fun hm => (hI _ (W.sub _ hm)).2 rfl
  have hLC : L ≠ C := by rw [hC]; exact Nat.ne_of_lt (Nat.lt_succ_of_lt hLlt)
  have hLD : L ≠ D := Nat.ne_of_lt hLlt
  have hlC : ∀ p ∈ l, p.1 ≠ C := fun p hp => by rw [hC]; exact Nat.ne_of_lt (Nat.lt_succ_of_lt (hlt p hp))
  have hlD : ∀ p ∈ l, p.1 ≠ D := fun p hp => Nat.ne_of_lt (hlt p hp)
  have fr_up : ∀ {h h' : Heap}, Fr h₀ L h m → (∀ o, h.get? L = some o → h'.get? L = some o) → (∀ b o, h₀.get? b = some o → h.get? b = some o → h'.get? b = some o) → Fr h₀ L h' m := fun {h h'} F k1 k2 => by
    obtain ⟨oL, es, ep, hL, r⟩ := F.ns
    exact ⟨⟨oL, es, ep, k1 _ hL, r⟩, fun b o e => k2 b o e (F.keep b o e), F.above⟩
  have loop : codeAny (model prog w) A (.compLoop (.ListComp elt [⟨target, iter, ifs, 0⟩] scope pos) 0 (.ref I) (.ref D) (compEnvC scope cl C env)) (compPost (model prog w) A E use Q (.ref D) C) { s₂ with heap := h₁, toks := s₂.toks + ([] : List (Str × Value)).length } := by
    refine comp_loopG
      (LoopP h₀ L m l s₂ vs.length St Inv D C)
      ?_ (vs.length + 1) ⟨h₁, _, _, #[], 0, rfl, hst₁, hacc, hns₁, ⟨?_, fun b o e => old b o (F.keep b o e), F.above⟩, fun p hp => ⟨old _ _ (N p hp).1, (N p hp).2⟩, h0, Nat.le_refl _, Nat.zero_le _, rfl⟩
    · rintro k s' ⟨H, tk, mC, ys, i, rfl, hst', hacc', hnC, F', N', hIv, hys, hi, rfl⟩
      by_cases hlt' : i < vs.length
      · refine W.item i _ _ _ hlt' hst' fun v ha tka hPv hsta hka => ?_
        have Fa : Fr h₀ L ha m := fr_up F' (fun o e => hka _ o hLw e) (fun b o e0 e => hka b o (fun hw => by have := (hwI _ hw).1; rw [e0] at this; cases this) e)
        have Na : News h₀ L ha l := fun p hp => ⟨hka _ _ (fun hw => (hwI _ hw).2 p hp rfl) (N' p hp).1, (N' p hp).2⟩
        obtain ⟨nD, hoD⟩ := hacc'
        have hoDa := hka _ _ hDw hoD
        refine htg i v _ _ _ hPv hsta ?_
        have key := turn C i v ha tka mC ys.toList (TurnP s₂ (Inv (i + 1)) ys.toList C ha)
          hPv hIv (hnC.at' fun o e => hka _ o hCw e) Fa Na (Ne.symm hLC) hC0 hlC fun o h' tk' mC' a b c => ⟨h', tk', mC', rfl, a, b, c⟩
        refine wpAny_mono key (fun ω s₃ h3 => wpAny_mono h3 (fun ok s₄ h4 => ?_) fun ω ω q => q.elim) fun ω ω q => q.elim
        cases ok with
        | false =>
          simp only [Bool.false_eq_true, if_false] at h4 ⊢
          obtain ⟨h', tk', mC', rfl, a, b, c⟩ := h4
          refine ⟨vs.length + 1 - (i + 1), by lia, h', _, mC', ys, i + 1, rfl, W.frame _ _ _ hsta fun b' hb' o e => b b' o (fun z => hCf (z ▸ hb')) e, ⟨nD, b _ _ hDC hoDa⟩, c, fr_up Fa (fun o e => b _ o hLC e) (fun b' o e0 e => b b' o (fun z => by rw [z, hC0] at e0; cases e0) e), fun p hp => ⟨b _ _ (hlC p hp) (Na p hp).1, (Na p hp).2⟩, by simpa using a, Nat.le_succ_of_le hys, hlt', rfl⟩
        | true =>
          simp only [if_true] at h4 ⊢
          refine wpAny_mono h4 (fun x s₅ h5 => ?_) fun ω ω q => q.elim
          obtain ⟨h', tk', mC', rfl, a, b, c⟩ := h5
          refine wpAny_list_append_plain (items := ys) ⟨nD, b _ _ hDC hoDa⟩ (fun hd hpl hsd => ?_) (by rw [sizeLine_eq]; lia)
          have hsd' : ∀ b o, b ≠ D → h'.get? b = some o → hd.get? b = some o := fun b o hne e => hsd.extBut b o hne e
          refine ⟨vs.length + 1 - (i + 1), by lia, hd, _, mC', ys.push x, i + 1, rfl, W.frame _ _ _ hsta fun b' hb' o e => hsd' b' o (fun z => hDf (z ▸ hb')) (b b' o (fun z => hCf (z ▸ hb')) e), hpl, c.sameBut hsd (Ne.symm hDC), fr_up Fa (fun o e => hsd' _ o hLD (b _ o hLC e)) (fun b' o e0 e => hsd' b' o (fun z => by rw [z, hD0] at e0; cases e0) (b b' o (fun z => by rw [z, hC0] at e0; cases e0) e)),
            fun p hp => ⟨hsd' _ _ (hlD p hp) (b _ _ (hlC p hp) (Na p hp).1), (Na p hp).2⟩, by rw [Array.toList_push]; simpa using a, by rw [Array.size_push]; lia, hlt', rfl⟩
      · have hin : i = vs.length := by lia
        subst hin
        refine W.done _ _ _ hst' fun ha tka hka => ?_
        obtain ⟨nD, hoD⟩ := hacc'
        have hys' : ys = ys.toList.toArray := by simp
        refine hQ D C ys.toList ha tka nD mC hIv (by simpa using hys) (fr_up F' (fun o e => hka _ o hLw e) (fun b o e0 e => hka b o (fun hw => by have := (hwI _ hw).1; rw [e0] at this; cases this) e)) (fun p hp => ?_) hlt (hnC.at' fun o e => hka _ o hCw e) (Ne.symm hLC) (Ne.symm hDC) hlC hC0
        rcases List.mem_cons.mp hp with rfl | hp
        · exact ⟨by rw [← hys']; exact hka _ _ hDw hoD, Ne.symm hLD, hD0⟩
        · exact ⟨hka _ _ (fun hw => (hwI _ hw).2 p hp rfl) (N' p hp).1, (N' p hp).2⟩
    · obtain ⟨oL, es, ep, hL, r⟩ := F.ns
      exact ⟨oL, es, ep, old _ _ hL, r⟩
  exact codeAny_compStart_list loop (W.self 0 _ _ _ hst₁ loop)
end
end
section --M14
open PySem PySem.W PyProof.Rows PySem.Calls PySem.Spec PySem.SeqAt
set_option maxHeartbeats 1000000
section
variable {prog : Program} {w : World} {A : Around} {E : Value → Shared → Prop} {h₀ : Heap} {outer : List Env} {l : Led} {env : Env} {L : Addr} {m : Str → Option Value} {Q : Value → Shared → Prop}
theorem src_pure {s : Shared} {ax : Addr} {oi : Obj} (F : Fr h₀ L s.heap m) (N : News h₀ L s.heap l) (hax : ax < s.heap.objs.size ∧ ax ≠ L) :
    Fr h₀ L (s.heap.push oi) m ∧ News h₀ L (s.heap.push oi) l ∧ (∀ b ∈ [s.heap.objs.size, ax], b < (s.heap.push oi).objs.size ∧ b ≠ L) ∧ (∀ b ∈ [s.heap.objs.size], h₀.get? b = none ∧ ∀ p ∈ l, p.1 ≠ b) := by
  have up : ∀ b o, s.heap.get? b = some o → (s.heap.push oi).get? b = some o := fun b o e => Heap.get?_push_of_some _ e
  refine ⟨F.keeps up, N.grown up, fun b hb => ?_, fun b hb => ?_⟩
  · rw [Heap.size_push]
    rcases List.mem_cons.mp hb with rfl | hb
    · exact ⟨Nat.lt_succ_self _, Nat.ne_of_gt F.ns.lt⟩
    · rw [List.mem_singleton.mp hb]; exact ⟨Nat.lt_succ_of_lt hax.1, hax.2⟩
  · rw [List.mem_singleton.mp hb]
    exact ⟨fr_new F (Nat.le_refl _), fun p hp => Nat.ne_of_lt (Heap.lt_size (N p hp).1)⟩
noncomputable def PureTurn (prog : Program) (w : World) (A : Around) (h₀ : Heap) (L : Addr) (m : Str → Option Value) (l : Led) (s₂ : Shared) (scope : Scope) (cl : List (Str × Addr)) (env : Env) (target elt : Expr) (ifs : List Expr) (vs : List Value) (Inv : Nat → List Value → Prop) : Prop :=
  ∀ C (i : Nat) v h tk mC ys (Kk : Option Value → Shared → Prop), vs[i]? = some v → Inv i ys → h.Ns C mC → Fr h₀ L h m → News h₀ L h l → C ≠ L → h₀.get? C = none → (∀ p ∈ l, p.1 ≠ C) →
      (∀ o h' tk' mC', Inv (i + 1) (ys ++ o.toList) → (∀ b ob, b ≠ C → h.get? b = some ob → h'.get? b = some ob) → h'.Ns C mC' → Kk o { s₂ with heap := h', toks := tk' }) →
      wpAny (model prog w) A (assign target (compEnvC scope cl C env) v) (fun ω s₃ => wpAny (model prog w) A (testsOf (compEnvC scope cl C env) ifs) (fun ok s₄ =>
        if ok = true then wpAny (model prog w) A (eval elt (compEnvC scope cl C env)) (fun x s₅ => Kk (some x) s₅) (fun ω ω => False) s₄ else Kk none s₄) (fun ω ω => False) s₃) (fun ω ω => False) { s₂ with heap := h, toks := tk }
theorem comp_pure_lst {s₂ : Shared} {target elt iter : Expr} {ifs : List Expr} {scope : Scope} {cl : List (Str × Addr)} {pos : Pos} {ax : Addr} {vs : List Value} {Inv : Nat → List Value → Prop}
    (hsrc : s₂.heap.IsList ax vs.toArray) (hh : A.handled = none) (hsz : vs.length ≤ 1000000) (hax : ax < s₂.heap.objs.size ∧ ax ≠ L)
    (hcell : ∀ y ∈ scope.names, y.2 ≠ .cell) (hkind : scope.kind = .function) (F : Fr h₀ L s₂.heap m) (N : News h₀ L s₂.heap l) (h0 : Inv 0 [])
    (turn : PureTurn prog w A h₀ L m l s₂ scope cl env target elt ifs vs Inv)
    (htg : ∀ (i : Nat) v (s : Shared) (Q : Unit → Shared → Prop) (E : Value → Shared → Prop), vs[i]? = some v → s.heap.IsListIter s₂.heap.objs.size ax (i + 1) → Q () s → wpAny (model prog w) A (letOwnedTupleGo target (.ref s₂.heap.objs.size) v) Q E s)
    (hQ : ∀ D ys h' tk k, Inv vs.length ys → ys.length ≤ vs.length → Fr h₀ L h' m → News h₀ L h' ((D, listOf ys.toArray k) :: l) → (∀ p ∈ l, p.1 < D) → Q (.ref D) { s₂ with heap := h', toks := tk }) :
    wpAny (model prog w) A (pyIter (.ref ax)) (fun it s₂ => wpAny (model prog w) A (newList []) (fun acc s₃ => wpAny (model prog w) A (newFunctionEnv scope env.globals cl [] env.qual none .none (some env)) (fun cenv s₄ =>
      codeAny (model prog w) A (.compStart (.ListComp elt [⟨target, iter, ifs, 0⟩] scope pos) 0 it acc { cenv with scope := relabel scope env }) (compPost (model prog w) A E none Q acc cenv.locals) s₄) E s₃) E s₂) E s₂ := by
  obtain ⟨F', N', hI, hwI⟩ := src_pure (oi := { cls := .type "list_iterator", data := .fields #[.ref ax, .int 0 0] }) F N hax
  refine wpAny_pyIter_list hsrc ?_
  refine comp_pure (Inv := Inv) (Walks.listL hh s₂.heap.objs.size ax (Nat.ne_of_lt hax.1) vs) ⟨⟨_, Heap.get?_push_size _ rfl, rfl, rfl⟩, hsrc.push _⟩ hsz hI hwI hcell hkind F' N' h0 turn (fun i v s Q E a b c => htg i v s Q E a b.1 c) ?_
  intro D C ys h' tk k mC a1 a2 F3 N3 a3 hnC hCL hCD a4 hC0
  refine ⟨mC, hnC, fun h3 hs3 => ?_⟩
  have hs3' : ∀ b o, b ≠ C → h'.get? b = some o → h3.get? b = some o := fun b o hne e => hs3.extBut b o hne e
  refine hQ D ys h3 tk k a1 a2 (F3.change hs3 hCL hC0) (fun p hp => ?_) a3
  refine ⟨hs3' _ _ ?_ (N3 p hp).1, (N3 p hp).2⟩
  rcases List.mem_cons.mp hp with rfl | hp
  · exact Ne.symm hCD
  · exact a4 p hp
theorem comp_pure_lst_set {s₂ : Shared} {target elt iter : Expr} {ifs : List Expr} {scope : Scope} {cl : List (Str × Addr)} {pos : Pos} {ax : Addr} {vs : List Value} {Inv : Nat → List Value → Prop} {y : Str} {py : Pos}
    (hsrc : s₂.heap.IsList ax vs.toArray) (hh : A.handled = none) (hsz : vs.length ≤ 1000000) (hax : ax < s₂.heap.objs.size ∧ ax ≠ L)
    (hcell : ∀ y ∈ scope.names, y.2 ≠ .cell) (hkind : scope.kind = .function) (F : Fr h₀ L s₂.heap m) (N : News h₀ L s₂.heap l) (h0 : Inv 0 [])
    (turn : PureTurn prog w A h₀ L m l s₂ scope cl env target elt ifs vs Inv)
    (htg : ∀ (i : Nat) v (s : Shared) (Q : Unit → Shared → Prop) (E : Value → Shared → Prop), vs[i]? = some v → s.heap.IsListIter s₂.heap.objs.size ax (i + 1) → Q () s → wpAny (model prog w) A (letOwnedTupleGo target (.ref s₂.heap.objs.size) v) Q E s)
    (hy : env.kindOf y = some .local) (hp : (env.scope.kind == .class || (env.scope.kind == .module && env.locals != env.globals)) = false) (hL : env.locals = L)
    (hQ : ∀ D ys h' tk k, Inv vs.length ys → ys.length ≤ vs.length → Fr h₀ L h' (fun z => if z = y then some (.ref D) else m z) → News h₀ L h' ((D, listOf ys.toArray k) :: l) → (∀ p ∈ l, p.1 < D) → Q .none { s₂ with heap := h', toks := tk }) :
    wpAny (model prog w) A (pyIter (.ref ax)) (fun it s₂ => wpAny (model prog w) A (newList []) (fun acc s₃ => wpAny (model prog w) A (newFunctionEnv scope env.globals cl [] env.qual none .none (some env)) (fun cenv s₄ =>
      codeAny (model prog w) A (.compStart (.ListComp elt [⟨target, iter, ifs, 0⟩] scope pos) 0 it acc { cenv with scope := relabel scope env }) (compPost (model prog w) A E (some (assign (.Name y py) env)) Q acc cenv.locals) s₄) E s₃) E s₂) E s₂ := by
  obtain ⟨F', N', hI, hwI⟩ := src_pure (oi := { cls := .type "list_iterator", data := .fields #[.ref ax, .int 0 0] }) F N hax
  refine wpAny_pyIter_list hsrc ?_
  refine comp_pure (Inv := Inv) (Walks.listL hh s₂.heap.objs.size ax (Nat.ne_of_lt hax.1) vs) ⟨⟨_, Heap.get?_push_size _ rfl, rfl, rfl⟩, hsrc.push _⟩ hsz hI hwI hcell hkind F' N' h0 turn (fun i v s Q E a b c => htg i v s Q E a b.1 c) ?_
  intro D C ys h' tk k mC a1 a2 F3 N3 a3 hnC hCL hCD a4 hC0
  subst hL
  show wpAny _ _ (assign (.Name y py) env (.ref D)) _ _ _
  refine wpAny_assign_Name (wpAny_storeName_local hy F3.ns (fun h2 hn2 hs2 => ?_) hp)
  replace hs2 : Heap.SameBut env.locals h' h2 := hs2
  refine ⟨mC, hnC.sameBut hs2 hCL, fun h3 hs3 => ?_⟩
  have hs3' : ∀ b o, b ≠ C → h2.get? b = some o → h3.get? b = some o := fun b o hne e => hs3.extBut b o hne e
  have F2 := F3.set hn2 hs2
  have N2 := N3.set hs2
  refine hQ D ys h3 _ k a1 a2 (F2.change hs3 hCL hC0) (fun p hp => ?_) a3
  refine ⟨hs3' _ _ ?_ (N2 p hp).1, (N2 p hp).2⟩
  rcases List.mem_cons.mp hp with rfl | hp
  · exact Ne.symm hCD
  · exact a4 p hp
end
set_option tactic.hygienic true in
theorem assign_compG {M : Model} {A : Around} {E : Value → Shared → Prop} {s : Shared} {env : Env} {elt iter target : Expr} {ifs : List Expr} {y : Str} {py : Pos} {scope : Scope} {cl : List (Str × Addr)} {pos spos : Pos} {Q : Flow → Shared → Prop}
    (hsw : swapsWith (.ListComp elt [⟨target, iter, ifs, 0⟩] scope pos) (some (.Name y py)) spos.line env = pure true)
    (hclos : closureFor scope env = pure cl) (hkind : scope.kind = .function) (hnames : ∀ z ∈ scope.names, z.2 = .local → scope.names.lookup z.1 = some .local)
    (h : wpAny M A (eval iter env) (fun xv s₁ => wpAny M A (pyIter xv) (fun it s₂ => wpAny M A (newList []) (fun acc s₃ => wpAny M A (newFunctionEnv scope env.globals cl [] env.qual none .none (some env)) (fun cenv s₄ =>
      codeAny M A (.compStart (.ListComp elt [⟨target, iter, ifs, 0⟩] scope pos) 0 it acc { cenv with scope := relabel scope env }) (compPost M A E (some (assign (.Name y py) env)) (fun ω s' => Q .next s') acc cenv.locals) s₄) E s₃) E s₂) E s₁) E s)
    (hs : ∀ x, foldedSetIterable iter env x = pure x) :
    wpAny M A (exec (.Assign [.Name y py] (.ListComp elt [⟨target, iter, ifs, 0⟩] scope pos) spos) env) Q E s := by
  rw [exec_Assign_Name_used _ _ _ _ hsw]
  refine wpAny_bind (wpAny_standAt (wpAny_bind ?_))
  show wpAny _ A (do let _ ← comprehension (.ListComp elt [⟨target, iter, ifs, 0⟩] scope pos) scope env _ (newList []) false (eval iter env) (some (assign (.Name y py) env))) _ _ s
  exact wpAny_bind (wpAny_mono (wpAny_comprehension_free (use := some (assign (.Name y py) env)) (Q := fun ω s' => Q .next s') rfl hs hclos hkind hnames h) (fun ω s' hq => wpAny_pure (wpAny_pure hq)) fun ω ω e => e)
theorem eval_compG {M : Model} {A : Around} {E : Value → Shared → Prop} {s : Shared} {env : Env} {elt iter target : Expr} {ifs : List Expr} {scope : Scope} {cl : List (Str × Addr)} {pos : Pos} {Q : Value → Shared → Prop}
    (hclos : closureFor scope env = pure cl) (hkind : scope.kind = .function) (hnames : ∀ z ∈ scope.names, z.2 = .local → scope.names.lookup z.1 = some .local)
    (h : wpAny M A (eval iter env) (fun xv s₁ => wpAny M A (pyIter xv) (fun it s₂ => wpAny M A (newList []) (fun acc s₃ => wpAny M A (newFunctionEnv scope env.globals cl [] env.qual none .none (some env)) (fun cenv s₄ =>
      codeAny M A (.compStart (.ListComp elt [⟨target, iter, ifs, 0⟩] scope pos) 0 it acc { cenv with scope := relabel scope env }) (compPost M A E none Q acc cenv.locals) s₄) E s₃) E s₂) E s₁) E s)
    (hs : ∀ x, foldedSetIterable iter env x = pure x) :
    wpAny M A (eval (.ListComp elt [⟨target, iter, ifs, 0⟩] scope pos) env) Q E s := by
  rw [eval_ListComp]
  exact wpAny_comprehension_free (use := none) rfl hs hclos hkind hnames h
section
variable {prog : Program} {w : World} {A : Around} {E : Value → Shared → Prop} {s : Shared} {scope : Scope} {cl : List (Str × Addr)} {C : Addr} {env : Env} {mC : Str → Option Value}
theorem comp_assign1 {M : Model} {x : Str} {p1 : Pos} {v : Value} {Q : Unit → Shared → Prop} (hnC : s.heap.Ns C mC) (hkind : scope.kind = .function) (h1 : scope.names.lookup x = some .local)
    (k : ∀ h' tk', (∀ b o, b ≠ C → s.heap.get? b = some o → h'.get? b = some o) → h'.Ns C (fun y => if y = x then some v else mC y) → Q () { s with heap := h', toks := tk' }) :
    wpAny M A (assign (.Name x p1) (compEnvC scope cl C env) v) Q E s :=
  wpAny_assign_Name (wpAny_storeName_local (lookup_relabel_local h1) hnC (fun hb hnb hsb => k hb _ (fun b o hne e => hsb.extBut b o hne e) hnb) (by simp [compEnvC, relabel, hkind]))
theorem aio_cons {M : Model} {A : Around} {E : Value → Shared → Prop} {s : Shared} {Q : Unit → Shared → Prop} {t : Value → Sem Unit} {ts : List (Value → Sem Unit)} {x : Value} {xs : List Value} (h : wpAny M A (t x) (fun ω s' => wpAny M A (assignInOrder ts xs) Q E s') E s) : wpAny M A (assignInOrder (t :: ts) (x :: xs)) Q E s := wpAny_bind (wpAny_holding h)
theorem aio_nil {M : Model} {A : Around} {E : Value → Shared → Prop} {s : Shared} {Q : Unit → Shared → Prop} (h : Q () s) : wpAny M A (assignInOrder [] []) Q E s := wpAny_pure h
theorem comp_assign3 {x1 x2 x3 : Str} {p1 p2 p3 pos : Pos} {kk : Nat} {a : Addr} {v1 v2 v3 : Value} {Q : Unit → Shared → Prop} (hh : A.handled = none) (ht : s.heap.IsTuple a #[v1, v2, v3]) (hnC : s.heap.Ns C mC) (hkind : scope.kind = .function)
    (h1 : scope.names.lookup x1 = some .local) (h2 : scope.names.lookup x2 = some .local) (h3 : scope.names.lookup x3 = some .local)
    (k : ∀ h' tk', (∀ b o, b ≠ C → s.heap.get? b = some o → h'.get? b = some o) → h'.Ns C (fun y => if y = x3 then some v3 else if y = x2 then some v2 else if y = x1 then some v1 else mC y) → Q () { s with heap := h', toks := tk' }) :
    wpAny (model prog w) A (assign (.Tuple [.Name x1 p1, .Name x2 p2, .Name x3 p3] kk pos) (compEnvC scope cl C env) (.ref a)) Q E s := by
  refine wpAny_assign_Tuple hh ht rfl rfl fun h' hext => ?_
  have hCs : C ≠ s.heap.objs.size := Nat.ne_of_lt hnC.lt
  have up : ∀ b o, s.heap.get? b = some o → h'.get? b = some o := fun b o e => hext b o (Nat.ne_of_lt (Heap.lt_size e)) e
  show wpAny _ _ (assignInOrder [assign (.Name x1 p1) _, assign (.Name x2 p2) _, assign (.Name x3 p3) _] [v1, v2, v3]) _ _ _
  refine aio_cons (comp_assign1 (hnC.at' fun o e => up _ o e) hkind h1 fun ha tka ka na => ?_)
  refine aio_cons (comp_assign1 na hkind h2 fun hb tkb kb nb => ?_)
  refine aio_cons (comp_assign1 nb hkind h3 fun hc tkc kc nc => ?_)
  exact aio_nil (k hc tkc (fun b o hb e => kc b o hb (kb b o hb (ka b o hb (up b o e)))) nc)
end
end
section --M15
open PySem PySem.W PyProof.Rows PySem.Calls PySem.Spec PySem.SeqAt
section
variable {prog : Program} {w : World} {A : Around} {E : Value → Shared → Prop} {s : Shared} {l b : Addr} {xs ys : List Value} {Q : Value → Shared → Prop}
theorem ne_lists (hl : s.heap.IsList l xs.toArray) (hb : s.heap.IsList b ys.toArray) (hn : xs.length ≠ ys.length) (hu : A.units < cLine) (h : Q (.bool true) s) : wpAny (model prog w) A (compareOp .NotEq (.ref l) (.ref b)) Q E s :=
  RcNeAt.lists_lengths hl hb (by simpa using hn) hu prog w E Q h
theorem eq_lst_nil (hl : s.heap.IsList l xs.toArray) (hb : s.heap.IsList b #[]) (hu : A.units < cLine) (h : Q (.bool (xs.length == 0)) s) : wpAny (model prog w) A (compareOp .Eq (.ref l) (.ref b)) Q E s := by
  cases xs with
  | nil => exact eq_listAt (e := fun ω => true) hl hb rfl hu (fun j h1 => absurd h1 (by simp)) (by simpa using h)
  | cons x xs => exact eq_list_lengthsAt hl hb (by simp) hu (by simpa using h)
theorem eq_tup_nil (hl : s.heap.IsTuple l xs.toArray) (hb : s.heap.IsTuple b #[]) (hu : A.units < cLine) (h : Q (.bool (xs.length == 0)) s) : wpAny (model prog w) A (compareOp .Eq (.ref l) (.ref b)) Q E s :=
  eq_tupleAt (e := fun ω => true) hl hb hu (fun j ω h2 => absurd h2 (by simp)) (by
    have : ((List.range (min xs.toArray.size (#[] : Array Value).size)).all (fun ω => true) && xs.toArray.size == (#[] : Array Value).size) = (xs.length == 0) := by simp
    rw [this]; exact h)
theorem item_lst {h₀ : Heap} {L a : Addr} {news : Led} {n : Nat} {value slice : Expr} {k : Int} {u : Tok} {v : Value} (N : News h₀ L s.heap news) (hm : (a, listOf xs.toArray n) ∈ news) (h0 : 0 ≤ k) (hhi : k < 2 ^ 63) (hx : xs[k.toNat]? = some v) (h : Q v s)
    (hs : autoParam (subscripted slice false (.ref a) (.int k u) = operate [.ref a, .int k u] (getItem (.ref a) (.int k u))) aW) :
    wpAny (model prog w) A (subscriptTail value slice (.ref a) (.int k u)) Q E s :=
  tail_any (N.isList hm).typeIs slot_list_getitem.lookup (wpAny_getItem_list (N.isList hm) h0 hhi (by simpa using hx) h) hs
end
section
variable {prog : Program} {w : World} {A : Around} {E : Value → Shared → Prop} {s : Shared} {h₀ : Heap} {L a f : Addr} {m : Str → Option Value} {news : Led} {cn : Str} {cs : Scope} {ccd : Value} {cl : List (Str × Addr)}
theorem frame_assign3 {x1 x2 x3 : Str} {p1 p2 p3 pos : Pos} {kk : Nat} {v1 v2 v3 : Value} {Q : Unit → Shared → Prop} (hh : A.handled = none) (F : Fr h₀ L s.heap m) (N : News h₀ L s.heap news) (ht : s.heap.IsTuple a #[v1, v2, v3])
    (k : ∀ h' tk', Fr h₀ L h' (fun y => if y = x3 then some v3 else if y = x2 then some v2 else if y = x1 then some v1 else m y) → News h₀ L h' news → Q () { s with heap := h', toks := tk' })
    (hk : autoParam (cs.kind = .function) aR) (h1 : autoParam ((envX cn cs L f ccd cl).kindOf x1 = some .local) aR) (h2 : autoParam ((envX cn cs L f ccd cl).kindOf x2 = some .local) aR) (h3 : autoParam ((envX cn cs L f ccd cl).kindOf x3 = some .local) aR) :
    wpAny (model prog w) A (assign (.Tuple [.Name x1 p1, .Name x2 p2, .Name x3 p3] kk pos) (envX cn cs L f ccd cl) (.ref a)) Q E s := by
  refine wpAny_assign_Tuple hh ht rfl rfl fun h' hext => ?_
  have up : ∀ b o, s.heap.get? b = some o → h'.get? b = some o := fun b o e => hext b o (Nat.ne_of_lt (Heap.lt_size e)) e
  show wpAny _ _ (assignInOrder [assign (.Name x1 p1) _, assign (.Name x2 p2) _, assign (.Name x3 p3) _] [v1, v2, v3]) _ _ _
  refine aio_cons (wpAny_assign_Name (storeX_L (F.keeps up) (N.grown up) (fun ha Fa Na => ?_) hk h1))
  refine aio_cons (wpAny_assign_Name (storeX_L Fa Na (fun hb Fb Nb => ?_) hk h2))
  refine aio_cons (wpAny_assign_Name (storeX_L Fb Nb (fun hc Fc Nc => ?_) hk h3))
  exact aio_nil (k hc _ Fc Nc)
end
end
section --M16
open PySem PySem.W PyProof.Rows PySem.Calls PySem.Spec PySem.SeqAt
set_option maxHeartbeats 1000000
theorem W.known {prog : Program} {w : World} {A : Around} {I : Addr} {fp wr : List Addr} {n : Nat} {P : Nat → Value → Prop} {St : Nat → Heap → Prop} (W : Walks prog w A I fp wr n P St) : Walks prog w A I fp wr n (fun i v => i < n ∧ P i v) St where
  sub := W.sub
  frame := W.frame
  item := fun i s Q E hi st hQ => W.item i s Q E hi st fun v h tk p => hQ v h tk ⟨hi, p⟩
  done := W.done
  self := W.self
section
variable {prog : Program} {w : World} {A : Around} {E : Value → Shared → Prop} {h₀ : Heap} {outer : List Env} {fp fs xs l loc : Led} {env : Env} {L : Addr} {m : Str → Option Value} {Q : Value → Shared → Prop}
theorem comp_rng {s₂ : Shared} {elt iter : Expr} {x : Str} {px : Pos} {scope : Scope} {cl : List (Str × Addr)} {pos : Pos} {R : Addr} {b : Int} {cnt : Nat} {t u v : Tok} {fn : Value} {args : Value → Tok → List Value} {d : Nat}
    {Inv : Nat → List Value → Led → Led → Prop} {Xc : Value → Led → Led → Prop}
    (hr : IsRange s₂.heap R 0 b 1 t u v) (hb : b = (cnt : Int)) (hsz : cnt ≤ 1000)
    (hcell : ∀ y ∈ scope.names, y.2 ≠ .cell) (hkind : scope.kind = .function) (hx : scope.names.lookup x = some .local)
    (F : Fr h₀ L s₂.heap m) (N : News h₀ L s₂.heap (loc ++ (fp ++ (fs ++ (xs ++ l)))))
    (hA : A.frames = some (env :: outer)) (hf : env.frame = some L) (hk : env.scope.kind = .function) (Fs : TI.Frs outer fs) (hh : A.handled = none) (hroom : Room A d)
    (Z : Ap fp fs (xs ++ l)) (zl : ∀ p ∈ fp ++ fs, ∀ q ∈ loc, q.1 ≠ p.1)
    (helt : ∀ C (i : Nat) v h tk mC Q' E', (i < cnt ∧ ∃ t, v = .int (0 + i * 1) t) → h.Ns C mC → mC x = some v → Fr h₀ L h m → News h₀ L h (fs ++ (xs ++ (loc ++ l))) → C ≠ L → h₀.get? C = none → (∀ tk' u, wpAny (model prog w) A (call fn (args v u)) Q' E' { s₂ with heap := h, toks := tk' }) →
      wpAny (model prog w) A (eval elt (compEnvC scope cl C env)) Q' E' { s₂ with heap := h, toks := tk })
    (h0 : Inv 0 [] fp (loc ++ l)) (hInv : ∀ i ys fp' l', Inv i ys fp' l' → fp'.map (·.1) = fp.map (·.1))
    (step : ∀ (i : Nat) v u ys fp' l', (i < cnt ∧ ∃ t, v = .int (0 + i * 1) t) → Inv i ys fp' l' → Does (model prog w) h₀ fn (args v u) d fp' l' (fun r fp'' l'' => Inv (i + 1) (ys ++ [r]) fp'' l'') Xc)
    (hQ : ∀ D ys fp' l' h' tk k, Inv cnt ys fp' l' → ys.length = cnt → Fr h₀ L h' m → News h₀ L h' ((D, listOf ys.toArray k) :: (fp' ++ (fs ++ (xs ++ l')))) → Ap fp' fs (xs ++ l') → (∀ p ∈ fp' ++ (fs ++ (xs ++ l')), p.1 ≠ D) → Gro xs (loc ++ l) l' → Q (.ref D) { s₂ with heap := h', toks := tk })
    (hE : ∀ e C fp' oL' fs' l' h' tk, Xc C fp' l' → FlyG h₀ (env :: outer) e C h' fp' ((L, oL') :: fs') (xs ++ l') → h'.Ns L m → h₀.objs.size ≤ L → TI.SameUp fs fs' → Gro xs (loc ++ l) l' → E (.ref e) { s₂ with heap := h', toks := tk }) :
    wpAny (model prog w) A (pyIter (.ref R)) (fun it s₂ => wpAny (model prog w) A (newList []) (fun acc s₃ => wpAny (model prog w) A (newFunctionEnv scope env.globals cl [] env.qual none .none (some env)) (fun cenv s₄ =>
      codeAny (model prog w) A (.compStart (.ListComp elt [⟨.Name x px, iter, [], 0⟩] scope pos) 0 it acc { cenv with scope := relabel scope env }) (compPost (model prog w) A E none Q acc cenv.locals) s₄) E s₃) E s₂) E s₂ := by
  subst hb
  have hsize : Builtin.Range.rangeSize 0 (cnt : Int) 1 = (cnt : Int) := by
    rw [rangeSize_nat]; simp
  have hsmall : Builtin.Range.small 0 (cnt : Int) 1 = true := by
    unfold Builtin.Range.small Builtin.Range.rangeFitsLong
    rw [hsize]
    simp
    lia
  have lt : ∀ p ∈ loc ++ (fp ++ (fs ++ (xs ++ l))), p.1 < s₂.heap.objs.size := fun p hp => Heap.lt_size (N p hp).1
  refine wpAny_pyIter_range hr hsmall ?_
  rw [hsize]
  have up : ∀ b o, s₂.heap.get? b = some o → (s₂.heap.push { cls := .type "range_iterator", data := .fields #[rawInt 0, rawInt (cnt : Int), rawInt 1] }).get? b = some o := fun b o e => Heap.get?_push_of_some _ e
  refine comp_call (Pv := fun i v => i < cnt ∧ ∃ t, v = .int (0 + i * 1) t) (n := cnt) (W.known (Walks.range hh s₂.heap.objs.size 0 1 cnt)) ?_ (by lia) (fun b hb => ?_) (fun i h st b hb => ?_) (fun b hb p hp => ?_) hcell hkind hx (F.keeps up) (N.grown up) hA hf hk Fs hh hroom Z zl helt h0 hInv step hQ hE
  · show IsRangeIter _ _ _ _ _
    have e1 : (0 : Int) + ((0 : Nat) : Int) * 1 = 0 := by decide
    have e2 : ((cnt : Nat) : Int) - ((0 : Nat) : Int) = (cnt : Int) := by lia
    rw [e1, e2]
    exact Heap.get?_push_size _ rfl
  · rw [List.mem_singleton.mp hb, Heap.size_push]
    refine ⟨Nat.lt_succ_self _, fr_new F (Nat.le_refl _), Nat.ne_of_gt F.ns.lt, fun p hp => Nat.ne_of_lt (lt p ?_)⟩
    simp only [List.mem_append] at hp ⊢
    rcases hp with hp | hp <;> simp [hp]
  · rw [List.mem_singleton.mp hb]
    exact ⟨_, st⟩
  · rw [List.mem_singleton.mp hb]
    refine Nat.ne_of_lt (lt p ?_)
    simp only [List.mem_append] at hp ⊢
    rcases hp with hp | hp | hp <;> simp [hp]
end
theorem Does.monoS {M : Model} {h₀ : Heap} {fn : Value} {vals : List Value} {d d' : Nat} {fp l : Led} {P P' X X' : Value → Led → Led → Prop} (D : Does M h₀ fn vals d fp l P X) (hd : d ≤ d') (hP : ∀ v fp' l', Sub l l' → P v fp' l' → P' v fp' l') (hX : ∀ v fp' l', Sub l l' → X v fp' l' → X' v fp' l') : Does M h₀ fn vals d' fp l P' X' :=
  fun Y R S hQ hE => D Y (R.mono hd) S (fun v fp' l' h' tk p H g => hQ v fp' l' h' tk (hP _ _ _ g.sub p) H g) (fun e C fp' fs' l' h' tk x Hf SU g => hE e C fp' fs' l' h' tk (hX _ _ _ g.sub x) Hf SU g)
end
section --M19
open PySem PySem.W PyProof.Rows PySem.Calls PySem.Spec PySem.SeqAt
set_option maxHeartbeats 1000000
theorem zip_getattr_none : typeLookup (.type "zip") "__getattr__" = pure none := by rw [typeLookup_type, builtinLookup_eq_fast]; kernel_rfl
theorem zip_keys_none : typeLookup (.type "zip") "keys" = pure none := by rw [typeLookup_type, builtinLookup_eq_fast]; kernel_rfl
theorem zip_entry_getattribute : entryFor table "zip.__getattribute__" = some Builtin.«object.__getattribute__» :=
  entryFor_alias (id' := "object.__getattribute__") (by kernel_rfl) (by decide +kernel) (by decide +kernel) (by kernel_rfl)
theorem zip_miss (a : Addr) (xs : Array Value) (sl : Array (Option Value)) (name : Str) (u : Tok) (hmiss : typeLookup (.type "zip") name = pure none) (hname : (["__module__", "__name__", "__qualname__", "__doc__", "__annotations__"] : List Str).contains name = false) (hsz : name.length + 100 ≤ sizeLine := by size_fits) :
    Meets (Builtin.«object.__getattribute__» ⟨[.ref a, .str name u], []⟩) (fun A R s => s.heap.get? a = some { cls := .type "zip", dict := none, data := .fields xs, slots := sl } ∧ raisesAttr (.ref a) name A R s) :=
  Meets.of_wp fun prog w A R s hs => by
    obtain ⟨hp, g, d, tk, os⟩ := s
    obtain ⟨hx, hs⟩ := hs
    have hT : (⟨hp, g, d, tk, os⟩ : Shared).TypeIs (.ref a) "zip" := ⟨_, hx, rfl⟩
    unfold Builtin.«object.__getattribute__»
    repeat (any_goals (first | assumption | wp_step))
    simp only [hname, Bool.false_eq_true, if_false]
    repeat (any_goals (first | assumption | wp_step))
    exact wpAny_raiseAttrError hs.1 hs.2 (attrMsg_fits (by decide +kernel) hsz)
theorem zip_no_keys {prog : Program} {w : World} {A : Around} {E : Value → Shared → Prop} {s : Shared} {a : Addr} {xs : Array Value} {sl : Array (Option Value)} {Q : Option Value → Shared → Prop}
    (hx : s.heap.get? a = some { cls := .type "zip", dict := none, data := .fields xs, slots := sl }) (hA : A.handled = none)
    (h : ∀ h' tk e, Heap.NewExcOf s.heap h' e "AttributeError" → Q none { s with heap := h', toks := tk }) :
    wpAny (model prog w) A (getAttr? (.ref a) "keys") Q E s := by
  obtain ⟨hp, g, d, tk, os⟩ := s
  have hT : ∀ tk', (⟨hp, g, d, tk', os⟩ : Shared).TypeIs (.ref a) "zip" := fun ω => ⟨_, hx, rfl⟩
  have f1 := sub_AttributeError
  have f3 := F.slot_zip_getattribute.lookup
  have f4 := F.slot_zip_getattribute.bind (.ref a)
  have f5 := zip_getattr_none
  unfold getAttr? getAttrBy? getAttrBy
  repeat (any_goals (first | assumption | exact hT _ | ((with_reducible show wpAny _ _ (call (Value.builtin "zip.__getattribute__") _ _) _ _ _); refine call_meets F.slot_zip_getattribute (hT _) zip_entry_getattribute (F.args_zip_getattribute_2 _ _) (zip_miss a xs sl _ _ zip_keys_none (by decide)) ⟨hx, hA, fun h' tk' e hx' => ?_⟩) | wp_step))
  obtain ⟨t', u', he⟩ := hx'.there
  show wpAny _ _ (getattributeRaised _ _ _ _ _ _ _) _ _ _
  unfold getattributeRaised
  repeat (any_goals (first | assumption | wp_step))
  exact h _ _ _ hx'.of
end
section --M20
open PySem PySem.W PyProof.Rows PySem.Calls PySem.Spec
open Builtin Builtin.Str
set_option maxHeartbeats 1000000
noncomputable abbrev IsZipB (h : Heap) (z TI TO : Addr) (f0 : Value) (b : Bool) : Prop :=
  h.get? z = some { cls := .type "zip", dict := none, data := .fields #[f0, .bool b, .bool false, .ref TI, .ref TO], slots := #[] }
section
variable {prog : Program} {w : World} {A : Around} {E : Value → Shared → Prop} {s : Shared} {z TI TO i1 i2 : Addr} {f1 f2 : List Addr} {n1 n2 : Nat} {P1 P2 : Nat → Value → Prop} {S1 S2 : Nat → Heap → Prop}
theorem wpAny_loadIfAlive {a : Addr} {Q : Option Obj → Shared → Prop} (h : Q (s.heap.get? a) s) : wpAny (model prog w) A (loadIfAlive a) Q E s :=
  fun Γ p ω => by
    unfold loadIfAlive
    rw [Sem.wp_loadIfAlive, Sem.wp]
    exact h
theorem zip_not_free {T : Addr} {b : Bool} {Q : Bool → Shared → Prop} (hz : IsZipB s.heap z TI TO (rawInt T) b) (hT : (s.heap.get? T).isSome) (h : ∀ h', IsZipB h' z TI TO (rawInt T) true → Heap.SameBut z s.heap h' → Q false { s with heap := h' }) :
    wpAny (model prog w) A (Builtin.SmallTypes.ownedTupleIsFree (.ref z)) Q E s := by
  unfold Builtin.SmallTypes.ownedTupleIsFree
  refine wpAny_bind (wpAny_field hz rfl (x := rawInt T) rfl ?_)
  show wpAny _ _ (loadIfAlive (T : Int).toNat >>= _) _ _ _
  refine wpAny_bind (wpAny_loadIfAlive ?_)
  rw [Int.toNat_natCast, if_neg (by rw [Option.isNone_iff_eq_none]; intro e; rw [e] at hT; cases hT)]
  refine wpAny_bind (wpAny_field hz rfl (x := .bool b) rfl ?_)
  cases b with
  | false =>
    rw [if_pos (by decide)]
    exact wpAny_bind (wpAny_setField_rec hz (by simp) fun h₁ hz₁ hs₁ => wpAny_pure (h h₁ hz₁ hs₁))
  | true =>
    rw [if_neg (by decide)]
    exact wpAny_pure (h s.heap hz (Heap.SameBut.refl _ _))
theorem zipB_item {k : Nat} {T : Addr} {c0 : Bool} {Q : Value → Shared → Prop} (D : ZipD z TI TO i1 i2 f1 f2) (D1 : Draws prog w A i1 f1 n1 P1 S1) (D2 : Draws prog w A i2 f2 n2 P2 S2)
    (hz : IsZipB s.heap z TI TO (rawInt T) c0) (hT : (s.heap.get? T).isSome) (hTI : IsPair s.heap TI (.ref i1) (.ref i2)) (st1 : S1 k s.heap) (st2 : S2 k s.heap) (h1 : k < n1) (h2 : k < n2)
    (hQ : ∀ h' tk x y, P1 k x → P2 k y → IsZipB h' z TI TO (rawInt T) true → S1 (k + 1) h' → S2 (k + 1) h' → IsPair h' s.heap.objs.size x y → h'.objs.size = s.heap.objs.size + 1 →
      (∀ c o, c ≠ z → c ≠ i1 → c ≠ i2 → s.heap.get? c = some o → h'.get? c = some o) → Q (.ref s.heap.objs.size) { s with heap := h', toks := tk }) :
    wpAny (model prog w) A (Builtin.«zip.__next__» ⟨[.ref z], []⟩) (fun fin s' => ∃ v, fin = .done (.ret v) ∧ Q v s') E s := by
  have n1z : ∀ {b}, b ∈ f1 → b ≠ z := fun h e => D.z1 (e ▸ h)
  have n2z : ∀ {b}, b ∈ f2 → b ≠ z := fun h e => D.z2 (e ▸ h)
  have n21 : ∀ {b}, b ∈ f2 → b ≠ i1 := fun h e => D.i12 (e ▸ h)
  have n12 : ∀ {b}, b ∈ f1 → b ≠ i2 := fun h e => D.i21 (e ▸ h)
  show wpAny _ _ (field (.ref z) 2 >>= _) _ _ _
  refine wpAny_bind (wpAny_field hz rfl (x := .bool false) rfl ?_)
  show wpAny _ _ (field (.ref z) 3 >>= _) _ _ _
  refine wpAny_bind (wpAny_field hz rfl (x := .ref TI) rfl ?_)
  refine wpAny_bind (wpAny_seqItems hTI rfl ?_)
  show wpAny _ _ (Builtin.SmallTypes.ownedTupleIsFree (.ref z) >>= _) _ _ _
  refine wpAny_bind (zip_not_free hz hT fun h₁ hz₁ hs₁ => ?_)
  simp only [Bool.false_eq_true, if_false]
  rw [← Array.forIn_toList]
  simp only [List.forIn_cons, List.forIn_nil]
  refine wpAny_bind (wpAny_bind (wpAny_bind (wpAny_holding ?_)))
  show wpAny _ _ (Builtin.SmallTypes.nextOf (.ref i1) >>= _) _ _ _
  refine wpAny_bind (D1.item k _ _ _ h1 (D1.frame _ _ _ st1 fun b hb o e => hs₁.extBut b o (n1z hb) e) fun x h₂ tk₂ hx h1₂ hs₂ => wpAny_pure ?_)
  refine wpAny_pure ?_
  refine wpAny_bind (wpAny_bind (wpAny_holding ?_))
  show wpAny _ _ (Builtin.SmallTypes.nextOf (.ref i2) >>= _) _ _ _
  refine wpAny_bind (D2.item k _ _ _ h2 (D2.frame _ _ _ st2 fun b hb o e => hs₂.extBut b o (n21 hb) (hs₁.extBut b o (n2z hb) e)) fun y h₄ tk₄ hy h2₄ hs₄ => wpAny_pure ?_)
  refine wpAny_pure (wpAny_pure ?_)
  refine wpAny_bind (wpAny_newTuple (items := [x, y]) ?_ (show 2 ≤ sizeLine by decide))
  have hsz : h₄.objs.size = s.heap.objs.size := by rw [hs₄.1, hs₂.1, hs₁.1]
  have hz₄ : IsZipB h₄ z TI TO (rawInt T) true := hs₄.extBut _ _ D.i2z.symm (hs₂.extBut _ _ D.i1z.symm hz₁)
  refine wpAny_pure ⟨_, rfl, ?_⟩
  show Q (.ref h₄.objs.size) _
  rw [hsz]
  have up : ∀ c o, h₄.get? c = some o → (h₄.push { cls := .type "tuple", data := .seq #[x, y] }).get? c = some o := fun c o e => Heap.get?_push_of_some _ e
  exact hQ _ tk₄ x y hx hy (up _ _ hz₄) (D1.frame _ _ _ h1₂ fun b hb o e => up _ _ (hs₄.extBut b o (n12 hb) e)) (D2.frame _ _ _ h2₄ fun b hb o e => up _ _ e) (hsz ▸ Heap.get?_push_size _ rfl) (by rw [Heap.size_push, hsz])
    fun c o c1 c3 c4 e => up _ _ (hs₄.extBut _ _ c4 (hs₂.extBut _ _ c3 (hs₁.extBut _ _ c1 e)))
theorem zipB_end {n : Nat} {T : Addr} {c0 : Bool} {Q : Fin → Shared → Prop} (D : ZipD z TI TO i1 i2 f1 f2) (D1 : Draws prog w A i1 f1 n P1 S1)
    (hz : IsZipB s.heap z TI TO (rawInt T) c0) (hT : (s.heap.get? T).isSome) (hTI : IsPair s.heap TI (.ref i1) (.ref i2)) (st1 : S1 n s.heap)
    (hE : ∀ h' e, (∀ c o, c ≠ z → c ≠ i1 → c ≠ i2 → s.heap.get? c = some o → h'.get? c = some o) → (∃ o, h'.get? e = some o ∧ o.cls = .type "StopIteration") → E (.ref e) { s with heap := h' }) :
    wpAny (model prog w) A (Builtin.«zip.__next__» ⟨[.ref z], []⟩) Q E s := by
  have n1z : ∀ {b}, b ∈ f1 → b ≠ z := fun h e => D.z1 (e ▸ h)
  show wpAny _ _ (field (.ref z) 2 >>= _) _ _ _
  refine wpAny_bind (wpAny_field hz rfl (x := .bool false) rfl ?_)
  show wpAny _ _ (field (.ref z) 3 >>= _) _ _ _
  refine wpAny_bind (wpAny_field hz rfl (x := .ref TI) rfl ?_)
  refine wpAny_bind (wpAny_seqItems hTI rfl ?_)
  show wpAny _ _ (Builtin.SmallTypes.ownedTupleIsFree (.ref z) >>= _) _ _ _
  refine wpAny_bind (zip_not_free hz hT fun h₁ hz₁ hs₁ => ?_)
  simp only [Bool.false_eq_true, if_false]
  rw [← Array.forIn_toList]
  simp only [List.forIn_cons, List.forIn_nil]
  refine wpAny_bind (wpAny_bind (wpAny_bind (wpAny_holding ?_)))
  show wpAny _ _ (Builtin.SmallTypes.nextOf (.ref i1) >>= _) _ _ _
  exact wpAny_bind (D1.done _ _ _ (D1.frame _ _ _ st1 fun b hb o e => hs₁.extBut b o (n1z hb) e) fun h₂ e hs₂ he => hE h₂ e (fun c o c1 c3 ω x => hs₂ _ _ c3 (hs₁.extBut _ _ c1 x)) he)
noncomputable def ZipK (z TI TO i1 i2 : Addr) (S1 S2 : Nat → Heap → Prop) (k : Nat) (h : Heap) : Prop :=
  ((k = 0 ∧ IsZip h z TI TO .none ∧ ∃ a b, IsPair h TO a b) ∨ ∃ (T : Addr) (b : Bool), IsZipB h z TI TO (rawInt T) b ∧ (h.get? T).isSome ∧ T ≠ z ∧ T ≠ i1 ∧ T ≠ i2) ∧ IsPair h TI (.ref i1) (.ref i2) ∧ S1 k h ∧ S2 k h
theorem ZipK.frame {k : Nat} {h h' : Heap} (D : ZipD z TI TO i1 i2 f1 f2) (D1 : Draws prog w A i1 f1 n1 P1 S1) (D2 : Draws prog w A i2 f2 n2 P2 S2) (x : ZipK z TI TO i1 i2 S1 S2 k h) (d : Addr) (hd : d ∉ z :: TI :: TO :: (f1 ++ f2)) (hT : ∀ (T : Addr) (b : Bool), IsZipB h z TI TO (rawInt T) b → T ≠ d) (hk : ∀ b o, b ≠ d → h.get? b = some o → h'.get? b = some o) : ZipK z TI TO i1 i2 S1 S2 k h' := by
  simp only [List.mem_cons, List.mem_append, not_or] at hd
  obtain ⟨d1, d2, d3, d4, d5⟩ := hd
  obtain ⟨q, hTI, s1, s2⟩ := x
  refine ⟨?_, hk _ _ (fun e => d2 e.symm) hTI, D1.frame _ _ _ s1 fun b hb o e => hk b o (fun e => d4 (e ▸ hb)) e, D2.frame _ _ _ s2 fun b hb o e => hk b o (fun e => d5 (e ▸ hb)) e⟩
  rcases q with ⟨rfl, hz, a, b, hTO⟩ | ⟨T, b, hz, hs, t1, t2, t3⟩
  · exact .inl ⟨rfl, hk _ _ (fun e => d1 e.symm) hz, a, b, hk _ _ (fun e => d3 e.symm) hTO⟩
  · obtain ⟨o, ho⟩ := Option.isSome_iff_exists.mp hs
    exact .inr ⟨T, b, hk _ _ (fun e => d1 e.symm) hz, by rw [hk _ _ (hT T b hz) ho]; rfl, t1, t2, t3⟩
theorem zipK_next {k n : Nat} {Q : Option Value → Shared → Prop} (D : ZipD z TI TO i1 i2 f1 f2) (D1 : Draws prog w A.in1 i1 f1 n P1 S1) (D2 : Draws prog w A.in1 i2 f2 n P2 S2) (x : ZipK z TI TO i1 i2 S1 S2 k s.heap) (hk : k < n)
    (hQ : ∀ h' tk x y, P1 k x → P2 k y → ZipK z TI TO i1 i2 S1 S2 (k + 1) h' → (∀ (T : Addr) (b : Bool), IsZipB h' z TI TO (rawInt T) b → (∃ b', IsZipB s.heap z TI TO (rawInt T) b') ∨ T = s.heap.objs.size) → IsPair h' s.heap.objs.size x y → h'.objs.size = s.heap.objs.size + 1 →
      (∀ c o, c ≠ z → c ≠ TO → c ≠ i1 → c ≠ i2 → s.heap.get? c = some o → h'.get? c = some o) → Q (some (.ref s.heap.objs.size)) { s with heap := h', toks := tk }) :
    wpAny (model prog w) A (pyNext (.ref z)) Q E s := by
  obtain ⟨q, hTI, s1, s2⟩ := x
  have lt : ∀ {c o}, s.heap.get? c = some o → s.heap.objs.size ≠ c := fun e => Nat.ne_of_gt (Heap.lt_size e)
  unfold pyNext
  rcases q with ⟨rfl, hz, a, b, hTO⟩ | ⟨T, b, hz, hs, t1, t2, t3⟩
  · have hT : s.TypeIs (.ref z) "zip" := ⟨_, hz, rfl⟩
    refine wpAny_bind (wpAny_attempt (wpAny_callSpecial?_slot (name := Str.ofString "__next__") hT F.slot_zip_next
      (wpAny_call_entry F.slot_zip_next hT F.entry_zip_next
        (zipD_item D D1 D2 hz hTI hTO s1 s2 hk hk fun h' tk x y hx hy a1 a2 a3 a4 a5 a6 hk' => wpAny_pure ?_) (F.args_zip_next_1 _))))
    refine hQ h' tk x y hx hy ⟨.inr ⟨s.heap.objs.size, false, a1, by rw [a5]; rfl, lt hz, (by obtain ⟨_, e⟩ := D1.live _ _ s1; exact lt e), (by obtain ⟨_, e⟩ := D2.live _ _ s2; exact lt e)⟩, hk' _ _ D.TIz D.TITO D.TIi1 D.TIi2 hTI, a3, a4⟩ (fun T b e => ?_) a5 a6 hk'
    have e' := a1.symm.trans e
    injection e' with e'; injection e' with _ _ e' _; injection e' with e'
    have := congrArg (fun x : Array Value => x[0]?) e'
    simp [rawInt] at this
    exact .inr (Int.ofNat.inj this).symm
  · have hT : s.TypeIs (.ref z) "zip" := ⟨_, hz, rfl⟩
    obtain ⟨oT, hoT⟩ := Option.isSome_iff_exists.mp hs
    refine wpAny_bind (wpAny_attempt (wpAny_callSpecial?_slot (name := Str.ofString "__next__") hT F.slot_zip_next
      (wpAny_call_entry F.slot_zip_next hT F.entry_zip_next
        (zipB_item D D1 D2 hz hs hTI s1 s2 hk hk fun h' tk x y hx hy a1 a3 a4 a5 a6 hk' => wpAny_pure ?_) (F.args_zip_next_1 _))))
    refine hQ h' tk x y hx hy ⟨.inr ⟨T, true, a1, by rw [hk' _ _ t1 t2 t3 hoT]; rfl, t1, t2, t3⟩, hk' _ _ D.TIz D.TIi1 D.TIi2 hTI, a3, a4⟩ (fun T' b9 e => ?_) a5 a6 fun c o c1 ω c3 c4 e => hk' c o c1 c3 c4 e
    have e' := a1.symm.trans e
    injection e' with e'; injection e' with _ _ e' _; injection e' with e'
    have := congrArg (fun x : Array Value => x[0]?) e'
    simp [rawInt] at this
    exact .inl ⟨b, Int.ofNat.inj this ▸ hz⟩
theorem zipK_done {n : Nat} {Q : Option Value → Shared → Prop} (D : ZipD z TI TO i1 i2 f1 f2) (D1 : Draws prog w A.in1 i1 f1 n P1 S1) (x : ZipK z TI TO i1 i2 S1 S2 n s.heap)
    (hQ : ∀ h', (∀ c o, c ≠ z → c ≠ TO → c ≠ i1 → c ≠ i2 → s.heap.get? c = some o → h'.get? c = some o) → Q none { s with heap := h' }) :
    wpAny (model prog w) A (pyNext (.ref z)) Q E s := by
  obtain ⟨q, hTI, s1, s2⟩ := x
  unfold pyNext
  have fin : ∀ (h' : Heap) (e : Addr), (∃ o, h'.get? e = some o ∧ o.cls = .type "StopIteration") → Q none { s with heap := h' } → wpAny (model prog w) A (do if ← isInstance (.ref e) (.type "StopIteration") then pure none else throw (Value.ref e)) Q E { s with heap := h' } := fun h' e he q => by
    obtain ⟨o, ho, hc⟩ := he
    exact wpAny_bind (wpAny_isInstance (T := "StopIteration") (b := true) ⟨o, ho, hc⟩ isSubtype_stop (wpAny_pure q))
  rcases q with ⟨rfl, hz, a, b, hTO⟩ | ⟨T, b, hz, hs, t1, t2, t3⟩
  · have hT : s.TypeIs (.ref z) "zip" := ⟨_, hz, rfl⟩
    exact wpAny_bind (wpAny_attempt (wpAny_callSpecial?_slot (name := Str.ofString "__next__") hT F.slot_zip_next
      (wpAny_call_entry F.slot_zip_next hT F.entry_zip_next (zipD_end D D1 hz hTI hTO s1 fun h' e hk he => fin h' e he (hQ h' hk)) (F.args_zip_next_1 _))))
  · have hT : s.TypeIs (.ref z) "zip" := ⟨_, hz, rfl⟩
    exact wpAny_bind (wpAny_attempt (wpAny_callSpecial?_slot (name := Str.ofString "__next__") hT F.slot_zip_next
      (wpAny_call_entry F.slot_zip_next hT F.entry_zip_next (zipB_end D D1 hz hs hTI s1 fun h' e hk he => fin h' e he (hQ h' fun c o c1 ω c3 c4 x => hk c o c1 c3 c4 x)) (F.args_zip_next_1 _))))
end
end
section --M21
open PySem PySem.W PyProof.Rows PySem.Calls PySem.Spec
open Builtin Builtin.Str
set_option maxHeartbeats 1000000
theorem entry_upd_loop : entryFor table "dict.update.loop" = some Builtin.«dict.update.loop» := entryFor_of_tree (by kernel_rfl)
theorem plain_upd_loop : plainId "dict.update.loop" = true := by decide +kernel
section
variable {prog : Program} {w : World} {E : Value → Shared → Prop} {z TI TO i1 i2 : Addr} {f1 f2 : List Addr} {n : Nat} {P1 P2 : Nat → Value → Prop} {S1 S2 : Nat → Heap → Prop}
theorem wpAny_pairItems {A : Around} {s : Shared} {T : Addr} {x y : Value} {Q : List Value → Shared → Prop} (hT : IsPair s.heap T x y) (h : Q [x, y] s) : wpAny (model prog w) A (Builtin.Dict.pairItems (.ref T)) Q E s := by
  unfold Builtin.Dict.pairItems
  refine wpAny_bind (wpAny_typeOf (T := "tuple") ⟨_, hT, rfl⟩ ?_)
  rw [if_pos (by decide)]
  refine wpAny_bind (wpAny_seqItems hT rfl (wpAny_pure ?_))
  exact h
theorem stored_le {K : Type} [DecidableEq K] (kvs : List (K × Value)) (k : K) (v : Value) : (stored kvs k v).length ≤ kvs.length + 1 := by
  unfold stored
  split
  · rw [List.length_map]; exact Nat.le_succ _
  · simp
theorem upd_loop {d : Addr} {J : Nat → List (Str × Value) → Prop} (D : ZipD z TI TO i1 i2 f1 f2) (D1 : ∀ A' : Around, A'.handled = none → Draws prog w A' i1 f1 n P1 S1) (D2 : ∀ A' : Around, A'.handled = none → Draws prog w A' i2 f2 n P2 S2)
    (hd : d ∉ z :: TI :: TO :: (f1 ++ f2)) (hn : n ≤ 1000)
    (hJ : ∀ i x y kvs, P1 i x → P2 i y → J i kvs → ∃ k t, x = .str k t ∧ J (i + 1) (stored kvs k y)) :
    ∀ (m i : Nat) {A : Around} {R : Result → Shared → Prop} {s : Shared} {kvs : List (Str × Value)}, A.handled = none → n - i = m → i ≤ n → ZipK z TI TO i1 i2 S1 S2 i s.heap → (∀ (T : Addr) b, IsZipB s.heap z TI TO (rawInt T) b → T ≠ d) → s.heap.DictOf (strKind prog w) d kvs → kvs.length ≤ i → J i kvs →
      (∀ h' tk kvs', h'.DictOf (strKind prog w) d kvs' → J n kvs' → (∀ c o, c ≠ d → c ≠ z → c ≠ TO → c ≠ i1 → c ≠ i2 → s.heap.get? c = some o → h'.get? c = some o) → R (.ok (.ret .none)) { s with heap := h', toks := tk }) →
      codeAny (model prog w) A (.builtin "dict.update.loop" ⟨[.ref d, .ref z, rawInt i, .none], []⟩) R s := by
  have hd' := hd
  simp only [List.mem_cons, List.mem_append, not_or] at hd'
  obtain ⟨dz, dTI, dTO, df1, df2⟩ := hd'
  have di1 : d ≠ i1 := fun e => df1 (e ▸ D.m1)
  have di2 : d ≠ i2 := fun e => df2 (e ▸ D.m2)
  intro m
  induction m with
  | zero =>
    intro i A R s kvs hh hm hi x hTd hdict hlen hj hR
    have hin : i = n := by lia
    subst hin
    refine codeAny_builtin entry_upd_loop ?_
    rw [Around.under_plainId plain_upd_loop _]
    show wpAny _ A.in1 (pyNext (.ref z) >>= _) _ _ s
    refine wpAny_bind (zipK_done D (D1 _ hh) x fun h' keep => ?_)
    show wpAny _ A.in1 (Builtin.Dict.addKeywords d [] >>= _) _ _ _
    refine wpAny_bind (wpAny_pure (wpAny_pure ?_))
    obtain ⟨od, hod, hdo⟩ := Heap.dictOf_iff.mp hdict
    exact hR h' s.toks kvs (Heap.dictOf_iff.mpr ⟨od, keep _ _ dz dTO di1 di2 hod, hdo⟩) hj fun c o ω c1 c2 c3 c4 e => keep c o c1 c2 c3 c4 e
  | succ m ih =>
    intro i A R s kvs hh hm hi x hTd hdict hlen hj hR
    have hlt : i < n := by lia
    refine codeAny_builtin entry_upd_loop ?_
    rw [Around.under_plainId plain_upd_loop _]
    show wpAny _ A.in1 (pyNext (.ref z) >>= _) _ _ s
    refine wpAny_bind (zipK_next D (D1 _ hh) (D2 _ hh) x hlt fun h' tk x' y hx hy zk own hpair hsz' keep => ?_)
    refine wpAny_bind (wpAny_holding ?_)
    refine wpAny_bind (wpAny_tryCatch (wpAny_pairItems hpair ?_))
    obtain ⟨k, t, rfl, hj'⟩ := hJ i x' y kvs hx hy hj
    obtain ⟨od, hod, hdo⟩ := Heap.dictOf_iff.mp hdict
    have hdict' : h'.DictOf (strKind prog w) d kvs := Heap.dictOf_iff.mpr ⟨od, keep _ _ dz dTO di1 di2 hod, hdo⟩
    show wpAny _ _ (holding [.str k t, y] (dictSet d (.str k t) y)) _ _ _
    refine wpAny_holding (wpAny_dictSet_pairs (strKind_is _ _ _ _) hdict' (fun h2 hd2 hs2 => ?_) (by rw [sizeLine_eq]; lia))
    have hTd' : ∀ (T : Addr) b, IsZipB h' z TI TO (rawInt T) b → T ≠ d := fun T b e q => by
      rcases own T b e with ⟨b', hs⟩ | hs
      · exact hTd T b' hs q
      · have e2 : d = s.heap.objs.size := q.symm.trans hs
        exact absurd (Heap.lt_size hod) (by rw [e2]; exact Nat.lt_irrefl _)
    refine wpAny_pure ⟨plainId_quiet plain_upd_loop _, ?_⟩
    refine ih (i + 1) (s := { s with heap := h2, toks := tk + 1 }) (kvs := stored kvs k y) hh (by lia) hlt (zk.frame D (D1 _ hh) (D2 _ hh) d hd hTd' (fun b o hb e => hs2.extBut _ _ hb e)) (fun T b e => hTd' T b (show IsZipB h' z TI TO (rawInt T) b from (hs2.2 z (fun q => dz q.symm)).symm.trans e)) hd2 (Nat.le_trans (stored_le _ _ _) (Nat.succ_le_succ hlen)) hj' fun h3 tk3 kvs' a b c => hR h3 tk3 kvs' a b fun c' o c0 c1 c2 c3 c4 e => c c' o c0 c1 c2 c3 c4 (hs2.extBut _ _ c0 (keep _ _ c1 c2 c3 c4 e))
theorem dict_of_zip {A : Around} {s : Shared} {a b : Value} {J : Nat → List (Str × Value) → Prop} {Q : Value → Shared → Prop} (hh : A.handled = none) (D : ZipD z TI TO i1 i2 f1 f2) (D1 : ∀ A' : Around, A'.handled = none → Draws prog w A' i1 f1 n P1 S1) (D2 : ∀ A' : Around, A'.handled = none → Draws prog w A' i2 f2 n P2 S2)
    (hn : n ≤ 1000) (hJ : ∀ i x y kvs, P1 i x → P2 i y → J i kvs → ∃ k t, x = .str k t ∧ J (i + 1) (stored kvs k y)) (h0 : J 0 [])
    (hz : IsZip s.heap z TI TO .none) (hTI : IsPair s.heap TI (.ref i1) (.ref i2)) (hTO : IsPair s.heap TO a b) (st1 : S1 0 s.heap) (st2 : S2 0 s.heap) (hlt : ∀ c ∈ z :: TI :: TO :: (f1 ++ f2), c < s.heap.objs.size)
    (hQ : ∀ h' tk kvs', h'.DictOf (strKind prog w) s.heap.objs.size kvs' → J n kvs' → (∀ c o, c ≠ z → c ≠ TO → c ≠ i1 → c ≠ i2 → s.heap.get? c = some o → h'.get? c = some o) → Q (.ref s.heap.objs.size) { s with heap := h', toks := tk }) :
    wpAny (model prog w) A (call (.type "dict") [.ref z]) Q E s := by
  refine callType_codes (Q₁ := fun obj s₁ => obj = .ref s.heap.objs.size ∧ s₁ = { s with heap := s.heap.push { cls := .type "dict", data := .dict #[] } }) F.kt_called_dict (F.kt_typeCall_dict_1 _) F.entry_dict_init (kt_code_dict_new _ ⟨rfl, rfl⟩) ?_
  rintro obj s₁ ⟨rfl, rfl⟩
  have hnew : (s.heap.push { cls := .type "dict", data := .dict #[] }).DictOf (strKind prog w) s.heap.objs.size [] := Heap.DictOf.new s.heap
  have up : ∀ c o, s.heap.get? c = some o → (s.heap.push { cls := .type "dict", data := .dict #[] }).get? c = some o := fun c o e => Heap.get?_push_of_some _ e
  refine ⟨hnew.typeIs, F.args_dict_init_2 _ _, ?_⟩
  unfold Builtin.«dict.__init__»
  refine wpAny_bind ?_
  unfold Builtin.Dict.selfAndRest
  refine wpAny_bind (wpAny_notOrdered_dict hnew.typeIs ?_)
  show wpAny _ _ (pure (s.heap.objs.size, [Value.ref z])) _ _ _
  refine wpAny_pure ?_
  show wpAny _ _ (Builtin.Dict.updateFrom "dict.__init__" s.heap.objs.size (.ref z) [] .none) _ _ _
  unfold Builtin.Dict.updateFrom
  refine wpAny_bind (wpAny_typeOf (T := "zip") ⟨_, up _ _ hz, rfl⟩ ?_)
  rw [if_pos (by decide)]
  refine wpAny_bind (zip_no_keys (up _ _ hz) hh fun h2 tk2 e he => ?_)
  rw [if_pos (by rfl)]
  refine wpAny_bind (wpAny_rule ?_)
  have k2 : ∀ c o, s.heap.get? c = some o → h2.get? c = some o := fun c o e => he.keeps _ _ (up _ _ e)
  refine wpAny_bind (wpAny_pyIter_zip (k2 _ _ hz) (wpAny_pure ?_))
  obtain ⟨od, hod, hdo⟩ := Heap.dictOf_iff.mp hnew
  refine ⟨plainId_quiet plain_upd_loop _, ?_⟩
  refine upd_loop (i := 0) (kvs := []) D D1 D2 (fun e => Nat.lt_irrefl _ (hlt _ e)) hn hJ n (A := A.in1) hh (Nat.sub_zero n) (Nat.zero_le _) ⟨.inl ⟨rfl, k2 _ _ hz, a, b, k2 _ _ hTO⟩, k2 _ _ hTI, (D1 A hh).frame _ _ _ st1 fun b ω o e => k2 _ _ e, (D2 A hh).frame _ _ _ st2 fun b ω o e => k2 _ _ e⟩ (fun T b e => ?_) (Heap.dictOf_iff.mpr ⟨od, he.keeps _ _ hod, hdo⟩) (Nat.le_refl _) h0 fun h3 tk3 kvs' x1 x2 x3 => ⟨rfl, ?_⟩
  · have e' := (k2 _ _ hz).symm.trans e
    injection e' with e'; injection e' with _ _ e' _; injection e' with e'
    have := congrArg (fun x : Array Value => x[0]?) e'
    simp [rawInt] at this
  · exact hQ h3 tk3 kvs' x1 x2 fun c o c1 c2 c3 c4 e => x3 c o (Nat.ne_of_lt (Heap.lt_size e)) c1 c2 c3 c4 (k2 _ _ e)
end
end
section --D7
open PySem PySem.W PyProof.Rows PySem.Calls PySem.Spec PyProof.V
set_option maxHeartbeats 1000000
noncomputable abbrev PG : Program := PySem.Challenge.rw_nz0158_01.row.prog
noncomputable def FeedObj (w : World) (cl : Addr) (n sm : Int) (o : Obj) : Prop := ∃ t1 t2, o.IsDictOf (PySem.strKind PySem.Challenge.rw_nz0158_01.row.prog w) [("cells", .ref cl), ("at", .int n t1), ("sum", .int sm t2)]
theorem inst_exc {h₀ h : Heap} {L e : Addr} {news : Led} {C t : Addr} {od : Option Obj} (N : News h₀ L h news) (hm : (e, excObj C t) ∈ news) (ho : autoParam (od = none) aR) : InstAt h e (excObj C t) C od := by
  subst ho
  exact ⟨N.get hm, rfl, rfl, trivial⟩
theorem init37_gen {w : World} {h₀ : Heap} {p : Program} {loose : List Str} {mean : ExcName → Option Value} {mg mb : Str → Option Value} {e t C : Addr} {tw : Tok} {what : Str} {l : Led} {oC : Obj} :
    (K0.heap_1 w.params).In h₀ → Top p loose mean mg mb h₀ → (K0.heap_1 w.params).lookup C = some oC → ExcOk C oC "Exception.__new__" → mroIn (K0.heap_1 w.params) C (.ref 47) = some true →
    ((Value.ref C :: excTail).dropWhile (· != .ref 47)).drop 1 = [.type "Exception", .type "BaseException", .type "object"] →
    findIn (K0.heap_1 w.params) (.ref C) "what" = some none → findIn (K0.heap_1 w.params) (.ref C) "__setattr__" = some (some (.builtin "object.__setattr__")) →
    Does (model PySem.Challenge.rw_nz0158_01.row.prog w) h₀ (.ref 37) [.ref e, .str what tw] 2 [(e, excObj C t)] l
      (fun r fp' l' => r = .none ∧ l' = l ∧ ∃ t' od, fp' = [(e, { cls := .ref C, dict := od, data := .fields #[.ref t', .none, .none, .none, .bool false, .none] })]) (fun ω ω ω => False) := by
  k_fill
  intro X T hC1 hC2 hC3 hC4 hC5 hC6 A envs fs xs s Q E Y R S hQ hE
  obtain ⟨hp, g, dr, tk, os⟩ := s
  have aF : ∀ p ∈ fs ++ (xs ++ l), p.1 ≠ e := fun p hp => (List.mem_append.mp hp).elim (fun h => S.apart.apf _ (.head _) p h) (fun h => S.apart.ap _ (.head _) p h)
  refine m_callS (K := K0.heap_1 w.params) (binds := [("self", .ref e), ("what", .str what tw)]) S X T.nolimit (by k_is) (by k_is) R.depth (BindsTo.of_eq rfl) (locs rfl) ?_ (by decide)
  intro L' h1 tk1 F1 N1 l1
  refine ks_wpAt_execs_cons (ks_wpAt_Expr_any (ks_wpAt_MethodCall ?_))
  refine ks_node F1 X N1 T (by k_is) (by rfl) (by rfl) (inst_exc (C := C) (t := t) N1 (List.mem_append_left _ List.mem_cons_self)) (by k_is) (by rfl) (by first | rfl | decide +kernel) (by k_is) (by k_is) hC3 (by k_is) (by decide) (by rfl) (by rfl) (by rfl) (by rfl) (by decide +kernel) (by first | boot_by_name | rfl | kernel_rfl) ?_
  intro so h2 F2 N2 l2
  refine exc_super_method (s := ⟨h2, g, dr, tk1, os⟩) F2 X N2 List.mem_cons_self (List.mem_cons_of_mem _ List.mem_cons_self) hC1 hC2 (by k_is) hC4 (by kernel_rfl) ?_
  intro q h3 F3 N3 l3
  have ne : e ≠ so := Nat.ne_of_lt (l2 (e, excObj C t) List.mem_cons_self)
  have ne2 : e ≠ q := Nat.ne_of_lt (l3 (e, excObj C t) (List.mem_cons_of_mem _ List.mem_cons_self))
  refine callWith_Mw (e := e) (args_cons (nameX_L (s := ⟨h3, g, dr, tk1 + 1, os⟩) F3 (v := .str what tw) rfl (args_nil ⟨(N3 _ List.mem_cons_self).1, exc_mw_call F3 X N3 List.mem_cons_self (UpdF.tail ne2.symm (UpdF.tail ne.symm (UpdF.head aF))) hC1 hC2 fun h4 t4 F4 N4 => ?_⟩)) rfl)
  refine ks_wpAt_execs_cons (ks_wpAt_Assign_Attr (wpAt_of_wpAny (nameX_L (s := ⟨h4, g, dr, tk1 + 1, os⟩) F4 (v := .str what tw) rfl (nameX_L (s := ⟨h4, g, dr, tk1 + 1, os⟩) F4 (v := .ref e) rfl (exc_setAttr F4 X N4 (UpdF.tail ne2.symm (UpdF.tail ne.symm (UpdF.head aF))) hC1 hC2 hC5 hC6 fun h5 tk5 dx F5 N5 => wpAt_of_wpAny (wpAny_execs_nil ?_))))))
  exact hQ _ _ l _ _ ⟨rfl, rfl, t4, _, rfl⟩ (Has.back F5 (News.sub N5 fun p hp => List.mem_cons_of_mem _ (List.mem_cons_of_mem _ hp)) (S.apart.same rfl)) (Gro.refl _ _)
theorem init37_does {w : World} {h₀ : Heap} {p : Program} {loose : List Str} {mean : ExcName → Option Value} {mg mb : Str → Option Value} {e t C : Addr} {tw : Tok} {what : Str} {l : Led} :
    (K0.heap_1 w.params).In h₀ → Top p loose mean mg mb h₀ → C = 67 ∨ C = 86 →
    Does (model PySem.Challenge.rw_nz0158_01.row.prog w) h₀ (.ref 37) [.ref e, .str what tw] 2 [(e, excObj C t)] l
      (fun r fp' l' => r = .none ∧ l' = l ∧ ∃ t' od, fp' = [(e, { cls := .ref C, dict := od, data := .fields #[.ref t', .none, .none, .none, .bool false, .none] })]) (fun ω ω ω => False) := by
  k_fill
  intro X T hC
  rcases hC with rfl | rfl
  · exact init37_gen X T (by k_is) (by exact ⟨_, _, _, _, _, _, _, _, _, _, _, _, _, _, rfl⟩) (by k_is) rfl (by k_is) (by k_is)
  · exact init37_gen X T (by k_is) (by exact ⟨_, _, _, _, _, _, _, _, _, _, _, _, _, _, rfl⟩) (by k_is) rfl (by k_is) (by k_is)
theorem raise_call {w : World} {h₀ : Heap} {p : Program} {loose : List Str} {mean : ExcName → Option Value} {mg mb : Str → Option Value} {C : Addr} {tw : Tok} {what : Str} {L : Addr} {m : Str → Option Value} {loc fp fs l : Led} {A : Around} {env : Env} {outer : List Env} {s : Shared} {E : Value → Shared → Prop} {Q : Value → Shared → Prop} :
    (K0.heap_1 w.params).In h₀ → Top p loose mean mg mb h₀ → C = 67 ∨ C = 86 → Fr h₀ L s.heap m → News h₀ L s.heap (loc ++ (fp ++ (fs ++ l))) →
    A.frames = some (env :: outer) → env.frame = some L → env.scope.kind = .function → TI.Frs outer fs → A.handled = none → Room A 3 → Ap fp fs l → (∀ p ∈ fp ++ fs, ∀ q ∈ loc, q.1 ≠ p.1) →
    (∀ e t od h' tk, ExcAt h' C "Exception.__new__" → h'.get? e = some (excDone C t od) → (∀ {Q : Unit → Shared → Prop} {E' : Value → Shared → Prop}, (∀ fs' h'', Fly h₀ outer e (.ref C) h'' fp fs' l → TI.SameUp fs fs' → Q () { s with heap := h'', toks := tk }) →
        wpAny (model PySem.Challenge.rw_nz0158_01.row.prog w) A (leaving env (.ref e)) Q E' { s with heap := h', toks := tk }) → Q (.ref e) { s with heap := h', toks := tk }) →
    wpAny (model PySem.Challenge.rw_nz0158_01.row.prog w) A (call (.ref C) [.str what tw]) Q E s := by
  k_fill
  intro X T hC F N hA hf hk Fs hh hr Z zl hQ
  rcases hC with rfl | rfl
  · refine exc_make F X N hA hf hk Fs hh hr Z zl (by k_is) (by exact ⟨_, _, _, _, _, _, _, _, _, _, _, _, _, _, rfl⟩) (by k_is) (by k_is) (fun e t l => init37_does X T (.inl rfl)) fun e t od h' tk F' N' ne => ?_
    refine hQ e t od h' tk (excAt_K (X.keeps F'.keep) (by k_is) (by exact ⟨_, _, _, _, _, _, _, _, _, _, _, _, _, _, rfl⟩)) (N' _ List.mem_cons_self).1 fun hq => ?_
    exact leave_made F' N' ne hA hf hk Fs Z fun fs' h'' x y => hq fs' h'' x y
  · refine exc_make F X N hA hf hk Fs hh hr Z zl (by k_is) (by exact ⟨_, _, _, _, _, _, _, _, _, _, _, _, _, _, rfl⟩) (by k_is) (by k_is) (fun e t l => init37_does X T (.inr rfl)) fun e t od h' tk F' N' ne => ?_
    refine hQ e t od h' tk (excAt_K (X.keeps F'.keep) (by k_is) (by exact ⟨_, _, _, _, _, _, _, _, _, _, _, _, _, _, rfl⟩)) (N' _ List.mem_cons_self).1 fun hq => ?_
    exact leave_made F' N' ne hA hf hk Fs Z fun fs' h'' x y => hq fs' h'' x y
end
section --D4
open PySem PySem.W PyProof.Rows PySem.Calls PySem.Spec PyProof.V PySem.SeqAt
set_option maxHeartbeats 2000000
structure Bk where
  widths : List Int
  tab : List (Int × Value)
noncomputable def Bk.Bits (σ : Bk) (w i : Int) : Prop := ∃ t, valueAt σ.tab w = some (.int i t)
structure Bk.Ok (σ : Bk) : Prop where
  len : σ.widths.length ≤ 7 + σ.tab.length
  low : 3 ≤ σ.widths.length
  ent : ∀ x ∈ σ.tab, 1 ≤ x.1 ∧ x.1 ≤ 4096 ∧ ∃ i t, x.2 = .int i t ∧ 3 ≤ i ∧ σ.widths[i.toNat]? = some x.1
  nod : (σ.tab.map (·.1)).Nodup
structure BkObj (w : World) (σ : Bk) (on ow ob : Obj) : Prop where
  names : ∃ a k, on = listOf a k ∧ a.size = σ.widths.length
  wid : ∃ a k, ow = listOf a k ∧ IntsAre a.toList σ.widths
  tab : ob.IsDictOf (PySem.intKind PySem.Challenge.rw_nz0158_01.row.prog w) σ.tab
structure Bk.Le (σ σ' : Bk) : Prop where
  bits : ∀ w i, σ.Bits w i → σ'.Bits w i
  wid : ∀ (n : Nat) (v : Int), σ.widths[n]? = some v → σ'.widths[n]? = some v
theorem Bk.Le.refl (σ : Bk) : σ.Le σ := ⟨fun ω ω h => h, fun ω ω h => h⟩
theorem Bk.Le.trans {a b c : Bk} (x : a.Le b) (y : b.Le c) : a.Le c := ⟨fun w i h => y.bits w i (x.bits w i h), fun n v h => y.wid n v (x.wid n v h)⟩
theorem Bk.Bits.uniq {σ : Bk} {w i j : Int} (a : σ.Bits w i) (b : σ.Bits w j) : i = j := by
  obtain ⟨t, a⟩ := a; obtain ⟨u, b⟩ := b
  rw [a] at b; cases b; rfl
theorem nodup_bound : ∀ (n : Nat) (l : List Int), l.Nodup → (∀ x ∈ l, 1 ≤ x ∧ x ≤ (n : Int)) → l.length ≤ n
  | 0, l, _, h => by
    cases l with
    | nil => exact Nat.le_refl _
    | cons x r => have := h x (.head _); lia
  | n + 1, l, hn, h => by
    have h1 : (l.erase ((n : Int) + 1)).length ≤ n := nodup_bound n _ (hn.erase _) fun x hx => by
      have hx' := (List.Nodup.mem_erase_iff hn).mp hx
      have := h x hx'.2
      have := hx'.1
      lia
    have h2 : l.length ≤ (l.erase ((n : Int) + 1)).length + 1 := by
      by_cases hm : ((n : Int) + 1) ∈ l
      · rw [List.length_erase_of_mem hm]; lia
      · rw [List.erase_of_not_mem hm]; lia
    lia
theorem Bk.Ok.bound {σ : Bk} (h : σ.Ok) : σ.tab.length ≤ 4096 := by
  have := nodup_bound 4096 (σ.tab.map (·.1)) h.nod fun x hx => by
    obtain ⟨y, hy, rfl⟩ := List.mem_map.mp hx
    exact ⟨(h.ent y hy).1, (h.ent y hy).2.1⟩
  simpa using this
theorem Bk.Ok.wlen {σ : Bk} (h : σ.Ok) : σ.widths.length ≤ 4103 := by have := h.bound; have := h.len; lia
theorem valueAt_mem {t : List (Int × Value)} {w : Int} {v : Value} (h : valueAt t w = some v) : (w, v) ∈ t := by
  unfold valueAt at h
  obtain ⟨x, hx, rfl⟩ := Option.map_eq_some_iff.mp h
  have := List.mem_of_find?_eq_some hx
  have h2 := List.find?_some hx
  simp at h2
  rw [← h2]; exact this
theorem stored_new {t : List (Int × Value)} {w : Int} {v : Value} (h : valueAt t w = none) : stored t w v = t ++ [(w, v)] := by
  unfold stored
  rw [if_neg]
  intro hc
  unfold valueAt at h
  rw [Option.map_eq_none_iff, List.find?_eq_none] at h
  obtain ⟨x, hx, hxe⟩ := List.any_eq_true.mp hc
  exact h x hx hxe
theorem valueAt_none {t : List (Int × Value)} {w : Int} (h : valueAt t w = none) : w ∉ t.map (·.1) := by
  intro hm
  unfold valueAt at h
  rw [Option.map_eq_none_iff, List.find?_eq_none] at h
  obtain ⟨x, hx, rfl⟩ := List.mem_map.mp hm
  exact h x hx (by simp)
theorem valueAt_app {t : List (Int × Value)} {w w' : Int} {v v' : Value} (h : valueAt t w' = some v') : valueAt (t ++ [(w, v)]) w' = some v' := by
  unfold valueAt at h ⊢
  obtain ⟨x, hx, rfl⟩ := Option.map_eq_some_iff.mp h
  rw [List.find?_append, hx]; rfl
theorem valueAt_last {t : List (Int × Value)} {w : Int} {v : Value} (h : valueAt t w = none) : valueAt (t ++ [(w, v)]) w = some v := by
  unfold valueAt at h ⊢
  rw [Option.map_eq_none_iff] at h
  rw [List.find?_append, h]; simp
theorem Bk.Ok.more {σ : Bk} (h : σ.Ok) {w : Int} {t : Tok} (h1 : 1 ≤ w) (h2 : w ≤ 4096) (hn : valueAt σ.tab w = none) :
    Bk.Ok ⟨σ.widths ++ [w], stored σ.tab w (.int (σ.widths.length : Int) t)⟩ ∧ σ.Le ⟨σ.widths ++ [w], stored σ.tab w (.int (σ.widths.length : Int) t)⟩ ∧
      Bk.Bits ⟨σ.widths ++ [w], stored σ.tab w (.int (σ.widths.length : Int) t)⟩ w σ.widths.length := by
  rw [stored_new hn]
  refine ⟨⟨?_, ?_, fun x hx => ?_, ?_⟩, ⟨fun w' i hb => ?_, fun n v hv => ?_⟩, t, valueAt_last hn⟩
  · have := h.len; simp; lia
  · have := h.low; simp; lia
  · rcases List.mem_append.mp hx with hx | hx
    · obtain ⟨a, b, i, u, e, c, d⟩ := h.ent x hx
      refine ⟨a, b, i, u, e, c, ?_⟩
      show (σ.widths ++ [w])[i.toNat]? = _
      rw [List.getElem?_append_left]; exact d
      exact (List.getElem?_eq_some_iff.mp d).1
    · obtain rfl := List.mem_singleton.mp hx
      refine ⟨h1, h2, _, t, rfl, by have := h.low; lia, ?_⟩
      show (σ.widths ++ [w])[((σ.widths.length : Int)).toNat]? = _
      simp
  · rw [List.map_append]
    refine List.nodup_append.mpr ⟨h.nod, by simp, fun a ha b hb => ?_⟩
    simp at hb; subst hb
    exact fun z => valueAt_none hn (z ▸ ha)
  · obtain ⟨u, hu⟩ := hb
    exact ⟨u, valueAt_app hu⟩
  · show (σ.widths ++ [w])[n]? = _
    rw [List.getElem?_append_left]; exact hv
    exact (List.getElem?_eq_some_iff.mp hv).1
end
section --D5
open PySem PySem.W PyProof.Rows PySem.Calls PySem.Spec PyProof.V PySem.SeqAt
set_option maxHeartbeats 2000000
structure BankAt (l : Led) (ba sn sw bn : Addr) : Prop where
  ex : ∃ dx es n, (ba, instObj 621 dx) ∈ l ∧ (dx, dictOf es n) ∈ l ∧ getL "sort_names" es = some (some (.ref sn)) ∧ getL "sort_widths" es = some (some (.ref sw)) ∧ getL "bv_numbers" es = some (some (.ref bn)) ∧
    getL "bv_sort" es = some none ∧ getL "width_of" es = some none ∧ getL "declare_sort" es = some none ∧ getL "find_bv_sort" es = some none
  lo : (bn == sysModules) = false
theorem ints_push {a : Array Value} {ns : List Int} {w : Int} {t : Tok} (h : IntsAre a.toList ns) : IntsAre (a.push (.int w t)).toList (ns ++ [w]) := by
  rw [Array.toList_push]
  exact IntsAre.append h (.cons _ _ .nil)
inductive It where
  | sym (s : Str)
  | num (i : Int)
  | key (s : Str)
  | list (xs : List It)
mutual
inductive IsIt (l : Led) : Value → It → Prop
  | sym {a s t u} : TupIn l a [.str "sym" t, .str s u] → s.length ≤ 64 → IsIt l (.ref a) (.sym s)
  | num {a i t u} : TupIn l a [.str "num" t, .int i u] → IsIt l (.ref a) (.num i)
  | key {a s t u} : TupIn l a [.str "key" t, .str s u] → IsIt l (.ref a) (.key s)
  | list {a b t vs xs} : TupIn l a [.str "list" t, .ref b] → TupIn l b vs → IsIts l vs xs → vs.length ≤ 64 → IsIt l (.ref a) (.list xs)
inductive IsIts (l : Led) : List Value → List It → Prop
  | nil : IsIts l [] []
  | cons {v vs x xs} : IsIt l v x → IsIts l vs xs → IsIts l (v :: vs) (x :: xs)
end
theorem TupIn.mono {l l' : Led} {a : Addr} {vs : List Value} (h : TupIn l a vs) (s : Sub l l') : TupIn l' a vs := by obtain ⟨o, n, hm, r⟩ := h; exact ⟨o, n, s _ hm, r⟩
theorem IsIt.map {l l' : Led} (f : ∀ a vs, TupIn l a vs → TupIn l' a vs) {v : Value} {x : It} (h : IsIt l v x) : IsIt l' v x :=
  IsIt.rec (motive_1 := fun v x ω => IsIt l' v x) (motive_2 := fun vs xs ω => IsIts l' vs xs) (fun h k => .sym (f _ _ h) k) (fun h => .num (f _ _ h)) (fun h => .key (f _ _ h)) (fun h1 h2 ω h4 ih => .list (f _ _ h1) (f _ _ h2) ih h4) .nil (fun ω ω a b => .cons a b) h
theorem IsIts.map {l l' : Led} (f : ∀ a vs, TupIn l a vs → TupIn l' a vs) {vs : List Value} {xs : List It} (h : IsIts l vs xs) : IsIts l' vs xs :=
  IsIts.rec (motive_1 := fun ω ω ω => True) (motive_2 := fun vs xs ω => IsIts l' vs xs) (fun ω ω => trivial) (fun ω => trivial) (fun ω => trivial) (fun ω ω ω ω ω => trivial) .nil (fun a ω ω b => .cons (a.map f) b) h
theorem IsIt.mono {l l' : Led} (s : Sub l l') {v : Value} {x : It} (h : IsIt l v x) : IsIt l' v x := h.map fun ω ω h => h.mono s
theorem IsIts.mono {l l' : Led} (s : Sub l l') {vs : List Value} {xs : List It} (h : IsIts l vs xs) : IsIts l' vs xs := h.map fun ω ω h => h.mono s
theorem IsIts.length {l : Led} {vs : List Value} {xs : List It} (h : IsIts l vs xs) : vs.length = xs.length := by
  induction xs generalizing vs with
  | nil => cases h; rfl
  | cons x xs ih => cases h with | cons _ h2 => simp [ih h2]
theorem IsIts.get {l : Led} {vs : List Value} {xs : List It} (h : IsIts l vs xs) {i : Nat} {v : Value} (hv : vs[i]? = some v) : ∃ x, xs[i]? = some x ∧ IsIt l v x := by
  induction xs generalizing vs i with
  | nil => cases h; simp at hv
  | cons x xs ih =>
    cases h with
    | cons h1 h2 =>
      cases i with
      | zero => simp at hv; subst hv; exact ⟨x, rfl, h1⟩
      | succ i => simp at hv; simpa using ih h2 hv
theorem IsIts.snoc {l : Led} {v : Value} {x : It} (h : IsIt l v x) {vs : List Value} {xs : List It} (h1 : IsIts l vs xs) : IsIts l (vs ++ [v]) (xs ++ [x]) :=
  IsIts.rec (motive_1 := fun ω ω ω => True) (motive_2 := fun vs a ω => IsIts l (vs ++ [v]) (a ++ [x])) (fun ω ω => trivial) (fun ω => trivial) (fun ω => trivial) (fun ω ω ω ω ω => trivial) (.cons h .nil) (fun p ω ω q => .cons p q) h1
inductive Gr where
  | bool | int | real
  | decl (name : Str)
  | bits (w : Int)
deriving DecidableEq
structure Row where
  name : Str
  params : List Str
  body : Option It
noncomputable def isSym (nm : Str) : It → Bool
  | .sym s => s == nm
  | _ => false
noncomputable def bitsOf : List It → Option It
  | [x, y, z] => if (isSym "_" x && isSym "BitVec" y) = true then some z else none
  | _ => none
noncomputable def headIs (s : Str) : List It → Bool
  | x :: _ => isSym s x
  | [] => false
theorem three {α : Type} {xs : List α} (h : xs.length = 3) : ∃ a b c, xs = [a, b, c] := by
  rcases xs with _ | ⟨a, _ | ⟨b, _ | ⟨c, _ | ⟨d, r⟩⟩⟩⟩ <;> first | exact ⟨_, _, _, rfl⟩ | cases h
theorem bitsOf_short {xs : List It} (h : xs.length ≠ 3) : bitsOf xs = none := by
  rcases xs with _ | ⟨a, _ | ⟨b, _ | ⟨c, _ | ⟨d, r⟩⟩⟩⟩ <;> first | rfl | exact absurd rfl h
theorem bitsOf_no {x0 x1 x2 : It} (h : (isSym "_" x0 && isSym "BitVec" x1) = false) : bitsOf [x0, x1, x2] = none := if_neg (by rw [h]; exact Bool.false_ne_true)
theorem bitsOf_not {x0 : It} {r : List It} (h : isSym "_" x0 = false) : bitsOf (x0 :: r) = none := by
  rcases r with _ | ⟨b, _ | ⟨c, _ | ⟨d, r⟩⟩⟩ <;> first | rfl | exact bitsOf_no (by rw [h]; rfl)
theorem bitsOf_three {x0 x1 x2 : It} : (bitsOf [x0, x1, x2]).isSome = (isSym "_" x0 && isSym "BitVec" x1) := by
  show (ite _ _ _ : Option It).isSome = _
  cases (isSym "_" x0 && isSym "BitVec" x1) <;> rfl
theorem bitsOf_bv {z : It} : bitsOf [.sym "_", .sym "BitVec", z] = some z := rfl
theorem isSym_eq {nm : Str} {it : It} (h : isSym nm it = true) : it = .sym nm := by
  cases it with
  | sym s => exact congrArg It.sym (eq_of_beq h)
  | num i => cases h
  | key s => cases h
  | list xs => cases h
theorem bitsOf_inv {xs : List It} {x : It} (h : bitsOf xs = some x) : xs = [.sym "_", .sym "BitVec", x] := by
  rcases xs with _ | ⟨a, _ | ⟨b, _ | ⟨c, _ | ⟨d, r⟩⟩⟩⟩
  iterate 3 cases h
  · cases e : (isSym "_" a && isSym "BitVec" b) with
    | false => rw [bitsOf_no e] at h; cases h
    | true =>
      cases Option.some.inj ((if_pos e).symm.trans h)
      have e := Bool.and_eq_true_iff.mp e
      rw [isSym_eq e.1, isSym_eq e.2]
  · cases h
noncomputable def readAll (f : It → Option (Option Gr)) : List It → Option (Option (List Gr))
  | [] => some (some [])
  | x :: xs => match f x with
    | none => none
    | some none => some none
    | some (some g) => match readAll f xs with
      | none => none
      | some none => some none
      | some (some gs) => some (some (g :: gs))
noncomputable def readR (tab : List Row) : Nat → (Str → Option Gr) → It → Option (Option Gr)
  | 0, _, _ => none
  | n + 1, κ, .sym s => match κ s with
    | some g => some (some g)
    | none => if s = "Bool" then some (some .bool) else if s = "Int" then some (some .int) else if s = "Real" then some (some .real) else
      match tab.find? (fun r => decide (r.name = s)) with
      | none => some none
      | some r => match r.params, r.body with
        | [], none => some (some (.decl s))
        | [], some b => readR tab n (fun ω => none) b
        | _ :: _, _ => some none
  | _ + 1, _, .num _ => some none
  | _ + 1, _, .key _ => some none
  | n + 1, κ, .list xs => match bitsOf xs with
    | some (.num w) => if 1 ≤ w ∧ w ≤ 4096 then some (some (.bits w)) else some none
    | some _ => some none
    | none => if xs.length < 2 ∨ headIs "_" xs then some none else match xs with
      | .sym s :: rest => match tab.find? (fun r => decide (r.name = s)) with
        | none => some none
        | some r => match readAll (readR tab n κ) rest with
          | none => none
          | some none => some none
          | some (some gs) => if r.params.length = gs.length then (match r.body with
              | none => some (some (.decl s))
              | some b => readR tab n (fun x => (r.params.zip gs).reverse.lookup x) b) else some none
      | _ => some none
noncomputable def Num (σ : Bk) (dn : Str → Option Int) : Gr → Int → Prop
  | .bool, i => i = 0
  | .int, i => i = 1
  | .real, i => i = 2
  | .decl s, i => dn s = some i
  | .bits w, i => σ.Bits w i
theorem Num.up {σ σ' : Bk} {dn : Str → Option Int} (h : σ.Le σ') : ∀ {g : Gr} {i : Int}, Num σ dn g i → Num σ' dn g i
  | .bool, _, x => x
  | .int, _, x => x
  | .real, _, x => x
  | .decl _, _, x => x
  | .bits _, _, x => h.bits _ _ x
theorem Num.uniq {σ : Bk} {dn : Str → Option Int} : ∀ {g : Gr} {i j : Int}, Num σ dn g i → Num σ dn g j → i = j
  | .bool, _, _, x, y => x.trans y.symm
  | .int, _, _, x, y => x.trans y.symm
  | .real, _, _, x, y => x.trans y.symm
  | .decl _, _, _, x, y => Option.some.inj (x.symm.trans y)
  | .bits _, _, _, x, y => Bk.Bits.uniq x y
noncomputable def BankSt (w : World) (sn sw bn : Addr) (σ : Bk) (fp : Led) : Prop := ∃ on ow ob, fp = [(sn, on), (sw, ow), (bn, ob)] ∧ BkObj w σ on ow ob ∧ σ.Ok
noncomputable def BodyIn (l : Led) : Value → Option It → Prop
  | v, none => v = .none
  | v, some it => IsIt l v it
theorem BodyIn.mono {l l' : Led} (s : Sub l l') : ∀ {v : Value} {b : Option It}, BodyIn l v b → BodyIn l' v b
  | _, none, h => h
  | _, some _, h => IsIt.mono s h
inductive Strs : List Value → List Str → Prop
  | nil : Strs [] []
  | cons {x t vs xs} : Strs vs xs → Strs (.str x t :: vs) (x :: xs)
structure EntryIn (l : Led) (v : Value) (r : Row) (i : Int) : Prop where
  ex : ∃ ea dx es n pa ps t bv, v = .ref ea ∧ (ea, instObj 642 dx) ∈ l ∧ (dx, dictOf es n) ∈ l ∧ getL "sort" es = some (some (.int i t)) ∧ getL "params" es = some (some (.ref pa)) ∧ TupIn l pa ps ∧ Strs ps r.params ∧ getL "body" es = some (some bv) ∧ BodyIn l bv r.body
theorem EntryIn.mono {l l' : Led} (s : Sub l l') {v : Value} {r : Row} {i : Int} (h : EntryIn l v r i) : EntryIn l' v r i := by
  obtain ⟨ea, dx, es, n, pa, ps, t, bv, h1, h2, h3, h4, h5, h6, h7, h8, h9⟩ := h.ex
  exact ⟨ea, dx, es, n, pa, ps, t, bv, h1, s _ h2, s _ h3, h4, h5, h6.mono s, h7, h8, h9.mono s⟩
noncomputable def SortsIn (l : Led) (kvs : List (Str × Value)) (tab : List Row) (dn : Str → Option Int) : Prop :=
  ∀ s, match tab.find? (fun r => decide (r.name = s)) with
    | none => valueAt kvs s = none
    | some r => r.params.length ≤ 2 ∧ ∃ v i, valueAt kvs s = some v ∧ EntryIn l v r i ∧ (r.body = none → dn s = some i)
theorem SortsIn.mono {l l' : Led} (h : Sub l l') {kvs : List (Str × Value)} {tab : List Row} {dn : Str → Option Int} (x : SortsIn l kvs tab dn) : SortsIn l' kvs tab dn := fun s => by
  have := x s
  split at this
  · exact this
  · obtain ⟨a, v, i, b, c, d⟩ := this
    exact ⟨a, v, i, b, c.mono h, d⟩
structure Rdr (w : World) (l : Led) (ra ba sya so sn sw bn : Addr) (tab : List Row) (dn : Str → Option Int) : Prop where
  bank : BankAt l ba sn sw bn
  rd : ∃ dx es n, (ra, instObj 850 dx) ∈ l ∧ (dx, dictOf es n) ∈ l ∧ getL "bank" es = some (some (.ref ba)) ∧ getL "symbols" es = some (some (.ref sya)) ∧
    getL "sort_of_item" es = some none ∧ getL "sort_under" es = some none ∧ getL "sort_named" es = some none ∧ getL "entry_of" es = some none ∧ getL "sort_applied" es = some none
  sy : ∃ dx es n, (sya, instObj 775 dx) ∈ l ∧ (dx, dictOf es n) ∈ l ∧ getL "sorts" es = some (some (.ref so))
  so : ∃ oso kvs, (so, oso) ∈ l ∧ oso.IsDictOf (PySem.strKind PySem.Challenge.rw_nz0158_01.row.prog w) kvs ∧ (so == sysModules) = false ∧ SortsIn l kvs tab dn
theorem BankAt.mono {l l' : Led} (s : Sub l l') {ba sn sw bn : Addr} (h : BankAt l ba sn sw bn) : BankAt l' ba sn sw bn := by
  obtain ⟨dx, es, n, h1, h2, r⟩ := h.ex
  exact ⟨⟨dx, es, n, s _ h1, s _ h2, r⟩, h.lo⟩
theorem Rdr.mono {w : World} {l l' : Led} (s : Sub l l') {ra ba sya so sn sw bn : Addr} {tab : List Row} {dn : Str → Option Int} (h : Rdr w l ra ba sya so sn sw bn tab dn) : Rdr w l' ra ba sya so sn sw bn tab dn := by
  obtain ⟨h1, ⟨d1, e1, n1, a1, a2, a3⟩, ⟨d2, e2, n2, b1, b2, b3⟩, ⟨o, k, c1, c2, c3, c4⟩⟩ := h
  exact ⟨h1.mono s, ⟨d1, e1, n1, s _ a1, s _ a2, a3⟩, ⟨d2, e2, n2, s _ b1, s _ b2, b3⟩, ⟨o, k, s _ c1, c2, c3, c4.mono s⟩⟩
noncomputable def KnownIn (w : World) (l : Led) (σ : Bk) (dn : Str → Option Int) (kd : Addr) (κ : Str → Option Gr) : Prop :=
  ∃ o kvs, (kd, o) ∈ l ∧ o.IsDictOf (PySem.strKind PySem.Challenge.rw_nz0158_01.row.prog w) kvs ∧ (kd == sysModules) = false ∧
    ∀ s, match κ s with
      | none => valueAt kvs s = none
      | some g => ∃ i t, valueAt kvs s = some (.int i t) ∧ Num σ dn g i
theorem KnownIn.up {w : World} {l l' : Led} {σ σ' : Bk} {dn : Str → Option Int} {kd : Addr} {κ : Str → Option Gr} (h : KnownIn w l σ dn kd κ) (s : Sub l l') (u : σ.Le σ') : KnownIn w l' σ' dn kd κ := by
  obtain ⟨o, kvs, h1, h2, h3, h4⟩ := h
  refine ⟨o, kvs, s _ h1, h2, h3, fun x => ?_⟩
  have := h4 x
  split at this
  · exact this
  · obtain ⟨i, t, a, b⟩ := this
    exact ⟨i, t, a, b.up u⟩
inductive ItX (l : Led) (tag : Str) (x : Value) (it : It) : Prop
  | sym (e : tag = "sym") (s : Str) (u : Tok) (h : x = .str s u) (i : it = .sym s) (k : s.length ≤ 64)
  | num (e : tag = "num") (i : Int) (u : Tok) (h : x = .int i u) (i : it = .num i)
  | key (e : tag = "key") (s : Str) (u : Tok) (h : x = .str s u) (i : it = .key s)
  | list (e : tag = "list") (b : Addr) (vs : List Value) (xs : List It) (h : x = .ref b) (i : it = .list xs) (ht : TupIn l b vs) (hi : IsIts l vs xs) (k : vs.length ≤ 64)
inductive ItT (l : Led) (v : Value) (it : It) : Prop
  | mk (a : Addr) (tag : Str) (t : Tok) (x : Value) (e : v = .ref a) (ht : TupIn l a [.str tag t, x]) (z : True) (hx : ItX l tag x it)
theorem IsIt.tup {l : Led} {v : Value} {it : It} (h : IsIt l v it) : ItT l v it :=
  IsIt.rec (motive_1 := fun v it ω => ItT l v it) (motive_2 := fun ω ω ω => True) (fun h k => ⟨_, _, _, _, rfl, h, trivial, .sym rfl _ _ rfl rfl k⟩) (fun h => ⟨_, _, _, _, rfl, h, trivial, .num rfl _ _ rfl rfl⟩) (fun h => ⟨_, _, _, _, rfl, h, trivial, .key rfl _ _ rfl rfl⟩) (fun h1 h2 h3 h4 ω => ⟨_, _, _, _, rfl, h1, trivial, .list rfl _ _ _ rfl rfl h2 h3 h4⟩) trivial (fun ω ω ω ω => trivial) h
inductive ItS (x : Value) (it : It) : Prop
  | mk (s : Str) (u : Tok) (h : x = .str s u) (i : it = .sym s) (k : s.length ≤ 64)
theorem ItX.sy {l : Led} {tag : Str} {x : Value} {it : It} (h : ItX l tag x it) (e : tag = "sym") : ItS x it := by
  cases h with
  | sym _ s u h i k => exact ⟨s, u, h, i, k⟩
  | _ z => exact absurd (e.symm.trans z) (by decide)
inductive ItN (x : Value) (it : It) : Prop
  | mk (w : Int) (u : Tok) (h : x = .int w u) (i : it = .num w)
theorem ItX.nu {l : Led} {tag : Str} {x : Value} {it : It} (h : ItX l tag x it) (e : tag = "num") : ItN x it := by
  cases h with
  | num _ s u h i => exact ⟨s, u, h, i⟩
  | _ z => exact absurd (e.symm.trans z) (by decide)
theorem ItX.noS {l : Led} {tag : Str} {x : Value} {it : It} (h : ItX l tag x it) (n : tag ≠ "sym") (s : Str) : it ≠ .sym s := by
  cases h with
  | sym e => exact absurd e n
  | num _ _ _ _ i => rw [i]; exact nofun
  | key _ _ _ _ i => rw [i]; exact nofun
  | list _ _ _ _ _ i => rw [i]; exact nofun
theorem ItX.noN {l : Led} {tag : Str} {x : Value} {it : It} (h : ItX l tag x it) (n : tag ≠ "num") (w : Int) : it ≠ .num w := by
  cases h with
  | num e => exact absurd e n
  | sym _ _ _ _ i => rw [i]; exact nofun
  | key _ _ _ _ i => rw [i]; exact nofun
  | list _ _ _ _ _ i => rw [i]; exact nofun
theorem ItX.noL {l : Led} {tag : Str} {x : Value} {it : It} (h : ItX l tag x it) (n : tag ≠ "list") (xs : List It) : it ≠ .list xs := by
  cases h with
  | list e => exact absurd e n
  | sym _ _ _ _ i => rw [i]; exact nofun
  | key _ _ _ _ i => rw [i]; exact nofun
  | num _ _ _ _ i => rw [i]; exact nofun
inductive ItL (l : Led) (x : Value) (it : It) : Prop
  | mk (b : Addr) (vs : List Value) (xs : List It) (h : x = .ref b) (i : it = .list xs) (ht : TupIn l b vs) (hi : IsIts l vs xs) (k : vs.length ≤ 64)
theorem ItX.lst {l : Led} {tag : Str} {x : Value} {it : It} (h : ItX l tag x it) (e : tag = "list") : ItL l x it := by
  cases h with
  | list _ b vs xs h i ht hi k => exact ⟨b, vs, xs, h, i, ht, hi, k⟩
  | _ z => exact absurd (e.symm.trans z) (by decide)
theorem it_eq {prog : Program} {w : World} {A : Around} {E : Value → Shared → Prop} {Q : Value → Shared → Prop} {s : Shared} {h₀ : Heap} {L : Addr} {l news : Led} {a T : Addr} {it : It} {nm : Str} {t1 t2 : Tok} (N : News h₀ L s.heap news) (h : IsIt l (.ref a) it) (sb : Sub l news)
    (hT : s.heap.IsTuple T #[.str (Str.ofString "sym") t1, .str nm t2]) (hu : A.units < cLine) (hu1 : A.in1.units < cLine)
    (k : Q (.bool (isSym nm it)) s) : wpAny (model prog w) A (compareOp .Eq (.ref a) (.ref T)) Q E s := by
  obtain ⟨a', tag, t, x, e, ht, _, hx⟩ := h.tup
  cases e
  rcases hx with ⟨rfl, s', u, rfl, rfl, _⟩ | ⟨rfl, i, u, rfl, rfl⟩ | ⟨rfl, s', u, rfl, rfl⟩ | ⟨rfl, b, vs, xs, rfl, rfl, hb, _⟩
  · exact it_eq_sym N ht sb hT hu (EqAt.str_str _ _ _ _) (by simpa [isSym] using k)
  · exact it_eq_sym N ht sb hT hu (EqAt.int_str _ _ _ _) (by simpa [isSym] using k)
  · exact it_eq_sym N ht sb hT hu (EqAt.str_str _ _ _ _) (by rw [show (Str.ofString "key" == Str.ofString "sym") = false from by decide]; simpa [isSym] using k)
  · exact it_eq_sym N ht sb hT hu (EqAt.tuple_str _ _ (hb.isTup N sb) hu1) (by simpa [isSym] using k)
theorem Strs.get {ps : List Value} {rs : List Str} (h : Strs ps rs) : ∀ {j : Nat} {v : Value}, ps[j]? = some v → ∃ x t, v = .str x t ∧ rs[j]? = some x := by
  induction h with
  | nil => intro j v h; simp at h
  | @cons x t vs xs _ ih =>
    intro j v h
    cases j with
    | zero => simp at h; exact ⟨x, t, h.symm, by simp⟩
    | succ j => simp at h; simpa using ih h
theorem readAll_step {f : It → Option (Option Gr)} {x : It} : ∀ {xs : List It} {r : Option (List Gr)}, readAll f xs = some r → ∀ {i : Nat} {gs : List Gr}, readAll f (xs.take i) = some (some gs) → xs[i]? = some x →
    ∃ ri, f x = some ri ∧ (ri = none → r = none) ∧ ∀ g, ri = some g → readAll f (xs.take (i + 1)) = some (some (gs ++ [g])) := by
  intro xs
  induction xs with
  | nil => intro r _ i gs _ hx; exact nomatch hx
  | cons y ys ih =>
    intro r h i gs ht hx
    unfold readAll at h
    cases i with
    | zero =>
      cases Option.some.inj hx; cases ht
      cases hy : f x with
      | none => rw [hy] at h; cases h
      | some ry =>
        refine ⟨ry, rfl, fun e => ?_, fun g e => ?_⟩
        · subst e; rw [hy] at h; exact (Option.some.inj h).symm
        · subst e; show readAll f [x] = _; unfold readAll; rw [hy]; rfl
    | succ i =>
      rw [List.take_succ_cons] at ht ⊢
      unfold readAll at ht ⊢
      cases hy : f y with
      | none => rw [hy] at ht; cases ht
      | some ry =>
        rw [hy] at ht h
        cases ry with
        | none => cases ht
        | some g0 =>
          dsimp only at ht h ⊢
          cases hg : readAll f (ys.take i) with
          | none => rw [hg] at ht; cases ht
          | some rg =>
            rw [hg] at ht
            cases rg with
            | none => cases ht
            | some gs' =>
              cases ht
              cases hr : readAll f ys with
              | none => rw [hr] at h; cases h
              | some rr =>
                rw [hr] at h
                obtain ⟨ri, h1, h2, h3⟩ := ih hr hg hx
                refine ⟨ri, h1, fun e => ?_, fun g e => ?_⟩
                · cases h2 e; exact (Option.some.inj h).symm
                · rw [h3 g e]; rfl
theorem headIs_eq {x0 : It} {r : List It} : headIs "_" (x0 :: r) = isSym "_" x0 := rfl
end
section --M22
open PySem PySem.W PyProof.Rows PySem.Calls PySem.Spec
noncomputable def drop (c : Addr) (l : Led) : Led := l.filter fun p => p.1 != c
theorem mem_drop {c : Addr} {l : Led} {p : Addr × Obj} : p ∈ drop c l ↔ p ∈ l ∧ p.1 ≠ c := by
  unfold drop
  rw [List.mem_filter]
  simp
end
section --M24
open PySem PySem.W PyProof.Rows PySem.Calls PySem.Spec
set_option maxHeartbeats 1000000
noncomputable def DoesK (M : Model) (h₀ : Heap) (fn : Value) (vals : List Value) (d : Nat) (fp l : Led) (P : Value → Led → Led → Prop) : Prop :=
  ∀ {A : Around} {envs : List Env} {fs xs : Led} {s : Shared} {R : Result → Shared → Prop}, Ar A envs fs → Room A d → Has h₀ s.heap fp fs (xs ++ l) →
   (∀ v fp' l' h' tk, P v fp' l' → Has h₀ h' fp' fs (xs ++ l') → Gro xs l l' → R (.ok (.ret v)) { s with heap := h', toks := tk }) →
   codeAny M A (.call fn ⟨vals, []⟩) R s
section
variable {M : Model} {A : Around} {E : Value → Shared → Prop} {s : Shared} {h₀ : Heap} {outer : List Env} {fp fs xs l loc : Led} {env : Env} {L : Addr} {m : Str → Option Value} {fn : Value} {vals : List Value} {d : Nat} {Q : Value → Shared → Prop} {P : Value → Led → Led → Prop}
theorem DoesK.use {R : Result → Shared → Prop} (Cl : DoesK M h₀ fn vals d fp (loc ++ l) P) (F : Fr h₀ L s.heap m) (N : News h₀ L s.heap (loc ++ (fp ++ (fs ++ (xs ++ l)))))
    (hA : A.frames = some (env :: outer)) (hf : env.frame = some L) (hk : env.scope.kind = .function) (Fs : TI.Frs outer fs) (hh : A.handled = none) (hr : Room A d)
    (Z : Ap fp fs (xs ++ l)) (zl : ∀ p ∈ fp ++ fs, ∀ q ∈ loc, q.1 ≠ p.1)
    (hQ : ∀ v fp' l' h' tk, P v fp' l' → Fr h₀ L h' m → News h₀ L h' (fp' ++ (fs ++ (xs ++ l'))) → Ap fp' fs (xs ++ l') → Gro xs (loc ++ l) l' → R (.ok (.ret v)) { s with heap := h', toks := tk }) :
    codeAny M A (.call fn ⟨vals, []⟩) R s := by
  obtain ⟨oL, es, ep, hoL, hdL⟩ := ns_obj F.ns
  have sz : h₀.objs.size ≤ s.heap.objs.size := Nat.le_trans F.above (Nat.le_of_lt F.ns.lt)
  have mem : ∀ p ∈ fp ++ (fs ++ (xs ++ (loc ++ l))), p ∈ loc ++ (fp ++ (fs ++ (xs ++ l))) := fun p hp => by
    simp only [List.mem_append] at hp ⊢
    rcases hp with hp | hp | hp | hp | hp <;> simp [hp]
  refine Cl (A := A) (envs := env :: outer) (fs := (L, oL) :: fs) (xs := xs) ⟨hA, ⟨by rw [hk]; decide, hf, ⟨es, ep, hdL⟩, Fs⟩, hh⟩ hr ⟨F.keep, sz, fun p hp => ?_, ⟨fun p hp q hq => ?_, fun p hp q hq => ?_, Z.dist⟩⟩ ?_
  · have hp' : p = (L, oL) ∨ p ∈ fp ++ (fs ++ (xs ++ (loc ++ l))) := by
      simp only [List.mem_append, List.mem_cons] at hp ⊢
      rcases hp with hp | ((hp | hp) | (hp | (hp | hp))) <;> simp [hp]
    rcases hp' with rfl | hp'
    · exact ⟨hoL, fr_none F⟩
    · exact ⟨(N p (mem p hp')).1, (N p (mem p hp')).2.2⟩
  · have hq' : q ∈ loc ∨ q ∈ xs ++ l := by
      simp only [List.mem_append] at hq ⊢
      rcases hq with hq | hq | hq <;> simp [hq]
    rcases List.mem_append.mp hp with hp | hp
    · rcases hq' with hq' | hq'
      · exact zl p (List.mem_append_left _ hp) q hq'
      · exact Z.ap p (List.mem_append_left _ hp) q hq'
    · rcases List.mem_cons.mp hp with rfl | hp
      · rcases hq' with hq' | hq'
        · exact (N q (List.mem_append_left _ hq')).2.1
        · exact (N q (List.mem_append_right _ (List.mem_append_right _ (List.mem_append_right _ hq')))).2.1
      · rcases hq' with hq' | hq'
        · exact zl p (List.mem_append_right _ hp) q hq'
        · exact Z.ap p (List.mem_append_right _ hp) q hq'
  · rcases List.mem_cons.mp hq with rfl | hq
    · exact fun e => (N p (List.mem_append_right _ (List.mem_append_left _ hp))).2.1 e.symm
    · exact Z.apf p hp q hq
  · intro v fp' l' h' tk hp H hs
    have hL' := H.at_ (L, oL) (List.mem_append_right _ (List.mem_append_left _ (List.mem_cons_self)))
    refine hQ v fp' l' h' tk hp ⟨?_, H.keep, F.above⟩ (fun p hp' => ?_) ⟨fun p hp' q hq => ?_, fun p hp' q hq => ?_, H.apart.dist⟩ hs
    · exact ns_up F.ns hoL hL'.1
    · have hm : p ∈ fp' ++ (((L, oL) :: fs) ++ (xs ++ l')) := by
        simp only [List.mem_append, List.mem_cons] at hp' ⊢
        rcases hp' with hp' | hp' | hp' | hp' <;> simp [hp']
      refine ⟨(H.at_ p hm).1, ?_, (H.at_ p hm).2⟩
      rcases List.mem_append.mp hp' with hp' | hp'
      · exact fun e => H.apart.apf p hp' (L, oL) List.mem_cons_self e.symm
      · rcases List.mem_append.mp hp' with hp' | hp'
        · exact (N p (List.mem_append_right _ (List.mem_append_right _ (List.mem_append_left _ hp')))).2.1
        · exact H.apart.ap (L, oL) (List.mem_append_right _ List.mem_cons_self) p hp'
    · refine H.apart.ap p ?_ q hq
      rcases List.mem_append.mp hp' with hp' | hp'
      · exact List.mem_append_left _ hp'
      · exact List.mem_append_right _ (List.mem_cons_of_mem _ hp')
    · exact H.apart.apf p hp' q (List.mem_cons_of_mem _ hq)
end
section
variable {prog : Program} {w : World} {A : Around} {E : Value → Shared → Prop} {s : Shared} {h₀ : Heap} {envs outer : List Env} {fp fs xs l loc : Led} {Q : Value → Shared → Prop} {R : Result → Shared → Prop} {K : Frag} {env : Env} {L : Addr} {m : Str → Option Value}
  {name qual : Str} {params : Arguments} {body : List Stmt} {scope : Scope} {cl : List (Str × Addr)} {dV kV doc pm cdv ct oc cc : Value} {an od : Option Addr} {osl : Array (Option Value)} {f : Addr} {vals : List Value} {binds : List (Str × Value)}
theorem m_callK (S : Has h₀ s.heap fp fs l) (X₀ : K.In h₀) (hlim : h₀.NoLimit)
    (ho : K.lookup f = some ⟨oc, od, .func (fnX name qual params body scope cl dV kV doc pm an cdv ct), osl⟩) (hcd : codeIn K cdv qual = true) (hroom : A.depth < recursionLimit)
    (hbind : BindsTo s (fnX name qual params body scope cl dV kV doc pm an cdv ct) ⟨vals, []⟩ binds) (hloc : ∀ y ∈ binds, scope.names.lookup y.1 = some .local)
    (h : ∀ L' h₁ tk, Fr h₀ L' h₁ (fun y => binds.reverse.lookup y) → News h₀ L' h₁ (fp ++ (fs ++ l)) → (∀ p ∈ fp ++ (fs ++ l), p.1 < L') →
      wpAny (model prog w) (A.deeper (envX qual scope L' f cdv cl)) (execs body (envX qual scope L' f cdv cl))
        (fun fl s' => R (.ok (.ret (match fl with | .ret v => v | _ => .none))) s')
        (fun e s' => wpAny (model prog w) (A.deeper (envX qual scope L' f cdv cl)) (leaving (envX qual scope L' f cdv cl) e) (fun ω s'' => R (.error e) s'') (fun e' s'' => R (.error e') s'') s')
        { s with heap := h₁, toks := tk })
    (hcell : ∀ x ∈ scope.names, x.2 ≠ .cell) (hco : autoParam (scope.isCoroutine = false) aR) (hgen : autoParam (scope.isGenerator = false) aR) (hk : autoParam (scope.kind = .function) aR) :
    codeAny (model prog w) A (.call (.ref f) ⟨vals, []⟩) R s := by
  refine codeAny_call_def (fd := fnX name qual params body scope cl dV kV doc pm an cdv ct) (body := body) (binds := binds) hroom (S.keep _ _ (X₀ _ _ ho)) rfl (hlim.keeps S.keep) ((codeRec_of X₀ hcd).keeps S.keep) rfl hbind hcell hloc (fun h₁ hns hk₁ => ?_) hco hgen hk
  exact h s.heap.objs.size h₁ _ ⟨hns, fun b o e => hk₁ b o (S.keep b o e), S.size⟩ (fun p hp => ⟨hk₁ _ _ (S.at_ p hp).1, Nat.ne_of_lt (Heap.lt_size (S.at_ p hp).1), (S.at_ p hp).2⟩) (fun p hp => Heap.lt_size (S.at_ p hp).1)
theorem inst_make {C fI : Addr} {rest : List Value} {d : Nat} {P : Addr → Addr → Led → Led → Prop} (F : Fr h₀ L s.heap m) (X₀ : K.In h₀) (N : News h₀ L s.heap (loc ++ (fp ++ (fs ++ (xs ++ l)))))
    (hA : A.frames = some (env :: outer)) (hf : env.frame = some L) (hk : env.scope.kind = .function) (Fs : TI.Frs outer fs) (hh : A.handled = none) (hr : Room A (d + 1))
    (Z : Ap fp fs (xs ++ l)) (zl : ∀ p ∈ fp ++ fs, ∀ q ∈ loc, q.1 ≠ p.1)
    (hm : makesIn K C = true) (hi : findIn K (.ref C) "__init__" = some (some (.ref fI))) (hfi : isFn K (.ref fI) = true)
    (D : ∀ x dx, dx < x → DoesK (model prog w) h₀ (.ref fI) (.ref x :: rest) d [(dx, dictOf [] 0)] [(x, instObj C dx)] (fun r fp' l' => r = .none ∧ fp'.map (·.1) = [dx] ∧ P x dx fp' l'))
    (hQ : ∀ x dx fp' l' h' tk, P x dx fp' l' → Fr h₀ L h' m → News h₀ L h' (loc ++ (fp ++ (fs ++ (xs ++ (fp' ++ (l' ++ l)))))) → Ap fp fs (xs ++ (fp' ++ (l' ++ l))) → Gro xs l (fp' ++ (l' ++ l)) → (∀ q ∈ fp' ++ l', ∀ p ∈ loc ++ (fp ++ (fs ++ (xs ++ l))), p.1 ≠ q.1) → Q (.ref x) { s with heap := h', toks := tk }) :
    wpAny (model prog w) A (call (.ref C) rest) Q E s := by
  refine call_cls F X₀ N hm hi hfi fun x dx h' F' N' lt1 lt2 => ?_
  have hA' : (A.under (.builtin "type.__call__" ⟨.ref C :: rest, []⟩)).frames = some (env :: outer) := by unfold Around.under; simp only [hA]; rfl
  have hx : ∀ p ∈ loc ++ (fp ++ (fs ++ (xs ++ l))), p.1 ≠ x := fun p hp => Nat.ne_of_lt (Nat.lt_trans (lt1 p hp) lt2)
  have hdx : ∀ p ∈ loc ++ (fp ++ (fs ++ (xs ++ l))), p.1 ≠ dx := fun p hp => Nat.ne_of_lt (lt1 p hp)
  have N₁ : News h₀ L h' ([] ++ ([(dx, dictOf [] 0)] ++ (fs ++ ((loc ++ (fp ++ (xs ++ l))) ++ [(x, instObj C dx)])))) := News.sub N' fun p hp => by
    simp only [List.nil_append, List.cons_append, List.mem_cons, List.mem_append, List.not_mem_nil, or_false] at hp ⊢
    rcases hp with hp | hp | (hp | hp | hp | hp) | hp <;> simp [hp]
  have Z₁ : Ap [(dx, dictOf [] 0)] fs ((loc ++ (fp ++ (xs ++ l))) ++ [(x, instObj C dx)]) := by
    refine ⟨fun p hp q hq => ?_, fun p hp q hq => ?_, List.pairwise_singleton _ _⟩
    · have hq' : q = (x, instObj C dx) ∨ q ∈ loc ∨ q ∈ fp ∨ q ∈ xs ++ l := by
        simp only [List.mem_append, List.mem_cons, List.not_mem_nil, or_false] at hq ⊢
        rcases hq with (hq | hq | hq | hq) | hq <;> simp [hq]
      rcases List.mem_append.mp hp with hp | hp
      · obtain rfl := List.mem_singleton.mp hp
        rcases hq' with rfl | hq'
        · exact Nat.ne_of_gt lt2
        · refine hdx q ?_
          simp only [List.mem_append] at hq' ⊢
          rcases hq' with hq' | hq' | hq' | hq' <;> simp [hq']
      · rcases hq' with rfl | hq' | hq' | hq'
        · exact (hx p (by simp [hp])).symm
        · exact zl p (List.mem_append_right _ hp) q hq'
        · exact Ne.symm (Z.apf q hq' p hp)
        · exact Z.ap p (List.mem_append_right _ hp) q hq'
    · obtain rfl := List.mem_singleton.mp hp
      exact hdx q (by simp [hq])
  refine DoesK.use (D x dx lt2) (loc := []) (l := [(x, instObj C dx)]) (xs := loc ++ (fp ++ (xs ++ l))) (env := env) (outer := outer) F' N₁ hA' hf hk Fs hh ⟨by have := hr.1; rw [depth_under_make]; lia, by have := hr.2; rw [units_under_make]; lia⟩ Z₁ zl_nil ?_
  rintro v fp' l' h'' tk ⟨rfl, hfp, hP⟩ F'' N'' Z'' G''
  have hfm : ∀ p ∈ fp', p.1 = dx := fun p hp => by
    have : p.1 ∈ fp'.map (·.1) := List.mem_map_of_mem hp
    rw [hfp] at this
    exact List.mem_singleton.mp this
  have hnew : ∀ q ∈ fp' ++ l', ∀ p ∈ loc ++ (fp ++ (fs ++ (xs ++ l))), p.1 ≠ q.1 := fun q hq p hp => by
    rcases List.mem_append.mp hq with hq | hq
    · rw [hfm q hq]; exact hdx p hp
    · have hp' : p ∈ fs ∨ p ∈ loc ++ (fp ++ (xs ++ l)) := by
        simp only [List.mem_append] at hp ⊢
        rcases hp with hp | hp | hp | hp | hp <;> simp [hp]
      rcases hp' with hp' | hp'
      · exact fun z => Z''.ap p (List.mem_append_right _ hp') q (List.mem_append_right _ hq) z.symm
      · rcases G''.new q hq with z | z
        · have z' : q = (x, instObj C dx) := by simpa using z
          rw [z']; exact hx p hp
        · exact fun e => z p hp' e.symm
  refine ⟨rfl, hQ x dx fp' l' h'' tk hP F'' (News.sub N'' fun p hp => ?_) ⟨fun p hp q hq => ?_, Z.apf, Z.dist⟩ ⟨fun p hp => by simp [hp], fun q hq => ?_⟩ hnew⟩
  · simp only [List.mem_append] at hp ⊢
    rcases hp with hp | hp | hp | hp | hp | hp | hp <;> simp [hp]
  · have hq' : q ∈ xs ++ l ∨ q ∈ fp' ++ l' := by
      simp only [List.mem_append] at hq ⊢
      rcases hq with hq | hq | hq | hq <;> simp [hq]
    rcases hq' with hq' | hq'
    · exact Z.ap p hp q hq'
    · exact (hnew q hq' p (by
        simp only [List.mem_append] at hp ⊢
        rcases hp with hp | hp <;> simp [hp])).symm
  · have hq' : q ∈ l ∨ q ∈ fp' ++ l' := by
      simp only [List.mem_append] at hq ⊢
      rcases hq with hq | hq | hq <;> simp [hq]
    rcases hq' with hq' | hq'
    · exact .inl hq'
    · exact .inr fun x hx => (hnew q hq' x (by simp [hx])).symm
end
end
section --M25
open PySem PySem.W PyProof.Rows PySem.Calls PySem.Spec
set_option maxHeartbeats 1000000
noncomputable def IsMake (h : Heap) (k : Str × Int × Int) (a : Addr) : Prop :=
  ∃ o n e t u v, h.get? a = some o ∧ o.cls = .type "tuple" ∧ o.data = .seq #[.str k.1 t, .ref e, .int k.2.1 u, .int k.2.2 v] n ∧ h.IsTuple e #[]
section
variable {prog : Program} {w : World}
theorem IsMake.typeIs {s : Shared} {k : Str × Int × Int} {a : Addr} (x : IsMake s.heap k a) : s.TypeIs (.ref a) "tuple" := by obtain ⟨o, _, _, _, _, _, ho, hc, _⟩ := x; exact ⟨o, ho, hc⟩
theorem nil_key {h : Heap} {e : Addr} (x : h.IsTuple e #[]) : IsTupleKey (strKind prog w) h [] e := by
  obtain ⟨o, ho, hc, n, hd⟩ := x
  exact ⟨o, #[], n, ho, hc, hd, .nil⟩
theorem IsMake.inj {h : Heap} {a : Addr} {x y : Str × Int × Int} (hx : IsMake h x a) (hy : IsMake h y a) : x = y := by
  obtain ⟨o, n, e, t, u, v, ho, _, hd, _⟩ := hx
  obtain ⟨o', n', e', t', u', v', ho', _, hd', _⟩ := hy
  obtain rfl : o = o' := Option.some.inj (ho.symm.trans ho')
  rw [hd] at hd'
  injection hd' with h1 _
  injection h1 with h1
  injection h1 with h1 h2
  injection h2 with _ h2
  injection h2 with h3 h2
  injection h2 with h4 _
  injection h1 with h1 _
  injection h3 with h3 _
  injection h4 with h4 _
  obtain ⟨x1, x2, x3⟩ := x
  obtain ⟨y1, y2, y3⟩ := y
  dsimp only at h1 h3 h4
  rw [h1, h3, h4]
theorem IsMake.keeps {h h' : Heap} {k : Str × Int × Int} {a d : Addr} {o : Obj} {es ep} (x : IsMake h k a) (ho : h.get? d = some o) (hd : o.data = .dict es ep) (hs : Heap.SameBut d h h') : IsMake h' k a := by
  obtain ⟨o', n, e, t, u, v, ho', hc, hd', o2, he, hce, n2, hde⟩ := x
  have hne : ∀ {b : Addr} {ob : Obj} {items m}, h.get? b = some ob → ob.data = .seq items m → b ≠ d := by
    rintro b ob items m hb hdb rfl
    obtain rfl : ob = o := Option.some.inj (hb.symm.trans ho)
    rw [hd] at hdb; exact nomatch hdb
  exact ⟨o', n, e, t, u, v, (hs.2 a (hne ho' hd')).trans ho', hc, hd', o2, (hs.2 e (hne he hde)).trans he, hce, n2, hde⟩
noncomputable def makeHash (prog : Program) (w : World) (k : Str × Int × Int) : Int :=
  reduceHash (Builtin.Tuple.tupleHashOf [(strKind prog w).hash k.1, tupleKeyHash (strKind prog w) [], (intKind prog w).hash k.2.1, (intKind prog w).hash k.2.2])
variable {A : Around} {E : Value → Shared → Prop} {s : Shared}
theorem make_pyHash {k : Str × Int × Int} {a : Addr} {Q : Int → Shared → Prop} (hu : A.units + 2 < cLine) (hk : IsMake s.heap k a) (h : Q (makeHash prog w k) { s with toks := s.toks + 5 }) : wpAny (model prog w) A (pyHash (.ref a)) Q E s := by
  have hT := hk.typeIs
  obtain ⟨o, n, e, t, u, v, ho, _, hd, he⟩ := hk
  unfold pyHash pyHashByItsType
  refine wpAny_bind (wpAny_cRoomFor_or (.inr (by lia)) ?_)
  refine wpAny_bind (wpAny_specialOf hT F.slot_tuple_hash.lookup ?_)
  show wpAny _ _ (if (some (Value.builtin "tuple.__hash__") == some Value.none) = true then _ else _) Q E s
  rw [if_neg (by rw [beq_builtin_none]; exact Bool.false_ne_true)]
  refine wpAny_bind (wpAny_specialOf hT F.slot_tuple_hash.lookup ?_)
  show wpAny _ _ (callSpecialIfBoundUnlessNone? (.ref a) "__hash__" _ >>= _) Q E s
  refine wpAny_bind (wpAny_callSpecialIfBoundUnlessNone?_slot hT F.slot_tuple_hash (wpAny_call_entry F.slot_tuple_hash hT F.entry_tuple_hash ?_ (F.args_tuple_hash_1 _)))
  show wpAny _ _ (Builtin.Tuple.tupleItemsOf (.ref a) >>= _) _ _ s
  refine wpAny_bind (wpAny_tupleItemsOf ho hd ?_)
  refine wpAny_bind ?_
  rw [← Array.forIn_toList]
  show wpAny _ _ (forIn [Value.str k.1 t, .ref e, .int k.2.1 u, .int k.2.2 v] _ _) _ _ _
  simp only [List.forIn_cons, List.forIn_nil]
  refine wpAny_bind (wpAny_bind ((strKind prog w).pyHash (strKind_is prog w _ _) ?_))
  refine wpAny_pure ?_
  dsimp only
  refine wpAny_bind (wpAny_bind (wpAny_pyHash_tuple (knd := strKind prog w) (by rw [units_in1]; lia) (nil_key he) ?_))
  refine wpAny_pure ?_
  dsimp only
  refine wpAny_bind (wpAny_bind ((intKind prog w).pyHash (intKind_is prog w _ _) ?_))
  refine wpAny_pure ?_
  dsimp only
  refine wpAny_bind (wpAny_bind ((intKind prog w).pyHash (intKind_is prog w _ _) ?_))
  refine wpAny_pure ?_
  dsimp only
  refine wpAny_pure ?_
  show wpAny _ _ (retInt (Builtin.Tuple.tupleHashOf [(strKind prog w).hash k.1, tupleKeyHash (strKind prog w) [], (intKind prog w).hash k.2.1, (intKind prog w).hash k.2.2])) _ _ _
  refine wpAny_ret_mkInt ?_
  unfold makeHash reduceHash at h
  generalize Builtin.Tuple.tupleHashOf [(strKind prog w).hash k.1, tupleKeyHash (strKind prog w) [], (intKind prog w).hash k.2.1, (intKind prog w).hash k.2.2] = H at h ⊢
  show wpAny _ _ (if (decide (-(2 : Int) ^ 63 ≤ H) && decide (H < 2 ^ 63)) = true then _ else _) Q E _
  by_cases hr : (decide (-(2 : Int) ^ 63 ≤ H) && decide (H < 2 ^ 63)) = true
  · rw [if_pos hr]
    rw [if_pos hr] at h
    exact wpAny_pure h
  · rw [if_neg hr]
    rw [if_neg hr] at h
    exact wpAny_bind (wpAny_rule (wpAny_pure h))
theorem make_eq {x y : Str × Int × Int} {a b : Addr} {P : Fin → Shared → Prop} (hu : A.units < cLine) (hx : IsMake s.heap x a) (hy : IsMake s.heap y b) (h : P (.done (.ret (.bool (decide (x = y))))) s) :
    wpAny (model prog w) A (Builtin.«tuple.__eq__» ⟨[.ref a, .ref b], []⟩) P E s := by
  have hTb := hy.typeIs
  obtain ⟨oa, na, ea, ta, ua, va, hoa, _, hda, hea⟩ := hx
  obtain ⟨ob, nb, eb, tb, ub, vb, hob, _, hdb, heb⟩ := hy
  show wpAny _ _ (isInstance (.ref b) (.type "tuple") >>= _) _ _ s
  refine wpAny_bind (wpAny_isInstance hTb isSubtype_tuple_tuple ?_)
  simp only [Bool.not_true, Bool.false_eq_true, if_false]
  refine wpAny_bind (wpAny_tupleItemsOf hoa hda ?_)
  refine wpAny_bind (wpAny_tupleItemsOf hob hdb ?_)
  refine wpAny_bind ?_
  show wpAny _ _ (forIn [(Value.str x.1 ta, Value.str y.1 tb), (.ref ea, .ref eb), (.int x.2.1 ua, .int y.2.1 ub), (.int x.2.2 va, .int y.2.2 vb)] _ _) _ _ _
  simp only [List.forIn_cons, List.forIn_nil]
  have no : x ≠ y → P (.done (.ret (.bool false))) s := fun e => by rwa [decide_eq_false e] at h
  refine wpAny_bind (wpAny_bind ((strKind prog w).eqBool (a := x.1) (b := y.1) (strKind_is prog w _ _) (strKind_is prog w _ _) ?_))
  by_cases e1 : x.1 = y.1
  · rw [if_neg (by simp [e1])]
    refine wpAny_pure ?_
    dsimp only
    refine wpAny_bind (wpAny_bind (wpAny_eqBool_tuple (knd := strKind prog w) (x := []) (y := []) hu (nil_key hea) (nil_key heb) ?_))
    rw [if_neg (by simp)]
    refine wpAny_pure ?_
    dsimp only
    refine wpAny_bind (wpAny_bind ((intKind prog w).eqBool (a := x.2.1) (b := y.2.1) (intKind_is prog w _ _) (intKind_is prog w _ _) ?_))
    by_cases e2 : x.2.1 = y.2.1
    · rw [if_neg (by simp [e2])]
      refine wpAny_pure ?_
      dsimp only
      refine wpAny_bind (wpAny_bind ((intKind prog w).eqBool (a := x.2.2) (b := y.2.2) (intKind_is prog w _ _) (intKind_is prog w _ _) ?_))
      by_cases e3 : x.2.2 = y.2.2
      · rw [if_neg (by simp [e3])]
        refine wpAny_pure ?_
        dsimp only
        refine wpAny_pure ?_
        have e : x = y := by
          obtain ⟨x1, x2, x3⟩ := x
          obtain ⟨y1, y2, y3⟩ := y
          dsimp only at e1 e2 e3
          rw [e1, e2, e3]
        rw [decide_eq_true e] at h
        exact wpAny_pure h
      · rw [if_pos (by simp [e3])]
        exact wpAny_bind (wpAny_pure (wpAny_pure (wpAny_pure (wpAny_pure (no fun e => e3 (by rw [e]))))))
    · rw [if_pos (by simp [e2])]
      exact wpAny_bind (wpAny_pure (wpAny_pure (wpAny_pure (wpAny_pure (no fun e => e2 (by rw [e]))))))
  · rw [if_pos (by simp [e1])]
    exact wpAny_bind (wpAny_pure (wpAny_pure (wpAny_pure (wpAny_pure (no fun e => e1 (by rw [e]))))))
theorem make_eqBool {x y : Str × Int × Int} {a b : Addr} {Q : Bool → Shared → Prop} (hu : A.units + 2 < cLine) (hx : IsMake s.heap x a) (hy : IsMake s.heap y b) (h : Q (decide (x = y)) s) : wpAny (model prog w) A (eqBool (.ref a) (.ref b)) Q E s := by
  unfold eqBool
  try with_reducible refine wpAny_holding ?_
  show wpAny _ _ (if (Value.ref a == Value.ref b) = true then _ else _) Q E s
  by_cases hab : (Value.ref a == Value.ref b) = true
  · rw [if_pos hab]
    have e : a = b := by have := eq_of_beq hab; injection this
    subst e
    obtain rfl := hx.inj hy
    exact wpAny_bind (wpAny_rule (wpAny_pure (by simpa using h)))
  · rw [if_neg hab]
    refine wpAny_bind (wpAny_richCompare_same_room (op := .Eq) hx.typeIs hy.typeIs F.slot_tuple_eq
      (wpAny_call_entry F.slot_tuple_eq hx.typeIs F.entry_tuple_eq (make_eq ?_ hx hy ⟨_, rfl, (fun e => nomatch e), wpAny_truthy_bool h⟩) (F.args_tuple_eq_2 _ _)) (by lia))
    show _ < _
    (try rw [units_in1])
    lia
theorem make_quiet {k : Str × Int × Int} {a : Addr} {Q : Bool → Shared → Prop} (hk : IsMake s.heap k a) (h : Q true s) : wpAny (model prog w) A (eqIsQuiet 8 (.ref a)) Q E s := by
  have hT := hk.typeIs
  obtain ⟨o, n, e, t, u, v, ho, _, hd, he⟩ := hk
  unfold eqIsQuiet
  refine wpAny_bind (wpAny_specialOf hT F.slot_tuple_eq.lookup ?_)
  show wpAny _ _ (isInstance (.ref a) (.type "tuple") >>= _) _ _ s
  refine wpAny_bind (wpAny_isInstance hT isSubtype_tuple_tuple ?_)
  simp only [Bool.not_true, Bool.false_eq_true, if_false]
  refine wpAny_bind (wpAny_seqItems ho hd ?_)
  refine wpAny_bind ?_
  show wpAny _ _ (forIn #[Value.str k.1 t, .ref e, .int k.2.1 u, .int k.2.2 v] _ _) _ _ s
  rw [← Array.forIn_toList]
  show wpAny _ _ (forIn [Value.str k.1 t, .ref e, .int k.2.1 u, .int k.2.2 v] _ _) _ _ s
  simp only [List.forIn_cons, List.forIn_nil]
  have one : ∀ (n : Nat) (x : Value) (R : Bool → Shared → Prop), carriedByValue x = true → R true s → wpAny (model prog w) A (eqIsQuiet n x) R E s := fun n x R hx hr => by
    rw [eqIsQuiet_byValue n hx]; exact wpAny_pure hr
  refine wpAny_bind (wpAny_bind (one _ _ _ rfl ?_))
  simp only [Bool.not_true, Bool.false_eq_true, if_false]
  refine wpAny_pure ?_
  dsimp only
  refine wpAny_bind (wpAny_bind ?_)
  obtain ⟨o2, he2, hce, n2, hde⟩ := he
  have hT2 : s.TypeIs (.ref e) "tuple" := ⟨o2, he2, hce⟩
  unfold eqIsQuiet
  refine wpAny_bind (wpAny_specialOf hT2 F.slot_tuple_eq.lookup ?_)
  show wpAny _ _ (isInstance (.ref e) (.type "tuple") >>= _) _ _ s
  refine wpAny_bind (wpAny_isInstance hT2 isSubtype_tuple_tuple ?_)
  simp only [Bool.not_true, Bool.false_eq_true, if_false]
  refine wpAny_bind (wpAny_seqItems he2 hde ?_)
  refine wpAny_bind ?_
  show wpAny _ _ (forIn (#[] : Array Value) _ _) _ _ s
  rw [← Array.forIn_toList]
  show wpAny _ _ (forIn ([] : List Value) _ _) _ _ s
  simp only [List.forIn_nil]
  refine wpAny_pure (wpAny_pure ?_)
  simp only [Bool.not_true, Bool.false_eq_true, if_false]
  refine wpAny_pure ?_
  dsimp only
  refine wpAny_bind (wpAny_bind (wpAny_pure ?_))
  simp only [Bool.not_true, Bool.false_eq_true, if_false]
  refine wpAny_pure ?_
  dsimp only
  refine wpAny_bind (wpAny_bind (wpAny_pure ?_))
  simp only [Bool.not_true, Bool.false_eq_true, if_false]
  refine wpAny_pure ?_
  dsimp only
  exact wpAny_pure (wpAny_pure h)
end
noncomputable def makeKind (prog : Program) (w : World) : HeapKind prog w (Str × Int × Int) where
  is := IsMake
  hash := makeHash prog w
  draws := fun ω => 5
  room := fun A => A.units + 2 < cLine
  inj := fun hx hy => hx.inj hy
  keeps := fun x ho hd hs => x.keeps ho hd hs
  pyHash := fun hu hk h => make_pyHash hu hk h
  eqBool := fun hu hx hy h => make_eqBool hu hx hy h
  quiet := fun hk h => make_quiet hk h
end
section --M26
open PySem PySem.W PyProof.Rows PySem.Calls PySem.Spec
set_option maxHeartbeats 1000000
noncomputable def MkIn (l : Led) (k : Str × Int × Int) (a : Addr) : Prop := ∃ e t u v, TupIn l a [.str k.1 t, .ref e, .int k.2.1 u, .int k.2.2 v] ∧ TupIn l e []
theorem MkIn.mono {l l' : Led} (s : Sub l l') {k : Str × Int × Int} {a : Addr} (h : MkIn l k a) : MkIn l' k a := by obtain ⟨e, t, u, v, h1, h2⟩ := h; exact ⟨e, t, u, v, h1.mono s, h2.mono s⟩
theorem MkIn.is {h₀ h : Heap} {L : Addr} {l news : Led} {k : Str × Int × Int} {a : Addr} (N : News h₀ L h news) (x : MkIn l k a) (sb : Sub l news) : IsMake h k a := by
  obtain ⟨e, t, u, v, h1, h2⟩ := x
  obtain ⟨o, ho, hc, n, hd⟩ := h1.isTup N sb
  exact ⟨o, n, e, t, u, v, ho, hc, hd, h2.isTup N sb⟩
structure NumO (prog : Program) (w : World) (l : Led) (o : Obj) (xs : List ((Str × Int × Int) × Addr × Value)) : Prop where
  ex : o.ExactDict
  dat : ∃ es ep, o.data = .dict es ep ∧ es.toList = xs.map (entryOfKey (makeKind prog w))
  key : ∀ x ∈ xs, MkIn l x.1 x.2.1
  val : ∀ x ∈ xs, ∃ i t, x.2.2 = .int i t
  nod : (xs.map (·.1)).Nodup
theorem NumO.mono {prog : Program} {w : World} {l l' : Led} (s : Sub l l') {o : Obj} {xs : List ((Str × Int × Int) × Addr × Value)} (h : NumO prog w l o xs) : NumO prog w l' o xs := ⟨h.ex, h.dat, fun x hx => (h.key x hx).mono s, h.val, h.nod⟩
theorem mem_stored_val {K : Type} [DecidableEq K] {xs : List (K × Addr × Value)} {k : K} {a : Addr} {v : Value} {y : K × Addr × Value} (h : y ∈ storedH xs k a v) : (∃ z ∈ xs, y.2.2 = z.2.2) ∨ y.2.2 = v := by
  unfold storedH at h
  split at h
  · obtain ⟨z, hz, rfl⟩ := List.mem_map.mp h
    unfold putAt
    by_cases e : z.1 = k
    · rw [if_pos e]; exact .inr rfl
    · rw [if_neg e]; exact .inl ⟨z, hz, rfl⟩
  · rcases List.mem_append.mp h with h | h
    · exact .inl ⟨y, h, rfl⟩
    · rw [List.mem_singleton.mp h]; exact .inr rfl
section
variable {prog : Program} {w : World} {A : Around} {E : Value → Shared → Prop} {s : Shared} {h₀ : Heap} {L d a : Addr} {m : Str → Option Value} {news l : Led} {o : Obj} {xs : List ((Str × Int × Int) × Addr × Value)} {k : Str × Int × Int}
theorem NumO.at (N : News h₀ L s.heap news) (hm : (d, o) ∈ news) (x : NumO prog w l o xs) (sb : Sub l news) : s.heap.DictOfH (makeKind prog w) d xs := by
  obtain ⟨es, ep, hd, he⟩ := x.dat
  exact ⟨o, es, ep, N.get hm, x.ex, hd, he, fun y hy => (x.key y hy).is N sb, x.nod⟩
theorem num_method {pl : Sem Bool} {Q : Value × List Value → Shared → Prop} (N : News h₀ L s.heap news) (hm : (d, o) ∈ news) (x : NumO prog w l o xs) (h : Q (.builtin "dict.get", [.ref d]) s) : wpAny (model prog w) A (getMethod (.ref d) "get" pl) Q E s :=
  getMethod_builtin (T := "dict") ⟨o, N.get hm, x.ex.1⟩ PySem.F.plainAttrs_dict PySem.F.slot_dict_get PySem.F.type_dict_get (fun b e => by cases e; exact ⟨o, N.get hm, x.ex.2.1⟩) h
theorem num_get {i : Int} {u : Tok} {Q : Value → Shared → Prop} (N : News h₀ L s.heap news) (hm : (d, o) ∈ news) (x : NumO prog w l o xs) (sb : Sub l news) (lo : (d == sysModules) = false) (hu : A.units + 3 < cLine) (hk : MkIn l k a)
    (h : ∀ j t, Q (.int j t) { s with toks := s.toks + 5 }) : wpAny (model prog w) A (call (.builtin "dict.get") [.ref d, .ref a, .int i u]) Q E s := by
  have hD := x.at N hm sb
  refine call_meetsIn PySem.F.slot_dict_get (T := "dict") ⟨o, N.get hm, x.ex.1⟩ PySem.F.entry_dict_get (PySem.F.args_dict_get_3 _ _ _) (meetsH_dict_get_default (makeKind prog w) d a lo (.int i u)) ⟨?_, k, xs, hk.is N sb, hD, ?_⟩
  · show A.in1.units + 2 < cLine
    rw [units_in1]; lia
  · cases hf : (atKey xs k).map (·.2) with
    | none => exact h _ _
    | some v =>
      obtain ⟨p, hp, rfl⟩ := Option.map_eq_some_iff.mp hf
      unfold atKey at hp
      obtain ⟨y, hy, rfl⟩ := Option.map_eq_some_iff.mp hp
      obtain ⟨j, t, e⟩ := x.val y (List.mem_of_find?_eq_some hy)
      show Q y.2.2 _
      rw [e]
      exact h _ _
theorem num_set {j : Int} {t : Tok} {g : Obj → Led} {Q : Unit → Shared → Prop} (F : Fr h₀ L s.heap m) (N : News h₀ L s.heap news) (U : UpdF d o news g) (x : NumO prog w l o xs) (sb : Sub l news) (hu : A.units + 3 < cLine) (hk : MkIn l k a) (hz : xs.length ≤ 2)
    (h : ∀ h' o' xs', Fr h₀ L h' m → News h₀ L h' (g o') → NumO prog w l o' xs' → xs'.length ≤ xs.length + 1 → Q () { s with heap := h', toks := s.toks + 5 }) : wpAny (model prog w) A (setItem (.ref d) (.ref a) (.int j t)) Q E s := by
  obtain ⟨pre, post, rfl, hg, e1, e2⟩ := U.split
  have hm : (d, o) ∈ pre ++ (d, o) :: post := List.mem_append_right _ (.head _)
  have hD := x.at N hm sb
  refine wpAny_setItem_heap (knd := makeKind prog w) ?_ (hk.is N sb) hD (fun h' hm' hs => ?_) (by rw [sizeLine_eq]; lia)
  · show A.in1.units + 2 < cLine
    rw [units_in1]; lia
  · obtain ⟨o', es', ep', ho', hc', hd', he', hk', hn'⟩ := hm'
    have hmm := N _ hm
    refine h h' o' _ (F.change hs hmm.2.1 hmm.2.2) (hg o' ▸ N.setIn e1 e2 hs ho') ⟨hc', ⟨es', ep', hd', he'⟩, fun y hy => ?_, fun y hy => ?_, hn'⟩ ?_
    · rcases mem_storedH hy with ⟨z, hz', q1, q2⟩ | ⟨q1, q2⟩
      · rw [q1, q2]; exact x.key z hz'
      · rw [q1, q2]; exact hk
    · rcases mem_stored_val hy with ⟨z, hz', q⟩ | q
      · rw [q]; exact x.val z hz'
      · rw [q]; exact ⟨j, t, rfl⟩
    · unfold storedH
      split
      · rw [List.length_map]; exact Nat.le_succ _
      · rw [List.length_append]; exact Nat.le_refl _
end
end
section --M28
open PySem PySem.W PyProof.Rows PySem.Calls PySem.Spec
set_option maxHeartbeats 1000000
section
variable {prog : Program} {w : World} {A : Around} {s : Shared} {h₀ : Heap} {fp fs l : Led} {R : Result → Shared → Prop} {K : Frag}
  {name qual : Str} {params : Arguments} {body : List Stmt} {scope : Scope} {dV kV doc pm cdv ct oc : Value} {an od : Option Addr} {osl : Array (Option Value)} {f cc : Addr} {vals : List Value} {binds : List (Str × Value)}
theorem m_callKS (S : Has h₀ s.heap fp fs l) (X₀ : K.In h₀) (hlim : h₀.NoLimit)
    (ho : K.lookup f = some ⟨oc, od, .func (ksFn name qual params body scope dV kV doc pm an cdv ct cc), osl⟩) (hcd : codeIn K cdv qual = true) (hroom : A.depth < recursionLimit)
    (hbind : BindsTo s (ksFn name qual params body scope dV kV doc pm an cdv ct cc) ⟨vals, []⟩ binds) (hloc : ∀ y ∈ binds, scope.names.lookup y.1 = some .local)
    (h : ∀ L' h₁ tk, Fr h₀ L' h₁ (fun y => binds.reverse.lookup y) → News h₀ L' h₁ (fp ++ (fs ++ l)) → (∀ p ∈ fp ++ (fs ++ l), p.1 < L') →
      _root_.PySem.wpAt (model prog w) (A.deeper (ksEnv qual scope L' f cdv cc)) (.func body (ksEnv qual scope L' f cdv cc)) (execs body (ksEnv qual scope L' f cdv cc))
        (fun fl s' => R (.ok (.ret (match fl with | .ret v => v | _ => .none))) s')
        (fun e s' => wpAny (model prog w) (A.deeper (ksEnv qual scope L' f cdv cc)) (leaving (ksEnv qual scope L' f cdv cc) e) (fun ω s'' => R (.error e) s'') (fun e' s'' => R (.error e') s'') s')
        { s with heap := h₁, toks := tk })
    (hcell : ∀ x ∈ scope.names, x.2 ≠ .cell) (hco : autoParam (scope.isCoroutine = false) aR) (hgen : autoParam (scope.isGenerator = false) aR) (hk : autoParam (scope.kind = .function) aR) :
    codeAny (model prog w) A (.call (.ref f) ⟨vals, []⟩) R s := by
  refine ks_codeAny_call_defAt (fd := ksFn name qual params body scope dV kV doc pm an cdv ct cc) (body := body) (binds := binds) hroom (S.keep _ _ (X₀ _ _ ho)) rfl (hlim.keeps S.keep) ((codeRec_of X₀ hcd).keeps S.keep) rfl hbind hcell hloc (fun h₁ hns hk₁ => ?_) hco hgen hk
  exact h s.heap.objs.size h₁ _ ⟨hns, fun b o e => hk₁ b o (S.keep b o e), S.size⟩ (fun p hp => ⟨hk₁ _ _ (S.at_ p hp).1, Nat.ne_of_lt (Heap.lt_size (S.at_ p hp).1), (S.at_ p hp).2⟩) (fun p hp => Heap.lt_size (S.at_ p hp).1)
end
end
section --M29
open PySem PySem.W PyProof.Rows PySem.Calls PySem.Spec
set_option maxHeartbeats 1000000
theorem Ap.mid {fp fs xs l : Led} {q : Addr × Obj} (Z : Ap fp fs (xs ++ l)) (h : ∀ p ∈ fp ++ fs, p.1 < q.1) : Ap fp fs (xs ++ (q :: l)) := ⟨fun p hp r hr => by
  have hr' : r = q ∨ r ∈ xs ++ l := by
    simp only [List.mem_append, List.mem_cons] at hr ⊢
    rcases hr with hr | hr | hr <;> simp [hr]
  rcases hr' with rfl | hr
  · exact Nat.ne_of_gt (h p hp)
  · exact Z.ap p hp r hr, Z.apf, Z.dist⟩
theorem Gro.new1 {q : Addr × Obj} {xs l : Led} (h : ∀ x ∈ xs, x.1 < q.1) : Gro xs l (q :: l) := ⟨fun p hp => List.mem_cons_of_mem _ hp, fun r hr => by
  rcases List.mem_cons.mp hr with rfl | hr
  · exact .inr fun x hx => Nat.ne_of_gt (h x hx)
  · exact .inl hr⟩
end
section --M30
open PySem PySem.W PyProof.Rows PySem.Calls PySem.Spec
set_option maxHeartbeats 1000000
noncomputable def TLNext (h₀ : Heap) (L : Addr) (own news : Led) (J : (Str → Option Value) → Prop) (s₁ : Shared) (f : Flow) (s4 : Shared) : Prop :=
  f = .next ∧ ∃ h' tk m₂, s4 = { s₁ with heap := h', toks := tk } ∧ Fr h₀ L h' m₂ ∧ News h₀ L h' (own ++ news) ∧ J m₂
theorem tuple_loop {prog : Program} {w : World} {A : Around} {E : Value → Shared → Prop} {s : Shared} {h₀ : Heap} {env : Env} {L pa : Addr} {m : Str → Option Value} {news l : Led} {vs : List Value} {x : Str} {px : Pos} {body : List Stmt} {Q : Flow → Shared → Prop} (J : Nat → (Str → Option Value) → Prop)
    (hh : A.handled = none) (hL : env.locals = L) (F : Fr h₀ L s.heap m) (N : News h₀ L s.heap news) (ht : TupIn l pa vs) (sb : Sub l news) (h0 : J 0 m)
    (step : ∀ i v m₁ (s₁ : Shared) own, vs[i]? = some v → J i m₁ → Fr h₀ L s₁.heap m₁ → News h₀ L s₁.heap (own ++ news) →
      wpAny (model prog w) A (assign (.Name x px) env v) (fun ω s₃ => wpAny (model prog w) A (execs body env) (TLNext h₀ L own news (J (i + 1)) s₁) E s₃) E s₁)
    (hQ : ∀ h' tk m', Fr h₀ L h' m' → News h₀ L h' news → J vs.length m' → Q .next { s with heap := h', toks := tk }) :
    wpAny (model prog w) A (pyIter (.ref pa)) (fun it s₂ => LoopAtT prog w A h₀ env (.Name x px) body Q E it s₂) E s := by
  subst hL
  have hsrc := ht.isTup N sb
  obtain ⟨o, n, hm, hc, hd⟩ := id ht
  have hpl := Heap.lt_size (N _ (sb _ hm)).1
  have up : ∀ b o, s.heap.get? b = some o → (s.heap.push { cls := .type "tuple_iterator", data := .fields #[.ref pa, .int 0 0] }).get? b = some o := fun b o e => Heap.get?_push_of_some _ e
  refine wpAny_pyIter_tuple hsrc ?_
  refine ⟨s.heap.objs.size, [s.heap.objs.size, pa], [s.heap.objs.size], vs.length, _, _, m, news, fun i m' news' => news' = news ∧ J i m', rfl, Walks.tupL hh s.heap.objs.size pa (Nat.ne_of_lt hpl) vs, fun hl => ?_, fun b hb => ?_, fun p hp hb => ?_, ⟨⟨_, Heap.get?_push_size _ rfl, rfl, rfl⟩, hsrc.push _⟩, F.keeps up, N.grown up, fun i s' v Q' a b => ?_, ⟨rfl, h0⟩, ?_, ?_⟩
  · simp only [List.mem_cons, List.not_mem_nil, or_false] at hl
    rcases hl with hl | hl
    · exact absurd hl (Nat.ne_of_lt F.ns.lt)
    · exact (N _ (sb _ hm)).2.1 hl.symm
  · rw [List.mem_singleton.mp hb]; exact fr_new F (Nat.le_refl _)
  · have := Heap.lt_size (N p hp).1
    rw [List.mem_singleton.mp hb] at this
    exact Nat.lt_irrefl _ this
  · unfold letOwnedTupleGo
    exact wpAny_pure b
  · rintro i v m₁ news₁ s₁ own _ hv ⟨rfl, hj⟩ hnw _ _ _ _ F₁ N₁
    refine wpAny_mono (step i v m₁ s₁ own hv hj F₁ N₁) (fun ω s₃ h3 => wpAny_mono h3 (fun f s4 h4 => ?_) fun ω ω e => e) fun ω ω e => e
    obtain ⟨rfl, h', tk, m₂, rfl, F₂, N₂, hj₂⟩ := h4
    exact LoopStepU.intro F₂ N₂ hnw ⟨rfl, hj₂⟩
  · rintro h' tk m' news' F' N' _ ⟨rfl, hj⟩
    exact hQ h' tk m' F' N' hj
end
section --N1
open PySem PySem.W PyProof.Rows PySem.Calls PySem.Spec
set_option maxHeartbeats 1000000
theorem sz_le {n : Nat} (h : Nat.ble n 1000 = true) : n ≤ sizeLine := Nat.le_trans (Nat.le_of_ble_eq_true h) (by decide)
structure Gl where
  w : World
  h₀ : Heap
  p : Program
  loose : List Str
  mean : ExcName → Option Value
  mg : Str → Option Value
  mb : Str → Option Value
  X : (K0.heap_1 w.params).In h₀
  T : Top p loose mean mg mb h₀
noncomputable abbrev Gl.M (G : Gl) : Model := model PG G.w
structure Cx (G : Gl) (cs : Scope) where
  A : Around
  cn : Str
  fa : Addr
  cd : Value
  L : Addr
  g : Array GenState
  dr : Drawn
  os : OsState
  outer : List Env
  fs : Led
  xs : Led
  l₀ : Led
  Q0 : Value → Shared → Prop
  E0 : Value → Shared → Prop
section
variable {G : Gl} {cs : Scope}
noncomputable abbrev Cx.env (c : Cx G cs) : Env := envX c.cn cs c.L c.fa c.cd (cellsFrom (c.L + 1) cs.names [])
noncomputable abbrev Cx.S (c : Cx G cs) (h : Heap) (tk : Nat) : Shared := ⟨h, c.g, c.dr, tk, c.os⟩
noncomputable def retV : Flow → Value
  | .ret v => v
  | _ => .none
noncomputable def Cx.Q (c : Cx G cs) : Flow → Shared → Prop := fun fl s' => c.Q0 (retV fl) s'
noncomputable def Cx.E (c : Cx G cs) : Value → Shared → Prop := fun e s' => wpAny G.M c.A (leaving c.env e) (fun ω s'' => c.E0 e s'') (fun e' s'' => c.E0 e' s'') s'
structure At (c : Cx G cs) (m : Str → Option Value) (fp l : Led) (h : Heap) : Prop where
  F : Fr G.h₀ c.L h m
  N : News G.h₀ c.L h (fp ++ (c.fs ++ (c.xs ++ l)))
  Z : Ap fp c.fs (c.xs ++ l)
  G : Gro c.xs c.l₀ l
structure Live (c : Cx G cs) (d : Nat) : Prop where
  fr : c.A.frames = some (c.env :: c.outer)
  Fs : TI.Frs c.outer c.fs
  hh : c.A.handled = none
  room : Room c.A d
  hk : cs.kind = .function
noncomputable def Ev (c : Cx G cs) (h : Heap) (e : Expr) (f : Tok → Value) : Prop :=
  ∀ (Q : Value → Shared → Prop) (E : Value → Shared → Prop) (tk : Nat), (∀ t tk', Q (f t) (c.S h tk')) → wpAny G.M c.A (eval e c.env) Q E (c.S h tk)
noncomputable def Te (c : Cx G cs) (h : Heap) (e : Expr) (b : Bool) : Prop :=
  ∀ (whole : Sem Value) (Q : Bool → Shared → Prop) (E : Value → Shared → Prop) (tk : Nat), (∀ tk', Q b (c.S h tk')) → wpAny G.M c.A (isTrue e c.env whole) Q E (c.S h tk)
structure Run (c : Cx G cs) (Q : Flow → Shared → Prop) (h : Heap) (b : List Stmt) : Prop where
  go : ∀ tk, wpAny G.M c.A (execs b c.env) Q c.E (c.S h tk)
structure Ex (c : Cx G cs) (h : Heap) (e : Expr) (Q : Value → Shared → Prop) : Prop where
  go : ∀ tk, wpAny G.M c.A (eval e c.env) Q c.E (c.S h tk)
structure TeX (c : Cx G cs) (h : Heap) (e : Expr) (Q : Bool → Shared → Prop) : Prop where
  go : ∀ (whole : Sem Value) tk, wpAny G.M c.A (isTrue e c.env whole) Q c.E (c.S h tk)
noncomputable def Rets (c : Cx G cs) (Q : Flow → Shared → Prop) (P : Value → Led → Led → Prop) : Prop := ∀ {v m fp' l' h} tk, P v fp' l' → At c m fp' l' h → Q (.ret v) (c.S h tk)
noncomputable def Sq (c : Cx G cs) (Q : Flow → Shared → Prop) (rest : List Stmt) : Flow → Shared → Prop := fun f s' => match f with
  | .next => wpAny G.M c.A (execs rest c.env) Q c.E s'
  | f => Q f s'
noncomputable def Exs (c : Cx G cs) (X : Value → Led → Led → Prop) : Prop :=
  ∀ {e C fp' fs' l' h tk}, X C fp' l' → Fly G.h₀ c.outer e C h fp' fs' (c.xs ++ l') → TI.SameUp c.fs fs' → Gro c.xs c.l₀ l' → c.E0 (.ref e) (c.S h tk)
variable {c : Cx G cs} {m : Str → Option Value} {fp l : Led} {h : Heap} {x : Str} {p p' p'' : Pos} {v : Value} {f : Tok → Value} {e e₁ e₂ : Expr} {d : Nat}
theorem ev_loc (W : At c m fp l h) (hm : m x = some v) (hk : autoParam (cs.kind = .function) aR) (hx : autoParam (cs.names.lookup x = some .local) aR) (hd : autoParam ((x == ("__debug__" : Str)) = false) aD) : Ev c h (.Name x p) (fun ω => v) :=
  fun ω ω ω q => nameX_L (s := c.S h _) W.F hm (q 0 _) hk hx hd
theorem ev_locT {t : Tok} (W : At c m fp l h) (hm : m x = some (f t)) (hk : autoParam (cs.kind = .function) aR) (hx : autoParam (cs.names.lookup x = some .local) aR) (hd : autoParam ((x == ("__debug__" : Str)) = false) aD) : Ev c h (.Name x p) f :=
  fun ω ω ω q => nameX_L (s := c.S h _) W.F hm (q t _) hk hx hd
theorem ev_int {i : Int} {j : Nat} : Ev c h (.Constant (.int i) j p) (fun t => .int i t) := fun ω ω ω q => wpAny_Constant_int (q _ _)
theorem ev_str {y : Str} {j : Nat} : Ev c h (.Constant (.str y) j p) (fun t => .str y t) := fun ω ω ω q => Constant_str (q _ _)
theorem ev_none {j : Nat} : Ev c h (.Constant .none j p) (fun ω => .none) := fun ω ω ω q => wpAny_Constant_none (q 0 _)
theorem ev_sub_aux {A : Around} {a : Addr} {vs : List Value} {s : Shared} {E : Value → Shared → Prop} {Q : Value → Shared → Prop} {value : Expr} {k : Int} {u : Tok} {ii : Nat} {pp : Pos} {j : Nat} (ht : IsTup s.heap a vs.toArray) (hlo : -(2 ^ 63) ≤ k) (hhi : k < 2 ^ 63) (hj : seqIndex? k vs.length = some j) (hx : vs[j]? = some v) (q : Q v s) :
    wpAny G.M A (subscriptTail value (.Constant (.int k) ii pp) (.ref a) (.int k u)) Q E s := item_tupleT ht hlo hhi hj hx q
theorem seq_at {vs : List Value} {k : Int} {j : Nat} (hk : k = (j : Int)) (hx : vs[j]? = some v) : seqIndex? k vs.length = some j := by
  subst hk
  exact seqIdx_at (Int.natCast_nonneg j) (Int.ofNat_lt.mpr (List.getElem?_eq_some_iff.mp hx).1)
theorem ev_item {a : Addr} {vs : List Value} {k : Int} {ii j : Nat} (W : At c m fp l h) (e1 : Ev c h e₁ (fun ω => .ref a)) (ht : TupIn l a vs) (hx : vs[j]? = some v) (hk : autoParam (k = (j : Int)) aR) (hhi : autoParam (k < 2 ^ 63) aD) :
    Ev c h (.Subscript e₁ (.Constant (.int k) ii p) p') (fun ω => v) := fun ω ω ω q => Subscript_ (e1 _ _ _ fun ω ω => wpAny_Constant_int (ev_sub_aux (ht.isTup W.N (Sub.app (Sub.app (Sub.app (Sub.refl l))))) (by subst hk; exact Int.le_trans (by decide) (Int.natCast_nonneg j)) hhi (seq_at hk hx) hx (q 0 _)))
theorem ev_itemT {a : Addr} {vs : List Value} {k : Int} {ii j : Nat} {t : Tok} (W : At c m fp l h) (e1 : Ev c h e₁ (fun ω => .ref a)) (ht : TupIn l a vs) (hx : vs[j]? = some (f t)) (hk : autoParam (k = (j : Int)) aR) (hhi : autoParam (k < 2 ^ 63) aD) :
    Ev c h (.Subscript e₁ (.Constant (.int k) ii p) p') f := fun ω ω ω q => Subscript_ (e1 _ _ _ fun ω ω => wpAny_Constant_int (ev_sub_aux (ht.isTup W.N (Sub.app (Sub.app (Sub.app (Sub.refl l))))) (by subst hk; exact Int.le_trans (by decide) (Int.natCast_nonneg j)) hhi (seq_at hk hx) hx (q t _)))
theorem te_cmp {op : CmpOp} {f₁ f₂ : Tok → Value} {b : Bool} (e1 : Ev c h e₁ f₁) (e2 : Ev c h e₂ f₂) (k : ∀ t₁ t₂ tk Q E, (∀ tk', Q (.bool b) (c.S h tk')) → wpAny G.M c.A (compareOp op (f₁ t₁) (f₂ t₂)) Q E (c.S h tk)) (hm : autoParam (behindInMarks op e₂ = false) aW) :
    Te c h (.Compare e₁ [op] [e₂] p) b := fun ω ω ω ω q => wpAny_isTrue_Compare1 (e1 _ _ _ fun ω ω => e2 _ _ _ fun ω ω => k _ _ _ _ _ fun ω => wpAny_truthy_bool (q _)) hm
theorem te_eqS {y z : Str} (e1 : Ev c h e₁ (fun t => .str y t)) (e2 : Ev c h e₂ (fun t => .str z t)) (hm : autoParam (behindInMarks .Eq e₂ = false) aW) : Te c h (.Compare e₁ [.Eq] [e₂] p) (y == z) :=
  te_cmp e1 e2 (fun ω ω ω ω ω q => eq_str (q _)) hm
theorem te_neS {y z : Str} (e1 : Ev c h e₁ (fun t => .str y t)) (e2 : Ev c h e₂ (fun t => .str z t)) (hm : autoParam (behindInMarks .NotEq e₂ = false) aW) : Te c h (.Compare e₁ [.NotEq] [e₂] p) (y != z) :=
  te_cmp e1 e2 (fun ω ω ω ω ω q => ne_str (q _)) hm
theorem te_eqI {y z : Int} (e1 : Ev c h e₁ (fun t => .int y t)) (e2 : Ev c h e₂ (fun t => .int z t)) (hm : autoParam (behindInMarks .Eq e₂ = false) aW) : Te c h (.Compare e₁ [.Eq] [e₂] p) (y == z) :=
  te_cmp e1 e2 (fun ω ω ω ω ω q => eq_int (q _)) hm
noncomputable def notStar : Expr → Bool
  | .Starred .. => false
  | _ => true
theorem star_of {e : Expr} {es : List Expr} {env : Env} (h : notStar e = true) : starEach (e :: es) env = (false, eval e env) :: starEach es env := by
  cases e <;> first | rfl | cases h
theorem call_name {x : Str} {p pos : Pos} {args : List Expr} {env : Env} : eval (.Call (.Name x p) args [] pos) env = (do callWith pos (← eval (.Name x p) env) [] (backTo pos (starEach args env)) (backToKw pos (keywordEach [] env))) := rfl
variable {Q : Flow → Shared → Prop} {P X : Value → Led → Led → Prop} {rest bt bf : List Stmt} {b : Bool} {a : Expr} {txt : Str}
theorem Rets.sq (R : Rets c Q P) : Rets c (Sq c Q rest) P := fun tk p W => R tk p W
theorem run_next (h1 : Run c Q h rest) : Run c (Sq c Q rest) h [] := ⟨fun tk => wpAny_execs_nil (h1.go tk)⟩
theorem run_nil (h1 : ∀ tk, Q .next (c.S h tk)) : Run c Q h [] := ⟨fun tk => wpAny_execs_nil (h1 tk)⟩
theorem Run.cons {st : Stmt} (h1 : ∀ tk, wpAny G.M c.A (exec st c.env) (Sq c Q rest) c.E (c.S h tk)) : Run c Q h (st :: rest) := ⟨fun tk => wpAny_execs_cons (wpAny_mono (h1 tk) (fun f s' q => by cases f <;> exact q) fun ω ω e => e)⟩
theorem run_if (t : Te c h e b) (h1 : b = true → Run c (Sq c Q rest) h bt) (h2 : b = false → Run c Q h rest) : Run c Q h (.If e bt [] p :: rest) :=
  Run.cons fun tk => wpAny_If (t _ _ _ _ fun tk' => by
    cases b with
    | true => exact (h1 rfl).go tk'
    | false => exact (run_next (h2 rfl)).go tk')
theorem run_ifX (t : TeX c h e fun b s' => if b then wpAny G.M c.A (execs bt c.env) (Sq c Q rest) c.E s' else wpAny G.M c.A (execs bf c.env) (Sq c Q rest) c.E s') : Run c Q h (.If e bt bf p :: rest) :=
  Run.cons fun tk => wpAny_If (t.go _ tk)
theorem run_ret (R : Rets c Q P) (e1 : Ev c h e f) (W : At c m fp l h) (q : ∀ t, P (f t) fp l) : Run c Q h (.Return (some e) p :: rest) :=
  Run.cons fun tk => wpAny_Return_some (e1 _ _ _ fun t tk' => R tk' (q t) W)
theorem run_retX (e1 : Ex c h e fun v => Sq c Q rest (.ret v)) : Run c Q h (.Return (some e) p :: rest) := Run.cons fun tk => wpAny_Return_some (e1.go tk)
theorem run_retN (R : Rets c Q P) (W : At c m fp l h) (q : P .none fp l) : Run c Q h (.Return none p :: rest) := Run.cons fun tk => wpAny_Return_none (R tk q W)
noncomputable abbrev up (m : Str → Option Value) (x : Str) (v : Value) : Str → Option Value := fun y => if y = x then some v else m y
theorem store_at {Q : Unit → Shared → Prop} {tk : Nat} (W : At c m fp l h) (k : ∀ h', At c (up m x v) fp l h' → ∀ tk', Q () (c.S h' tk')) (hk : autoParam (cs.kind = .function) aR) (hx : autoParam (cs.names.lookup x = some .local) aR) : wpAny G.M c.A (storeName c.env x v) Q c.E (c.S h tk) :=
  storeX_L (s := c.S h tk) W.F W.N (fun h' F' N' => k h' ⟨F', N', W.Z, W.G⟩ _) hk hx
theorem store_run {tk : Nat} (W : At c m fp l h) (k : ∀ h', At c (up m x v) fp l h' → Run c Q h' rest) (hk : autoParam (cs.kind = .function) aR) (hx : autoParam (cs.names.lookup x = some .local) aR) : wpAny G.M c.A (storeName c.env x v) (fun ω => Sq c Q rest .next) c.E (c.S h tk) :=
  store_at W (fun h' W' tk' => (k h' W').go tk') hk hx
theorem run_setX (e1 : Ex c h e fun v s₁ => wpAny G.M c.A (storeName c.env x v) (fun ω => Sq c Q rest .next) c.E s₁) (hs : autoParam (∀ line, swapsWith e (some (.Name x p')) line c.env = pure false) aI) : Run c Q h (.Assign [.Name x p'] e p :: rest) :=
  Run.cons fun tk => wpAny_Assign_Name (e1.go tk) (hs _)
theorem run_set (W : At c m fp l h) (e1 : Ev c h e f) (k : ∀ t h', At c (up m x (f t)) fp l h' → Run c Q h' rest) (hk : autoParam (cs.kind = .function) aR) (hx : autoParam (cs.names.lookup x = some .local) aR) (hs : autoParam (∀ line, swapsWith e (some (.Name x p')) line c.env = pure false) aI) : Run c Q h (.Assign [.Name x p'] e p :: rest) :=
  run_setX ⟨fun tk => e1 _ _ _ fun t tk' => store_at W (fun h' W' tk'' => (k t h' W').go tk'') hk hx⟩ hs
theorem int_text {y : Int} (hy : y.natAbs < 10 ^ 10) : (Str.ofString (toString y)).length ≤ 4096 := by
  rw [PySem.ofString_length]
  exact Nat.le_trans (int_text_length_le10 (k := 10) (by decide) hy) (by decide)
theorem int_log {y : Int} (hy : y.natAbs < 10 ^ 10) : y.natAbs.log2 < 1920 := by
  by_cases h0 : y.natAbs = 0
  · rw [h0]; decide
  · exact Nat.lt_of_lt_of_le ((Nat.log2_lt h0).mpr (Nat.lt_trans hy (by decide : 10 ^ 10 < 2 ^ 34))) (by decide)
noncomputable def Es (c : Cx G cs) (h : Heap) (e : Expr) : Prop := ∀ (Q : Value → Shared → Prop) (E : Value → Shared → Prop) (tk : Nat), (∀ y t tk', Q (.str y t) (c.S h tk')) → wpAny G.M c.A (eval e c.env) Q E (c.S h tk)
noncomputable def Js (c : Cx G cs) (h : Heap) (ps : List Expr) : Prop := ∀ (Q : Value → Shared → Prop) (E : Value → Shared → Prop) (tk : Nat) (out : Str), out.length + 4096 * ps.length ≤ sizeLine → (∀ y t tk', Q (.str y t) (c.S h tk')) → wpAny G.M c.A (joinParts out (evalEach ps c.env)) Q E (c.S h tk)
theorem js_nil : Js c h [] := fun Q E tk out hz q => joinParts_nil (q _ _ _) (by simpa using hz)
theorem js_part {y : Str} {ps : List Expr} (hy : y.length ≤ 4096) (e1 : ∀ (Q : Value → Shared → Prop) (E : Value → Shared → Prop) (tk : Nat), (∀ t tk', Q (.str y t) (c.S h tk')) → wpAny G.M c.A (eval e c.env) Q E (c.S h tk)) (J : Js c h ps) : Js c h (e :: ps) := fun Q E tk out hz q => by
  have hl : (out ++ y).length = out.length + y.length := strLen_append _ _
  have hz' : out.length + 4096 * (ps.length + 1) ≤ sizeLine := hz
  exact joinParts_cons (e1 _ _ _ fun t tk' => ⟨by rw [hl]; lia, J _ _ _ _ (by rw [hl]; lia) q⟩)
theorem js_lit {y : Str} {j : Nat} {ps : List Expr} (J : Js c h ps) (hy : autoParam (y.length ≤ 4096) aD) : Js c h (.Constant (.str y) j p :: ps) := js_part hy (fun Q E tk q => Constant_str (q _ _)) J
theorem js_str {y : Str} {ps : List Expr} (e1 : Ev c h e (fun t => .str y t)) (hy : y.length ≤ 4096) (J : Js c h ps) : Js c h (.FormattedValue e (-1) none p :: ps) :=
  js_part hy (fun Q E tk q => FormattedValue_plain (e1 _ _ _ fun t tk' => formatField_str (fun t' tk'' => q t' tk'') (Nat.le_trans hy (by rw [sizeLine_eq]; decide)))) J
theorem js_int {y : Int} {ps : List Expr} (e1 : Ev c h e (fun t => .int y t)) (hy : y.natAbs < 10 ^ 10) (J : Js c h ps) : Js c h (.FormattedValue e (-1) none p :: ps) :=
  js_part (y := Str.ofString (toString y)) (int_text hy) (fun Q E tk q => FormattedValue_plain (e1 _ _ _ fun t tk' => formatField_int_small (int_log hy) (q _ _))) J
theorem es_join {ps : List Expr} {e₃ : Expr} (J : Js c h (e₂ :: e₃ :: ps)) (hp : autoParam (ps.length ≤ 100) aD) : Es c h (.JoinedStr (e₂ :: e₃ :: ps) p) := fun Q E tk q => JoinedStr_many (J Q E tk Str.empty (by rw [sizeLine_eq]; simp only [List.length_cons]; have : Str.empty.length = 0 := rfl; lia) q)
theorem es_lit {y : Str} {j : Nat} : Es c h (.Constant (.str y) j p) := fun Q E tk q => Constant_str (q _ _ _)
theorem call_glob {fa : Addr} {args : List Expr} {Q : Value → Shared → Prop} {a₀ : Expr} (W : At c m fp l h) (hn : nsIn (K0.heap_1 G.w.params) mainGlobals x = some (some (.ref fa))) (hkp : keepIn (K0.heap_1 G.w.params) (.ref fa) = true)
    (k : ∀ tk, wpAny G.M c.A (spliced (backTo p' (starEach (a₀ :: args) c.env))) (fun vs s₁ => (K0.heap_1 G.w.params).In s₁.heap ∧ wpAny G.M c.A (call (.ref fa) vs) Q c.E s₁) c.E (c.S h tk))
    (hk : autoParam (cs.kind = .function) aR) (hx : autoParam (cs.names.lookup x = some .globalImplicit) aR) (hd : autoParam ((x == ("__debug__" : Str)) = false) aD) (hpl : autoParam ((backTo p' (starEach args c.env)).any (·.1) = false) aR) (he : autoParam (notStar a₀ = true) aR) : Ex c h (.Call (.Name x p) (a₀ :: args) [] p') Q := ⟨fun tk =>
  Call_ (nameX_K (s := c.S h tk) W.F G.X (topRead_of G.T) hn (callWith_K G.X hkp (k tk) (star_of he) hpl) hk hx hd) call_name⟩
theorem raise_at {C : Addr} {tk : Nat} {t : Tok} (V : Live c d) (hd : 3 ≤ d) (W : At c m fp l h) (hC : C = 67 ∨ C = 86) (EX : Exs c X) (hx : X (.ref C) fp l) :
    wpAny G.M c.A (call (.ref C) [.str txt t]) (fun v s₁ => ∃ e t od, v = .ref e ∧ ExcAt s₁.heap C "Exception.__new__" ∧ s₁.heap.get? e = some { cls := .ref C, dict := od, data := .fields #[.ref t, .none, .none, .none, .bool false, .none] } ∧ c.E (.ref e) s₁) c.E (c.S h tk) :=
  raise_call (s := c.S h tk) (loc := []) G.X G.T hC W.F W.N V.fr rfl V.hk V.Fs V.hh (V.room.mono hd) W.Z zl_nil fun e t od h' tk' h1 h2 h3 => ⟨e, t, od, rfl, h1, h2, h3 fun fs' h'' x y => EX hx x y W.G⟩
theorem run_raise {C : Addr} (V : Live c d) (W : At c m fp l h) (hC : C = 67 ∨ C = 86) (hn : nsIn (K0.heap_1 G.w.params) mainGlobals x = some (some (.ref C))) (hkp : keepIn (K0.heap_1 G.w.params) (.ref C) = true) (ea : Es c h a) (EX : Exs c X) (hx : X (.ref C) fp l) (hd : autoParam (3 ≤ d) aD)
    (hk : autoParam (cs.kind = .function) aR) (hl : autoParam (cs.names.lookup x = some .globalImplicit) aR) (hdd : autoParam ((x == ("__debug__" : Str)) = false) aD) (he : autoParam (notStar a = true) aR) :
    Run c Q h (.Raise (some (.Call (.Name x p) [a] [] p')) none p'' :: rest) :=
  Run.cons fun tk => exc_Raise (C := C) (nid := "Exception.__new__") V.hh ((call_glob W hn hkp (fun tk => args_cons (ea _ _ _ fun y t tk' => args_nil ⟨(G.X.keeps W.F.keep), raise_at V hd W hC EX hx⟩) (star_of he)) hk hl hdd rfl he).go tk)
theorem run_end (R : Rets c c.Q P) (W : At c m fp l h) (q : P .none fp l) : Run c c.Q h [] := run_nil fun tk => R tk q W
theorem use {fn : Value} {vals : List Value} {d' : Nat} {P' X' : Value → Led → Led → Prop} {Q : Value → Shared → Prop} (V : Live c d) (W : At c m fp l h) (Cl : Does G.M G.h₀ fn vals d' fp l P' X') (EX : Exs c X)
    (kx : ∀ C fp' l', X' C fp' l' → Sub l l' → X C fp' l') (k : ∀ v fp' l', P' v fp' l' → ∀ h', Gro c.xs l l' → At c m fp' l' h' → ∀ tk, Q v (c.S h' tk)) (hd : autoParam (d' ≤ d) aD) :
    ∀ tk, wpAny G.M c.A (call fn vals) Q c.E (c.S h tk) := fun tk =>
  Does.use (s := c.S h tk) (loc := []) Cl W.F W.N V.fr rfl V.hk V.Fs V.hh (V.room.mono hd) W.Z zl_nil
    (fun v fp' l' h' tk' q F' N' Z' G' => k v fp' l' q h' G' ⟨F', N', Z', W.G.trans G'⟩ tk')
    (fun e C fp' oL' fs' l' h' tk' q Hf hn hL SU G' => leave_fly (s := c.S h' tk') V.fr rfl Hf hn hL fun fs'' h'' x y => EX (kx _ _ _ q G'.sub) x (TI.SameUp.trans SU y) (W.G.trans G'))
noncomputable abbrev lk (b : List (Str × Value)) : Str → Option Value := fun y => b.reverse.lookup y
theorem enter {f : Addr} {vals : List Value} {binds : List (Str × Value)} {name qual : Str} {params : Arguments} {body : List Stmt} {dV kV doc pm cdv ct oc : Value} {an od : Option Addr} {osl : Array (Option Value)}
    (ho : (K0.heap_1 G.w.params).lookup f = some ⟨oc, od, .func (fnX name qual params body cs [] dV kV doc pm an cdv ct), osl⟩) (hcd : codeIn (K0.heap_1 G.w.params) cdv qual = true)
    (go : ∀ (c : Cx G cs) h, Live c d → At c (lk binds) fp l h → Rets c c.Q P → Exs c X → Run c c.Q h body)
    (hbind : ∀ s, BindsTo s (fnX name qual params body cs [] dV kV doc pm an cdv ct) ⟨vals, []⟩ binds := by exact fun ω => BindsTo.of_eq rfl) (hloc : ∀ y ∈ binds, cs.names.lookup y.1 = some .local := by exact locs rfl) (hcell : autoParam (∀ x ∈ cs.names, x.2 ≠ .cell) aD)
    (hcl : autoParam (∀ n, cellsFrom n cs.names [] = []) aI) (hco : autoParam (cs.isCoroutine = false) aR) (hgen : autoParam (cs.isGenerator = false) aR) (hk : autoParam (cs.kind = .function) aR) : Does G.M G.h₀ (.ref f) vals (d + 1) fp l P X := by
  intro A envs fs xs s Q E Y R S hQ hE
  obtain ⟨hp, g, dr, tk, os⟩ := s
  refine m_call (K := K0.heap_1 G.w.params) (binds := binds) S G.X G.T.nolimit ho hcd R.depth (hbind _) hloc ?_ hcell hco hgen hk
  intro L' h' tk' F' N' l1
  let c : Cx G cs := ⟨A.deeper (envX qual cs L' f cdv []), qual, f, cdv, L', g, dr, os, envs, fs, xs, l, Q, E⟩
  have he : c.env = envX qual cs L' f cdv [] := by show envX qual cs L' f cdv (cellsFrom (L' + 1) cs.names []) = _; rw [hcl]
  have := (go c h' ⟨by rw [he]; exact Around.frames_deeper (Ar.frames Y), Ar.frs Y, Y.free, R.deeper, hk⟩ ⟨F', N', S.apart, Gro.refl _ _⟩
    (fun {v m fp' l' h''} tk q W => hQ v fp' l' h'' tk q (Has.back W.F W.N W.Z) W.G) (fun {e C fp' fs' l' h'' tk} q Hf SU g => hE e C fp' fs' l' h'' tk q Hf SU g)).go tk'
  rw [he] at this
  refine wpAny_mono this (fun f s' q => ?_) fun e s' q => ?_
  · cases f <;> exact q
  · unfold Cx.E at q
    rw [he] at q
    exact q
end
end
section --N2
open PySem PySem.W PyProof.Rows PySem.Calls PySem.Spec
set_option maxHeartbeats 1000000
section
variable {G : Gl} {cs : Scope} {c : Cx G cs} {m : Str → Option Value} {fp l : Led} {h : Heap} {x : Str} {p p' p'' : Pos} {v : Value} {f f₁ f₂ : Tok → Value} {e e₁ e₂ : Expr} {d : Nat} {b b₁ b₂ : Bool} {o : Obj} {da : Addr}
theorem At.inl (W : At c m fp l h) {q : Addr × Obj} (hq : q ∈ l) : q ∈ fp ++ (c.fs ++ (c.xs ++ l)) := List.mem_append_right _ (List.mem_append_right _ (List.mem_append_right _ hq))
theorem At.inf (W : At c m fp l h) {q : Addr × Obj} (hq : q ∈ fp) : q ∈ fp ++ (c.fs ++ (c.xs ++ l)) := List.mem_append_left _ hq
theorem At.sub (W : At c m fp l h) : Sub l (fp ++ (c.fs ++ (c.xs ++ l))) := Sub.app (Sub.app (Sub.app (Sub.refl l)))
theorem At.K (W : At c m fp l h) : (K0.heap_1 G.w.params).In h := G.X.keeps W.F.keep
theorem ev_glob (W : At c m fp l h) (hn : nsIn (K0.heap_1 G.w.params) mainGlobals x = some (some v)) (hk : autoParam (cs.kind = .function) aR) (hx : autoParam (cs.names.lookup x = some .globalImplicit) aR) (hd : autoParam ((x == ("__debug__" : Str)) = false) aD) : Ev c h (.Name x p) (fun ω => v) :=
  fun ω ω ω q => nameX_K (s := c.S h _) W.F G.X (topRead_of G.T) hn (q 0 _) hk hx hd
theorem ev_globT {t : Tok} (W : At c m fp l h) (hn : nsIn (K0.heap_1 G.w.params) mainGlobals x = some (some (f t))) (hk : autoParam (cs.kind = .function) aR) (hx : autoParam (cs.names.lookup x = some .globalImplicit) aR) (hd : autoParam ((x == ("__debug__" : Str)) = false) aD) : Ev c h (.Name x p) f :=
  fun ω ω ω q => nameX_K (s := c.S h _) W.F G.X (topRead_of G.T) hn (q t _) hk hx hd
theorem Ev.fix {t : Tok} (e1 : Ev c h e (fun ω => f t)) : Ev c h e f := fun Q E tk q => e1 Q E tk fun ω tk' => q t tk'
theorem ev_attr {C ia dx : Addr} {es : List DictEntry} {n : Nat} {y : Str} {attr : Option Value} (W : At c m fp l h) (e1 : Ev c h (.Name x p) (fun ω => .ref ia)) (h1 : (ia, instObj C dx) ∈ l) (h2 : (dx, dictOf es n) ∈ l)
    (hl : getL y es = some (some v)) (hg : plainGet (K0.heap_1 G.w.params) C y = true) (hh : hasDictIn (K0.heap_1 G.w.params) C = true) (ha : findIn (K0.heap_1 G.w.params) (.ref C) y = some attr) (hn : noGet (K0.heap_1 G.w.params) attr = true) (hv : autoParam (handedIn v = true) aR) :
    Ev c h (.Attribute (.Name x p) y p') (fun ω => v) := fun ω ω ω q =>
  Attribute_Name_ (e1 _ _ _ fun ω ω => get_own (s := c.S h _) W.F G.X (InstAt.of_news W.N (W.inl h1) (W.inl h2)) hg hh ha hn hl hv (q 0 _))
theorem ev_attr2 {C ia dx : Addr} {es : List DictEntry} {n : Nat} {y z : Str} {attr : Option Value} (W : At c m fp l h) (e1 : Ev c h (.Attribute (.Name x p) z p'') (fun ω => .ref ia)) (h1 : (ia, instObj C dx) ∈ l) (h2 : (dx, dictOf es n) ∈ l)
    (hl : getL y es = some (some v)) (hg : plainGet (K0.heap_1 G.w.params) C y = true) (hh : hasDictIn (K0.heap_1 G.w.params) C = true) (ha : findIn (K0.heap_1 G.w.params) (.ref C) y = some attr) (hn : noGet (K0.heap_1 G.w.params) attr = true) (hv : autoParam (handedIn v = true) aR) :
    Ev c h (.Attribute (.Attribute (.Name x p) z p'') y p') (fun ω => v) := fun ω ω ω q =>
  Attribute_any_ (e1 _ _ _ fun ω ω => get_own (s := c.S h _) W.F G.X (InstAt.of_news W.N (W.inl h1) (W.inl h2)) hg hh ha hn hl hv (q 0 _))
theorem ev_dictS {kvs : List (Str × Value)} {y : Str} (W : At c m fp l h) (e1 : Ev c h e₁ (fun ω => .ref da)) (e2 : Ev c h e₂ (fun t => .str y t)) (hm : (da, o) ∈ fp ++ (c.fs ++ (c.xs ++ l))) (hd : o.IsDictOf (PySem.strKind PG G.w) kvs) (hv : valueAt kvs y = some v)
    (hs : autoParam (∀ t, subscripted e₂ false (.ref da) (.str y t) = operate [.ref da, .str y t] (getItem (.ref da) (.str y t))) aJ) : Ev c h (.Subscript e₁ e₂ p) (fun ω => v) := fun ω ω ω q =>
  Subscript_ (e1 _ _ _ fun ω ω => e2 _ _ _ fun t ω => kdt_tail W.N hm hd (kdt_getItem W.N hm hd (PySem.strKind_is _ _ _ _) hv (q 0 _)) (hs t))
theorem ev_dictI {kvs : List (Int × Value)} {y : Int} (W : At c m fp l h) (e1 : Ev c h e₁ (fun ω => .ref da)) (e2 : Ev c h e₂ (fun t => .int y t)) (hm : (da, o) ∈ fp ++ (c.fs ++ (c.xs ++ l))) (hd : o.IsDictOf (PySem.intKind PG G.w) kvs) (hv : valueAt kvs y = some v)
    (hs : autoParam (∀ t, subscripted e₂ false (.ref da) (.int y t) = operate [.ref da, .int y t] (getItem (.ref da) (.int y t))) aJ) : Ev c h (.Subscript e₁ e₂ p) (fun ω => v) := fun ω ω ω q =>
  Subscript_ (e1 _ _ _ fun ω ω => e2 _ _ _ fun t ω => kdt_tail W.N hm hd (kdt_getItem W.N hm hd (PySem.intKind_is _ _ _ _) hv (q 0 _)) (hs t))
theorem te_inS {kvs : List (Str × Value)} {y : Str} (W : At c m fp l h) (e1 : Ev c h e₁ (fun t => .str y t)) (e2 : Ev c h e₂ (fun ω => .ref da)) (hm : (da, o) ∈ fp ++ (c.fs ++ (c.xs ++ l))) (hd : o.IsDictOf (PySem.strKind PG G.w) kvs) (lo : (da == sysModules) = false)
    (hb : autoParam (behindInMarks .In e₂ = false) aW) : Te c h (.Compare e₁ [.In] [e₂] p) (valueAt kvs y).isSome :=
  te_cmp e1 e2 (fun ω ω ω ω ω q => kda_in W.N hm hd lo (PySem.strKind_is _ _ _ _) _ rfl (q _)) hb
theorem te_notinS {kvs : List (Str × Value)} {y : Str} (W : At c m fp l h) (e1 : Ev c h e₁ (fun t => .str y t)) (e2 : Ev c h e₂ (fun ω => .ref da)) (hm : (da, o) ∈ fp ++ (c.fs ++ (c.xs ++ l))) (hd : o.IsDictOf (PySem.strKind PG G.w) kvs) (lo : (da == sysModules) = false)
    (hb : autoParam (behindInMarks .NotIn e₂ = false) aW) : Te c h (.Compare e₁ [.NotIn] [e₂] p) (!(valueAt kvs y).isSome) :=
  te_cmp e1 e2 (fun ω ω ω ω ω q => kdg_notin W.N hm hd lo (PySem.strKind_is _ _ _ _) _ rfl (q _)) hb
theorem te_notinI {kvs : List (Int × Value)} {y : Int} (W : At c m fp l h) (e1 : Ev c h e₁ (fun t => .int y t)) (e2 : Ev c h e₂ (fun ω => .ref da)) (hm : (da, o) ∈ fp ++ (c.fs ++ (c.xs ++ l))) (hd : o.IsDictOf (PySem.intKind PG G.w) kvs) (lo : (da == sysModules) = false)
    (hb : autoParam (behindInMarks .NotIn e₂ = false) aW) : Te c h (.Compare e₁ [.NotIn] [e₂] p) (!(valueAt kvs y).isSome) :=
  te_cmp e1 e2 (fun ω ω ω ω ω q => kdg_notin W.N hm hd lo (PySem.intKind_is _ _ _ _) _ rfl (q _)) hb
theorem te_neI {y z : Int} (e1 : Ev c h e₁ (fun t => .int y t)) (e2 : Ev c h e₂ (fun t => .int z t)) (hm : autoParam (behindInMarks .NotEq e₂ = false) aW) : Te c h (.Compare e₁ [.NotEq] [e₂] p) (y != z) :=
  te_cmp e1 e2 (fun ω ω ω ω ω q => P.ne_int (q _)) hm
theorem te_ltI {y z : Int} (e1 : Ev c h e₁ (fun t => .int y t)) (e2 : Ev c h e₂ (fun t => .int z t)) (hm : autoParam (behindInMarks .Lt e₂ = false) aW) : Te c h (.Compare e₁ [.Lt] [e₂] p) (decide (y < z)) :=
  te_cmp e1 e2 (fun ω ω ω ω ω q => P.lt_int (q _)) hm
theorem te_leI {y z : Int} (e1 : Ev c h e₁ (fun t => .int y t)) (e2 : Ev c h e₂ (fun t => .int z t)) (hm : autoParam (behindInMarks .LtE e₂ = false) aW) : Te c h (.Compare e₁ [.LtE] [e₂] p) (decide (y ≤ z)) :=
  te_cmp e1 e2 (fun ω ω ω ω ω q => P.le_int (q _)) hm
theorem te_gtI {y z : Int} (e1 : Ev c h e₁ (fun t => .int y t)) (e2 : Ev c h e₂ (fun t => .int z t)) (hm : autoParam (behindInMarks .Gt e₂ = false) aW) : Te c h (.Compare e₁ [.Gt] [e₂] p) (decide (y > z)) :=
  te_cmp e1 e2 (fun ω ω ω ω ω q => P.gt_int (q _)) hm
noncomputable def vNone : Value → Bool
  | .none => true
  | _ => false
theorem te_isN {j : Nat} (e1 : Ev c h e₁ (fun ω => v)) (hv : v = .none ∨ ∃ a, v = .ref a) (hm : autoParam (behindInMarks .Is (.Constant .none j p') = false) aW) : Te c h (.Compare e₁ [.Is] [.Constant .none j p'] p) (vNone v) :=
  te_cmp e1 ev_none (fun ω ω ω ω ω q => by
    rcases hv with rfl | ⟨a, rfl⟩
    · exact wpAny_is_self rfl (q _)
    · exact is_ref_none (q _)) hm
theorem te_or2 (t1 : Te c h e₁ b₁) (t2 : b₁ = false → Te c h e₂ b₂) : Te c h (.BoolOp .Or [e₁, e₂] p) (b₁ || b₂) := fun ω ω ω ω q => isTrue_or (t1 _ _ _ _ fun tk => by
  cases b₁ with
  | true => exact q _
  | false => exact isTrue_or (t2 rfl _ _ _ _ fun tk' => by cases b₂ with | true => exact q _ | false => exact isTrue_or_nil (q _)))
theorem ev_add {y z : Int} (e1 : Ev c h e₁ (fun t => .int y t)) (e2 : Ev c h e₂ (fun t => .int z t)) : Ev c h (.BinOp e₁ .Add e₂ p) (fun t => .int (y + z) t) := fun ω ω ω q => wpAny_BinOp (e1 _ _ _ fun ω ω => e2 _ _ _ fun ω ω => P.add_int (q _ _))
theorem ev_sub {y z : Int} (e1 : Ev c h e₁ (fun t => .int y t)) (e2 : Ev c h e₂ (fun t => .int z t)) : Ev c h (.BinOp e₁ .Sub e₂ p) (fun t => .int (y - z) t) := fun ω ω ω q => wpAny_BinOp (e1 _ _ _ fun ω ω => e2 _ _ _ fun ω ω => P.sub_int (q _ _))
theorem ev_lenX {va : Addr} {n : Int} (W : At c m fp l h) (e1 : Ev c h e (fun ω => .ref va)) (k : ∀ Q E tk, (∀ t tk', Q (Value.int n t) (c.S h tk')) → wpAny G.M c.A (call (.builtin "len") [.ref va]) Q E (c.S h tk)) (hn : nsIn (K0.heap_1 G.w.params) mainGlobals (Str.ofString "len") = some none)
    (hk : autoParam (cs.kind = .function) aR) (hx : autoParam (cs.names.lookup (Str.ofString "len") = some .globalImplicit) aR)
    (he : autoParam (notStar e = true) aR) : Ev c h (.Call (.Name (Str.ofString "len") p) [e] [] p') (fun t => .int n t) := fun Q E tk q =>
  Call_ (nameX_B (s := c.S h tk) W.F G.X (topRead_of G.T) hn rfl (by decide) (callWith_builtin1 (args_cons (e1 _ _ _ fun ω tk' => args_nil (k Q E tk' q)) (star_of he)) (star_of he) rfl) hk hx (by decide)) call_name
theorem ev_lenT {va : Addr} {vs : List Value} (W : At c m fp l h) (e1 : Ev c h e (fun ω => .ref va)) (ht : TupIn l va vs) (hz : vs.length ≤ 1000) (hn : nsIn (K0.heap_1 G.w.params) mainGlobals (Str.ofString "len") = some none)
    (hk : autoParam (cs.kind = .function) aR) (hx : autoParam (cs.names.lookup (Str.ofString "len") = some .globalImplicit) aR)
    (he : autoParam (notStar e = true) aR) : Ev c h (.Call (.Name (Str.ofString "len") p) [e] [] p') (fun t => .int vs.length t) :=
  ev_lenX W e1 (fun Q E tk q => len_tupN W.N ht W.sub hz rfl (q _ _)) hn hk hx he
theorem ev_lenL {va : Addr} {its : Array Value} {k : Nat} (W : At c m fp l h) (e1 : Ev c h e (fun ω => .ref va)) (hm : (va, listOf its k) ∈ fp ++ (c.fs ++ (c.xs ++ l))) (hz : its.size ≤ 100000) (hn : nsIn (K0.heap_1 G.w.params) mainGlobals (Str.ofString "len") = some none)
    (hk : autoParam (cs.kind = .function) aR) (hx : autoParam (cs.names.lookup (Str.ofString "len") = some .globalImplicit) aR)
    (he : autoParam (notStar e = true) aR) : Ev c h (.Call (.Name (Str.ofString "len") p) [e] [] p') (fun t => .int its.size t) :=
  ev_lenX W e1 (fun Q E tk q => len_list (News.isList W.N hm) (by lia) (q _ _)) hn hk hx he
end
end
section --N3
open PySem PySem.W PyProof.Rows PySem.Calls PySem.Spec
set_option maxHeartbeats 1000000
section
variable {G : Gl} {cs : Scope} {c : Cx G cs} {m : Str → Option Value} {fp fp' f₁' l : Led} {h : Heap} {x : Str} {p p' p'' : Pos} {v : Value} {f f₁ f₂ f₃ f₄ : Tok → Value} {e e₁ e₂ e₃ e₄ : Expr} {d : Nat} {b b₁ b₂ : Bool} {o : Obj} {da : Addr} {Q : Value → Shared → Prop} {QF : Flow → Shared → Prop} {rest : List Stmt} {P X : Value → Led → Led → Prop} {fa : Addr}
theorem Ev.ex (e1 : Ev c h e f) (k : ∀ t tk, Q (f t) (c.S h tk)) : Ex c h e Q := ⟨fun tk => e1 _ _ _ fun t tk' => k t tk'⟩
theorem Ev.run {E : Value → Shared → Prop} {tk : Nat} (e1 : Ev c h e f) (k : ∀ t tk', Q (f t) (c.S h tk')) : wpAny G.M c.A (eval e c.env) Q E (c.S h tk) := e1 _ _ _ k
theorem At.push {D : Addr} {h' : Heap} (W : At c m fp l h) (F' : Fr G.h₀ c.L h' m) (N' : News G.h₀ c.L h' ((D, o) :: (fp ++ (c.fs ++ (c.xs ++ l))))) (lt : ∀ p ∈ fp ++ (c.fs ++ (c.xs ++ l)), p.1 < D) : At c m fp ((D, o) :: l) h' := by
  refine ⟨F', News.sub N' fun q hq => ?_, Ap.mid W.Z fun q hq => lt q ?_, W.G.trans (Gro.new1 fun q hq => lt q ?_)⟩
  · simp only [List.mem_append, List.mem_cons] at hq ⊢
    rcases hq with hq | hq | hq | hq | hq <;> simp [hq]
  · simp only [List.mem_append] at hq ⊢
    rcases hq with hq | hq <;> simp [hq]
  · simp [hq]
theorem newTuple_at {vs : List Value} {E : Value → Shared → Prop} {tk : Nat} (W : At c m fp l h) (hz : vs.length ≤ sizeLine) (k : ∀ D h', At c m fp ((D, tupO vs) :: l) h' → ∀ tk, Q (.ref D) (c.S h' tk)) : wpAny G.M c.A (newTuple vs) Q E (c.S h tk) :=
  kup_newTuple (s := c.S h tk) W.F W.N (fun D h' F' N' lt => k D h' (W.push F' N' lt) tk) hz
theorem newList_at {vs : List Value} {E : Value → Shared → Prop} {tk : Nat} (W : At c m fp l h) (hz : vs.length ≤ sizeLine) (k : ∀ D h', At c m fp ((D, listOf vs.toArray 0) :: l) h' → ∀ tk, Q (.ref D) (c.S h' tk)) : wpAny G.M c.A (newList vs) Q E (c.S h tk) :=
  newList_K (s := c.S h tk) W.F W.N (fun D h' F' N' lt => k D h' (W.push F' N' lt) tk) hz
structure Xs (c : Cx G cs) (h : Heap) (pos : Pos) (es : List Expr) (Q : List Value → Shared → Prop) : Prop where
  go : ∀ tk, wpAny G.M c.A (spliced (backTo pos (starEach es c.env))) Q c.E (c.S h tk)
theorem xs_nil {R : List Value → Shared → Prop} (k : ∀ tk, R [] (c.S h tk)) : Xs c h p [] R := ⟨fun tk => args_nil (k tk)⟩
theorem xs_ev {R : List Value → Shared → Prop} {es : List Expr} (e1 : Ev c h e f) (k : ∀ t, Xs c h p es fun vs => R (f t :: vs)) (he : autoParam (notStar e = true) aR) : Xs c h p (e :: es) R := ⟨fun tk => args_cons (e1 _ _ _ fun t tk' => (k t).go tk') (star_of he)⟩
theorem xs_ex {R : List Value → Shared → Prop} {es : List Expr} (e1 : Ex c h e fun v s₁ => wpAny G.M c.A (spliced (backTo p (starEach es c.env))) (fun vs => R (v :: vs)) c.E s₁) (he : autoParam (notStar e = true) aR) : Xs c h p (e :: es) R := ⟨fun tk => args_cons (e1.go tk) (star_of he)⟩
theorem args_ex {R : List Value → Shared → Prop} {es : List Expr} {tk : Nat} (e1 : Ex c h e fun v s₁ => wpAny G.M c.A (spliced (backTo p (starEach es c.env))) (fun vs => R (v :: vs)) c.E s₁) (he : autoParam (notStar e = true) aR) : wpAny G.M c.A (spliced (backTo p (starEach (e :: es) c.env))) R c.E (c.S h tk) := args_cons (e1.go tk) (star_of he)
theorem args_ev {R : List Value → Shared → Prop} {es : List Expr} {tk : Nat} (e1 : Ev c h e f) (k : ∀ t, Xs c h p es fun vs => R (f t :: vs)) (he : autoParam (notStar e = true) aR) : wpAny G.M c.A (spliced (backTo p (starEach (e :: es) c.env))) R c.E (c.S h tk) := args_cons (e1 _ _ _ fun t tk' => (k t).go tk') (star_of he)
theorem ex_tup {es : List Expr} {j : Nat} (k : Xs c h p es fun vs s₁ => wpAny G.M c.A (newTuple vs) Q c.E s₁) : Ex c h (.Tuple es j p) Q := ⟨fun tk => Tuple_ (k.go tk)⟩
theorem ex_list {es : List Expr} (k : Xs c h p es fun vs s₁ => wpAny G.M c.A (newList vs) Q c.E s₁) : Ex c h (.List es p) Q := ⟨fun tk => List_ (k.go tk)⟩
theorem call_K {args : List Expr} (W : At c m fp l h) (hn : nsIn (K0.heap_1 G.w.params) mainGlobals x = some (some (.ref fa))) (hkp : keepIn (K0.heap_1 G.w.params) (.ref fa) = true)
    (k : Xs c h p' (e :: args) fun vs s₁ => (K0.heap_1 G.w.params).In s₁.heap ∧ wpAny G.M c.A (call (.ref fa) vs) Q c.E s₁)
    (hk : autoParam (cs.kind = .function) aR) (hx : autoParam (cs.names.lookup x = some .globalImplicit) aR) (hd : autoParam ((x == ("__debug__" : Str)) = false) aD) (hpl : autoParam ((backTo p' (starEach args c.env)).any (·.1) = false) aR) (he : autoParam (notStar e = true) aR) : Ex c h (.Call (.Name x p) (e :: args) [] p') Q :=
  call_glob W hn hkp k.go hk hx hd hpl he
theorem call0 (W : At c m fp l h) (hn : nsIn (K0.heap_1 G.w.params) mainGlobals x = some (some (.ref fa))) (hkp : keepIn (K0.heap_1 G.w.params) (.ref fa) = true)
    (k : ∀ tk, wpAny G.M c.A (call (.ref fa) []) Q c.E (c.S h tk))
    (hk : autoParam (cs.kind = .function) aR) (hx : autoParam (cs.names.lookup x = some .globalImplicit) aR) (hd : autoParam ((x == ("__debug__" : Str)) = false) aD) : Ex c h (.Call (.Name x p) [] [] p') Q := ⟨fun tk =>
  Call_ (nameX_K (s := c.S h tk) W.F G.X (topRead_of G.T) hn (callWith_K0 W.K hkp (k tk)) hk hx hd) call_name⟩
theorem call1 (W : At c m fp l h) (hn : nsIn (K0.heap_1 G.w.params) mainGlobals x = some (some (.ref fa))) (hkp : keepIn (K0.heap_1 G.w.params) (.ref fa) = true)
    (e1 : Ev c h e₁ f₁) (k : ∀ t₁ tk, wpAny G.M c.A (call (.ref fa) [f₁ t₁]) Q c.E (c.S h tk))
    (hk : autoParam (cs.kind = .function) aR) (hx : autoParam (cs.names.lookup x = some .globalImplicit) aR) (hd : autoParam ((x == ("__debug__" : Str)) = false) aD) (he : autoParam (notStar e₁ = true) aR) : Ex c h (.Call (.Name x p) [e₁] [] p') Q :=
  call_glob W hn hkp (xs_ev e1 (fun t₁ => xs_nil fun tk => ⟨W.K, k t₁ tk⟩) he).go hk hx hd rfl he
theorem call1' (W : At c m fp l h) (hn : nsIn (K0.heap_1 G.w.params) mainGlobals x = some (some (.ref fa))) (hkp : keepIn (K0.heap_1 G.w.params) (.ref fa) = true)
    (e1 : Ex c h e₁ fun v s₁ => wpAny G.M c.A (spliced (backTo p' (starEach [] c.env))) (fun vs s₂ => (K0.heap_1 G.w.params).In s₂.heap ∧ wpAny G.M c.A (call (.ref fa) (v :: vs)) Q c.E s₂) c.E s₁)
    (hk : autoParam (cs.kind = .function) aR) (hx : autoParam (cs.names.lookup x = some .globalImplicit) aR) (hd : autoParam ((x == ("__debug__" : Str)) = false) aD) (he : autoParam (notStar e₁ = true) aR) : Ex c h (.Call (.Name x p) [e₁] [] p') Q :=
  call_glob W hn hkp (xs_ex e1 he).go hk hx hd rfl he
theorem call2 (W : At c m fp l h) (hn : nsIn (K0.heap_1 G.w.params) mainGlobals x = some (some (.ref fa))) (hkp : keepIn (K0.heap_1 G.w.params) (.ref fa) = true)
    (e1 : Ev c h e₁ f₁) (e2 : Ev c h e₂ f₂) (k : ∀ t₁ t₂ tk, wpAny G.M c.A (call (.ref fa) [f₁ t₁, f₂ t₂]) Q c.E (c.S h tk))
    (hk : autoParam (cs.kind = .function) aR) (hx : autoParam (cs.names.lookup x = some .globalImplicit) aR) (hd : autoParam ((x == ("__debug__" : Str)) = false) aD) (he : autoParam (notStar e₁ = true) aR) (he2 : autoParam (notStar e₂ = true) aR) : Ex c h (.Call (.Name x p) [e₁, e₂] [] p') Q :=
  call_glob W hn hkp (xs_ev e1 (fun t₁ => xs_ev e2 (fun t₂ => xs_nil fun tk => ⟨W.K, k t₁ t₂ tk⟩) he2) he).go hk hx hd (by rw [star_of he2]; rfl) he
theorem call3 (W : At c m fp l h) (hn : nsIn (K0.heap_1 G.w.params) mainGlobals x = some (some (.ref fa))) (hkp : keepIn (K0.heap_1 G.w.params) (.ref fa) = true)
    (e1 : Ev c h e₁ f₁) (e2 : Ev c h e₂ f₂) (e3 : Ev c h e₃ f₃) (k : ∀ t₁ t₂ t₃ tk, wpAny G.M c.A (call (.ref fa) [f₁ t₁, f₂ t₂, f₃ t₃]) Q c.E (c.S h tk))
    (hk : autoParam (cs.kind = .function) aR) (hx : autoParam (cs.names.lookup x = some .globalImplicit) aR) (hd : autoParam ((x == ("__debug__" : Str)) = false) aD) (he : autoParam (notStar e₁ = true) aR) (he2 : autoParam (notStar e₂ = true) aR) (he3 : autoParam (notStar e₃ = true) aR) : Ex c h (.Call (.Name x p) [e₁, e₂, e₃] [] p') Q :=
  call_glob W hn hkp (xs_ev e1 (fun t₁ => xs_ev e2 (fun t₂ => xs_ev e3 (fun t₃ => xs_nil fun tk => ⟨W.K, k t₁ t₂ t₃ tk⟩) he3) he2) he).go hk hx hd (by rw [star_of he2, star_of he3]; rfl) he
theorem meth_inst {pl : Sem Bool} {C ia dx : Addr} {es : List DictEntry} {n : Nat} {y : Str} {args : List Expr} (W : At c m fp l h) (eo : Ev c h e₁ (fun ω => .ref ia)) (h1 : (ia, instObj C dx) ∈ l) (h2 : (dx, dictOf es n) ∈ l)
    (hl : getL y es = some none) (hg : plainGet (K0.heap_1 G.w.params) C y = true) (hf : findIn (K0.heap_1 G.w.params) (.ref C) y = some (some (.ref fa))) (hfn : isFn (K0.heap_1 G.w.params) (.ref fa) = true) (hkp : keepIn (K0.heap_1 G.w.params) (.ref fa) = true)
    (k : Xs c h p' (e :: args) fun vs s₁ => (K0.heap_1 G.w.params).In s₁.heap ∧ wpAny G.M c.A (call (.ref fa) (.ref ia :: vs)) Q c.E s₁)
    (hpl : autoParam ((backTo p' (starEach args c.env)).any (·.1) = false) aR) (he : autoParam (notStar e = true) aR)
    (hca : autoParam (eval (.Call (.Attribute e₁ y p) (e :: args) [] p') c.env = (do
      let ov ← eval e₁ c.env
      standAt p.atName
      let (f, first) ← holding [ov] (getMethod ov y pl)
      callWith p' f first (backTo p' (starEach (e :: args) c.env)) [])) aR) : Ex c h (.Call (.Attribute e₁ y p) (e :: args) [] p') Q := ⟨fun tk =>
  MethodCall_ (eo _ _ _ fun ω tk' => method_inst (s := c.S h tk') W.F G.X (InstAt.of_news W.N (W.inl h1) (W.inl h2)) hg hf hfn hl (callWith_K G.X hkp (k.go tk') (star_of he) hpl)) hca⟩
theorem At.turn {h' : Heap} (W : At c m fp l h) (F' : Fr G.h₀ c.L h' m) (N' : News G.h₀ c.L h' (fp' ++ (c.fs ++ (c.xs ++ l)))) (hm : fp'.map (·.1) = fp.map (·.1)) : At c m fp' l h' := ⟨F', N', W.Z.same hm, W.G⟩
set_option tactic.hygienic true in
theorem exec_expr {pos : Pos} (e1 : Ex c h e fun v s' => match v with | .ref _ => False | _ => Sq c QF rest .next s') (hi : autoParam (interactive c.env = false) aR) (hs : autoParam (swapsWith e none pos.line c.env = pure false) aR) : Run c QF h (.Expr e pos :: rest) :=
  Run.cons fun tk => wpAny_Expr (e1.go tk) hi hs
inductive Slot (da : Addr) (o : Obj) : Led → (Obj → Led) → Prop
  | head {r : Led} : Slot da o ((da, o) :: r) (fun o' => (da, o') :: r)
  | tail {q : Addr × Obj} {r : Led} {g : Obj → Led} : Slot da o r g → Slot da o (q :: r) (fun o' => q :: g o')
theorem Slot.map {g : Obj → Led} (s : Slot da o fp g) (o' : Obj) : (g o').map (·.1) = fp.map (·.1) := by
  induction s with
  | head => rfl
  | tail _ ih => exact congrArg (List.cons _) ih
theorem Slot.mem {g : Obj → Led} (s : Slot da o fp g) : (da, o) ∈ fp := by
  induction s with
  | head => exact List.mem_cons_self
  | tail _ ih => exact List.mem_cons_of_mem _ ih
theorem Slot.updF {g : Obj → Led} {R : Led} (s : Slot da o fp g) (hd : fp.Pairwise fun p q => p.1 ≠ q.1) (hR : ∀ p ∈ R, p.1 ≠ da) : UpdF da o (fp ++ R) (fun o' => g o' ++ R) := by
  induction s with
  | head =>
    refine UpdF.head fun q hq => ?_
    rcases List.mem_append.mp hq with hq | hq
    · exact fun e => (List.pairwise_cons.mp hd).1 q hq e.symm
    · exact hR q hq
  | tail s ih => exact UpdF.tail ((List.pairwise_cons.mp hd).1 _ s.mem) (ih (List.pairwise_cons.mp hd).2)
theorem At.upd {g : Obj → Led} (W : At c m fp l h) (s : Slot da o fp g) : UpdF da o (fp ++ (c.fs ++ (c.xs ++ l))) (fun o' => g o' ++ (c.fs ++ (c.xs ++ l))) := s.updF W.Z.dist fun q hq => by
  rcases List.mem_append.mp hq with hq | hq
  · exact W.Z.apf _ s.mem q hq
  · exact W.Z.ap _ (List.mem_append_left _ s.mem) q hq
theorem Slot.updP {g : Obj → Led} {R : Led} {o' : Obj} (s : Slot da o fp g) (hd : fp.Pairwise fun p q => p.1 ≠ q.1) (hR : ∀ p ∈ R, p.1 ≠ da) : Upd da o o' (fp ++ R) (g o' ++ R) := by
  induction s with
  | head =>
    refine Upd.head fun q hq => ?_
    rcases List.mem_append.mp hq with hq | hq
    · exact fun e => (List.pairwise_cons.mp hd).1 q hq e.symm
    · exact hR q hq
  | tail s ih => exact Upd.tail ((List.pairwise_cons.mp hd).1 _ s.mem) (ih (List.pairwise_cons.mp hd).2)
theorem At.updP {g : Obj → Led} {o' : Obj} (W : At c m fp l h) (s : Slot da o fp g) : Upd da o o' (fp ++ (c.fs ++ (c.xs ++ l))) (g o' ++ (c.fs ++ (c.xs ++ l))) := s.updP W.Z.dist fun q hq => by
  rcases List.mem_append.mp hq with hq | hq
  · exact W.Z.apf _ s.mem q hq
  · exact W.Z.ap _ (List.mem_append_left _ s.mem) q hq
theorem append_at2 {its : Array Value} {n : Nat} {g : Obj → Led} {tk : Nat} (W : At c m fp l h) (s : Slot da (listOf its n) fp g) (hz : its.size ≤ 100000) (k : ∀ h', At c m (g (listOf (its.push v) (n + 1))) l h' → ∀ tk, Q .none (c.S h' tk)) :
    wpAny G.M c.A (call (.builtin "list.append") [.ref da, v]) Q c.E (c.S h tk) :=
  append_K (s := c.S h tk) W.F W.N (W.updP s) (fun h' F' N' => k h' (W.turn F' N' (s.map _)) tk) (by rw [sizeLine_eq]; lia)
set_option tactic.hygienic true in
theorem run_append {pl : Sem Bool} {its : Array Value} {n : Nat} {g : Obj → Led} (W : At c m fp l h) (e1 : Ev c h e₁ (fun ω => .ref da)) (s : Slot da (listOf its n) fp g) (e2 : Xs c h p' [e₂] fun vs s₁ => wpAny G.M c.A (call (.builtin "list.append") (.ref da :: vs)) (fun v s' => match v with | .ref _ => False | _ => Sq c QF rest .next s') c.E s₁)
    (hca : autoParam (eval (.Call (.Attribute e₁ (Str.ofString "append") p) [e₂] [] p') c.env = (do
      let ov ← eval e₁ c.env
      standAt p.atName
      let (f, first) ← holding [ov] (getMethod ov (Str.ofString "append") pl)
      callWith p' f first (backTo p' (starEach [e₂] c.env)) [])) aR) (hs : autoParam (swapsWith (.Call (.Attribute e₁ (Str.ofString "append") p) [e₂] [] p') none p''.line c.env = pure false) aR) (he : autoParam (notStar e₂ = true) aR) (hi : autoParam (interactive c.env = false) aR) : Run c QF h (.Expr (.Call (.Attribute e₁ (Str.ofString "append") p) [e₂] [] p') p'' :: rest) :=
  exec_expr ⟨fun tk => MethodCall_ (e1 _ _ _ fun ω tk' => listMethod_K W.N (W.inf s.mem) PySem.F.slot_list_append PySem.F.type_list_append (callWith_method1 (e2.go tk') (star_of he) rfl)) hca⟩ hi hs
theorem setItem_at {K : Type} [DecidableEq K] {knd : KeyKind PG G.w K} {kvs : List (K × Value)} {y : K} {key : Value} {g : Obj → Led} {E : Value → Shared → Prop} {R : Unit → Shared → Prop} {tk : Nat} (W : At c m fp l h) (s : Slot da o fp g) (hd : o.IsDictOf knd kvs) (hkey : knd.is y key = true) (hz : kvs.length ≤ 100000)
    (k : ∀ h' o', o'.IsDictOf knd (stored kvs y v) → At c m (g o') l h' → ∀ tk, R () (c.S h' tk)) : wpAny G.M c.A (setItem (.ref da) key v) R E (c.S h tk) :=
  kda_set (s := c.S h tk) W.F W.N (W.upd s) hd hkey (by rw [sizeLine_eq]; lia) fun h' o' F' N' hd' => k h' o' hd' (W.turn F' N' (s.map _)) _
theorem run_setX2 {pos : Pos} (e0 : Ex c h e fun v s₁ => wpAny G.M c.A (eval e₁ c.env) (fun ov s₂ => wpAny G.M c.A (eval e₂ c.env) (fun iv s₃ => wpAny G.M c.A (setItem ov iv v) (fun ω => Sq c QF rest .next) c.E s₃) c.E s₂) c.E s₁)
    (hs : autoParam (swapsWith e (some (.Subscript e₁ e₂ p)) pos.line c.env = pure false) aR) : Run c QF h (.Assign [.Subscript e₁ e₂ p] e pos :: rest) := Run.cons fun tk => wpAny_Assign_Subscript (e0.go tk) hs
theorem setS_at {kvs : List (Str × Value)} {y : Str} {g : Obj → Led} {R : Unit → Shared → Prop} {tk : Nat} (W : At c m fp l h) (e1 : Ev c h e₁ (fun ω => .ref da)) (e2 : Ev c h e₂ (fun t => .str y t)) (s : Slot da o fp g) (hd : o.IsDictOf (PySem.strKind PG G.w) kvs) (hz : kvs.length ≤ 100000)
    (k : ∀ h' o', o'.IsDictOf (PySem.strKind PG G.w) (stored kvs y v) → At c m (g o') l h' → ∀ tk, R () (c.S h' tk)) : wpAny G.M c.A (eval e₁ c.env) (fun ov s₂ => wpAny G.M c.A (eval e₂ c.env) (fun iv s₃ => wpAny G.M c.A (setItem ov iv v) R c.E s₃) c.E s₂) c.E (c.S h tk) :=
  e1 _ _ _ fun ω ω => e2 _ _ _ fun t ω => setItem_at W s hd (PySem.strKind_is _ _ _ _) hz k
theorem setI_at {kvs : List (Int × Value)} {y : Int} {g : Obj → Led} {R : Unit → Shared → Prop} {tk : Nat} (W : At c m fp l h) (e1 : Ev c h e₁ (fun ω => .ref da)) (e2 : Ev c h e₂ (fun t => .int y t)) (s : Slot da o fp g) (hd : o.IsDictOf (PySem.intKind PG G.w) kvs) (hz : kvs.length ≤ 100000)
    (k : ∀ h' o', o'.IsDictOf (PySem.intKind PG G.w) (stored kvs y v) → At c m (g o') l h' → ∀ tk, R () (c.S h' tk)) : wpAny G.M c.A (eval e₁ c.env) (fun ov s₂ => wpAny G.M c.A (eval e₂ c.env) (fun iv s₃ => wpAny G.M c.A (setItem ov iv v) R c.E s₃) c.E s₂) c.E (c.S h tk) :=
  e1 _ _ _ fun ω ω => e2 _ _ _ fun t ω => setItem_at W s hd (PySem.intKind_is _ _ _ _) hz k
theorem run_setS {kvs : List (Str × Value)} {y : Str} {g : Obj → Led} {pos : Pos} (W : At c m fp l h) (e0 : Ev c h e f) (e1 : Ev c h e₁ (fun ω => .ref da)) (e2 : Ev c h e₂ (fun t => .str y t)) (s : Slot da o fp g) (hd : o.IsDictOf (PySem.strKind PG G.w) kvs) (hz : kvs.length ≤ 100000)
    (k : ∀ t h' o', o'.IsDictOf (PySem.strKind PG G.w) (stored kvs y (f t)) → At c m (g o') l h' → Run c QF h' rest) (hs : autoParam (swapsWith e (some (.Subscript e₁ e₂ p)) pos.line c.env = pure false) aR) : Run c QF h (.Assign [.Subscript e₁ e₂ p] e pos :: rest) :=
  run_setX2 (e0.ex fun t tk => setS_at W e1 e2 s hd hz fun h' o' hd' W' tk => (k t h' o' hd' W').go tk) hs
theorem run_setI {kvs : List (Int × Value)} {y : Int} {g : Obj → Led} {pos : Pos} (W : At c m fp l h) (e0 : Ev c h e f) (e1 : Ev c h e₁ (fun ω => .ref da)) (e2 : Ev c h e₂ (fun t => .int y t)) (s : Slot da o fp g) (hd : o.IsDictOf (PySem.intKind PG G.w) kvs) (hz : kvs.length ≤ 100000)
    (k : ∀ t h' o', o'.IsDictOf (PySem.intKind PG G.w) (stored kvs y (f t)) → At c m (g o') l h' → Run c QF h' rest) (hs : autoParam (swapsWith e (some (.Subscript e₁ e₂ p)) pos.line c.env = pure false) aR) : Run c QF h (.Assign [.Subscript e₁ e₂ p] e pos :: rest) :=
  run_setX2 (e0.ex fun t tk => setI_at W e1 e2 s hd hz fun h' o' hd' W' tk => (k t h' o' hd' W').go tk) hs
theorem run_app {pl : Sem Bool} {its : Array Value} {n : Nat} {g : Obj → Led} (W : At c m fp l h) (e1 : Ev c h e₁ (fun ω => .ref da)) (s : Slot da (listOf its n) fp g) (hz : its.size ≤ 100000) (e2 : Ev c h e₂ f) (k : ∀ t h', At c m (g (listOf (its.push (f t)) (n + 1))) l h' → Run c QF h' rest)
    (hca : autoParam (eval (.Call (.Attribute e₁ (Str.ofString "append") p) [e₂] [] p') c.env = (do
      let ov ← eval e₁ c.env
      standAt p.atName
      let (f, first) ← holding [ov] (getMethod ov (Str.ofString "append") pl)
      callWith p' f first (backTo p' (starEach [e₂] c.env)) [])) aR) (hs : autoParam (swapsWith (.Call (.Attribute e₁ (Str.ofString "append") p) [e₂] [] p') none p''.line c.env = pure false) aR) (he : autoParam (notStar e₂ = true) aR) (hi : autoParam (interactive c.env = false) aR) : Run c QF h (.Expr (.Call (.Attribute e₁ (Str.ofString "append") p) [e₂] [] p') p'' :: rest) :=
  run_append W e1 s (xs_ev e2 (fun t => xs_nil fun tk => append_at2 W s hz fun h' W' tk => (k t h' W').go tk) he) hca hs he hi
theorem run_appEs {pl : Sem Bool} {its : Array Value} {n : Nat} {g : Obj → Led} (W : At c m fp l h) (e1 : Ev c h e₁ (fun ω => .ref da)) (s : Slot da (listOf its n) fp g) (hz : its.size ≤ 100000) (e2 : Es c h e₂) (k : ∀ y t h', At c m (g (listOf (its.push (.str y t)) (n + 1))) l h' → Run c QF h' rest)
    (hca : autoParam (eval (.Call (.Attribute e₁ (Str.ofString "append") p) [e₂] [] p') c.env = (do
      let ov ← eval e₁ c.env
      standAt p.atName
      let (f, first) ← holding [ov] (getMethod ov (Str.ofString "append") pl)
      callWith p' f first (backTo p' (starEach [e₂] c.env)) [])) aR) (hs : autoParam (swapsWith (.Call (.Attribute e₁ (Str.ofString "append") p) [e₂] [] p') none p''.line c.env = pure false) aR) (he : autoParam (notStar e₂ = true) aR) (hi : autoParam (interactive c.env = false) aR) : Run c QF h (.Expr (.Call (.Attribute e₁ (Str.ofString "append") p) [e₂] [] p') p'' :: rest) :=
  run_append W e1 s (xs_ex ⟨fun tk => e2 _ _ _ fun y t tk' => args_nil (append_at2 W s hz fun h' W' tk => (k y t h' W').go tk)⟩ he) hca hs he hi
end
noncomputable abbrev Post := Value → Led → Led → Prop
noncomputable def Out (K : Post → Prop) : Post := fun v fp l => ∀ R : Post, K R → R v fp l
noncomputable def NoX : Post → Prop := fun ω => True
structure Ct (G : Gl) (fn : Value) (vals : List Value) (d : Nat) (fp l : Led) (K KX : Post → Prop) : Prop where
  go : Does G.M G.h₀ fn vals d fp l (Out K) (Out KX)
section
variable {G : Gl} {cs : Scope} {c : Cx G cs} {m : Str → Option Value} {fp l : Led} {h : Heap} {d d' : Nat} {X : Post} {fn : Value} {vals : List Value} {K KX : Post → Prop} {Q : Value → Shared → Prop}
theorem ent {f : Addr} {binds : List (Str × Value)} {name qual : Str} {params : Arguments} {body : List Stmt} {dV kV doc pm cdv ct oc : Value} {an od : Option Addr} {osl : Array (Option Value)}
    (ho : (K0.heap_1 G.w.params).lookup f = some ⟨oc, od, .func (fnX name qual params body cs [] dV kV doc pm an cdv ct), osl⟩) (hcd : codeIn (K0.heap_1 G.w.params) cdv qual = true)
    (go : ∀ (c : Cx G cs) h, Live c d → At c (lk binds) fp l h → Rets c c.Q (Out K) → Exs c (Out KX) → Run c c.Q h body)
    (hbind : ∀ s, BindsTo s (fnX name qual params body cs [] dV kV doc pm an cdv ct) ⟨vals, []⟩ binds := by exact fun ω => BindsTo.of_eq rfl) (hloc : ∀ y ∈ binds, cs.names.lookup y.1 = some .local := by exact locs rfl) (hcell : autoParam (∀ x ∈ cs.names, x.2 ≠ .cell) aD)
    (hcl : autoParam (∀ n, cellsFrom n cs.names [] = []) aI) (hco : autoParam (cs.isCoroutine = false) aR) (hgen : autoParam (cs.isGenerator = false) aR) (hk : autoParam (cs.kind = .function) aR) : Ct G (.ref f) vals (d + 1) fp l K KX :=
  ⟨enter ho hcd go hbind hloc hcell hcl hco hgen hk⟩
theorem useO (V : Live c d) (W : At c m fp l h) (Cl : Ct G fn vals d' fp l K KX) (EX : Exs c X)
    (kx : KX fun C fp' l' => Sub l l' → X C fp' l') (k : K fun v fp' l' => ∀ h', Gro c.xs l l' → At c m fp' l' h' → ∀ tk, Q v (c.S h' tk)) (hd : autoParam (d' ≤ d) aD) :
    ∀ tk, wpAny G.M c.A (call fn vals) Q c.E (c.S h tk) := use V W Cl.go EX (fun C fp' l' q => q _ kx) (fun v fp' l' q => q _ k) hd
end
end
section --N4
open PySem PySem.W PyProof.Rows PySem.Calls PySem.Spec
set_option maxHeartbeats 1000000
theorem Ct.to {G : Gl} {fn : Value} {vals : List Value} {d d' : Nat} {fp l : Led} {K KX : Post → Prop} {P X : Post} (D : Ct G fn vals d fp l K KX) (hd : d ≤ d') (k : K fun v fp' l' => Sub l l' → P v fp' l') (kx : KX fun v fp' l' => Sub l l' → X v fp' l') : Does G.M G.h₀ fn vals d' fp l P X :=
  Does.monoS D.go hd (fun v fp' l' s q => q _ k s) (fun v fp' l' s q => q _ kx s)
theorem Ct.mono {G : Gl} {fn : Value} {vals : List Value} {d d' : Nat} {fp l : Led} {K KX K' KX' : Post → Prop} (D : Ct G fn vals d fp l K KX) (hd : d ≤ d') (k : ∀ R, K' R → K R) (kx : ∀ R, KX' R → KX R) : Ct G fn vals d' fp l K' KX' :=
  ⟨Does.monoS D.go hd (fun v fp' l' s q R r => q R (k R r)) (fun v fp' l' s q R r => q R (kx R r))⟩
section
variable {G : Gl} {cs : Scope} {c : Cx G cs} {m : Str → Option Value} {fp l : Led} {h : Heap} {x : Str} {p p' p'' : Pos} {v : Value} {f f₁ f₂ : Tok → Value} {e e₁ e₂ : Expr} {d d' : Nat} {vals : List Value} {K KX : Post → Prop} {X : Post} {Q : Value → Shared → Prop} {QF : Flow → Shared → Prop} {rest : List Stmt}
noncomputable def Cel (c : Cx G cs) (l : Led) (x : Str) (v : Value) : Prop := ∃ a o, (cellsFrom (c.L + 1) cs.names []).lookup x = some a ∧ (a, o) ∈ l ∧ o.data = .cell (some v)
theorem Cel.mono {l' : Led} (s : Sub l l') (h : Cel c l x v) : Cel c l' x v := by obtain ⟨a, o, h1, h2, h3⟩ := h; exact ⟨a, o, h1, s _ h2, h3⟩
theorem ev_cell (W : At c m fp l h) (hc : Cel c l x v) (hk : autoParam (cs.kind = .function) aR) (hx : autoParam (cs.names.lookup x = some .cell) aR) (hd : autoParam ((x == ("__debug__" : Str)) = false) aD) : Ev c h (.Name x p) (fun ω => v) := fun Q E tk q => by
  obtain ⟨a, o, h1, h2, h3⟩ := hc
  exact nameX_C (s := c.S h tk) W.N h1 (W.inl h2) h3 (q 0 _) hk hx hd
theorem cel_of {cm : Str → Option Value} {cl : List (Str × Addr)} {cells : Led} (hc : CellsAre cm cl cells) {x : Str} {a : Addr} (h : cl.lookup x = some a) : ∃ o, (a, o) ∈ cells ∧ o.data = .cell (cm x) := by
  induction hc with
  | nil => cases h
  | @cons n cc o r cells ho hr ih =>
    rw [List.lookup_cons] at h
    cases e : x == n with
    | true =>
      rw [e] at h
      cases eq_of_beq e; cases h
      exact ⟨_, List.mem_cons_self, ho⟩
    | false =>
      rw [e] at h
      obtain ⟨o', h1, h2⟩ := ih h
      exact ⟨o', List.mem_cons_of_mem _ h1, h2⟩
theorem cellsFrom_ge : ∀ (names : List (Str × NameKind)) (n : Nat) (acc : List (Str × Addr)), ∀ q ∈ cellsFrom n names acc, q ∈ acc ∨ n ≤ q.2
  | [], _, _, q, hq => .inl hq
  | (a, k) :: r, n, acc, q, hq => by
    unfold cellsFrom at hq
    split at hq
    · rcases cellsFrom_ge r _ _ q hq with z | z
      · rcases List.mem_cons.mp z with rfl | z
        · exact .inr (Nat.le_refl _)
        · exact .inl z
      · exact .inr (Nat.le_of_succ_le z)
    · exact cellsFrom_ge r _ _ q hq
theorem cellsAre_addr {cm : Str → Option Value} {cl : List (Str × Addr)} {cells : Led} (h : CellsAre cm cl cells) : ∀ q ∈ cells, ∃ p ∈ cl, p.2 = q.1 := by
  intro q hq
  induction h with
  | nil => exact nomatch hq
  | cons ho _ ih =>
    rcases List.mem_cons.mp hq with rfl | hq
    · exact ⟨_, List.mem_cons_self, rfl⟩
    · obtain ⟨p, h1, h2⟩ := ih hq
      exact ⟨p, List.mem_cons_of_mem _ h1, h2⟩
theorem cells_ge {cm : Str → Option Value} {names : List (Str × NameKind)} {n : Nat} {cells : Led} (h : CellsAre cm (cellsFrom n names []) cells) : ∀ q ∈ cells, n ≤ q.1 := fun q hq => by
  obtain ⟨p, h1, h2⟩ := cellsAre_addr h q hq
  exact h2 ▸ (cellsFrom_ge _ _ _ p h1).resolve_left (fun z => nomatch z)
noncomputable abbrev lkC (cs : Scope) (b : List (Str × Value)) : Str → Option Value := bindL (fun y => cs.names.lookup y) b fun ω => none
theorem entC {f : Addr} {binds : List (Str × Value)} {name qual : Str} {params : Arguments} {body : List Stmt} {dV kV doc pm cdv ct oc : Value} {an od : Option Addr} {osl : Array (Option Value)}
    (ho : (K0.heap_1 G.w.params).lookup f = some ⟨oc, od, .func (fnX name qual params body cs [] dV kV doc pm an cdv ct), osl⟩) (hcd : codeIn (K0.heap_1 G.w.params) cdv qual = true)
    (go : ∀ (c : Cx G cs) h l', Live c d → At c (lkC cs binds) fp l' h → Sub l l' → (∀ x a v, (cellsFrom (c.L + 1) cs.names []).lookup x = some a → bindC (fun y => cs.names.lookup y) binds (fun ω => none) x = some v → Cel c l' x v) → Rets c c.Q (Out K) → Exs c (Out KX) → Run c c.Q h body)
    (hbind : ∀ s, BindsTo s (fnX name qual params body cs [] dV kV doc pm an cdv ct) ⟨vals, []⟩ binds := by exact fun ω => BindsTo.of_eq rfl) (hkind : autoParam ((binds.all fun y => cs.names.lookup y.1 == some .local || cs.names.lookup y.1 == some .cell) = true) aR) (hnd : autoParam (((cellsFrom 0 cs.names []).map (·.1)).Nodup) aD)
    (hco : autoParam (cs.isCoroutine = false) aR) (hgen : autoParam (cs.isGenerator = false) aR) (hk : autoParam (cs.kind = .function) aR) : Ct G (.ref f) vals (d + 1) fp l K KX := by
  refine ⟨?_⟩
  intro A envs fs xs s Q E Y R S hQ hE
  obtain ⟨hp, g, dr, tk, os⟩ := s
  refine m_callC (K := K0.heap_1 G.w.params) (binds := binds) S G.X G.T.nolimit ho hcd R.depth (hbind _) hkind hnd ?_ hco hgen hk
  intro L' h' tk' cells F' N' Y' l1
  have hge := cells_ge Y'
  have N2 : News G.h₀ L' h' (fp ++ (fs ++ (xs ++ (cells ++ l)))) := News.sub N' fun p hp => by
    simp only [List.mem_append] at hp ⊢
    rcases hp with hp | hp | hp | hp | hp <;> simp [hp]
  have Z2 : Ap fp fs (xs ++ (cells ++ l)) := ⟨fun p hp q hq => by
    have hq' : q ∈ cells ∨ q ∈ xs ++ l := by
      simp only [List.mem_append] at hq ⊢
      rcases hq with hq | hq | hq <;> simp [hq]
    rcases hq' with hq' | hq'
    · have h1 := hge q hq'
      have h2 := l1 p (by
        simp only [List.mem_append] at hp ⊢
        rcases hp with hp | hp <;> simp [hp])
      intro e
      rw [e] at h1
      exact absurd (Nat.lt_of_lt_of_le h2 (Nat.le_of_succ_le h1)) (Nat.lt_irrefl _)
    · exact S.apart.ap p hp q hq', S.apart.apf, S.apart.dist⟩
  have G2 : Gro xs l (cells ++ l) := ⟨fun p hp => List.mem_append_right _ hp, fun q hq => by
    rcases List.mem_append.mp hq with hq | hq
    · refine .inr fun p hp e => ?_
      have h1 := hge q hq
      have h2 := l1 p (by simp [hp])
      rw [e] at h1
      exact absurd (Nat.lt_of_lt_of_le h2 (Nat.le_of_succ_le h1)) (Nat.lt_irrefl _)
    · exact .inl hq⟩
  let c : Cx G cs := ⟨A.deeper (envX qual cs L' f cdv (cellsFrom (L' + 1) cs.names [])), qual, f, cdv, L', g, dr, os, envs, fs, xs, l, Q, E⟩
  have := (go c h' (cells ++ l) ⟨Around.frames_deeper (Ar.frames Y), Ar.frs Y, Y.free, R.deeper, hk⟩ ⟨F', N2, Z2, G2⟩ (fun p hp => List.mem_append_right _ hp)
    (fun x a v h1 h2 => by
      obtain ⟨o, h3, h4⟩ := cel_of Y' h1
      exact ⟨a, o, h1, List.mem_append_left _ h3, h4.trans (congrArg _ h2)⟩)
    (fun {v m fp' l' h''} tk q W => hQ v fp' l' h'' tk q (Has.back W.F W.N W.Z) W.G) (fun {e C fp' fs' l' h'' tk} q Hf SU g => hE e C fp' fs' l' h'' tk q Hf SU g)).go tk'
  refine wpAny_mono this (fun f s' q => ?_) fun e s' q => q
  cases f <;> exact q
noncomputable def Ce (c : Cx G cs) (sc : Scope) (cl : List (Str × Addr)) (C : Addr) (h : Heap) (e : Expr) (f : Tok → Value) : Prop :=
  ∀ (Q : Value → Shared → Prop) (E : Value → Shared → Prop) (tk : Nat), (∀ t tk', Q (f t) (c.S h tk')) → wpAny G.M c.A (eval e (compEnvC sc cl C c.env)) Q E (c.S h tk)
variable {sc : Scope} {cl : List (Str × Addr)} {C : Addr} {mC : Str → Option Value} {news : Led}
theorem ce_loc (hn : h.Ns C mC) (hm : mC x = some v) (hk : autoParam (sc.kind = .function) aR) (hx : autoParam ((compEnvC sc cl C c.env).kindOf x = some .local) aR) (hd : autoParam ((x == ("__debug__" : Str)) = false) aD) : Ce c sc cl C h (.Name x p) (fun ω => v) :=
  fun Q E tk q => wpAny_Name (wpAny_loadName_local (s := c.S h tk) hk hx hn hm (q 0 _)) hd
theorem ce_cell (N : News G.h₀ c.L h news) (s : Sub l news) (hc : Cel c l x v) (hl : autoParam (cl.lookup x = (cellsFrom (c.L + 1) cs.names []).lookup x) aR) (hk : autoParam ((compEnvC sc cl C c.env).scope.kind = .function) aR) (hx : autoParam ((compEnvC sc cl C c.env).kindOf x = some .cell) aR) (hd : autoParam ((x == ("__debug__" : Str)) = false) aD) :
    Ce c sc cl C h (.Name x p) (fun ω => v) := fun Q E tk q => by
  obtain ⟨a, o, h1, h2, h3⟩ := hc
  exact lcf_cell (s := c.S h tk) N (hl.trans h1) (s _ h2) h3 (q 0 _) hk hx hd
theorem ce_int {i : Int} {j : Nat} : Ce c sc cl C h (.Constant (.int i) j p) (fun t => .int i t) := fun ω ω ω q => wpAny_Constant_int (q _ _)
theorem Ce.fix {t : Tok} (e1 : Ce c sc cl C h e (fun ω => f t)) : Ce c sc cl C h e f := fun Q E tk q => e1 Q E tk fun ω tk' => q t tk'
theorem ce_sub {y z : Int} (e1 : Ce c sc cl C h e₁ (fun t => .int y t)) (e2 : Ce c sc cl C h e₂ (fun t => .int z t)) : Ce c sc cl C h (.BinOp e₁ .Sub e₂ p) (fun t => .int (y - z) t) := fun ω ω ω q => wpAny_BinOp (e1 _ _ _ fun ω ω => e2 _ _ _ fun ω ω => P.sub_int (q _ _))
theorem ce_call {fa : Addr} {args : List Expr} {E : Value → Shared → Prop} {tk : Nat} (F : Fr G.h₀ c.L h m) (hn : nsIn (K0.heap_1 G.w.params) mainGlobals x = some (some (.ref fa))) (hkp : keepIn (K0.heap_1 G.w.params) (.ref fa) = true)
    (k : ∀ tk, wpAny G.M c.A (spliced (backTo p' (starEach (e :: args) (compEnvC sc cl C c.env)))) (fun vs s₁ => (K0.heap_1 G.w.params).In s₁.heap ∧ wpAny G.M c.A (call (.ref fa) vs) Q E s₁) E (c.S h tk))
    (hk : autoParam ((compEnvC sc cl C c.env).scope.kind = .function) aR) (hx : autoParam ((compEnvC sc cl C c.env).kindOf x = some .globalImplicit) aR) (hd : autoParam ((x == ("__debug__" : Str)) = false) aD) (hpl : autoParam ((backTo p' (starEach args (compEnvC sc cl C c.env))).any (·.1) = false) aR) (he : autoParam (notStar e = true) aR) : wpAny G.M c.A (eval (.Call (.Name x p) (e :: args) [] p') (compEnvC sc cl C c.env)) Q E (c.S h tk) :=
  Call_ (Name_function_global hk hx (loadGlobal_global (s := c.S h tk) (env := compEnvC sc cl C c.env) ((topRead_of G.T).g.keeps F.keep) (mg_of G.X (topRead_of G.T).g hn) (callWith_K G.X hkp (k tk) (star_of he) hpl)) hd) call_name
theorem ce_args {E : Value → Shared → Prop} {tk : Nat} {args : List Expr} {R : List Value → Shared → Prop} (e1 : Ce c sc cl C h e f) (k : ∀ t tk, wpAny G.M c.A (spliced (backTo p' (starEach args (compEnvC sc cl C c.env)))) (fun vs => R (f t :: vs)) E (c.S h tk)) (he : autoParam (notStar e = true) aR) :
    wpAny G.M c.A (spliced (backTo p' (starEach (e :: args) (compEnvC sc cl C c.env)))) R E (c.S h tk) := args_cons (e1 _ _ _ fun t tk' => k t tk') (star_of he)
theorem ce_meth {C' ia dx fa : Addr} {es : List DictEntry} {n : Nat} {y : Str} {args : List Expr} {E : Value → Shared → Prop} {tk : Nat} {pl : Sem Bool} (F : Fr G.h₀ c.L h m) (N : News G.h₀ c.L h news) (s : Sub l news) (eo : Ce c sc cl C h e₁ (fun ω => .ref ia)) (h1 : (ia, instObj C' dx) ∈ l) (h2 : (dx, dictOf es n) ∈ l)
    (hl : getL y es = some none) (hg : plainGet (K0.heap_1 G.w.params) C' y = true) (hf : findIn (K0.heap_1 G.w.params) (.ref C') y = some (some (.ref fa))) (hfn : isFn (K0.heap_1 G.w.params) (.ref fa) = true) (hkp : keepIn (K0.heap_1 G.w.params) (.ref fa) = true)
    (k : ∀ tk, wpAny G.M c.A (spliced (backTo p' (starEach (e :: args) (compEnvC sc cl C c.env)))) (fun vs s₁ => (K0.heap_1 G.w.params).In s₁.heap ∧ wpAny G.M c.A (call (.ref fa) (.ref ia :: vs)) Q E s₁) E (c.S h tk))
    (hpl : autoParam ((backTo p' (starEach args (compEnvC sc cl C c.env))).any (·.1) = false) aR) (he : autoParam (notStar e = true) aR)
    (hca : autoParam (eval (.Call (.Attribute e₁ y p) (e :: args) [] p') (compEnvC sc cl C c.env) = (do
      let ov ← eval e₁ (compEnvC sc cl C c.env)
      standAt p.atName
      let (f, first) ← holding [ov] (getMethod ov y pl)
      callWith p' f first (backTo p' (starEach (e :: args) (compEnvC sc cl C c.env))) [])) aR) : wpAny G.M c.A (eval (.Call (.Attribute e₁ y p) (e :: args) [] p') (compEnvC sc cl C c.env)) Q E (c.S h tk) :=
  MethodCall_ (eo _ _ _ fun ω tk' => method_inst (s := c.S h tk') F G.X (InstAt.of_news N (s _ h1) (s _ h2)) hg hf hfn hl (callWith_K G.X hkp (k tk') (star_of he) hpl)) hca
end
end
section --M17
open PySem PySem.W PyProof.Rows PySem.Calls PySem.Spec PySem.SeqAt
theorem adjust_to (k n : Nat) : Builtin.Slice.sliceAdjust none (some (k : Int)) 1 (n : Int) = ((0 : Int), ((min k n : Nat) : Int)) := by
  unfold Builtin.Slice.sliceAdjust
  have h1 : ¬ ((1 : Int) < 0) := by lia
  have h2 : ¬ ((k : Int) < 0) := by lia
  simp only [h1, h2, if_false]
  congr 1
  lia
theorem places_to (m : Nat) : Builtin.Slice.slicePlaces 0 (m : Int) 1 = m := by
  unfold Builtin.Slice.slicePlaces
  have h1 : (1 : Int) > 0 := by lia
  simp only [h1, if_true, Int.ediv_one]
  split <;> lia
theorem pick_to (xs : Array Value) (m : Nat) : ((List.range m).filterMap fun (k : Nat) => xs[((0 : Int) + (k : Int) * 1).toNat]?).toArray = (xs.toList.take m).toArray := by
  have e : (fun (k : Nat) => xs[((0 : Int) + (k : Int) * 1).toNat]?) = fun k => xs[0 + k]? := by
    funext k
    have : ((0 : Int) + (k : Int) * 1).toNat = 0 + k := by lia
    rw [this]
  rw [e]
  have := pick_run xs 0 m
  rw [List.filterMap_map] at this
  have e2 : ((fun x => xs[x]?) ∘ fun x => 0 + x) = fun k => xs[0 + k]? := rfl
  rw [e2] at this
  rw [this, List.drop_zero]
section
variable {prog : Program} {w : World} {A : Around} {E : Value → Shared → Prop} {s : Shared} {h₀ : Heap} {L : Addr} {m : Str → Option Value} {news l : Led}
theorem sliceApplied_to {sl : Addr} {k n : Nat} {u : Tok} {Q : Int × Int × Nat → Shared → Prop} (hs : s.heap.IsSliceOf sl .none (.int k u) .none) (h : Q ((0 : Int), 1, min k n) s) :
    wpAny (model prog w) A (Builtin.Slice.sliceApplied (.ref sl) (pure (n : Int))) Q E s := by
  obtain ⟨os, hos, hcs, hds⟩ := id hs
  unfold Builtin.Slice.sliceApplied Builtin.Slice.sliceFields
  refine wpAny_bind (wpAny_bind (wpAny_field hos hds (x := .none) rfl (wpAny_bind (wpAny_field hos hds (x := .int k u) rfl (wpAny_bind (wpAny_field hos hds (x := .none) rfl (wpAny_pure ?_)))))))
  refine wpAny_bind (slicePart_none ?_)
  show wpAny _ _ (if ((1 : Int) == 0) = true then _ else _) _ _ s
  rw [if_neg (by decide)]
  refine wpAny_bind (slicePart_none (wpAny_bind (slicePart_int (wpAny_bind (wpAny_pure ?_)))))
  show wpAny _ _ (match Builtin.Slice.sliceAdjust none (some (k : Int)) 1 (n : Int) with | (lo, hi) => pure (lo, (1 : Int), Builtin.Slice.slicePlaces lo hi 1)) _ _ s
  rw [adjust_to k n]
  show wpAny _ _ (pure ((0 : Int), (1 : Int), Builtin.Slice.slicePlaces (0 : Int) ((min k n : Nat) : Int) 1)) _ _ s
  rw [places_to]
  exact wpAny_pure h
theorem getItem_tuple_to {t sl : Addr} {items : Array Value} {k : Nat} {u : Tok} {Q : Value → Shared → Prop} (ht : IsTup s.heap t items) (hs : s.heap.IsSliceOf sl .none (.int k u) .none)
    (h0 : items.size ≤ k → Q (.ref t) s)
    (h : k < items.size → Q (.ref s.heap.objs.size) { s with heap := s.heap.push { cls := .type "tuple", data := .seq (items.toList.take k).toArray } })
    (hsz : items.size ≤ sizeLine := by size_fits) : wpAny (model prog w) A (getItem (.ref t) (.ref sl)) Q E s := by
  obtain ⟨os, hos, hcs, hds⟩ := id hs
  have hTs : s.TypeIs (.ref sl) "slice" := ⟨os, hos, hcs⟩
  unfold getItem
  try with_reducible refine wpAny_holding ?_
  first | refine wpAny_bind (wpAny_pure ?_) | skip
  refine wpAny_bind (wpAny_sequenceKey ht.typeIs (by decide) ?_)
  refine wpAny_bind (wpAny_callSpecial?_slot (name := Str.ofString "__getitem__") ht.typeIs slot_tuple_getitem
    (wpAny_call_entry slot_tuple_getitem ht.typeIs entry_tuple_getitem ?_ (args_tuple_getitem _ _)))
  show wpAny _ _ (Builtin.Tuple.tupleItemsOf (.ref t) >>= _) _ _ s
  refine wpAny_bind (tupleItemsOf_ ht ?_)
  refine wpAny_bind (wpAny_typeOf hTs ?_)
  rw [if_pos (by decide)]
  refine wpAny_bind (sliceApplied_to hs ?_)
  show wpAny _ _ (if ((0 : Int) == 0 && (1 : Int) == 1 && (min k items.size) == items.size) = true then _ else _) _ _ s
  by_cases hk : items.size ≤ k
  · rw [if_pos (by rw [Nat.min_eq_right hk]; simp)]
    unfold Builtin.Tuple.tupleIsExact
    refine wpAny_bind (wpAny_bind (wpAny_typeOf ht.typeIs (wpAny_pure ?_)))
    rw [if_pos (by rfl)]
    exact wpAny_bind (wpAny_rule (wpAny_pure ⟨_, rfl, wpAny_pure (h0 hk)⟩))
  · have hdrop : sizeOk (.seq (items.toList.take k).toArray) := by
      show (items.toList.take k).toArray.size ≤ sizeLine
      rw [List.size_toArray, List.length_take, Array.length_toList]
      lia
    have hm : min k items.size = k := Nat.min_eq_left (by lia)
    rw [if_neg (by rw [hm]; simp; lia), hm, pick_to items k]
    replace h := h (by lia)
    first
      | exact wpAny_bind (m := Builtin.Tuple.tupleExact _) (wpAny_newObj_type (wpAny_pure ⟨_, rfl, wpAny_pure h⟩) hdrop)
      | exact wpAny_bind (m := Builtin.Tuple.tupleExact _) (wpAny_newObj_type (wpAny_bind (wpAny_pure (wpAny_pure ⟨_, rfl, wpAny_pure h⟩))) hdrop)
      | exact wpAny_bind (wpAny_bind (m := Builtin.Tuple.tupleExact _) (wpAny_newObj_type (wpAny_pure (wpAny_pure ⟨_, rfl, wpAny_pure h⟩)) hdrop))
      | exact wpAny_bind (wpAny_bind (m := Builtin.Tuple.tupleExact _) (wpAny_newObj_type (wpAny_pure ⟨_, rfl, wpAny_pure h⟩) hdrop))
end
theorem it_eqAt {A : Around} {s : Shared} {h₀ : Heap} {L : Addr} {l news : Led} {v : Value} {T : Addr} {it : It} {nm : Str} {t1 t2 : Tok} (N : News h₀ L s.heap news) (h : IsIt l v it) (sb : Sub l news)
    (hT : s.heap.IsTuple T #[.str (Str.ofString "sym") t1, .str nm t2]) (hne : v ≠ .ref T) (hu : A.units < cLine) (hu1 : A.in1.units < cLine) : EqAt A s v (.ref T) (isSym nm it) := by
  obtain ⟨a, tag, t, x, rfl, _⟩ := h.tup
  exact EqAt.of_refs (fun e => hne (by rw [e])) fun prog w E Q hq => it_eq N h sb hT hu hu1 hq
theorem rng_all1 (f : Nat → Bool) : (List.range 1).all f = f 0 := by simp [List.range_succ]
theorem rng_all2 (f : Nat → Bool) : (List.range 2).all f = (f 0 && f 1) := by simp [List.range_succ]
theorem nil_eq_one {prog : Program} {w : World} {A : Around} {E : Value → Shared → Prop} {Q : Value → Shared → Prop} {s : Shared} {S U : Addr} {v : Value} (hS : s.heap.IsTuple S #[]) (hU : s.heap.IsTuple U #[v]) (hu : A.units < cLine)
    (k : Q (.bool false) s) : wpAny (model prog w) A (compareOp .Eq (.ref S) (.ref U)) Q E s :=
  eq_tupleAt (e := fun ω => true) hS hU hu (fun j h1 ω => absurd h1 (Nat.not_lt_zero _)) k
end
section --N5
open PySem PySem.W PyProof.Rows PySem.Calls PySem.Spec PySem.SeqAt
set_option maxHeartbeats 1000000
section
variable {G : Gl} {cs : Scope} {c : Cx G cs} {m : Str → Option Value} {fp l : Led} {h : Heap} {x y : Str} {p p' p'' px py pos spos : Pos} {v : Value} {f f₁ f₂ : Tok → Value} {e e₁ e₂ elt iter : Expr} {d d' : Nat} {X : Post} {Q : Value → Shared → Prop} {QF : Flow → Shared → Prop} {rest : List Stmt} {sc : Scope} {cl : List (Str × Addr)} {ta ax : Addr} {vs : List Value}
theorem ex_tail {k j : Nat} {sp : Pos} (W : At c m fp l h) (e1 : Ev c h e₁ (fun ω => .ref ta)) (ht : TupIn l ta vs) (hk : (k : Int) = ki) (h1 : 1 ≤ k) (ha : k ≤ vs.length) (hz : vs.length ≤ 64)
    (q : ∀ D h', At c m fp ((D, tupO (vs.drop k)) :: l) h' → ∀ tk, Q (.ref D) (c.S h' tk))
    (hs : autoParam (∀ D, subscripted (.Slice (some (.Constant (.int ki) j p'')) none none sp) false (.ref ta) (.ref D) = operate [.ref D, .ref ta] (getItem (.ref ta) (.ref D))) aJ)
    (hg : autoParam (∀ r, letTemporaryGo e₁ (.ref ta) r = pure ()) aJ) : Ex c h (.Subscript e₁ (.Slice (some (.Constant (.int ki) j p'')) none none sp) p) Q := ⟨fun tk => by
  subst hk
  refine Subscript_ (e1 _ _ _ fun ω tk' => wpAny_Slice (evalPart_some_step (wpAny_Constant_int (evalPart_none_step (evalPart_none_step ?_)))))
  exact slice_tup (s := c.S h (tk' + 1)) W.F W.N ht W.sub h1 ha hz (fun D h' F' N' lt => q D h' (W.push F' N' lt) _) (hs _) hg⟩
noncomputable def CmpK (c : Cx G cs) (elt iter : Expr) (x : Str) (px : Pos) (sc : Scope) (cl : List (Str × Addr)) (pos : Pos) (us : Option (Value → Sem Unit)) (Q : Value → Shared → Prop) : Value → Shared → Prop := fun xv s₁ =>
  wpAny G.M c.A (pyIter xv) (fun it s₂ => wpAny G.M c.A (newList []) (fun acc s₃ => wpAny G.M c.A (newFunctionEnv sc c.env.globals cl [] c.env.qual none .none (some c.env)) (fun cenv s₄ =>
      codeAny G.M c.A (.compStart (.ListComp elt [⟨.Name x px, iter, [], 0⟩] sc pos) 0 it acc { cenv with scope := relabel sc c.env }) (compPost G.M c.A c.E us Q acc cenv.locals) s₄) c.E s₃) c.E s₂) c.E s₁
theorem ex_comp (hclos : closureFor sc c.env = pure cl) (k : Ex c h iter (CmpK c elt iter x px sc cl pos none Q)) (hkind : autoParam (sc.kind = .function) aR) (hnames : autoParam (∀ z ∈ sc.names, z.2 = .local → sc.names.lookup z.1 = some .local) aD)
    (hs : autoParam (∀ x, foldedSetIterable iter c.env x = pure x) aI) : Ex c h (.ListComp elt [⟨.Name x px, iter, [], 0⟩] sc pos) Q := ⟨fun tk => eval_comp hclos hkind hnames (k.go tk) hs⟩
set_option tactic.hygienic true in
theorem run_comp (hclos : closureFor sc c.env = pure cl) (k : Ex c h iter (CmpK c elt iter x px sc cl pos (some (assign (.Name y py) c.env)) fun ω s' => Sq c QF rest .next s')) (hsw : autoParam (swapsWith (.ListComp elt [⟨.Name x px, iter, [], 0⟩] sc pos) (some (.Name y py)) spos.line c.env = pure true) aW) (hkind : autoParam (sc.kind = .function) aR) (hnames : autoParam (∀ z ∈ sc.names, z.2 = .local → sc.names.lookup z.1 = some .local) aD)
    (hs : autoParam (∀ x, foldedSetIterable iter c.env x = pure x) aI) : Run c QF h (.Assign [.Name y py] (.ListComp elt [⟨.Name x px, iter, [], 0⟩] sc pos) spos :: rest) := Run.cons fun tk => assign_comp hsw hclos hkind hnames (k.go tk) hs
noncomputable def Elt (c : Cx G cs) (l : Led) (elt : Expr) (x : Str) (sc : Scope) (cl : List (Str × Addr)) (m : Str → Option Value) (v : Value) (fn : Value) (args : Tok → List Value) : Prop :=
  ∀ C h mC news tk Q' E', h.Ns C mC → mC x = some v → Fr G.h₀ c.L h m → News G.h₀ c.L h news → Sub l news → (∀ tk' u, wpAny G.M c.A (call fn (args u)) Q' E' (c.S h tk')) → wpAny G.M c.A (eval elt (compEnvC sc cl C c.env)) Q' E' (c.S h tk)
theorem At.src (W : At c m fp l h) {o : Obj} (hm : (ax, o) ∈ l) : ax < h.objs.size ∧ G.h₀.get? ax = none ∧ ax ≠ c.L ∧ ∀ p ∈ fp ++ c.fs, p.1 ≠ ax :=
  ⟨Heap.lt_size (W.N _ (W.inl hm)).1, (W.N _ (W.inl hm)).2.2, (W.N _ (W.inl hm)).2.1, fun p hp e => W.Z.ap p hp _ (List.mem_append_right _ hm) e.symm⟩
theorem pass_G {Xc : Post} (V : Live c d) (EX : Exs c X) {fp₁ : Led} (W : At c m fp l h) (kx : ∀ C fp' l', Xc C fp' l' → Sub l l' → X C fp' l') : ∀ e C fp' oL' fs' l' h' tk, Xc C fp' l' → FlyG G.h₀ (c.env :: c.outer) e C h' fp' ((c.L, oL') :: fs') (c.xs ++ l') → h'.Ns c.L m → G.h₀.objs.size ≤ c.L → TI.SameUp c.fs fs' → Gro c.xs l l' → c.E (.ref e) (c.S h' tk) :=
  fun e C fp' oL' fs' l' h' tk q Hf hn hL SU g => leave_flyG (s := c.S h' tk) V.fr rfl Hf hn hL fun fs'' h'' x y => EX (kx _ _ _ q g.sub) x (TI.SameUp.trans SU y) (W.G.trans g)
theorem At.pushD {D : Addr} {o : Obj} {fp' l' : Led} {h' : Heap} (W : At c m fp l h) (F' : Fr G.h₀ c.L h' m) (N' : News G.h₀ c.L h' ((D, o) :: (fp' ++ (c.fs ++ (c.xs ++ l'))))) (Z' : Ap fp' c.fs (c.xs ++ l')) (g : Gro c.xs l l') (ne : ∀ p ∈ fp' ++ (c.fs ++ (c.xs ++ l')), p.1 ≠ D) : At c m fp' ((D, o) :: l') h' := by
  refine ⟨F', News.sub N' fun q hq => ?_, ⟨fun q hq r hr => ?_, Z'.apf, Z'.dist⟩, (W.G.trans g).trans ⟨fun q hq => List.mem_cons_of_mem _ hq, fun q hq => ?_⟩⟩
  · simp only [List.mem_append, List.mem_cons] at hq ⊢
    rcases hq with hq | hq | hq | hq | hq <;> simp [hq]
  · have hr' : r = (D, o) ∨ r ∈ c.xs ++ l' := by
      simp only [List.mem_append, List.mem_cons] at hr ⊢
      rcases hr with hr | hr | hr <;> simp [hr]
    rcases hr' with rfl | hr'
    · refine (ne q ?_).symm
      simp only [List.mem_append] at hq ⊢
      rcases hq with hq | hq <;> simp [hq]
    · exact Z'.ap q hq r hr'
  · rcases List.mem_cons.mp hq with rfl | hq
    · exact .inr fun x hx => (ne x (by simp [hx])).symm
    · exact .inl hq
theorem cmp_tup {fn : Value} {args : Value → Tok → List Value} {Inv : Nat → List Value → Led → Led → Prop} {Xc : Post} (V : Live c d) (W : At c m fp l h) (ht : TupIn l ax vs) (hsz : vs.length ≤ 1000) (EX : Exs c X) (kx : ∀ C fp' l', Xc C fp' l' → Sub l l' → X C fp' l')
    (helt : ∀ (i : Nat) v, vs[i]? = some v → Elt c l elt x sc cl m v fn (args v)) (h0 : Inv 0 [] fp l) (hInv : ∀ i ys fp' l', Inv i ys fp' l' → fp'.map (·.1) = fp.map (·.1))
    (step : ∀ (i : Nat) v u ys fp' l', vs[i]? = some v → Inv i ys fp' l' → Does G.M G.h₀ fn (args v u) d' fp' l' (fun r fp'' l'' => Inv (i + 1) (ys ++ [r]) fp'' l'') Xc)
    (k : ∀ D ys fp' l' h' n, Inv vs.length ys fp' l' → ys.length = vs.length → At c m fp' ((D, listOf ys.toArray n) :: l') h' → Sub l l' → ∀ tk, Q (.ref D) (c.S h' tk)) (hd : autoParam (d' ≤ d) aD)
    (hcell : autoParam (∀ y ∈ sc.names, y.2 ≠ .cell) aD) (hkind : autoParam (sc.kind = .function) aR) (hx : autoParam (sc.names.lookup x = some .local) aR) : ∀ tk, CmpK c elt iter x px sc cl pos none Q (.ref ax) (c.S h tk) := fun tk => by
  obtain ⟨o, n, hm, hc, hdat⟩ := id ht
  refine comp_tup (s₂ := c.S h tk) (loc := []) (xs := c.xs) (fs := c.fs) (fp := fp) (l := l) (ht.isTup W.N W.sub) (Nat.le_trans hsz (by decide)) (W.src hm) hcell hkind hx W.F W.N V.fr rfl V.hk V.Fs V.hh (V.room.mono hd) W.Z zl_nil ?_ h0 hInv step ?_ (pass_G V EX W kx (fp₁ := fp))
  · intro C i v h tk mC Q' E' hv hn hx Fh Nh hCL hC0 hcall
    exact helt i v hv C h mC _ tk Q' E' hn hx Fh Nh (Sub.app (Sub.app (Sub.refl l))) hcall
  · intro D ys fp' l' h' tk k' hi hl F' N' Z' lt g
    exact k D ys fp' l' h' k' hi hl (At.pushD W F' N' Z' g lt) g.sub tk
theorem At.nameD {D : Addr} {fp' l' : Led} {h' : Heap} {mm : Str → Option Value} {o : Obj} (W : At c m fp l h) (F' : Fr G.h₀ c.L h' mm) (N' : News G.h₀ c.L h' ((D, o) :: (fp' ++ (c.fs ++ (c.xs ++ l'))))) (Z' : Ap fp' c.fs (c.xs ++ l')) (g : Gro c.xs l l') (ne : ∀ p ∈ fp' ++ (c.fs ++ (c.xs ++ l')), p.1 ≠ D) : At c mm fp' ((D, o) :: l') h' :=
  At.pushD (m := mm) (h := h') (fp := fp') (l := l') ⟨F', News.sub N' fun q hq => List.mem_cons_of_mem _ hq, Z', W.G.trans g⟩ F' N' Z' (Gro.refl _ _) ne
set_option tactic.hygienic true in
theorem cmp_tup_set {fn : Value} {args : Value → Tok → List Value} {Inv : Nat → List Value → Led → Led → Prop} {Xc : Post} (V : Live c d) (W : At c m fp l h) (ht : TupIn l ax vs) (hsz : vs.length ≤ 1000) (EX : Exs c X) (kx : ∀ C fp' l', Xc C fp' l' → Sub l l' → X C fp' l')
    (helt : ∀ (i : Nat) v, vs[i]? = some v → Elt c l elt x sc cl m v fn (args v)) (h0 : Inv 0 [] fp l) (hInv : ∀ i ys fp' l', Inv i ys fp' l' → fp'.map (·.1) = fp.map (·.1))
    (step : ∀ (i : Nat) v u ys fp' l', vs[i]? = some v → Inv i ys fp' l' → Does G.M G.h₀ fn (args v u) d' fp' l' (fun r fp'' l'' => Inv (i + 1) (ys ++ [r]) fp'' l'') Xc)
    (k : ∀ D ys fp' l' h' n, Inv vs.length ys fp' l' → ys.length = vs.length → At c (up m y (.ref D)) fp' ((D, listOf ys.toArray n) :: l') h' → Sub l l' → Run c QF h' rest) (hd : autoParam (d' ≤ d) aD)
    (hcell : autoParam (∀ y ∈ sc.names, y.2 ≠ .cell) aD) (hkind : autoParam (sc.kind = .function) aR) (hx : autoParam (sc.names.lookup x = some .local) aR) (hy : autoParam (cs.names.lookup y = some .local) aR) (hp : autoParam ((c.env.scope.kind == .class || (c.env.scope.kind == .module && c.env.locals != c.env.globals)) = false) aR) :
    ∀ tk, CmpK c elt iter x px sc cl pos (some (assign (.Name y py) c.env)) (fun ω s' => Sq c QF rest .next s') (.ref ax) (c.S h tk) := fun tk => by
  obtain ⟨o, n, hm, hc, hdat⟩ := id ht
  refine comp_tup_set (s₂ := c.S h tk) (loc := []) (xs := c.xs) (fs := c.fs) (fp := fp) (l := l) (ht.isTup W.N W.sub) (Nat.le_trans hsz (by decide)) (W.src hm) hcell hkind hx W.F W.N V.fr rfl V.hk V.Fs V.hh (V.room.mono hd) W.Z zl_nil ?_ h0 hInv step hy hp rfl ?_ (pass_G V EX W kx (fp₁ := fp))
  · intro C i v h tk mC Q' E' hv hn hx Fh Nh hCL hC0 hcall
    exact helt i v hv C h mC _ tk Q' E' hn hx Fh Nh (Sub.app (Sub.app (Sub.refl l))) hcall
  · intro D ys fp' l' h' tk k' hi hl F' N' Z' lt g
    exact (k D ys fp' l' h' k' hi hl (At.nameD W F' N' Z' g lt) g.sub).go tk
theorem cmp_rng {fn : Value} {args : Value → Tok → List Value} {Inv : Nat → List Value → Led → Led → Prop} {Xc : Post} {rb : Int} {cnt : Nat} {t₁ t₂ t₃ : Tok} (V : Live c d) (W : At c m fp l h) (hr : IsRange h ax 0 rb 1 t₁ t₂ t₃) (hb : rb = (cnt : Int)) (hsz : cnt ≤ 1000) (EX : Exs c X) (kx : ∀ C fp' l', Xc C fp' l' → Sub l l' → X C fp' l')
    (helt : ∀ (i : Nat) t, i < cnt → Elt c l elt x sc cl m (.int (0 + i * 1) t) fn (args (.int (0 + i * 1) t))) (h0 : Inv 0 [] fp l) (hInv : ∀ i ys fp' l', Inv i ys fp' l' → fp'.map (·.1) = fp.map (·.1))
    (step : ∀ (i : Nat) v u ys fp' l', i < cnt → Inv i ys fp' l' → Does G.M G.h₀ fn (args v u) d' fp' l' (fun r fp'' l'' => Inv (i + 1) (ys ++ [r]) fp'' l'') Xc)
    (k : ∀ D ys fp' l' h' n, Inv cnt ys fp' l' → ys.length = cnt → At c m fp' ((D, listOf ys.toArray n) :: l') h' → Sub l l' → ∀ tk, Q (.ref D) (c.S h' tk)) (hd : autoParam (d' ≤ d) aD)
    (hcell : autoParam (∀ y ∈ sc.names, y.2 ≠ .cell) aD) (hkind : autoParam (sc.kind = .function) aR) (hx : autoParam (sc.names.lookup x = some .local) aR) : ∀ tk, CmpK c elt iter x px sc cl pos none Q (.ref ax) (c.S h tk) := fun tk => by
  refine comp_rng (s₂ := c.S h tk) (loc := []) (xs := c.xs) (fs := c.fs) (fp := fp) (l := l) hr hb hsz hcell hkind hx W.F W.N V.fr rfl V.hk V.Fs V.hh (V.room.mono hd) W.Z zl_nil ?_ h0 hInv (fun i v u ys fp' l' hi => step i v u ys fp' l' hi.1) ?_ (pass_G V EX W kx (fp₁ := fp))
  · intro C i v h tk mC Q' E' hv hn hx Fh Nh hCL hC0 hcall
    obtain ⟨hi, t, rfl⟩ := hv
    exact helt i t hi C h mC _ tk Q' E' hn hx Fh Nh (Sub.app (Sub.app (Sub.refl l))) hcall
  · intro D ys fp' l' h' tk k' hi hl F' N' Z' lt g
    exact k D ys fp' l' h' k' hi hl (At.pushD W F' N' Z' g lt) g.sub tk
end
end
section --N6
open PySem PySem.W PyProof.Rows PySem.Calls PySem.Spec PySem.SeqAt
set_option maxHeartbeats 1000000
section
variable {G : Gl} {cs : Scope} {c : Cx G cs} {m : Str → Option Value} {fp l : Led} {h : Heap} {x y : Str} {p p' p'' px py pos spos : Pos} {v : Value} {f f₁ f₂ : Tok → Value} {e e₁ e₂ elt iter : Expr} {d d' : Nat} {X : Post} {Q : Value → Shared → Prop} {QF : Flow → Shared → Prop} {rest body : List Stmt} {sc : Scope} {cl : List (Str × Addr)} {ta ax : Addr} {vs ps : List Value} {o : Obj}
theorem At.pushF {D : Addr} {h' : Heap} (W : At c m fp l h) (F' : Fr G.h₀ c.L h' m) (N' : News G.h₀ c.L h' ((D, o) :: (fp ++ (c.fs ++ (c.xs ++ l))))) (lt : ∀ p ∈ fp ++ (c.fs ++ (c.xs ++ l)), p.1 < D) : At c m ((D, o) :: fp) l h' := by
  refine ⟨F', N', ⟨fun q hq r hr => ?_, fun q hq r hr => ?_, List.pairwise_cons.mpr ⟨fun q hq => Nat.ne_of_gt (lt q (List.mem_append_left _ hq)), W.Z.dist⟩⟩, W.G⟩
  · rcases List.mem_cons.mp hq with rfl | hq
    · exact Nat.ne_of_lt (lt r (List.mem_append_right _ (List.mem_append_right _ hr)))
    · exact W.Z.ap q hq r hr
  · rcases List.mem_cons.mp hq with rfl | hq
    · exact Nat.ne_of_lt (lt r (List.mem_append_right _ (List.mem_append_left _ hr)))
    · exact W.Z.apf q hq r hr
theorem At.settle {D : Addr} (W : At c m ((D, o) :: fp) l h) : At c m fp ((D, o) :: l) h := by
  have hd := List.pairwise_cons.mp W.Z.dist
  refine ⟨W.F, News.sub W.N fun q hq => ?_, ⟨fun q hq r hr => ?_, fun q hq => W.Z.apf q (List.mem_cons_of_mem _ hq), hd.2⟩, W.G.trans ⟨fun q hq => List.mem_cons_of_mem _ hq, fun q hq => ?_⟩⟩
  · simp only [List.mem_append, List.mem_cons, List.cons_append] at hq ⊢
    rcases hq with hq | hq | hq | hq | hq <;> simp [hq]
  · have hr' : r = (D, o) ∨ r ∈ c.xs ++ l := by
      simp only [List.mem_append, List.mem_cons] at hr ⊢
      rcases hr with hr | hr | hr <;> simp [hr]
    rcases hr' with rfl | hr'
    · rcases List.mem_append.mp hq with hq | hq
      · exact hd.1 q hq
      · exact (W.Z.apf _ List.mem_cons_self q hq).symm
    · exact W.Z.ap q (List.mem_cons_of_mem _ hq) r hr'
  · rcases List.mem_cons.mp hq with rfl | hq
    · exact .inr fun x hx e => W.Z.ap _ List.mem_cons_self x (List.mem_append_left _ hx) e.symm
    · exact .inl hq
theorem run_newdict (W : At c m fp l h) (k : ∀ D o h', (D == sysModules) = false → o.IsDictOf (PySem.strKind PG G.w) [] → At c (up m x (.ref D)) ((D, o) :: fp) l h' → Run c QF h' rest) (hk : autoParam (cs.kind = .function) aR) (hx : autoParam (cs.names.lookup x = some .local) aR)
    (hs : autoParam (∀ line, swapsWith (.Dict [] [] p) (some (.Name x p')) line c.env = pure false) aI) : Run c QF h (.Assign [.Name x p'] (.Dict [] [] p) p'' :: rest) :=
  run_setX ⟨fun tk => newDict_K (s := c.S h tk) W.F W.N G.T.nolimit fun D h' o F' N' lt lo hd ω ω ω => store_at (W.pushF F' N' lt) (fun h'' W' tk' => (k D o h'' lo hd W').go tk') hk hx⟩ hs
theorem ex_dict (W : At c m fp l h) (k : ∀ D o h', (D == sysModules) = false → o.IsDictOf (PySem.strKind PG G.w) [] → At c m ((D, o) :: fp) l h' → ∀ tk, Q (.ref D) (c.S h' tk)) : Ex c h (.Dict [] [] p) Q := ⟨fun tk =>
  newDict_K (s := c.S h tk) W.F W.N G.T.nolimit fun D h' o F' N' lt lo hd ω ω ω => k D o h' lo hd (W.pushF F' N' lt) tk⟩
noncomputable def TurnQ (c : Cx G cs) (J : (Str → Option Value) → Led → Prop) (l : Led) : Flow → Shared → Prop := fun f s' => f = .next ∧ ∃ m fp h tk, s' = c.S h tk ∧ J m fp ∧ At c m fp l h
theorem turn_end {J : (Str → Option Value) → Led → Prop} (W : At c m fp l h) (j : J m fp) : Run c (TurnQ c J l) h [] := run_nil fun tk => ⟨rfl, m, fp, h, tk, rfl, j, W⟩
theorem run_forzip {J : Nat → (Str → Option Value) → Led → Prop} {pa aa : Addr} {n kk : Nat} {pz pt pc : Pos} (V : Live c d) (W : At c m fp l h) (e1 : Ev c h e₁ (fun ω => .ref pa)) (hp : TupIn l pa ps) (e2 : Ev c h e₂ (fun ω => .ref aa)) (ha : (aa, listOf vs.toArray kk) ∈ l) (hl : vs.length = ps.length)
    (h0 : J 0 m fp) (hmap : ∀ i m' fp', J i m' fp' → fp'.map (·.1) = fp.map (·.1))
    (step : ∀ j v0 v1 m1 fp1 l1 h1, ps[j]? = some v0 → vs[j]? = some v1 → J j m1 fp1 → At c (up (up m1 x v0) y v1) fp1 l1 h1 → Sub l l1 → Run c (TurnQ c (J (j + 1)) l1) h1 body)
    (k : ∀ m' fp' h', J ps.length m' fp' → At c m' fp' l h' → Run c QF h' rest)
    (hn : nsIn (K0.heap_1 G.w.params) mainGlobals (Str.ofString "zip") = some none) (hk : autoParam (cs.kind = .function) aR) (hz : autoParam (cs.names.lookup (Str.ofString "zip") = some .globalImplicit) aR) (hx : autoParam (cs.names.lookup x = some .local) aR) (hy : autoParam (cs.names.lookup y = some .local) aR)
    (hpp : autoParam ((c.env.scope.kind == .class || (c.env.scope.kind == .module && c.env.locals != c.env.globals)) = false) aR)
    (he : autoParam (notStar e₁ = true) aR) (he2 : autoParam (notStar e₂ = true) aR)
    (hs : autoParam (∀ x, foldedSetIterable (.Call (.Name (Str.ofString "zip") pz) [e₁, e₂] [] pc) c.env x = pure x) aI) :
    Run c QF h (.For (.Tuple [.Name x px, .Name y py] n pt) (.Call (.Name (Str.ofString "zip") pz) [e₁, e₂] [] pc) body [] pos :: rest) := Run.cons fun tk => by
  refine For_pair3 (s := c.S h tk) G.h₀ V.hh hx hy hpp ?_ hs (by unfold Cx.E; passes_own)
  refine Call_ (nameX_B (s := c.S h tk) W.F G.X (topRead_of G.T) hn rfl (by decide) (PyProof.Rows.callWith_type1 (T := "zip") (args_cons (e1 _ _ _ fun ω tk' => args_cons (e2 _ _ _ fun ω tk2 => args_nil ?_) (star_of he2)) (star_of he)) (star_of he) (by rw [star_of he2]; rfl)) hk hz (by decide)) call_name
  have tup := hp.isTup W.N W.sub
  have lst := W.N.isList (W.inl ha)
  have lt : ∀ p ∈ fp ++ (c.fs ++ (c.xs ++ l)), p.1 < h.objs.size := fun p hp => Heap.lt_size (W.N p hp).1
  obtain ⟨op, np', hpm, _⟩ := id hp
  have pal : pa < h.objs.size := lt _ (W.inl hpm)
  have aal : aa < h.objs.size := lt _ (W.inl ha)
  have Ll : c.L < h.objs.size := W.F.ns.lt
  refine call_zip_tl (s := c.S h tk2) (l1 := pa) (l2 := aa) tup lst fun h3 z1 z2 z3 z4 z5 z6 z7 => ?_
  dsimp only at z1 z2 z3 z4 z5 z6 z7 ⊢
  refine wpAny_pyIter_zip z1 ?_
  have D : ZipD (h.objs.size + 4) (h.objs.size + 2) (h.objs.size + 3) h.objs.size (h.objs.size + 1) [h.objs.size, pa] [h.objs.size + 1, aa] := zipD_at pal aal
  have D1 := fun (A' : Around) (hA : A'.handled = none) => Draws.tuple (prog := PG) (w := G.w) hA h.objs.size pa (Nat.ne_of_lt pal) ps.toArray
  have D2 : ∀ (A' : Around) (hA : A'.handled = none), Draws PG G.w A' (h.objs.size + 1) [h.objs.size + 1, aa] ps.toArray.size (fun i v => vs.toArray[i]? = some v) (fun i h' => h'.IsListIter (h.objs.size + 1) aa i ∧ h'.IsList aa vs.toArray) := fun A' hA => by
    have := Draws.list (prog := PG) (w := G.w) hA (h.objs.size + 1) aa (Nat.ne_of_lt (Nat.lt_succ_of_lt aal)) vs.toArray
    rwa [show vs.toArray.size = ps.toArray.size from by simp [hl]] at this
  have n0 : ∀ a, h.objs.size ≤ a → G.h₀.get? a = none := fun a ha => by
    cases e : G.h₀.get? a with
    | none => rfl
    | some o' => exact absurd (Heap.lt_size (W.F.keep _ _ e)) (Nat.not_lt.mpr ha)
  have apart : ∀ q : Addr × Obj, q.1 ∈ ((h.objs.size + 4) :: (h.objs.size + 2) :: (h.objs.size + 3) :: ([h.objs.size, pa] ++ [h.objs.size + 1, aa])) → h.objs.size ≤ q.1 ∨ q.1 = pa ∨ q.1 = aa := fun q hq => by
    simp only [List.mem_cons, List.cons_append, List.nil_append, List.not_mem_nil, or_false] at hq
    rcases hq with e | e | e | e | e | e | e
    · exact .inl (e ▸ Nat.le_add_right _ 4)
    · exact .inl (e ▸ Nat.le_add_right _ 2)
    · exact .inl (e ▸ Nat.le_add_right _ 3)
    · exact .inl (e ▸ Nat.le_refl _)
    · exact .inr (.inl e)
    · exact .inl (e ▸ Nat.le_add_right _ 1)
    · exact .inr (.inr e)
  refine ⟨h.objs.size + 4, _, _, ps.toArray.size, _, _, _, (fun i v0 v1 => ps[i]? = some v0 ∧ vs[i]? = some v1), m, fp ++ (c.fs ++ (c.xs ++ l)), (fun i m₁ news₁ => ∃ fp₁, news₁ = fp₁ ++ (c.fs ++ (c.xs ++ l)) ∧ Ap fp₁ c.fs (c.xs ++ l) ∧ J i m₁ fp₁), rfl, WalksT.zipD D (D1 _ V.hh) (D2 _ V.hh), ?w1, ?w2, ?w3, ?w4, ?w5, W.F.keeps z7, W.N.grown z7, ⟨fp, rfl, W.Z, h0⟩, ?w7, ?w8⟩
  case w1 =>
    rintro i vals ⟨x, y, hx, hy, rfl⟩
    exact ⟨x, y, rfl, by simpa using hx, by simpa using hy⟩
  case w2 => exact zip_fp Ll (W.N _ (W.inl hpm)).2.1.symm (W.N _ (W.inl ha)).2.1.symm
  case w3 => exact fun b hb => n0 b (zip_wr hb)
  case w4 => exact fun q hq hb => Nat.lt_irrefl _ (Nat.lt_of_lt_of_le (lt q hq) (zip_wr hb))
  case w5 => exact ⟨z1, z2, ⟨_, _, z3⟩, ⟨z4, Heap.IsTuple.at tup fun o e => z7 _ o e⟩, z5, lst.at fun o e => z7 _ o e⟩
  case w7 =>
    rintro j v0 v1 m₁ news₁ s₁ own ⟨h5, tk5, rfl⟩ hj ⟨hv0, hv1⟩ ⟨fp₁, rfl, Z₁, hJ⟩ hm hown F5 N5
    have inl : ∀ q ∈ own, h.objs.size ≤ q.1 ∨ q ∈ l := fun q hq => by
      have e := (N5 q (List.mem_append_left _ hq)).1
      rcases apart q (hown q hq) with z | z | z
      · exact .inl z
      · have e2 := (N5 _ (List.mem_append_right own (List.mem_append_right fp₁ (List.mem_append_right c.fs (List.mem_append_right c.xs hpm))))).1
        dsimp only at e2; rw [z, e2] at e
        exact .inr ((show q = (pa, op) from Prod.ext z (Option.some.inj e).symm) ▸ hpm)
      · have e2 := (N5 _ (List.mem_append_right own (List.mem_append_right fp₁ (List.mem_append_right c.fs (List.mem_append_right c.xs ha))))).1
        dsimp only at e2; rw [z, e2] at e
        exact .inr ((show q = (aa, _) from Prod.ext z (Option.some.inj e).symm) ▸ ha)
    have low : ∀ q ∈ fp₁ ++ (c.fs ++ (c.xs ++ l)), q.1 < h.objs.size := fun q hq => by
      have : q.1 ∈ (fp ++ (c.fs ++ (c.xs ++ l))).map (·.1) := hm ▸ List.mem_map_of_mem hq
      obtain ⟨r, hr, er⟩ := List.mem_map.mp this
      exact er ▸ lt r hr
    have W5 : At c (up (up m₁ x v0) y v1) fp₁ (own ++ l) h5 := ⟨F5, News.sub N5 fun q hq => by
        simp only [List.mem_append] at hq ⊢
        rcases hq with hq | hq | hq | hq | hq <;> simp [hq], ⟨fun q hq r hr => by
        have hr' : r ∈ own ∨ r ∈ c.xs ++ l := by
          simp only [List.mem_append] at hr ⊢
          rcases hr with hr | hr | hr <;> simp [hr]
        rcases hr' with hr' | hr'
        · rcases inl r hr' with z | z
          · refine Nat.ne_of_gt (Nat.lt_of_lt_of_le (low q ?_) z)
            simp only [List.mem_append] at hq ⊢
            rcases hq with hq | hq <;> simp [hq]
          · exact Z₁.ap q hq r (List.mem_append_right _ z)
        · exact Z₁.ap q hq r hr', Z₁.apf, Z₁.dist⟩, ⟨fun q hq => List.mem_append_right _ (W.G.sub q hq), fun q hq => by
        rcases List.mem_append.mp hq with hq | hq
        · rcases inl q hq with z | z
          · exact .inr fun r hr => Nat.ne_of_gt (Nat.lt_of_lt_of_le (low r (by simp [hr])) z)
          · exact W.G.new q z
        · exact W.G.new q hq⟩⟩
    refine wpAny_mono ((step j v0 v1 m₁ fp₁ (own ++ l) h5 hv0 hv1 hJ W5 (fun q hq => List.mem_append_right _ hq)).go tk5) (fun f s' q => ?_) fun ω ω e => e
    obtain ⟨rfl, m2, fp2, h2, tk2, rfl, hJ2, W2⟩ := q
    refine (show LoopStep2 _ _ _ _ _ _ _ _ from ⟨rfl, h2, tk2, m2, fp2 ++ (c.fs ++ (c.xs ++ l)), rfl, W2.F, News.sub W2.N fun q hq => ?_, ?_, fp2, rfl, W2.Z.less fun q hq => ?_, hJ2⟩)
    · simp only [List.mem_append] at hq ⊢
      rcases hq with hq | hq | hq | hq | hq <;> simp [hq]
    · rw [List.map_append, List.map_append (l₁ := fp₁), hmap _ _ _ hJ2, hmap _ _ _ hJ]
    · simp only [List.mem_append] at hq ⊢
      rcases hq with hq | hq <;> simp [hq]
  case w8 =>
    rintro h5 tk5 m' news' F5 N5 hm ⟨fp', rfl, Z', hJ⟩
    rw [List.size_toArray] at hJ
    exact (k m' fp' h5 hJ ⟨F5, N5, Z', W.G⟩).go tk5
end
end
section --N7
open PySem PySem.W PyProof.Rows PySem.Calls PySem.Spec PySem.SeqAt
set_option maxHeartbeats 1000000
section
variable {G : Gl} {cs : Scope} {c : Cx G cs} {m : Str → Option Value} {fp l : Led} {h : Heap} {x y : Str} {p p' p'' px py pos spos : Pos} {v : Value} {f f₁ f₂ : Tok → Value} {e e₁ e₂ elt iter : Expr} {d d' : Nat} {X : Post} {Q : Value → Shared → Prop} {QF : Flow → Shared → Prop} {rest body bt bf : List Stmt} {b b₁ b₂ : Bool} {es : List Expr}
theorem Live.u0 (V : Live c (d + 1)) : c.A.units < cLine := by have := V.room.2; lia
theorem Live.u1 (V : Live c (d + 1)) : c.A.in1.units < cLine := by rw [units_in1]; have := V.room.2; lia
theorem Live.u2 (V : Live c (d + 1)) : c.A.in1.in1.units < cLine := by rw [units_in1, units_in1]; have := V.room.2; lia
structure TeG (c : Cx G cs) (m : Str → Option Value) (fp l : Led) (h : Heap) (e : Expr) (b : Bool) : Prop where
  go : ∀ (whole : Sem Value) (Q : Bool → Shared → Prop) (tk : Nat), (∀ l' h' tk', Sub l l' → At c m fp l' h' → Q b (c.S h' tk')) → wpAny G.M c.A (isTrue e c.env whole) Q c.E (c.S h tk)
theorem Te.g (t : Te c h e b) (W : At c m fp l h) : TeG c m fp l h e b := ⟨fun whole Q tk q => t whole Q _ tk fun tk' => q l h tk' (Sub.refl l) W⟩
theorem teg_and_f (t : TeG c m fp l h e false) : TeG c m fp l h (.BoolOp .And (e :: es) p) false := ⟨fun whole Q tk q => isTrue_and (t.go _ _ tk fun l' h' tk' s W => q l' h' tk' s W)⟩
theorem teg_and_t (t : TeG c m fp l h e true) (k : ∀ l' h', Sub l l' → At c m fp l' h' → TeG c m fp l' h' (.BoolOp .And es p) b) : TeG c m fp l h (.BoolOp .And (e :: es) p) b := ⟨fun whole Q tk q => isTrue_and (t.go _ _ tk fun l' h' tk' s W => (k l' h' s W).go whole Q tk' fun l2 h2 tk2 s2 W2 => q l2 h2 tk2 (s.trans s2) W2)⟩
theorem teg_and1 (W : At c m fp l h) (t : TeG c m fp l h e b) : TeG c m fp l h (.BoolOp .And [e] p) b := ⟨fun whole Q tk q => isTrue_and (t.go _ _ tk fun l' h' tk' s W => by
  cases b with
  | true => exact isTrue_and_nil (q l' h' tk' s W)
  | false => exact q l' h' tk' s W)⟩
theorem teg_or_t (t : TeG c m fp l h e true) : TeG c m fp l h (.BoolOp .Or (e :: es) p) true := ⟨fun whole Q tk q => isTrue_or (t.go _ _ tk fun l' h' tk' s W => q l' h' tk' s W)⟩
theorem teg_or_f (t : TeG c m fp l h e false) (k : ∀ l' h', Sub l l' → At c m fp l' h' → TeG c m fp l' h' (.BoolOp .Or es p) b) : TeG c m fp l h (.BoolOp .Or (e :: es) p) b := ⟨fun whole Q tk q => isTrue_or (t.go _ _ tk fun l' h' tk' s W => (k l' h' s W).go whole Q tk' fun l2 h2 tk2 s2 W2 => q l2 h2 tk2 (s.trans s2) W2)⟩
theorem teg_or1 (t : TeG c m fp l h e b) : TeG c m fp l h (.BoolOp .Or [e] p) b := ⟨fun whole Q tk q => isTrue_or (t.go _ _ tk fun l' h' tk' s W => by
  cases b with
  | true => exact q l' h' tk' s W
  | false => exact isTrue_or_nil (q l' h' tk' s W))⟩
theorem run_ifG (W : At c m fp l h) (t : TeG c m fp l h e b) (h1 : ∀ l' h', Sub l l' → At c m fp l' h' → b = true → Run c (Sq c QF rest) h' bt) (h2 : ∀ l' h', Sub l l' → At c m fp l' h' → b = false → Run c QF h' rest) : Run c QF h (.If e bt [] p :: rest) :=
  Run.cons fun tk => wpAny_If (t.go _ _ tk fun l' h' tk' s W => by
    cases b with
    | true => exact (h1 l' h' s W rfl).go tk'
    | false => exact (run_next (h2 l' h' s W rfl)).go tk')
theorem Te.gb {b' : Bool} (t : Te c h e b) (W : At c m fp l h) (hb : b = b') : TeG c m fp l h e b' := hb ▸ t.g W
theorem te_same {b' : Bool} (t : TeG c m fp l h e b) (hb : b = b') : TeG c m fp l h e b' := hb ▸ t
theorem teg_eqItem {nm : Str} {it : It} {b : Bool} {j j1 j2 : Nat} {q1 q2 : Pos} (V : Live c (d + 1)) (W : At c m fp l h) (e1 : Ev c h e₁ (fun ω => v)) (hi : IsIt l v it) (hb : isSym nm it = b) (hm : autoParam (behindInMarks .Eq (.Tuple [.Constant (.str (Str.ofString "sym")) j1 q1, .Constant (.str nm) j2 q2] j p') = false) aW)
    (he : autoParam (notStar (.Constant (.str (Str.ofString "sym")) j1 q1) = true) aR) (he2 : autoParam (notStar (.Constant (.str nm) j2 q2) = true) aR) :
    TeG c m fp l h (.Compare e₁ [.Eq] [.Tuple [.Constant (.str (Str.ofString "sym")) j1 q1, .Constant (.str nm) j2 q2] j p'] p) b := ⟨fun whole Q tk q => by
  subst hb
  obtain ⟨a, _, _, _, rfl, _⟩ := hi.tup
  refine wpAny_isTrue_Compare1 (e1 _ _ _ fun ω ω => (ex_tup (xs_ev ev_str (fun t1 => xs_ev ev_str (fun t2 => xs_nil fun tk' => newTuple_at W (sz_le rfl) fun D h' W' tk2 => ?_) he2) he)).go _) hm
  exact it_eq (s := c.S h' tk2) W'.N (hi.mono (Sub.cons (Sub.refl l))) W'.sub ⟨_, (W'.N _ (W'.inl List.mem_cons_self)).1, rfl, _, rfl⟩ V.u0 V.u1 (wpAny_truthy_bool (q _ h' _ (Sub.cons (Sub.refl l)) W'))⟩
end
end
section --D6
open PySem PySem.W PyProof.Rows PySem.Calls PySem.Spec PyProof.V PySem.SeqAt
set_option maxHeartbeats 2000000
noncomputable def WldIn (w : World) (l : Led) (wa ba sya rwa dca : Addr) : Prop :=
  ∃ ow, (wa, ow) ∈ l ∧ ow.IsDictOf (PySem.strKind PySem.Challenge.rw_nz0158_01.row.prog w) [("bank", .ref ba), ("symbols", .ref sya), ("rows", .ref rwa), ("declared", .ref dca)] ∧ (wa == sysModules) = false
theorem WldIn.mono {w : World} {l l' : Led} (s : Sub l l') {wa ba sya rwa dca : Addr} (h : WldIn w l wa ba sya rwa dca) : WldIn w l' wa ba sya rwa dca := by obtain ⟨o, a, b⟩ := h; exact ⟨o, s _ a, b⟩
theorem Strs.length {vs : List Value} {xs : List Str} (h : Strs vs xs) : vs.length = xs.length := by induction h with | nil => rfl | cons _ ih => simp [ih]
noncomputable def RowIs (l : Led) (v : Value) (r : Row) : Prop :=
  ∃ a t pa ps bv, v = .ref a ∧ TupIn l a [.str r.name t, .ref pa, bv] ∧ TupIn l pa ps ∧ Strs ps r.params ∧ BodyIn l bv r.body ∧ r.name.length ≤ 64
theorem RowIs.mono {l l' : Led} (s : Sub l l') {v : Value} {r : Row} (h : RowIs l v r) : RowIs l' v r := by
  obtain ⟨a, t, pa, ps, bv, h1, h2, h3, h4, h5, h6⟩ := h; exact ⟨a, t, pa, ps, bv, h1, h2.mono s, h3.mono s, h4, h5.mono s, h6⟩
noncomputable def RowsAre (l : Led) (vs : List Value) (tab : List Row) : Prop := vs.length = tab.length ∧ ∀ (j : Nat) v, vs[j]? = some v → ∃ r, tab[j]? = some r ∧ RowIs l v r
theorem RowsAre.mono {l l' : Led} (s : Sub l l') {vs : List Value} {tab : List Row} (h : RowsAre l vs tab) : RowsAre l' vs tab := ⟨h.1, fun j v hv => by obtain ⟨r, a, b⟩ := h.2 j v hv; exact ⟨r, a, b.mono s⟩⟩
noncomputable def RowsIn (l : Led) (rwa : Addr) (tab : List Row) : Prop := ∃ vs k, (rwa, listOf vs.toArray k) ∈ l ∧ RowsAre l vs tab
theorem RowsIn.mono {l l' : Led} (s : Sub l l') {rwa : Addr} {tab : List Row} (h : RowsIn l rwa tab) : RowsIn l' rwa tab := by obtain ⟨vs, k, a, b⟩ := h; exact ⟨vs, k, s _ a, b.mono s⟩
noncomputable def rk (s : Str) : Nat := if s = "A" then 1 else if s = "B" then 2 else if s = "C" then 3 else 0
noncomputable def nameAt : Nat → Str
  | 0 => "P"
  | 1 => "A"
  | 2 => "B"
  | _ => "C"
theorem rk_nameAt : ∀ j, j < 4 → rk (nameAt j) = j
  | 0, _ => by decide
  | 1, _ => by decide
  | 2, _ => by decide
  | 3, _ => by decide
  | n + 4, h => by lia
theorem nameAt_len : ∀ j, (nameAt j).length ≤ 64
  | 0 => by decide
  | 1 => by decide
  | 2 => by decide
  | _ + 3 => show (Str.ofString "C").length ≤ 64 by decide
noncomputable def Over (k : Nat) : Nat → It → Prop
  | 0, _ => False
  | _ + 1, .sym s => rk s < k
  | _ + 1, .num i => i ≤ 4096
  | _ + 1, .key _ => True
  | n + 1, .list xs => ∀ x ∈ xs, Over k n x
theorem Over.le {k k' : Nat} (hk : k ≤ k') : ∀ {n n' : Nat} {it : It}, n ≤ n' → Over k n it → Over k' n' it
  | 0, _, _, _, h => h.elim
  | n + 1, 0, _, h, _ => absurd h (Nat.not_succ_le_zero _)
  | _ + 1, _ + 1, .sym _, _, h => Nat.lt_of_lt_of_le h hk
  | _ + 1, _ + 1, .num _, _, h => h
  | _ + 1, _ + 1, .key _, _, _ => trivial
  | n + 1, n' + 1, .list _, hn, h => fun x hx => Over.le hk (Nat.le_of_succ_le_succ hn) (h x hx)
structure RowsOk (tab : List Row) : Prop where
  len : tab.length ≤ 4
  row : ∀ (j : Nat) r, tab[j]? = some r → r.name = nameAt j ∧ r.params.length ≤ 2 ∧ (r.body = none → r.params = []) ∧ ∀ b, r.body = some b → 1 ≤ j ∧ Over j 3 b
noncomputable def FeedSt (w : World) (cl fa : Addr) (n sm : Int) (fp : Led) : Prop := ∃ fo, fp = [(fa, fo)] ∧ FeedObj w cl n sm fo
noncomputable def CellsIn (l : Led) (cl : Addr) : Prop := ∃ (vs : List Value) (ns : List Int) (cn : Nat) (csl : Array (Option Value)) (cd : Option Addr), (cl, ({ cls := .type "list", dict := cd, data := .seq vs.toArray cn, slots := csl } : Obj)) ∈ l ∧ IntsAre vs ns ∧ ns.length ≤ 100
theorem CellsIn.mono {l l' : Led} (s : Sub l l') {cl : Addr} (h : CellsIn l cl) : CellsIn l' cl := by obtain ⟨vs, ns, cn, csl, cd, a, b⟩ := h; exact ⟨vs, ns, cn, csl, cd, s _ a, b⟩
theorem FeedSt.map {w : World} {cl fa : Addr} {n n' sm sm' : Int} {fp fp' : Led} (h : FeedSt w cl fa n sm fp) (h' : FeedSt w cl fa n' sm' fp') : fp'.map (·.1) = fp.map (·.1) := by
  obtain ⟨_, rfl, _⟩ := h; obtain ⟨_, rfl, _⟩ := h'; rfl
end
section --N8
open PySem PySem.W PyProof.Rows PySem.Calls PySem.Spec PySem.SeqAt
set_option maxHeartbeats 1000000
section
variable {G : Gl} {cs : Scope} {c : Cx G cs} {m : Str → Option Value} {fp l : Led} {h : Heap} {x y : Str} {p p' p'' px py pos spos q1 q2 : Pos} {v : Value} {f f₁ f₂ : Tok → Value} {e e₁ e₂ ec elt iter : Expr} {d d' j j1 j2 : Nat} {X : Post} {Q : Value → Shared → Prop} {QF : Flow → Shared → Prop} {rest body bt bf : List Stmt} {b b₁ b₂ : Bool} {es : List Expr} {vs : List Value} {s : Str} {it : It} {its : List It} {la : Addr} {n : Nat}
theorem ev_mul {y z : Int} (e1 : Ev c h e₁ (fun t => .int y t)) (e2 : Ev c h e₂ (fun t => .int z t)) (hm : IntMulOk y z) : Ev c h (.BinOp e₁ .Mult e₂ p) (fun t => .int (y * z) t) := fun ω ω ω q => wpAny_BinOp (e1 _ _ _ fun ω ω => e2 _ _ _ fun ω ω => P.mul_int (q _ _) hm)
theorem ev_mod {y z : Int} (e1 : Ev c h e₁ (fun t => .int y t)) (e2 : Ev c h e₂ (fun t => .int z t)) (hz : z ≠ 0) : Ev c h (.BinOp e₁ .Mod e₂ p) (fun t => .int (y.fmod z) t) := fun ω ω ω q => wpAny_BinOp (e1 _ _ _ fun ω ω => e2 _ _ _ fun ω ω => mod_int hz (q _ _))
theorem ev_fdiv2 {y : Int} (W : At c m fp l h) (e1 : Ev c h e₁ (fun t => .int y t)) (e2 : Ev c h e₂ (fun t => .int 2 t)) : Ev c h (.BinOp e₁ .FloorDiv e₂ p) (fun t => .int (y.fdiv 2) t) := fun ω ω ω q => wpAny_BinOp (e1 _ _ _ fun ω ω => e2 _ _ _ fun ω ω => floordiv_int (by decide) (q _ _) (.inl (PyProof.noPylong_of_log2 (by decide +kernel))))
theorem sub_list_at {value slice : Expr} {E : Value → Shared → Prop} {tk : Nat} {k : Int} {u : Tok} (W : At c m fp l h) (hm : (la, listOf vs.toArray n) ∈ fp ++ (c.fs ++ (c.xs ++ l))) (h0 : 0 ≤ k) (hk : k < 2 ^ 63) (hx : vs[k.toNat]? = some v) (q : Q v (c.S h tk))
    (hs : autoParam (subscripted slice false (.ref la) (.int k u) = operate [.ref la, .int k u] (getItem (.ref la) (.int k u))) aW) : wpAny G.M c.A (subscriptTail value slice (.ref la) (.int k u)) Q E (c.S h tk) := item_lst (s := c.S h tk) W.N hm h0 hk hx q hs
theorem ev_itemL {k : Int} (W : At c m fp l h) (e1 : Ev c h e₁ (fun ω => .ref la)) (e2 : Ev c h e₂ (fun t => .int k t)) (hm : (la, listOf vs.toArray n) ∈ fp ++ (c.fs ++ (c.xs ++ l))) (h0 : 0 ≤ k) (hk : k < 2 ^ 63) (hx : vs[k.toNat]? = some v)
    (hs : autoParam (∀ u, subscripted e₂ false (.ref la) (.int k u) = operate [.ref la, .int k u] (getItem (.ref la) (.int k u))) aJ) : Ev c h (.Subscript e₁ e₂ p) (fun ω => v) := fun ω ω ω q => Subscript_ (e1 _ _ _ fun ω ω => e2 _ _ _ fun u ω => sub_list_at W hm h0 hk hx (q 0 _) (hs u))
theorem ints_at {vs : List Value} {ns : List Int} (h : IntsAre vs ns) {i : Nat} (e : i < ns.length) : ∃ r t, vs[i]? = some (.int r t) := by
  induction h generalizing i with
  | nil => exact absurd e (Nat.not_lt_zero _)
  | cons a t _ ih => cases i with
    | zero => exact ⟨_, _, rfl⟩
    | succ i => exact ih (Nat.lt_of_succ_lt_succ e)
theorem ev_itemO {k : Int} {dd : Option Addr} {sl : Array (Option Value)} (W : At c m fp l h) (e1 : Ev c h e₁ (fun ω => .ref la)) (e2 : Ev c h e₂ (fun t => .int k t)) (hm : (la, ({ cls := .type "list", dict := dd, data := .seq vs.toArray n, slots := sl } : Obj)) ∈ fp ++ (c.fs ++ (c.xs ++ l))) (h0 : 0 ≤ k) (hk : k < 2 ^ 63) (hx : vs[k.toNat]? = some v)
    (hs : autoParam (∀ u, subscripted e₂ false (.ref la) (.int k u) = operate [.ref la, .int k u] (getItem (.ref la) (.int k u))) aJ) : Ev c h (.Subscript e₁ e₂ p) (fun ω => v) := fun ω ω ω q =>
  Subscript_ (e1 _ _ _ fun ω ω => e2 _ _ _ fun u ω => tail_any (News.isList W.N hm).typeIs slot_list_getitem.lookup (wpAny_getItem_list (News.isList W.N hm) h0 hk (by simpa using hx) (q 0 _)) (hs u))
structure IX (c : Cx G cs) (m : Str → Option Value) (fp l : Led) (h : Heap) (e : Expr) (it : It) : Prop where
  go : ∀ (Q : Value → Shared → Prop) tk, (∀ v l' h' tk', IsIt l' v it → Sub l l' → At c m fp l' h' → Q v (c.S h' tk')) → wpAny G.M c.A (eval e c.env) Q c.E (c.S h tk)
structure IXs (c : Cx G cs) (m : Str → Option Value) (fp l : Led) (h : Heap) (pos : Pos) (es : List Expr) (its : List It) : Prop where
  go : ∀ (R : List Value → Shared → Prop) tk, (∀ vs l' h' tk', IsIts l' vs its → Sub l l' → At c m fp l' h' → R vs (c.S h' tk')) → wpAny G.M c.A (spliced (backTo pos (starEach es c.env))) R c.E (c.S h tk)
structure TX (c : Cx G cs) (m : Str → Option Value) (fp l : Led) (h : Heap) (e : Expr) (its : List It) : Prop where
  go : ∀ (Q : Value → Shared → Prop) tk, (∀ a vs l' h' tk', TupIn l' a vs → IsIts l' vs its → Sub l l' → At c m fp l' h' → Q (.ref a) (c.S h' tk')) → wpAny G.M c.A (eval e c.env) Q c.E (c.S h tk)
theorem IX.ex (W : At c m fp l h) (hx : IX c m fp l h e it) (k : ∀ v l' h', IsIt l' v it → Sub l l' → At c m fp l' h' → ∀ tk, Q v (c.S h' tk)) : Ex c h e Q := ⟨fun tk => hx.go Q tk fun v l' h' tk' hi s W => k v l' h' hi s W tk'⟩
theorem TX.ex (W : At c m fp l h) (hx : TX c m fp l h e its) (k : ∀ a vs l' h', TupIn l' a vs → IsIts l' vs its → Sub l l' → At c m fp l' h' → ∀ tk, Q (.ref a) (c.S h' tk)) : Ex c h e Q := ⟨fun tk => hx.go Q tk fun a vs l' h' tk' ht hi s W => k a vs l' h' ht hi s W tk'⟩
theorem tup2_at {tag : Str} {tk : Nat} (W : At c m fp l h) (e1 : Ev c h ec f) (k : ∀ D t1 t2 h', At c m fp ((D, tupO [.str tag t1, f t2]) :: l) h' → ∀ tk, Q (.ref D) (c.S h' tk))
    (he : autoParam (notStar (.Constant (.str tag) j1 q1) = true) aR) (he2 : autoParam (notStar ec = true) aR) : wpAny G.M c.A (eval (.Tuple [.Constant (.str tag) j1 q1, ec] j p) c.env) Q c.E (c.S h tk) :=
  (ex_tup (xs_ev ev_str (fun t1 => xs_ev e1 (fun t2 => xs_nil fun tk' => newTuple_at W (sz_le rfl) fun D h' W' tk2 => k D t1 t2 h' W' tk2) he2) he)).go tk
theorem mem_tup {D : Addr} {vs : List Value} : TupIn ((D, tupO vs) :: l) D vs := ⟨_, _, List.mem_cons_self, rfl, rfl⟩
theorem ix_sym (W : At c m fp l h) (e1 : Ev c h ec (fun t => .str s t)) (hs : s.length ≤ 64) (he : autoParam (notStar (.Constant (.str (Str.ofString "sym")) j1 q1) = true) aR) (he2 : autoParam (notStar ec = true) aR) :
    IX c m fp l h (.Tuple [.Constant (.str (Str.ofString "sym")) j1 q1, ec] j p) (.sym s) := ⟨fun Q tk q => tup2_at W e1 (fun D t1 t2 h' W' tk' => q _ _ h' tk' (.sym mem_tup hs) (Sub.cons (Sub.refl l)) W') he he2⟩
theorem ix_num {i : Int} (W : At c m fp l h) (e1 : Ev c h ec (fun t => .int i t)) (he : autoParam (notStar (.Constant (.str (Str.ofString "num")) j1 q1) = true) aR) (he2 : autoParam (notStar ec = true) aR) :
    IX c m fp l h (.Tuple [.Constant (.str (Str.ofString "num")) j1 q1, ec] j p) (.num i) := ⟨fun Q tk q => tup2_at W e1 (fun D t1 t2 h' W' tk' => q _ _ h' tk' (.num mem_tup) (Sub.cons (Sub.refl l)) W') he he2⟩
theorem ix_key (W : At c m fp l h) (e1 : Ev c h ec (fun t => .str s t)) (he : autoParam (notStar (.Constant (.str (Str.ofString "key")) j1 q1) = true) aR) (he2 : autoParam (notStar ec = true) aR) :
    IX c m fp l h (.Tuple [.Constant (.str (Str.ofString "key")) j1 q1, ec] j p) (.key s) := ⟨fun Q tk q => tup2_at W e1 (fun D t1 t2 h' W' tk' => q _ _ h' tk' (.key mem_tup) (Sub.cons (Sub.refl l)) W') he he2⟩
theorem ixs_nil (W : At c m fp l h) : IXs c m fp l h p [] [] := ⟨fun R tk q => args_nil (q [] l h tk .nil (Sub.refl l) W)⟩
theorem ixs_cons (h1 : IX c m fp l h e it) (h2 : ∀ l' h', Sub l l' → At c m fp l' h' → IXs c m fp l' h' p es its) (he : autoParam (notStar e = true) aR) : IXs c m fp l h p (e :: es) (it :: its) := ⟨fun R tk q =>
  args_cons (h1.go _ tk fun v l' h' tk' hi s W => (h2 l' h' s W).go _ tk' fun vs l2 h2' tk2 hs s2 W2 => q _ _ h2' tk2 (.cons (hi.mono s2) hs) (s.trans s2) W2) (star_of he)⟩
theorem tx_tup (hx : IXs c m fp l h p es its) (hz : its.length ≤ 64) : TX c m fp l h (.Tuple es j p) its := ⟨fun Q tk q =>
  Tuple_ (hx.go _ tk fun vs l' h' tk' hs s W => newTuple_at W (by rw [sizeLine_eq, hs.length]; lia) fun D h2 W2 tk2 => q D vs _ h2 tk2 mem_tup (hs.mono (Sub.cons (Sub.refl l'))) (s.trans (Sub.cons (Sub.refl l'))) W2)⟩
theorem ix_list (hx : TX c m fp l h ec its) (hz : its.length ≤ 64) (he : autoParam (notStar (.Constant (.str (Str.ofString "list")) j1 q1) = true) aR) (he2 : autoParam (notStar ec = true) aR) :
    IX c m fp l h (.Tuple [.Constant (.str (Str.ofString "list")) j1 q1, ec] j p) (.list its) := ⟨fun Q tk q =>
  (ex_tup (xs_ev ev_str (fun t1 => xs_ex ⟨fun tk1 => hx.go _ tk1 fun a vs l' h' tk' ht hs s W => args_nil (newTuple_at W (sz_le rfl) fun D h2 W2 tk2 => q _ _ h2 tk2 (.list mem_tup (ht.mono (Sub.cons (Sub.refl l'))) (hs.mono (Sub.cons (Sub.refl l'))) (by rw [hs.length]; exact hz)) (s.trans (Sub.cons (Sub.refl l'))) W2)⟩ he2) he)).go tk⟩
noncomputable def SXs (c : Cx G cs) (h : Heap) (pos : Pos) (es : List Expr) (ss : List Str) : Prop := ∀ (R : List Value → Shared → Prop) tk, (∀ vs tk', Strs vs ss → R vs (c.S h tk')) → wpAny G.M c.A (spliced (backTo pos (starEach es c.env))) R c.E (c.S h tk)
theorem sxs_nil : SXs c h p [] [] := fun R tk q => args_nil (q [] tk .nil)
theorem sxs_cons {ss : List Str} (h2 : SXs c h p es ss) (he : autoParam (notStar (.Constant (.str s) j q1) = true) aR) : SXs c h p (.Constant (.str s) j q1 :: es) (s :: ss) := fun R tk q => args_cons (Constant_str (h2 _ _ fun vs tk' hs => q _ tk' (.cons hs))) (star_of he)
theorem ex_strs {ss : List Str} (W : At c m fp l h) (hx : SXs c h p es ss) (hz : ss.length ≤ 64) (k : ∀ D vs h', Strs vs ss → At c m fp ((D, listOf vs.toArray 0) :: l) h' → ∀ tk, Q (.ref D) (c.S h' tk)) : Ex c h (.List es p) Q := ⟨fun tk =>
  List_ (hx _ tk fun vs tk' hs => newList_at W (by rw [sizeLine_eq, hs.length]; lia) fun D h' W' tk2 => k D vs h' hs W' tk2)⟩
end
end
section --N9
open PySem PySem.W PyProof.Rows PySem.Calls PySem.Spec PySem.SeqAt
set_option maxHeartbeats 1000000
section
variable {G : Gl} {cs : Scope} {c : Cx G cs} {m : Str → Option Value} {fp l : Led} {h : Heap} {x y : Str} {p p' p'' px py pos spos : Pos} {v : Value} {f f₁ f₂ : Tok → Value} {e e₁ e₂ elt iter target : Expr} {ifs es : List Expr} {d d' : Nat} {X : Post} {Q : Value → Shared → Prop} {QF : Flow → Shared → Prop} {rest : List Stmt} {sc : Scope} {cl : List (Str × Addr)} {ta ax : Addr} {vs : List Value} {its : List It} {n : Nat}
noncomputable def CmpP (c : Cx G cs) (elt target iter : Expr) (ifs : List Expr) (sc : Scope) (cl : List (Str × Addr)) (pos : Pos) (us : Option (Value → Sem Unit)) (Q : Value → Shared → Prop) : Value → Shared → Prop := fun xv s₁ =>
  wpAny G.M c.A (pyIter xv) (fun it s₂ => wpAny G.M c.A (newList []) (fun acc s₃ => wpAny G.M c.A (newFunctionEnv sc c.env.globals cl [] c.env.qual none .none (some c.env)) (fun cenv s₄ =>
      codeAny G.M c.A (.compStart (.ListComp elt [⟨target, iter, ifs, 0⟩] sc pos) 0 it acc { cenv with scope := relabel sc c.env }) (compPost G.M c.A c.E us Q acc cenv.locals) s₄) c.E s₃) c.E s₂) c.E s₁
set_option tactic.hygienic true in
theorem run_compP (hclos : closureFor sc c.env = pure cl) (k : Ex c h iter (CmpP c elt target iter ifs sc cl pos (some (assign (.Name y py) c.env)) fun ω s' => Sq c QF rest .next s')) (hsw : autoParam (swapsWith (.ListComp elt [⟨target, iter, ifs, 0⟩] sc pos) (some (.Name y py)) spos.line c.env = pure true) aW) (hkind : autoParam (sc.kind = .function) aR) (hnames : autoParam (∀ z ∈ sc.names, z.2 = .local → sc.names.lookup z.1 = some .local) aD)
    (hs : autoParam (∀ x, foldedSetIterable iter c.env x = pure x) aI) : Run c QF h (.Assign [.Name y py] (.ListComp elt [⟨target, iter, ifs, 0⟩] sc pos) spos :: rest) := Run.cons fun tk => assign_compG hsw hclos hkind hnames (k.go tk) hs
theorem ex_compP (hclos : closureFor sc c.env = pure cl) (k : Ex c h iter (CmpP c elt target iter ifs sc cl pos none Q)) (hkind : autoParam (sc.kind = .function) aR) (hnames : autoParam (∀ z ∈ sc.names, z.2 = .local → sc.names.lookup z.1 = some .local) aD)
    (hs : autoParam (∀ x, foldedSetIterable iter c.env x = pure x) aI) : Ex c h (.ListComp elt [⟨target, iter, ifs, 0⟩] sc pos) Q := ⟨fun tk => eval_compG hclos hkind hnames (k.go tk) hs⟩
noncomputable abbrev Turn (c : Cx G cs) (m : Str → Option Value) (fp l : Led) (h : Heap) (sc : Scope) (cl : List (Str × Addr)) (target elt : Expr) (ifs : List Expr) (vs : List Value) (Inv : Nat → List Value → Prop) : Prop := ∀ tk, PureTurn PG G.w c.A G.h₀ c.L m (fp ++ (c.fs ++ (c.xs ++ l))) (c.S h tk) sc cl c.env target elt ifs vs Inv
set_option tactic.hygienic true in
theorem cmp_pure_set {Inv : Nat → List Value → Prop} (V : Live c d) (W : At c m fp l h) (hm : (ax, listOf vs.toArray n) ∈ l) (hsz : vs.length ≤ 1000) (h0 : Inv 0 []) (turn : Turn c m fp l h sc cl target elt ifs vs Inv)
    (htg : ∀ (i : Nat) v (s : Shared) (Q : Unit → Shared → Prop) (E : Value → Shared → Prop), vs[i]? = some v → s.heap.IsListIter h.objs.size ax (i + 1) → Q () s → wpAny G.M c.A (letOwnedTupleGo target (.ref h.objs.size) v) Q E s)
    (k : ∀ D ys h' n, Inv vs.length ys → ys.length ≤ vs.length → At c (up m y (.ref D)) fp ((D, listOf ys.toArray n) :: l) h' → Run c QF h' rest)
    (hcell : autoParam (∀ y ∈ sc.names, y.2 ≠ .cell) aD) (hkind : autoParam (sc.kind = .function) aR) (hy : autoParam (cs.names.lookup y = some .local) aR) (hp : autoParam ((c.env.scope.kind == .class || (c.env.scope.kind == .module && c.env.locals != c.env.globals)) = false) aR) :
    ∀ tk, CmpP c elt target iter ifs sc cl pos (some (assign (.Name y py) c.env)) (fun ω s' => Sq c QF rest .next s') (.ref ax) (c.S h tk) := fun tk =>
  comp_pure_lst_set (s₂ := c.S h tk) (l := fp ++ (c.fs ++ (c.xs ++ l))) (News.isList W.N (W.inl hm)) V.hh (Nat.le_trans hsz (by decide)) ⟨Heap.lt_size (W.N _ (W.inl hm)).1, (W.N _ (W.inl hm)).2.1⟩ hcell hkind W.F W.N h0 (turn tk) htg hy hp rfl
    fun D ys h' tk' n' hi hl F' N' lt => (k D ys h' n' hi hl (At.push (h := h') ⟨F', News.sub N' fun q hq => List.mem_cons_of_mem _ hq, W.Z, W.G⟩ F' N' lt)).go tk'
theorem cmp_pure {Inv : Nat → List Value → Prop} (V : Live c d) (W : At c m fp l h) (hm : (ax, listOf vs.toArray n) ∈ l) (hsz : vs.length ≤ 1000) (h0 : Inv 0 []) (turn : Turn c m fp l h sc cl target elt ifs vs Inv)
    (htg : ∀ (i : Nat) v (s : Shared) (Q : Unit → Shared → Prop) (E : Value → Shared → Prop), vs[i]? = some v → s.heap.IsListIter h.objs.size ax (i + 1) → Q () s → wpAny G.M c.A (letOwnedTupleGo target (.ref h.objs.size) v) Q E s)
    (k : ∀ D ys h' n, Inv vs.length ys → ys.length ≤ vs.length → At c m fp ((D, listOf ys.toArray n) :: l) h' → ∀ tk, Q (.ref D) (c.S h' tk))
    (hcell : autoParam (∀ y ∈ sc.names, y.2 ≠ .cell) aD) (hkind : autoParam (sc.kind = .function) aR) :
    ∀ tk, CmpP c elt target iter ifs sc cl pos none Q (.ref ax) (c.S h tk) := fun tk =>
  comp_pure_lst (s₂ := c.S h tk) (l := fp ++ (c.fs ++ (c.xs ++ l))) (News.isList W.N (W.inl hm)) V.hh (Nat.le_trans hsz (by decide)) ⟨Heap.lt_size (W.N _ (W.inl hm)).1, (W.N _ (W.inl hm)).2.1⟩ hcell hkind W.F W.N h0 (turn tk) htg
    fun D ys h' tk' n' hi hl F' N' lt => k D ys h' n' hi hl (At.push (h := h') ⟨F', News.sub N' fun q hq => List.mem_cons_of_mem _ hq, W.Z, W.G⟩ F' N' lt) tk'
theorem ex_sub (k : Ex c h e₁ fun o s₁ => wpAny G.M c.A (eval e₂ c.env) (fun i s₂ => wpAny G.M c.A (subscriptTail e₁ e₂ o i) Q c.E s₂) c.E s₁) : Ex c h (.Subscript e₁ e₂ p) Q := ⟨fun tk => Subscript_ (k.go tk)⟩
theorem ex_its (W : At c m fp l h) (hx : IXs c m fp l h p es its) (hz : its.length ≤ 64) (k : ∀ D vs l' h', IsIts l' vs its → Sub l l' → At c m fp ((D, listOf vs.toArray 0) :: l') h' → ∀ tk, Q (.ref D) (c.S h' tk)) : Ex c h (.List es p) Q := ⟨fun tk =>
  List_ (hx.go _ tk fun vs l' h' tk' hs s W' => newList_at W' (by rw [sizeLine_eq, hs.length]; lia) fun D h2 W2 tk2 => k D vs l' h2 hs s W2 tk2)⟩
theorem ex_if {b : Bool} (t : Te c h e b) (h1 : b = true → Ex c h e₁ Q) (h2 : b = false → Ex c h e₂ Q) : Ex c h (.IfExp e e₁ e₂ p) Q := ⟨fun tk => wpAny_IfExp (t _ _ _ _ fun tk' => by
    cases b with
    | true => exact (h1 rfl).go tk'
    | false => exact (h2 rfl).go tk')⟩
theorem ex_ifG {b : Bool} (t : TeG c m fp l h e b) (h1 : ∀ l' h', Sub l l' → At c m fp l' h' → b = true → Ex c h' e₁ Q) (h2 : ∀ l' h', Sub l l' → At c m fp l' h' → b = false → Ex c h' e₂ Q) : Ex c h (.IfExp e e₁ e₂ p) Q := ⟨fun tk => wpAny_IfExp (t.go _ _ _ fun l' h' tk' s W => by
    cases b with
    | true => exact (h1 l' h' s W rfl).go tk'
    | false => exact (h2 l' h' s W rfl).go tk')⟩
theorem teg_neNil {la : Addr} (V : Live c (d + 1)) (W : At c m fp l h) (e1 : Ev c h e₁ (fun ω => .ref la)) (hm : (la, listOf vs.toArray n) ∈ l) (hn : vs.length ≠ 0) (hb : autoParam (behindInMarks .NotEq (.List [] p') = false) aW) : TeG c m fp l h (.Compare e₁ [.NotEq] [.List [] p'] p) true := ⟨fun whole Q tk q =>
  wpAny_isTrue_Compare1 (e1 _ _ _ fun ω ω => (ex_list (xs_nil fun tk' => newList_at W (sz_le rfl) fun D h' W' tk2 => ne_lists (s := c.S h' tk2) (xs := vs) (ys := []) (News.isList W'.N (W'.inl (List.mem_cons_of_mem _ hm))) (News.isList W'.N (W'.inl List.mem_cons_self)) (by simpa using hn) V.u0 (wpAny_truthy_bool (q _ h' _ (Sub.cons (Sub.refl l)) W')))).go _) hb⟩
theorem teg_eqNil {la : Addr} (V : Live c (d + 1)) (W : At c m fp l h) (e1 : Ev c h e₁ (fun ω => .ref la)) (hm : (la, listOf vs.toArray n) ∈ l) (hb : autoParam (behindInMarks .Eq (.List [] p') = false) aW) : TeG c m fp l h (.Compare e₁ [.Eq] [.List [] p'] p) (vs.length == 0) := ⟨fun whole Q tk q =>
  wpAny_isTrue_Compare1 (e1 _ _ _ fun ω ω => (ex_list (xs_nil fun tk' => newList_at W (sz_le rfl) fun D h' W' tk2 => eq_lst_nil (s := c.S h' tk2) (xs := vs) (News.isList W'.N (W'.inl (List.mem_cons_of_mem _ hm))) (News.isList W'.N (W'.inl List.mem_cons_self)) V.u0 (wpAny_truthy_bool (q _ h' _ (Sub.cons (Sub.refl l)) W')))).go _) hb⟩
end
end
section --N10
open PySem PySem.W PyProof.Rows PySem.Calls PySem.Spec PySem.SeqAt
set_option maxHeartbeats 1000000
inductive TupsAre (l : Led) : List Value → List (List It) → Prop
  | nil : TupsAre l [] []
  | cons {a : Addr} {ws vs : List Value} {its : List It} {itss : List (List It)} : TupIn l a ws → IsIts l ws its → TupsAre l vs itss → TupsAre l (.ref a :: vs) (its :: itss)
theorem TupsAre.mono {l l' : Led} (s : Sub l l') {vs : List Value} {itss : List (List It)} (h : TupsAre l vs itss) : TupsAre l' vs itss := by
  induction h with
  | nil => exact .nil
  | cons h1 h2 _ h3 => exact .cons (h1.mono s) (h2.mono s) h3
theorem TupsAre.append {l : Led} {vs ws : List Value} {a b : List (List It)} (h0 : TupsAre l vs a) (h : TupsAre l ws b) : TupsAre l (vs ++ ws) (a ++ b) := by
  induction h0 with
  | nil => exact h
  | cons h1 h2 _ h3 => exact .cons h1 h2 h3
theorem TupsAre.length {l : Led} {vs : List Value} {a : List (List It)} (h : TupsAre l vs a) : vs.length = a.length := by
  induction h with
  | nil => rfl
  | cons _ _ _ ih => exact congrArg (· + 1) ih
theorem TupsAre.get {l : Led} {vs : List Value} {itss : List (List It)} (h : TupsAre l vs itss) {i : Nat} {v : Value} (e : vs[i]? = some v) : ∃ a ws its, v = .ref a ∧ itss[i]? = some its ∧ TupIn l a ws ∧ IsIts l ws its := by
  induction h generalizing i with
  | nil => exact nomatch e
  | cons h1 h2 _ ih => cases i with
    | zero => exact ⟨_, _, _, (Option.some.inj e).symm, rfl, h1, h2⟩
    | succ i => exact ih e
section
variable {G : Gl} {cs : Scope} {c : Cx G cs} {m : Str → Option Value} {fp l : Led} {h : Heap} {x y : Str} {p p' p'' px py pos spos q1 q2 q3 q4 : Pos} {v : Value} {f f₁ f₂ : Tok → Value} {e e₁ e₂ elt iter target : Expr} {ifs es : List Expr} {d d' n j j2 : Nat} {X : Post} {Q : Value → Shared → Prop} {QF : Flow → Shared → Prop} {rest bt bf : List Stmt} {sc : Scope} {cl : List (Str × Addr)} {ta ax la lb : Addr} {vs ws : List Value} {its : List It} {itss : List (List It)} {b : Bool}
structure TXs (c : Cx G cs) (m : Str → Option Value) (fp l : Led) (h : Heap) (pos : Pos) (es : List Expr) (itss : List (List It)) : Prop where
  go : ∀ (R : List Value → Shared → Prop) tk, (∀ vs l' h' tk', TupsAre l' vs itss → Sub l l' → At c m fp l' h' → R vs (c.S h' tk')) → wpAny G.M c.A (spliced (backTo pos (starEach es c.env))) R c.E (c.S h tk)
theorem txs_nil (W : At c m fp l h) : TXs c m fp l h p [] [] := ⟨fun R tk q => args_nil (q [] l h tk .nil (Sub.refl l) W)⟩
theorem txs_cons (h1 : TX c m fp l h e its) (h2 : ∀ l' h', Sub l l' → At c m fp l' h' → TXs c m fp l' h' p es itss) (he : autoParam (notStar e = true) aR) : TXs c m fp l h p (e :: es) (its :: itss) := ⟨fun R tk q =>
  args_cons (h1.go _ tk fun a ws l' h' tk' ht hi s W => (h2 l' h' s W).go _ tk' fun vs l2 h2' tk2 hs s2 W2 => q _ _ h2' tk2 (.cons (ht.mono s2) (hi.mono s2) hs) (s.trans s2) W2) (star_of he)⟩
theorem ex_tups (hx : TXs c m fp l h p es itss) (hz : itss.length ≤ 64) (k : ∀ D vs l' h', TupsAre l' vs itss → Sub l l' → At c m fp ((D, listOf vs.toArray 0) :: l') h' → ∀ tk, Q (.ref D) (c.S h' tk)) : Ex c h (.List es p) Q := ⟨fun tk =>
  List_ (hx.go _ tk fun vs l' h' tk' hs s W' => newList_at W' (by rw [sizeLine_eq, hs.length]; lia) fun D h2 W2 tk2 => k D vs l' h2 hs s W2 tk2)⟩
theorem ex_bin {op : Operator} (k : Ex c h e₁ fun a s₁ => wpAny G.M c.A (eval e₂ c.env) (fun b s₂ => wpAny G.M c.A (binaryOp op a b) Q c.E s₂) c.E s₁) : Ex c h (.BinOp e₁ op e₂ p) Q := ⟨fun tk => wpAny_BinOp (k.go tk)⟩
theorem add_lists_at {E : Value → Shared → Prop} {tk n1 n2 : Nat} (W : At c m fp l h) (h1 : (la, listOf vs.toArray n1) ∈ l) (h2 : (lb, listOf ws.toArray n2) ∈ l) (hz : vs.length + ws.length ≤ 1000) (k : ∀ D h', At c m fp ((D, listOf (vs ++ ws).toArray 0) :: l) h' → ∀ tk, Q (.ref D) (c.S h' tk)) :
    wpAny G.M c.A (binaryOp .Add (.ref la) (.ref lb)) Q E (c.S h tk) :=
  add_arrays (s := c.S h tk) W.F W.N (News.isList W.N (W.inl h1)) (News.isList W.N (W.inl h2)) (fun h' F' N' => k _ h' (W.push F' N' fun p hp => Heap.lt_size (W.N p hp).1) tk) (by rw [sizeLine_eq]; simp; lia)
theorem add_tuples_at {E : Value → Shared → Prop} {tk : Nat} (W : At c m fp l h) (h1 : TupIn l la vs) (h2 : TupIn l lb ws) (hv : vs ≠ []) (hw : ws ≠ []) (hz : vs.length + ws.length ≤ 1000) (k : ∀ D h', At c m fp ((D, tupO (vs ++ ws)) :: l) h' → ∀ tk, Q (.ref D) (c.S h' tk)) :
    wpAny G.M c.A (binaryOp .Add (.ref la) (.ref lb)) Q E (c.S h tk) :=
  add_tuples (s := c.S h tk) W.F W.N (h1.isTup W.N W.sub) (h2.isTup W.N W.sub) (fun z => absurd z hv) (fun ω z => absurd z hw) (fun ω ω h' F' N' => k _ h' (W.push F' N' fun p hp => Heap.lt_size (W.N p hp).1) tk) (by rw [sizeLine_eq]; lia)
theorem call_T {T : String} (W : At c m fp l h) (hn : nsIn (K0.heap_1 G.w.params) mainGlobals x = some none) (hb : bootBuiltins x = some (.type T)) (e1 : Ex c h e₁ fun v s₁ => wpAny G.M c.A (call (.type T) [v]) Q c.E s₁)
    (hk : autoParam (cs.kind = .function) aR) (hx : autoParam (cs.names.lookup x = some .globalImplicit) aR) (hd : autoParam ((x == ("__debug__" : Str)) = false) aD) (hd2 : autoParam (x ≠ "__name__") aD) (he : autoParam (notStar e₁ = true) aR) : Ex c h (.Call (.Name x p) [e₁] [] p') Q := ⟨fun tk =>
  Call_ (nameX_B (s := c.S h tk) W.F G.X (topRead_of G.T) hn hb hd2 (PyProof.Rows.callWith_type1 (args_cons (wpAny_mono (e1.go tk) (fun v s₁ q => args_nil q) fun ω ω e => e) (star_of he)) (star_of he) rfl) hk hx hd) call_name⟩
theorem tuple_of_at {E : Value → Shared → Prop} {tk : Nat} (W : At c m fp l h) (hm : (la, listOf vs.toArray n) ∈ l) (hz : vs.length ≤ 1000) (k : ∀ D h', At c m fp ((D, tupO vs) :: l) h' → ∀ tk, Q (.ref D) (c.S h' tk)) : wpAny G.M c.A (call (.type "tuple") [.ref la]) Q E (c.S h tk) := by
  refine call_tuple_list (s := c.S h tk) (News.isList W.N (W.inl hm)) (fun h' hk => ?_) (by rw [sizeLine_eq, List.size_toArray]; lia)
  have F' := W.F.keeps hk
  have N' : News G.h₀ c.L h' (fp ++ (c.fs ++ (c.xs ++ l))) := W.N.grown hk
  exact k _ _ (W.push (F'.push _) (N'.push F' _) fun p hp => Heap.lt_size (N' p hp).1) tk
theorem range_at {E : Value → Shared → Prop} {tk : Nat} {i : Int} {t : Tok} (W : At c m fp l h) (k : ∀ D h' t₁ t₂ t₃, IsRange h' D 0 i 1 t₁ t₂ t₃ → At c m fp l h' → ∀ tk, Q (.ref D) (c.S h' tk)) : wpAny G.M c.A (call (.type "range") [.int i t]) Q E (c.S h tk) :=
  range1_rows (s := c.S h tk) W.F W.N fun h' tk' t₁ u₁ v₁ hr F' N' up => k _ h' t₁ u₁ v₁ hr ⟨F', N', W.Z, W.G⟩ tk'
theorem if_run {tk : Nat} (h1 : b = true → Run c (Sq c QF rest) h bt) (h2 : b = false → Run c QF h rest) : if b = true then wpAny G.M c.A (execs bt c.env) (Sq c QF rest) c.E (c.S h tk) else wpAny G.M c.A (execs [] c.env) (Sq c QF rest) c.E (c.S h tk) := by
  cases b with
  | true => exact (h1 rfl).go tk
  | false => exact (run_next (h2 rfl)).go tk
theorem run_set3 {x1 x2 x3 : Str} {v1 v2 v3 : Value} {kk : Nat} {tk : Nat} (V : Live c d) (W : At c m fp l h) (ht : TupIn l ta [v1, v2, v3]) (k : ∀ h', At c (up (up (up m x1 v1) x2 v2) x3 v3) fp l h' → Run c QF h' rest)
    (hk : autoParam (cs.kind = .function) aR) (h1 : autoParam (cs.names.lookup x1 = some .local) aR) (h2 : autoParam (cs.names.lookup x2 = some .local) aR) (h3 : autoParam (cs.names.lookup x3 = some .local) aR) :
    wpAny G.M c.A (assign (.Tuple [.Name x1 p, .Name x2 p', .Name x3 p''] kk pos) c.env (.ref ta)) (fun ω => Sq c QF rest .next) c.E (c.S h tk) :=
  frame_assign3 (s := c.S h tk) V.hh W.F W.N (ht.isTup W.N W.sub) (fun h' tk' F' N' => (k h' ⟨F', N', W.Z, W.G⟩).go tk') hk h1 h2 h3
theorem run_tupX {elts : List Expr} {kk : Nat} (e1 : Ex c h e fun v s₁ => wpAny G.M c.A (assign (.Tuple elts kk p) c.env v) (fun ω => Sq c QF rest .next) c.E s₁) (hs : autoParam (swapsWithSole [.Tuple elts kk p] e pos.line c.env = pure false) aR) (hw : autoParam (swappedStores [.Tuple elts kk p] e c.env = pure none) aR) : Run c QF h (.Assign [.Tuple elts kk p] e pos :: rest) :=
  Run.cons fun tk => Assign_Tuple (e1.go tk) hs hw
theorem tex_cmp {op : CmpOp} {R : Bool → Shared → Prop} (e1 : Ex c h e₁ fun a s₁ => wpAny G.M c.A (eval e₂ c.env) (fun b s₂ => wpAny G.M c.A (compareOp op a b) (fun v s₃ => wpAny G.M c.A (truthy v) R c.E s₃) c.E s₂) c.E s₁) (hm : autoParam (behindInMarks op e₂ = false) aW) : TeX c h (.Compare e₁ [op] [e₂] p) R := ⟨fun whole tk => wpAny_isTrue_Compare1 (e1.go tk) hm⟩
theorem int_eq_at {R : Bool → Shared → Prop} {tk : Nat} {a k : Int} {t : Tok} (q : ∀ tk, R (a == k) (c.S h tk)) : wpAny G.M c.A (eval (.Constant (.int k) j p) c.env) (fun b s₂ => wpAny G.M c.A (compareOp .Eq (.int a t) b) (fun v s₃ => wpAny G.M c.A (truthy v) R c.E s₃) c.E s₂) c.E (c.S h tk) :=
  (ev_int (c := c) (h := h) (p := p) (j := j)).run fun t' tk' => eq_int (wpAny_truthy_bool (q tk'))
theorem tex_or_f {R : Bool → Shared → Prop} (t : TeG c m fp l h e false) (k : ∀ l' h', Sub l l' → At c m fp l' h' → TeX c h' (.BoolOp .Or es p) R) : TeX c h (.BoolOp .Or (e :: es) p) R := ⟨fun whole tk => isTrue_or (t.go _ _ tk fun l' h' tk' s W => (k l' h' s W).go whole tk')⟩
theorem tex_or_x {R : Bool → Shared → Prop} (t : TeX c h e fun b s' => if b = true then R true s' else R false s') : TeX c h (.BoolOp .Or [e] p) R := ⟨fun whole tk => isTrue_or (wpAny_mono (t.go _ tk) (fun b s' q => by
    cases b with
    | true => exact q
    | false => exact isTrue_or_nil q) fun ω ω e => e)⟩
theorem or_run {P₁ P₂ : Prop} (q : if b = true then P₁ else P₂) : if b = true then (if true = true then P₁ else P₂) else (if false = true then P₁ else P₂) := by
  cases b <;> exact q
theorem ex_ifX (t : TeX c h e fun b s' => if b = true then wpAny G.M c.A (eval e₁ c.env) Q c.E s' else wpAny G.M c.A (eval e₂ c.env) Q c.E s') : Ex c h (.IfExp e e₁ e₂ p) Q := ⟨fun tk => wpAny_IfExp (t.go _ tk)⟩
theorem if_ints {tk : Nat} {i k : Int} (q : ∀ t tk, Q (.int (if b = true then i else k) t) (c.S h tk)) : if b = true then wpAny G.M c.A (eval (.Constant (.int i) j p) c.env) Q c.E (c.S h tk) else wpAny G.M c.A (eval (.Constant (.int k) j2 p') c.env) Q c.E (c.S h tk) := by
  cases b with
  | true => exact (ev_int (c := c) (h := h)).run fun t tk' => q t tk'
  | false => exact (ev_int (c := c) (h := h)).run fun t tk' => q t tk'
theorem add_int_at {E : Value → Shared → Prop} {tk : Nat} {i k : Int} {t u : Tok} (q : ∀ t tk, Q (.int (i + k) t) (c.S h tk)) : wpAny G.M c.A (binaryOp .Add (.int i t) (.int k u)) Q E (c.S h tk) := P.add_int (q _ _)
end
end
section --M18
open PySem PySem.W PyProof.Rows PySem.Calls PySem.Spec PySem.SeqAt
noncomputable def nilAt (h : Heap) (pa : Addr) : Bool := match h.get? pa with
  | some o => match o.data with
    | .seq arr _ => arr.size == 0
    | _ => false
  | none => false
noncomputable def isNone : Value → Bool
  | .none => true
  | _ => false
noncomputable def rowTest (h : Heap) (s : Str) : Value → Bool
  | .ref a => match h.get? a with
    | some o => match o.data with
      | .seq arr _ => match arr.toList with
        | [.str nm _, .ref pa, bv] => (nm == s) && (nilAt h pa && isNone bv)
        | _ => false
      | _ => false
    | none => false
  | _ => false
noncomputable def declRow (s : Str) (r : Row) : Bool := (r.name == s) && ((r.params.length == 0) && r.body.isNone)
theorem nilAt_tup {h : Heap} {pa : Addr} {items : Array Value} (ht : h.IsTuple pa items) : nilAt h pa = (items.size == 0) := by
  obtain ⟨o, e, _, n, hd⟩ := ht
  unfold nilAt
  rw [e]; dsimp only; rw [hd]
theorem rowTest_tup {h : Heap} {a pa : Addr} {nm s : Str} {t : Tok} {bv : Value} (ht : h.IsTuple a #[.str nm t, .ref pa, bv]) : rowTest h s (.ref a) = ((nm == s) && (nilAt h pa && isNone bv)) := by
  obtain ⟨o, e, _, n, hd⟩ := ht
  unfold rowTest
  dsimp only
  rw [e]; dsimp only; rw [hd]
theorem rowTest_row {h₀ h : Heap} {L : Addr} {l news : Led} (N : News h₀ L h news) (sb : Sub l news) {v : Value} {r : Row} {s : Str} (hr : RowIs l v r) : rowTest h s v = declRow s r := by
  obtain ⟨a, t, pa, ps, bv, rfl, q2, q3, q4, q5, q6⟩ := hr
  rw [rowTest_tup (q2.isTup N sb), nilAt_tup (q3.isTup N sb)]
  unfold declRow
  rw [List.size_toArray, q4.length]
  cases hb : r.body with
  | none => rw [hb] at q5; rw [show bv = .none from q5]; rfl
  | some b =>
    rw [hb] at q5
    obtain ⟨a', _, _, _, rfl, _⟩ := IsIt.tup (show IsIt l bv b from q5)
    simp [isNone]
theorem any_rows {vs : List Value} {tab : List Row} {f : Value → Bool} {g : Row → Bool} (hl : vs.length = tab.length) (h : ∀ (j : Nat) v, vs[j]? = some v → ∃ r, tab[j]? = some r ∧ f v = g r) : vs.any f = tab.any g := by
  rw [Bool.eq_iff_iff, List.any_eq_true, List.any_eq_true]
  constructor
  · rintro ⟨v, hv, hf⟩
    obtain ⟨j, hj⟩ := List.mem_iff_getElem?.mp hv
    obtain ⟨r, hr, e⟩ := h j v hj
    exact ⟨r, List.mem_of_getElem? hr, e ▸ hf⟩
  · rintro ⟨r, hr, hg⟩
    obtain ⟨j, hj⟩ := List.mem_iff_getElem?.mp hr
    have hlt : j < vs.length := by rw [hl]; exact (List.getElem?_eq_some_iff.mp hj).1
    obtain ⟨r', hr', e⟩ := h j vs[j] (List.getElem?_eq_getElem hlt)
    rw [hj] at hr'; cases hr'
    exact ⟨_, List.getElem_mem hlt, e ▸ hg⟩
theorem row_eqAt {A : Around} {s : Shared} {h₀ : Heap} {L : Addr} {l news : Led} {v : Value} {r : Row} {X Z : Addr} {nm : Str} {u : Tok} (N : News h₀ L s.heap news) (hr : RowIs l v r) (sb : Sub l news)
    (hX : s.heap.IsTuple X #[.str nm u, .ref Z, .none]) (hZ : s.heap.IsTuple Z #[]) (nX : ∀ p ∈ l, p.1 < X) (nZ : ∀ p ∈ l, p.1 < Z) (hu : A.units + 4 < cLine) : EqAt A s v (.ref X) (rowTest s.heap nm v) := by
  obtain ⟨a, t, pa, ps, bv, rfl, q2, q3, q4, q5, q6⟩ := hr
  have ta := q2.isTup N sb
  have tp := q3.isTup N sb
  rw [rowTest_tup ta, nilAt_tup tp]
  have nea : a ≠ X := fun e => by obtain ⟨o, _, hm, _⟩ := q2; exact Nat.lt_irrefl _ (e ▸ nX _ hm)
  have nep : pa ≠ Z := fun e => by obtain ⟨o, _, hm, _⟩ := q3; exact Nat.lt_irrefl _ (e ▸ nZ _ hm)
  refine EqAt.of_refs nea ?_
  have R := RcAt.tuples (A := A) (e := fun j => if j = 0 then (r.name == nm) else if j = 1 then (ps.toArray.size == 0) else isNone bv) ta hX (by lia) (fun j h1 h2 => ?_)
  · have e : ((List.range (min (#[Value.str r.name t, .ref pa, bv] : Array Value).size (#[Value.str nm u, .ref Z, .none] : Array Value).size)).all (fun j => if j = 0 then (r.name == nm) else if j = 1 then (ps.toArray.size == 0) else isNone bv) && (#[Value.str r.name t, .ref pa, bv] : Array Value).size == (#[Value.str nm u, .ref Z, .none] : Array Value).size)
        = ((r.name == nm) && ((ps.toArray.size == 0) && isNone bv)) := by
      show ((List.range 3).all _ && true) = _
      rw [Bool.and_true]
      simp [List.range_succ]
    rw [← e]
    exact R
  · match j with
    | 0 => exact EqAt.str_str _ _ _ _
    | 1 =>
      show EqAt A.in1 s (.ref pa) (.ref Z) (ps.toArray.size == 0)
      refine EqAt.of_refs nep ?_
      have R2 := RcAt.tuples (A := A.in1) (e := fun ω => true) tp hZ (by rw [units_in1]; lia) (fun j ω h2 => absurd h2 (Nat.not_lt_zero _))
      have e : ((List.range (min ps.toArray.size (#[] : Array Value).size)).all (fun ω => true) && ps.toArray.size == (#[] : Array Value).size) = (ps.toArray.size == 0) := by simp
      rw [← e]; exact R2
    | 2 =>
      show EqAt A.in1 s bv .none (isNone bv)
      cases hb : r.body with
      | none => rw [hb] at q5; rw [show bv = .none from q5]; exact EqAt.same _
      | some b =>
        rw [hb] at q5
        obtain ⟨a', tag, t', x, rfl, ht, _⟩ := IsIt.tup (show IsIt l bv b from q5)
        exact EqAt.tuple_none (ht.isTup N sb) (by rw [units_in1]; lia)
    | j + 3 => simp at h2; lia
theorem in_rows {prog : Program} {w : World} {A : Around} {E : Value → Shared → Prop} {Q : Value → Shared → Prop} {s : Shared} {h₀ : Heap} {L : Addr} {l news : Led} {vs : List Value} {tab : List Row} {n : Nat} {R X Z : Addr} {nm : Str} {u : Tok} (N : News h₀ L s.heap news) (hm : (R, listOf vs.toArray n) ∈ l) (hr : RowsAre l vs tab) (sb : Sub l news)
    (hX : s.heap.IsTuple X #[.str nm u, .ref Z, .none]) (hZ : s.heap.IsTuple Z #[]) (nX : ∀ p ∈ l, p.1 < X) (nZ : ∀ p ∈ l, p.1 < Z) (hu : A.units + 5 < cLine)
    (k : Q (.bool (tab.any (declRow nm))) s) : wpAny (model prog w) A (compareOp .In (.ref X) (.ref R)) Q E s := by
  refine in_listAt (rowTest s.heap nm) (N.isList (sb _ hm)) (fun y hy => ?_) ?_
  · obtain ⟨j, hj⟩ := List.mem_iff_getElem?.mp (by simpa using hy : y ∈ vs)
    obtain ⟨r, _, hri⟩ := hr.2 j y hj
    exact row_eqAt N hri sb hX hZ nX nZ (by rw [units_in1]; lia)
  · have e : vs.toArray.any (rowTest s.heap nm) = tab.any (declRow nm) := by
      rw [List.any_toArray]
      exact any_rows hr.1 fun j v hv => by obtain ⟨r, a, b⟩ := hr.2 j v hv; exact ⟨r, a, rowTest_row N sb b⟩
    rw [e]; exact k
theorem in_three {prog : Program} {w : World} {A : Around} {E : Value → Shared → Prop} {Q : Value → Shared → Prop} {s : Shared} {T : Addr} {a b c x : Str} {t1 t2 t3 u : Tok} (hT : s.heap.IsTuple T #[.str a t1, .str b t2, .str c t3])
    (k : Q (.bool ((a == x) || (b == x) || (c == x))) s) : wpAny (model prog w) A (compareOp .In (.str x u) (.ref T)) Q E s := by
  refine in_tupleAt (fun y => match y with | .str z _ => z == x | _ => false) hT (fun y hy => ?_) ?_
  · simp at hy
    rcases hy with rfl | rfl | rfl <;> exact EqAt.str_str _ _ _ _
  · have e : (#[Value.str a t1, .str b t2, .str c t3] : Array Value).any (fun y => match y with | .str z _ => z == x | _ => false) = ((a == x) || (b == x) || (c == x)) := by
      simp [Bool.or_assoc]
    rw [e]; exact k
end
section --Z1
open PySem PySem.W PyProof.Rows PySem.Calls PySem.Spec PyProof.V PySem.SeqAt
set_option maxHeartbeats 1000000
mutual
noncomputable def putIt (π : Str → Option It) : It → It
  | .sym s => (π s).getD (.sym s)
  | .num i => .num i
  | .key s => .key s
  | .list [] => .list []
  | .list (x :: xs) => if isSym "_" x then .list (x :: xs) else .list (x :: putAll π xs)
noncomputable def putAll (π : Str → Option It) : List It → List It
  | [] => []
  | x :: xs => putIt π x :: putAll π xs
end
noncomputable def Deep : Nat → It → Prop
  | 0, _ => False
  | n + 1, .list xs => ∀ x ∈ xs, Deep n x
  | _ + 1, _ => True
theorem Over.deep {k : Nat} : ∀ {n : Nat} {it : It}, Over k n it → Deep n it
  | 0, _, h => h.elim
  | _ + 1, .sym _, _ => trivial
  | _ + 1, .num _, _ => trivial
  | _ + 1, .key _, _ => trivial
  | _ + 1, .list _, h => fun x hx => Over.deep (h x hx)
noncomputable def TabIn (w : World) (l : Led) (ta : Addr) (π : Str → Option It) : Prop :=
  ∃ o kvs, (ta, o) ∈ l ∧ o.IsDictOf (PySem.strKind PySem.Challenge.rw_nz0158_01.row.prog w) kvs ∧ (ta == sysModules) = false ∧
    ∀ s, match π s with
      | none => valueAt kvs s = none
      | some it => ∃ v, valueAt kvs s = some v ∧ IsIt l v it
theorem TabIn.mono {w : World} {l l' : Led} (s : Sub l l') {ta : Addr} {π : Str → Option It} (h : TabIn w l ta π) : TabIn w l' ta π := by
  obtain ⟨o, kvs, h1, h2, h3, h4⟩ := h
  refine ⟨o, kvs, s _ h1, h2, h3, fun x => ?_⟩
  have := h4 x
  split at this
  · exact this
  · obtain ⟨v, a, b⟩ := this
    exact ⟨v, a, b.mono s⟩
theorem putAll_map (π : Str → Option It) : ∀ xs : List It, putAll π xs = xs.map (putIt π)
  | [] => rfl
  | x :: xs => by rw [putAll, putAll_map π xs]; rfl
noncomputable def numPos : It → Bool
  | .num w => decide (0 < w)
  | _ => false
noncomputable def bits3 : List It → Bool
  | [x, y, z] => (isSym "_" x && isSym "BitVec" y) && numPos z
  | _ => false
noncomputable def isGround (tab : List Row) : It → Bool
  | .sym s => ((Str.ofString "Int" == s) || (Str.ofString "Bool" == s) || (Str.ofString "Real" == s)) || tab.any (declRow s)
  | .list xs => bits3 xs
  | _ => false
theorem isGround_sym (tab : List Row) (s : Str) : isGround tab (.sym s) = (((Str.ofString "Int" == s) || (Str.ofString "Bool" == s) || (Str.ofString "Real" == s)) || tab.any (declRow s)) := rfl
theorem isGround_three (tab : List Row) (x y z : It) : isGround tab (.list [x, y, z]) = ((isSym "_" x && isSym "BitVec" y) && numPos z) := rfl
theorem bits3_no {xs : List It} (h : xs.length ≠ 3) : bits3 xs = false := by
  rcases xs with _ | ⟨a, _ | ⟨b, _ | ⟨c, _ | ⟨d, r⟩⟩⟩⟩ <;> first | rfl | exact absurd rfl h
noncomputable def zipLook (ps : List Str) (as : List It) : Str → Option It := fun x => (ps.zip as).reverse.lookup x
noncomputable def grdAll (f : It → Option (Option It)) : List It → Option (List (Option It))
  | [] => some []
  | x :: xs => match f x with
    | none => none
    | some r => match grdAll f xs with
      | none => none
      | some rs => some (r :: rs)
noncomputable def justAll : List (Option It) → Option (List It)
  | [] => some []
  | none :: _ => none
  | some x :: r => match justAll r with
    | none => none
    | some l => some (x :: l)
noncomputable def hasBody (s : Str) (r : Row) : Bool := (r.name == s) && r.body.isSome
noncomputable def grdStep (f : It → Option (Option It)) (tab : List Row) (s : Str) (as : List It) : Option (Option It) := match tab.find? (hasBody s) with
  | none => some none
  | some r => match r.body with
    | none => some none
    | some b => if r.params.length = as.length then f (putIt (zipLook r.params as) b) else some none
noncomputable def grdCase (f : It → Option (Option It)) (tab : List Row) : It → Option (Option It)
  | .sym s => grdStep f tab s []
  | .list (.sym s :: x :: xs) => if s = "_" then some none else match grdAll f (x :: xs) with
    | none => none
    | some rs => match justAll rs with
      | none => some none
      | some as => grdStep f tab s as
  | _ => some none
noncomputable def grd (tab : List Row) : Nat → It → Option (Option It)
  | 0, _ => none
  | n + 1, it => if isGround tab it = true then some (some it) else grdCase (grd tab n) tab it
section
variable {prog : Program} {w : World} {A : Around} {E : Value → Shared → Prop} {s : Shared} {h₀ : Heap} {L a f : Addr} {m : Str → Option Value} {news : Led} {cn : Str} {cs : Scope} {ccd : Value} {cl : List (Str × Addr)}
end
noncomputable def RsOk (l : Led) : List Value → List (Option It) → Prop
  | [], [] => True
  | y :: ys, r :: rs => BodyIn l y r ∧ RsOk l ys rs
  | _, _ => False
theorem RsOk.snoc {l : Led} {y : Value} {r : Option It} (hb : BodyIn l y r) : ∀ {ys : List Value} {rs : List (Option It)}, RsOk l ys rs → RsOk l (ys ++ [y]) (rs ++ [r])
  | [], [], _ => ⟨hb, trivial⟩
  | _ :: _, _ :: _, h => ⟨h.1, h.2.snoc hb⟩
  | [], _ :: _, h => h.elim
  | _ :: _, [], h => h.elim
theorem RsOk.mono {l l' : Led} (s : Sub l l') : ∀ {ys : List Value} {rs : List (Option It)}, RsOk l ys rs → RsOk l' ys rs
  | [], [], _ => trivial
  | _ :: _, _ :: _, h => ⟨h.1.mono s, h.2.mono s⟩
  | [], _ :: _, h => h.elim
  | _ :: _, [], h => h.elim
theorem RsOk.length {l : Led} : ∀ {ys : List Value} {rs : List (Option It)}, RsOk l ys rs → ys.length = rs.length
  | [], [], _ => rfl
  | _ :: _, _ :: _, h => congrArg (· + 1) h.2.length
  | [], _ :: _, h => h.elim
  | _ :: _, [], h => h.elim
theorem BodyIn.isNone {l : Led} {y : Value} : ∀ {r : Option It}, BodyIn l y r → isNone y = r.isNone
  | none, h => by rw [show y = .none from h]; rfl
  | some it, h => by
    obtain ⟨a, _, _, _, rfl, _⟩ := IsIt.tup (show IsIt l y it from h)
    rfl
theorem RsOk.any {l : Led} : ∀ {ys : List Value} {rs : List (Option It)}, RsOk l ys rs → ys.any isNone = (justAll rs).isNone
  | [], [], _ => rfl
  | y :: ys, none :: rs, h => by rw [List.any_cons, BodyIn.isNone h.1]; rfl
  | y :: ys, some x :: rs, h => by
    rw [List.any_cons, BodyIn.isNone h.1, h.2.any, show justAll (some x :: rs) = match justAll rs with | none => none | some l => some (x :: l) from rfl]
    cases justAll rs <;> rfl
  | [], _ :: _, h => h.elim
  | _ :: _, [], h => h.elim
set_option tactic.hygienic true in
theorem RsOk.its {l : Led} : ∀ {ys : List Value} {rs : List (Option It)} {as : List It}, RsOk l ys rs → justAll rs = some as → IsIts l ys as
  | [], [], as, _, e => by cases e; exact .nil
  | y :: ys, none :: rs, as, h, e => by unfold justAll at e; cases e
  | y :: ys, some x :: rs, as, h, e => by
    unfold justAll at e
    split at e
    · cases e
    · next q => cases e; exact .cons h.1 (h.2.its q)
  | [], _ :: _, _, h, _ => h.elim
  | _ :: _, [], _, h, _ => h.elim
theorem RsOk.step {l l' : Led} {i : Nat} {y : Value} {r : Option It} {ys : List Value} {rs : List (Option It)} (h : RsOk l ys (rs.take i)) (s : Sub l l') (hr : rs[i]? = some r) (hb : BodyIn l' y r) : RsOk l' (ys ++ [y]) (rs.take (i + 1)) := by
  rw [List.take_add_one, hr]
  exact (h.mono s).snoc hb
noncomputable def RowsRel (l : Led) : List Value → List Row → Prop
  | [], [] => True
  | y :: ys, r :: rs => RowIs l y r ∧ RowsRel l ys rs
  | _, _ => False
theorem RowsRel.snoc {l : Led} {y : Value} {r : Row} (hb : RowIs l y r) : ∀ {ys : List Value} {rs : List Row}, RowsRel l ys rs → RowsRel l (ys ++ [y]) (rs ++ [r])
  | [], [], _ => ⟨hb, trivial⟩
  | _ :: _, _ :: _, h => ⟨h.1, h.2.snoc hb⟩
  | [], _ :: _, h => h.elim
  | _ :: _, [], h => h.elim
theorem RowsRel.yes {l : Led} {i : Nat} {y : Value} {r : Row} {s : Str} {ys : List Value} {tab : List Row} (h : RowsRel l ys ((tab.take i).filter (hasBody s))) (hr : tab[i]? = some r) (hb : RowIs l y r) (e : hasBody s r = true) : RowsRel l (ys ++ [y]) ((tab.take (i + 1)).filter (hasBody s)) := by
  rw [List.take_add_one, hr, List.filter_append]
  rw [show (some r).toList.filter (hasBody s) = [r] from by simp [e]]
  exact h.snoc hb
theorem RowsRel.no {l : Led} {i : Nat} {r : Row} {s : Str} {ys : List Value} {tab : List Row} (h : RowsRel l ys ((tab.take i).filter (hasBody s))) (hr : tab[i]? = some r) (e : hasBody s r = false) : RowsRel l ys ((tab.take (i + 1)).filter (hasBody s)) := by
  rw [List.take_add_one, hr, List.filter_append]
  rw [show (some r).toList.filter (hasBody s) = [] from by simp [e]]
  rw [List.append_nil]
  exact h
theorem RowsRel.nil_none {l : Led} {f : It → Option (Option It)} {s : Str} {as : List It} {res : Option It} {tab : List Row} (h : RowsRel l [] (tab.filter (hasBody s))) (hg : grdStep f tab s as = some res) : res = none := by
  cases e : tab.filter (hasBody s) with
  | cons r rs => rw [e] at h; exact h.elim
  | nil =>
    unfold grdStep at hg
    rw [← List.head?_filter, e] at hg
    exact (Option.some.inj hg).symm
theorem RowsRel.cons {l : Led} {f : It → Option (Option It)} {s : Str} {as : List It} {res : Option It} {tab : List Row} {y : Value} {ys : List Value} (h : RowsRel l (y :: ys) (tab.filter (hasBody s))) (hg : grdStep f tab s as = some res) :
    ∃ (j : Nat) (r : Row) (b : It), tab[j]? = some r ∧ RowIs l y r ∧ r.body = some b ∧ (if r.params.length = as.length then f (putIt (zipLook r.params as) b) else some none) = some res := by
  cases e : tab.filter (hasBody s) with
  | nil => rw [e] at h; exact h.elim
  | cons r rs =>
    rw [e] at h
    have hm : r ∈ tab.filter (hasBody s) := by rw [e]; exact List.mem_cons_self
    obtain ⟨h1, h2⟩ := List.mem_filter.mp hm
    obtain ⟨j, hj⟩ := List.mem_iff_getElem?.mp h1
    unfold grdStep at hg
    rw [← List.head?_filter, e] at hg
    dsimp only [List.head?_cons] at hg
    cases hb : r.body with
    | none => unfold hasBody at h2; rw [hb] at h2; simp at h2
    | some b =>
      rw [hb] at hg
      exact ⟨j, r, b, hj, h.1, hb, hg⟩
theorem grdAll_get {f : It → Option (Option It)} : ∀ {xs : List It} {rs : List (Option It)}, grdAll f xs = some rs → rs.length = xs.length ∧ ∀ (j : Nat) x, xs[j]? = some x → ∃ r, rs[j]? = some r ∧ f x = some r
  | [], rs, h => by
    cases (show some [] = some rs from h)
    exact ⟨rfl, fun j x hx => by simp at hx⟩
  | y :: xs, rs, h => by
    unfold grdAll at h
    cases hy : f y with
    | none => rw [hy] at h; cases h
    | some r =>
      rw [hy] at h
      dsimp only at h
      cases hq : grdAll f xs with
      | none => rw [hq] at h; cases h
      | some rr =>
        rw [hq] at h
        cases h
        obtain ⟨a, b⟩ := grdAll_get hq
        refine ⟨by simp [a], fun j x hx => ?_⟩
        cases j with
        | zero => simp at hx; subst hx; exact ⟨r, rfl, hy⟩
        | succ j => simpa using b j x (by simpa using hx)
noncomputable def GrdRes (f : It → Option (Option It)) (tab : List Row) (s0 : Str) (rs : List (Option It)) (res : Option It) : Prop := (match justAll rs with | none => some none | some as => grdStep f tab s0 as) = some res
noncomputable def GrdList (f : It → Option (Option It)) (tab : List Row) (s0 : Str) (xs : List It) (res : Option It) : Prop :=
  ∃ rs, rs.length = xs.length ∧ (∀ (j : Nat) x, xs[j]? = some x → ∃ r, rs[j]? = some r ∧ f x = some r) ∧ GrdRes f tab s0 rs res
theorem grd_list {f : It → Option (Option It)} {tab : List Row} {s0 : Str} {x1 : It} {xr : List It} {res : Option It} (hs : ¬ s0 = "_") (hg : grdCase f tab (.list (.sym s0 :: x1 :: xr)) = some res) : GrdList f tab s0 (x1 :: xr) res := by
  replace hg : (if s0 = "_" then some none else match grdAll f (x1 :: xr) with | none => none | some rs => match justAll rs with | none => some none | some as => grdStep f tab s0 as) = some res := hg
  rw [if_neg hs] at hg
  cases e : grdAll f (x1 :: xr) with
  | none => rw [e] at hg; cases hg
  | some rs =>
    rw [e] at hg
    obtain ⟨a, b⟩ := grdAll_get e
    exact ⟨rs, a, b, hg⟩
theorem grd_under {f : It → Option (Option It)} {tab : List Row} {x1 : It} {xr : List It} {res : Option It} (hg : grdCase f tab (.list (.sym "_" :: x1 :: xr)) = some res) : res = none := by
  replace hg : (if Str.ofString "_" = "_" then some none else match grdAll f (x1 :: xr) with | none => none | some rs => match justAll rs with | none => some none | some as => grdStep f tab "_" as) = some res := hg
  rw [if_pos rfl] at hg
  exact (Option.some.inj hg).symm
theorem zip_lt {H pa ya c : Nat} (h1 : pa < H) (h2 : ya < H) (hc : c ∈ (H + 4) :: (H + 2) :: (H + 3) :: ([H, pa] ++ [H + 1, ya])) : c < H + 5 := by
  simp only [List.mem_cons, List.mem_append, List.not_mem_nil, or_false] at hc
  lia
theorem ne_add {c H k : Nat} (h : c < H) : c ≠ H + k := by lia
section
variable {prog : Program} {w : World} {A : Around} {E : Value → Shared → Prop} {s : Shared} {h₀ : Heap} {L : Addr} {m : Str → Option Value} {news l : Led}
theorem in_none {a : Addr} {ys : List Value} {rs : List (Option It)} {k : Nat} {b : Bool} {Q : Value → Shared → Prop} (N : News h₀ L s.heap news) (hm : (a, listOf ys.toArray k) ∈ news) (hr : RsOk l ys rs) (sb : Sub l news) (hu : A.in1.units < cLine) (hb : (justAll rs).isNone = b) (h : Q (.bool b) s) :
    wpAny (model prog w) A (compareOp .In .none (.ref a)) Q E s := by
  refine in_listAt isNone (News.isList N hm) (fun y hy => ?_) ?_
  · have hy' : y ∈ ys := by simpa using hy
    have : y = .none ∨ ∃ it, IsIt l y it := by
      clear hm hb h hy
      induction ys generalizing rs with
      | nil => cases hy'
      | cons z zs ih =>
        match rs, hr with
        | r :: rs, hr =>
          rcases List.mem_cons.mp hy' with rfl | hy'
          · match r, hr with
            | none, hr => exact .inl hr.1
            | some it, hr => exact .inr ⟨it, hr.1⟩
          · exact ih hr.2 hy'
    rcases this with rfl | ⟨it, hi⟩
    · exact EqAt.same _
    · obtain ⟨a', _, _, _, rfl, ht, _⟩ := hi.tup
      exact EqAt.tuple_none (ht.isTup N sb) hu
  · rw [show ys.toArray.any isNone = b from by rw [← hb, ← hr.any]; simp]
    exact h
theorem dict_zip {H : Heap} {pa ya : Addr} {ps ys : List Value} {params : List Str} {as : List It} {k : Nat} {Q : Value → Shared → Prop} (hh : A.handled = none) (hlim : h₀.NoLimit) (F : Fr h₀ L H m) (N : News h₀ L H news)
    (z1 : IsZip s.heap (H.objs.size + 4) (H.objs.size + 2) (H.objs.size + 3) .none) (z2 : IsPair s.heap (H.objs.size + 2) (.ref H.objs.size) (.ref (H.objs.size + 1))) (z3 : IsPair s.heap (H.objs.size + 3) .none .none)
    (z4 : s.heap.IsTupleIter H.objs.size pa 0) (z5 : s.heap.IsListIter (H.objs.size + 1) ya 0) (z6 : s.heap.objs.size = H.objs.size + 5) (z7 : ∀ c o, H.get? c = some o → s.heap.get? c = some o)
    (hp : TupIn l pa ps) (sb : Sub l news) (hst : Strs ps params) (hm : (ya, listOf ys.toArray k) ∈ news) (hi : IsIts l ys as) (hlen : ps.length = ys.length) (hn : ps.length ≤ 1000)
    (q : ∀ h' tk D o kvs, Fr h₀ L h' m → News h₀ L h' ((D, o) :: news) → o.IsDictOf (PySem.strKind prog w) kvs → (∀ p ∈ news, p.1 < D) → (D == sysModules) = false →
      (∀ x, match zipLook params as x with | none => valueAt kvs x = none | some it => ∃ v, valueAt kvs x = some v ∧ IsIt l v it) → Q (.ref D) { s with heap := h', toks := tk }) :
    wpAny (model prog w) A (call (.type "dict") [.ref (H.objs.size + 4)]) Q E s := by
  have tup := hp.isTup N sb
  have lst := N.isList hm
  have lt : ∀ p ∈ news, p.1 < H.objs.size := fun p hp => Heap.lt_size (N p hp).1
  obtain ⟨op, hop, _⟩ := id tup
  have pal : pa < H.objs.size := Heap.lt_size hop
  have aal : ya < H.objs.size := lt _ hm
  have hlen2 : ps.toArray.size = ys.toArray.size := by simp [hlen]
  have D : ZipD (H.objs.size + 4) (H.objs.size + 2) (H.objs.size + 3) H.objs.size (H.objs.size + 1) [H.objs.size, pa] [H.objs.size + 1, ya] := zipD_at pal aal
  have D1 := fun (A' : Around) (hA : A'.handled = none) => Draws.tuple (prog := prog) (w := w) hA H.objs.size pa (Nat.ne_of_lt pal) ps.toArray
  have D2 : ∀ (A' : Around) (hA : A'.handled = none), Draws prog w A' (H.objs.size + 1) [H.objs.size + 1, ya] ps.toArray.size (fun i v => ys.toArray[i]? = some v) (fun i h => h.IsListIter (H.objs.size + 1) ya i ∧ h.IsList ya ys.toArray) := fun A' hA => by
    have := Draws.list (prog := prog) (w := w) hA (H.objs.size + 1) ya (Nat.ne_of_lt (Nat.lt_succ_of_lt aal)) ys.toArray
    rwa [← hlen2] at this
  refine dict_of_zip (J := fun i kvs => ∀ x, match ((params.zip as).take i).reverse.lookup x with | none => valueAt kvs x = none | some it => ∃ v, valueAt kvs x = some v ∧ IsIt l v it) hh D D1 D2 (by simpa using hn) ?_ (fun x => rfl) z1 z2 z3 ⟨z4, Heap.IsTuple.at tup fun o e => z7 _ o e⟩ ⟨z5, lst.at fun o e => z7 _ o e⟩ ?_ ?_
  · intro i x y kvs hx hy hJ
    have hx' : ps[i]? = some x := by simpa using hx
    have hy' : ys[i]? = some y := by simpa using hy
    obtain ⟨px, pt, rfl, hpx⟩ := hst.get hx'
    obtain ⟨it, hit, hiy⟩ := hi.get hy'
    refine ⟨px, pt, rfl, fun x => ?_⟩
    have hz : (params.zip as)[i]? = some (px, it) := List.getElem?_zip_eq_some.mpr ⟨hpx, hit⟩
    rw [List.take_add_one, hz, Option.toList_some, lookup_snoc, valueAt_stored]
    by_cases e : x = px
    · rw [if_pos e, if_pos e]; exact ⟨y, rfl, hiy⟩
    · rw [if_neg e, if_neg e]; exact hJ x
  · intro c hc
    rw [z6]
    exact zip_lt pal aal hc
  · intro h' tk kvs' hd hJ keep
    have up : ∀ c o, H.get? c = some o → h'.get? c = some o := fun c o e => by
      have := Heap.lt_size e
      exact keep c o (ne_add this) (ne_add this) (ne_add (k := 0) this) (ne_add this) (z7 c o e)
    obtain ⟨o, ho, hdo⟩ := Heap.dictOf_iff.mp hd
    have F' := F.keeps up
    have N' := N.grown up
    have hD : H.objs.size ≤ s.heap.objs.size := by rw [z6]; exact Nat.le_add_right _ _
    have Fs : Fr h₀ L s.heap m := F.keeps z7
    refine q h' tk _ o kvs' F' (fun p hp => ?_) hdo (fun p hp => Nat.lt_of_lt_of_le (lt p hp) hD) (Fs.notModules (modules_low hlim)) fun x => ?_
    · rcases List.mem_cons.mp hp with rfl | hp
      · exact ⟨ho, Nat.ne_of_gt Fs.ns.lt, fr_new Fs (Nat.le_refl _)⟩
      · exact N' p hp
    · have := hJ x
      rw [List.take_of_length_le (by
        have e1 := hst.length
        have e2 := hi.length
        simp only [List.length_zip, List.size_toArray]
        lia)] at this
      exact this
end
theorem ja_split {P : Prop} (rs : List (Option It)) (h1 : justAll rs = none → P) (h2 : ∀ as, justAll rs = some as → P) : P := by
  cases h : justAll rs with
  | none => exact h1 h
  | some as => exact h2 as h
theorem list_split {α : Type} {P : Prop} (l : List α) (h1 : l = [] → P) (h2 : ∀ y ys, l = y :: ys → P) : P := by
  cases l with
  | nil => exact h1 rfl
  | cons y ys => exact h2 y ys rfl
theorem GrdRes.of_none {f : It → Option (Option It)} {tab : List Row} {s0 : Str} {rs : List (Option It)} {res : Option It} (h : GrdRes f tab s0 rs res) (e : justAll rs = none) : res = none := by
  unfold GrdRes at h; rw [e] at h; exact (Option.some.inj h).symm
theorem GrdRes.of_some {f : It → Option (Option It)} {tab : List Row} {s0 : Str} {rs : List (Option It)} {res : Option It} {as : List It} (h : GrdRes f tab s0 rs res) (e : justAll rs = some as) : grdStep f tab s0 as = some res := by
  unfold GrdRes at h; rw [e] at h; exact h
theorem row_parts {P : Value → Prop} {l : Led} {v : Value} {r : Row} {b : It} (hr : RowIs l v r) (hb : r.body = some b)
    (k : ∀ a t pa ps bv, TupIn l a [.str r.name t, .ref pa, .ref bv] → TupIn l pa ps → Strs ps r.params → IsIt l (.ref bv) b → P (.ref a)) : P v := by
  obtain ⟨a, t, pa, ps, bv, rfl, h2, h3, h4, h5, h6⟩ := hr
  rw [hb] at h5
  obtain ⟨a', _, _, _, rfl, _⟩ := IsIt.tup (show IsIt l bv b from h5)
  exact k a t pa ps a' h2 h3 h4 h5
section
variable {prog : Program} {w : World} {A : Around} {E : Value → Shared → Prop} {s : Shared} {h₀ : Heap} {L : Addr} {m : Str → Option Value} {l : Led}
end
noncomputable def GrdLast (f : It → Option (Option It)) (ps : List Str) (as : List It) (b : It) (res : Option It) : Prop := (if ps.length = as.length then f (putIt (zipLook ps as) b) else some none) = some res
theorem GrdLast.ne {f : It → Option (Option It)} {ps : List Str} {as : List It} {b : It} {res : Option It} (h : GrdLast f ps as b res) (e : ps.length ≠ as.length) : res = none := by
  unfold GrdLast at h; rw [if_neg e] at h; exact (Option.some.inj h).symm
theorem GrdLast.eq {f : It → Option (Option It)} {ps : List Str} {as : List It} {b : It} {res : Option It} (h : GrdLast f ps as b res) (e : ps.length = as.length) : f (putIt (zipLook ps as) b) = some res := by
  unfold GrdLast at h; rw [if_pos e] at h; exact h
theorem found_elim {P : Prop} {l : Led} {f : It → Option (Option It)} {s : Str} {as : List It} {res : Option It} {tab : List Row} {found : List Value} {y : Value} {yr : List Value} (hInv : RowsRel l found (tab.filter (hasBody s))) (hf : found = y :: yr) (hg : grdStep f tab s as = some res) (hok : RowsOk tab)
    (k : ∀ a t pa ps bv (r : Row) b, found[(0 : Int).toNat]? = some (.ref a) → TupIn l a [.str r.name t, .ref pa, .ref bv] → TupIn l pa ps → Strs ps r.params → IsIt l (.ref bv) b → Deep 3 b → ps.length ≤ 2 → GrdLast f r.params as b res → P) : P := by
  subst hf
  obtain ⟨j, r, b, hj, hr, hb, hg2⟩ := hInv.cons hg
  obtain ⟨h1, h2, _, h4⟩ := hok.row j r hj
  refine row_parts (P := fun ω => P) hr hb fun a t pa ps bv => ?_
  obtain ⟨a', t', pa', ps', bv', rfl, q2, q3, q4, q5, q6⟩ := hr
  intro x1 x2 x3 x4
  rw [hb] at q5
  obtain ⟨a'', _, _, _, rfl, _⟩ := IsIt.tup (show IsIt l bv' b from q5)
  exact k a' t' pa' ps' a'' r b rfl q2 q3 q4 q5 (h4 b hb).2.deep (by rw [q4.length]; exact h2) hg2
theorem ne_len {ps ys : List Value} {params : List Str} {as : List It} (h : (ps.toArray.size : Int) ≠ (ys.toArray.size : Int)) (h1 : ps.length = params.length) (h2 : ys.length = as.length) : params.length ≠ as.length := by
  simp only [List.size_toArray] at h; lia
theorem eq_len {ps ys : List Value} (h : (ps.toArray.size : Int) = (ys.toArray.size : Int)) : ps.length = ys.length := by
  simp only [List.size_toArray] at h; lia
theorem tab_in {w : World} {l l' : Led} {D : Addr} {o : Obj} {kvs : List (Str × Value)} {params : List Str} {as : List It} (hd : o.IsDictOf (PySem.strKind PySem.Challenge.rw_nz0158_01.row.prog w) kvs) (hm : (D == sysModules) = false)
    (h : ∀ x, match zipLook params as x with | none => valueAt kvs x = none | some it => ∃ v, valueAt kvs x = some v ∧ IsIt l v it) (hD : (D, o) ∈ l') (s : Sub l l') : TabIn w l' D (zipLook params as) := by
  refine ⟨o, kvs, hD, hd, hm, fun x => ?_⟩
  have := h x
  revert this
  cases zipLook params as x with
  | none => exact id
  | some it => exact fun ⟨v, a, b⟩ => ⟨v, a, b.mono s⟩
noncomputable def DeclIn (w : World) (l : Led) (dca : Addr) (dn : Str → Option Int) : Prop :=
  ∃ o kvs, (dca, o) ∈ l ∧ o.IsDictOf (PySem.strKind PySem.Challenge.rw_nz0158_01.row.prog w) kvs ∧ (dca == sysModules) = false ∧
    ∀ s, match dn s with
      | none => valueAt kvs s = none
      | some i => ∃ t, valueAt kvs s = some (.int i t)
theorem DeclIn.mono {w : World} {l l' : Led} (s : Sub l l') {dca : Addr} {dn : Str → Option Int} (h : DeclIn w l dca dn) : DeclIn w l' dca dn := by obtain ⟨o, kvs, a, b, c, d⟩ := h; exact ⟨o, kvs, s _ a, b, c, d⟩
noncomputable def grOf : It → Option Gr
  | .sym s => some (if s = "Bool" then .bool else if s = "Int" then .int else if s = "Real" then .real else .decl s)
  | .list [_, _, .num w] => some (.bits w)
  | _ => none
noncomputable def NumIs (σ : Bk) (dn : Str → Option Int) (r : Value) : Option It → Prop
  | none => r = .none
  | some it => ∃ g i t, grOf it = some g ∧ r = .int i t ∧ Num σ dn g i
theorem grOf_decl {s : Str} (h1 : s ≠ "Bool") (h2 : s ≠ "Int") (h3 : s ≠ "Real") : grOf (.sym s) = some (.decl s) := by
  show some (if s = "Bool" then Gr.bool else if s = "Int" then Gr.int else if s = "Real" then Gr.real else Gr.decl s) = _
  rw [if_neg h1, if_neg h2, if_neg h3]
theorem ground_list {tab : List Row} {its : List It} (h : isGround tab (.list its) = true) : ∃ x y wd, its = [x, y, .num wd] ∧ 1 ≤ wd := by
  by_cases h3 : its.length = 3
  · obtain ⟨x, y, z, rfl⟩ := three h3
    have hz := (Bool.and_eq_true_iff.mp h).2
    cases z with
    | num wd => exact ⟨x, y, wd, rfl, of_decide_eq_true hz⟩
    | _ => cases hz
  · exact absurd ((bits3_no h3).symm.trans h) Bool.false_ne_true
theorem its_three {l : Led} {vs : List Value} {x y : It} {wd : Int} (h : IsIts l vs [x, y, .num wd]) : ∃ v0 v1 c u tw, vs = [v0, v1, .ref c] ∧ TupIn l c [.str "num" u, .int wd tw] := by
  cases h with
  | cons _ h => cases h with
    | cons _ h => cases h with
      | cons h h' => cases h' with
        | nil => cases h with
          | num hc => exact ⟨_, _, _, _, _, rfl, hc⟩
theorem BankSt.bits {w : World} {sn sw bn : Addr} {σ : Bk} {wd i : Int} {fp : Led} (h : BankSt w sn sw bn σ fp) (hb : σ.Bits wd i) : 0 ≤ i ∧ σ.widths[i.toNat]? = some wd := by
  obtain ⟨_, _, _, _, _, hOk⟩ := h
  obtain ⟨t, ht⟩ := hb
  obtain ⟨_, _, i', t', e, h3, h4⟩ := hOk.ent _ (valueAt_mem ht)
  cases e
  exact ⟨by lia, h4⟩
theorem read_bits (tab : List Row) (n : Nat) (κ : Str → Option Gr) (wd : Int) : readR tab (n + 1) κ (.list [.sym "_", .sym "BitVec", .num wd]) = some (if 1 ≤ wd ∧ wd ≤ 4096 then some (.bits wd) else none) := by
  unfold readR
  rw [bitsOf_bv]
  dsimp only
  by_cases h : 1 ≤ wd ∧ wd ≤ 4096
  · rw [if_pos h, if_pos h]
  · rw [if_neg h, if_neg h]
theorem bits_some {wd : Int} {g : Gr} (h : (if 1 ≤ wd ∧ wd ≤ 4096 then some (Gr.bits wd) else none) = some g) : (1 ≤ wd ∧ wd ≤ 4096) ∧ g = .bits wd := by
  by_cases e : 1 ≤ wd ∧ wd ≤ 4096
  · rw [if_pos e] at h; exact ⟨e, (Option.some.inj h).symm⟩
  · rw [if_neg e] at h; cases h
end
section --N11
open PySem PySem.W PyProof.Rows PySem.Calls PySem.Spec PySem.SeqAt
set_option maxHeartbeats 1000000
theorem tup_uniq {h : Heap} {a : Addr} {x y : Array Value} (h1 : h.IsTuple a x) (h2 : h.IsTuple a y) : x = y := by
  obtain ⟨o, e, _, n, hd⟩ := h1
  obtain ⟨o', e', _, n', hd'⟩ := h2
  rw [e] at e'; cases e'
  rw [hd] at hd'; cases hd'; rfl
theorem it_same {A : Around} {s : Shared} {h₀ : Heap} {L : Addr} {l news : Led} {v : Value} {T : Addr} {it : It} {nm : Str} {t1 t2 : Tok} (N : News h₀ L s.heap news) (h : IsIt l v it) (sb : Sub l news)
    (hT : s.heap.IsTuple T #[.str (Str.ofString "sym") t1, .str nm t2]) (hu : A.units < cLine) (hu1 : A.in1.units < cLine) : EqAt A s v (.ref T) (isSym nm it) := by
  by_cases e : v = .ref T
  · subst e
    obtain ⟨a, tag, t, x, e, ht, _, hx⟩ := h.tup
    cases e
    have := tup_uniq (ht.isTup N sb) hT
    rcases hx with ⟨rfl, s', u, rfl, rfl, _⟩ | ⟨rfl, i, u, rfl, rfl⟩ | ⟨rfl, s', u, rfl, rfl⟩ | ⟨rfl, b, vs, xs, rfl, rfl, hb, _⟩
    · cases this
      rw [show isSym nm (.sym nm) = true from by simp [isSym]]
      exact EqAt.same _
    all_goals exact absurd (Value.str.inj (List.cons.inj (congrArg Array.toList this)).1).1 (by decide)
  · exact it_eqAt N h sb hT e hu hu1
theorem front_eq {prog : Program} {w : World} {A : Around} {E : Value → Shared → Prop} {Q : Value → Shared → Prop} {s : Shared} {h₀ : Heap} {L : Addr} {l news : Led} {S U T : Addr} {vs : List Value} {its : List It} {t1 t2 : Tok} (N : News h₀ L s.heap news) (h : IsIts l vs its) (sb : Sub l news)
    (hS : s.heap.IsTuple S (vs.take 1).toArray) (hU : s.heap.IsTuple U #[.ref T]) (hT : s.heap.IsTuple T #[.str (Str.ofString "sym") t1, .str "_" t2]) (hu : A.units < cLine) (hu1 : A.in1.units < cLine) (hu2 : A.in1.in1.units < cLine)
    (k : Q (.bool (headIs "_" its)) s) : wpAny (model prog w) A (compareOp .Eq (.ref S) (.ref U)) Q E s := by
  cases h with
  | nil => exact nil_eq_one hS hU hu k
  | @cons v vs it its h1 h2 =>
    refine eq_tupleAt (e := fun ω => isSym "_" it) hS hU hu (fun j h1' h2' => ?_) ?_
    · match j with
      | 0 => exact it_same N h1 sb hT hu1 hu2
      | j + 1 => simp at h2'
    · show Q (.bool ((List.range 1).all (fun ω => isSym "_" it) && true)) s
      rw [rng_all1, Bool.and_true]
      exact (headIs_eq (x0 := it) (r := its)) ▸ k
theorem two_ne' {prog : Program} {w : World} {A : Around} {E : Value → Shared → Prop} {Q : Value → Shared → Prop} {s : Shared} {h₀ : Heap} {L : Addr} {l news : Led} {S U T T' : Addr} {v v' : Value} {it it' : It} {nm nm' : Str} {t1 t2 t1' t2' : Tok} (N : News h₀ L s.heap news) (h : IsIt l v it) (h' : IsIt l v' it') (sb : Sub l news)
    (hS : s.heap.IsTuple S #[v, v']) (hU : s.heap.IsTuple U #[.ref T, .ref T']) (hT : s.heap.IsTuple T #[.str (Str.ofString "sym") t1, .str nm t2]) (hT' : s.heap.IsTuple T' #[.str (Str.ofString "sym") t1', .str nm' t2']) (hu : A.units < cLine) (hu1 : A.in1.units < cLine) (hu2 : A.in1.in1.units < cLine)
    (k : Q (.bool (!(isSym nm it && isSym nm' it'))) s) : wpAny (model prog w) A (compareOp .NotEq (.ref S) (.ref U)) Q E s := by
  refine RcNeAt.tuples (e := fun j => if j = 0 then isSym nm it else isSym nm' it') hS hU hu (fun j h1 h2 => ?_) prog w E Q ?_
  · match j with
    | 0 => exact it_same N h sb hT hu1 hu2
    | 1 => exact it_same N h' sb hT' hu1 hu2
    | j + 2 => simp at h2; lia
  · show Q (.bool (!((List.range 2).all (fun j => if j = 0 then isSym nm it else isSym nm' it') && true))) s
    rw [rng_all2, Bool.and_true]; exact k
section
variable {w : World} {A : Around} {E : Value → Shared → Prop} {s : Shared} {h₀ : Heap} {L : Addr} {m : Str → Option Value} {news l : Led}
theorem cut_to {value slice : Expr} {t : Addr} {vs : List Value} {k : Nat} {u : Tok} {Q : Value → Shared → Prop} (F : Fr h₀ L s.heap m) (N : News h₀ L s.heap news) (ht : TupIn l t vs) (sb : Sub l news) (hz : vs.length ≤ 64)
    (h0 : vs.length ≤ k → ∀ h', Fr h₀ L h' m → News h₀ L h' news → Q (.ref t) { s with heap := h' })
    (h1 : k < vs.length → ∀ D h', Fr h₀ L h' m → News h₀ L h' ((D, tupO (vs.take k)) :: news) → (∀ p ∈ news, p.1 < D) → Q (.ref D) { s with heap := h' })
    (hs : subscripted slice false (.ref t) (.ref s.heap.objs.size) = operate [.ref s.heap.objs.size, .ref t] (getItem (.ref t) (.ref s.heap.objs.size))) :
    wpAny (model PG w) A (subscriptTail value slice (.ref t) (.ref s.heap.objs.size)) Q E { s with heap := s.heap.push { cls := .type "slice", data := .fields #[.none, .int k u, .none] } } := by
  have up : ∀ b o, s.heap.get? b = some o → (s.heap.push { cls := .type "slice", data := .fields #[.none, .int k u, .none] }).get? b = some o := fun ω ω e => Heap.get?_push_of_some _ e
  have ht' : IsTup (s.heap.push { cls := .type "slice", data := .fields #[.none, .int k u, .none] }) t vs.toArray := (ht.isTup N sb).keeps up
  refine tail_any (s := { s with heap := s.heap.push { cls := .type "slice", data := .fields #[.none, .int k u, .none] } }) ht'.typeIs slot_tuple_getitem.lookup
    (getItem_tuple_to ht' (Heap.IsSliceOf.new ..) (fun hk => h0 (by simpa using hk) _ (F.push _) (N.grown up)) (fun hk => ?_) (by rw [sizeLine_eq]; simp; lia)) hs
  have N1 := News.push (F.push { cls := .type "slice", data := .fields #[.none, .int k u, .none] }) (N.grown up) { cls := .type "tuple", data := .seq (vs.take k).toArray }
  rw [Heap.size_push] at N1
  show Q (.ref (s.heap.push _).objs.size) _
  rw [Heap.size_push]
  exact h1 (by simpa using hk) _ _ ((F.push _).push _) N1 fun p hp => Nat.lt_succ_of_lt (Heap.lt_size (N p hp).1)
theorem cut_from {value slice : Expr} {t : Addr} {vs : List Value} {a : Nat} {u : Tok} {Q : Value → Shared → Prop} (F : Fr h₀ L s.heap m) (N : News h₀ L s.heap news) (ht : TupIn l t vs) (sb : Sub l news) (h1 : 1 ≤ a) (ha : a ≤ vs.length) (hz : vs.length ≤ 64)
    (h : ∀ D h', Fr h₀ L h' m → News h₀ L h' ((D, tupO (vs.drop a)) :: news) → (∀ p ∈ news, p.1 < D) → Q (.ref D) { s with heap := h' })
    (hs : subscripted slice false (.ref t) (.ref s.heap.objs.size) = operate [.ref s.heap.objs.size, .ref t] (getItem (.ref t) (.ref s.heap.objs.size))) :
    wpAny (model PG w) A (subscriptTail value slice (.ref t) (.ref s.heap.objs.size)) Q E { s with heap := s.heap.push { cls := .type "slice", data := .fields #[.int a u, .none, .none] } } := by
  have up : ∀ b o, s.heap.get? b = some o → (s.heap.push { cls := .type "slice", data := .fields #[.int a u, .none, .none] }).get? b = some o := fun ω ω e => Heap.get?_push_of_some _ e
  have ht' : IsTup (s.heap.push { cls := .type "slice", data := .fields #[.int a u, .none, .none] }) t vs.toArray := (ht.isTup N sb).keeps up
  refine tail_any (s := { s with heap := s.heap.push { cls := .type "slice", data := .fields #[.int a u, .none, .none] } }) ht'.typeIs slot_tuple_getitem.lookup
    (getItem_tuple_from ht' (Heap.IsSliceOf.new ..) h1 (by simpa using ha) ?_ (by rw [sizeLine_eq]; simp; lia)) hs
  have N1 := News.push (F.push { cls := .type "slice", data := .fields #[.int a u, .none, .none] }) (N.grown up) { cls := .type "tuple", data := .seq (vs.drop a).toArray }
  rw [Heap.size_push] at N1
  show Q (.ref (s.heap.push _).objs.size) _
  rw [Heap.size_push]
  exact h _ _ ((F.push _).push _) N1 fun p hp => Nat.lt_succ_of_lt (Heap.lt_size (N p hp).1)
end
section
variable {G : Gl} {cs : Scope} {c : Cx G cs} {m : Str → Option Value} {fp l : Led} {h : Heap} {x y : Str} {p p' p'' px py pos spos q1 q2 q3 q4 sp : Pos} {v : Value} {f f₁ f₂ : Tok → Value} {e e₁ e₂ e₃ elt iter target : Expr} {ifs es : List Expr} {d d' n j j1 j2 j3 : Nat} {X : Post} {Q : Value → Shared → Prop} {QF : Flow → Shared → Prop} {rest bt bf : List Stmt} {sc : Scope} {cl : List (Str × Addr)} {ta ax la lb da : Addr} {vs ws : List Value} {its : List It} {b b₁ b₂ : Bool} {o : Obj} {ki : Int} {P : Value → Led → Led → Prop}
theorem ev_get {pl : Sem Bool} {kvs : List (Str × Value)} {s : Str} (W : At c m fp l h) (e1 : Ev c h e₁ (fun ω => .ref da)) (hm : (da, o) ∈ fp ++ (c.fs ++ (c.xs ++ l))) (hd : o.IsDictOf (PySem.strKind PG G.w) kvs) (lo : (da == sysModules) = false) (e2 : Ev c h e₂ (fun t => .str s t)) (e3 : Ev c h e₃ (fun ω => v))
    (hca : autoParam (eval (.Call (.Attribute e₁ (Str.ofString "get") p) [e₂, e₃] [] p') c.env = (do
      let ov ← eval e₁ c.env
      standAt p.atName
      let (f, first) ← holding [ov] (getMethod ov (Str.ofString "get") pl)
      callWith p' f first (backTo p' (starEach [e₂, e₃] c.env)) [])) aR) (he : autoParam (notStar e₂ = true) aR) (he3 : autoParam (notStar e₃ = true) aR) :
    Ev c h (.Call (.Attribute e₁ (Str.ofString "get") p) [e₂, e₃] [] p') (fun ω => (valueAt kvs s).getD v) := fun Q E tk q =>
  MethodCall_ (e1 _ _ _ fun ω tk' => kdg_method W.N hm hd (callWith_method1 (args_cons (e2 _ _ _ fun t ω => args_cons (e3 _ _ _ fun ω tk2 => args_nil (kdg_get2 W.N hm hd lo (PySem.strKind_is _ _ _ _) _ rfl (q 0 _))) (star_of he3)) (star_of he)) (star_of he) (by rw [star_of he3]; rfl))) hca
theorem ex_front {k : Nat} (W : At c m fp l h) (e1 : Ev c h e₁ (fun ω => .ref ta)) (ht : TupIn l ta vs) (hk : (k : Int) = ki) (hz : vs.length ≤ 64)
    (q : ∀ D l' h', TupIn l' D (vs.take k) → Sub l l' → At c m fp l' h' → ∀ tk, Q (.ref D) (c.S h' tk))
    (hs : autoParam (∀ D, subscripted (.Slice none (some (.Constant (.int ki) j p'')) none sp) false (.ref ta) (.ref D) = operate [.ref D, .ref ta] (getItem (.ref ta) (.ref D))) aJ) : Ex c h (.Subscript e₁ (.Slice none (some (.Constant (.int ki) j p'')) none sp) p) Q := ⟨fun tk => by
  subst hk
  refine Subscript_ (e1 _ _ _ fun ω tk' => wpAny_Slice (evalPart_none_step (evalPart_some_step (wpAny_Constant_int (evalPart_none_step ?_)))))
  exact cut_to (s := c.S h (tk' + 1)) W.F W.N ht W.sub hz (fun hl h' F' N' => q ta l h' (by rw [List.take_of_length_le hl]; exact ht) (Sub.refl l) ⟨F', N', W.Z, W.G⟩ _) (fun hkl D h' F' N' lt => q D _ h' ⟨_, _, List.mem_cons_self, rfl, rfl⟩ (Sub.cons (Sub.refl l)) (W.push F' N' lt) _) (hs _)⟩
theorem ex_tail2 {k : Nat} (W : At c m fp l h) (e1 : Ev c h e₁ (fun ω => .ref ta)) (ht : TupIn l ta vs) (hk : (k : Int) = ki) (h1 : 1 ≤ k) (ha : k ≤ vs.length) (hz : vs.length ≤ 64)
    (q : ∀ D h', At c m fp ((D, tupO (vs.drop k)) :: l) h' → ∀ tk, Q (.ref D) (c.S h' tk))
    (hs : autoParam (∀ D, subscripted (.Slice (some (.Constant (.int ki) j p'')) none none sp) false (.ref ta) (.ref D) = operate [.ref D, .ref ta] (getItem (.ref ta) (.ref D))) aJ) : Ex c h (.Subscript e₁ (.Slice (some (.Constant (.int ki) j p'')) none none sp) p) Q := ⟨fun tk => by
  subst hk
  refine Subscript_ (e1 _ _ _ fun ω tk' => wpAny_Slice (evalPart_some_step (wpAny_Constant_int (evalPart_none_step (evalPart_none_step ?_)))))
  exact cut_from (s := c.S h (tk' + 1)) W.F W.N ht W.sub h1 ha hz (fun D h' F' N' lt => q D h' (W.push F' N' lt) _) (hs _)⟩
theorem tup_mem {D : Addr} (W : At c m fp l h) (ht : (D, tupO vs) ∈ l) : h.IsTuple D vs.toArray := ⟨_, (W.N _ (W.inl ht)).1, rfl, _, rfl⟩
theorem tup_in (W : At c m fp l h) (ht : TupIn l ta vs) : h.IsTuple ta vs.toArray := ht.isTup W.N W.sub
theorem sym_at {nm : Str} {tk : Nat} (W : At c m fp l h) (k : ∀ D t1 t2 h', At c m fp ((D, tupO [.str (Str.ofString "sym") t1, .str nm t2]) :: l) h' → ∀ tk, Q (.ref D) (c.S h' tk))
    (he : autoParam (notStar (.Constant (.str (Str.ofString "sym")) j1 q1) = true) aR) (he2 : autoParam (notStar (.Constant (.str nm) j2 q2) = true) aR) : wpAny G.M c.A (eval (.Tuple [.Constant (.str (Str.ofString "sym")) j1 q1, .Constant (.str nm) j2 q2] j p) c.env) Q c.E (c.S h tk) := tup2_at W ev_str k he he2
theorem teg_front1 (V : Live c (d + 1)) (W : At c m fp l h) (e1 : Ev c h e₁ (fun ω => .ref ta)) (ht : TupIn l ta vs) (hi : IsIts l vs its) (hz : vs.length ≤ 64)
    (hs : autoParam (∀ D, subscripted (.Slice none (some (.Constant (.int 1) j p'')) none sp) false (.ref ta) (.ref D) = operate [.ref D, .ref ta] (getItem (.ref ta) (.ref D))) aJ)
    (hm : autoParam (behindInMarks .Eq (.Tuple [.Tuple [.Constant (.str (Str.ofString "sym")) j1 q1, .Constant (.str "_") j2 q2] j3 q3] n q4) = false) aW) :
    TeG c m fp l h (.Compare (.Subscript e₁ (.Slice none (some (.Constant (.int 1) j p'')) none sp) p) [.Eq] [.Tuple [.Tuple [.Constant (.str (Str.ofString "sym")) j1 q1, .Constant (.str "_") j2 q2] j3 q3] n q4] p') (headIs "_" its) := ⟨fun whole Q tk q => by
  refine wpAny_isTrue_Compare1 ((ex_front (k := 1) W e1 ht rfl hz (fun S l2 h2 hS s2 W2 tk2 => ?_) hs).go tk) hm
  refine (ex_tup (xs_ex ⟨fun tk3 => sym_at W2 fun T t1 t2 h3 W3 tk3 => args_nil (newTuple_at W3 (sz_le rfl) fun U h4 W4 tk4 => ?_)⟩)).go tk2
  have s3 := Sub.cons (p := (U, tupO [Value.ref T])) (Sub.cons (p := (T, tupO [Value.str (Str.ofString "sym") t1, .str "_" t2])) (Sub.refl l2))
  exact front_eq (s := c.S h4 tk4) W4.N (hi.mono (s2.trans s3)) W4.sub (tup_in W4 (hS.mono s3)) (tup_mem W4 List.mem_cons_self) (tup_mem W4 (List.mem_cons_of_mem _ List.mem_cons_self)) V.u0 V.u1 V.u2 (wpAny_truthy_bool (q _ h4 _ (s2.trans s3) W4))⟩
theorem teg_front2 {nm nm' : Str} {v0 v1 v2 : Value} {x0 x1 : It} {k1 k2 k3 : Nat} {r1 r2 r3 : Pos} (V : Live c (d + 1)) (W : At c m fp l h) (e1 : Ev c h e₁ (fun ω => .ref ta)) (ht : TupIn l ta [v0, v1, v2]) (i0 : IsIt l v0 x0) (i1 : IsIt l v1 x1)
    (hs : autoParam (∀ D, subscripted (.Slice none (some (.Constant (.int 2) j p'')) none sp) false (.ref ta) (.ref D) = operate [.ref D, .ref ta] (getItem (.ref ta) (.ref D))) aJ)
    (hm : autoParam (behindInMarks .NotEq (.Tuple [.Tuple [.Constant (.str (Str.ofString "sym")) j1 q1, .Constant (.str nm) j2 q2] j3 q3, .Tuple [.Constant (.str (Str.ofString "sym")) k1 r1, .Constant (.str nm') k2 r2] k3 r3] n q4) = false) aW) :
    TeG c m fp l h (.Compare (.Subscript e₁ (.Slice none (some (.Constant (.int 2) j p'')) none sp) p) [.NotEq] [.Tuple [.Tuple [.Constant (.str (Str.ofString "sym")) j1 q1, .Constant (.str nm) j2 q2] j3 q3, .Tuple [.Constant (.str (Str.ofString "sym")) k1 r1, .Constant (.str nm') k2 r2] k3 r3] n q4] p') (!(isSym nm x0 && isSym nm' x1)) := ⟨fun whole Q tk q => by
  refine wpAny_isTrue_Compare1 ((ex_front (k := 2) W e1 ht rfl (by simp) (fun S l2 h2 hS s2 W2 tk2 => ?_) hs).go tk) hm
  refine (ex_tup (xs_ex ⟨fun tk3 => sym_at W2 fun T t1 t2 h3 W3 tk3 => args_ex ⟨fun tk4 => sym_at W3 fun T' t1' t2' h4 W4 tk4 => args_nil (newTuple_at W4 (sz_le rfl) fun U h5 W5 tk5 => ?_)⟩⟩)).go tk2
  have s3 := Sub.cons (p := (U, tupO [Value.ref T, .ref T'])) (Sub.cons (p := (T', tupO [Value.str (Str.ofString "sym") t1', .str nm' t2'])) (Sub.cons (p := (T, tupO [Value.str (Str.ofString "sym") t1, .str nm t2])) (Sub.refl l2)))
  exact two_ne' (s := c.S h5 tk5) W5.N (i0.mono (s2.trans s3)) (i1.mono (s2.trans s3)) W5.sub (tup_in W5 (hS.mono s3)) (tup_mem W5 List.mem_cons_self) (tup_mem W5 (List.mem_cons_of_mem _ (List.mem_cons_of_mem _ List.mem_cons_self))) (tup_mem W5 (List.mem_cons_of_mem _ List.mem_cons_self)) V.u0 V.u1 V.u2 (wpAny_truthy_bool (q _ h5 _ (s2.trans s3) W5))⟩
theorem teg_eqUnit (V : Live c (d + 1)) (W : At c m fp l h) (e1 : Ev c h e₁ (fun ω => .ref ta)) (ht : TupIn l ta vs) (hm : autoParam (behindInMarks .Eq (.Tuple [] j p') = false) aW) : TeG c m fp l h (.Compare e₁ [.Eq] [.Tuple [] j p'] p) (vs.length == 0) := ⟨fun whole Q tk q =>
  wpAny_isTrue_Compare1 (e1 _ _ _ fun ω ω => (ex_tup (xs_nil fun tk' => newTuple_at W (sz_le rfl) fun D h' W' tk2 => eq_tup_nil (s := c.S h' tk2) (xs := vs) (tup_in W' (ht.mono (Sub.cons (Sub.refl l)))) (tup_mem W' List.mem_cons_self) V.u0 (wpAny_truthy_bool (q _ h' _ (Sub.cons (Sub.refl l)) W')))).go _) hm⟩
theorem add_tups_at {E : Value → Shared → Prop} {tk : Nat} (W : At c m fp l h) (h1 : TupIn l la vs) (h2 : TupIn l lb ws) (hz : vs.length + ws.length ≤ 1000) (k : ∀ D l' h', TupIn l' D (vs ++ ws) → Sub l l' → At c m fp l' h' → ∀ tk, Q (.ref D) (c.S h' tk)) :
    wpAny G.M c.A (binaryOp .Add (.ref la) (.ref lb)) Q E (c.S h tk) :=
  add_tuples (s := c.S h tk) W.F W.N (tup_in W h1) (tup_in W h2) (fun z => k lb l h (by rw [z]; exact h2) (Sub.refl l) W tk) (fun ω z => k la l h (by rw [z, List.append_nil]; exact h1) (Sub.refl l) W tk)
    (fun ω ω h' F' N' => k _ _ h' ⟨_, _, List.mem_cons_self, rfl, rfl⟩ (Sub.cons (Sub.refl l)) (W.push F' N' fun p hp => Heap.lt_size (W.N p hp).1) tk) (by rw [sizeLine_eq]; lia)
structure BeG (c : Cx G cs) (m : Str → Option Value) (fp l : Led) (h : Heap) (e : Expr) (b : Bool) : Prop where
  go : ∀ (Q : Value → Shared → Prop) (tk : Nat), (∀ l' h' tk', Sub l l' → At c m fp l' h' → Q (.bool b) (c.S h' tk')) → wpAny G.M c.A (eval e c.env) Q c.E (c.S h tk)
theorem be_one (k : BeG c m fp l h e b) {op : BoolOp} : BeG c m fp l h (.BoolOp op [e] p) b := ⟨fun Q tk q => BoolOp_one (k.go Q tk q)⟩
theorem be_or (t : BeG c m fp l h e₁ b₁) (k : ∀ l' h', Sub l l' → At c m fp l' h' → b₁ = false → BeG c m fp l' h' (.BoolOp .Or (e₂ :: es) p) b₂) : BeG c m fp l h (.BoolOp .Or (e₁ :: e₂ :: es) p) (b₁ || b₂) := ⟨fun Q tk q => BoolOp_or (t.go _ tk fun l' h' tk' s W => wpAny_truthy_bool (by
  cases b₁ with
  | true => exact q l' h' tk' s W
  | false => exact (k l' h' s W rfl).go Q tk' fun l2 h2 tk2 s2 W2 => q l2 h2 tk2 (s.trans s2) W2))⟩
theorem be_and (t : BeG c m fp l h e₁ b₁) (k : ∀ l' h', Sub l l' → At c m fp l' h' → b₁ = true → BeG c m fp l' h' (.BoolOp .And (e₂ :: es) p) b₂) : BeG c m fp l h (.BoolOp .And (e₁ :: e₂ :: es) p) (b₁ && b₂) := ⟨fun Q tk q => BoolOp_and (t.go _ tk fun l' h' tk' s W => wpAny_truthy_bool (by
  cases b₁ with
  | false => exact q l' h' tk' s W
  | true => exact (k l' h' s W rfl).go Q tk' fun l2 h2 tk2 s2 W2 => q l2 h2 tk2 (s.trans s2) W2))⟩
theorem be_cmp {op : CmpOp} {f₁ f₂ : Tok → Value} (W : At c m fp l h) (e1 : Ev c h e₁ f₁) (e2 : Ev c h e₂ f₂) (k : ∀ t₁ t₂ tk Q E, (∀ tk', Q (.bool b) (c.S h tk')) → wpAny G.M c.A (compareOp op (f₁ t₁) (f₂ t₂)) Q E (c.S h tk)) (hm : autoParam (behindInMarks op e₂ = false) aW) :
    BeG c m fp l h (.Compare e₁ [op] [e₂] p) b := ⟨fun Q tk q => wpAny_Compare1 (e1 _ _ _ fun ω ω => e2 _ _ _ fun ω ω => k _ _ _ _ _ fun tk' => q l h tk' (Sub.refl l) W) hm⟩
theorem be_ret (R : Rets c QF P) (W : At c m fp l h) (t : BeG c m fp l h e b) (k : ∀ l', Sub l l' → P (.bool b) fp l') : Run c QF h (.Return (some e) p :: rest) := run_retX ⟨fun tk => t.go _ tk fun l' h' tk' s W' => R tk' (k l' s) W'⟩
theorem be_in3 {s a1 a2 a3 : Str} (W : At c m fp l h) (e1 : Ev c h e₁ (fun t => .str s t)) (hm : autoParam (behindInMarks .In (.Tuple [.Constant (.str a1) j1 q1, .Constant (.str a2) j2 q2, .Constant (.str a3) j3 q3] n q4) = false) aW)
    (h1 : autoParam (notStar (.Constant (.str a1) j1 q1) = true) aR) (h2 : autoParam (notStar (.Constant (.str a2) j2 q2) = true) aR) (h3 : autoParam (notStar (.Constant (.str a3) j3 q3) = true) aR) :
    BeG c m fp l h (.Compare e₁ [.In] [.Tuple [.Constant (.str a1) j1 q1, .Constant (.str a2) j2 q2, .Constant (.str a3) j3 q3] n q4] p) ((a1 == s) || (a2 == s) || (a3 == s)) := ⟨fun Q tk q =>
  wpAny_Compare1 (e1 _ _ _ fun ω ω => (ex_tup (xs_ev ev_str (fun t1 => xs_ev ev_str (fun t2 => xs_ev ev_str (fun t3 => xs_nil fun tk' => newTuple_at W (sz_le rfl) fun D h' W' tk2 => in_three (s := c.S h' tk2) (tup_mem W' List.mem_cons_self) (q _ h' _ (Sub.cons (Sub.refl l)) W')) h3) h2) h1)).go _) hm⟩
theorem newTuple_lt {E : Value → Shared → Prop} {tk : Nat} (W : At c m fp l h) (hz : vs.length ≤ sizeLine) (k : ∀ D h', (∀ p ∈ l, p.1 < D) → At c m fp ((D, tupO vs) :: l) h' → ∀ tk, Q (.ref D) (c.S h' tk)) : wpAny G.M c.A (newTuple vs) Q E (c.S h tk) :=
  kup_newTuple (s := c.S h tk) W.F W.N (fun D h' F' N' lt => k D h' (fun p hp => lt p (W.inl hp)) (W.push F' N' lt) tk) hz
theorem Live.u5 (V : Live c (d + 1)) : c.A.units + 5 < cLine := by have := V.room.2; lia
theorem be_row {s : Str} {tab : List Row} {ra : Addr} (V : Live c (d + 1)) (W : At c m fp l h) (e1 : Ev c h e₁ (fun t => .str s t)) (e2 : Ev c h e₂ (fun ω => .ref ra)) (hr : RowsIn l ra tab)
    (e2' : ∀ h' l', Sub l l' → At c m fp l' h' → Ev c h' e₂ (fun ω => .ref ra)) (hm : autoParam (behindInMarks .In e₂ = false) aW) (he : autoParam (notStar e₁ = true) aR) :
    BeG c m fp l h (.Compare (.Tuple [e₁, .Tuple [] j1 q1, .Constant .none j2 q2] j3 q3) [.In] [e₂] p) (tab.any (declRow s)) := ⟨fun Q tk q => by
  obtain ⟨rvs, rk1, r1m, hra⟩ := hr
  refine wpAny_Compare1 ((ex_tup (xs_ev e1 (fun t1 => xs_ex (ex_tup (xs_nil fun tk1 => newTuple_lt W (sz_le rfl) fun Z h1 lz W1 tk1 => args_ev ev_none fun ω => xs_nil fun tk2 => newTuple_lt W1 (sz_le rfl) fun X h2 lx W2 tk2 => ?_))) he)).go tk) hm
  have s2 : Sub l ((X, tupO [Value.str s t1, .ref Z, .none]) :: (Z, tupO []) :: l) := Sub.cons (Sub.cons (Sub.refl l))
  refine (e2' h2 _ s2 W2).run fun ω tk3 => ?_
  exact in_rows (s := c.S h2 tk3) (l := l) W2.N r1m hra (fun p hp => W2.sub _ (s2 p hp)) (tup_mem W2 List.mem_cons_self) (tup_mem W2 (List.mem_cons_of_mem _ List.mem_cons_self)) (fun p hp => lx p (List.mem_cons_of_mem _ hp)) lz V.u5 (q _ h2 _ s2 W2)⟩
end
end
section --N12
open PySem PySem.W PyProof.Rows PySem.Calls PySem.Spec PySem.SeqAt
set_option maxHeartbeats 1000000
theorem cells_map {cm : Str → Option Value} {cl : List (Str × Addr)} {cells : Led} (h : CellsAre cm cl cells) : cells.map (·.1) = cl.map (·.2) := by
  induction h with
  | nil => rfl
  | cons _ _ ih => exact congrArg _ ih
section
variable {G : Gl} {cs : Scope} {c : Cx G cs} {m : Str → Option Value} {fp l : Led} {h : Heap} {d d' : Nat} {vals : List Value} {K KX : Post → Prop}
theorem entS {f : Addr} {binds : List (Str × Value)} {name qual : Str} {params : Arguments} {body : List Stmt} {dV kV doc pm cdv ct oc : Value} {an od : Option Addr} {osl : Array (Option Value)}
    (ho : (K0.heap_1 G.w.params).lookup f = some ⟨oc, od, .func (fnX name qual params body cs [] dV kV doc pm an cdv ct), osl⟩) (hcd : codeIn (K0.heap_1 G.w.params) cdv qual = true)
    (hpw : ∀ n, ((cellsFrom n cs.names []).map (·.2)).Pairwise (· ≠ ·))
    (go : ∀ (c : Cx G cs) h cells, Live c d → At c (lkC cs binds) (cells ++ fp) l h → CellsAre (bindC (fun y => cs.names.lookup y) binds (fun ω => none)) (cellsFrom (c.L + 1) cs.names []) cells → Rets c c.Q (Out K) → Exs c (Out KX) → Run c c.Q h body)
    (hbind : ∀ s, BindsTo s (fnX name qual params body cs [] dV kV doc pm an cdv ct) ⟨vals, []⟩ binds := by exact fun ω => BindsTo.of_eq rfl) (hkind : autoParam ((binds.all fun y => cs.names.lookup y.1 == some .local || cs.names.lookup y.1 == some .cell) = true) aR) (hnd : autoParam (((cellsFrom 0 cs.names []).map (·.1)).Nodup) aD)
    (hco : autoParam (cs.isCoroutine = false) aR) (hgen : autoParam (cs.isGenerator = false) aR) (hk : autoParam (cs.kind = .function) aR) : Ct G (.ref f) vals (d + 1) fp l K KX := by
  refine ⟨?_⟩
  intro A envs fs xs s Q E Y R S hQ hE
  obtain ⟨hp, g, dr, tk, os⟩ := s
  refine m_callC (K := K0.heap_1 G.w.params) (binds := binds) S G.X G.T.nolimit ho hcd R.depth (hbind _) hkind hnd ?_ hco hgen hk
  intro L' h' tk' cells F' N' Y' l1
  have hge := cells_ge Y'
  have N2 : News G.h₀ L' h' ((cells ++ fp) ++ (fs ++ (xs ++ l))) := News.sub N' fun p hp => by
    simp only [List.mem_append] at hp ⊢
    rcases hp with (hp | hp) | hp | hp | hp <;> simp [hp]
  have far : ∀ p ∈ cells, ∀ q ∈ fp ++ (fs ++ (xs ++ l)), p.1 ≠ q.1 := fun p hp q hq e => by
    have h1 := hge p hp
    rw [e] at h1
    exact absurd (Nat.lt_of_lt_of_le (l1 q hq) (Nat.le_of_succ_le h1)) (Nat.lt_irrefl _)
  have Z2 : Ap (cells ++ fp) fs (xs ++ l) := ⟨fun p hp q hq => by
    have hp' : p ∈ cells ∨ p ∈ fp ++ fs := by
      simp only [List.mem_append] at hp ⊢
      rcases hp with (hp | hp) | hp <;> simp [hp]
    rcases hp' with hp' | hp'
    · exact (far p hp' q (by simp only [List.mem_append] at hq ⊢; rcases hq with hq | hq <;> simp [hq])).symm
    · exact S.apart.ap p hp' q hq, fun p hp q hq => by
    rcases List.mem_append.mp hp with hp' | hp'
    · exact (far p hp' q (by simp [hq])).symm
    · exact S.apart.apf p hp' q hq, List.pairwise_append.mpr ⟨?_, S.apart.dist, fun p hp q hq => far p hp q (by simp [hq])⟩⟩
  · let c : Cx G cs := ⟨A.deeper (envX qual cs L' f cdv (cellsFrom (L' + 1) cs.names [])), qual, f, cdv, L', g, dr, os, envs, fs, xs, l, Q, E⟩
    have := (go c h' cells ⟨Around.frames_deeper (Ar.frames Y), Ar.frs Y, Y.free, R.deeper, hk⟩ ⟨F', N2, Z2, Gro.refl _ _⟩ Y'
      (fun {v m fp' l' h''} tk q W => hQ v fp' l' h'' tk q (Has.back W.F W.N W.Z) W.G) (fun {e C fp' fs' l' h'' tk} q Hf SU g => hE e C fp' fs' l' h'' tk q Hf SU g)).go tk'
    refine wpAny_mono this (fun f s' q => ?_) fun e s' q => q
    cases f <;> exact q
  · have := hpw (L' + 1)
    rw [← cells_map Y', List.pairwise_map] at this
    exact this
theorem At.dropF {q : Addr × Obj} (W : At c m (q :: fp) l h) : At c m fp l h :=
  ⟨W.F, News.sub W.N fun p hp => List.mem_cons_of_mem _ hp, ⟨fun p hp r hr => W.Z.ap p (by simp only [List.cons_append, List.mem_cons]; exact .inr hp) r hr, fun p hp => W.Z.apf p (List.mem_cons_of_mem _ hp), (List.pairwise_cons.mp W.Z.dist).2⟩, W.G⟩
theorem At.swap {q r : Addr × Obj} (W : At c m (q :: r :: fp) l h) : At c m (r :: q :: fp) l h :=
  ⟨W.F, News.sub W.N fun p hp => by
    simp only [List.cons_append, List.mem_cons] at hp ⊢
    rcases hp with hp | hp | hp <;> simp [hp], ⟨fun p hp => W.Z.ap p (by
    simp only [List.cons_append, List.mem_cons] at hp ⊢
    rcases hp with hp | hp | hp <;> simp [hp]), fun p hp => W.Z.apf p (by
    simp only [List.mem_cons] at hp ⊢
    rcases hp with hp | hp | hp <;> simp [hp]), by
    obtain ⟨h1, h2⟩ := List.pairwise_cons.mp W.Z.dist
    obtain ⟨h3, h4⟩ := List.pairwise_cons.mp h2
    refine List.pairwise_cons.mpr ⟨fun p hp => ?_, List.pairwise_cons.mpr ⟨fun p hp => h1 p (List.mem_cons_of_mem _ hp), h4⟩⟩
    rcases List.mem_cons.mp hp with rfl | hp
    · exact (h1 r List.mem_cons_self).symm
    · exact h3 p hp⟩, W.G⟩
variable {x y x1 x2 : Str} {p p' p'' px py pos spos q1 q2 q3 q4 sp p1 p2 : Pos} {v : Value} {f f₁ f₂ : Tok → Value} {e e₁ e₂ e₃ elt iter target : Expr} {ifs es : List Expr} {n j j1 j2 j3 kk : Nat} {X : Post} {Q : Value → Shared → Prop} {QF B : Flow → Shared → Prop} {rest bt bf body : List Stmt} {sc : Scope} {cl : List (Str × Addr)} {ta ax la lb da ca C : Addr} {vs ws ys ps : List Value} {its : List It} {b b₁ b₂ : Bool} {o : Obj} {ki : Int} {P : Value → Led → Led → Prop} {news : Led}
theorem ev_cellF (W : At c m fp l h) (hc : (cellsFrom (c.L + 1) cs.names []).lookup x = some ca) (hm : (ca, o) ∈ fp) (hd : o.data = .cell (some v)) (hk : autoParam (cs.kind = .function) aR) (hx : autoParam (cs.names.lookup x = some .cell) aR) (hdb : autoParam ((x == ("__debug__" : Str)) = false) aD) : Ev c h (.Name x p) (fun ω => v) := fun Q E tk q =>
  nameX_C (s := c.S h tk) W.N hc (W.inf hm) hd (q 0 _) hk hx hdb
theorem assign_cl {v1 v2 : Value} {v₀ : Option Value} {Q : Unit → Shared → Prop} {tk : Nat} (V : Live c d) (W : At c m ((ca, o) :: fp) l h) (ht : TupIn l ta [v1, v2]) (hc : (cellsFrom (c.L + 1) cs.names []).lookup x1 = some ca) (hd : o.data = .cell v₀)
    (k : ∀ o' h', o'.data = .cell (some v1) → At c (up m x2 v2) ((ca, o') :: fp) l h' → ∀ tk, Q () (c.S h' tk))
    (hk : autoParam (cs.kind = .function) aR) (h1 : autoParam (cs.names.lookup x1 = some .cell) aR) (h2 : autoParam (cs.names.lookup x2 = some .local) aR) : wpAny G.M c.A (assign (.Tuple [.Name x1 p1, .Name x2 p2] kk pos) c.env (.ref ta)) Q c.E (c.S h tk) := by
  refine wpAny_assign_Tuple (s := c.S h tk) V.hh (tup_in W ht) rfl rfl fun h' hext => ?_
  have up : ∀ b o, h.get? b = some o → h'.get? b = some o := fun b o e => hext b o (Nat.ne_of_lt (Heap.lt_size e)) e
  show wpAny _ _ (assignInOrder [assign (.Name x1 p1) _, assign (.Name x2 p2) _] [v1, v2]) _ _ _
  refine aio_cons (wpAny_assign_Name (storeX_C (s := c.S h' tk) (W.F.keeps up) (W.N.grown up) hc (W.upd .head) hd (fun ha oa Fa Na da => ?_) hk h1))
  refine aio_cons (wpAny_assign_Name (storeX_L (s := c.S ha tk) Fa Na (fun hb Fb Nb => ?_) hk h2))
  exact aio_nil (k oa hb da ⟨Fb, Nb, W.Z.same rfl, W.G⟩ _)
theorem run_set2c {v1 v2 : Value} {v₀ : Option Value} {tk : Nat} (V : Live c d) (W : At c m ((ca, o) :: fp) l h) (ht : TupIn l ta [v1, v2]) (hc : (cellsFrom (c.L + 1) cs.names []).lookup x1 = some ca) (hd : o.data = .cell v₀)
    (k : ∀ o' h', o'.data = .cell (some v1) → At c (up m x2 v2) ((ca, o') :: fp) l h' → Run c QF h' rest)
    (hk : autoParam (cs.kind = .function) aR) (h1 : autoParam (cs.names.lookup x1 = some .cell) aR) (h2 : autoParam (cs.names.lookup x2 = some .local) aR) : wpAny G.M c.A (assign (.Tuple [.Name x1 p1, .Name x2 p2] kk pos) c.env (.ref ta)) (fun ω => Sq c QF rest .next) c.E (c.S h tk) :=
  assign_cl V W ht hc hd (fun o' h' hd' W' tk => (k o' h' hd' W').go tk) hk h1 h2
noncomputable def Via (c : Cx G cs) (QF : Flow → Shared → Prop) (P : (Str → Option Value) → Led → Led → Prop) : Flow → Shared → Prop := fun f s' => match f with
  | .next => ∃ m fp l h tk, s' = c.S h tk ∧ P m fp l ∧ At c m fp l h
  | f => QF f s'
theorem via_end {P : (Str → Option Value) → Led → Led → Prop} (W : At c m fp l h) (j : P m fp l) : Run c (Via c QF P) h [] := run_nil fun tk => ⟨m, fp, l, h, tk, rfl, j, W⟩
theorem Rets.via {P' : (Str → Option Value) → Led → Led → Prop} (R : Rets c QF P) : Rets c (Via c QF P') P := fun tk p W => R tk p W
theorem run_via {P : (Str → Option Value) → Led → Led → Prop} (h1 : TeX c h e fun b s' => if b = true then wpAny G.M c.A (execs bt c.env) (Via c QF P) c.E s' else wpAny G.M c.A (execs bf c.env) (Via c QF P) c.E s')
    (h2 : ∀ m' fp' l' h', P m' fp' l' → At c m' fp' l' h' → Run c QF h' rest) : Run c QF h (.If e bt bf p :: rest) :=
  Run.cons fun tk => wpAny_mono (wpAny_If (h1.go _ tk)) (fun f s' q => by
    cases f with
    | next => obtain ⟨m, fp, l, h', tk', rfl, j, W⟩ := q; exact (h2 m fp l h' j W).go tk'
    | _ => exact q) fun ω ω e => e
theorem teg_x {R : Bool → Shared → Prop} (t : TeG c m fp l h e b) (k : ∀ l' h' tk', Sub l l' → At c m fp l' h' → R b (c.S h' tk')) : TeX c h e R := ⟨fun whole tk => t.go whole R tk k⟩
theorem run_while {J : Nat → (Str → Option Value) → Led → Led → Prop} {N : Nat} (W : At c m fp l h) (h0 : J N m fp l)
    (turn : ∀ (B : Flow → Shared → Prop) k m fp l h, J k m fp l → At c m fp l h → (∀ k' m' fp' l' h', k' < k → J k' m' fp' l' → At c m' fp' l' h' → Run c B h' []) → (∀ v s', QF (.ret v) s' → B (.ret v) s') →
      TeX c h e fun b s' => if b = true then wpAny G.M c.A (execs body c.env) B c.E s' else wpAny G.M c.A (execs rest c.env) QF c.E s') : Run c QF h (.While e body [] p :: rest) := Run.cons fun tk => by
  refine whl_start 0 ?_
  have go : ∀ (N : Nat) m fp l h tk k, J N m fp l → At c m fp l h → WhlRest PG G.w c.A c.E c.env e body [] (Sq c QF rest) k (c.S h tk) := by
    intro N
    induction N using Nat.strongRecOn with
    | _ N ih =>
      intro m fp l h tk k hJ W
      refine whl_turn (k := 0) (by unfold Cx.E; passes_own) ?_
      refine wpAny_mono ((turn (WhlPost PG G.w c.A c.E c.env e body [] (Sq c QF rest) 0) N m fp l h hJ W (fun k' m' fp' l' h' hk hJ' W' => run_nil fun tk' => ih k' hk m' fp' l' h' tk' 0 hJ' W') fun v s' q => q).go _ tk) (fun b s' q => ?_) fun ω ω e => e
      cases b with
      | true => exact WhlIf.yes rfl q
      | false => exact WhlIf.no rfl (wpAny_execs_nil q)
  exact go N m fp l h tk 0 h0 W
theorem tex_notCall {R : Bool → Shared → Prop} {fn : Expr} {args : List Expr} {kws : List Keyword} (e1 : Ex c h (.Call fn args kws p') fun v s' => wpAny G.M c.A (truthy v) (fun b s₂ => R (!b) s₂) c.E s') : TeX c h (.UnaryOp .Not (.Call fn args kws p') p) R := ⟨fun whole tk => isTrue_not (wpAny_isTrue_value (e1.go tk))⟩
noncomputable def CeT (c : Cx G cs) (sc : Scope) (cl : List (Str × Addr)) (C : Addr) (h : Heap) (e : Expr) (b : Bool) : Prop :=
  ∀ (whole : Sem Value) (Q : Bool → Shared → Prop) (E : Value → Shared → Prop) (tk : Nat), (∀ tk', Q b (c.S h tk')) → wpAny G.M c.A (isTrue e (compEnvC sc cl C c.env) whole) Q E (c.S h tk)
theorem ce_cellF (N : News G.h₀ c.L h news) (hm : (ca, o) ∈ news) (hd : o.data = .cell (some v)) (hl : cl.lookup x = some ca) (hk : autoParam ((compEnvC sc cl C c.env).scope.kind = .function) aR) (hx : autoParam ((compEnvC sc cl C c.env).kindOf x = some .cell) aR) (hdb : autoParam ((x == ("__debug__" : Str)) = false) aD) :
    Ce c sc cl C h (.Name x p) (fun ω => v) := fun Q E tk q => lcf_cell (s := c.S h tk) N hl hm hd (q 0 _) hk hx hdb
theorem ce_itemT {a : Addr} {k : Int} {ii j : Nat} {t : Tok} (N : News G.h₀ c.L h news) (s : Sub l news) (e1 : Ce c sc cl C h e₁ (fun ω => .ref a)) (ht : TupIn l a vs) (hx : vs[j]? = some (f t)) (hk : autoParam (k = (j : Int)) aR) (hhi : autoParam (k < 2 ^ 63) aD) :
    Ce c sc cl C h (.Subscript e₁ (.Constant (.int k) ii p) p') f := fun ω ω ω q => Subscript_ (e1 _ _ _ fun ω ω => wpAny_Constant_int (ev_sub_aux (ht.isTup N s) (by subst hk; exact Int.le_trans (by decide) (Int.natCast_nonneg j)) hhi (seq_at hk hx) hx (q t _)))
theorem ct_eqS {s z : Str} (e1 : Ce c sc cl C h e₁ (fun t => .str s t)) (e2 : Ce c sc cl C h e₂ (fun t => .str z t)) (hm : autoParam (behindInMarks .Eq e₂ = false) aW) : CeT c sc cl C h (.Compare e₁ [.Eq] [e₂] p) (s == z) := fun ω ω ω ω q =>
  wpAny_isTrue_Compare1 (e1 _ _ _ fun ω ω => e2 _ _ _ fun ω ω => eq_str (wpAny_truthy_bool (q _))) hm
theorem ct_notN (e1 : Ce c sc cl C h e₁ (fun ω => v)) (hm : autoParam (behindInMarks .IsNot (.Constant .none j p') = false) aW) : CeT c sc cl C h (.Compare e₁ [.IsNot] [.Constant .none j p'] p) (!(v == .none)) := fun ω ω ω ω q =>
  wpAny_isTrue_Compare1 (e1 _ _ _ fun ω ω => wpAny_Constant_none (isnot_none_gen (wpAny_truthy_bool (q _)))) hm
theorem ct_and2 (t1 : CeT c sc cl C h e₁ b₁) (t2 : b₁ = true → CeT c sc cl C h e₂ b₂) : CeT c sc cl C h (.BoolOp .And [e₁, e₂] p) (b₁ && b₂) := fun ω ω ω ω q => isTrue_and (t1 _ _ _ _ fun tk => by
  cases b₁ with
  | false => exact q _
  | true => exact isTrue_and (t2 rfl _ _ _ _ fun tk' => by cases b₂ with | false => exact q _ | true => exact isTrue_and_nil (q _)))
theorem turn_filter {Inv : Nat → List Value → Prop} (t : Nat → Bool)
    (ct : ∀ C (i : Nat) v h' mC news, vs[i]? = some v → h'.Ns C mC → mC x = some v → News G.h₀ c.L h' news → Sub (fp ++ (c.fs ++ (c.xs ++ l))) news → CeT c sc cl C h' e (t i))
    (step : ∀ (i : Nat) v ys, vs[i]? = some v → Inv i ys → Inv (i + 1) (ys ++ (if t i = true then some v else none).toList))
    (hkind : autoParam (sc.kind = .function) aR) (h1 : autoParam (sc.names.lookup x = some .local) aR) (hd : autoParam ((x == ("__debug__" : Str)) = false) aD) : Turn c m fp l h sc cl (.Name x p) (.Name x p') [e] vs Inv := by
  intro tk C i v h' tk2 mC ys Kk hv hI hn F N hCL hC0 hlC k
  refine comp_assign1 (s := c.S h' tk2) hn hkind h1 fun h2 tk' kk nn => ?_
  have N2 : News G.h₀ c.L h2 (fp ++ (c.fs ++ (c.xs ++ l))) := fun q hq => ⟨kk _ _ (hlC q hq) (N q hq).1, (N q hq).2⟩
  refine wpAny_tests_one (ct C i v h2 _ _ hv nn (by simp) N2 (fun ω hq => hq) _ _ _ _ fun tk3 => ?_)
  have hs := step i v ys hv hI
  cases ht : t i with
  | true =>
    rw [ht, if_pos rfl] at hs
    rw [if_pos rfl]
    exact wpAny_Name (wpAny_loadName_local (s := c.S h2 tk3) (by show (relabel sc c.env).kind = _; exact hkind) (lookup_relabel_local h1) nn (by simp) (k (some v) h2 _ _ hs kk nn)) hd
  | false =>
    rw [ht, if_neg Bool.false_ne_true] at hs
    rw [if_neg Bool.false_ne_true]
    exact k none h2 _ _ hs kk nn
theorem te_noneIn {rs : List (Option It)} {k : Nat} (V : Live c (d + 1)) (W : At c m fp l h) (e2 : Ev c h e₂ (fun ω => .ref la)) (hm : (la, listOf ys.toArray k) ∈ l) (hr : RsOk l ys rs) (hb : (justAll rs).isNone = b) (hmm : autoParam (behindInMarks .In e₂ = false) aW) :
    Te c h (.Compare (.Constant .none j p') [.In] [e₂] p) b := te_cmp ev_none e2 (fun ω ω tk Q E q => in_none (s := c.S h tk) W.N (W.inl hm) hr W.sub V.u1 hb (q _)) hmm
theorem ex_dictzip {pa ya : Addr} {params : List Str} {as : List It} {k : Nat} {pz pc pd pe : Pos} (V : Live c d) (W : At c m fp l h) (e1 : Ev c h e₁ (fun ω => .ref pa)) (hp : TupIn l pa ps) (hst : Strs ps params) (e2 : Ev c h e₂ (fun ω => .ref ya)) (hm : (ya, listOf ys.toArray k) ∈ l) (hi : IsIts l ys as) (hlen : ps.length = ys.length) (hn : ps.length ≤ 1000)
    (q : ∀ D o h', At c m fp ((D, o) :: l) h' → TabIn G.w ((D, o) :: l) D (zipLook params as) → ∀ tk, Q (.ref D) (c.S h' tk))
    (hnd : nsIn (K0.heap_1 G.w.params) mainGlobals (Str.ofString "dict") = some none) (hnz : nsIn (K0.heap_1 G.w.params) mainGlobals (Str.ofString "zip") = some none) (hk : autoParam (cs.kind = .function) aR) (hz : autoParam (cs.names.lookup (Str.ofString "zip") = some .globalImplicit) aR) (hx : autoParam (cs.names.lookup (Str.ofString "dict") = some .globalImplicit) aR)
    (he : autoParam (notStar e₁ = true) aR) (he2 : autoParam (notStar e₂ = true) aR) (hez : autoParam (notStar (.Call (.Name (Str.ofString "zip") pz) [e₁, e₂] [] pc) = true) aR) : Ex c h (.Call (.Name (Str.ofString "dict") pd) [.Call (.Name (Str.ofString "zip") pz) [e₁, e₂] [] pc] [] pe) Q := by
  refine call_T W hnd rfl ⟨fun tk => ?_⟩ hk hx (by decide) (by decide) hez
  refine Call_ (nameX_B (s := c.S h tk) W.F G.X (topRead_of G.T) hnz rfl (by decide) (PyProof.Rows.callWith_type1 (T := "zip") (args_cons (e1 _ _ _ fun ω tk' => args_cons (e2 _ _ _ fun ω tk2 => args_nil ?_) (star_of he2)) (star_of he)) (star_of he) (by rw [star_of he2]; rfl)) hk hz (by decide)) call_name
  refine call_zip_tl (s := c.S h tk2) (l1 := pa) (l2 := ya) (tup_in W hp) (W.N.isList (W.inl hm)) fun h3 z1 z2 z3 z4 z5 z6 z7 => ?_
  exact dict_zip (s := c.S h3 tk2) V.hh G.T.nolimit W.F W.N z1 z2 z3 z4 z5 z6 z7 hp W.sub hst (W.inl hm) hi hlen hn fun h' tk' D o kvs F' N' hd lt lo htab => q D o h' (W.push F' N' lt) (tab_in hd lo htab List.mem_cons_self (Sub.cons (Sub.refl l))) _
end
end
section --N13
open PySem PySem.W PyProof.Rows PySem.Calls PySem.Spec PySem.SeqAt
set_option maxHeartbeats 1000000
section
variable {G : Gl} {cs : Scope} {c : Cx G cs} {m : Str → Option Value} {fp l : Led} {h : Heap} {d d' : Nat} {vals : List Value} {K KX : Post → Prop} {fn : Value} {x y x1 x2 : Str} {p p' p'' px py pos spos : Pos} {v : Value} {f f₁ f₂ : Tok → Value} {e e₁ e₂ e₃ : Expr} {n j : Nat} {X : Post} {Q : Value → Shared → Prop} {QF B : Flow → Shared → Prop} {rest bt bf body : List Stmt} {da : Addr} {o : Obj} {P : Value → Led → Led → Prop} {b : Bool} {g : Obj → Led}
structure Ps (c : Cx G cs) (h : Heap) (pos : Pos) (keys : List (Option Expr)) (values : List Expr) (R : List (Value × Value) → Shared → Prop) : Prop where
  go : ∀ tk, wpAny G.M c.A (evalPairs (pairTrees keys values c.env pos)) R c.E (c.S h tk)
theorem ps_nil {R : List (Value × Value) → Shared → Prop} (k : ∀ tk, R [] (c.S h tk)) : Ps c h pos [] [] R := ⟨fun tk => evalPairs_nil (k tk)⟩
theorem ps_ev {R : List (Value × Value) → Shared → Prop} {keys : List (Option Expr)} {values : List Expr} {y : Str} (e1 : Ev c h e f) (k : ∀ t u, Ps c h pos keys values fun vs => R ((.str y t, f u) :: vs)) : Ps c h pos (some (.Constant (.str y) j p) :: keys) (e :: values) R :=
  ⟨fun tk => evalPairs_cons (Constant_str (wpAny_bind (e1 _ _ _ fun u tk' => wpAny_bind (wpAny_standAt (wpAny_pure ((k _ u).go tk'))))))⟩
theorem ps_ex {R : List (Value × Value) → Shared → Prop} {keys : List (Option Expr)} {values : List Expr} {y : Str} (e1 : ∀ t, Ex c h e fun v s₁ => wpAny G.M c.A (evalPairs (pairTrees keys values c.env pos)) (fun vs => R ((.str y t, v) :: vs)) c.E s₁) : Ps c h pos (some (.Constant (.str y) j p) :: keys) (e :: values) R :=
  ⟨fun tk => evalPairs_cons (Constant_str (wpAny_bind (wpAny_mono ((e1 _).go _) (fun v s' q => wpAny_bind (wpAny_standAt (wpAny_pure q))) fun ω ω e => e)))⟩
theorem ex_dictlit {keys : List (Option Expr)} {values : List Expr} (W : At c m fp l h) (k : ∀ D o h', (D == sysModules) = false → o.IsDictOf (PySem.strKind PG G.w) [] → At c m ((D, o) :: fp) l h' → Ps c h' pos keys values fun vs s₁ => KdnMade PG G.w (PySem.strKind PG G.w) D Q vs s₁)
    (q0 : autoParam (strLits keys = true) aR) (hall : autoParam (keys.all (·.isSome) = true) aR) (hl : autoParam (keys.length = values.length) aR) (h0 : keys ≠ [] := by exact List.cons_ne_nil _ _) (hlen : autoParam (keys.length ≤ 15) aD) : Ex c h (.Dict keys values pos) Q := ⟨fun tk =>
  kdn_str (s := c.S h tk) q0 W.F W.N G.T.nolimit hall hl h0 hlen fun D h' o F' N' lt lo hd => (k D o h' lo hd (W.pushF F' N' lt)).go tk⟩
theorem dict_made_at {vs : List (Value × Value)} {tk : Nat} (W : At c m fp l h) (s : Slot da o fp g) (hd : o.IsDictOf (PySem.strKind PG G.w) []) (k : ∀ o' h', o'.IsDictOf (PySem.strKind PG G.w) (strPairs vs) → At c m (g o') l h' → ∀ tk, Q (.ref da) (c.S h' tk))
    (hk : autoParam (allStrKeys vs = true) aR) (hn : ((strPairs vs).map (·.1)).Nodup := by exact of_decide_eq_true (by rfl)) : KdnMade PG G.w (PySem.strKind PG G.w) da Q vs (c.S h tk) :=
  kdn_made_str (s := c.S h tk) W.F W.N (W.upd s) hd hk hn fun h' o' F' N' hd' => k o' h' hd' (W.turn F' N' (s.map _)) _
theorem sub_dictS_at {value slice : Expr} {E : Value → Shared → Prop} {tk : Nat} {kvs : List (Str × Value)} {s : Str} {t : Tok} (W : At c m fp l h) (hm : (da, o) ∈ fp ++ (c.fs ++ (c.xs ++ l))) (hd : o.IsDictOf (PySem.strKind PG G.w) kvs) (hv : valueAt kvs s = some v) (q : ∀ tk, Q v (c.S h tk))
    (hs : autoParam (subscripted slice false (.ref da) (.str s t) = operate [.ref da, .str s t] (getItem (.ref da) (.str s t))) aW) : wpAny G.M c.A (subscriptTail value slice (.ref da) (.str s t)) Q E (c.S h tk) :=
  kdt_tail (s := c.S h tk) W.N hm hd (kdt_getItem W.N hm hd (PySem.strKind_is _ _ _ _) hv (q _)) hs
theorem ev_getI {pl : Sem Bool} {kvs : List (Int × Value)} {s : Int} (W : At c m fp l h) (e1 : Ev c h e₁ (fun ω => .ref da)) (hm : (da, o) ∈ fp ++ (c.fs ++ (c.xs ++ l))) (hd : o.IsDictOf (PySem.intKind PG G.w) kvs) (lo : (da == sysModules) = false) (hv : valueAt kvs s = some v) (e2 : Ev c h e₂ (fun t => .int s t)) (e3 : Ev c h e₃ f)
    (hca : autoParam (eval (.Call (.Attribute e₁ (Str.ofString "get") p) [e₂, e₃] [] p') c.env = (do
      let ov ← eval e₁ c.env
      standAt p.atName
      let (f, first) ← holding [ov] (getMethod ov (Str.ofString "get") pl)
      callWith p' f first (backTo p' (starEach [e₂, e₃] c.env)) [])) aR) (he : autoParam (notStar e₂ = true) aR) (he3 : autoParam (notStar e₃ = true) aR) :
    Ev c h (.Call (.Attribute e₁ (Str.ofString "get") p) [e₂, e₃] [] p') (fun ω => v) := fun Q E tk q =>
  MethodCall_ (e1 _ _ _ fun ω tk' => kdg_method W.N hm hd (callWith_method1 (args_cons (e2 _ _ _ fun t ω => args_cons (e3 _ _ _ fun ω tk2 => args_nil (kdg_get2 W.N hm hd lo (PySem.intKind_is _ _ _ _) _ hv (q 0 _))) (star_of he3)) (star_of he)) (star_of he) (by rw [star_of he3]; rfl))) hca
theorem ev_neg {i : Int} (e1 : Ev c h e (fun t => .int i t)) : Ev c h (.UnaryOp .USub e p) (fun t => .int (-i) t) := fun Q E tk q => UnaryOp_ (e1 _ _ _ fun t tk' => neg_int (q _ _))
structure CtS (G : Gl) (fn : Value) (vals : List Value) (d : Nat) (fp l : Led) (K : Post → Prop) : Prop where
  go : DoesS G.M G.h₀ fn vals d fp l (Out K)
noncomputable def RetsH (c : Cx G cs) (Q : Flow → Shared → Prop) (P : Value → Led → Led → Prop) : Prop := ∀ {v fp' l' h fs'} tk, P v fp' l' → TI.SameUp c.fs fs' → Has G.h₀ h fp' fs' (c.xs ++ l') → Gro c.xs c.l₀ l' → Q (.ret v) (c.S h tk)
theorem RetsH.now (R : RetsH c QF P) : Rets c QF P := fun tk p W => R tk p (TI.SameUp.refl _) (Has.back W.F W.N W.Z) W.G
theorem RetsH.sq (R : RetsH c QF P) : RetsH c (Sq c QF rest) P := fun tk p s H g => R tk p s H g
theorem exs_no : Exs c (fun ω ω ω => False) := fun q => q.elim
theorem entD {f : Addr} {binds : List (Str × Value)} {name qual : Str} {params : Arguments} {body : List Stmt} {dV kV doc pm cdv ct oc : Value} {an od : Option Addr} {osl : Array (Option Value)}
    (ho : (K0.heap_1 G.w.params).lookup f = some ⟨oc, od, .func (fnX name qual params body cs [] dV kV doc pm an cdv ct), osl⟩) (hcd : codeIn (K0.heap_1 G.w.params) cdv qual = true)
    (hpw : ∀ n, ((cellsFrom n cs.names []).map (·.2)).Pairwise (· ≠ ·))
    (go : ∀ (c : Cx G cs) h cells, Live c d → At c (lkC cs binds) (cells ++ fp) l h → CellsAre (bindC (fun y => cs.names.lookup y) binds (fun ω => none)) (cellsFrom (c.L + 1) cs.names []) cells → RetsH c c.Q (Out K) → Run c c.Q h body)
    (hbind : ∀ s, BindsTo s (fnX name qual params body cs [] dV kV doc pm an cdv ct) ⟨vals, []⟩ binds := by exact fun ω => BindsTo.of_eq rfl) (hkind : autoParam ((binds.all fun y => cs.names.lookup y.1 == some .local || cs.names.lookup y.1 == some .cell) = true) aR) (hnd : autoParam (((cellsFrom 0 cs.names []).map (·.1)).Nodup) aD)
    (hco : autoParam (cs.isCoroutine = false) aR) (hgen : autoParam (cs.isGenerator = false) aR) (hk : autoParam (cs.kind = .function) aR) : CtS G (.ref f) vals (d + 1) fp l K := by
  refine ⟨?_⟩
  intro A envs fs xs s Q E Y R S hQ
  obtain ⟨hp, g, dr, tk, os⟩ := s
  refine m_callC (K := K0.heap_1 G.w.params) (binds := binds) S G.X G.T.nolimit ho hcd R.depth (hbind _) hkind hnd ?_ hco hgen hk
  intro L' h' tk' cells F' N' Y' l1
  have hge := cells_ge Y'
  have N2 : News G.h₀ L' h' ((cells ++ fp) ++ (fs ++ (xs ++ l))) := News.sub N' fun p hp => by
    simp only [List.mem_append] at hp ⊢
    rcases hp with (hp | hp) | hp | hp | hp <;> simp [hp]
  have far : ∀ p ∈ cells, ∀ q ∈ fp ++ (fs ++ (xs ++ l)), p.1 ≠ q.1 := fun p hp q hq e => by
    have h1 := hge p hp
    rw [e] at h1
    exact absurd (Nat.lt_of_lt_of_le (l1 q hq) (Nat.le_of_succ_le h1)) (Nat.lt_irrefl _)
  have Z2 : Ap (cells ++ fp) fs (xs ++ l) := ⟨fun p hp q hq => by
    have hp' : p ∈ cells ∨ p ∈ fp ++ fs := by
      simp only [List.mem_append] at hp ⊢
      rcases hp with (hp | hp) | hp <;> simp [hp]
    rcases hp' with hp' | hp'
    · exact (far p hp' q (by simp only [List.mem_append] at hq ⊢; rcases hq with hq | hq <;> simp [hq])).symm
    · exact S.apart.ap p hp' q hq, fun p hp q hq => by
    rcases List.mem_append.mp hp with hp' | hp'
    · exact (far p hp' q (by simp [hq])).symm
    · exact S.apart.apf p hp' q hq, List.pairwise_append.mpr ⟨?_, S.apart.dist, fun p hp q hq => far p hp q (by simp [hq])⟩⟩
  · let c : Cx G cs := ⟨A.deeper (envX qual cs L' f cdv (cellsFrom (L' + 1) cs.names [])), qual, f, cdv, L', g, dr, os, envs, fs, xs, l, Q, E⟩
    have := (go c h' cells ⟨Around.frames_deeper (Ar.frames Y), Ar.frs Y, Y.free, R.deeper, hk⟩ ⟨F', N2, Z2, Gro.refl _ _⟩ Y'
      (fun {v fp' l' h'' fs'} tk q s H g => hQ v fp' fs' l' h'' tk q H s g)).go tk'
    refine wpAny_mono this (fun f s' q => ?_) fun e s' q => q
    cases f <;> exact q
  · have := hpw (L' + 1)
    rw [← cells_map Y', List.pairwise_map] at this
    exact this
theorem useR {E : Value → Shared → Prop} (V : Live c d) (W : At c m fp l h) (Cl : Ct G fn vals d' fp l K KX)
    (kx : KX fun C fp' l' => ∀ e oL' fs' h' tk, Fly G.h₀ (c.env :: c.outer) e C h' fp' ((c.L, oL') :: fs') (c.xs ++ l') → h'.Ns c.L m → G.h₀.objs.size ≤ c.L → TI.SameUp c.fs fs' → Gro c.xs l l' → E (.ref e) (c.S h' tk))
    (k : K fun v fp' l' => ∀ h', Gro c.xs l l' → At c m fp' l' h' → ∀ tk, Q v (c.S h' tk)) (hd : autoParam (d' ≤ d) aD) :
    ∀ tk, wpAny G.M c.A (call fn vals) Q E (c.S h tk) := fun tk =>
  Does.use (s := c.S h tk) (loc := []) Cl.go W.F W.N V.fr rfl V.hk V.Fs V.hh (V.room.mono hd) W.Z zl_nil
    (fun v fp' l' h' tk' q F' N' Z' G' => q _ k h' G' ⟨F', N', Z', W.G.trans G'⟩ tk')
    (fun e C fp' oL' fs' l' h' tk' q Hf hn hL SU G' => q _ kx e oL' fs' h' tk' Hf hn hL SU G')
noncomputable def CatchE (c : Cx G cs) (hs : List ExceptHandler) (Q : Flow → Shared → Prop) : Value → Shared → Prop := fun e s₁ =>
  wpAny G.M c.A (noteFrame e c.env) (fun ω s₂ => wpAny G.M c.A (setFlight e none) (fun ω s₃ => wpAny G.M c.A (handleBy e c.env hs) Q c.E s₃) c.E s₂) c.E s₁
theorem run_try {h0 : ExceptHandler} {hs : List ExceptHandler} (k : ∀ tk, wpAny G.M c.A (execs body c.env) (Sq c QF rest) (CatchE c (h0 :: hs) (Sq c QF rest)) (c.S h tk)) : Run c QF h (.Try body (h0 :: hs) [] [] p :: rest) := Run.cons fun tk => wpAny_Try_except (wpAny_mono (k tk) (fun f s' q => by
  cases f with
  | next => exact wpAny_execs_nil q
  | _ => exact q) fun ω ω e => e)
theorem call_globE {fa : Addr} {args : List Expr} {E : Value → Shared → Prop} {tk : Nat} (W : At c m fp l h) (hn : nsIn (K0.heap_1 G.w.params) mainGlobals x = some (some (.ref fa))) (hkp : keepIn (K0.heap_1 G.w.params) (.ref fa) = true)
    (k : wpAny G.M c.A (spliced (backTo p' (starEach (e :: args) c.env))) (fun vs s₁ => (K0.heap_1 G.w.params).In s₁.heap ∧ wpAny G.M c.A (call (.ref fa) vs) Q E s₁) E (c.S h tk))
    (hk : autoParam (cs.kind = .function) aR) (hx : autoParam (cs.names.lookup x = some .globalImplicit) aR) (hd : autoParam ((x == ("__debug__" : Str)) = false) aD) (hpl : autoParam ((backTo p' (starEach args c.env)).any (·.1) = false) aR) (he : autoParam (notStar e = true) aR) : wpAny G.M c.A (eval (.Call (.Name x p) (e :: args) [] p') c.env) Q E (c.S h tk) :=
  Call_ (nameX_K (s := c.S h tk) W.F G.X (topRead_of G.T) hn (callWith_K G.X hkp k (star_of he) hpl) hk hx hd) call_name
theorem meth_instE {pl : Sem Bool} {C ia dx fa : Addr} {es : List DictEntry} {n : Nat} {y : Str} {args : List Expr} {E : Value → Shared → Prop} {tk : Nat} (W : At c m fp l h) (eo : Ev c h e₁ (fun ω => .ref ia)) (h1 : (ia, instObj C dx) ∈ l) (h2 : (dx, dictOf es n) ∈ l)
    (hl : getL y es = some none) (hg : plainGet (K0.heap_1 G.w.params) C y = true) (hf : findIn (K0.heap_1 G.w.params) (.ref C) y = some (some (.ref fa))) (hfn : isFn (K0.heap_1 G.w.params) (.ref fa) = true) (hkp : keepIn (K0.heap_1 G.w.params) (.ref fa) = true)
    (k : ∀ tk, wpAny G.M c.A (spliced (backTo p' (starEach (e :: args) c.env))) (fun vs s₁ => (K0.heap_1 G.w.params).In s₁.heap ∧ wpAny G.M c.A (call (.ref fa) (.ref ia :: vs)) Q E s₁) E (c.S h tk))
    (hpl : autoParam ((backTo p' (starEach args c.env)).any (·.1) = false) aR) (he : autoParam (notStar e = true) aR)
    (hca : autoParam (eval (.Call (.Attribute e₁ y p) (e :: args) [] p') c.env = (do
      let ov ← eval e₁ c.env
      standAt p.atName
      let (f, first) ← holding [ov] (getMethod ov y pl)
      callWith p' f first (backTo p' (starEach (e :: args) c.env)) [])) aR) : wpAny G.M c.A (eval (.Call (.Attribute e₁ y p) (e :: args) [] p') c.env) Q E (c.S h tk) :=
  MethodCall_ (eo _ _ _ fun ω tk' => method_inst (s := c.S h tk') W.F G.X (InstAt.of_news W.N (W.inl h1) (W.inl h2)) hg hf hfn hl (callWith_K G.X hkp (k tk') (star_of he) hpl)) hca
theorem catch_take {e C ec : Addr} {oL' : Obj} {fs' : Led} {h' : Heap} {tk : Nat} {t : Expr} {er : Expr} {fr : Value} {fp' l' : Led} {p1 p2 : Pos} (R : RetsH c QF P) (V : Live c d) (g0 : Gro c.xs c.l₀ l)
    (hf : Fly G.h₀ (c.env :: c.outer) e (.ref C) h' fp' ((c.L, oL') :: fs') (c.xs ++ l')) (hn : h'.Ns c.L m) (hL : G.h₀.objs.size ≤ c.L) (SU : TI.SameUp c.fs fs') (g : Gro c.xs l l')
    (hx : exmOne (K0.heap_1 G.w.params) (.ref C) (.ref ec) = some true) (ht : ∀ (A' : Around) (E' Q' : Value → Shared → Prop) (s' : Shared), Fr G.h₀ c.L s'.heap m → Q' (.ref ec) s' → wpAny G.M A' (eval t c.env) Q' E' s')
    (k : ∀ (A' : Around) (E' : Value → Shared → Prop) (Q' : Value → Shared → Prop) (h2 : Heap) (tk : Nat), Fr G.h₀ c.L h2 m → (∀ tk', Q' fr (c.S h2 tk')) → wpAny G.M A' (eval er c.env) Q' E' (c.S h2 tk)) (hp : P fr fp' l') {rest : List ExceptHandler} :
    wpAny G.M c.A (handleBy (.ref e) c.env (.ExceptHandler (some t) none [.Return (some er) p1] p2 :: rest)) QF c.E (c.S h' tk) :=
  catch_hit (s := c.S h' tk) V.fr hf hn hL G.X hx ht fun oL3 fs3 h3 F3 H3 SU3 => wpAny_execs_cons (wpAny_Return_some (k _ _ _ h3 tk F3 fun tk' => R tk' hp (SU.trans SU3) H3.pop (g0.trans g)))
theorem catch_in {e : Addr} {C : Value} {oL' : Obj} {fs' : Led} {h' : Heap} {tk : Nat} {h0 : ExceptHandler} {hs : List ExceptHandler} {fp' l' : Led} (V : Live c d)
    (hf : Fly G.h₀ (c.env :: c.outer) e C h' fp' ((c.L, oL') :: fs') (c.xs ++ l')) (hn : h'.Ns c.L m) (hL : G.h₀.objs.size ≤ c.L) (SU : TI.SameUp c.fs fs')
    (k : ∀ oL2 fs2 h2, Fly G.h₀ (c.env :: c.outer) e C h2 fp' ((c.L, oL2) :: fs2) (c.xs ++ l') → h2.Ns c.L m → TI.SameUp c.fs fs2 → wpAny G.M c.A (handleBy (.ref e) c.env (h0 :: hs)) QF c.E (c.S h2 tk)) : CatchE c (h0 :: hs) QF (.ref e) (c.S h' tk) :=
  catch_look (s := c.S h' tk) V.fr rfl hf hn hL fun oL2 fs2 h2 hf2 hn2 SU2 => k oL2 fs2 h2 hf2 hn2 (SU.trans SU2)
end
end
section --N14
open PySem PySem.W PyProof.Rows PySem.Calls PySem.Spec PySem.SeqAt
set_option maxHeartbeats 1000000
theorem one_of {fp' : Led} {dx : Addr} (h : fp'.map (·.1) = [dx]) : ∃ o, fp' = [(dx, o)] := by
  cases fp' with
  | nil => exact absurd (congrArg List.length h) (by simp)
  | cons q r => cases r with
    | nil =>
      obtain ⟨a, o⟩ := q
      have e : a = dx := (List.cons.inj h).1
      exact ⟨o, by rw [e]⟩
    | cons _ _ => exact absurd (congrArg List.length h) (by simp)
structure CtK (G : Gl) (fn : Value) (vals : List Value) (d : Nat) (fp l : Led) (K : Post → Prop) : Prop where
  go : DoesK G.M G.h₀ fn vals d fp l (Out K)
section
variable {G : Gl} {cs : Scope} {c : Cx G cs} {m : Str → Option Value} {fp l : Led} {h : Heap} {d d' : Nat} {vals : List Value} {K KX : Post → Prop} {fn : Value} {x y x1 x2 : Str} {p p' p'' px py pos spos : Pos} {v : Value} {f f₁ f₂ : Tok → Value} {e e₁ e₂ e₃ : Expr} {n j : Nat} {X : Post} {Q : Value → Shared → Prop} {QF B : Flow → Shared → Prop} {rest bt bf body : List Stmt} {da ia dx C : Addr} {o : Obj} {P : Value → Led → Led → Prop} {b : Bool} {g : Obj → Led} {es : List DictEntry}
noncomputable abbrev putE (G : Gl) (y : Str) (t : Tok) (v : Value) (es : List DictEntry) : List DictEntry := putL y (PyData.keyHash G.w.params y) (.str y t) v es
theorem setattr_at {R : Unit → Shared → Prop} {E : Value → Shared → Prop} {tk : Nat} (W : At c m fp l h) (h1 : (ia, instObj C dx) ∈ fp ++ (c.fs ++ (c.xs ++ l))) (s : Slot dx (dictOf es n) fp g)
    (hs : findIn (K0.heap_1 G.w.params) (.ref C) "__setattr__" = some (some (.builtin "object.__setattr__"))) (hp : plainOver (K0.heap_1 G.w.params) C = true) (ht : takerIn (K0.heap_1 G.w.params) C y = some none) (hh : hasDictIn (K0.heap_1 G.w.params) C = true)
    (k : ∀ t h', At c m (g (dictOf (putE G y t v es) (putN y es n))) l h' → ∀ tk, R () (c.S h' tk)) (hl : autoParam ((getL y es).isSome = true) aR) (hz : ∀ t, (putE G y t v es).length ≤ 1000 := by intro _; exact Nat.le_of_ble_eq_true rfl) : wpAny G.M c.A (setAttr (.ref ia) y v) R E (c.S h tk) :=
  set_dict (s := c.S h tk) W.F G.X W.N (InstAt.of_news W.N h1 (W.inf s.mem)) rfl hs hp ht hh hl rfl (W.updP s) (hz _) fun h' F' N' => k _ h' (W.turn F' N' (s.map _)) _
theorem run_attrX (e0 : Ex c h e₂ fun v s₁ => wpAny G.M c.A (eval e₁ c.env) (fun ov s₂ => wpAny G.M c.A (setAttr ov y v) (fun ω => Sq c QF rest .next) c.E s₂) c.E s₁) (hs : autoParam (swapsWith e₂ (some (.Attribute e₁ y p)) pos.line c.env = pure false) aR) : Run c QF h (.Assign [.Attribute e₁ y p] e₂ pos :: rest) :=
  Run.cons fun tk => plainObj_wpAny_Assign_Attribute (e0.go tk) hs
theorem run_attr (W : At c m fp l h) (e2 : Ev c h e₂ f) (eo : Ev c h e₁ (fun ω => .ref ia)) (h1 : (ia, instObj C dx) ∈ fp ++ (c.fs ++ (c.xs ++ l))) (s : Slot dx (dictOf es n) fp g)
    (hs : findIn (K0.heap_1 G.w.params) (.ref C) "__setattr__" = some (some (.builtin "object.__setattr__"))) (hp : plainOver (K0.heap_1 G.w.params) C = true) (ht : takerIn (K0.heap_1 G.w.params) C y = some none) (hh : hasDictIn (K0.heap_1 G.w.params) C = true)
    (k : ∀ u t h', At c m (g (dictOf (putE G y t (f u) es) (putN y es n))) l h' → Run c QF h' rest) (hl : autoParam ((getL y es).isSome = true) aR) (hz : ∀ u t, (putE G y t (f u) es).length ≤ 1000 := by intro _ _; exact Nat.le_of_ble_eq_true rfl)
    (hw : autoParam (swapsWith e₂ (some (.Attribute e₁ y p)) pos.line c.env = pure false) aR) : Run c QF h (.Assign [.Attribute e₁ y p] e₂ pos :: rest) :=
  run_attrX (e2.ex fun u tk => eo.run fun ω tk' => setattr_at W h1 s hs hp ht hh (fun t h' W' tk2 => (k u t h' W').go tk2) hl (hz u)) hw
theorem entK {f : Addr} {binds : List (Str × Value)} {name qual : Str} {params : Arguments} {body : List Stmt} {dV kV doc pm cdv ct oc : Value} {an od : Option Addr} {osl : Array (Option Value)}
    (ho : (K0.heap_1 G.w.params).lookup f = some ⟨oc, od, .func (fnX name qual params body cs [] dV kV doc pm an cdv ct), osl⟩) (hcd : codeIn (K0.heap_1 G.w.params) cdv qual = true)
    (go : ∀ (c : Cx G cs) h, Live c d → At c (lk binds) fp l h → Rets c c.Q (Out K) → Run c c.Q h body)
    (hbind : ∀ s, BindsTo s (fnX name qual params body cs [] dV kV doc pm an cdv ct) ⟨vals, []⟩ binds := by exact fun ω => BindsTo.of_eq rfl) (hloc : ∀ y ∈ binds, cs.names.lookup y.1 = some .local := by exact locs rfl) (hcell : autoParam (∀ x ∈ cs.names, x.2 ≠ .cell) aD)
    (hcl : autoParam (∀ n, cellsFrom n cs.names [] = []) aI) (hco : autoParam (cs.isCoroutine = false) aR) (hgen : autoParam (cs.isGenerator = false) aR) (hk : autoParam (cs.kind = .function) aR) : CtK G (.ref f) vals (d + 1) fp l K := by
  refine ⟨?_⟩
  intro A envs fs xs s R0 Y R S hQ
  obtain ⟨hp, g, dr, tk, os⟩ := s
  refine m_callK (K := K0.heap_1 G.w.params) (binds := binds) S G.X G.T.nolimit ho hcd R.depth (hbind _) hloc ?_ hcell hco hgen hk
  intro L' h' tk' F' N' l1
  let c : Cx G cs := ⟨A.deeper (envX qual cs L' f cdv []), qual, f, cdv, L', g, dr, os, envs, fs, xs, l, fun v s' => R0 (.ok (.ret v)) s', fun e s' => R0 (.error e) s'⟩
  have he : c.env = envX qual cs L' f cdv [] := by show envX qual cs L' f cdv (cellsFrom (L' + 1) cs.names []) = _; rw [hcl]
  have := (go c h' ⟨by rw [he]; exact Around.frames_deeper (Ar.frames Y), Ar.frs Y, Y.free, R.deeper, hk⟩ ⟨F', N', S.apart, Gro.refl _ _⟩
    (fun {v m fp' l' h''} tk q W => hQ v fp' l' h'' tk q (Has.back W.F W.N W.Z) W.G)).go tk'
  rw [he] at this
  refine wpAny_mono this (fun f s' q => ?_) fun e s' q => ?_
  · cases f <;> exact q
  · unfold Cx.E at q
    rw [he] at q
    exact q
theorem run_done (R : Rets c c.Q P) (W : At c m fp l h) (q : P .none fp l) : Run c c.Q h [] := ⟨fun tk => wpAny_execs_nil (R tk q W)⟩
theorem made_at {dx : Addr} {oq : Obj} {l' : Led} {h' : Heap} (W : At c m fp l h) (F' : Fr G.h₀ c.L h' m) (N' : News G.h₀ c.L h' ([] ++ (fp ++ (c.fs ++ (c.xs ++ ([(dx, oq)] ++ (l' ++ l))))))) (hl' : ∀ q ∈ l', q.1 ≠ dx)
    (n1 : ∀ p ∈ fp ++ (c.fs ++ (c.xs ++ l)), p.1 ≠ dx) (n2 : ∀ q ∈ l', ∀ p ∈ fp ++ (c.fs ++ (c.xs ++ l)), p.1 ≠ q.1) : At c m ((dx, oq) :: fp) (l' ++ l) h' := by
  have N2 : News G.h₀ c.L h' (((dx, oq) :: fp) ++ (c.fs ++ (c.xs ++ (l' ++ l)))) := News.sub N' fun p hp => by
    simp only [List.mem_append, List.nil_append, List.mem_cons, List.cons_append, List.not_mem_nil, or_false] at hp ⊢
    rcases hp with hp | hp | hp | hp | hp | hp <;> simp [hp]
  have far : ∀ q ∈ l' ++ (c.xs ++ l), q.1 ≠ dx := fun q hq => by
    rcases List.mem_append.mp hq with hq | hq
    · exact hl' q hq
    · exact n1 q (List.mem_append_right _ (List.mem_append_right _ hq))
  have sh : ∀ q ∈ c.xs ++ (l' ++ l), q ∈ l' ++ (c.xs ++ l) := fun q hq => by
    simp only [List.mem_append] at hq ⊢
    rcases hq with hq | hq | hq <;> simp [hq]
  have apx : ∀ p ∈ ((dx, oq) :: fp) ++ c.fs, ∀ q ∈ c.xs ++ (l' ++ l), q.1 ≠ p.1 := fun p hp q hq => by
    have hp' : p = (dx, oq) ∨ p ∈ fp ++ c.fs := by
      simp only [List.mem_append, List.mem_cons] at hp ⊢
      rcases hp with (hp | hp) | hp <;> simp [hp]
    rcases hp' with rfl | hp'
    · exact far q (sh q hq)
    · rcases List.mem_append.mp (sh q hq) with hq' | hq'
      · refine (n2 q hq' p ?_).symm
        simp only [List.mem_append] at hp' ⊢
        rcases hp' with hp' | hp' <;> simp [hp']
      · exact W.Z.ap p hp' q hq'
  have apf : ∀ p ∈ (dx, oq) :: fp, ∀ q ∈ c.fs, q.1 ≠ p.1 := fun p hp q hq => by
    rcases List.mem_cons.mp hp with rfl | hp
    · exact n1 q (List.mem_append_right _ (List.mem_append_left _ hq))
    · exact W.Z.apf p hp q hq
  have dist : ((dx, oq) :: fp).Pairwise fun p q => p.1 ≠ q.1 := List.pairwise_cons.mpr ⟨fun q hq => (n1 q (List.mem_append_left _ hq)).symm, W.Z.dist⟩
  have gro : Gro c.xs l (l' ++ l) := ⟨fun p hp => List.mem_append_right _ hp, fun p hp => by
    rcases List.mem_append.mp hp with hp | hp
    · exact .inr fun q hq => (n2 p hp q (List.mem_append_right _ (List.mem_append_right _ (List.mem_append_left _ hq)))).symm
    · exact .inl hp⟩
  exact ⟨F', N2, ⟨apx, apf, dist⟩, W.G.trans gro⟩
theorem make_at {fI : Addr} {vs : List Value} {KI : Addr → Addr → Post → Prop} {P : Addr → Addr → Led → Led → Prop} (V : Live c d) (W : At c m fp l h)
    (hm : makesIn (K0.heap_1 G.w.params) C = true) (hi : findIn (K0.heap_1 G.w.params) (.ref C) "__init__" = some (some (.ref fI))) (hfi : isFn (K0.heap_1 G.w.params) (.ref fI) = true)
    (D : ∀ x dx, dx < x → CtK G (.ref fI) (.ref x :: vs) d' [(dx, dictOf [] 0)] [(x, instObj C dx)] (KI x dx)) (conv : ∀ x dx, KI x dx fun r fp' l' => r = .none ∧ fp'.map (·.1) = [dx] ∧ (∀ q ∈ l', q.1 ≠ dx) ∧ P x dx fp' l')
    (k : ∀ x dx fp' l' h', P x dx fp' l' → At c m (fp' ++ fp) (l' ++ l) h' → (∀ q ∈ l, q.1 ≠ x ∧ q.1 ≠ dx) → ∀ tk, Q (.ref x) (c.S h' tk)) (hxl : ∀ x dx fp' l', P x dx fp' l' → ∃ o, (x, o) ∈ l') (hd : autoParam (d' + 1 ≤ d) aD) : ∀ tk, wpAny G.M c.A (call (.ref C) vs) Q c.E (c.S h tk) := by
  intro tk
  refine inst_make (s := c.S h tk) (loc := []) (P := fun x dx fp' l' => fp'.map (·.1) = [dx] ∧ (∀ q ∈ l', q.1 ≠ dx) ∧ P x dx fp' l') W.F G.X W.N V.fr rfl V.hk V.Fs V.hh (V.room.mono hd) W.Z zl_nil hm hi hfi ?_ ?_
  · intro x dx lt A envs fs xs s R0 Y R S hQ
    exact (D x dx lt).go Y R S fun v fp' l' h' tk q H g => hQ v fp' l' h' tk (by obtain ⟨a, b, c, e⟩ := q _ (conv x dx); exact ⟨a, b, b, c, e⟩) H g
  · intro x dx fp' l' h' tk' hP F' N' Z' G' hnew
    obtain ⟨oq, rfl⟩ := one_of hP.1
    obtain ⟨ob, hob⟩ := hxl x dx _ l' hP.2.2
    have n1 : ∀ p ∈ fp ++ (c.fs ++ (c.xs ++ l)), p.1 ≠ dx := fun p hp => hnew (dx, oq) (List.mem_append_left _ List.mem_cons_self) p hp
    have n2 : ∀ q ∈ l', ∀ p ∈ fp ++ (c.fs ++ (c.xs ++ l)), p.1 ≠ q.1 := fun q hq p hp => hnew q (List.mem_append_right _ hq) p hp
    exact k x dx _ l' h' hP.2.2 (made_at W F' N' hP.2.1 n1 n2) (fun q hq => ⟨n2 (x, ob) hob q (by simp [hq]), n1 q (by simp [hq])⟩) tk'
end
end
section --N15
open PySem PySem.W PyProof.Rows PySem.Calls PySem.Spec PySem.SeqAt
set_option maxHeartbeats 400000
section
variable {G : Gl} {cs : Scope} {c : Cx G cs} {m : Str → Option Value} {fp fp' l f1 f2 : Led} {h : Heap} {d d' : Nat} {vals : List Value} {K : Post → Prop} {fn : Value} {Q : Value → Shared → Prop}
theorem At.perm (W : At c m fp l h) (hp : fp.Perm fp') : At c m fp' l h :=
  ⟨W.F, News.sub W.N fun q hq => by
    rcases List.mem_append.mp hq with hq | hq
    · exact List.mem_append_left _ (hp.mem_iff.mpr hq)
    · exact List.mem_append_right _ hq, ⟨fun q hq => W.Z.ap q (by
    rcases List.mem_append.mp hq with hq | hq
    · exact List.mem_append_left _ (hp.mem_iff.mpr hq)
    · exact List.mem_append_right _ hq), fun q hq => W.Z.apf q (hp.mem_iff.mpr hq), (hp.pairwise_iff (fun h => Ne.symm h)).mp W.Z.dist⟩, W.G⟩
theorem Ap.aside {fs X : Led} (Z : Ap (f1 ++ f2) fs X) : Ap f2 fs (f1 ++ X) := by
  have hd := List.pairwise_append.mp Z.dist
  refine ⟨fun p hp q hq => ?_, fun p hp => Z.apf p (List.mem_append_right _ hp), hd.2.1⟩
  rcases List.mem_append.mp hq with hq | hq
  · rcases List.mem_append.mp hp with hp | hp
    · exact hd.2.2 q hq p hp
    · exact (Z.apf q (List.mem_append_left _ hq) p hp).symm
  · refine Z.ap p ?_ q hq
    rcases List.mem_append.mp hp with hp | hp
    · exact List.mem_append_left _ (List.mem_append_right _ hp)
    · exact List.mem_append_right _ hp
theorem Ap.again {fs xs l l' f2' fs' : Led} (Z : Ap (f1 ++ f2) fs (xs ++ l)) (Z' : Ap f2' fs' ((f1 ++ xs) ++ l')) (g : Gro (f1 ++ xs) l l') (hfs : ∀ q ∈ fs', ∃ p ∈ fs, p.1 = q.1) : Ap (f1 ++ f2') fs' (xs ++ l') := by
  have hd := List.pairwise_append.mp Z.dist
  have ml : ∀ q ∈ xs ++ l', q ∈ (f1 ++ xs) ++ l' := fun q hq => by
    rcases List.mem_append.mp hq with hq | hq
    · exact List.mem_append_left _ (List.mem_append_right _ hq)
    · exact List.mem_append_right _ hq
  have a1 : ∀ p ∈ f1, ∀ q ∈ xs ++ l', q.1 ≠ p.1 := fun p hp q hq => by
    rcases List.mem_append.mp hq with hq | hq
    · exact Z.ap p (List.mem_append_left _ (List.mem_append_left _ hp)) q (List.mem_append_left _ hq)
    · rcases g.new q hq with z | z
      · exact Z.ap p (List.mem_append_left _ (List.mem_append_left _ hp)) q (List.mem_append_right _ z)
      · exact z p (List.mem_append_left _ hp)
  refine ⟨fun p hp q hq => ?_, fun p hp q hq => ?_, List.pairwise_append.mpr ⟨hd.1, Z'.dist, fun p hp q hq => Z'.ap q (List.mem_append_left _ hq) p (List.mem_append_left _ (List.mem_append_left _ hp))⟩⟩
  · rcases List.mem_append.mp hp with hp | hp
    · rcases List.mem_append.mp hp with hp | hp
      · exact a1 p hp q hq
      · exact Z'.ap p (List.mem_append_left _ hp) q (ml q hq)
    · exact Z'.ap p (List.mem_append_right _ hp) q (ml q hq)
  · rcases List.mem_append.mp hp with hp | hp
    · exact fun e => Z'.ap q (List.mem_append_right _ hq) p (List.mem_append_left _ (List.mem_append_left _ hp)) e.symm
    · exact Z'.apf p hp q hq
theorem aside_sub {fs xs l : Led} : ∀ q ∈ [] ++ (f2 ++ (fs ++ ((f1 ++ xs) ++ l))), q ∈ (f1 ++ f2) ++ (fs ++ (xs ++ l)) := fun q hq => by
  simp only [List.nil_append, List.mem_append] at hq ⊢
  rcases hq with hq | hq | (hq | hq) | hq <;> simp [hq]
theorem again_sub {fs xs l : Led} : ∀ q ∈ (f1 ++ f2) ++ (fs ++ (xs ++ l)), q ∈ f2 ++ (fs ++ ((f1 ++ xs) ++ l)) := fun q hq => by
  simp only [List.mem_append] at hq ⊢
  rcases hq with (hq | hq) | hq | hq | hq <;> simp [hq]
theorem Gro.less {xs l l' : Led} (g : Gro (f1 ++ xs) l l') : Gro xs l l' := ⟨g.sub, fun q hq => (g.new q hq).imp id fun z x hx => z x (List.mem_append_right _ hx)⟩
theorem useF {E : Value → Shared → Prop} (V : Live c d) (W : At c m (f1 ++ f2) l h) (Cl : Ct G fn vals d' f2 l K NoX) (k : K fun v f2' l' => ∀ h', Sub l l' → At c m (f1 ++ f2') l' h' → ∀ tk, Q v (c.S h' tk)) (hd : autoParam (d' ≤ d) aD) :
    ∀ tk, wpAny G.M c.A (call fn vals) Q E (c.S h tk) := fun tk =>
  Does.use (s := c.S h tk) (loc := []) (xs := f1 ++ c.xs) Cl.go W.F (News.sub W.N aside_sub) V.fr rfl V.hk V.Fs V.hh (V.room.mono hd) (by rw [List.append_assoc]; exact W.Z.aside) zl_nil
    (fun v f2' l' h' tk' q F' N' Z' g => q _ k h' g.sub ⟨F', News.sub N' again_sub, W.Z.again Z' g fun q hq => ⟨q, hq, rfl⟩, W.G.trans g.less⟩ tk')
    fun e C fp' oL' fs' l' h' tk' q => (q (fun ω ω ω => False) trivial).elim
end
end
section --A1
open PySem PySem.W PyProof.Rows PySem.Calls PySem.Spec PyProof.V PySem.SeqAt
set_option maxHeartbeats 400000
section
variable {G : Gl} {a : Addr} {tag : Str} {t tw : Tok} {v : Value} {what : Str} {l fp : Led}
theorem name_of_ok (ha : TupIn l a [.str tag t, v]) (hwl : what.length ≤ 64) :
    Ct G (.ref 786) [.ref a, .str what tw] 4 fp l (fun R => tag = "sym" → R v fp l) (fun R => tag ≠ "sym" → R (.ref 67) fp l) := by
  refine ent (binds := [("item", .ref a), ("what", .str what tw)]) (by k_is) (by k_is) fun c h V W R EX => ?_
  refine run_if (te_neS (ev_itemT W (ev_loc W rfl) ha rfl) ev_str) (fun hb => ?_) fun hb => ?_
  · exact run_raise V W (.inl rfl) (by k_is) (by k_is) (es_join (js_str (ev_locT W rfl) (by lia) (js_lit js_nil))) EX fun R k => k (bne_iff_ne.mp hb)
  · exact run_ret R (ev_item W (ev_loc W rfl) ha rfl) W fun ω R k => k (bne_eq_false_iff_eq.mp hb)
theorem number_of_ok (ha : TupIn l a [.str tag t, v]) (hwl : what.length ≤ 64) :
    Ct G (.ref 793) [.ref a, .str what tw] 4 fp l (fun R => tag = "num" → R v fp l) (fun R => tag ≠ "num" → R (.ref 67) fp l) := by
  refine ent (binds := [("item", .ref a), ("what", .str what tw)]) (by k_is) (by k_is) fun c h V W R EX => ?_
  refine run_if (te_neS (ev_itemT W (ev_loc W rfl) ha rfl) ev_str) (fun hb => ?_) fun hb => ?_
  · exact run_raise V W (.inl rfl) (by k_is) (by k_is) (es_join (js_str (ev_locT W rfl) (by lia) (js_lit js_nil))) EX fun R k => k (bne_iff_ne.mp hb)
  · exact run_ret R (ev_item W (ev_loc W rfl) ha rfl) W fun ω R k => k (bne_eq_false_iff_eq.mp hb)
theorem list_in_ok (ha : TupIn l a [.str tag t, v]) (hwl : what.length ≤ 64) :
    Ct G (.ref 800) [.ref a, .str what tw] 4 fp l (fun R => tag = "list" → R v fp l) (fun R => tag ≠ "list" → R (.ref 67) fp l) := by
  refine ent (binds := [("item", .ref a), ("what", .str what tw)]) (by k_is) (by k_is) fun c h V W R EX => ?_
  refine run_if (te_neS (ev_itemT W (ev_loc W rfl) ha rfl) ev_str) (fun hb => ?_) fun hb => ?_
  · exact run_raise V W (.inl rfl) (by k_is) (by k_is) (es_join (js_str (ev_locT W rfl) (by lia) (js_lit js_nil))) EX fun R k => k (bne_iff_ne.mp hb)
  · exact run_ret R (ev_item W (ev_loc W rfl) ha rfl) W fun ω R k => k (bne_eq_false_iff_eq.mp hb)
end
theorem BankAt.out {l : Led} {ba sn sw bn : Addr} {R : Prop} (B : BankAt l ba sn sw bn) (k : ∀ dx es n, (ba, instObj 621 dx) ∈ l → (dx, dictOf es n) ∈ l → getL "sort_names" es = some (some (.ref sn)) → getL "sort_widths" es = some (some (.ref sw)) → getL "bv_numbers" es = some (some (.ref bn)) →
    getL "bv_sort" es = some none → getL "width_of" es = some none → getL "declare_sort" es = some none → getL "find_bv_sort" es = some none → R) : R := by
  obtain ⟨⟨dx, es, n, h1, h2, h3, h4, h5, h6, h7, h8, h9⟩, _⟩ := B
  exact k dx es n h1 h2 h3 h4 h5 h6 h7 h8 h9
theorem BankSt.out {w : World} {sn sw bn : Addr} {σ : Bk} {fp : Led} {R : Led → Prop} (B : BankSt w sn sw bn σ fp) (k : ∀ an kn aw kw ob, an.size = σ.widths.length → IntsAre aw.toList σ.widths → ob.IsDictOf (PySem.intKind PG w) σ.tab → σ.Ok → R [(sn, listOf an kn), (sw, listOf aw kw), (bn, ob)]) : R fp := by
  obtain ⟨on, ow, ob, rfl, ⟨⟨an, kn, rfl, h1⟩, ⟨aw, kw, rfl, h2⟩, h3⟩, h4⟩ := B
  exact k an kn aw kw ob h1 h2 h3 h4
theorem BankSt.of {w : World} {sn sw bn : Addr} {σ : Bk} {an aw : Array Value} {kn kw : Nat} {ob : Obj} (h1 : an.size = σ.widths.length) (h2 : IntsAre aw.toList σ.widths) (h3 : ob.IsDictOf (PySem.intKind PG w) σ.tab) (h4 : σ.Ok) : BankSt w sn sw bn σ [(sn, listOf an kn), (sw, listOf aw kw), (bn, ob)] :=
  ⟨_, _, _, rfl, ⟨⟨_, _, rfl, h1⟩, ⟨_, _, rfl, h2⟩, h3⟩, h4⟩
theorem Bk.Ok.at {σ : Bk} (h : σ.Ok) {w : Int} {R : Prop} (hv : (valueAt σ.tab w).isSome = true) (k : ∀ i t, valueAt σ.tab w = some (.int i t) → 1 ≤ w → w ≤ 4096 → R) : R := by
  obtain ⟨v, hv⟩ := Option.isSome_iff_exists.mp hv
  obtain ⟨e1, e2, i, t, rfl, e3, e4⟩ := h.ent _ (valueAt_mem hv)
  exact k i t hv e1 e2
theorem bv_sort_ok {G : Gl} {ba sn sw bn : Addr} {σ : Bk} {wd : Int} {tw : Tok} {l fp : Led} (B : BankAt l ba sn sw bn) (S : BankSt G.w sn sw bn σ fp) :
    Ct G (.ref 527) [.ref ba, .int wd tw] 4 fp l (fun R => ∀ σ' i t fp', BankSt G.w sn sw bn σ' fp' → σ.Le σ' → 1 ≤ wd → wd ≤ 4096 → σ'.Bits wd i → R (.int i t) fp' l)
      (fun R => (∀ fp', BankSt G.w sn sw bn σ fp' → wd < 1 → R (.ref 67) fp' l) ∧ (∀ fp', BankSt G.w sn sw bn σ fp' → 4096 < wd → R (.ref 86) fp' l)) := by
  refine S.out (R := fun fp => Ct G _ _ _ fp l _ _) ?_
  intro an kn aw kw ob h1 h2 h3 h4
  refine B.out fun dx es n b1 b2 g1 g2 g3 g4 g5 g6 g7 => ?_
  refine ent (binds := [("self", .ref ba), ("width", .int wd tw)]) (by k_is) (by k_is) fun c h V W R EX => ?_
  refine run_if (te_ltI (ev_locT W rfl) ev_int) (fun hb => ?_) fun hb => ?_
  · exact run_raise V W (.inl rfl) (by k_is) (by k_is) es_lit EX fun R k => k.1 _ (.of h1 h2 h3 h4) (of_decide_eq_true hb)
  refine run_if (te_gtI (ev_locT W rfl) (ev_globT W (by k_is))) (fun hb2 => ?_) fun hb2 => ?_
  · exact run_raise V W (.inr rfl) (by k_is) (by k_is) (es_join (js_lit (js_int (ev_globT W (by k_is)) (by decide) (js_lit js_nil)))) EX fun R k => k.2 _ (.of h1 h2 h3 h4) (of_decide_eq_true hb2)
  refine run_if (te_notinI W (ev_locT W rfl) (ev_attr W (ev_loc W rfl) b1 b2 g3 (by k_is) (by k_is) (by k_is) (by k_is)) (W.inf (.tail _ (.tail _ (.head _)))) h3 B.lo) (fun hb3 => ?_) fun hb3 => ?_
  · have hv : valueAt σ.tab wd = none := by simpa using hb3
    have hlen := h4.wlen
    have htab := h4.bound
    have w1 : 1 ≤ wd := by simpa using hb
    have w2 : wd ≤ 4096 := by simpa using hb2
    refine run_appEs W (ev_attr W (ev_loc W rfl) b1 b2 g1 (by k_is) (by k_is) (by k_is) (by k_is)) .head (by lia) (es_join (js_lit (js_int (ev_locT W rfl) (by lia) (js_lit js_nil)))) fun y t1 h1' W1 => ?_
    refine run_app W1 (ev_attr W1 (ev_loc W1 rfl) b1 b2 g2 (by k_is) (by k_is) (by k_is) (by k_is)) (.tail .head) (by rw [← Array.length_toList, h2.length]; lia) (ev_locT W1 rfl) fun t2 h2' W2 => ?_
    refine run_setI W2 (ev_sub (ev_lenL W2 (ev_attr W2 (ev_loc W2 rfl) b1 b2 g1 (by k_is) (by k_is) (by k_is) (by k_is)) (W2.inf (.head _)) (by rw [Array.size_push]; lia) (by k_is)) ev_int) (ev_attr W2 (ev_loc W2 rfl) b1 b2 g3 (by k_is) (by k_is) (by k_is) (by k_is)) (ev_locT W2 rfl) (.tail (.tail .head)) h3 (by lia) fun t3 h3' o' hd' W3 => run_next ?_
    rw [show ((an.push (Value.str y t1)).size : Int) - 1 = σ.widths.length from by simp [h1]] at hd'
    have oo := h4.more (t := t3) w1 w2 hv
    refine run_ret R (ev_dictI W3 (ev_attr W3 (ev_loc W3 rfl) b1 b2 g3 (by k_is) (by k_is) (by k_is) (by k_is)) (ev_locT W3 rfl) (W3.inf (.tail _ (.tail _ (.head _)))) hd' (by rw [stored_new hv]; exact valueAt_last hv)) W3 fun ω R k => ?_
    exact k _ _ _ _ (.of (by simp [h1]) (ints_push h2) hd' oo.1) oo.2.1 w1 w2 oo.2.2
  · refine h4.at (w := wd) (by simpa using hb3) fun i t hv e1 e2 => ?_
    exact run_ret R (ev_dictI W (ev_attr W (ev_loc W rfl) b1 b2 g3 (by k_is) (by k_is) (by k_is) (by k_is)) (ev_locT W rfl) (W.inf (.tail _ (.tail _ (.head _)))) h3 hv) W fun ω R k => k σ i t _ (.of h1 h2 h3 h4) (.refl σ) e1 e2 ⟨t, hv⟩
end
section --A2
open PySem PySem.W PyProof.Rows PySem.Calls PySem.Spec PyProof.V PySem.SeqAt
set_option maxHeartbeats 400000
theorem Rdr.out {w : World} {l : Led} {ra ba sya so sn sw bn : Addr} {tab : List Row} {dn : Str → Option Int} {R : Prop} (Rd : Rdr w l ra ba sya so sn sw bn tab dn)
    (k : ∀ dx es n, (ra, instObj 850 dx) ∈ l → (dx, dictOf es n) ∈ l → getL "bank" es = some (some (.ref ba)) → getL "symbols" es = some (some (.ref sya)) → getL "sort_under" es = some none → getL "sort_named" es = some none → getL "entry_of" es = some none → getL "sort_applied" es = some none →
      ∀ dy ey ny, (sya, instObj 775 dy) ∈ l → (dy, dictOf ey ny) ∈ l → getL "sorts" ey = some (some (.ref so)) → ∀ oso kvs, (so, oso) ∈ l → oso.IsDictOf (PySem.strKind PG w) kvs → (so == sysModules) = false → SortsIn l kvs tab dn → R) : R := by
  obtain ⟨_, ⟨dx, es, n, a1, a2, a3, a4, _, a5, a6, a7, a8⟩, ⟨dy, ey, ny, b1, b2, b3⟩, ⟨o, kvs, c1, c2, c3, c4⟩⟩ := Rd
  exact k dx es n a1 a2 a3 a4 a5 a6 a7 a8 dy ey ny b1 b2 b3 o kvs c1 c2 c3 c4
theorem SortsIn.miss {l : Led} {kvs : List (Str × Value)} {tab : List Row} {dn : Str → Option Int} {s : Str} (S : SortsIn l kvs tab dn) (h : tab.find? (fun r => decide (r.name = s)) = none) : valueAt kvs s = none := by
  have := S s
  rw [h] at this
  exact this
theorem SortsIn.hit {l : Led} {kvs : List (Str × Value)} {tab : List Row} {dn : Str → Option Int} {s : Str} {r : Row} {R : Prop} (S : SortsIn l kvs tab dn) (h : tab.find? (fun r => decide (r.name = s)) = some r)
    (k : r.params.length ≤ 2 → ∀ v i, valueAt kvs s = some v → EntryIn l v r i → (r.body = none → dn s = some i) → R) : R := by
  have := S s
  rw [h] at this
  obtain ⟨a, v, i, b, c, d⟩ := this
  exact k a v i b c d
theorem entry_of_ok {G : Gl} {ra ba sya so sn sw bn : Addr} {tab : List Row} {dn : Str → Option Int} {s : Str} {t : Tok} {l fp : Led} (Rd : Rdr G.w l ra ba sya so sn sw bn tab dn) (hs : s.length ≤ 64) :
    Ct G (.ref 840) [.ref ra, .str s t] 4 fp l (fun R => ∀ r v i, tab.find? (fun r => decide (r.name = s)) = some r → r.params.length ≤ 2 → EntryIn l v r i → (r.body = none → dn s = some i) → R v fp l) (fun R => tab.find? (fun r => decide (r.name = s)) = none → R (.ref 67) fp l) := by
  refine Rd.out fun dx es n a1 a2 a3 a4 ω ω ω ω dy ey ny b1 b2 b3 oso kvs c1 c2 c3 c4 => ?_
  refine ent (binds := [("self", .ref ra), ("name", .str s t)]) (by k_is) (by k_is) fun c h V W R EX => ?_
  have E1 {p1 p2 p3} := ev_attr2 (p := p1) (p'' := p2) (p' := p3) W (ev_attr W (ev_loc (x := "self") W rfl) a1 a2 a4 (by k_is) (by k_is) (by k_is) (by k_is)) b1 b2 b3 (by k_is) (by k_is) (by k_is) (by k_is)
  refine run_if (te_notinS W (ev_locT W rfl) E1 (W.inl c1) c2 c3) (fun hb => ?_) fun hb => ?_
  · refine run_raise V W (.inl rfl) (by k_is) (by k_is) (es_join (js_lit (js_str (ev_locT W rfl) (by lia) (js_lit js_nil)))) EX fun R k => k ?_
    cases hf : tab.find? (fun r => decide (r.name = s)) with
    | none => rfl
    | some r => exact c4.hit hf fun ω v i hv ω ω => by rw [hv] at hb; cases hb
  · cases hf : tab.find? (fun r => decide (r.name = s)) with
    | none => rw [c4.miss hf] at hb; cases hb
    | some r => exact c4.hit hf fun h1 v i hv h2 h3 => run_ret R (ev_dictS W E1 (ev_locT W rfl) (W.inl c1) c2 hv) W fun ω R k => k r v i hf h1 h2 h3
noncomputable def UK (G : Gl) (sn sw bn : Addr) (dn : Str → Option Int) (σ : Bk) (res : Option Gr) : Post → Prop := fun R => ∀ σ' g i t fp' l', BankSt G.w sn sw bn σ' fp' → σ.Le σ' → res = some g → Num σ' dn g i → R (.int i t) fp' l'
noncomputable def UX (G : Gl) (sn sw bn : Addr) (σ : Bk) (res : Option Gr) (it : It) : Post → Prop := fun R => ∀ σ' C fp' l', BankSt G.w sn sw bn σ' fp' → σ.Le σ' → res = none → (C = 67 ∨ C = 86) → (∀ wd, it = .list [.sym "_", .sym "BitVec", .num wd] → (C = 67 ∧ wd < 1 ∨ C = 86 ∧ 4096 < wd)) → R (.ref C) fp' l'
noncomputable def UnderC (G : Gl) (n : Nat) : Prop :=
  ∀ (κ : Str → Option Gr) (it : It) (res : Option Gr) (tab : List Row) (dn : Str → Option Int), readR tab n κ it = some res →
  ∀ {ra ba sya so sn sw bn kd : Addr} {v : Value} {σ : Bk} {l fp : Led}, Rdr G.w l ra ba sya so sn sw bn tab dn → IsIt l v it → KnownIn G.w l σ dn kd κ → BankSt G.w sn sw bn σ fp →
    Ct G (.ref 826) [.ref ra, v, .ref kd] (6 * n) fp l (UK G sn sw bn dn σ res) (UX G sn sw bn σ res it)
theorem EntryIn.out {l : Led} {v : Value} {r : Row} {i : Int} {R : Value → Prop} (h : EntryIn l v r i) (k : ∀ ea dx es n pa ps t bv, (ea, instObj 642 dx) ∈ l → (dx, dictOf es n) ∈ l → getL "sort" es = some (some (.int i t)) → getL "params" es = some (some (.ref pa)) → TupIn l pa ps → Strs ps r.params → getL "body" es = some (some bv) → BodyIn l bv r.body → R (.ref ea)) : R v := by
  obtain ⟨ea, dx, es, n, pa, ps, t, bv, rfl, h2, h3, h4, h5, h6, h7, h8, h9⟩ := h.ex
  exact k ea dx es n pa ps t bv h2 h3 h4 h5 h6 h7 h8 h9
theorem Strs.get2 {ps : List Value} {rs : List Str} (h : Strs ps rs) : ∀ {j : Nat} {v : Value}, ps[j]? = some v → ∃ x t, v = .str x t ∧ rs[j]? = some x := by
  induction h with
  | nil => intro j v h; simp at h
  | @cons x t vs xs _ ih =>
    intro j v h
    cases j with
    | zero => simp at h; exact ⟨x, t, h.symm, by simp⟩
    | succ j => simp at h; simpa using ih h
noncomputable def NumsAre (σ : Bk) (dn : Str → Option Int) (gs : List Gr) (vs : List Value) : Prop := vs.length = gs.length ∧ ∀ (j : Nat) g, gs[j]? = some g → ∃ i t, vs[j]? = some (.int i t) ∧ Num σ dn g i
noncomputable def TabJ (w : World) (σ : Bk) (dn : Str → Option Int) (kd : Addr) (fp : Led) (prs : List Str) (gs : List Gr) (j : Nat) (fp' : Led) : Prop :=
  ∃ o kvs, fp' = (kd, o) :: fp ∧ o.IsDictOf (PySem.strKind PG w) kvs ∧ kvs.length ≤ j ∧ ∀ x, match ((prs.zip gs).take j).reverse.lookup x with | none => valueAt kvs x = none | some g => ∃ i t, valueAt kvs x = some (.int i t) ∧ Num σ dn g i
theorem TabJ.step {w : World} {σ : Bk} {dn : Str → Option Int} {kd : Addr} {fp : Led} {prs : List Str} {gs : List Gr} {j : Nat} {fp' : Led} {R : Prop} {ps vs : List Value} {v0 v1 : Value} (T : TabJ w σ dn kd fp prs gs j fp') (hst : Strs ps prs) (hn : NumsAre σ dn gs vs) (h0 : ps[j]? = some v0) (h1 : vs[j]? = some v1) (hz : vs.length ≤ 64)
    (k : ∀ o kvs px pt vi vt, fp' = (kd, o) :: fp → v0 = .str px pt → v1 = .int vi vt → o.IsDictOf (PySem.strKind PG w) kvs → kvs.length ≤ 100000 → (∀ o', o'.IsDictOf (PySem.strKind PG w) (stored kvs px (.int vi vt)) → TabJ w σ dn kd fp prs gs (j + 1) ((kd, o') :: fp)) → R) : R := by
  obtain ⟨o, kvs, rfl, ho, hlen, hKV⟩ := T
  obtain ⟨px, pt, rfl, hpx⟩ := hst.get2 h0
  have hj : j < gs.length := by
    have := (List.getElem?_eq_some_iff.mp h1).1
    have := hn.1
    lia
  obtain ⟨vi, vt, hvi, hnum⟩ := hn.2 j _ (List.getElem?_eq_getElem hj)
  obtain rfl : v1 = .int vi vt := Option.some.inj (h1.symm.trans hvi)
  have hvl := (List.getElem?_eq_some_iff.mp h1).1
  refine k o kvs px pt vi vt rfl rfl rfl ho (by lia) fun o' ho' => ⟨o', _, rfl, ho', Nat.le_trans (stored_length_le ..) (Nat.succ_le_succ hlen), fun x => ?_⟩
  have hz : (prs.zip gs)[j]? = some (px, gs[j]) := List.getElem?_zip_eq_some.mpr ⟨hpx, List.getElem?_eq_getElem hj⟩
  rw [List.take_add_one, hz, Option.toList_some, lookup_snoc, valueAt_stored]
  by_cases e : x = px
  · rw [if_pos e, if_pos e]; exact ⟨vi, vt, rfl, hnum⟩
  · rw [if_neg e, if_neg e]; exact hKV x
theorem TabJ.done {w : World} {σ : Bk} {dn : Str → Option Int} {kd : Addr} {fp : Led} {prs : List Str} {gs : List Gr} {j : Nat} {fp' l : Led} {R : Led → Prop} (T : TabJ w σ dn kd fp prs gs j fp') (hj : prs.length ≤ j) (lo : (kd == sysModules) = false) (k : ∀ o, KnownIn w ((kd, o) :: l) σ dn kd (fun x => (prs.zip gs).reverse.lookup x) → R ((kd, o) :: fp)) : R fp' := by
  obtain ⟨o, kvs, rfl, ho, hlen, hKV⟩ := T
  refine k o ⟨o, kvs, List.mem_cons_self, ho, lo, fun x => ?_⟩
  have := hKV x
  rwa [List.take_of_length_le (by simp; lia)] at this
theorem bne_ne {a b : Int} (h : (a != b) = true) : a ≠ b := by simpa using h
theorem bne_eqI {a b : Int} (h : (a != b) = false) : a = b := by simpa using h
theorem applied_ok {G : Gl} {n : Nat} (U : UnderC G n) {r : Row} {gs : List Gr} {res : Option Gr} {tab : List Row} {dn : Str → Option Int} (hp2 : r.params.length ≤ 2) (hg : gs.length ≤ 64)
    (hres : (if r.params.length = gs.length then (match r.body with | none => some (some (.decl r.name)) | some b => readR tab n (fun x => (r.params.zip gs).reverse.lookup x) b) else some none) = some res)
    {ra ba sya so sn sw bn aa : Addr} {ev : Value} {i : Int} {vs : List Value} {k : Nat} {t : Tok} {s : Str} {σ : Bk} {l fp : Led} {it : It} (Rd : Rdr G.w l ra ba sya so sn sw bn tab dn) (hev : EntryIn l ev r i) (hdn : r.body = none → dn r.name = some i)
    (haa : (aa, listOf vs.toArray k) ∈ l) (hvs : NumsAre σ dn gs vs) (hB : BankSt G.w sn sw bn σ fp) (hs : s.length ≤ 64) (hit : ∀ wd, it ≠ .list [.sym "_", .sym "BitVec", .num wd]) :
    Ct G (.ref 847) [.ref ra, .str s t, ev, .ref aa] (6 * n + 4) fp l (UK G sn sw bn dn σ res) (UX G sn sw bn σ res it) := by
  refine Rd.out fun dx es nn a1 a2 a3 a4 a5 ω ω ω dy ey ny b1 b2 b3 oso kvs c1 c2 c3 c4 => ?_
  refine hev.out (R := fun ev => Ct G (.ref 847) [.ref ra, .str s t, ev, .ref aa] _ _ _ _ _) fun ea edx ees en pa ps t1 bv q1 q2 q3 q4 q5 q6 q7 q8 => ?_
  have hps := q6.length
  have hvl := hvs.1
  refine ent (binds := [("self", .ref ra), ("name", .str s t), ("entry", .ref ea), ("args", .ref aa)]) (by k_is) (by k_is) fun c h V W R EX => ?_
  have E1 {p1 p2 p3} := ev_lenL (p := p1) (p' := p2) W (ev_loc (p := p3) (x := "args") W rfl) (W.inl haa) (by simp; lia) (by k_is)
  have E2 {p1 p2 p3 p4} := ev_lenT (p := p1) (p' := p2) W (ev_attr (p' := p4) W (ev_loc (p := p3) (x := "entry") W rfl) q1 q2 q4 (by k_is) (by k_is) (by k_is) (by k_is)) q5 (by lia) (by k_is)
  refine run_if (te_neI E1 E2) (fun hb => ?_) fun hb => ?_
  · rw [if_neg (fun z => bne_ne hb (by simp; lia))] at hres
    exact run_raise V W (.inl rfl) (by k_is) (by k_is) (es_join (js_lit (js_str (ev_locT W rfl) (by lia) (js_lit (js_int E2 (by lia) (js_lit (js_int E1 (by simp; lia) js_nil))))))) EX (fun R k => k σ 67 _ _ hB (.refl _) (Option.some.inj hres).symm (.inl rfl) fun wd e => absurd e (hit wd)) (hd := by lia)
  rw [if_pos (show r.params.length = gs.length by have := bne_eqI hb; simp at this; lia)] at hres
  have hlen : r.params.length = gs.length := by have := bne_eqI hb; simp at this; lia
  cases hbody : r.body with
  | none =>
    rw [hbody] at q8 hres
    obtain rfl : bv = .none := q8
    refine run_if (te_isN (ev_attr W (ev_loc W rfl) q1 q2 q7 (by k_is) (by k_is) (by k_is) (by k_is)) (.inl rfl)) (fun ω => ?_) fun hb2 => by cases hb2
    exact run_ret R.sq (ev_attr W (ev_loc W rfl) q1 q2 q3 (by k_is) (by k_is) (by k_is) (by k_is)) W fun ω R k => k σ _ _ _ _ _ hB (.refl _) (Option.some.inj hres).symm (hdn hbody)
  | some b =>
    rw [hbody] at q8 hres
    have q9 : IsIt l bv b := q8
    obtain ⟨ba', rfl⟩ : ∃ a, bv = .ref a := by cases q9 <;> exact ⟨_, rfl⟩
    refine run_if (te_isN (ev_attr W (ev_loc W rfl) q1 q2 q7 (by k_is) (by k_is) (by k_is) (by k_is)) (.inr ⟨_, rfl⟩)) (fun hb2 => by cases hb2) fun ω => ?_
    refine run_newdict W fun kd o h1 lo hd W1 => ?_
    refine run_forzip (J := fun j m' fp' => (m' "known" = some (.ref kd) ∧ m' "entry" = some (.ref ea) ∧ m' "self" = some (.ref ra)) ∧ TabJ G.w σ dn kd fp r.params gs j fp') V W1 (ev_attr W1 (ev_loc W1 rfl) q1 q2 q4 (by k_is) (by k_is) (by k_is) (by k_is)) q5 (ev_loc W1 rfl) haa (by lia) ⟨⟨rfl, rfl, rfl⟩, o, [], rfl, hd, Nat.le_refl _, fun x => rfl⟩ ?_ ?_ ?_ (by k_is)
    · rintro _ _ fp' ⟨_, o', _, rfl, _⟩; rfl
    · intro j v0 v1 m1 fp1 l1 h2 hv0 hv1 hj W2 sb
      refine hj.2.step q6 hvs hv0 hv1 (by lia) fun o2 kv px pt vi vt e1 e2 e3 ho hz kk => ?_
      subst e1 e2 e3
      exact run_setS W2 (ev_loc W2 rfl) (ev_loc W2 hj.1.1) (ev_locT W2 rfl) .head ho hz fun ω h3 o3 ho3 W3 => turn_end W3 ⟨hj.1, kk o3 ho3⟩
    · intro m' fp' h4 hj W4
      revert W4
      refine hj.2.done (l := l) (R := fun fp' => At c m' fp' l h4 → _) (by lia) lo fun o2 hK W4 => ?_
      have W5 := W4.settle
      have up : Sub l ((kd, o2) :: l) := Sub.cons (Sub.refl l)
      refine run_retX (meth_inst W5 (ev_loc W5 hj.1.2.2) (up _ a1) (up _ a2) a5 (by k_is) (by k_is) (by k_is) (by k_is) (xs_ev (ev_attr W5 (ev_loc W5 hj.1.2.1) (up _ q1) (up _ q2) q7 (by k_is) (by k_is) (by k_is) (by k_is)) fun ω => xs_ev (ev_loc W5 hj.1.1) fun ω => xs_nil fun tk => ⟨W5.K, useO V W5 (U _ b res tab dn hres (Rd.mono up) (q9.mono up) hK hB) EX ?_ ?_ (by lia) tk⟩))
      · exact fun σ' C fp' l' h1 h2 h3 h4 ω ω R k => k σ' C fp' l' h1 h2 h3 h4 fun wd e => absurd e (hit wd)
      · exact fun σ' g i t fp' l' h1 h2 h3 h4 h5 ω W6 tk => R tk (fun R k => k σ' g i t fp' l' h1 h2 h3 h4) W6
end
section --A3
open PySem PySem.W PyProof.Rows PySem.Calls PySem.Spec PyProof.V PySem.SeqAt
set_option maxHeartbeats 400000
theorem KnownIn.out {w : World} {l : Led} {σ : Bk} {dn : Str → Option Int} {kd : Addr} {κ : Str → Option Gr} {R : Prop} (K : KnownIn w l σ dn kd κ) (k : ∀ o kvs, (kd, o) ∈ l → o.IsDictOf (PySem.strKind PG w) kvs → (kd == sysModules) = false → (∀ s, κ s = none → valueAt kvs s = none) → (∀ s g, κ s = some g → ∃ i t, valueAt kvs s = some (.int i t) ∧ Num σ dn g i) → R) : R := by
  obtain ⟨o, kvs, h1, h2, h3, h4⟩ := K
  refine k o kvs h1 h2 h3 (fun s e => ?_) fun s g e => ?_
  · have := h4 s; rw [e] at this; exact this
  · have := h4 s; rw [e] at this; exact this
theorem readR_sym {tab : List Row} {n : Nat} {κ : Str → Option Gr} {s : Str} {res : Option Gr} (h : readR tab (n + 1) κ (.sym s) = some res) :
    (∀ g, κ s = some g → res = some g) ∧ (κ s = none → (s = "Bool" → res = some .bool) ∧ (s ≠ "Bool" → (s = "Int" → res = some .int) ∧ (s ≠ "Int" → (s = "Real" → res = some .real) ∧ (s ≠ "Real" → (tab.find? (fun r => decide (r.name = s)) = none → res = none) ∧
      ∀ r, tab.find? (fun r => decide (r.name = s)) = some r → (if r.params.length = ([] : List Gr).length then (match r.body with | none => some (some (.decl r.name)) | some b => readR tab n (fun x => (r.params.zip ([] : List Gr)).reverse.lookup x) b) else some none) = some res)))) := by
  unfold readR at h
  refine ⟨fun g e => ?_, fun e => ?_⟩
  · rw [e] at h; exact (Option.some.inj h).symm
  rw [e] at h
  dsimp only at h
  refine ⟨fun z => by rw [if_pos z] at h; exact (Option.some.inj h).symm, fun z => ?_⟩
  rw [if_neg z] at h
  refine ⟨fun z => by rw [if_pos z] at h; exact (Option.some.inj h).symm, fun z => ?_⟩
  rw [if_neg z] at h
  refine ⟨fun z => by rw [if_pos z] at h; exact (Option.some.inj h).symm, fun z => ?_⟩
  rw [if_neg z] at h
  refine ⟨fun z => by rw [z] at h; exact (Option.some.inj h).symm, fun r z => ?_⟩
  rw [z] at h
  have hnm : r.name = s := by simpa using List.find?_some z
  subst hnm
  dsimp only at h
  cases hp : r.params with
  | nil =>
    rw [hp] at h
    rw [if_pos (by rfl)]
    cases hb : r.body with
    | none => rw [hb] at h; exact h
    | some b => rw [hb] at h; exact h
  | cons a b => rw [hp] at h; rw [if_neg (by simp)]; exact h
theorem named_ok {G : Gl} {n : Nat} (U : UnderC G n) {κ : Str → Option Gr} {s : Str} {res : Option Gr} {tab : List Row} {dn : Str → Option Int} (hres : readR tab (n + 1) κ (.sym s) = some res)
    {ra ba sya so sn sw bn kd : Addr} {t : Tok} {σ : Bk} {l fp : Led} (Rd : Rdr G.w l ra ba sya so sn sw bn tab dn) (hs : s.length ≤ 64) (hK : KnownIn G.w l σ dn kd κ) (hB : BankSt G.w sn sw bn σ fp) :
    Ct G (.ref 833) [.ref ra, .str s t, .ref kd] (6 * n + 5) fp l (UK G sn sw bn dn σ res) (UX G sn sw bn σ res (.sym s)) := by
  have hr := readR_sym hres
  refine Rd.out fun dx es nn a1 a2 ω ω ω ω a5 a6 ω ω ω ω ω ω ω ω ω ω ω ω => hK.out fun ko kvs k1 k2 k3 k4 k5 => ?_
  refine ent (binds := [("self", .ref ra), ("name", .str s t), ("known", .ref kd)]) (by k_is) (by k_is) fun c h V W R EX => ?_
  refine run_if (te_inS W (ev_locT W rfl) (ev_loc W rfl) (W.inl k1) k2 k3) (fun hb => ?_) fun hb => ?_
  · cases hκ : κ s with
    | none => rw [k4 s hκ] at hb; cases hb
    | some g =>
      obtain ⟨i, t', g6, g7⟩ := k5 s g hκ
      exact run_ret R.sq (ev_dictS W (ev_loc W rfl) (ev_locT W rfl) (W.inl k1) k2 g6) W fun ω R k => k σ g i t' _ _ hB (.refl _) (hr.1 g hκ) g7
  have hκ : κ s = none := by
    cases hκ : κ s with
    | none => rfl
    | some g => obtain ⟨i, t', g6, g7⟩ := k5 s g hκ; rw [g6] at hb; cases hb
  replace hr := hr.2 hκ
  refine run_if (te_eqS (ev_locT W rfl) ev_str) (fun hb => ?_) fun hb => ?_
  · exact run_ret R.sq (ev_glob W (by k_is)) W fun ω R k => k σ .bool 0 _ _ _ hB (.refl _) (hr.1 (eq_of_beq hb)) rfl
  replace hr := hr.2 (ne_of_beq_false hb)
  refine run_if (te_eqS (ev_locT W rfl) ev_str) (fun hb => ?_) fun hb => ?_
  · exact run_ret R.sq (ev_glob W (by k_is)) W fun ω R k => k σ .int 1 _ _ _ hB (.refl _) (hr.1 (eq_of_beq hb)) rfl
  replace hr := hr.2 (ne_of_beq_false hb)
  refine run_if (te_eqS (ev_locT W rfl) ev_str) (fun hb => ?_) fun hb => ?_
  · exact run_ret R.sq (ev_glob W (by k_is)) W fun ω R k => k σ .real 2 _ _ _ hB (.refl _) (hr.1 (eq_of_beq hb)) rfl
  replace hr := hr.2 (ne_of_beq_false hb)
  refine run_retX (meth_inst W (ev_loc W rfl) a1 a2 a6 (by k_is) (by k_is) (by k_is) (by k_is) (xs_ev (ev_loc W rfl) fun ω => xs_ex (meth_inst W (ev_loc W rfl) a1 a2 a5 (by k_is) (by k_is) (by k_is) (by k_is) (xs_ev (ev_loc W rfl) fun ω => xs_nil fun tk => ⟨W.K, useO V W (entry_of_ok Rd hs) EX ?_ ?_ (by lia) tk⟩))))
  · exact fun hf ω R k => k σ 67 _ _ hB (.refl _) (hr.1 hf) (.inl rfl) fun wd e => by cases e
  · intro r ev i hf hp2 hev hdn h1 g1 W1 tk1
    refine args_ex (ex_list (xs_nil fun tk => newList_at W1 (sz_le rfl) fun la h2 W2 tk2 => args_nil ⟨W2.K, ?_⟩))
    have up : Sub l ((la, listOf #[] 0) :: l) := Sub.cons (Sub.refl l)
    have hnm : r.name = s := by simpa using List.find?_some hf
    subst hnm
    refine useO V W2 (applied_ok U (gs := []) (vs := []) (k := 0) hp2 (Nat.zero_le _) (hr.2 r hf) (Rd.mono up) (hev.mono up) hdn List.mem_cons_self ⟨rfl, fun j g h => by simp at h⟩ hB hs (it := .sym r.name) fun wd e => by cases e) EX (fun σ' C fp' l' h1 h2 h3 h4 h5 ω => ?_) (fun σ' g i t fp' l' h1 h2 h3 h4 h5 ω W6 tk => ?_) (by lia) tk2
    · exact fun R k => k σ' C fp' l' h1 h2 h3 h4 h5
    · exact R tk (fun R k => k σ' g i t fp' l' h1 h2 h3 h4) W6
end
section --A4
open PySem PySem.W PyProof.Rows PySem.Calls PySem.Spec PyProof.V PySem.SeqAt
set_option maxHeartbeats 400000
structure ReadL (tab : List Row) (n : Nat) (κ : Str → Option Gr) (xs : List It) (res : Option Gr) : Prop where
  num : ∀ w, bitsOf xs = some (.num w) → (1 ≤ w ∧ w ≤ 4096 → res = some (.bits w)) ∧ (¬ (1 ≤ w ∧ w ≤ 4096) → res = none)
  bad : ∀ x, bitsOf xs = some x → (∀ w, x ≠ .num w) → res = none
  short : bitsOf xs = none → (xs.length < 2 ∨ headIs "_" xs = true) → res = none
  head : bitsOf xs = none → ∀ x r, xs = x :: r → (∀ s, x ≠ .sym s) → res = none
  miss : bitsOf xs = none → ∀ s r, xs = .sym s :: r → s ≠ "_" → tab.find? (fun r => decide (r.name = s)) = none → res = none
  app : bitsOf xs = none → ∀ s x r, xs = .sym s :: x :: r → s ≠ "_" → ∀ row, tab.find? (fun r => decide (r.name = s)) = some row → ∃ ra, readAll (readR tab n κ) (x :: r) = some ra ∧ (ra = none → res = none) ∧
    ∀ gs, ra = some gs → (if row.params.length = gs.length then (match row.body with | none => some (some (.decl row.name)) | some b => readR tab n (fun x => (row.params.zip gs).reverse.lookup x) b) else some none) = some res
theorem readR_list {tab : List Row} {n : Nat} {κ : Str → Option Gr} {xs : List It} {res : Option Gr} (h : readR tab (n + 1) κ (.list xs) = some res) : ReadL tab n κ xs res := by
  unfold readR at h
  constructor
  · intro w e
    rw [e] at h
    dsimp only at h
    exact ⟨fun z => by rw [if_pos z] at h; exact (Option.some.inj h).symm, fun z => by rw [if_neg z] at h; exact (Option.some.inj h).symm⟩
  · intro x e hx
    rw [e] at h
    cases x with
    | num w => exact absurd rfl (hx w)
    | sym s => exact (Option.some.inj h).symm
    | key s => exact (Option.some.inj h).symm
    | list s => exact (Option.some.inj h).symm
  · intro e z
    rw [e] at h
    dsimp only at h
    rw [if_pos (by simpa using z)] at h
    exact (Option.some.inj h).symm
  · intro e x r ex hx
    rw [e] at h
    dsimp only at h
    split at h
    · exact (Option.some.inj h).symm
    · subst ex
      cases x with
      | sym s => exact absurd rfl (hx s)
      | num w => exact (Option.some.inj h).symm
      | key s => exact (Option.some.inj h).symm
      | list s => exact (Option.some.inj h).symm
  · intro e s r ex hs hf
    rw [e] at h
    dsimp only at h
    split at h
    · exact (Option.some.inj h).symm
    · subst ex
      dsimp only at h
      rw [hf] at h
      exact (Option.some.inj h).symm
  · intro e s x r ex hs row hf
    rw [e] at h
    subst ex
    dsimp only at h
    rw [if_neg (by simp [headIs, isSym, hs])] at h
    rw [hf] at h
    dsimp only at h
    have hnm : row.name = s := by simpa using List.find?_some hf
    cases hr : readAll (readR tab n κ) (x :: r) with
    | none => rw [hr] at h; cases h
    | some ra =>
      rw [hr] at h
      refine ⟨ra, rfl, fun z => ?_, fun gs z => ?_⟩
      · subst z; exact (Option.some.inj h).symm
      · subst z; rw [hnm]; exact h
theorem IsIts.out1 {l : Led} {vs : List Value} {x0 : It} {xr : List It} (h : IsIts l vs (x0 :: xr)) : ∃ v0 vr, vs = v0 :: vr ∧ IsIt l v0 x0 ∧ IsIts l vr xr := by
  cases h with | cons a b => exact ⟨_, _, rfl, a, b⟩
noncomputable def ArgJ (G : Gl) (sn sw bn : Addr) (dn : Str → Option Int) (σ : Bk) (tab : List Row) (n : Nat) (κ : Str → Option Gr) (xs : List It) (i : Nat) (ys : List Value) (fp' : Led) : Prop :=
  ∃ σ' gs, BankSt G.w sn sw bn σ' fp' ∧ σ.Le σ' ∧ readAll (readR tab n κ) (xs.take i) = some (some gs) ∧ NumsAre σ' dn gs ys
theorem NumsAre.snoc {σ σ' : Bk} {dn : Str → Option Int} {gs : List Gr} {ys : List Value} {g : Gr} {i : Int} {t : Tok} (h : NumsAre σ dn gs ys) (u : σ.Le σ') (hn : Num σ' dn g i) : NumsAre σ' dn (gs ++ [g]) (ys ++ [.int i t]) := by
  refine ⟨by simp [h.1], fun j g' hj => ?_⟩
  by_cases hl : j < gs.length
  · rw [List.getElem?_append_left hl] at hj
    obtain ⟨i', t', a, b⟩ := h.2 j g' hj
    exact ⟨i', t', by rw [List.getElem?_append_left (h.1 ▸ hl)]; exact a, b.up u⟩
  · have hlt : j < (gs ++ [g]).length := by
      rw [List.getElem?_eq_some_iff] at hj; exact hj.1
    have hj' : j = gs.length := by simp at hlt; lia
    subst hj'
    simp at hj
    subst hj
    exact ⟨i, t, by rw [← h.1]; simp, hn⟩
theorem BankSt.adr {w : World} {sn sw bn : Addr} {σ : Bk} {fp : Led} (h : BankSt w sn sw bn σ fp) : fp.map (·.1) = [sn, sw, bn] := by
  obtain ⟨_, _, _, rfl, _⟩ := h; rfl
theorem under_step {G : Gl} {n : Nat} (U : UnderC G n) : UnderC G (n + 1) := by
  intro κ it res tab dn hres ra ba sya so sn sw bn kd v σ l fp Rd hi hK hB
  refine Rd.out fun dx es nn a1 a2 a3 ω a4 a5 a6 a7 ω ω ω ω ω ω ω ω ω ω ω ω => ?_
  have hBk := Rd.bank
  refine hBk.out fun bdx bes bn' b1 b2 ω ω ω b6 ω ω ω => ?_
  obtain ⟨a, tag, t, x, rfl, ht, _, hx⟩ := hi.tup
  rw [show 6 * (n + 1) = 6 * n + 5 + 1 from by lia]
  refine entC (binds := [("self", .ref ra), ("item", .ref a), ("known", .ref kd)]) (by k_is) (by k_is) fun c h l1 V W s1 HC R EX => ?_
  have HS : Cel c l1 "self" (.ref ra) := HC _ _ _ rfl rfl
  have HK : Cel c l1 "known" (.ref kd) := HC _ _ _ rfl rfl
  have tag0 {p1 p2 p3 j} := ev_itemT (ii := j) (p := p1) (p' := p2) (f := fun t => .str tag t) W (ev_loc (p := p3) (x := "item") W rfl) (ht.mono s1) (k := 0) rfl
  refine run_if (te_eqS tag0 ev_str) (fun hb => ?_) fun hb => ?_
  · have hb := eq_of_beq hb
    subst hb
    obtain ⟨s, u, rfl, rfl, hs⟩ := hx.sy rfl
    · refine run_retX (meth_inst W (ev_cell W HS) (s1 _ a1) (s1 _ a2) a5 (by k_is) (by k_is) (by k_is) (by k_is) (xs_ev (ev_item W (ev_loc W rfl) (ht.mono s1) rfl) fun ω => xs_ev (ev_cell W HK) fun ω => xs_nil fun tk => ⟨W.K, useO V W (named_ok U hres (Rd.mono s1) hs (hK.up s1 (.refl σ)) hB) EX ?_ ?_ (by lia) tk⟩))
      · exact fun σ' C fp' l' h1 h2 h3 h4 h5 ω R k => k σ' C fp' l' h1 h2 h3 h4 h5
      · exact fun σ' g i t fp' l' h1 h2 h3 h4 ω ω W2 tk => R tk (fun R k => k σ' g i t fp' l' h1 h2 h3 h4) W2
  refine run_setX (call2 W (by k_is) (by k_is) (ev_loc W rfl) ev_str fun ω ω => useO V W (list_in_ok (ht.mono s1) (by decide)) EX ?_ ?_ (by lia))
  · intro hn _ R k
    refine k σ 67 _ _ hB (.refl σ) ?_ (.inl rfl) fun wd e => ?_
    · rcases hx with ⟨z, _⟩ | ⟨_, i, u, _, rfl⟩ | ⟨_, s, u, _, rfl⟩ | ⟨z, _⟩
      · exact absurd (beq_iff_eq.mpr z) (by rw [hb]; simp)
      · unfold readR at hres; exact (Option.some.inj hres).symm
      · unfold readR at hres; exact (Option.some.inj hres).symm
      · exact absurd z hn
    · exact absurd e (hx.noL hn _)
  rintro rfl h2 _ W2 tk2
  refine store_run W2 (fun h3 W3 => ?_) 
  obtain ⟨b, vs, xs, rfl, rfl, hb2, hxs, hvl⟩ := hx.lst rfl
  have hl := hxs.length
  have RL := readR_list hres
  have s1' := s1
  clear tag0 W W2
  have PB {p1} := ev_loc (p := p1) (x := "parts") W3 rfl
  have LEN {p1 p2 p3} := ev_lenT (p := p1) (p' := p2) W3 (PB (p1 := p3)) (hb2.mono s1) (by lia) (by k_is)
  refine run_ifG W3 (b := (bitsOf xs).isSome) ?tb (fun l4 h4 s4 W4 hb4 => ?bits) fun l4 h4 s4 W4 hb4 => ?rest
  case tb =>
    by_cases h3 : vs.length = 3
    · obtain ⟨v0, v1, v2, rfl⟩ := three h3
      obtain ⟨x0, x1, x2, rfl⟩ := three (hl.symm.trans h3)
      cases hxs with | cons i0 r => cases r with | cons i1 r =>
      rw [bitsOf_three]
      refine teg_and_t ((te_eqI LEN ev_int).g W3) fun l4 h4 s4 W4 => ?_
      cases e0 : isSym "_" x0 with
      | false => exact teg_and_f (teg_eqItem V W4 (ev_item W4 (ev_loc W4 rfl) (hb2.mono (s1.trans s4)) rfl) (i0.mono (s1.trans s4)) e0)
      | true =>
        refine teg_and_t (teg_eqItem V W4 (ev_item W4 (ev_loc W4 rfl) (hb2.mono (s1.trans s4)) rfl) (i0.mono (s1.trans s4)) e0) fun l5 h5 s5 W5 => ?_
        have s6 := (s1.trans s4).trans s5
        exact teg_and1 W5 (teg_eqItem V W5 (ev_item W5 (ev_loc W5 rfl) (hb2.mono s6) rfl) (i1.mono s6) rfl)
    · rw [bitsOf_short (by lia)]
      exact teg_and_f ((te_eqI LEN ev_int).gb W3 (by simpa using (by lia : (vs.length : Int) ≠ 3)))
  case bits =>
    obtain ⟨x2, hx2⟩ := Option.isSome_iff_exists.mp hb4
    obtain rfl := bitsOf_inv hx2
    cases hxs with | cons i0 r => cases r with | cons i1 r => cases r with | cons i2 r =>
    cases r
    obtain ⟨ia, tag2, t2, y, rfl, ht2, _, hy⟩ := i2.tup
    have s5 := s1.trans s4
    refine run_retX (meth_inst W4 (ev_attr W4 (ev_cell W4 (HS.mono s4)) (s5 _ a1) (s5 _ a2) a3 (by k_is) (by k_is) (by k_is) (by k_is)) (s5 _ b1) (s5 _ b2) b6 (by k_is) (by k_is) (by k_is) (by k_is) (xs_ex (call2 W4 (by k_is) (by k_is) (ev_item W4 (ev_loc W4 rfl) (hb2.mono s5) rfl) ev_str fun ω ω => useO V W4 (number_of_ok (ht2.mono s5) (by decide)) EX ?_ ?_ (by lia))))
    · intro hn _ R k
      refine k σ 67 _ _ hB (.refl σ) (RL.bad x2 hx2 fun w e => ?_) (.inl rfl) fun wd e => ?_
      · exact hy.noN hn _ e
      · injection e with e; injection e with _ e; injection e with _ e; injection e with e _
        exact absurd e (hy.noN hn _)
    · intro hn h5 _ W5 tk5
      obtain ⟨w, u, rfl, rfl⟩ := hy.nu hn
      refine args_nil ⟨W5.K, useO V W5 (bv_sort_ok (hBk.mono s5) hB) EX ⟨?_, ?_⟩ ?_ (by lia) tk5⟩
      · exact fun fp' hB' hw ω R k => k σ 67 _ _ hB' (.refl σ) ((RL.num w hx2).2 (by lia)) (.inl rfl) fun wd e => .inl ⟨rfl, by injection e with e; injection e with _ e; injection e with _ e; injection e with e _; injection e with e; lia⟩
      · exact fun fp' hB' hw ω R k => k σ 86 _ _ hB' (.refl σ) ((RL.num w hx2).2 (by lia)) (.inr rfl) fun wd e => .inr ⟨rfl, by injection e with e; injection e with _ e; injection e with _ e; injection e with e _; injection e with e; lia⟩
      · exact fun σ' i t fp' hB' hle h1 h2 hbits h6 ω W6 tk => R tk (fun R k => k σ' (.bits w) i t _ _ hB' hle ((RL.num w hx2).1 ⟨h1, h2⟩) hbits) W6
  case rest =>
    have hbits : bitsOf xs = none := by simpa using hb4
    have s5 := s1.trans s4
    refine run_ifG W4 (b := decide (xs.length < 2) || headIs "_" xs) ?tb (fun l5 h5 s6 W5 hb5 => ?bad) fun l5 h5 s6 W5 hb5 => ?go
    case tb =>
      have LEN {p1 p2 p3} := ev_lenT (p := p1) (p' := p2) W4 (ev_loc (p := p3) (x := "parts") W4 rfl) (hb2.mono s5) (by lia) (by k_is)
      by_cases h2 : xs.length < 2
      · rw [decide_eq_true h2, Bool.true_or]
        exact teg_or_t ((te_ltI LEN ev_int).gb W4 (decide_eq_true (by lia)))
      · rw [decide_eq_false h2, Bool.false_or]
        refine teg_or_f ((te_ltI LEN ev_int).gb W4 (decide_eq_false (by lia))) fun l6 h6 s7 W6 => ?_
        cases xs with
        | nil => exact absurd (by decide) h2
        | cons x0 xr =>
          obtain ⟨v0, vr, rfl, i0, _⟩ := hxs.out1
          exact teg_or1 (teg_eqItem V W6 (ev_item W6 (ev_loc W6 rfl) (hb2.mono (s5.trans s7)) rfl) (i0.mono (s5.trans s7)) headIs_eq.symm)
    case bad =>
      exact run_raise V W5 (.inl rfl) (by k_is) (by k_is) es_lit EX (fun R k => k σ 67 _ _ hB (.refl σ) (RL.short hbits (by simpa using hb5)) (.inl rfl) fun wd e => by injection e with e; subst e; cases hbits) (hd := by lia)
    case go =>
      have hb5 := Bool.or_eq_false_iff.mp hb5
      cases xs with
      | nil => exact absurd hb5.1 (by simp)
      | cons x0 xr =>
      cases xr with
      | nil => exact absurd hb5.1 (by simp)
      | cons x1 xr =>
      obtain ⟨v0, vr, rfl, i0, ir⟩ := hxs.out1
      have nb : ∀ wd, It.list (x0 :: x1 :: xr) ≠ .list [.sym "_", .sym "BitVec", .num wd] := fun wd e => by injection e with e; rw [e] at hbits; cases hbits
      have s7 := s5.trans s6
      obtain ⟨a0, tag0, t0, y0, rfl, ht0, _, hy0⟩ := i0.tup
      refine run_setX (call2 W5 (by k_is) (by k_is) (ev_item W5 (ev_loc W5 rfl) (hb2.mono s7) rfl) ev_str fun ω ω => useO V W5 (name_of_ok (ht0.mono s7) (by decide)) EX ?_ ?_ (by lia))
      · intro hn _ R k
        refine k σ 67 _ _ hB (.refl σ) (RL.head hbits x0 _ rfl fun s e => ?_) (.inl rfl) fun wd e => absurd e (nb wd)
        exact hy0.noS hn _ e
      intro hn h6 _ W6 tk6
      obtain ⟨s0, u0, rfl, rfl, hs0⟩ := hy0.sy hn
      have hne : s0 ≠ "_" := by simpa [headIs, isSym] using hb5.2
      refine store_run W6 (fun h7 W7 => ?_)
      refine run_setX (meth_inst W7 (ev_cell W7 (HS.mono (s4.trans s6))) (s7 _ a1) (s7 _ a2) a6 (by k_is) (by k_is) (by k_is) (by k_is) (xs_ev (ev_loc W7 rfl) fun ω => xs_nil fun tk => ⟨W7.K, useO V W7 (entry_of_ok (Rd.mono s7) hs0) EX ?_ ?_ (by lia) tk⟩))
      · exact fun hf ω R k => k σ 67 _ _ hB (.refl σ) (RL.miss hbits s0 _ rfl hne hf) (.inl rfl) fun wd e => absurd e (nb wd)
      intro r ev i hf hp2 hev hdn h8 _ W8 tk8
      refine store_run W8 (fun h9 W9 => ?_)
      obtain ⟨rall, hra, hr1, hr2⟩ := RL.app hbits s0 x1 xr rfl hne r hf
      have hnm : r.name = s0 := by simpa using List.find?_some hf
      subst hnm
      have hlen := ir.length
      simp only [List.length_cons] at hvl hlen
      refine run_comp (c := c) (by with_unfolding_all rfl) (ex_tail (k := 1) W9 (ev_loc W9 rfl) (hb2.mono s7) rfl (by decide) (by simp) (by simp; lia) fun D h10 W10 => ?_)
      have s8 : Sub l ((D, tupO vr) :: l5) := s7.trans (Sub.cons (Sub.refl l5))
      have hcel : ∀ {x v}, Cel c l1 x v → Cel c ((D, tupO vr) :: l5) x v := fun hc => hc.mono ((s4.trans s6).trans (Sub.cons (Sub.refl l5)))
      refine cmp_tup_set (d' := 6 * n) (vs := vr) (fn := .ref 826) (args := fun v ω => [.ref ra, v, .ref kd]) (Inv := fun i ys fp' l' => Sub ((D, tupO vr) :: l5) l' ∧ ArgJ G sn sw bn dn σ tab n κ (x1 :: xr) i ys fp') (Xc := Out (UX G sn sw bn σ res (.list (.sym r.name :: x1 :: xr)))) V W10 ⟨_, _, List.mem_cons_self, rfl, rfl⟩ (by lia) EX (fun ω ω ω q ω => q) ?_ ⟨Sub.refl _, σ, [], hB, .refl σ, by simp [readAll], rfl, fun j g h => by simp at h⟩ ?_ ?_ ?_ (by lia)
      · intro i v hv C h mC news tk Q' E' hn hx F N sN hcall
        exact ce_meth F N sN (ce_cell N sN (hcel HS)) (s8 _ a1) (s8 _ a2) a4 (by k_is) (by k_is) (by k_is) (by k_is) fun tk => ce_args (ce_loc hn hx) fun ω tk => ce_args (ce_cell N sN (hcel HK)) fun ω tk => args_nil ⟨G.X.keeps F.keep, hcall _ 0⟩
      · rintro i ys fp' l' ⟨_, σ', gs, hb', _⟩
        rw [hb'.adr, hB.adr]
      · rintro i v u ys fp' l' hv ⟨s9, σ', gs, hb', hle, hra', hok⟩
        obtain ⟨x, hx, hi⟩ := ir.get hv
        obtain ⟨ri, hri, hr3, hr4⟩ := readAll_step hra hra' hx
        refine (U κ x ri tab dn hri (Rd.mono (s8.trans s9)) (hi.mono (s8.trans s9)) (hK.up (s8.trans s9) hle) hb').to (Nat.le_refl _) ?_ ?_
        · rintro σ2 g i2 t2 fp2 l2 hb2 hle2 rfl hn s10
          exact ⟨s9.trans s10, σ2, gs ++ [g], hb2, hle.trans hle2, hr4 g rfl, hok.snoc hle2 hn⟩
        · intro σ2 C fp2 l2 hb2 hle2 hrn hC _ _ R k
          exact k σ2 C fp2 l2 hb2 (hle.trans hle2) (hr1 (hr3 hrn)) hC fun wd e => absurd e (nb wd)
      · rintro D2 ys fp' l' h11 k ⟨s9, σ', gs, hb', hle, hra', hok⟩ hyl W11 _
        rw [show vr.length = (x1 :: xr).length from hlen, List.take_length] at hra'
        have hgs := hr2 gs (Option.some.inj (hra.symm.trans hra'))
        have s10 : Sub l ((D2, listOf ys.toArray k) :: l') := (s8.trans s9).trans (Sub.cons (Sub.refl l'))
        have hz := hok.1
        refine run_retX (meth_inst W11 (ev_cell W11 ((hcel HS).mono (s9.trans (Sub.cons (Sub.refl l'))))) (s10 _ a1) (s10 _ a2) a7 (by k_is) (by k_is) (by k_is) (by k_is) (xs_ev (ev_loc W11 rfl) fun ω => xs_ev (ev_loc W11 rfl) fun ω => xs_ev (ev_loc W11 rfl) fun ω => xs_nil fun tk => ⟨W11.K, useO V W11 (applied_ok U hp2 (by lia) hgs (Rd.mono s10) (hev.mono (((Sub.cons (Sub.refl l5)).trans s9).trans (Sub.cons (Sub.refl l')))) hdn List.mem_cons_self hok hb' hs0 nb) EX ?_ ?_ (by lia) tk⟩))
        · exact fun σ2 C fp2 l2 h1 h2 h3 h4 ω ω R k => k σ2 C fp2 l2 h1 (hle.trans h2) h3 h4 fun wd e => absurd e (nb wd)
        · exact fun σ2 g i t fp2 l2 h1 h2 h3 h4 ω ω W12 tk => R tk (fun R k => k σ2 g i t fp2 l2 h1 (hle.trans h2) h3 h4) W12
theorem under_ok {G : Gl} : ∀ n, UnderC G n
  | 0 => fun κ it res tab dn h => by unfold readR at h; cases it <;> cases h
  | n + 1 => under_step (under_ok n)
end
section --A5
open PySem PySem.W PyProof.Rows PySem.Calls PySem.Spec PyProof.V PySem.SeqAt
set_option maxHeartbeats 400000
theorem rk0 {k n : Nat} {s : Str} (h1 : 1 ≤ k) (h : rk s = 0) : Over k (n + 1) (.sym s) := by
  show rk s < k
  lia
theorem over_bits {k n : Nat} {wd : Int} (h1 : 1 ≤ k) (h : wd ≤ 4096) : Over k (n + 2) (.list [.sym "_", .sym "BitVec", .num wd]) := fun x hx => by
  simp only [List.mem_cons, List.not_mem_nil, or_false] at hx
  rcases hx with rfl | rfl | rfl
  · exact rk0 h1 (by decide)
  · exact rk0 h1 (by decide)
  · exact h
theorem of_item_ok {G : Gl} {n : Nat} {it : It} {res : Option Gr} {tab : List Row} {dn : Str → Option Int} (hres : readR tab n (fun ω => none) it = some res) {ra ba sya so sn sw bn : Addr} {v : Value} {σ : Bk} {l fp : Led} (Rd : Rdr G.w l ra ba sya so sn sw bn tab dn) (hi : IsIt l v it) (hB : BankSt G.w sn sw bn σ fp) :
    Ct G (.ref 821) [.ref ra, v] (6 * n + 1) fp l (UK G sn sw bn dn σ res) (UX G sn sw bn σ res it) := by
  refine Rd.out fun dx es nn a1 a2 ω ω a5 ω ω ω ω ω ω ω ω ω ω ω ω ω ω ω => ?_
  refine ent (binds := [("self", .ref ra), ("item", v)]) (by k_is) (by k_is) fun c h V W R EX => ?_
  refine run_retX (meth_inst W (ev_loc W rfl) a1 a2 a5 (by k_is) (by k_is) (by k_is) (by k_is) (xs_ev (ev_loc W rfl) fun ω => xs_ex (ex_dict W fun D o h1 lo hd W1 tk => args_nil ⟨W1.K, ?_⟩)))
  have up : Sub l ((D, o) :: l) := Sub.cons (Sub.refl l)
  exact useO V W1.settle (under_ok n _ it res tab dn hres (Rd.mono up) (hi.mono up) ⟨o, [], List.mem_cons_self, hd, lo, fun s => rfl⟩ hB) EX (fun σ' C fp' l' h1 h2 h3 h4 h5 ω R k => k σ' C fp' l' h1 h2 h3 h4 h5) (fun σ' g i t fp' l' h1 h2 h3 h4 ω ω W2 tk => R tk (fun R k => k σ' g i t fp' l' h1 h2 h3 h4) W2) (by lia) tk
theorem FeedSt.out {w : World} {cl fa : Addr} {n sm : Int} {fp : Led} {R : Led → Prop} (F : FeedSt w cl fa n sm fp) (k : ∀ fo t1 t2, fo.IsDictOf (PySem.strKind PG w) [("cells", .ref cl), ("at", .int n t1), ("sum", .int sm t2)] → R [(fa, fo)]) : R fp := by
  obtain ⟨fo, rfl, t1, t2, h⟩ := F
  exact k fo t1 t2 h
theorem FeedSt.of {w : World} {cl fa : Addr} {n sm : Int} {fo : Obj} {t1 t2 : Tok} (h : fo.IsDictOf (PySem.strKind PG w) [("cells", .ref cl), ("at", .int n t1), ("sum", .int sm t2)]) : FeedSt w cl fa n sm [(fa, fo)] := ⟨fo, rfl, t1, t2, h⟩
theorem draw_ok {G : Gl} {fa cl : Addr} {n sm wide : Int} {tw : Tok} {l fp : Led} (F : FeedSt G.w cl fa n sm fp) (hc : CellsIn l cl) (hn : 0 ≤ n ∧ n ≤ 1000000) (hw : 1 ≤ wide) :
    Ct G (.ref 868) [.ref fa, .int wide tw] 1 fp l (fun R => ∀ r t fp', FeedSt G.w cl fa (n + 1) sm fp' → 0 ≤ r → r < wide → R (.int r t) fp' l) NoX := by
  refine F.out (R := fun fp => Ct G _ _ _ fp l _ _) fun fo u1 u2 hd => ?_
  obtain ⟨vs, ns, cn, csl, cd, hm, hi, hlen⟩ := hc
  refine ent (binds := [("feed", .ref fa), ("wide", .int wide tw)]) (by k_is) (by k_is) fun c h V W R EX => ?_
  refine run_setS W (ev_add (Ev.fix (f := fun t => .int n t) (ev_dictS W (ev_loc W rfl) ev_str (W.inf List.mem_cons_self) hd rfl)) ev_int) (ev_loc W rfl) ev_str .head hd (by simp) fun t1 h1 o1 hd1 W1 => ?_
  refine run_set W1 (ev_dictS W1 (ev_loc W1 rfl) ev_str (W1.inf List.mem_cons_self) hd1 (v := .int (n + 1) t1) rfl) fun ω h2 W2 => ?_
  have hl2 := hi.length
  have CE {p1 p2 p3 j} := ev_dictS (p := p1) W2 (ev_loc (p := p2) (x := "feed") W2 rfl) (ev_str (p := p3) (j := j) (y := "cells")) (W2.inf List.mem_cons_self) hd1 (v := .ref cl) rfl
  have HE {p1} := ev_locT (p := p1) (x := "here") (f := fun t => .int (n + 1) t) W2 rfl
  have IS := News.isList W2.N (W2.inl hm)
  refine run_if (te_leI HE (ev_lenX W2 CE (n := vs.toArray.size) (fun Q E tk q => len_list IS (by simp; lia) (q _ _)) (by k_is))) (fun hb => ?_) fun hb => ?_
  · have hb2 : n + 1 ≤ vs.length := by simpa using of_decide_eq_true hb
    obtain ⟨r, tr, hr⟩ := ints_at hi (i := (n + 1 - 1).toNat) (by lia)
    exact run_ret R.sq (ev_mod (Ev.fix (f := fun t => .int r t) (ev_itemO W2 CE (ev_sub HE ev_int) (W2.inl hm) (by lia) (by lia) hr)) (ev_locT W2 rfl) (by lia)) W2 fun t R k => k _ t _ (.of hd1) (Int.fmod_nonneg_of_pos _ (by lia)) (Int.fmod_lt_of_pos _ (by lia))
  · have hmul : ∀ {y : Int}, IntMulOk y (n + 1) := .of_right (intBits_le_64 (by lia) (by lia))
    exact run_ret R (ev_mod (ev_fdiv2 W2 (ev_add (ev_add (ev_mul (ev_mul ev_int HE hmul) HE hmul) (ev_mul ev_int HE hmul)) (Ev.fix (f := fun t => .int sm t) (ev_dictS W2 (ev_loc W2 rfl) ev_str (W2.inf List.mem_cons_self) hd1 rfl))) ev_int) (ev_locT W2 rfl) (by lia)) W2 fun t R k => k _ t _ (.of hd1) (Int.fmod_nonneg_of_pos _ (by lia)) (Int.fmod_lt_of_pos _ (by lia))
theorem params_ok {G : Gl} {l fp : Led} : Ct G (.ref 861) [] 1 fp l (fun R => ∀ a vs l', Strs vs ["P", "Q"] → (a, listOf vs.toArray 0) ∈ l' → Sub l l' → R (.ref a) fp l') NoX := by
  refine ent (binds := []) (by k_is) (by k_is) fun c h V W R EX => ?_
  exact run_retX (ex_strs W (sxs_cons (sxs_cons sxs_nil)) (by decide) fun D vs h' hs W' tk => R tk (fun R k => k D vs _ hs List.mem_cons_self (Sub.cons (Sub.refl l))) W')
theorem bits_ok {G : Gl} {wide : Int} {tw : Tok} {l fp : Led} : Ct G (.ref 875) [.int wide tw] 1 fp l (fun R => ∀ v l', IsIt l' v (.list [.sym "_", .sym "BitVec", .num wide]) → Sub l l' → R v fp l') NoX := by
  refine ent (binds := [("wide", .int wide tw)]) (by k_is) (by k_is) fun c h V W R EX => ?_
  refine run_retX (IX.ex W (it := .list [.sym "_", .sym "BitVec", .num wide]) (ix_list (tx_tup (ixs_cons (ix_sym W ev_str (by decide)) fun ω ω ω W => ixs_cons (ix_sym W ev_str (by decide)) fun ω ω ω W => ixs_cons (ix_num W (ev_locT W rfl)) fun ω ω ω W => ixs_nil W) ?_) ?_) ?_)
  · simp
  · simp
  · exact fun v l' h' hi s W' tk' => R tk' (fun R k => k v l' hi s) W'
noncomputable def IK (G : Gl) (cl fa : Addr) (n sm cost : Int) (k d : Nat) (l : Led) : Post → Prop := fun R => ∀ v n' it fp' l', FeedSt G.w cl fa n' sm fp' → n ≤ n' → n' ≤ n + cost → IsIt l' v it → Over k d it → Sub l l' → R v fp' l'
theorem WldIn.out {w : World} {l : Led} {wa ba sya rwa dca : Addr} {R : Prop} (H : WldIn w l wa ba sya rwa dca) (k : ∀ ow, (wa, ow) ∈ l → ow.IsDictOf (PySem.strKind PG w) [("bank", .ref ba), ("symbols", .ref sya), ("rows", .ref rwa), ("declared", .ref dca)] → R) : R := by
  obtain ⟨ow, h1, h2, _⟩ := H
  exact k ow h1 h2
theorem leaf_ok {G : Gl} {fa cl wa ba sya rwa dca : Addr} {n sm : Int} {tab : List Row} {l fp : Led} (F : FeedSt G.w cl fa n sm fp) (hc : CellsIn l cl) (hw : WldIn G.w l wa ba sya rwa dca) (hr : RowsIn l rwa tab) (hok : RowsOk tab) (h1 : 1 ≤ tab.length) (hn : 0 ≤ n ∧ n + 2 ≤ 1000000) :
    Ct G (.ref 880) [.ref fa, .ref wa] 2 fp l (IK G cl fa n sm 2 tab.length 2 l) NoX := by
  refine ent (binds := [("feed", .ref fa), ("world", .ref wa)]) (by k_is) (by k_is) fun c h V W R EX => ?_
  refine run_setX (call2 W (by k_is) (by k_is) (ev_loc W rfl) ev_int fun ω ω => useO V W (draw_ok F hc (by lia) (by decide)) EX trivial ?_)
  intro r t fp1 F1 r0 r1 h1' _ W1 tk1
  refine store_run W1 fun h2 W2 => ?_
  have WAY {p1} := ev_locT (p := p1) (x := "way") (f := fun t => .int r t) W2 rfl
  refine run_if (te_ltI WAY ev_int) (fun hb => ?_) fun hb => ?_
  · have hb := of_decide_eq_true hb
    refine run_retX (ex_tup (xs_ev ev_str fun ω => xs_ex (ex_sub (ex_strs W2 (sxs_cons (sxs_cons (sxs_cons sxs_nil))) (by decide) fun D vs h3 hs W3 tk3 => ?_))))
    obtain ⟨v, hv⟩ : ∃ v, vs[r.toNat]? = some v := ⟨_, List.getElem?_eq_getElem (by rw [hs.length]; simp; lia)⟩
    obtain ⟨s, ts, rfl, hs2⟩ := hs.get2 hv
    refine (ev_locT (f := fun t => .int r t) W3 rfl).run fun ω tk4 => sub_list_at W3 (W3.inl List.mem_cons_self) r0 (by lia) hv (args_nil (newTuple_at W3 (sz_le rfl) fun D2 h5 W5 tk5 => ?_))
    have hs3 : s = "Int" ∨ s = "Bool" ∨ s = "Real" := by
      have := List.mem_of_getElem? hs2
      simpa using this
    refine R tk5 (fun R k => k _ _ (.sym s) _ _ F1 (by lia) (by lia) (.sym mem_tup ?_) (rk0 h1 ?_) (Sub.cons (Sub.cons (Sub.refl l)))) W5
    · rcases hs3 with rfl | rfl | rfl <;> decide
    · rcases hs3 with rfl | rfl | rfl <;> decide
  refine run_if (te_eqI WAY ev_int) (fun hb => ?_) fun hb => ?_
  · refine run_retX (call1' W2 (by k_is) (by k_is) (call2 W2 (by k_is) (by k_is) (ev_loc W2 rfl) ev_int fun ω ω => useO V W2 (draw_ok F1 hc (by lia) (by decide)) EX trivial ?_))
    intro r2 t2 fp2 F2 r20 r21 h3 _ W3 tk3
    refine args_nil ⟨W3.K, useO V W3 bits_ok EX trivial ?_ (by decide) tk3⟩
    exact fun v l' hi s h4 ω W4 tk4 => R tk4 (fun R k => k v _ _ _ l' F2 (by lia) (by lia) hi (over_bits h1 (by lia)) s) W4
  refine run_if (te_eqI WAY ev_int) (fun hb => ?_) fun hb => ?_
  · refine run_retX (ex_tup (xs_ev ev_str fun ω => xs_ex (ex_sub (call0 W2 (by k_is) (by k_is) (useO V W2 params_ok EX trivial ?_)))))
    intro a vs l3 hs ha s3 h3 _ W3 tk3
    refine (call2 W3 (by k_is) (by k_is) (ev_loc W3 rfl) ev_int fun ω ω => useO V W3 (draw_ok F1 (hc.mono s3) (by lia) (by decide)) EX trivial ?_).go tk3
    intro r2 t2 fp2 F2 r20 r21 h4 _ W4 tk4
    obtain ⟨v, hv⟩ : ∃ v, vs[r2.toNat]? = some v := ⟨_, List.getElem?_eq_getElem (by rw [hs.length]; simp; lia)⟩
    obtain ⟨s, ts, rfl, hs2⟩ := hs.get2 hv
    refine sub_list_at W4 (W4.inl ha) r20 (by lia) hv (args_nil (newTuple_at W4 (sz_le rfl) fun D2 h5 W5 tk5 => ?_))
    have hs3' : s = "P" ∨ s = "Q" := by
      have := List.mem_of_getElem? hs2
      simpa using this
    refine R tk5 (fun R k => k _ _ (.sym s) _ _ F2 (by lia) (by lia) (.sym mem_tup ?_) (rk0 h1 ?_) (s3.trans (Sub.cons (Sub.refl l3)))) W5
    · rcases hs3' with rfl | rfl <;> decide
    · rcases hs3' with rfl | rfl <;> decide
  refine run_if (te_eqI WAY ev_int) (fun hb => ?_) fun hb => ?_
  · refine run_retX (ex_sub (ex_its W2 (its := [.sym "Nope", .num 2, .list [], .sym "BitVec", .key "P"]) (ixs_cons (ix_sym W2 ev_str (by decide)) fun ω ω ω W => ixs_cons (ix_num W ev_int) fun ω ω ω W => ixs_cons (ix_list (tx_tup (ixs_nil W) (by decide)) (by decide)) fun ω ω ω W => ixs_cons (ix_sym W ev_str (by decide)) fun ω ω ω W => ixs_cons (ix_key W ev_str) fun ω ω ω W => ixs_nil W) (by decide) fun D vs l3 h3 hs s3 W3 tk3 => ?_))
    refine (call2 W3 (by k_is) (by k_is) (ev_loc W3 rfl) ev_int fun ω ω => useO V W3 (draw_ok F1 (hc.mono (s3.trans (Sub.cons (Sub.refl l3)))) (by lia) (by decide)) EX trivial ?_).go tk3
    intro r2 t2 fp2 F2 r20 r21 h4 _ W4 tk4
    obtain ⟨v, hv⟩ : ∃ v, vs[r2.toNat]? = some v := ⟨_, List.getElem?_eq_getElem (by rw [hs.length]; simp; lia)⟩
    obtain ⟨it, hit, hi⟩ := hs.get hv
    refine sub_list_at W4 (W4.inl List.mem_cons_self) r20 (by lia) hv (R tk4 (fun R k => k _ _ it _ _ F2 (by lia) (by lia) (hi.mono (Sub.cons (Sub.refl l3))) ?_ (s3.trans (Sub.cons (Sub.refl l3)))) W4)
    have := List.mem_of_getElem? hit
    simp only [List.mem_cons, List.not_mem_nil, or_false] at this
    rcases this with rfl | rfl | rfl | rfl | rfl
    · exact rk0 h1 (by decide)
    · exact (by decide : (2 : Int) ≤ 4096)
    · exact fun x hx => nomatch hx
    · exact rk0 h1 (by decide)
    · trivial
  refine hw.out fun ow w1 w2 => ?_
  obtain ⟨rvs, rk1, r1m, hra⟩ := hr
  have hlen := hok.len
  have hr0 := hra.1
  refine run_compP (c := c) (by with_unfolding_all rfl) (Ev.ex (ev_dictS W2 (ev_loc W2 rfl) ev_str (W2.inl w1) w2 (v := .ref rwa) rfl) fun ω => cmp_pure_set V W2 r1m (by lia) (Inv := fun i ys => ys.length = i ∧ ∀ (j : Nat) v, ys[j]? = some v → ∃ r t, tab[j]? = some r ∧ v = .str r.name t) ⟨rfl, fun j v h => by simp at h⟩ ?_ ?_ ?_)
  · intro tk C i v h tk2 mC ys Kk hv hInv hnC Fh Nh hCL hC0 hlC k
    obtain ⟨r, hr1, a, t, pa, ps, bv, rfl, h2, _⟩ := hra.2 i v hv
    refine comp_assign3 V.hh (h2.isTup Nh W2.sub) hnC rfl (by rfl) (by rfl) (by rfl) fun h' tk' kk nn => ?_
    refine wpAny_tests_nil ?_
    rw [if_pos rfl]
    refine ldVarK nn (v := .str r.name t) (by rfl) (k (some _) h' _ _ ⟨by simp [hInv.1], fun j v hj => ?_⟩ kk nn)
    rcases Nat.lt_or_ge j ys.length with hjl | hjl
    · rw [List.getElem?_append_left hjl] at hj
      exact hInv.2 j v hj
    · have hj2 : j = ys.length := by
        have := (List.getElem?_eq_some_iff.mp hj).1
        simp at this; lia
      subst hj2
      simp at hj
      exact ⟨r, t, hInv.1 ▸ hr1, hj.symm⟩
  · intro i v s Q E hv hit q
    obtain ⟨r, hr1, a, t, pa, ps, bv, rfl, _⟩ := hra.2 i v hv
    exact wpAny_letOwnedTupleGo_listiter hit q
  · intro D ys h3 k hI _ W3
    refine run_retX (ex_ifG (teg_neNil V W3 (ev_loc W3 rfl) List.mem_cons_self (by lia)) (fun l4 h4 s4 W4 ω => ?_) fun ω ω ω ω z => by cases z)
    have s5 : Sub l l4 := (Sub.cons (Sub.refl l)).trans s4
    refine ex_tup (xs_ev ev_str fun ω => xs_ex (ex_sub (Ev.ex (ev_loc W4 rfl) fun ω tk4 => ?_)))
    refine (call2 W4 (by k_is) (by k_is) (ev_loc W4 rfl) (ev_lenL W4 (ev_loc W4 rfl) (W4.inl (s4 _ List.mem_cons_self)) (by simp; lia) (by k_is)) fun ω ω => useO V W4 (draw_ok F1 (hc.mono s5) (by lia) (by simp; lia)) EX trivial ?_).go tk4
    intro r2 t2 fp2 F2 r20 r21 h5 _ W5 tk5
    simp only [List.size_toArray] at r21
    have hj : r2.toNat < ys.length := by lia
    obtain ⟨r, tr, q1, q2⟩ := hI.2 r2.toNat ys[r2.toNat] (List.getElem?_eq_getElem hj)
    refine sub_list_at (v := .str r.name tr) W5 (W5.inl (s4 _ List.mem_cons_self)) r20 (by lia) (by rw [List.getElem?_eq_getElem hj, q2]) (args_nil (newTuple_at W5 (sz_le rfl) fun D2 h6 W6 tk6 => ?_))
    have hnm := (hok.row _ r q1).1
    refine R tk6 (fun R k => k _ _ (.sym r.name) _ _ F2 (by lia) (by lia) (.sym mem_tup (by rw [hnm]; exact nameAt_len _)) ?_ (s5.trans (Sub.cons (Sub.refl l4)))) W6
    show rk r.name < tab.length
    rw [hnm, rk_nameAt _ (by lia)]
    lia
end
section --A6
open PySem PySem.W PyProof.Rows PySem.Calls PySem.Spec PyProof.V PySem.SeqAt
set_option maxHeartbeats 400000
noncomputable def cost : Nat → Int
  | 0 => 2
  | d + 1 => 4 + 3 * cost d
theorem cost_pos : ∀ d, 2 ≤ cost d
  | 0 => Int.le_refl _
  | d + 1 => by have := cost_pos d; unfold cost; lia
noncomputable def ItemC (G : Gl) (d : Nat) : Prop :=
  ∀ {fa cl wa ba sya rwa dca : Addr} {n sm : Int} {tab : List Row} {l fp : Led} {t : Tok}, FeedSt G.w cl fa n sm fp → CellsIn l cl → WldIn G.w l wa ba sya rwa dca → RowsIn l rwa tab → RowsOk tab → 1 ≤ tab.length → 0 ≤ n ∧ n + cost d ≤ 1000000 →
    Ct G (.ref 885) [.ref fa, .ref wa, .int d t] (d + 3) fp l (IK G cl fa n sm (cost d) tab.length (d + 2) l) NoX
theorem item_zero' {G : Gl} : ItemC G 0 := by
  intro fa cl wa ba sya rwa dca n sm tab l fp t hf hc hw hr hok h1 hn
  refine entC (binds := [("feed", .ref fa), ("world", .ref wa), ("deep", .int 0 t)]) (by k_is) (by k_is) fun c h l1 V W s1 HC R EX => ?_
  refine run_ifX ⟨fun whole tk => isTrue_or ((te_eqI (Ev.fix (f := fun t => .int 0 t) (ev_cell W (HC _ _ _ rfl rfl))) ev_int) _ _ _ _ fun tk1 => ?_)⟩
  refine if_run (b := true) (rest := _) (fun ω => ?_) (fun z => by cases z)
  refine run_retX (call2 W (by k_is) (by k_is) (ev_cell W (HC _ _ _ rfl rfl)) (ev_cell W (HC _ _ _ rfl rfl)) fun ω ω => useO V W (leaf_ok hf (hc.mono s1) (hw.mono s1) (hr.mono s1) hok h1 hn) EX trivial ?_)
  exact fun v n' it fp' l' h1 h2 h3 h4 h5 h6 ω ω W2 tk => R tk (fun R k => k v n' it fp' l' h1 h2 h3 h4 h5 (s1.trans h6)) W2
theorem RowIs.out {l : Led} {v : Value} {r : Row} {R : Value → Prop} (h : RowIs l v r) (k : ∀ a t pa ps bv, TupIn l a [.str r.name t, .ref pa, bv] → TupIn l pa ps → Strs ps r.params → BodyIn l bv r.body → r.name.length ≤ 64 → R (.ref a)) : R v := by
  obtain ⟨a, t, pa, ps, bv, rfl, h1, h2, h3, h4, h5⟩ := h
  exact k a t pa ps bv h1 h2 h3 h4 h5
noncomputable def odds : List (List It) := [[.sym "_", .sym "Int"], [.sym "Int", .sym "Int"], [.num 1, .sym "Int"], [.sym "_", .sym "BitVec", .sym "P"]]
theorem odds_over {k n : Nat} {its : List It} (h1 : 1 ≤ k) (h : its ∈ odds) : Over k (n + 2) (.list its) ∧ its.length ≤ 64 := by
  simp only [odds, List.mem_cons, List.not_mem_nil, or_false] at h
  rcases h with rfl | rfl | rfl | rfl
  all_goals
    refine ⟨fun x hx => ?_, by simp⟩
    simp only [List.mem_cons, List.not_mem_nil, or_false] at hx
    rcases hx with rfl | rfl | rfl <;> first | exact rk0 h1 (by decide) | exact (by decide : (1 : Int) ≤ 4096)
theorem IsIts.append {l : Led} {vs ws : List Value} {a b : List It} (h1 : IsIts l vs a) (h : IsIts l ws b) : IsIts l (vs ++ ws) (a ++ b) :=
  IsIts.rec (motive_1 := fun ω ω ω => True) (motive_2 := fun vs a ω => IsIts l (vs ++ ws) (a ++ b)) (fun ω ω => trivial) (fun ω => trivial) (fun ω => trivial) (fun ω ω ω ω ω => trivial) h (fun p ω ω q => .cons p q) h1
theorem item_succ' {G : Gl} {d : Nat} (IH : ItemC G d) : ItemC G (d + 1) := by
  intro fa cl wa ba sya rwa dca n sm tab l fp t hf hc hw hr hok h1 hn
  have hr' := hr
  obtain ⟨rvs, rk1, r1m, hra⟩ := hr'
  have hlen := hok.len
  have hr0 := hra.1
  have c1 := cost_pos d
  have c2 : cost (d + 1) = 4 + 3 * cost d := rfl
  have dd : ((d + 1 : Nat) : Int) = (d : Int) + 1 := by lia
  rw [dd]
  refine hw.out fun ow w1 w2 => ?_
  refine entC (binds := [("feed", .ref fa), ("world", .ref wa), ("deep", .int ((d : Int) + 1) t)]) (by k_is) (by k_is) fun c h l1 V W s1 HC R EX => ?_
  have CF : Cel c l1 "feed" (.ref fa) := HC _ _ _ rfl rfl
  have CW : Cel c l1 "world" (.ref wa) := HC _ _ _ rfl rfl
  have CD : Cel c l1 "deep" (.int ((d : Int) + 1) t) := HC _ _ _ rfl rfl
  refine run_ifX (tex_or_f ((te_eqI (Ev.fix (f := fun t => .int ((d : Int) + 1) t) (ev_cell W CD)) ev_int).gb W (beq_eq_false_iff_ne.mpr (by lia))) fun l2 h2 s2 W2 => tex_or_f ((te_same (teg_eqNil V W2 (ev_dictS W2 (ev_cell W2 (CW.mono s2)) ev_str (W2.inl ((s1.trans s2) _ w1)) w2 rfl) ((s1.trans s2) _ r1m)) (beq_eq_false_iff_ne.mpr (by lia)))) fun l3 h3 s3 W3 => tex_or_x (tex_cmp (call2 W3 (by k_is) (by k_is) (ev_cell W3 (CF.mono (s2.trans s3))) ev_int fun ω ω => useO V W3 (draw_ok hf (hc.mono (s1.trans (s2.trans s3))) (by lia) (by decide)) EX trivial ?_ (by lia))))
  have s4 := s1.trans (s2.trans s3)
  intro r1 t1 fp1 F1 _ _ h4 _ W4 tk4
  have CF4 : Cel c l3 "feed" (.ref fa) := CF.mono (s2.trans s3)
  have CW4 : Cel c l3 "world" (.ref wa) := CW.mono (s2.trans s3)
  refine int_eq_at fun tk5 => or_run (if_run (fun ω => ?_) fun ω => ?_)
  · refine run_retX (call2 W4 (by k_is) (by k_is) (ev_cell W4 CF4) (ev_cell W4 CW4) fun ω ω => useO V W4 (leaf_ok F1 (hc.mono s4) (hw.mono s4) (hr.mono s4) hok h1 (by lia)) EX trivial ?_ (by lia))
    exact fun v n' it fp' l' h1 h2 h3 h4 h5 h6 ω ω W2 tk => R tk (fun R k => k v n' it fp' l' h1 (by lia) (by lia) h4 (h5.le (Nat.le_refl _) (by lia)) (s4.trans h6)) W2
  refine run_ifX (tex_cmp (call2 W4 (by k_is) (by k_is) (ev_cell W4 CF4) ev_int fun ω ω => useO V W4 (draw_ok F1 (hc.mono s4) (by lia) (by decide)) EX trivial ?_ (by lia)))
  intro r2 t2 fp2 F2 _ _ h5 _ W5 tk5
  refine int_eq_at fun tk6 => if_run (fun ω => ?_) fun ω => ?_
  · refine run_setX (ex_tups (itss := odds.take 3) (txs_cons (tx_tup (ixs_cons (ix_sym W5 ev_str (by decide)) fun ω ω ω W => ixs_cons (ix_sym W ev_str (by decide)) fun ω ω ω W => ixs_nil W) (by decide)) fun ω ω ω W => txs_cons (tx_tup (ixs_cons (ix_sym W ev_str (by decide)) fun ω ω ω W => ixs_cons (ix_sym W ev_str (by decide)) fun ω ω ω W => ixs_nil W) (by decide)) fun ω ω ω W => txs_cons (tx_tup (ixs_cons (ix_num W ev_int) fun ω ω ω W => ixs_cons (ix_sym W ev_str (by decide)) fun ω ω ω W => ixs_nil W) (by decide)) fun ω ω ω W => txs_nil W) (by decide) fun D vs l6 h6 hts s6 W6 tk7 => store_run W6 fun h7 W7 => ?_)
    have s7 : Sub l3 ((D, listOf vs.toArray 0) :: l6) := s6.trans (Sub.cons (Sub.refl l6))
    refine run_retX (ex_tup (xs_ev ev_str fun ω => xs_ex (ex_sub (ex_bin (Ev.ex (ev_loc W7 rfl) fun ω tk8 => ?_)))))
    refine (ex_tups (itss := [[.sym "_", .sym "BitVec", .sym "P"]]) (txs_cons (tx_tup (ixs_cons (ix_sym W7 ev_str (by decide)) fun ω ω ω W => ixs_cons (ix_sym W ev_str (by decide)) fun ω ω ω W => ixs_cons (ix_sym W ev_str (by decide)) fun ω ω ω W => ixs_nil W) (by decide)) fun ω ω ω W => txs_nil W) (by decide) fun D2 ws l8 h8 hts2 s8 W8 tk9 => ?_).go tk8
    have hl1 := hts.length
    have hl2 := hts2.length
    simp [odds] at hl1 hl2
    refine add_lists_at W8 (List.mem_cons_of_mem _ (s8 _ List.mem_cons_self)) List.mem_cons_self (by lia) fun D3 h9 W9 tk10 => ?_
    have s9 : Sub l3 ((D3, listOf (vs ++ ws).toArray 0) :: (D2, listOf ws.toArray 0) :: l8) := (s7.trans s8).trans (Sub.cons (Sub.cons (Sub.refl l8)))
    refine (call2 W9 (by k_is) (by k_is) (ev_cell W9 (CF4.mono s9)) ev_int fun ω ω => useO V W9 (draw_ok F2 (hc.mono (s4.trans s9)) (by lia) (by decide)) EX trivial ?_ (by lia)).go tk10
    intro r3 t3 fp3 F3 b5 b6 h10 _ W10 tk11
    have T4 : TupsAre ((D3, listOf (vs ++ ws).toArray 0) :: (D2, listOf ws.toArray 0) :: l8) (vs ++ ws) odds := (hts.mono (((Sub.cons (Sub.refl l6)).trans s8).trans (Sub.cons (Sub.cons (Sub.refl l8))))).append (hts2.mono (Sub.cons (Sub.cons (Sub.refl l8))))
    obtain ⟨v, hv⟩ : ∃ v, (vs ++ ws)[r3.toNat]? = some v := ⟨_, List.getElem?_eq_getElem (by simp; lia)⟩
    obtain ⟨a, us, its, rfl, hits, ht, hi⟩ := T4.get hv
    obtain ⟨ho, hz⟩ := odds_over (k := tab.length) (n := d + 1) h1 (List.mem_of_getElem? hits)
    refine sub_list_at W10 (W10.inl List.mem_cons_self) b5 (by lia) hv (args_nil (newTuple_at W10 (sz_le rfl) fun D4 h11 W11 tk12 => ?_))
    exact R tk12 (fun R k => k _ _ (.list its) _ _ F3 (by lia) (by lia) (.list mem_tup (ht.mono (Sub.cons (Sub.refl _))) (hi.mono (Sub.cons (Sub.refl _))) (by rw [hi.length]; exact hz)) ho ((s4.trans s9).trans (Sub.cons (Sub.refl _)))) W11
  have ROWS {p1 p2 p3 j} := ev_dictS (p := p1) (e₁ := .Name (Str.ofString "world") p2) (e₂ := .Constant (.str (Str.ofString "rows")) j p3) W5 (ev_cell W5 CW4) ev_str (W5.inl (s4 _ w1)) w2 (v := .ref rwa) rfl
  refine run_tupX (ex_sub (Ev.ex ROWS fun ω tk7 => (call2 W5 (by k_is) (by k_is) (ev_cell W5 CF4) (ev_lenL W5 ROWS (W5.inl (s4 _ r1m)) (by simp; lia) (by k_is)) fun ω ω => useO V W5 (draw_ok F2 (hc.mono s4) (by lia) (by simp; lia)) EX trivial ?_ (by lia)).go tk7))
  intro r3 t3 fp3 F3 b5 b6 h6 _ W6 tk8
  simp only [List.size_toArray] at b6
  have hj : r3.toNat < rvs.length := by lia
  obtain ⟨r, hr1, hrow⟩ := hra.2 r3.toNat rvs[r3.toNat] (List.getElem?_eq_getElem hj)
  refine sub_list_at (v := rvs[r3.toNat]) W6 (W6.inl (s4 _ r1m)) b5 (by lia) (List.getElem?_eq_getElem hj) ?_
  refine hrow.out (R := fun v => wpAny G.M c.A (assign _ c.env v) _ _ _) fun ra rt pa ps bv q2 q3 q4 q5 q6 => ?_
  have hps := q4.length
  have hp2 := (hok.row _ r hr1).2.1
  have hnm := (hok.row _ r hr1).1
  refine run_set3 V W6 (q2.mono s4) fun h7 W7 => ?_
  refine run_setX (ex_bin (Ev.ex (ev_lenT W7 (ev_loc W7 rfl) (q3.mono s4) (by lia) (by k_is)) fun ω tk9 => (ex_ifX (tex_cmp (call2 W7 (by k_is) (by k_is) (ev_cell W7 CF4) ev_int fun ω ω => useO V W7 (draw_ok F3 (hc.mono s4) (by lia) (by decide)) EX trivial ?_ (by lia)))).go tk9))
  intro r4 t4 fp4 F4 _ _ h8 _ W8 tk10
  refine int_eq_at fun tk11 => if_ints fun t5 tk12 => add_int_at fun t6 tk13 => store_run W8 fun h9 W9 => ?_
  obtain ⟨cnt, hcnt, hcz⟩ : ∃ cnt : Nat, (ps.length : Int) + (if (r4 == 8) = true then 1 else 0) = cnt ∧ cnt ≤ 3 := by
    by_cases hb : (r4 == 8) = true
    · exact ⟨ps.length + 1, by rw [if_pos hb]; lia, by lia⟩
    · exact ⟨ps.length, by rw [if_neg hb]; lia, by lia⟩
  rw [hcnt] at W9
  have jl : rk r.name < tab.length := by rw [hnm, rk_nameAt _ (by lia)]; lia
  refine run_if (te_eqI (ev_locT W9 rfl) ev_int) (fun ω => ?_) fun hb => ?_
  · exact run_retX (IX.ex W9 (ix_sym W9 (ev_locT W9 rfl) q6) fun v l' h' hi s W' tk' => R tk' (fun R k => k v _ (.sym r.name) _ l' F4 (by lia) (by lia) hi jl (s4.trans s)) W')
  have hc0 : cnt ≠ 0 := fun z => by rw [z] at hb; simp at hb
  refine run_retX (ex_tup (xs_ev ev_str fun tL => xs_ex (ex_bin (TX.ex W9 (tx_tup (ixs_cons (ix_sym W9 (ev_locT W9 rfl) q6) fun ω ω ω W => ixs_nil W) (by simp)) fun a0 us l10 h10 ht0 hi0 s10 W10 tk14 => ?_))))
  refine (call_T W10 (by k_is) rfl (ex_comp (c := c) (by with_unfolding_all rfl) (call_T W10 (by k_is) rfl (Ev.ex (ev_loc W10 rfl) fun ω tk15 => range_at W10 fun Dr h11 u1 u2 u3 hrg W11 => ?_)))).go tk14
  have s11 : Sub l l10 := s4.trans s10
  have ht1 := hi0.length
  refine cmp_rng (cnt := cnt) (d' := d + 3) (fn := .ref 885) (args := fun ω u => [.ref fa, .ref wa, .int ((d : Int) + 1 - 1) u]) (Inv := fun i ys fp' l' => Sub l10 l' ∧ ∃ n' its, FeedSt G.w cl fa n' sm fp' ∧ n + 4 ≤ n' ∧ n' ≤ n + 4 + i * cost d ∧ IsIts l' ys its ∧ ∀ x ∈ its, Over tab.length (d + 2) x) (Xc := Out NoX) V W11 hrg rfl (by lia) EX (fun ω ω ω q ω => (q (fun ω ω ω => False) trivial).elim) ?_ ⟨Sub.refl _, n + 4, [], by rw [show n + 4 = n + 1 + 1 + 1 + 1 by lia]; exact F4, by lia, by simp, .nil, by simp⟩ ?_ ?_ ?_ (by lia)
  · intro i t hi C h mC news tk Q' E' hn hx F N sN hcall
    exact ce_call F (by k_is) (by k_is) fun tk => ce_args (ce_cell N sN (CF4.mono s10)) fun ω tk => ce_args (ce_cell N sN (CW4.mono s10)) fun ω tk => ce_args (ce_sub (Ce.fix (f := fun t => .int ((d : Int) + 1) t) (ce_cell N sN (CD.mono (s2.trans (s3.trans s10))))) ce_int) fun ω tk => args_nil ⟨G.X.keeps F.keep, hcall _ _⟩
  · rintro i ys fp' l' ⟨_, n', its, q, _⟩
    exact FeedSt.map F4 q
  · rintro i v u ys fp' l' hi ⟨s12, n', its, z1, z2, z3, z4, z5⟩
    have e1 : (d : Int) + 1 - 1 = d := by lia
    have e2 : (i : Int) * cost d ≤ 2 * cost d := Int.mul_le_mul_of_nonneg_right (by lia) (by lia)
    have e3 : ((i + 1 : Nat) : Int) * cost d = i * cost d + cost d := by rw [Int.natCast_add, Int.add_mul]; simp
    rw [e1]
    have s13 := s11.trans s12
    refine @Ct.to _ _ _ _ _ _ _ _ _ _ _ (IH (t := u) z1 (hc.mono s13) (hw.mono s13) (hr.mono s13) hok h1 (by lia)) (Nat.le_refl _) ?_ trivial
    intro v' n2 it fp2 l2 y1 y2 y3 y4 y5 y6 _
    exact ⟨s12.trans y6, n2, its ++ [it], y1, by lia, by lia, IsIts.snoc y4 (z4.mono y6), fun x hx => by
      rcases List.mem_append.mp hx with hx | hx
      · exact z5 x hx
      · rw [List.mem_singleton.mp hx]; exact y5⟩
  · rintro D ys fp' l' h12 k ⟨s12, n', its, z1, z2, z3, z4, z5⟩ hyl W12 _ tk17
    refine tuple_of_at W12 List.mem_cons_self (by lia) fun D2 h13 W13 tk18 => ?_
    have hc1 : (cnt : Int) * cost d ≤ 3 * cost d := Int.mul_le_mul_of_nonneg_right (by lia) (by lia)
    have sD : Sub l' ((D2, tupO ys) :: (D, listOf ys.toArray k) :: l') := Sub.cons (Sub.cons (Sub.refl l'))
    have hus : us ≠ [] := fun z => by rw [z] at ht1; simp at ht1
    have hys : ys ≠ [] := fun z => by rw [z] at hyl; simp at hyl; lia
    refine add_tuples_at W13 (ht0.mono (s12.trans sD)) mem_tup hus hys (by simp at ht1; lia) fun D3 h14 W14 tk19 => args_nil (newTuple_at W14 (sz_le rfl) fun D4 h15 W15 tk20 => ?_)
    have sE : Sub l' ((D4, tupO [Value.str (Str.ofString "list") tL, Value.ref D3]) :: (D3, tupO (us ++ ys)) :: (D2, tupO ys) :: (D, listOf ys.toArray k) :: l') := sD.trans (Sub.cons (Sub.cons (Sub.refl _)))
    have hil := z4.length
    have hall : IsIts ((D4, tupO [Value.str (Str.ofString "list") tL, Value.ref D3]) :: (D3, tupO (us ++ ys)) :: (D2, tupO ys) :: (D, listOf ys.toArray k) :: l') (us ++ ys) (.sym r.name :: its) := (hi0.mono (s12.trans sE)).append (z4.mono sE)
    refine R tk20 (fun R k => k _ n' (.list (.sym r.name :: its)) _ _ z1 (by lia) (by lia) (.list mem_tup (mem_tup.mono (Sub.cons (Sub.refl _))) hall (by simp at ht1; simp; lia)) (fun x hx => ?_) ((s11.trans s12).trans sE)) W15
    rcases List.mem_cons.mp hx with rfl | hx
    · exact jl
    · exact z5 x hx
theorem item_ok {G : Gl} : ∀ d, ItemC G d
  | 0 => item_zero'
  | d + 1 => item_succ' (item_ok d)
end
section --A7
open PySem PySem.W PyProof.Rows PySem.Calls PySem.Spec PyProof.V PySem.SeqAt
set_option maxHeartbeats 400000
theorem TabIn.out {w : World} {l : Led} {ta : Addr} {π : Str → Option It} {R : Prop} (H : TabIn w l ta π) (k : ∀ o kvs, (ta, o) ∈ l → o.IsDictOf (PySem.strKind PG w) kvs → (ta == sysModules) = false → (∀ s v0, IsIt l v0 (.sym s) → IsIt l ((valueAt kvs s).getD v0) (putIt π (.sym s))) → R) : R := by
  obtain ⟨o, kvs, h1, h2, h3, h4⟩ := H
  refine k o kvs h1 h2 h3 fun s v0 h0 => ?_
  have := h4 s
  unfold putIt
  cases hp : π s with
  | none => rw [hp] at this; rw [this]; exact h0
  | some it =>
    rw [hp] at this
    obtain ⟨v, e, iv⟩ := this
    rw [e]
    exact iv
noncomputable def PutC (G : Gl) (d : Nat) : Prop :=
  ∀ {v : Value} {ta : Addr} {it : It} {π : Str → Option It} {l fp : Led}, TabIn G.w l ta π → IsIt l v it → Deep d it →
    Ct G (.ref 890) [v, .ref ta] (d + 1) fp l (fun R => ∀ r l', IsIt l' r (putIt π it) → Sub l l' → R r fp l') NoX
theorem putIt_list {π : Str → Option It} {xs : List It} (h : (headIs "_" xs || (xs.length == 0)) = true) : putIt π (.list xs) = .list xs := by
  cases xs with
  | nil => unfold putIt; rfl
  | cons x xs =>
    rw [headIs_eq] at h
    unfold putIt
    rw [if_pos (by simpa using h)]
theorem putIt_cons {π : Str → Option It} {x : It} {xs : List It} (h : headIs "_" (x :: xs) = false) : putIt π (.list (x :: xs)) = .list (x :: xs.map (putIt π)) := by
  rw [headIs_eq] at h
  unfold putIt
  rw [if_neg (by rw [h]; exact Bool.false_ne_true), putAll_map]
theorem put_step {G : Gl} {d : Nat} (IH : PutC G d) : PutC G (d + 1) := by
  intro v ta it π l fp hT hi hdp
  obtain ⟨a, tag, t, x, rfl, ht, _, hx⟩ := hi.tup
  refine hT.out fun ot kvs t1 t2 t3 t4 => ?_
  refine entC (binds := [("item", .ref a), ("table", .ref ta)]) (by k_is) (by k_is) fun c h l1 V W s1 HC R EX => ?_
  have CT : Cel c l1 "table" (.ref ta) := HC _ _ _ rfl rfl
  have TAG {p1 p2 p3 j} := ev_itemT (ii := j) (p := p1) (p' := p2) (f := fun t => .str tag t) W (ev_loc (p := p3) (x := "item") W rfl) (ht.mono s1) (k := 0) rfl
  refine run_if (te_eqS TAG ev_str) (fun hb => ?_) fun hb => ?_
  · obtain ⟨s, u, rfl, rfl, hs⟩ := hx.sy (eq_of_beq hb)
    · exact run_ret R.sq (ev_get W (ev_cell W CT) (W.inl (s1 _ t1)) t2 t3 (ev_itemT (f := fun t => .str s t) W (ev_loc W rfl) (ht.mono s1) rfl) (ev_loc W rfl)) W fun ω R k => k _ _ ((t4 s _ hi).mono s1) s1
  by_cases hl : tag = "list"
  · obtain ⟨b, vs, xs, rfl, rfl, hb2, hxs, hvl⟩ := hx.lst hl
    subst hl
    refine run_ifG W (b := headIs "_" xs || (xs.length == 0)) (teg_or_f ((te_neS TAG ev_str).g W) fun l2 h2 s2 W2 => ?_) (fun l2 h2 s2 W2 hb => ?_) fun l2 h2 s2 W2 hb => ?_
    · cases hh : headIs "_" xs with
      | true => exact teg_or_t (te_same (teg_front1 V W2 (ev_item W2 (ev_loc W2 rfl) (ht.mono (s1.trans s2)) rfl) (hb2.mono (s1.trans s2)) (hxs.mono (s1.trans s2)) hvl) hh)
      | false =>
        refine teg_or_f (te_same (teg_front1 V W2 (ev_item W2 (ev_loc W2 rfl) (ht.mono (s1.trans s2)) rfl) (hb2.mono (s1.trans s2)) (hxs.mono (s1.trans s2)) hvl) hh) fun l3 h3 s3 W3 => ?_
        exact teg_or1 (te_same (teg_eqUnit V W3 (ev_item W3 (ev_loc W3 rfl) (ht.mono ((s1.trans s2).trans s3)) rfl) (hb2.mono ((s1.trans s2).trans s3))) (by rw [hxs.length, Bool.false_or]))
    · exact run_ret R.sq (ev_loc W2 rfl) W2 fun ω R k => k _ _ (by rw [putIt_list hb]; exact hi.mono (s1.trans s2)) (s1.trans s2)
    · have hb := Bool.or_eq_false_iff.mp hb
      cases hxs with
      | nil => exact absurd hb.2 (by decide)
      | @cons v0 vr x0 xr i0 ir =>
      have s3 := s1.trans s2
      have hdp : ∀ x ∈ xr, Deep d x := fun x hx => hdp x (List.mem_cons_of_mem _ hx)
      simp only [List.length_cons] at hvl
      refine run_retX (ex_tup (xs_ev ev_str fun tL => xs_ex (ex_bin (ex_front (k := 1) W2 (ev_item W2 (ev_loc W2 rfl) (ht.mono s3) rfl) (hb2.mono s3) rfl (by simp; lia) fun D l4 h4 hD s4 W4 tk4 => ?_))))
      have s5 := s3.trans s4
      refine (call_T W4 (by k_is) rfl (ex_comp (c := c) (by with_unfolding_all rfl) (ex_tail2 (k := 1) W4 (ev_item W4 (ev_loc W4 rfl) (ht.mono s5) rfl) (hb2.mono s5) rfl (by decide) (by simp) (by simp; lia) fun D2 h5 W5 => ?_))).go tk4
      have s6 : Sub l ((D2, tupO vr) :: l4) := s5.trans (Sub.cons (Sub.refl l4))
      refine cmp_tup (d' := d + 1) (vs := vr) (fn := .ref 890) (args := fun v ω => [v, .ref ta]) (Inv := fun i ys fp' l' => fp' = fp ∧ Sub ((D2, tupO vr) :: l4) l' ∧ IsIts l' ys ((xr.take i).map (putIt π))) (Xc := Out NoX) V W5 ⟨_, _, List.mem_cons_self, rfl, rfl⟩ (by lia) EX (fun ω ω ω q ω => (q (fun ω ω ω => False) trivial).elim) ?_ ⟨rfl, Sub.refl _, .nil⟩ ?_ ?_ ?_ (by lia)
      · intro i v hv C h mC news tk Q' E' hn hx F N sN hcall
        exact ce_call F (by k_is) (by k_is) fun tk => ce_args (ce_loc hn hx) fun ω tk => ce_args (ce_cell N sN (CT.mono ((s2.trans s4).trans (Sub.cons (Sub.refl l4))))) fun ω tk => args_nil ⟨G.X.keeps F.keep, hcall _ 0⟩
      · rintro i ys fp' l' ⟨rfl, _⟩
        rfl
      · rintro i v u ys fp' l' hv ⟨rfl, s7, q⟩
        obtain ⟨x, hx, ix⟩ := ir.get hv
        have s8 := s6.trans s7
        refine @Ct.to _ _ _ _ _ _ _ _ _ _ _ (IH (hT.mono s8) (ix.mono s8) (hdp x (List.mem_of_getElem? hx))) (Nat.le_refl _) ?_ trivial
        intro r l' hr s9 _
        refine ⟨rfl, s7.trans s9, ?_⟩
        rw [List.take_add_one, hx, List.map_append]
        exact IsIts.snoc hr (q.mono s9)
      · rintro D3 ys fp' l' h6 k ⟨rfl, s7, q⟩ hyl W6 _ tk6
        rw [List.take_of_length_le (by rw [ir.length]; exact Nat.le_refl _)] at q
        refine tuple_of_at W6 List.mem_cons_self (by lia) fun D4 h7 W7 tk7 => ?_
        have s8 : Sub l4 ((D4, tupO ys) :: (D3, listOf ys.toArray k) :: l') := ((Sub.cons (Sub.refl l4)).trans s7).trans (Sub.cons (Sub.cons (Sub.refl l')))
        refine add_tups_at W7 (hD.mono s8) mem_tup (by simp; lia) fun D5 l8 h8 hD5 s9 W8 tk8 => args_nil (newTuple_at W8 (sz_le rfl) fun D6 h9 W9 tk9 => ?_)
        have sE : Sub l' ((D6, tupO [Value.str (Str.ofString "list") tL, Value.ref D5]) :: l8) := ((Sub.cons (Sub.cons (Sub.refl l'))).trans s9).trans (Sub.cons (Sub.refl l8))
        have sF : Sub l ((D6, tupO [Value.str (Str.ofString "list") tL, Value.ref D5]) :: l8) := (s6.trans s7).trans sE
        refine R tk9 (fun R k => k _ _ ?_ sF) W9
        rw [putIt_cons hb.1]
        exact .list mem_tup (hD5.mono (Sub.cons (Sub.refl l8))) (.cons (i0.mono sF) (q.mono sE)) (by simp; lia)
  · refine run_ifG W (b := true) (teg_or_t ((te_neS TAG ev_str).gb W (by simpa using hl))) (fun l2 h2 s2 W2 ω => ?_) fun ω ω ω ω z => by cases z
    refine run_ret R.sq (ev_loc W2 rfl) W2 fun ω R k => k _ _ ?_ (s1.trans s2)
    rcases hx with ⟨rfl, _⟩ | ⟨rfl, i, u, rfl, rfl⟩ | ⟨rfl, s', u, rfl, rfl⟩ | ⟨rfl, _⟩
    · exact absurd hb (by decide)
    · exact hi.mono (s1.trans s2)
    · exact hi.mono (s1.trans s2)
    · exact absurd rfl hl
theorem put_ok {G : Gl} : ∀ d, PutC G d
  | 0 => fun ω ω h => h.elim
  | d + 1 => put_step (put_ok d)
theorem nb {b : Bool} (h : (!b) = true) : b = false := by cases b <;> first | rfl | cases h
theorem nb' {b : Bool} (h : (!b) = false) : b = true := by cases b <;> first | rfl | cases h
theorem is_ground_ok {G : Gl} {n : Nat} {v : Value} {it : It} {wa ba sya rwa dca : Addr} {tab : List Row} {l fp : Led} (hw : WldIn G.w l wa ba sya rwa dca) (hr : RowsIn l rwa tab) (hi : IsIt l v it) :
    Ct G (.ref 897) [v, .ref wa] (n + 2) fp l (fun R => ∀ l', Sub l l' → R (.bool (isGround tab it)) fp l') NoX := by
  obtain ⟨a, tag, t, x, rfl, ht, _, hx⟩ := hi.tup
  refine hw.out fun ow w1 w2 => ?_
  refine ent (binds := [("item", .ref a), ("world", .ref wa)]) (by k_is) (by k_is) fun c h V W R EX => ?_
  have TAG {p1 p2 p3 j} := ev_itemT (ii := j) (p := p1) (p' := p2) (f := fun t => .str tag t) W (ev_loc (p := p3) (x := "item") W rfl) ht (k := 0) rfl
  refine run_if (te_eqS TAG ev_str) (fun hb => ?_) fun hb => ?_
  · obtain ⟨s, u, rfl, rfl, hs⟩ := hx.sy (eq_of_beq hb)
    · refine be_ret R.sq W (be_or (be_in3 W (ev_itemT (f := fun t => .str s t) W (ev_loc W rfl) ht rfl)) fun l2 h2 s2 W2 ω => be_one (be_row V W2 (ev_itemT (f := fun t => .str s t) W2 (ev_loc W2 rfl) (ht.mono s2) rfl) (ev_dictS W2 (ev_loc W2 rfl) ev_str (W2.inl (s2 _ w1)) w2 rfl) (hr.mono s2) fun h3 l3 s3 W3 => ev_dictS W3 (ev_loc W3 rfl) ev_str (W3.inl ((s2.trans s3) _ w1)) w2 rfl)) fun l' s R k => ?_
      exact k l' s
  have NL : ∀ {rest : List Stmt} {l' : Led} {h' : Heap} {m : Str → Option Value} {j : Nat} {p p' : Pos}, At c m fp l' h' → Sub l l' → isGround tab it = false → Run c (Sq c c.Q rest) h' [.Return (some (.Constant (.bool false) j p)) p'] := fun W' s e => run_ret R.sq (f := fun ω => .bool false) (fun ω ω ω q => Constant_bool (q 0 _)) W' fun ω R k => e ▸ k _ s
  by_cases hl : tag = "list"
  · subst hl
    obtain ⟨b, vs, xs, rfl, rfl, hb2, hxs, hvl⟩ := hx.lst rfl
    have LEN {p1 p2 p3 p4 p5 j} := ev_lenT (p := p1) (p' := p2) W (ev_item (ii := j) (p := p3) (p' := p4) W (ev_loc (p := p5) (x := "item") W rfl) ht (k := 1) rfl) hb2 (by lia) (by k_is)
    by_cases h3 : vs.length = 3
    · have hl3 := hxs.length
      obtain ⟨v0, v1, v2, rfl⟩ := three h3
      obtain ⟨x0, x1, x2, rfl⟩ := three (hl3.symm.trans h3)
      cases hxs with | cons i0 r => cases r with | cons i1 r => cases r with | cons i2 r =>
      obtain ⟨a2, tag2, t2, y, rfl, ht2, _, hy⟩ := i2.tup
      rw [isGround_three] at *
      refine run_ifG W (b := !(isSym "_" x0 && isSym "BitVec" x1)) (teg_or_f ((te_neS TAG ev_str).gb W (by decide)) fun l2 h2 s2 W2 => teg_or_f ((te_neI (ev_lenT W2 (ev_item W2 (ev_loc W2 rfl) (ht.mono s2) rfl) (hb2.mono s2) (by simp) (by k_is)) ev_int).gb W2 rfl) fun l3 h3 s3 W3 => teg_or1 (teg_front2 V W3 (ev_item W3 (ev_loc W3 rfl) (ht.mono (s2.trans s3)) rfl) (hb2.mono (s2.trans s3)) (i0.mono (s2.trans s3)) (i1.mono (s2.trans s3)))) (fun l2 h2 s2 W2 hb => ?_) fun l2 h2 s2 W2 hb => ?_
      · exact NL W2 s2 (by rw [nb hb]; rfl)
      · refine be_ret R W2 (be_and (b₁ := (tag2 == "num")) (be_cmp W2 (ev_itemT (f := fun t => .str tag2 t) W2 (ev_item W2 (ev_item W2 (ev_loc W2 rfl) (ht.mono s2) rfl) (hb2.mono s2) rfl) (ht2.mono s2) rfl) ev_str fun ω ω ω ω ω q => eq_str (q _)) (b₂ := numPos x2) fun l3 h3 s3 W3 hb3 => be_one ?_) fun l' s R k => ?_
        · obtain ⟨w, u, rfl, rfl⟩ := hy.nu (eq_of_beq hb3)
          exact be_cmp W3 (ev_itemT (f := fun t => .int w t) W3 (ev_item W3 (ev_item W3 (ev_loc W3 rfl) (ht.mono (s2.trans s3)) rfl) (hb2.mono (s2.trans s3)) rfl) (ht2.mono (s2.trans s3)) rfl) ev_int fun ω ω ω ω ω q => P.gt_int (q _)
        · rw [nb' hb, Bool.true_and] at k
          have e : (tag2 == "num" && numPos x2) = numPos x2 := by
            rcases hy with ⟨rfl, _, _, _, rfl, _⟩ | ⟨rfl, _, _, _, rfl⟩ | ⟨rfl, _, _, _, rfl⟩ | ⟨rfl, _, _, _, _, rfl, _⟩ <;> rfl
          rw [e]
          exact k _ (s2.trans s)
    · refine run_ifG W (b := true) (teg_or_f ((te_neS TAG ev_str).gb W (by decide)) fun l2 h2 s2 W2 => teg_or_t ((te_neI (ev_lenT W2 (ev_item W2 (ev_loc W2 rfl) (ht.mono s2) rfl) (hb2.mono s2) (by lia) (by k_is)) ev_int).gb W2 ?_)) (fun l2 h2 s2 W2 ω => NL W2 s2 ?_) fun ω ω ω ω z => by cases z
      · simpa using fun z : (vs.length : Int) = 3 => h3 (by lia)
      · exact bits3_no (fun z => h3 (hxs.length.trans z))
  · refine run_ifG W (b := true) (teg_or_t ((te_neS TAG ev_str).gb W (by simpa using hl))) (fun l2 h2 s2 W2 ω => NL W2 s2 ?_) fun ω ω ω ω z => by cases z
    rcases hx with ⟨rfl, _⟩ | ⟨rfl, i, u, rfl, rfl⟩ | ⟨rfl, s', u, rfl, rfl⟩ | ⟨rfl, _⟩
    · exact absurd hb (by decide)
    · rfl
    · rfl
    · exact absurd rfl hl
end
section --A8
open PySem PySem.W PyProof.Rows PySem.Calls PySem.Spec PyProof.V PySem.SeqAt
set_option maxHeartbeats 400000
theorem cells_two {cm : Str → Option Value} {n1 n2 : Str} {c1 c2 : Addr} {cells : Led} (h : CellsAre cm [(n1, c1), (n2, c2)] cells) : ∃ o1 o2, cells = [(c1, o1), (c2, o2)] ∧ o1.data = .cell (cm n1) ∧ o2.data = .cell (cm n2) := by
  cases h with | cons a r => cases r with | cons b r => cases r; exact ⟨_, _, rfl, a, b⟩
theorem if_t {b : Bool} {P Q : Prop} (h : b = true) (p : P) : if b = true then P else Q := by rw [if_pos h]; exact p
theorem if_f {b : Bool} {P Q : Prop} (h : b = false) (q : Q) : if b = true then P else Q := by rw [if_neg (by rw [h]; exact Bool.false_ne_true)]; exact q
theorem up_ne {m : Str → Option Value} {x y : Str} {v : Value} (h : y ≠ x) : up m x v y = m y := if_neg h
theorem Te.x {G : Gl} {cs : Scope} {c : Cx G cs} {h : Heap} {e : Expr} {b : Bool} {R : Bool → Shared → Prop} (t : Te c h e b) (k : ∀ tk', R b (c.S h tk')) : TeX c h e R := ⟨fun whole tk => t whole R _ tk k⟩
theorem if_both {G : Gl} {cs : Scope} {c : Cx G cs} {h : Heap} {b : Bool} {Q : Flow → Shared → Prop} {bt bf : List Stmt} {tk : Nat} (h1 : b = true → Run c Q h bt) (h2 : b = false → Run c Q h bf) : if b = true then wpAny G.M c.A (execs bt c.env) Q c.E (c.S h tk) else wpAny G.M c.A (execs bf c.env) Q c.E (c.S h tk) := by
  cases b with
  | true => exact (h1 rfl).go tk
  | false => exact (h2 rfl).go tk
noncomputable def GrdC (G : Gl) (n : Nat) : Prop :=
  ∀ {v : Value} {it : It} {res : Option It} {wa ba sya rwa dca : Addr} {tab : List Row} {l fp : Led}, grd tab n it = some res → WldIn G.w l wa ba sya rwa dca → RowsIn l rwa tab → RowsOk tab → IsIt l v it →
    Ct G (.ref 902) [v, .ref wa] (n + 5) fp l (fun R => ∀ r l', BodyIn l' r res → Sub l l' → R r fp l') NoX
noncomputable def rowHas (tab : List Row) (s : Str) (i : Nat) : Bool := match tab[i]? with
  | some r => hasBody s r
  | none => false
theorem rowHas_r {tab : List Row} {s : Str} {i : Nat} {r : Row} (h : tab[i]? = some r) : rowHas tab s i = hasBody s r := by unfold rowHas; rw [h]
theorem rowHas_eq {tab : List Row} {s : Str} {i : Nat} {r : Row} {l : Led} {bv : Value} (h : tab[i]? = some r) (q : BodyIn l bv r.body) : rowHas tab s i = ((r.name == s) && !(bv == .none)) := by
  rw [rowHas_r h]
  unfold hasBody
  congr 1
  cases hb : r.body with
  | none => rw [hb] at q; rw [show bv = .none from q]; rfl
  | some b =>
    rw [hb] at q
    obtain ⟨a', _, _, _, rfl, _⟩ := IsIt.tup (show IsIt l bv b from q)
    rfl
inductive GrdJ (c1 : Addr) (fp lw : Led) (tab : List Row) (n : Nat) (res : Option It) (k : Nat) (m : Str → Option Value) (fp' l' : Led) : Prop
  | mk (v : Value) (it : It) (oh : Obj) (vh : Option Value) (hg : grd tab k it = some res) (hi : IsIt l' v it) (hm : m "item" = some v) (e : fp' = (c1, oh) :: fp) (hoh : oh.data = .cell vh) (s : Sub lw l') (hk : k ≤ n)
inductive GrdA (c1 : Addr) (fp lw : Led) (tab : List Row) (res : Option It) (k : Nat) (m : Str → Option Value) (fp' l' : Led) : Prop
  | mk (oh : Obj) (s0 : Str) (t0 : Tok) (ya : Addr) (ys : List Value) (kk : Nat) (rs : List (Option It)) (e : fp' = (c1, oh) :: fp) (hoh : oh.data = .cell (some (.str s0 t0))) (ha : m "args" = some (.ref ya)) (hya : (ya, listOf ys.toArray kk) ∈ l') (hrs : RsOk l' ys rs) (hrl : rs.length ≤ 64) (s : Sub lw l') (hg : GrdRes (grd tab k) tab s0 rs res)
theorem ground_step {G : Gl} {n : Nat} (IH : ∀ m, m < n → GrdC G m) : GrdC G n := by
  intro v it res wa ba sya rwa dca tab l fp hres hw hr hok hi
  refine hw.out fun ow w1 w2 => ?_
  obtain ⟨rvs, rk1, r1m, hra⟩ := id hr
  have hlen := hok.len
  have hr0 := hra.1
  refine entS (binds := [("item", v), ("world", .ref wa)]) (by k_is) (by k_is) (fun n => List.pairwise_cons.mpr ⟨fun x hx => by rw [List.mem_singleton.mp hx]; exact Nat.succ_ne_self n, List.pairwise_singleton _ _⟩) fun c h cells V W HC R EX => ?_
  obtain ⟨oh0, oc, rfl, d1, d2⟩ := cells_two HC
  have W0 := W.swap.settle
  have CW : Cel c ((_, oc) :: l) "world" (.ref wa) := ⟨_, oc, rfl, List.mem_cons_self, d2⟩
  have sl : Sub l ((c.L + 1, oc) :: l) := Sub.cons (Sub.refl l)
  refine run_while (J := GrdJ (c.L + 1 + 1) fp ((c.L + 1, oc) :: l) tab n res) (N := n) W0 ⟨v, it, oh0, _, hres, hi.mono sl, rfl, rfl, d1, Sub.refl _, Nat.le_refl n⟩ ?_
  rintro B k m _ l1 h1 ⟨v, it, oh, vh, hg, hi, hm, rfl, hoh, s1, hkn⟩ W1 LOOP RB
  have s1' := sl.trans s1
  refine tex_notCall (call2 W1 (by k_is) (by k_is) (ev_loc W1 hm) (ev_cell W1 (CW.mono s1)) fun ω ω => useO V W1 (is_ground_ok (n := n + 2) (hw.mono s1') (hr.mono s1') hi) EX trivial ?_ (by lia))
  intro l2 s2 h2 _ W2 tk2
  have s3 := s1'.trans s2
  refine wpAny_truthy_bool ?_
  cases k with
  | zero => unfold grd at hg; cases hg
  | succ k =>
  cases hgr : isGround tab it with
  | true =>
    rw [grd, if_pos hgr] at hg
    refine if_f rfl ((run_ret R (ev_loc W2 hm) W2.dropF fun ω R k => k _ _ ?_ s3).go tk2)
    rw [← Option.some.inj hg]
    exact hi.mono s2
  | false =>
  rw [grd, if_neg (by rw [hgr]; exact Bool.false_ne_true)] at hg
  refine if_t rfl (Run.go ?_ tk2)
  have RN : ∀ {l' h' m'} {rest : List Stmt} {j : Nat} {p p' : Pos} {Q}, Rets c Q (Out fun R => ∀ r l', BodyIn l' r res → Sub l l' → R r fp l') → At c m' ((c.L + 1 + 1, oh) :: fp) l' h' → Sub l2 l' → res = none → Run c Q h' (.Return (some (.Constant .none j p)) p' :: rest) := fun R' W' s e => run_ret R' ev_none W'.dropF fun ω R k => k _ _ (by rw [e]; rfl) (s3.trans s)
  have R1 : Rets c B (Out fun R => ∀ r l', BodyIn l' r res → Sub l l' → R r fp l') := fun tk q W => RB _ _ (R tk q W)
  refine run_via (P := GrdA (c.L + 1 + 1) fp l2 tab res k) ?_ ?_
  · obtain ⟨a, tag, t, x, rfl, ht, _, hx⟩ := (hi.mono s2).tup
    have TAG {p1 p2 p3 j} := ev_itemT (ii := j) (p := p1) (p' := p2) (f := fun t => .str tag t) W2 (ev_loc (p := p3) (x := "item") W2 hm) ht (k := 0) rfl
    refine Te.x (te_eqS TAG ev_str) fun tk3 => if_both (fun hb => ?_) fun hb => ?_
    · obtain ⟨s0, u, rfl, rfl, hs⟩ := hx.sy (eq_of_beq hb)
      · refine run_tupX (ex_tup (xs_ev (ev_itemT (f := fun t => .str s0 t) W2 (ev_loc W2 hm) ht rfl) fun tS => xs_ex (ex_list (xs_nil fun tk => newList_at W2 (sz_le rfl) fun D h3 W3 tk3 => args_nil (newTuple_at W3 (sz_le rfl) fun D2 h4 W4 tk4 => run_set2c V W4 mem_tup rfl hoh fun o' h5 hd5 W5 => via_end W5 ⟨o', s0, tS, D, [], 0, [], rfl, hd5, rfl, List.mem_cons_of_mem _ List.mem_cons_self, trivial, by simp, Sub.cons (Sub.cons (Sub.refl l2)), hg⟩)))))
    have NOx : ∀ {l3 h3 tk3 bt j p p'}, At c m ((c.L + 1 + 1, oh) :: fp) l3 h3 → Sub l2 l3 → res = none → (if false = true then wpAny G.M c.A (execs bt c.env) (Sq c (Via c B (GrdA (c.L + 1 + 1) fp l2 tab res k)) []) c.E (c.S h3 tk3) else wpAny G.M c.A (execs [.Return (some (.Constant .none j p)) p'] c.env) (Sq c (Via c B (GrdA (c.L + 1 + 1) fp l2 tab res k)) []) c.E (c.S h3 tk3)) := fun W3 s4 e => if_f rfl ((RN (Rets.sq (Rets.via R1)) W3 s4 e).go _)
    rcases hx with ⟨rfl, _⟩ | ⟨rfl, i, u, rfl, rfl⟩ | ⟨rfl, s0, u, rfl, rfl⟩ | ⟨rfl, b, vs, its, rfl, rfl, hb2, hbs, hvl⟩
    · exact absurd hb (by decide)
    · exact run_ifX (teg_x (teg_and_f ((te_eqS TAG ev_str).gb W2 (by decide))) fun l3 h3 tk3 s4 W3 => NOx W3 s4 (Option.some.inj hg).symm)
    · exact run_ifX (teg_x (teg_and_f ((te_eqS TAG ev_str).gb W2 (by decide))) fun l3 h3 tk3 s4 W3 => NOx W3 s4 (Option.some.inj hg).symm)
    · have LEN : ∀ {l' h'} {p1 p2 p3 p4 p5 j}, At c m ((c.L + 1 + 1, oh) :: fp) l' h' → Sub l2 l' → Ev c h' (.Call (.Name (Str.ofString "len") p1) [.Subscript (.Name (Str.ofString "item") p3) (.Constant (.int 1) j p4) p5] [] p2) (fun t => .int vs.length t) := fun W' s' => ev_lenT W' (ev_item W' (ev_loc W' hm) (ht.mono s') rfl) (hb2.mono s') (by lia) (by k_is)
      by_cases h2l : vs.length < 2
      · have e : some none = some res := by
          rw [← hg]
          cases hbs with
          | nil => rfl
          | @cons _ _ x0 _ _ r => cases r with
            | nil => cases x0 <;> rfl
            | cons _ _ => exact absurd h2l (by simp)
        exact run_ifX (teg_x (teg_and_t ((te_eqS TAG ev_str).gb W2 (by decide)) fun l3 h3 s4 W3 => teg_and_f ((te_gtI (LEN W3 s4) ev_int).gb W3 (decide_eq_false (by lia)))) fun l3 h3 tk3 s4 W3 => NOx W3 s4 (Option.some.inj e).symm)
      cases hbs with
      | nil => exact absurd (by decide) h2l
      | @cons v0 vr x0 xr i0 ir =>
      cases ir with
      | nil => exact absurd (by simp) h2l
      | @cons v1 vr x1 xr i1 ir =>
      obtain ⟨a0, tag0, t0, y0, rfl, ht0, _, hy0⟩ := i0.tup
      have i01 : IsIts l2 (v1 :: vr) (x1 :: xr) := .cons i1 ir
      simp only [List.length_cons] at hvl
      by_cases hs0 : tag0 = "sym"
      · subst hs0
        obtain ⟨s0, u0, rfl, rfl, hs0⟩ := hy0.sy rfl
        refine run_ifX (teg_x (b := s0 != "_") (teg_and_t ((te_eqS TAG ev_str).gb W2 (by decide)) fun l3 h3 s4 W3 => teg_and_t ((te_gtI (LEN W3 s4) ev_int).gb W3 (decide_eq_true (by simp; lia))) fun l4 h4 s5 W4 => teg_and_t ((te_eqS (ev_itemT (f := fun t => .str (Str.ofString "sym") t) W4 (ev_item W4 (ev_item W4 (ev_loc W4 hm) (ht.mono (s4.trans s5)) rfl) (hb2.mono (s4.trans s5)) rfl) (ht0.mono (s4.trans s5)) rfl) ev_str).gb W4 (by decide)) fun l5 h5 s6 W5 => teg_and1 W5 ((te_neS (ev_itemT (f := fun t => .str s0 t) W5 (ev_item W5 (ev_item W5 (ev_loc W5 hm) (ht.mono ((s4.trans s5).trans s6)) rfl) (hb2.mono ((s4.trans s5).trans s6)) rfl) (ht0.mono ((s4.trans s5).trans s6)) rfl) ev_str).g W5)) fun l3 h3 tk3 s4 W3 => ?_)
        by_cases hu : s0 = "_"
        · subst hu
          exact NOx W3 s4 (grd_under hg)
        refine if_t (by simpa using hu) (Run.go ?_ tk3)
        obtain ⟨rs, hrl, hrg, hg2⟩ := grd_list hu hg
        refine run_tupX (ex_tup (xs_ev (ev_itemT (f := fun t => .str s0 t) W3 (ev_item W3 (ev_item W3 (ev_loc W3 hm) (ht.mono s4) rfl) (hb2.mono s4) rfl) (ht0.mono s4) rfl) fun tS => xs_ex (ex_comp (c := c) (by with_unfolding_all rfl) (ex_tail2 (k := 1) W3 (ev_item W3 (ev_loc W3 hm) (ht.mono s4) rfl) (hb2.mono s4) rfl (by decide) (by simp) (by simp; lia) fun D h4 W4 => ?_))))
        have s5 : Sub l2 ((D, tupO (v1 :: vr)) :: l3) := s4.trans (Sub.cons (Sub.refl l3))
        refine cmp_tup (d' := k + 5) (vs := v1 :: vr) (fn := .ref 902) (args := fun v ω => [v, .ref wa]) (Inv := fun i ys fp' l' => fp' = (c.L + 1 + 1, oh) :: fp ∧ Sub ((D, tupO (v1 :: vr)) :: l3) l' ∧ RsOk l' ys (rs.take i)) (Xc := Out NoX) V W4 mem_tup (by simp; lia) EX (fun ω ω ω q ω => (q (fun ω ω ω => False) trivial).elim) ?_ ⟨rfl, Sub.refl _, trivial⟩ ?_ ?_ ?_ (by lia)
        · intro i v hv C h mC news tk Q' E' hn hx F N sN hcall
          exact ce_call F (by k_is) (by k_is) fun tk => ce_args (ce_loc hn hx) fun ω tk => ce_args (ce_cell N sN (CW.mono ((s1.trans s2).trans s5))) fun ω tk => args_nil ⟨G.X.keeps F.keep, hcall _ 0⟩
        · rintro i ys fp' l' ⟨rfl, _⟩
          rfl
        · rintro i v u ys fp' l' hv ⟨rfl, s6, q⟩
          obtain ⟨x, hx, ix⟩ := i01.get hv
          obtain ⟨r, hr1, hr2⟩ := hrg i x hx
          have s7 := s5.trans s6
          refine @Ct.to _ _ _ _ _ _ _ _ _ _ _ (IH k (by lia) hr2 (hw.mono (s3.trans s7)) (hr.mono (s3.trans s7)) hok (ix.mono s7)) (Nat.le_refl _) ?_ trivial
          intro r' l' hr' s8 _
          exact ⟨rfl, s6.trans s8, q.step s8 hr1 hr'⟩
        · rintro D3 ys fp' l' h6 kk ⟨rfl, s6, q⟩ hyl W6 _ tk6
          rw [List.take_of_length_le (by rw [hrl, ← i01.length]; exact Nat.le_refl _)] at q
          have hrl2 : rs.length ≤ 64 := by rw [hrl, ← i01.length]; simp; lia
          exact args_nil (newTuple_at W6 (sz_le rfl) fun D4 h7 W7 tk7 => run_set2c V W7 mem_tup rfl hoh fun o' h8 hd8 W8 => run_next (via_end W8 ⟨o', s0, tS, D3, ys, kk, rs, rfl, hd8, rfl, List.mem_cons_of_mem _ List.mem_cons_self, q.mono (Sub.cons (Sub.cons (Sub.refl l'))), hrl2, (s5.trans s6).trans (Sub.cons (Sub.cons (Sub.refl l'))), hg2⟩))
      · have e : some none = some res := by
          rw [← hg]
          rcases hy0 with ⟨rfl, _⟩ | ⟨rfl, i, u, rfl, rfl⟩ | ⟨rfl, s', u, rfl, rfl⟩ | ⟨rfl, _, _, _, _, rfl, _⟩
          · exact absurd rfl hs0
          all_goals rfl
        exact run_ifX (teg_x (teg_and_t ((te_eqS TAG ev_str).gb W2 (by decide)) fun l3 h3 s4 W3 => teg_and_t ((te_gtI (LEN W3 s4) ev_int).gb W3 (decide_eq_true (by simp; lia))) fun l4 h4 s5 W4 => teg_and_f ((te_eqS (ev_itemT (f := fun t => .str tag0 t) W4 (ev_item W4 (ev_item W4 (ev_loc W4 hm) (ht.mono (s4.trans s5)) rfl) (hb2.mono (s4.trans s5)) rfl) (ht0.mono (s4.trans s5)) rfl) ev_str).gb W4 (beq_eq_false_iff_ne.mpr hs0))) fun l3 h3 tk3 s4 W3 => NOx W3 s4 (Option.some.inj e).symm)
  · rintro m3 _ l3 h3 ⟨oh3, s0, t0, ya, ys, kk, rs, rfl, hoh3, hargs, hya, hrs, hrl, s4, hg2⟩ W3
    have s5 := s3.trans s4
    have RN3 : ∀ {l' h' m'} {rest : List Stmt} {j : Nat} {p p' : Pos}, At c m' ((c.L + 1 + 1, oh3) :: fp) l' h' → Sub l l' → res = none → Run c (Sq c B rest) h' [.Return (some (.Constant .none j p)) p'] := fun W' s e => run_ret (Rets.sq R1) ev_none W'.dropF fun ω R k => k _ _ (by rw [e]; rfl) s
    refine run_compP (c := c) (by with_unfolding_all rfl) (Ev.ex (ev_dictS W3 (ev_cell W3 (CW.mono ((s1.trans s2).trans s4))) ev_str (W3.inl (s5 _ w1)) w2 (v := .ref rwa) rfl) fun ω => cmp_pure_set V W3 (s5 _ r1m) (by lia) (Inv := fun i ys => RowsRel l ys ((tab.take i).filter (hasBody s0))) trivial (turn_filter (rowHas tab s0) ?_ ?_) ?_ ?_)
    · intro C i v h' mC news hv hn hx N sN
      have sN' : Sub l news := fun q hq => sN _ (W3.inl (s5 _ hq))
      obtain ⟨r, hr1, ra, rt, pa, pss, bv, rfl, q2, q3, q4, q5, q6⟩ := hra.2 i v hv
      rw [rowHas_eq hr1 q5]
      exact ct_and2 (ct_eqS (ce_itemT (f := fun t => .str r.name t) N sN' (ce_loc hn hx) q2 rfl) (Ce.fix (f := fun t => .str s0 t) (ce_cellF N (sN _ (W3.inf List.mem_cons_self)) hoh3 rfl))) fun ω => ct_notN (ce_itemT (f := fun ω => bv) (t := 0) N sN' (ce_loc hn hx) q2 rfl)
    · intro i v ys hv hI
      obtain ⟨r, hr1, hr2⟩ := hra.2 i v hv
      cases e : hasBody s0 r with
      | true => rw [rowHas_r hr1, e]; exact RowsRel.yes hI hr1 hr2 e
      | false => rw [rowHas_r hr1, e, if_neg Bool.false_ne_true, Option.toList_none, List.append_nil]; exact RowsRel.no hI hr1 e
    · intro i v s Q E hv hit q
      unfold letOwnedTupleGo
      exact wpAny_pure q
    · intro D found h4 kf hI hfl W4
      rw [List.take_of_length_le (Nat.le_of_eq hr0.symm)] at hI
      have sA : Sub l3 ((D, listOf found.toArray kf) :: l3) := Sub.cons (Sub.refl l3)
      have hargs' : up m3 "found" (.ref D) "args" = some (.ref ya) := (up_ne (by decide)).trans hargs
      have hysl := hrs.length
      refine ja_split rs (fun hja => ?_) fun as hja => ?_
      · exact run_ifG W4 (b := true) (teg_or_t ((te_noneIn V W4 (ev_loc W4 hargs') (sA _ hya) (hrs.mono sA) (by rw [hja]; rfl)).g W4)) (fun l5 h5 s6 W5 ω => RN3 W5 ((s5.trans sA).trans s6) (hg2.of_none hja)) fun ω ω ω ω z => by cases z
      have hst := hg2.of_some hja
      have NI {j p1 p2 p3} : TeG c (up m3 "found" (.ref D)) ((c.L + 1 + 1, oh3) :: fp) ((D, listOf found.toArray kf) :: l3) h4 (.Compare (.Constant .none j p1) [.In] [.Name (Str.ofString "args") p2] p3) false := (te_noneIn V W4 (ev_loc W4 hargs') (sA _ hya) (hrs.mono sA) (by rw [hja]; rfl)).g W4
      refine list_split found (fun hf => ?_) fun y yr hf => ?_
      · exact run_ifG W4 (b := true) (teg_or_f NI fun l5 h5 s6 W5 => teg_or_t (te_same (teg_eqNil V W5 (ev_loc W5 rfl) (s6 _ List.mem_cons_self)) (by rw [hf]; rfl))) (fun l5 h5 s6 W5 ω => RN3 W5 ((s5.trans sA).trans s6) (RowsRel.nil_none (hf ▸ hI) hst)) fun ω ω ω ω z => by cases z
      refine found_elim hI hf hst hok fun ar tr pa ps bv r b hf0 hta htp hsp hib hdb hps hgl => ?_
      have hasl := (hrs.its hja).length
      have hpsl := hsp.length
      refine run_ifG W4 (b := ((ps.length : Int) != (ys.toArray.size : Int))) (teg_or_f NI fun l5 h5 s6 W5 => teg_or_f (te_same (teg_eqNil V W5 (ev_loc W5 rfl) (s6 _ List.mem_cons_self)) (by rw [hf]; rfl)) fun l6 h6 s7 W6 => teg_or1 ((te_neI (ev_lenT W6 (ev_item W6 (ev_itemL W6 (ev_loc W6 rfl) ev_int (W6.inl ((s6.trans s7) _ List.mem_cons_self)) (by decide) (by decide) hf0) (hta.mono ((s5.trans sA).trans (s6.trans s7))) (k := 1) rfl) (htp.mono ((s5.trans sA).trans (s6.trans s7))) (by lia) (by k_is)) (ev_lenL W6 (ev_loc W6 hargs') (W6.inl ((sA.trans (s6.trans s7)) _ hya)) (by simp; lia) (by k_is))).g W6)) (fun l5 h5 s6 W5 hb => ?_) fun l5 h5 s6 W5 hb => ?_
      · exact RN3 W5 ((s5.trans sA).trans s6) (hgl.ne (ne_len (by simpa using hb) hpsl hasl))
      · have hln : ps.length = ys.length := eq_len (by simpa using hb)
        have s7 := (s5.trans sA).trans s6
        have FD {p1 p2 p3 j} := ev_itemL (p := p1) (e₁ := .Name (Str.ofString "found") p2) (e₂ := .Constant (.int 0) j p3) W5 (ev_loc W5 rfl) ev_int (W5.inl (s6 _ List.mem_cons_self)) (by decide) (by decide) hf0
        refine run_setX (call_K W5 (by k_is) (by k_is) (xs_ev (ev_item W5 FD (hta.mono s7) (k := 2) rfl) fun ω => xs_ex (ex_dictzip V W5 (ev_item W5 FD (hta.mono s7) (k := 1) rfl) (htp.mono s7) hsp (ev_loc W5 hargs') ((sA.trans s6) _ hya) ((hrs.its hja).mono (sA.trans s6)) hln (by lia) (fun Dd od h6 W6 TI tk6 => args_nil ⟨W6.K, useO V W6 (put_ok 3 TI (hib.mono (s7.trans (Sub.cons (Sub.refl l5)))) hdb) EX trivial ?_ (by lia) tk6⟩) (by k_is) (by k_is))))
        intro r' l7 hr7 s8 h7 _ W7 tk7
        refine store_run W7 fun h8 W8 => LOOP k _ _ _ h8 (Nat.lt_succ_self k) ⟨r', _, oh3, _, hgl.eq (by lia), hr7, rfl, rfl, hoh3, ?_, Nat.le_of_succ_le hkn⟩ W8
        exact (((s2.trans s4).trans (sA.trans s6)).trans ((Sub.cons (Sub.refl l5)).trans s8)) |> fun z => s1.trans z
theorem ground_ok {G : Gl} (n : Nat) : GrdC G n := by
  induction n using Nat.strongRecOn with
  | _ n ih => exact ground_step ih
end
section --A9
open PySem PySem.W PyProof.Rows PySem.Calls PySem.Spec PyProof.V PySem.SeqAt
set_option maxHeartbeats 400000
theorem DeclIn.out {w : World} {l : Led} {dca : Addr} {dn : Str → Option Int} {R : Prop} (H : DeclIn w l dca dn) (k : ∀ o kvs, (dca, o) ∈ l → o.IsDictOf (PySem.strKind PG w) kvs → (dca == sysModules) = false → (∀ s, match dn s with | none => valueAt kvs s = none | some i => ∃ t, valueAt kvs s = some (.int i t)) → R) : R := by
  obtain ⟨o, kvs, h1, h2, h3, h4⟩ := H
  exact k o kvs h1 h2 h3 h4
theorem number_ok {G : Gl} {v : Value} {res : Option It} {tab : List Row} {dn : Str → Option Int} {wa ba sya rwa dca sn sw bn : Addr} {σ : Bk} {l fp : Led} (hw : WldIn G.w l wa ba sya rwa dca) (hd : DeclIn G.w l dca dn) (B : BankAt l ba sn sw bn) (hb : BodyIn l v res)
    (hg : ∀ it, res = some it → isGround tab it = true ∧ ∀ x y wd, it = .list [x, y, .num wd] → wd ≤ 4096) (hdn : ∀ s, dn s = none → tab.any (declRow s) = false) (h3 : dn "Bool" = none ∧ dn "Int" = none ∧ dn "Real" = none) (hS : BankSt G.w sn sw bn σ fp) :
    Ct G (.ref 909) [.ref wa, v] 6 fp l (fun R => ∀ r σ' fp' l', BankSt G.w sn sw bn σ' fp' → σ.Le σ' → NumIs σ' dn r res → Sub l l' → R r fp' l') NoX := by
  refine hw.out fun ow w1 w2 => ?_
  cases res with
  | none =>
    obtain rfl : v = .none := hb
    refine ent (binds := [("world", .ref wa), ("item", .none)]) (by k_is) (by k_is) fun c h V W R EX => ?_
    refine run_if (b := true) (te_isN (ev_loc W rfl) (.inl rfl)) (fun ω => ?_) fun z => by cases z
    exact run_ret R.sq ev_none W fun ω R k => k _ σ _ _ hS (.refl _) rfl (Sub.refl _)
  | some it =>
    obtain ⟨hg1, hg2⟩ := hg it rfl
    obtain ⟨a, tag, t, x, rfl, ht, _, hx⟩ := IsIt.tup (show IsIt l v it from hb)
    refine ent (binds := [("world", .ref wa), ("item", .ref a)]) (by k_is) (by k_is) fun c h V W R EX => ?_
    refine run_if (b := false) (te_isN (ev_loc W rfl) (.inr ⟨a, rfl⟩)) (fun z => by cases z) fun ω => ?_
    refine run_if (te_eqS (ev_itemT (f := fun t => .str tag t) W (ev_loc W rfl) ht rfl) ev_str) (fun hb => ?_) fun hb => ?_
    · obtain ⟨b, vs, its, rfl, rfl, hb2, hbs, hvl⟩ := hx.lst (eq_of_beq hb)
      obtain ⟨x, y, wd, rfl, hpos⟩ := ground_list hg1
      obtain ⟨v0, v1, cc, u, tw, rfl, hc⟩ := its_three hbs
      refine B.out fun dx es n b1 b2 g1 g2 g3 g4 ω ω ω => ?_
      refine run_retX (meth_inst W (ev_dictS W (ev_loc W rfl) ev_str (W.inl w1) w2 (v := .ref ba) rfl) b1 b2 g4 (by k_is) (by k_is) (by k_is) (by k_is) (xs_ev (ev_itemT (f := fun t => .int wd t) W (ev_item W (ev_item W (ev_loc W rfl) ht rfl) hb2 rfl) hc rfl) fun ω => xs_nil fun tk => ⟨W.K, useO V W (bv_sort_ok B hS) EX ⟨?_, ?_⟩ ?_ (by decide) tk⟩))
      · exact fun ω ω z => absurd z (by lia)
      · exact fun ω ω z => absurd z (by have := hg2 x y wd rfl; lia)
      · exact fun σ' i t fp' h1 h2 h3 h4 h5 h6 ω W2 tk => R tk (fun R k => k _ σ' _ _ h1 h2 ⟨.bits wd, i, t, rfl, rfl, h5⟩ (Sub.refl _)) W2
    · refine hd.out fun od kvs d1 d2 d3 d4 => ?_
      obtain ⟨s, u, rfl, rfl, hs⟩ : ∃ s u, x = .str s u ∧ it = .sym s ∧ s.length ≤ 64 := by
        rcases hx with ⟨_, s, u, z1, z2, z3⟩ | ⟨rfl, i, u, rfl, rfl⟩ | ⟨rfl, s', u, rfl, rfl⟩ | ⟨rfl, _⟩
        · exact ⟨s, u, z1, z2, z3⟩
        · exact absurd hg1 Bool.false_ne_true
        · exact absurd hg1 Bool.false_ne_true
        · exact absurd hb (by decide)
      have d5 := d4 s
      have DE {p1 p2 p3 j} := ev_dictS (p := p1) (e₁ := .Name (Str.ofString "world") p2) (e₂ := .Constant (.str (Str.ofString "declared")) j p3) W (ev_loc W rfl) ev_str (W.inl w1) w2 (v := .ref dca) rfl
      refine run_retX (ex_if (te_notinS W (ev_itemT (f := fun t => .str s t) W (ev_loc W rfl) ht rfl) DE (W.inl d1) d2 d3) (fun hn => ?_) fun hn => ?_)
      · cases hdn' : dn s with
        | some j => rw [hdn'] at d5; obtain ⟨tj, d6⟩ := d5; rw [d6] at hn; cases hn
        | none =>
          have hd0 := hdn s hdn'
          rw [isGround_sym, hd0, Bool.or_false] at hg1
          refine ex_sub (ex_dictlit W fun D o h1 lo hd1 W1 => ps_ev ev_int fun t1 u1 => ps_ev ev_int fun t2 u2 => ps_ev ev_int fun t3 u3 => ps_nil fun tk => dict_made_at W1 .head hd1 fun o' h2 hd2 W2 tk2 => ?_)
          refine (ev_itemT (f := fun t => .str s t) W2 (ev_loc W2 rfl) ht rfl).run fun ts tk3 => ?_
          simp only [Bool.or_eq_true, beq_iff_eq] at hg1
          rcases hg1 with (h | h) | h
          · subst h; exact sub_dictS_at W2 (W2.inf List.mem_cons_self) hd2 (v := .int 1 u2) rfl fun tk4 => R tk4 (fun R k => k _ σ _ _ hS (.refl _) ⟨.int, 1, u2, rfl, rfl, rfl⟩ (Sub.refl _)) W2.dropF
          · subst h; exact sub_dictS_at W2 (W2.inf List.mem_cons_self) hd2 (v := .int 0 u1) rfl fun tk4 => R tk4 (fun R k => k _ σ _ _ hS (.refl _) ⟨.bool, 0, u1, rfl, rfl, rfl⟩ (Sub.refl _)) W2.dropF
          · subst h; exact sub_dictS_at W2 (W2.inf List.mem_cons_self) hd2 (v := .int 2 u3) rfl fun tk4 => R tk4 (fun R k => k _ σ _ _ hS (.refl _) ⟨.real, 2, u3, rfl, rfl, rfl⟩ (Sub.refl _)) W2.dropF
      · cases hdn' : dn s with
        | none => rw [hdn'] at d5; rw [d5] at hn; cases hn
        | some j =>
          rw [hdn'] at d5
          obtain ⟨tj, d6⟩ := d5
          refine Ev.ex (ev_dictS W DE (ev_itemT (f := fun t => .str s t) W (ev_loc W rfl) ht rfl) (W.inl d1) d2 d6) fun ω tk => R tk (fun R k => k _ σ _ _ hS (.refl _) ⟨.decl s, j, tj, grOf_decl (fun z => ?_) (fun z => ?_) (fun z => ?_), rfl, hdn'⟩ (Sub.refl _)) W
          · rw [z, h3.1] at hdn'; cases hdn'
          · rw [z, h3.2.1] at hdn'; cases hdn'
          · rw [z, h3.2.2] at hdn'; cases hdn'
theorem ints_val {vs : List Value} {ns : List Int} (h : IntsAre vs ns) {i : Nat} {w : Int} (e : ns[i]? = some w) : ∃ t, vs[i]? = some (.int w t) := by
  induction h generalizing i with
  | nil => exact nomatch e
  | cons a t _ ih => cases i with
    | zero => cases Option.some.inj e; exact ⟨_, rfl⟩
    | succ i => exact ih e
theorem width_of_ok {G : Gl} {ba sn sw bn : Addr} {σ : Bk} {i wd : Int} {ti : Tok} {l fp : Led} (B : BankAt l ba sn sw bn) (hS : BankSt G.w sn sw bn σ fp) (hi : 0 ≤ i) (hwd : σ.widths[i.toNat]? = some wd) :
    Ct G (.ref 130) [.ref ba, .int i ti] 1 fp l (fun R => ∀ t, R (.int wd t) fp l) NoX := by
  refine hS.out (R := fun fp => Ct G _ _ _ fp l (fun R => ∀ t, R (.int wd t) fp l) _) fun an kn aw kw ob h1 h2 h3 h4 => ?_
  refine B.out fun dx es n b1 b2 g1 g2 g3 g4 g5 g6 g7 => ?_
  have hlt : i.toNat < σ.widths.length := (List.getElem?_eq_some_iff.mp hwd).1
  obtain ⟨tr, hr⟩ := ints_val h2 hwd
  refine ent (binds := [("self", .ref ba), ("s", .int i ti)]) (by k_is) (by k_is) fun c h V W R EX => ?_
  have hwl := h4.wlen
  exact run_ret R (f := fun ω => .int wd tr) (ev_itemO (vs := aw.toList) W (ev_attr W (ev_loc W rfl) b1 b2 g2 (by k_is) (by k_is) (by k_is) (by k_is)) (ev_locT (f := fun t => .int i t) W rfl) (W.inf (.tail _ (.head _))) hi (by lia) hr) W fun ω R k => k tr
theorem find_bv_ok {G : Gl} {ba sn sw bn : Addr} {σ : Bk} {i wd : Int} {tw : Tok} {l fp : Led} (B : BankAt l ba sn sw bn) (hS : BankSt G.w sn sw bn σ fp) (hi : σ.Bits wd i) :
    Ct G (.ref 534) [.ref ba, .int wd tw] 1 fp l (fun R => ∀ t, R (.int i t) fp l) NoX := by
  refine hS.out (R := fun fp => Ct G _ _ _ fp l (fun R => ∀ t, R (.int i t) fp l) _) fun an kn aw kw ob h1 h2 h3 h4 => ?_
  refine B.out fun dx es n b1 b2 g1 g2 g3 g4 g5 g6 g7 => ?_
  obtain ⟨t, ht⟩ := hi
  refine ent (binds := [("self", .ref ba), ("width", .int wd tw)]) (by k_is) (by k_is) fun c h V W R EX => ?_
  exact run_ret R (ev_getI W (ev_attr W (ev_loc W rfl) b1 b2 g3 (by k_is) (by k_is) (by k_is) (by k_is)) (W.inf (.tail _ (.tail _ (.head _)))) h3 B.lo ht (ev_locT (f := fun t => .int wd t) W rfl) (ev_neg ev_int)) W fun ω R k => k t
theorem cells_nil {cm : Str → Option Value} {cells : Led} (h : CellsAre cm [] cells) : cells = [] := by cases h; rfl
theorem read_ok {G : Gl} {la : Addr} {oc : Value} {od : Option Addr} {sl : Array (Option Value)} {fd : FuncData} {d : Nat} {l fp : Led} {K KX : Post → Prop} (hla : (la, (⟨oc, od, .func fd, sl⟩ : Obj)) ∈ l) (D : Ct G (.ref la) [] d fp l K KX) (hX : KX fun C ω ω => C = .ref 67 ∨ C = .ref 86) :
    CtS G (.ref 916) [.ref la] (d + 1) fp l (fun R => K R ∧ KX fun ω fp' l' => R .none fp' l') := by
  refine entD (binds := [("deed", .ref la)]) (by k_is) (by k_is) (fun ω => .nil) fun c h cells V W HC R => ?_
  obtain rfl := cells_nil HC
  refine run_try fun tk => wpAny_execs_cons (wpAny_Return_some (Call_ ((ev_loc W rfl).run fun ω tk' => callWith_F0 (FnAt.of W.N (W.inl hla)) ?_) call_name))
  refine Does.use (s := c.S h tk') (loc := []) D.go W.F W.N V.fr rfl V.hk V.Fs V.hh V.room W.Z zl_nil (fun v fp' l' h' tk' q F' N' Z' G' => ?_) fun e C fp' oL' fs' l' h' tk' q Hf hn hL SU g => ?_
  · exact R tk' (fun R k => q R k.1) (TI.SameUp.refl _) (Has.back F' N' Z') (W.G.trans G')
  · refine catch_in V Hf hn hL SU fun oL2 fs2 h2 hf2 hn2 SU2 => ?_
    rcases q _ hX with rfl | rfl
    · exact catch_take R.sq V W.G hf2 hn2 hL SU2 g (by kernel_rfl) (fun A' E' Q' s' F q => nameX_K F G.X (topRead_of G.T) (by k_is) q) (fun A' E' Q' h2 tk F q => wpAny_Constant_none (q _)) fun R k => q _ k.2
    · exact catch_take R.sq V W.G hf2 hn2 hL SU2 g (by kernel_rfl) (fun A' E' Q' s' F q => nameX_K F G.X (topRead_of G.T) (by k_is) q) (fun A' E' Q' h2 tk F q => wpAny_Constant_none (q _)) fun R k => q _ k.2
theorem be_within {G : Gl} {cs : Scope} {c : Cx G cs} {m : Str → Option Value} {fp l : Led} {h : Heap} {lo wd hi : Int} {j1 j2 : Nat} {p p1 p2 : Pos} {e : Expr} (W : At c m fp l h) (e1 : Ev c h e (fun t => .int wd t)) (h1 : lo ≤ wd) (h2 : wd ≤ hi) (hm : autoParam (lastMarks [.LtE, .LtE] [e, .Constant (.int hi) j2 p2] = false) aW) :
    BeG c m fp l h (.Compare (.Constant (.int lo) j1 p1) [.LtE, .LtE] [e, .Constant (.int hi) j2 p2] p) true := ⟨fun Q tk q =>
  Compare_chain (wpAny_Constant_int (chain_link (e1 _ _ _ fun t tk' => P.le_int (wpAny_truthy_bool (by
    rw [decide_eq_true h1]
    refine if_t rfl (chain_last (wpAny_Constant_int (P.le_int ?_)))
    rw [decide_eq_true h2]
    exact q l h _ (Sub.refl l) W))))) hm⟩
theorem width_right_ok {G : Gl} {ra wa ba sya so sn sw bn rwa dca : Addr} {tab : List Row} {dn : Str → Option Int} {σ : Bk} {wd : Int} {tw : Tok} {l fp : Led} (hw : WldIn G.w l wa ba sya rwa dca) (Rd : Rdr G.w l ra ba sya so sn sw bn tab dn) (hB : BankSt G.w sn sw bn σ fp) :
    CtS G (.ref 930) [.ref wa, .ref ra, .int wd tw] 9 fp l (fun R => ∀ σ' fp' l', BankSt G.w sn sw bn σ' fp' → σ.Le σ' → R (.bool true) fp' l') := by
  refine hw.out fun ow w1 w2 => ?_
  obtain ⟨_, ⟨d1, e1, n1, a1, a2, a3, a4, r1, r2, r3, a5, a6⟩, _, _⟩ := id Rd
  have B := Rd.bank
  refine B.out fun dx es n b1 b2 g1 g2 g3 g4 g5 g6 g7 => ?_
  refine entD (binds := [("world", .ref wa), ("reader", .ref ra), ("wide", .int wd tw)]) (by k_is) (by k_is) (fun ω => .nil) fun c h cells V W HC R => ?_
  obtain rfl := cells_nil HC
  refine run_try fun tk => wpAny_execs_cons (wpAny_Assign_Name (meth_instE W (ev_loc W rfl) a1 a2 r1 (by k_is) (by k_is) (by k_is) (by k_is) fun tk2 => args_cons (call_globE W (by k_is) (by k_is) (args_cons ((ev_locT (f := fun t => .int wd t) W rfl).run fun ω tk3 => args_nil ⟨W.K, useR V W bits_ok trivial ?_ (by decide) tk3⟩) (star_of rfl))) (star_of rfl)) rfl)
  intro v l1 hi s1 h1 g1' W1 tk1
  refine args_nil ⟨W1.K, useR V W1 (of_item_ok (read_bits tab 0 _ wd) (Rd.mono s1) hi hB) ?_ ?_ (by decide) tk1⟩
  · intro σ' C fp2 l2 hB2 hle hrn hC hwd e oL' fs' h2 tk2 Hf hn hL SU g
    have hC' := hwd wd rfl
    refine catch_in V Hf hn hL SU fun oL2 fs2 h3 hf2 hn2 SU2 => ?_
    rcases hC' with ⟨rfl, hlt⟩ | ⟨rfl, hgt⟩
    · refine catch_pass (s := c.S h3 tk2) hf2 hn2 hL G.X (c := .ref 86) (by kernel_rfl) (fun A' E' Q' s' F q => nameX_K F G.X (topRead_of G.T) (by k_is) q) ?_
      exact catch_take R.sq V W1.G hf2 hn2 hL SU2 g (by kernel_rfl) (fun A' E' Q' s' F q => nameX_K F G.X (topRead_of G.T) (by k_is) q) (fun A' E' Q' h2 tk F q => wpAny_Compare1 (nameX_L (s := c.S h2 tk) F rfl (wpAny_Constant_int (P.lt_int (q _))))) fun R k => by rw [decide_eq_true hlt]; exact k σ' _ _ hB2 hle
    · exact catch_take R.sq V W1.G hf2 hn2 hL SU2 g (by kernel_rfl) (fun A' E' Q' s' F q => nameX_K F G.X (topRead_of G.T) (by k_is) q) (fun A' E' Q' h2 tk F q => wpAny_Compare1 (nameX_L (s := c.S h2 tk) F rfl (wpAny_Constant_int (P.gt_int (q _))))) fun R k => by rw [decide_eq_true hgt]; exact k σ' _ _ hB2 hle
  · intro σ' g i t fp2 l2 hB2 hle hgg hnum h2 g2 W2 tk2
    obtain ⟨⟨hw1, hw2⟩, rfl⟩ := bits_some hgg
    have hbits := hB2.bits hnum
    have s2 := s1.trans g2.sub
    have s2' := g1'.sub.trans g2.sub
    have B2 := (Rd.mono s2').bank
    refine storeX_L (s := c.S h2 tk2) W2.F W2.N fun h3 F3 N3 => ?_
    have W3 : At c (up (lkC _ [("world", .ref wa), ("reader", .ref ra), ("wide", .int wd tw)]) "found" (.int i t)) fp2 l2 h3 := ⟨F3, N3, W2.Z, W2.G⟩
    refine wpAny_execs_nil ((show Run c c.Q h3 _ from ?_).go _)
    refine be_ret (b := true && (true && true)) (R.now) W3 (be_and (be_within W3 (ev_locT (f := fun t => .int wd t) W3 rfl) hw1 hw2) fun l4 h4 s4 W4 ω => be_and ⟨fun Q tk q => ?_⟩ fun l5 h5 s5 W5 ω => be_one ⟨fun Q tk q => ?_⟩) fun l' s R k => k σ' _ _ hB2 hle
    · exact wpAny_Compare1 ((meth_inst W4 (ev_dictS W4 (ev_loc W4 rfl) ev_str (W4.inl ((s2'.trans s4) _ w1)) w2 (v := .ref ba) rfl) ((s2'.trans s4) _ b1) ((s2'.trans s4) _ b2) g5 (by k_is) (by k_is) (by k_is) (by k_is) (xs_ev (ev_locT (f := fun t => .int i t) W4 rfl) fun ω => xs_nil fun tk => ⟨W4.K, useO V W4 (width_of_ok (B2.mono s4) hB2 hbits.1 hbits.2) exs_no trivial (fun t h5 ω W5 tk5 => (ev_locT (f := fun t => .int wd t) W5 rfl).run fun ω tk6 => eq_int (by rw [beq_self_eq_true]; exact q _ h5 _ (Sub.refl _) W5)) (by decide) tk⟩)).go tk)
    · exact wpAny_Compare1 ((meth_inst W5 (ev_dictS W5 (ev_loc W5 rfl) ev_str (W5.inl ((s2'.trans (s4.trans s5)) _ w1)) w2 (v := .ref ba) rfl) ((s2'.trans (s4.trans s5)) _ b1) ((s2'.trans (s4.trans s5)) _ b2) g7 (by k_is) (by k_is) (by k_is) (by k_is) (xs_ev (ev_locT (f := fun t => .int wd t) W5 rfl) fun ω => xs_nil fun tk => ⟨W5.K, useO V W5 (find_bv_ok (B2.mono (s4.trans s5)) hB2 hnum) exs_no trivial (fun t h6 ω W6 tk6 => (ev_locT (f := fun t => .int i t) W6 rfl).run fun ω tk7 => eq_int (by rw [beq_self_eq_true]; exact q _ h6 _ (Sub.refl _) W6)) (by decide) tk⟩)).go tk)
end
section --A10
open PySem PySem.W PyProof.Rows PySem.Calls PySem.Spec PyProof.V PySem.SeqAt
set_option maxHeartbeats 400000
theorem entry_init_ok {G : Gl} {x dx : Addr} {v1 v2 v3 : Value} :
    CtK G (.ref 639) [.ref x, v1, v2, v3] 1 [(dx, dictOf [] 0)] [(x, instObj 642 dx)] (fun R => ∀ t1 t2 t3 n, x ≠ dx → R .none [(dx, dictOf (putE G "body" t3 v3 (putE G "params" t2 v2 (putE G "sort" t1 v1 []))) n)] [(x, instObj 642 dx)]) := by
  refine entK (binds := [("self", .ref x), ("sort", v1), ("params", v2), ("body", v3)]) (by k_is) (by k_is) fun c h V W R => ?_
  refine run_attr W (ev_loc W rfl) (ev_loc W rfl) (W.inl List.mem_cons_self) .head (by k_is) (by k_is) (by k_is) (by k_is) fun ω t1 h1 W1 => ?_
  refine run_attr W1 (ev_loc W1 rfl) (ev_loc W1 rfl) (W1.inl List.mem_cons_self) .head (by k_is) (by k_is) (by k_is) (by k_is) fun ω t2 h2 W2 => ?_
  refine run_attr W2 (ev_loc W2 rfl) (ev_loc W2 rfl) (W2.inl List.mem_cons_self) .head (by k_is) (by k_is) (by k_is) (by k_is) fun ω t3 h3 W3 => ?_
  exact run_done R W3 fun R k => k t1 t2 t3 _ (W3.Z.ap _ List.mem_cons_self _ (List.mem_append_right _ List.mem_cons_self))
theorem reader_init_ok {G : Gl} {x dx : Addr} {v1 v2 : Value} :
    CtK G (.ref 814) [.ref x, v1, v2] 1 [(dx, dictOf [] 0)] [(x, instObj 850 dx)] (fun R => ∀ t1 t2 n, x ≠ dx → R .none [(dx, dictOf (putE G "symbols" t2 v2 (putE G "bank" t1 v1 [])) n)] [(x, instObj 850 dx)]) := by
  refine entK (binds := [("self", .ref x), ("bank", v1), ("symbols", v2)]) (by k_is) (by k_is) fun c h V W R => ?_
  refine run_attr W (ev_loc W rfl) (ev_loc W rfl) (W.inl List.mem_cons_self) .head (by k_is) (by k_is) (by k_is) (by k_is) fun ω t1 h1 W1 => ?_
  refine run_attr W1 (ev_loc W1 rfl) (ev_loc W1 rfl) (W1.inl List.mem_cons_self) .head (by k_is) (by k_is) (by k_is) (by k_is) fun ω t2 h2 W2 => ?_
  exact run_done R W2 fun R k => k t1 t2 _ (W2.Z.ap _ List.mem_cons_self _ (List.mem_append_right _ List.mem_cons_self))
end
section --A11
open PySem PySem.W PyProof.Rows PySem.Calls PySem.Spec PyProof.V PySem.SeqAt
set_option maxHeartbeats 400000
structure LsOk (ws : List Int) (on ow : Obj) : Prop where
  names : ∃ a k, on = listOf a k ∧ a.size = ws.length
  wid : ∃ a k, ow = listOf a k ∧ IntsAre a.toList ws
noncomputable def strIs (x : Str) : Value → Bool
  | .str z _ => z == x
  | _ => false
noncomputable def allStr (a : Array Value) : Bool := a.toList.all fun v => match v with | .str _ _ => true | _ => false
theorem in_static {prog : Program} {w : World} {A : Around} {E : Value → Shared → Prop} {Q : Value → Shared → Prop} {s : Shared} {K : Frag} {h₀ : Heap} {L a : Addr} {m : Str → Option Value} {o : Obj} {items : Array Value} {n : Nat} {x : Str} {u : Tok} {b : Bool} (F : Fr h₀ L s.heap m) (X : K.In h₀) (ho : K.lookup a = some o)
    (hc : o.cls = .type "tuple") (hd : o.data = .seq items n) (hs : allStr items = true) (hb : items.toList.any (strIs x) = b) (k : Q (.bool b) s) : wpAny (model prog w) A (compareOp .In (.str x u) (.ref a)) Q E s := by
  refine in_tupleAt (strIs x) ⟨o, F.keep _ _ (X _ _ ho), hc, n, hd⟩ (fun y hy => ?_) (by rw [show items.any (strIs x) = b from by rw [← hb]; simp]; exact k)
  have h2 := List.all_eq_true.mp hs y (by simpa using hy)
  cases y with
  | str z t => exact EqAt.str_str _ _ _ _
  | _ => cases h2
structure SymAt (l : Led) (sya dx so br ba : Addr) : Prop where
  ex : ∃ es n, (sya, instObj 775 dx) ∈ l ∧ (dx, dictOf es n) ∈ l ∧ getL "bank" es = some (some (.ref ba)) ∧ getL "sorts" es = some (some (.ref so)) ∧ getL "brought" es = some (some (.ref br)) ∧ getL "declare_sort" es = some none ∧ getL "define_sort" es = some none ∧ getL "bring_sort" es = some none
  lo : (so == sysModules) = false
theorem SymAt.mono {l l' : Led} (s : Sub l l') {sya dx so br ba : Addr} (h : SymAt l sya dx so br ba) : SymAt l' sya dx so br ba := by
  obtain ⟨⟨es, n, h1, h2, h3⟩, lo⟩ := h
  exact ⟨⟨es, n, s _ h1, s _ h2, h3⟩, lo⟩
theorem SymAt.out {l : Led} {sya dx so br ba : Addr} {R : Prop} (H : SymAt l sya dx so br ba) (k : ∀ dx es n, (sya, instObj 775 dx) ∈ l → (dx, dictOf es n) ∈ l → getL "bank" es = some (some (.ref ba)) → getL "sorts" es = some (some (.ref so)) → getL "brought" es = some (some (.ref br)) → getL "declare_sort" es = some none → getL "define_sort" es = some none → getL "bring_sort" es = some none → R) : R := by
  obtain ⟨⟨es, n, h1, h2, h3, h4, h5, h6, h7, h8⟩, _⟩ := H
  exact k _ es n h1 h2 h3 h4 h5 h6 h7 h8
theorem bank_declare_ok {G : Gl} {ba sn sw bn : Addr} {on ow : Obj} {ws : List Int} {nm : Str} {t : Tok} {l : Led} (B : BankAt l ba sn sw bn) (O : LsOk ws on ow) (hz : ws.length ≤ 1000) :
    Ct G (.ref 123) [.ref ba, .str nm t] 1 [(sn, on), (sw, ow)] l (fun R => ∀ on' ow' t', LsOk (ws ++ [0]) on' ow' → R (.int ws.length t') [(sn, on'), (sw, ow')] l) NoX := by
  refine B.out fun dx es n b1 b2 g1 g2 g3 g4 g5 g6 g7 => ?_
  obtain ⟨⟨an, kn, rfl, han⟩, ⟨aw, kw, rfl, haw⟩⟩ := O
  have hawl : aw.size = ws.length := by rw [← Array.length_toList]; exact haw.length
  refine ent (binds := [("self", .ref ba), ("name", .str nm t)]) (by k_is) (by k_is) fun c h V W R EX => ?_
  refine run_app W (ev_attr W (ev_loc W rfl) b1 b2 g1 (by k_is) (by k_is) (by k_is) (by k_is)) .head (by lia) (ev_locT (f := fun t => .str nm t) W rfl) fun t1 h1 W1 => ?_
  refine run_app W1 (ev_attr W1 (ev_loc W1 rfl) b1 b2 g2 (by k_is) (by k_is) (by k_is) (by k_is)) (.tail .head) (by lia) ev_int fun t2 h2 W2 => ?_
  refine run_ret R (ev_sub (ev_lenL W2 (ev_attr W2 (ev_loc W2 rfl) b1 b2 g1 (by k_is) (by k_is) (by k_is) (by k_is)) (W2.inf List.mem_cons_self) (by simp; lia) (by k_is)) ev_int) W2 fun t3 R k => ?_
  rw [show (((an.push (Value.str nm t1)).size : Nat) : Int) - 1 = ws.length from by simp [han]]
  exact k _ _ t3 ⟨⟨_, _, rfl, by simp [han]⟩, ⟨_, _, rfl, ints_push haw⟩⟩
theorem bring_ok {G : Gl} {sya dx so br ba ea : Addr} {oso : Obj} {kvs : List (Str × Value)} {ab : Array Value} {kb : Nat} {nm : Str} {t : Tok} {l : Led} (Sy : SymAt l sya dx so br ba) (hD : oso.IsDictOf (PySem.strKind PG G.w) kvs) (hv : valueAt kvs nm = none) (hz1 : kvs.length ≤ 10) (hz2 : ab.size ≤ 10) (hnm : nm = "P" ∨ nm = "A" ∨ nm = "B" ∨ nm = "C") :
    Ct G (.ref 709) [.ref sya, .str nm t, .ref ea] 1 [(so, oso), (br, listOf ab kb)] l (fun R => ∀ oso' ab' kb' l', oso'.IsDictOf (PySem.strKind PG G.w) (stored kvs nm (.ref ea)) → ab'.size = ab.size + 1 → Sub l l' → R .none [(so, oso'), (br, listOf ab' kb')] l') NoX := by
  have lo := Sy.lo
  refine Sy.out fun dx es n b1 b2 g0 g1 g2 g3 g4 g5 => ?_
  refine ent (binds := [("self", .ref sya), ("name", .str nm t), ("entry", .ref ea)]) (by k_is) (by k_is) fun c h V W R EX => ?_
  have NM {p} := ev_locT (p := p) (x := "name") (f := fun t => .str nm t) W rfl
  refine run_if (b := false || false) (te_or2 (te_cmp NM (ev_glob W (by k_is)) fun ω ω ω ω ω q => in_static W.F G.X (by k_is) rfl rfl (by decide) (by rcases hnm with rfl | rfl | rfl | rfl <;> decide) (q _)) fun ω => te_cmp NM (ev_glob W (by k_is)) fun ω ω ω ω ω q => in_static W.F G.X (by k_is) rfl rfl (by decide) (by rcases hnm with rfl | rfl | rfl | rfl <;> decide) (q _)) (fun z => by cases z) fun ω => ?_
  refine run_if (te_inS W NM (ev_attr W (ev_loc W rfl) b1 b2 g1 (by k_is) (by k_is) (by k_is) (by k_is)) (W.inf List.mem_cons_self) hD lo) (fun z => by rw [hv] at z; cases z) fun ω => ?_
  refine run_setS W (ev_loc W rfl) (ev_attr W (ev_loc W rfl) b1 b2 g1 (by k_is) (by k_is) (by k_is) (by k_is)) NM .head hD (by lia) fun ω h1 o1 hd1 W1 => ?_
  refine run_append W1 (ev_attr W1 (ev_loc W1 rfl) b1 b2 g2 (by k_is) (by k_is) (by k_is) (by k_is)) (.tail .head) (xs_ex (ex_tup (xs_ev ev_str fun t1 => xs_ev (ev_locT (f := fun t => .str nm t) W1 rfl) fun t2 => xs_nil fun tk => newTuple_at W1 (sz_le rfl) fun D h2 W2 tk2 => args_nil (append_at2 W2 (.tail .head) (by lia) fun h3 W3 tk3 => ?_))))
  exact (run_done R W3 fun R k => k _ _ _ _ hd1 (by simp) (Sub.cons (Sub.refl l))).go tk3
end
section --A12
open PySem PySem.W PyProof.Rows PySem.Calls PySem.Spec PyProof.V PySem.SeqAt
set_option maxHeartbeats 400000
theorem perm_mid {α : Type} {a : α} {A B : List α} : (a :: (A ++ B)).Perm ((a :: B) ++ A) := List.perm_append_comm.cons a
noncomputable abbrev entE (G : Gl) (t1 t2 t3 : Tok) (v1 v2 v3 : Value) : List DictEntry := putE G "body" t3 v3 (putE G "params" t2 v2 (putE G "sort" t1 v1 []))
noncomputable def EntMade (G : Gl) (v1 v2 v3 : Value) (x dx : Addr) (fp' l' : Led) : Prop := ∃ t1 t2 t3 n, fp' = [(dx, dictOf (entE G t1 t2 t3 v1 v2 v3) n)] ∧ l' = [(x, instObj 642 dx)]
theorem sym_declare_ok {G : Gl} {sya sdx so br ba sn sw bn : Addr} {on ow oso : Obj} {ws : List Int} {kvs : List (Str × Value)} {ab : Array Value} {kb : Nat} {nm : Str} {t : Tok} {l : Led} (Sy : SymAt l sya sdx so br ba) (B : BankAt l ba sn sw bn) (O : LsOk ws on ow) (hz : ws.length ≤ 1000) (hD : oso.IsDictOf (PySem.strKind PG G.w) kvs) (hv : valueAt kvs nm = none) (hz1 : kvs.length ≤ 10) (hz2 : ab.size ≤ 10) (hnm : nm = "P" ∨ nm = "A" ∨ nm = "B" ∨ nm = "C") :
    Ct G (.ref 716) [.ref sya, .str nm t] 4 ([(so, oso), (br, listOf ab kb)] ++ [(sn, on), (sw, ow)]) l (fun R => ∀ on' ow' oso' ab' kb' ea t' l', LsOk (ws ++ [0]) on' ow' → oso'.IsDictOf (PySem.strKind PG G.w) (stored kvs nm (.ref ea)) → ab'.size = ab.size + 1 → EntryIn l' (.ref ea) ⟨nm, [], none⟩ ws.length → Sub l l' → R (.int ws.length t') ([(so, oso'), (br, listOf ab' kb')] ++ [(sn, on'), (sw, ow')]) l') NoX := by
  refine Sy.out fun dx es n b1 b2 g0 g1 g2 g3 g4 g5 => ?_
  refine B.out fun bdx bes bnn e1 e2 ω ω ω ω ω f6 ω => ?_
  refine ent (binds := [("self", .ref sya), ("name", .str nm t)]) (by k_is) (by k_is) fun c h V W R EX => ?_
  refine run_setX (call_K W (by k_is) (by k_is) (xs_ev (ev_globT (f := fun t => .int 0 t) W (by k_is)) fun t0 => xs_ex (ex_tup (xs_nil fun tk => newTuple_at W (sz_le rfl) fun D h1 W1 tk1 => args_ev ev_none fun ω => xs_nil fun tk2 => ⟨W1.K, make_at (P := EntMade G (.int 0 t0) (.ref D) .none) V W1 (by k_is) (by k_is) (by k_is) (fun x dx ω => entry_init_ok) ?_ ?_ ?_ (by decide) tk2⟩))))
  · exact fun x dx t1 t2 t3 n hne => ⟨rfl, rfl, fun q hq => by rw [List.mem_singleton.mp hq]; exact hne, t1, t2, t3, n, rfl, rfl⟩
  · rintro ea edx _ _ h2 ⟨t1, t2, t3, n, rfl, rfl⟩ W2 _ tk3
    have s2 : Sub l ((ea, instObj 642 edx) :: (D, tupO []) :: l) := Sub.cons (Sub.cons (Sub.refl l))
    refine store_run W2 fun h3 W3 => ?_
    have W3' := W3.perm (perm_mid (a := (edx, dictOf (entE G t1 t2 t3 (.int 0 t0) (.ref D) .none) n)) (A := [(so, oso), (br, listOf ab kb)]) (B := [(sn, on), (sw, ow)]))
    refine exec_expr (meth_inst W3' (ev_loc W3' rfl) (s2 _ b1) (s2 _ b2) g5 (by k_is) (by k_is) (by k_is) (by k_is) (xs_ev (ev_locT (f := fun t => .str nm t) W3' rfl) fun ω => xs_ev (ev_loc W3' rfl) fun ω => xs_nil fun tk => ⟨W3'.K, useF V W3' (bring_ok (Sy.mono s2) hD hv hz1 hz2 hnm) ?_ (by decide) tk⟩))
    intro oso' ab' kb' l4 hD' hab' s4 h4 _ W4 tk4
    have s5 := s2.trans s4
    refine (show Run c c.Q h4 _ from ?_).go tk4
    have W4' := W4.perm ((List.perm_append_comm (l₁ := [(sn, on), (sw, ow)]) (l₂ := [(so, oso'), (br, listOf ab' kb')])).cons (edx, dictOf (entE G t1 t2 t3 (.int 0 t0) (.ref D) .none) n))
    refine run_attrX (meth_inst W4' (ev_attr W4' (ev_loc W4' rfl) (s5 _ b1) (s5 _ b2) g0 (by k_is) (by k_is) (by k_is) (by k_is)) (s5 _ e1) (s5 _ e2) f6 (by k_is) (by k_is) (by k_is) (by k_is) (xs_ev (ev_locT (f := fun t => .str nm t) W4' rfl) fun ω => xs_nil fun tk => ⟨W4'.K, useF (f1 := [(edx, dictOf (entE G t1 t2 t3 (.int 0 t0) (.ref D) .none) n), (so, oso'), (br, listOf ab' kb')]) (f2 := [(sn, on), (sw, ow)]) V W4' (bank_declare_ok (B.mono s5) O hz) ?_ (by decide) tk⟩))
    intro on' ow' t' hO' h5 _ W5 tk5
    refine (ev_loc (x := "entry") W5 rfl).run fun ω tk6 => setattr_at W5 (W5.inl (s4 _ List.mem_cons_self)) .head (by k_is) (by k_is) (by k_is) (by k_is) fun t6 h6 W6 tk7 => (show Run c c.Q h6 _ from ?_).go tk7
    have W7 := W6.settle
    refine run_ret R (f := fun ω => .int ws.length t') (ev_attr W7 (ev_loc W7 rfl) (List.mem_cons_of_mem _ (s4 _ List.mem_cons_self)) List.mem_cons_self rfl (by k_is) (by k_is) (by k_is) (by k_is)) W7 fun ω R k => k on' ow' oso' ab' kb' ea t' _ hO' hD' hab' ?_ (s5.trans (Sub.cons (Sub.refl l4)))
    exact ⟨ea, edx, _, _, D, [], t', .none, rfl, List.mem_cons_of_mem _ (s4 _ List.mem_cons_self), List.mem_cons_self, by rfl, by rfl, ⟨_, _, List.mem_cons_of_mem _ (s4 _ (List.mem_cons_of_mem _ List.mem_cons_self)), rfl, rfl⟩, .nil, by rfl, rfl⟩
  · rintro x dx fp' l' ⟨t1, t2, t3, n, rfl, rfl⟩
    exact ⟨_, List.mem_cons_self⟩
end
section --N16
open PySem PySem.W PyProof.Rows PySem.Calls PySem.Spec PySem.SeqAt
set_option maxHeartbeats 400000
section
variable {G : Gl} {cs : Scope} {c : Cx G cs} {m : Str → Option Value} {fp l : Led} {h : Heap} {d : Nat} {QF : Flow → Shared → Prop} {rest body : List Stmt} {iter : Expr} {x : Str} {px pos : Pos} {pa : Addr} {vs : List Value}
noncomputable abbrev Cx.of (c : Cx G cs) (s : Shared) : Cx G cs := { c with g := s.gens, dr := s.drawn, os := s.os }
theorem run_fortup (V : Live c d) (W : At c m fp l h) (e1 : Ev c h iter (fun ω => .ref pa)) (ht : TupIn l pa vs)
    (step : ∀ (s₁ : Shared) (i : Nat) v m₁ h1, vs[i]? = some v → (∀ y, y ≠ x → m₁ y = m y) → At (c.of s₁) (up m₁ x v) fp l h1 → Run (c.of s₁) (fun f s' => f = .next ∧ ∃ tk', s' = (c.of s₁).S h1 tk') h1 body)
    (k : ∀ m' h', (∀ y, y ≠ x → m' y = m y) → At c m' fp l h' → Run c QF h' rest)
    (hk : autoParam (cs.kind = .function) aR) (hx : autoParam (cs.names.lookup x = some .local) aR) (hs : autoParam (∀ v, foldedSetIterable iter c.env v = pure v) aI) : Run c QF h (.For (.Name x px) iter body [] pos :: rest) := Run.cons fun tk => by
  refine For_invT G.h₀ ?_ hs (by unfold Cx.E; passes_own)
  refine e1 _ _ _ fun ω tk' => ?_
  refine tuple_loop (s := c.S h tk') (J := fun ω m₁ => ∀ y, y ≠ x → m₁ y = m y) V.hh rfl W.F W.N ht W.sub (fun ω ω => rfl) ?_ ?_
  · intro i v m₁ s₁ own hv hJ F1 N1
    refine wpAny_assign_Name (storeX_L (s := s₁) F1 N1 (fun h1 F2 N2 => ?_) hk hx)
    have W2 : At (c.of s₁) (up m₁ x v) fp l h1 := ⟨F2, News.sub N2 fun q hq => List.mem_append_right _ hq, W.Z, W.G⟩
    refine wpAny_mono ((step s₁ i v m₁ h1 hv hJ W2).go _) (fun f s' q => ?_) fun ω ω e => e
    obtain ⟨rfl, tk2, rfl⟩ := q
    exact ⟨rfl, h1, tk2, _, rfl, F2, N2, fun y hy => (if_neg hy).trans (hJ y hy)⟩
  · intro h' tk2 m' F' N' hJ
    exact (k m' h' hJ ⟨F', N', W.Z, W.G⟩).go tk2
end
section
variable {G : Gl} {cs : Scope} {c : Cx G cs} {m : Str → Option Value} {fp l : Led} {h : Heap} {x y : Str} {p p' : Pos} {v : Value} {e e₁ : Expr} {es : List DictEntry} {n : Nat} {C ia dx fa : Addr} {attr : Option Value} {args : List Expr} {Q : Value → Shared → Prop}
theorem ev_attrF (W : At c m fp l h) (e1 : Ev c h (.Name x p) (fun ω => .ref ia)) (h1 : (ia, instObj C dx) ∈ fp ++ (c.fs ++ (c.xs ++ l))) (h2 : (dx, dictOf es n) ∈ fp ++ (c.fs ++ (c.xs ++ l)))
    (hl : getL y es = some (some v)) (hg : plainGet (K0.heap_1 G.w.params) C y = true) (hh : hasDictIn (K0.heap_1 G.w.params) C = true) (ha : findIn (K0.heap_1 G.w.params) (.ref C) y = some attr) (hn : noGet (K0.heap_1 G.w.params) attr = true) (hv : autoParam (handedIn v = true) aR) :
    Ev c h (.Attribute (.Name x p) y p') (fun ω => v) := fun ω ω ω q =>
  Attribute_Name_ (e1 _ _ _ fun ω ω => get_own (s := c.S h _) W.F G.X (InstAt.of_news W.N h1 h2) hg hh ha hn hl hv (q 0 _))
theorem meth_instF {pl : Sem Bool} (W : At c m fp l h) (eo : Ev c h e₁ (fun ω => .ref ia)) (h1 : (ia, instObj C dx) ∈ fp ++ (c.fs ++ (c.xs ++ l))) (h2 : (dx, dictOf es n) ∈ fp ++ (c.fs ++ (c.xs ++ l)))
    (hl : getL y es = some none) (hg : plainGet (K0.heap_1 G.w.params) C y = true) (hf : findIn (K0.heap_1 G.w.params) (.ref C) y = some (some (.ref fa))) (hfn : isFn (K0.heap_1 G.w.params) (.ref fa) = true) (hkp : keepIn (K0.heap_1 G.w.params) (.ref fa) = true)
    (k : Xs c h p' (e :: args) fun vs s₁ => (K0.heap_1 G.w.params).In s₁.heap ∧ wpAny G.M c.A (call (.ref fa) (.ref ia :: vs)) Q c.E s₁)
    (hpl : autoParam ((backTo p' (starEach args c.env)).any (·.1) = false) aR) (he : autoParam (notStar e = true) aR)
    (hca : autoParam (eval (.Call (.Attribute e₁ y p) (e :: args) [] p') c.env = (do
      let ov ← eval e₁ c.env
      standAt p.atName
      let (f, first) ← holding [ov] (getMethod ov y pl)
      callWith p' f first (backTo p' (starEach (e :: args) c.env)) [])) aR) : Ex c h (.Call (.Attribute e₁ y p) (e :: args) [] p') Q := ⟨fun tk =>
  MethodCall_ (eo _ _ _ fun ω tk' => method_inst (s := c.S h tk') W.F G.X (InstAt.of_news W.N h1 h2) hg hf hfn hl (callWith_K G.X hkp (k.go tk') (star_of he) hpl)) hca⟩
end
end
section --A13
open PySem PySem.W PyProof.Rows PySem.Calls PySem.Spec PyProof.V PySem.SeqAt
set_option maxHeartbeats 400000
theorem sym_define_ok {G : Gl} {sya sdx so br ba pa : Addr} {ps : List Value} {prs : List Str} {bv : Value} {oso : Obj} {kvs : List (Str × Value)} {ab : Array Value} {kb : Nat} {nm : Str} {t : Tok} {l : Led} (Sy : SymAt l sya sdx so br ba) (hpa : TupIn l pa ps) (hst : Strs ps prs) (hprs : ∀ x ∈ prs, x = "P" ∨ x = "Q") (hD : oso.IsDictOf (PySem.strKind PG G.w) kvs) (hv : valueAt kvs nm = none) (hz1 : kvs.length ≤ 10) (hz2 : ab.size ≤ 10) (hnm : nm = "P" ∨ nm = "A" ∨ nm = "B" ∨ nm = "C") :
    Ct G (.ref 723) [.ref sya, .str nm t, .ref pa, bv] 4 [(so, oso), (br, listOf ab kb)] l (fun R => ∀ oso' ab' kb' ea l', oso'.IsDictOf (PySem.strKind PG G.w) (stored kvs nm (.ref ea)) → ab'.size = ab.size + 1 → (∀ b, BodyIn l bv b → EntryIn l' (.ref ea) ⟨nm, prs, b⟩ 0) → Sub l l' → R .none [(so, oso'), (br, listOf ab' kb')] l') NoX := by
  refine Sy.out fun dx es n b1 b2 g0 g1 g2 g3 g4 g5 => ?_
  refine ent (binds := [("self", .ref sya), ("name", .str nm t), ("params", .ref pa), ("body", bv)]) (by k_is) (by k_is) fun c h V W R EX => ?_
  refine run_fortup V W (ev_loc W rfl) hpa (fun s₁ i v m₁ h1 hvi hJ W1 => ?_) fun m' h1 hm W1 => ?_
  · obtain ⟨px, pt, rfl, hpx⟩ := hst.get hvi
    have hpx' := hprs px (List.mem_of_getElem? hpx)
    have PM {p} := ev_locT (p := p) (x := "param") (f := fun t => .str px t) W1 rfl
    exact run_if (b := false || false) (te_or2 (te_cmp PM (ev_glob W1 (by k_is)) fun ω ω ω ω ω q => in_static W1.F G.X (by k_is) rfl rfl (by decide) (by rcases hpx' with rfl | rfl <;> decide) (q _)) fun ω => te_cmp PM (ev_glob W1 (by k_is)) fun ω ω ω ω ω q => in_static W1.F G.X (by k_is) rfl rfl (by decide) (by rcases hpx' with rfl | rfl <;> decide) (q _)) (fun z => by cases z) fun ω => run_nil fun tk => ⟨rfl, tk, rfl⟩
  refine exec_expr (meth_inst W1 (ev_loc W1 (hm _ (by decide))) b1 b2 g5 (by k_is) (by k_is) (by k_is) (by k_is) (xs_ev (ev_locT (f := fun t => .str nm t) W1 (hm _ (by decide))) fun ω => xs_ex (call_K W1 (by k_is) (by k_is) (xs_ev (ev_globT (f := fun t => .int 0 t) W1 (by k_is)) fun t0 => xs_ev (ev_loc W1 (hm _ (by decide))) fun ω => xs_ev (ev_loc W1 (hm _ (by decide))) fun ω => xs_nil fun tk2 => ⟨W1.K, make_at (P := EntMade G (.int 0 t0) (.ref pa) bv) V W1 (by k_is) (by k_is) (by k_is) (fun x dx ω => entry_init_ok) ?_ ?_ ?_ (by decide) tk2⟩))))
  · exact fun x dx t1 t2 t3 n hne => ⟨rfl, rfl, fun q hq => by rw [List.mem_singleton.mp hq]; exact hne, t1, t2, t3, n, rfl, rfl⟩
  · rintro ea edx _ _ h2 ⟨t1, t2, t3, n, rfl, rfl⟩ W2 _ tk3
    have W3 := W2.settle
    have s2 : Sub l ((edx, dictOf (entE G t1 t2 t3 (.int 0 t0) (.ref pa) bv) n) :: (ea, instObj 642 edx) :: l) := Sub.cons (Sub.cons (Sub.refl l))
    refine args_nil ⟨W3.K, useO V W3 (bring_ok (Sy.mono s2) hD hv hz1 hz2 hnm) EX trivial ?_ (by decide) tk3⟩
    intro oso' ab' kb' l4 hD' hab' s4 h4 _ W4 tk4
    refine (run_done R W4 fun R k => k oso' ab' kb' ea l4 hD' hab' (fun b hb => ?_) (s2.trans s4)).go tk4
    exact ⟨ea, edx, _, _, pa, ps, _, bv, rfl, s4 _ (List.mem_cons_of_mem _ List.mem_cons_self), s4 _ List.mem_cons_self, by rfl, by rfl, hpa.mono (s2.trans s4), hst, by rfl, hb.mono (s2.trans s4)⟩
  · rintro x dx fp' l' ⟨t1, t2, t3, n, rfl, rfl⟩
    exact ⟨_, List.mem_cons_self⟩
end
section --A14
open PySem PySem.W PyProof.Rows PySem.Calls PySem.Spec PyProof.V PySem.SeqAt
set_option maxHeartbeats 400000
structure TermAt (es : List DictEntry) (to ta ts td nu : Addr) : Prop where
  g1 : getL "term_ops" es = some (some (.ref to))
  g2 : getL "term_args" es = some (some (.ref ta))
  g3 : getL "term_sorts" es = some (some (.ref ts))
  g4 : getL "term_datas" es = some (some (.ref td))
  g5 : getL "numbers" es = some (some (.ref nu))
noncomputable def TermSt (G : Gl) (l : Led) (to ta ts td nu : Addr) (k : Nat) (fp : Led) : Prop :=
  ∃ a1 a2 a3 a4 k1 k2 k3 k4 onu xs, fp = [(to, listOf a1 k1), (ta, listOf a2 k2), (ts, listOf a3 k3), (td, listOf a4 k4), (nu, onu)] ∧ a1.size ≤ k ∧ a2.size ≤ k ∧ a3.size ≤ k ∧ a4.size ≤ k ∧ NumO PG G.w l onu xs ∧ xs.length ≤ k
theorem TermSt.mono {G : Gl} {l l' : Led} (s : Sub l l') {to ta ts td nu : Addr} {k : Nat} {fp : Led} (h : TermSt G l to ta ts td nu k fp) : TermSt G l' to ta ts td nu k fp := by
  obtain ⟨a1, a2, a3, a4, k1, k2, k3, k4, o, xs, e, z1, z2, z3, z4, hN, z5⟩ := h
  exact ⟨a1, a2, a3, a4, k1, k2, k3, k4, o, xs, e, z1, z2, z3, z4, hN.mono s, z5⟩
theorem make_ok {G : Gl} {ba dx to ta ts td nu e : Addr} {es : List DictEntry} {n : Nat} {op : Str} {t0 t1 t2 : Tok} {k : Nat} {l fp : Led} (b1 : (ba, instObj 621 dx) ∈ l) (TA : TermAt es to ta ts td nu) (lo : (nu == sysModules) = false) (he : TupIn l e []) (hk : k ≤ 2) (hS : TermSt G l to ta ts td nu k fp) :
    Ct G (.ref 242) [.ref ba, .str op t0, .ref e, .int 0 t1, .int 0 t2] 2 ((dx, dictOf es n) :: fp) l (fun R => ∀ i t fp' l', TermSt G l' to ta ts td nu (k + 1) fp' → Sub l l' → R (.int i t) ((dx, dictOf es n) :: fp') l') NoX := by
  obtain ⟨a1, a2, a3, a4, k1, k2, k3, k4, onu, xs, rfl, z1, z2, z3, z4, hN, z5⟩ := hS
  obtain ⟨g1, g2, g3, g4, g5⟩ := TA
  refine ent (binds := [("self", .ref ba), ("op", .str op t0), ("args", .ref e), ("sort", .int 0 t1), ("data", .int 0 t2)]) (by k_is) (by k_is) fun c h V W R EX => ?_
  refine run_setX (ex_tup (xs_ev (ev_loc W rfl) fun ω => xs_ev (ev_loc W rfl) fun ω => xs_ev (ev_loc W rfl) fun ω => xs_ev (ev_loc W rfl) fun ω => xs_nil fun tk => newTuple_at W (sz_le rfl) fun D h1 W1 tk1 => store_run W1 fun h2 W2 => ?_))
  have s1 : Sub l ((D, tupO [.str op t0, .ref e, .int 0 t1, .int 0 t2]) :: l) := Sub.cons (Sub.refl l)
  have kD : MkIn ((D, tupO [.str op t0, .ref e, .int 0 t1, .int 0 t2]) :: l) (op, 0, 0) D := ⟨e, t0, t1, t2, mem_tup, he.mono s1⟩
  have hN2 := hN.mono s1
  have u3 : c.A.units + 3 < cLine := by have := V.room.2; lia
  refine run_setX ⟨fun tk => MethodCall_ ((ev_attrF W2 (ev_loc W2 rfl) (W2.inl (s1 _ b1)) (W2.inf List.mem_cons_self) g5 (by k_is) (by k_is) (by k_is) (by k_is)).run fun ω tk2 => num_method W2.N (W2.inf (.tail _ (.tail _ (.tail _ (.tail _ (.tail _ (.head _))))))) hN2 (callWith_method1 ((xs_ev (ev_loc W2 rfl) fun ω => xs_ev ev_int fun ω => xs_nil fun tk3 => num_get (s := c.S h2 tk3) W2.N (W2.inf (.tail _ (.tail _ (.tail _ (.tail _ (.tail _ (.head _))))))) hN2 W2.sub lo u3 kD fun j t => ?_ : Xs _ _ _ _ _).go tk2) rfl rfl)) rfl⟩
  refine store_run (tk := tk3 + 5) W2 fun h3 W3 => ?_
  refine run_if (te_eqI (ev_locT (f := fun t => .int j t) W3 rfl) ev_int) (fun hb => ?_) fun hb => ?_
  · refine run_set W3 (ev_lenL W3 (ev_attrF W3 (ev_loc W3 rfl) (W3.inl (s1 _ b1)) (W3.inf List.mem_cons_self) g1 (by k_is) (by k_is) (by k_is) (by k_is)) (W3.inf (.tail _ (.head _))) (by lia) (by k_is)) fun tf h4 W4 => ?_
    refine run_app W4 (ev_attrF W4 (ev_loc W4 rfl) (W4.inl (s1 _ b1)) (W4.inf List.mem_cons_self) g1 (by k_is) (by k_is) (by k_is) (by k_is)) (.tail .head) (by lia) (ev_loc W4 rfl) fun ω h5 W5 => ?_
    refine run_app W5 (ev_attrF W5 (ev_loc W5 rfl) (W5.inl (s1 _ b1)) (W5.inf List.mem_cons_self) g2 (by k_is) (by k_is) (by k_is) (by k_is)) (.tail (.tail .head)) (by lia) (ev_loc W5 rfl) fun ω h6 W6 => ?_
    refine run_app W6 (ev_attrF W6 (ev_loc W6 rfl) (W6.inl (s1 _ b1)) (W6.inf List.mem_cons_self) g3 (by k_is) (by k_is) (by k_is) (by k_is)) (.tail (.tail (.tail .head))) (by lia) (ev_loc W6 rfl) fun ω h7 W7 => ?_
    refine run_app W7 (ev_attrF W7 (ev_loc W7 rfl) (W7.inl (s1 _ b1)) (W7.inf List.mem_cons_self) g4 (by k_is) (by k_is) (by k_is) (by k_is)) (.tail (.tail (.tail (.tail .head)))) (by lia) (ev_loc W7 rfl) fun ω h8 W8 => ?_
    refine run_setX2 ⟨fun tk4 => (ev_locT (f := fun t => .int a1.size t) W8 rfl).run fun tv ω => (ev_attrF W8 (ev_loc W8 rfl) (W8.inl (s1 _ b1)) (W8.inf List.mem_cons_self) g5 (by k_is) (by k_is) (by k_is) (by k_is)).run fun ω ω => (ev_loc W8 rfl).run fun ω tk5 => num_set (s := c.S h8 tk5) W8.F W8.N (W8.upd (.tail (.tail (.tail (.tail (.tail .head)))))) hN2 W8.sub u3 kD (by lia) fun h9 o9 xs9 F9 N9 hN9 hz9 => ?_⟩
    have W9 := W8.turn F9 N9 rfl
    refine (run_next (Q := c.Q) (run_ret R (ev_locT (f := fun t => .int a1.size t) W9 rfl) W9 fun t R k => k _ t _ _ ⟨_, _, _, _, _, _, _, _, o9, xs9, rfl, by simp only [Array.size_push]; lia, by simp only [Array.size_push]; lia, by simp only [Array.size_push]; lia, by simp only [Array.size_push]; lia, hN9, by lia⟩ s1)).go _
  · exact run_ret R (ev_locT (f := fun t => .int j t) W3 rfl) W3 fun t R k' => k' _ t _ _ ⟨a1, a2, a3, a4, k1, k2, k3, k4, onu, xs, rfl, by lia, by lia, by lia, by lia, hN2, by lia⟩ s1
end
section --N17
open PySem PySem.W PyProof.Rows PySem.Calls PySem.Spec PySem.SeqAt
set_option maxHeartbeats 400000
section
variable {G : Gl} {cs : Scope} {c : Cx G cs} {m : Str → Option Value} {fp fp' l l' : Led} {h h' : Heap} {d d' : Nat} {vs : List Value} {C fI x dx : Addr} {Q : Value → Shared → Prop} {KI : Addr → Addr → Post → Prop}
theorem made_any (W : At c m fp l h) (F' : Fr G.h₀ c.L h' m) (N' : News G.h₀ c.L h' (fp' ++ (c.fs ++ ((fp ++ (c.xs ++ l)) ++ l')))) (Z' : Ap fp' c.fs ((fp ++ (c.xs ++ l)) ++ l')) (g : Gro (fp ++ (c.xs ++ l)) [(x, instObj C dx)] l') (hx : ∀ p ∈ fp ++ (c.fs ++ (c.xs ++ l)), p.1 ≠ x) : At c m (fp' ++ fp) (l' ++ l) h' := by
  have n2 : ∀ q ∈ l', ∀ p ∈ fp ++ (c.fs ++ (c.xs ++ l)), p.1 ≠ q.1 := fun q hq p hp => by
    have hp' : p ∈ c.fs ∨ p ∈ fp ++ (c.xs ++ l) := by
      simp only [List.mem_append] at hp ⊢
      rcases hp with hp | hp | hp | hp <;> simp [hp]
    rcases hp' with hp' | hp'
    · exact fun z => Z'.ap p (List.mem_append_right _ hp') q (List.mem_append_right _ hq) z.symm
    · rcases g.new q hq with z | z
      · have z' : q = (x, instObj C dx) := by simpa using z
        rw [z']; exact hx p hp
      · exact fun e => z p hp' e.symm
  have N2 : News G.h₀ c.L h' ((fp' ++ fp) ++ (c.fs ++ (c.xs ++ (l' ++ l)))) := News.sub N' fun p hp => by
    simp only [List.mem_append] at hp ⊢
    rcases hp with (hp | hp) | hp | hp | hp | hp <;> simp [hp]
  refine ⟨F', N2, ⟨fun p hp q hq => ?_, fun p hp q hq => ?_, List.pairwise_append.mpr ⟨Z'.dist, W.Z.dist, fun p hp q hq => (Z'.ap p (List.mem_append_left _ hp) q (List.mem_append_left _ (List.mem_append_left _ hq))).symm⟩⟩, W.G.trans ⟨fun p hp => List.mem_append_right _ hp, fun p hp => ?_⟩⟩
  · have hq' : q ∈ l' ∨ q ∈ c.xs ++ l := by
      simp only [List.mem_append] at hq ⊢
      rcases hq with hq | hq | hq <;> simp [hq]
    have hp' : p ∈ fp' ∨ p ∈ fp ++ c.fs := by
      simp only [List.mem_append] at hp ⊢
      rcases hp with (hp | hp) | hp <;> simp [hp]
    rcases hp' with hp' | hp'
    · refine Z'.ap p (List.mem_append_left _ hp') q ?_
      rcases hq' with hq' | hq'
      · exact List.mem_append_right _ hq'
      · exact List.mem_append_left _ (List.mem_append_right _ hq')
    · rcases hq' with hq' | hq'
      · refine (n2 q hq' p ?_).symm
        rcases List.mem_append.mp hp' with hp' | hp'
        · exact List.mem_append_left _ hp'
        · exact List.mem_append_right _ (List.mem_append_left _ hp')
      · exact W.Z.ap p hp' q hq'
  · rcases List.mem_append.mp hp with hp | hp
    · exact Z'.apf p hp q hq
    · exact W.Z.apf p hp q hq
  · rcases List.mem_append.mp hp with hp | hp
    · exact .inr fun q hq => (n2 p hp q (List.mem_append_right _ (List.mem_append_right _ (List.mem_append_left _ hq)))).symm
    · exact .inl hp
theorem make_any (V : Live c d) (W : At c m fp l h)
    (hm : makesIn (K0.heap_1 G.w.params) C = true) (hi : findIn (K0.heap_1 G.w.params) (.ref C) "__init__" = some (some (.ref fI))) (hfi : isFn (K0.heap_1 G.w.params) (.ref fI) = true)
    (D : ∀ x dx, dx < x → CtK G (.ref fI) (.ref x :: vs) d' [(dx, dictOf [] 0)] [(x, instObj C dx)] (KI x dx)) (k : ∀ x dx, KI x dx fun r fp' l' => r = .none ∧ ∀ h', At c m (fp' ++ fp) (l' ++ l) h' → ∀ tk, Q (.ref x) (c.S h' tk)) (hd : autoParam (d' + 1 ≤ d) aD) : ∀ tk, wpAny G.M c.A (call (.ref C) vs) Q c.E (c.S h tk) := by
  intro tk
  have hr := V.room.mono hd
  refine call_cls (s := c.S h tk) W.F G.X W.N hm hi hfi fun x dx h' F' N' lt1 lt2 => ?_
  have hA' : (c.A.under (.builtin "type.__call__" ⟨.ref C :: vs, []⟩)).frames = some (c.env :: c.outer) := by unfold Around.under; simp only [V.fr]; rfl
  have hx : ∀ p ∈ fp ++ (c.fs ++ (c.xs ++ l)), p.1 ≠ x := fun p hp => Nat.ne_of_lt (Nat.lt_trans (lt1 p hp) lt2)
  have hdx : ∀ p ∈ fp ++ (c.fs ++ (c.xs ++ l)), p.1 ≠ dx := fun p hp => Nat.ne_of_lt (lt1 p hp)
  have N₁ : News G.h₀ c.L h' ([] ++ ([(dx, dictOf [] 0)] ++ (c.fs ++ ((fp ++ (c.xs ++ l)) ++ [(x, instObj C dx)])))) := News.sub N' fun p hp => by
    simp only [List.nil_append, List.cons_append, List.mem_cons, List.mem_append, List.not_mem_nil, or_false] at hp ⊢
    rcases hp with hp | hp | (hp | hp | hp) | hp <;> simp [hp]
  have Z₁ : Ap [(dx, dictOf [] 0)] c.fs ((fp ++ (c.xs ++ l)) ++ [(x, instObj C dx)]) := by
    refine ⟨fun p hp q hq => ?_, fun p hp q hq => ?_, List.pairwise_singleton _ _⟩
    · have hq' : q = (x, instObj C dx) ∨ q ∈ fp ∨ q ∈ c.xs ++ l := by
        simp only [List.mem_append, List.mem_cons, List.not_mem_nil, or_false] at hq ⊢
        rcases hq with (hq | hq | hq) | hq <;> simp [hq]
      rcases List.mem_append.mp hp with hp | hp
      · obtain rfl := List.mem_singleton.mp hp
        rcases hq' with rfl | hq'
        · exact Nat.ne_of_gt lt2
        · refine hdx q ?_
          simp only [List.mem_append] at hq' ⊢
          rcases hq' with hq' | hq' | hq' <;> simp [hq']
      · rcases hq' with rfl | hq' | hq'
        · exact (hx p (by simp [hp])).symm
        · exact Ne.symm (W.Z.apf q hq' p hp)
        · exact W.Z.ap p (List.mem_append_right _ hp) q hq'
    · obtain rfl := List.mem_singleton.mp hp
      exact hdx q (by simp [hq])
  refine DoesK.use (D x dx lt2).go (loc := []) (l := [(x, instObj C dx)]) (xs := fp ++ (c.xs ++ l)) (env := c.env) (outer := c.outer) F' N₁ hA' rfl V.hk V.Fs V.hh ⟨by have := hr.1; rw [depth_under_make]; lia, by have := hr.2; rw [units_under_make]; lia⟩ Z₁ zl_nil ?_
  intro v fp' l' h'' tk2 q F'' N'' Z'' G''
  obtain ⟨rfl, q2⟩ := q _ (k x dx)
  exact ⟨rfl, q2 h'' (made_any W F'' N'' Z'' G'' hx) tk2⟩
end
end
section --A15
open PySem PySem.W PyProof.Rows PySem.Calls PySem.Spec PyProof.V PySem.SeqAt
set_option maxHeartbeats 400000
theorem newListF_at {G : Gl} {cs : Scope} {c : Cx G cs} {m : Str → Option Value} {fp l : Led} {h : Heap} {vs : List Value} {E : Value → Shared → Prop} {Q : Value → Shared → Prop} {tk : Nat} (W : At c m fp l h) (hz : vs.length ≤ sizeLine) (k : ∀ D h', At c m ((D, listOf vs.toArray 0) :: fp) l h' → ∀ tk, Q (.ref D) (c.S h' tk)) : wpAny G.M c.A (newList vs) Q E (c.S h tk) :=
  newList_K (s := c.S h tk) W.F W.N (fun D h' F' N' lt => k D h' (W.pushF F' N' lt) tk) hz
noncomputable def SymMade (G : Gl) (x dx : Addr) (v1 : Value) (R : Post) : Prop := ∀ es n so od br l', od.IsDictOf (PySem.strKind PG G.w) [] → (so == sysModules) = false → getL "bank" es = some (some v1) → getL "sorts" es = some (some (.ref so)) → getL "brought" es = some (some (.ref br)) →
  getL "declare_sort" es = some none → getL "define_sort" es = some none → getL "bring_sort" es = some none → Sub [(x, instObj 775 dx)] l' → R .none [(br, listOf #[] 0), (so, od), (dx, dictOf es n)] l'
theorem clear_ok {G : Gl} {x dx : Addr} {v1 : Value} {t : Tok} {n : Nat} :
    Ct G (.ref 667) [.ref x] 1 [(dx, dictOf (putE G "bank" t v1 []) n)] [(x, instObj 775 dx)] (SymMade G x dx v1) NoX := by
  refine ent (binds := [("self", .ref x)]) (by k_is) (by k_is) fun c h V W R EX => ?_
  refine run_attrX (ex_dict W fun so od h1 lo hd W1 tk1 => (ev_loc W1 rfl).run fun ω tk2 => setattr_at W1 (W1.inl List.mem_cons_self) (.tail .head) (by k_is) (by k_is) (by k_is) (by k_is) fun t1 h2 W2 tk3 => (show Run c c.Q h2 _ from ?_).go tk3)
  refine run_attrX (ex_dict W2 fun fo fod h3 lo3 hd3 W3 tk3 => (ev_loc W3 rfl).run fun ω tk4 => setattr_at W3 (W3.inl List.mem_cons_self) (.tail (.tail .head)) (by k_is) (by k_is) (by k_is) (by k_is) fun t2 h4 W4 tk5 => (show Run c c.Q h4 _ from ?_).go tk5)
  have W5 := W4.settle
  refine run_attrX (ex_list (xs_nil fun tk => newListF_at W5 (sz_le rfl) fun br h6 W6 tk6 => (ev_loc W6 rfl).run fun ω tk7 => setattr_at W6 (W6.inl (List.mem_cons_of_mem _ List.mem_cons_self)) (.tail (.tail .head)) (by k_is) (by k_is) (by k_is) (by k_is) fun t3 h7 W7 tk8 => (show Run c c.Q h7 _ from ?_).go tk8))
  refine run_attrX (ex_list (xs_nil fun tk => newList_at W7 (sz_le rfl) fun sc h8 W8 tk9 => (ev_loc W8 rfl).run fun ω tk10 => setattr_at W8 (W8.inl (List.mem_cons_of_mem _ (List.mem_cons_of_mem _ List.mem_cons_self))) (.tail (.tail .head)) (by k_is) (by k_is) (by k_is) (by k_is) fun t4 h9 W9 tk11 => (show Run c c.Q h9 _ from ?_).go tk11))
  refine run_attrX (ex_list (xs_nil fun tk => newList_at W9 (sz_le rfl) fun le h10 W10 tk12 => (ev_loc W10 rfl).run fun ω tk13 => setattr_at W10 (W10.inl (List.mem_cons_of_mem _ (List.mem_cons_of_mem _ (List.mem_cons_of_mem _ List.mem_cons_self)))) (.tail (.tail .head)) (by k_is) (by k_is) (by k_is) (by k_is) fun t5 h11 W11 tk14 => (show Run c c.Q h11 _ from ?_).go tk14))
  refine run_attr W11 (ev_globT (f := fun t => .int 1 t) W11 (by k_is)) (ev_loc W11 rfl) (W11.inl (List.mem_cons_of_mem _ (List.mem_cons_of_mem _ (List.mem_cons_of_mem _ List.mem_cons_self)))) (.tail (.tail .head)) (by k_is) (by k_is) (by k_is) (by k_is) fun ω t6 h12 W12 => ?_
  exact run_done R W12 fun R k => k _ _ so od br _ hd lo rfl rfl rfl rfl rfl rfl fun q hq => by rw [List.mem_singleton.mp hq]; simp
theorem meth_inst0F {G : Gl} {cs : Scope} {c : Cx G cs} {m : Str → Option Value} {fp l : Led} {h : Heap} {y : Str} {p p' : Pos} {e₁ : Expr} {es : List DictEntry} {n : Nat} {C ia dx fa : Addr} {Q : Value → Shared → Prop} {pl : Sem Bool} (W : At c m fp l h) (eo : Ev c h e₁ (fun ω => .ref ia)) (h1 : (ia, instObj C dx) ∈ fp ++ (c.fs ++ (c.xs ++ l))) (h2 : (dx, dictOf es n) ∈ fp ++ (c.fs ++ (c.xs ++ l)))
    (hl : getL y es = some none) (hg : plainGet (K0.heap_1 G.w.params) C y = true) (hf : findIn (K0.heap_1 G.w.params) (.ref C) y = some (some (.ref fa))) (hfn : isFn (K0.heap_1 G.w.params) (.ref fa) = true) (hkp : keepIn (K0.heap_1 G.w.params) (.ref fa) = true)
    (k : ∀ tk, wpAny G.M c.A (call (.ref fa) [.ref ia]) Q c.E (c.S h tk))
    (hca : autoParam (eval (.Call (.Attribute e₁ y p) [] [] p') c.env = (do
      let ov ← eval e₁ c.env
      standAt p.atName
      let (f, first) ← holding [ov] (getMethod ov y pl)
      callWith p' f first (backTo p' (starEach [] c.env)) [])) aR) : Ex c h (.Call (.Attribute e₁ y p) [] [] p') Q := ⟨fun tk =>
  MethodCall_ (eo _ _ _ fun ω tk' => method_inst (s := c.S h tk') W.F G.X (InstAt.of_news W.N h1 h2) hg hf hfn hl (callWith_K0 W.K hkp (k tk'))) hca⟩
theorem symbols_init_ok {G : Gl} {x dx : Addr} {v1 : Value} : CtK G (.ref 660) [.ref x, v1] 2 [(dx, dictOf [] 0)] [(x, instObj 775 dx)] (SymMade G x dx v1) := by
  refine entK (binds := [("self", .ref x), ("bank", v1)]) (by k_is) (by k_is) fun c h V W R => ?_
  refine run_attr W (ev_loc W rfl) (ev_loc W rfl) (W.inl List.mem_cons_self) .head (by k_is) (by k_is) (by k_is) (by k_is) fun ω t1 h1 W1 => ?_
  refine exec_expr (meth_inst0F W1 (ev_loc W1 rfl) (W1.inl List.mem_cons_self) (W1.inf List.mem_cons_self) rfl (by k_is) (by k_is) (by k_is) (by k_is) (useO V W1 clear_ok exs_no trivial ?_))
  intro es n so od br l' k1 k2 k3 k4 k5 k6 k7 k8 k9 h2 _ W2 tk2
  exact (run_done R W2 fun R k => k es n so od br l' k1 k2 k3 k4 k5 k6 k7 k8 k9).go tk2
end
section --A16
open PySem PySem.W PyProof.Rows PySem.Calls PySem.Spec PyProof.V PySem.SeqAt
set_option maxHeartbeats 2000000
theorem num_new {prog : Program} {w : World} {l : Led} {o : Obj} (h : o.IsDictOf (PySem.strKind prog w) []) : NumO prog w l o [] := by
  obtain ⟨es, ep, hx, hd, _, hp, _⟩ := h
  refine ⟨hx, ⟨es, ep, hd, ?_⟩, (fun x hx => nomatch hx), (fun x hx => nomatch hx), List.nodup_nil⟩
  generalize es.toList = l at hp
  cases hp
  rfl
theorem At.keepF {G : Gl} {cs : Scope} {c : Cx G cs} {m : Str → Option Value} {f1 f2 l : Led} {h : Heap} (W : At c m (f1 ++ f2) l h) : At c m f1 l h :=
  ⟨W.F, News.sub W.N fun q hq => by
    rcases List.mem_append.mp hq with hq | hq
    · exact List.mem_append_left _ (List.mem_append_left _ hq)
    · exact List.mem_append_right _ hq, ⟨fun q hq => W.Z.ap q (by
    rcases List.mem_append.mp hq with hq | hq
    · exact List.mem_append_left _ (List.mem_append_left _ hq)
    · exact List.mem_append_right _ hq), fun q hq => W.Z.apf q (List.mem_append_left _ hq), (List.pairwise_append.mp W.Z.dist).1⟩, W.G⟩
structure BankD (es : List DictEntry) (sn sw : Addr) (v : Value) : Prop where
  g1 : getL "sort_names" es = some (some (.ref sn))
  g2 : getL "sort_widths" es = some (some (.ref sw))
  g3 : getL "bv_numbers" es = some (some v)
  g4 : getL "bv_sort" es = some none
  g5 : getL "width_of" es = some none
  g6 : getL "declare_sort" es = some none
  g7 : getL "find_bv_sort" es = some none
structure BankF (G : Gl) (es : List DictEntry) (sn sw : Addr) : Prop where
  s : (getL "bv_numbers" es).isSome = true
  z : ∀ t v, (putE G "bv_numbers" t v es).length ≤ 1000
  d : ∀ t v, BankD (putE G "bv_numbers" t v es) sn sw v
structure BankP (G : Gl) (es : List DictEntry) (sn sw to ta ts td nu : Addr) : Prop where
  t0 : TermAt es to ta ts td nu
  m0 : getL "make" es = some none
  s0 : (getL "true_number" es).isSome = true
  t1 : ∀ t v, TermAt (putE G "true_number" t v es) to ta ts td nu
  m1 : ∀ t v, getL "make" (putE G "true_number" t v es) = some none
  s1 : ∀ t v, (getL "false_number" (putE G "true_number" t v es)).isSome = true
  z0 : ∀ t v, (putE G "true_number" t v es).length ≤ 1000
  z1 : ∀ t v t' v', (putE G "false_number" t' v' (putE G "true_number" t v es)).length ≤ 1000
  f : ∀ t v t' v', BankF G (putE G "false_number" t' v' (putE G "true_number" t v es)) sn sw
theorem bankP {G : Gl} {sn sw to ta ts td nu : Addr} {v2 v3 v4 v5 : Value} {t0 t1 t2 t3 t4 t5 t6 t7 t8 t9 t10 : Tok} :
    BankP G (putE G "numbers" t10 (.ref nu) (putE G "term_datas" t9 (.ref td) (putE G "term_sorts" t8 (.ref ts) (putE G "term_args" t7 (.ref ta) (putE G "term_ops" t6 (.ref to) (putE G "fresh_count" t5 v5 (putE G "fun_results" t4 v4 (putE G "fun_args" t3 v3 (putE G "fun_names" t2 v2 (putE G "sort_widths" t1 (.ref sw) (putE G "sort_names" t0 (.ref sn) []))))))))))) sn sw to ta ts td nu :=
  ⟨⟨(by kernel_rfl), (by kernel_rfl), (by kernel_rfl), (by kernel_rfl), (by kernel_rfl)⟩, (by kernel_rfl), (by kernel_rfl), fun ω ω => ⟨(by kernel_rfl), (by kernel_rfl), (by kernel_rfl), (by kernel_rfl), (by kernel_rfl)⟩, fun ω ω => (by kernel_rfl), fun ω ω => (by kernel_rfl), fun ω ω => Nat.le_of_ble_eq_true (by kernel_rfl), fun ω ω ω ω => Nat.le_of_ble_eq_true (by kernel_rfl), fun ω ω ω ω => ⟨(by kernel_rfl), fun ω ω => Nat.le_of_ble_eq_true (by kernel_rfl), fun ω ω => ⟨(by kernel_rfl), (by kernel_rfl), (by kernel_rfl), (by kernel_rfl), (by kernel_rfl), (by kernel_rfl), (by kernel_rfl)⟩⟩⟩
noncomputable def BankMade (G : Gl) (x dx : Addr) (R : Post) : Prop := ∀ es n sn sw b0 b1 b2 c0 c1 c2 l', BankF G es sn sw → (x, instObj 621 dx) ∈ l' →
  R .none [(sn, listOf #[.str "Bool" b0, .str "Int" b1, .str "Real" b2] 0), (sw, listOf #[.int 0 c0, .int 0 c1, .int 0 c2] 0), (dx, dictOf es n)] l'
theorem bank_init_ok {G : Gl} {x dx : Addr} : CtK G (.ref 109) [.ref x] 4 [(dx, dictOf [] 0)] [(x, instObj 621 dx)] (BankMade G x dx) := by
  refine entK (binds := [("self", .ref x)]) (by k_is) (by k_is) fun c h V W R => ?_
  have SELF {p} := fun {m : Str → Option Value} {fp l : Led} {h : Heap} (W : At c m fp l h) (hm : m "self" = some (.ref x)) => ev_loc (p := p) (x := "self") W hm
  refine run_attrX (ex_list (xs_ev ev_str fun b0 => xs_ev ev_str fun b1 => xs_ev ev_str fun b2 => xs_nil fun tk => newListF_at W (sz_le rfl) fun sn h1 W1 tk1 => (ev_loc W1 rfl).run fun ω tk2 => setattr_at W1 (W1.inl List.mem_cons_self) (.tail .head) (by k_is) (by k_is) (by k_is) (by k_is) fun t0 h2 W2 tk3 => (show Run c c.Q h2 _ from ?_).go tk3))
  refine run_attrX (ex_list (xs_ev ev_int fun c0 => xs_ev ev_int fun c1 => xs_ev ev_int fun c2 => xs_nil fun tk => newListF_at W2 (sz_le rfl) fun sw h3 W3 tk4 => (ev_loc W3 rfl).run fun ω tk5 => setattr_at W3 (W3.inl List.mem_cons_self) (.tail (.tail .head)) (by k_is) (by k_is) (by k_is) (by k_is) fun t1 h4 W4 tk6 => (show Run c c.Q h4 _ from ?_).go tk6))
  have MK : ∀ {m : Str → Option Value} {fp l : Led} {h : Heap} {es : List DictEntry} {n : Nat} {g : Obj → Led} {y : Str} {rest : List Stmt} {p1 p2 p3 p4 : Pos}, At c m fp l h → (x, instObj 621 dx) ∈ l → m "self" = some (.ref x) → Slot dx (dictOf es n) fp g → takerIn (K0.heap_1 G.w.params) 621 y = some none → (getL y es).isSome = true → (∀ t v, (putE G y t v es).length ≤ 1000) →
      (∀ D t h', At c m (g (dictOf (putE G y t (.ref D) es) (putN y es n))) ((D, listOf #[] 0) :: l) h' → Run c c.Q h' rest) → Run c c.Q h (.Assign [.Attribute (.Name (Str.ofString "self") p1) y p2] (.List [] p3) p4 :: rest) := fun W hx hm sl ht hl hz k => run_attrX (ex_list (xs_nil fun tk => newList_at W (sz_le rfl) fun D h1 W1 tk1 => (ev_loc W1 hm).run fun ω tk2 => setattr_at W1 (W1.inl (List.mem_cons_of_mem _ hx)) sl (by k_is) (by k_is) ht (by k_is) (fun t h2 W2 tk3 => (k D t h2 W2).go tk3) hl (hz · _)))
  refine MK W4 List.mem_cons_self rfl (.tail (.tail .head)) (by k_is) rfl (fun ω ω => Nat.le_of_ble_eq_true rfl) fun D2 t2 h5 W5 => ?_
  refine MK W5 (List.mem_cons_of_mem _ List.mem_cons_self) rfl (.tail (.tail .head)) (by k_is) rfl (fun ω ω => Nat.le_of_ble_eq_true rfl) fun D3 t3 h6 W6 => ?_
  refine MK W6 (List.mem_cons_of_mem _ (List.mem_cons_of_mem _ List.mem_cons_self)) rfl (.tail (.tail .head)) (by k_is) rfl (fun ω ω => Nat.le_of_ble_eq_true rfl) fun D4 t4 h7 W7 => ?_
  have hx : (x, instObj 621 dx) ∈ (D4, listOf #[] 0) :: (D3, listOf #[] 0) :: (D2, listOf #[] 0) :: [(x, instObj 621 dx)] := by simp
  refine run_attr W7 ev_int (ev_loc W7 rfl) (W7.inl hx) (.tail (.tail .head)) (by k_is) (by k_is) (by k_is) (by k_is) fun u5 t5 h8 W8 => ?_
  refine run_attrX (ex_list (xs_ev ev_str fun b3 => xs_nil fun tk => newListF_at W8 (sz_le rfl) fun to h9 W9 tk7 => (ev_loc W9 rfl).run fun ω tk8 => setattr_at W9 (W9.inl hx) (.tail (.tail (.tail .head))) (by k_is) (by k_is) (by k_is) (by k_is) fun t6 h10 W10 tk9 => (show Run c c.Q h10 _ from ?_).go tk9))
  refine run_attrX (ex_list (xs_ex (ex_tup (xs_nil fun tk => newTuple_at W10 (sz_le rfl) fun em h11 W11 tk10 => args_nil (newListF_at W11 (sz_le rfl) fun ta h12 W12 tk11 => (ev_loc W12 rfl).run fun ω tk12 => setattr_at W12 (W12.inl (List.mem_cons_of_mem _ hx)) (.tail (.tail (.tail (.tail .head)))) (by k_is) (by k_is) (by k_is) (by k_is) fun t7 h13 W13 tk13 => (show Run c c.Q h13 _ from ?_).go tk13)))))
  have hx2 := List.mem_cons_of_mem (em, tupO []) hx
  refine run_attrX (ex_list (xs_ev (ev_globT (f := fun t => .int 0 t) W13 (by k_is)) fun b4 => xs_nil fun tk => newListF_at W13 (sz_le rfl) fun ts h14 W14 tk14 => (ev_loc W14 rfl).run fun ω tk15 => setattr_at W14 (W14.inl hx2) (.tail (.tail (.tail (.tail (.tail .head))))) (by k_is) (by k_is) (by k_is) (by k_is) fun t8 h15 W15 tk16 => (show Run c c.Q h15 _ from ?_).go tk16))
  refine run_attrX (ex_list (xs_ev ev_int fun b5 => xs_nil fun tk => newListF_at W15 (sz_le rfl) fun td h16 W16 tk17 => (ev_loc W16 rfl).run fun ω tk18 => setattr_at W16 (W16.inl hx2) (.tail (.tail (.tail (.tail (.tail (.tail .head)))))) (by k_is) (by k_is) (by k_is) (by k_is) fun t9 h17 W17 tk19 => (show Run c c.Q h17 _ from ?_).go tk19))
  refine run_attrX (ex_dict W17 fun nu od h18 lo hd W18 tk20 => (ev_loc W18 rfl).run fun ω tk21 => setattr_at W18 (W18.inl hx2) (.tail (.tail (.tail (.tail (.tail (.tail (.tail .head))))))) (by k_is) (by k_is) (by k_is) (by k_is) fun ta0 h19 W19 tk22 => (show Run c c.Q h19 _ from ?_).go tk22)
  have PM : ∀ {a b cc dd e f g hh : Addr × Obj}, [a, b, cc, dd, e, f, g, hh].Perm ([g, f] ++ (hh :: [e, dd, cc, b, a])) := fun {a b cc dd e f g hh} => by
    have := (List.reverse_perm [a, b, cc, dd, e, f, g, hh]).symm
    exact this.trans (by simpa using ((List.Perm.swap g hh [f, e, dd, cc, b, a]).trans ((List.Perm.swap f hh [e, dd, cc, b, a]).cons g)))
  obtain ⟨es, nn, B, W20⟩ : ∃ es nn, BankP G es sn sw to ta ts td nu ∧ At c _ ([(sn, listOf #[.str "Bool" b0, .str "Int" b1, .str "Real" b2] 0), (sw, listOf #[.int 0 c0, .int 0 c1, .int 0 c2] 0)] ++ (dx, dictOf es nn) :: [(to, _), (ta, _), (ts, _), (td, _), (nu, od)]) _ h19 := ⟨_, _, bankP, W19.perm PM⟩
  refine run_attrX (meth_instF W20 (ev_loc W20 rfl) (W20.inl hx2) (W20.inf (.tail _ (.tail _ (.head _)))) B.m0 (by k_is) (by k_is) (by k_is) (by k_is) (xs_ev ev_str fun u1 => xs_ex (ex_tup (xs_nil fun tk => newTuple_at W20 (sz_le rfl) fun e1 h21 W21 tk1 => args_ev (ev_globT (f := fun t => .int 0 t) W21 (by k_is)) fun u2 => xs_ev ev_int fun u3 => xs_nil fun tk2 => ⟨W21.K, useF (f1 := [(sn, _), (sw, _)]) (f2 := (dx, dictOf es nn) :: [(to, _), (ta, _), (ts, _), (td, _), (nu, od)]) V W21 (make_ok (k := 1) (List.mem_cons_of_mem _ hx2) B.t0 lo mem_tup (by decide) ⟨_, _, _, _, _, _, _, _, od, [], rfl, by simp, by simp, by simp, by simp, num_new hd, by simp⟩) ?_ (by decide) tk2⟩))))
  intro i2 ti2 fp2 l2 hS2 s2 h22 _ W22 tk3
  have hx3 := s2 _ (List.mem_cons_of_mem (e1, tupO []) hx2)
  refine (ev_loc (x := "self") W22 rfl).run fun ω tk4 => setattr_at W22 (W22.inl hx3) (.tail (.tail .head)) (by k_is) (by k_is) (by k_is) (by k_is) (fun tb0 h23 W23 tk5 => (show Run c c.Q h23 _ from ?_).go tk5) B.s0 (B.z0 · _)
  refine run_attrX (meth_instF W23 (ev_loc W23 rfl) (W23.inl hx3) (W23.inf (.tail _ (.tail _ (.head _)))) (B.m1 _ _) (by k_is) (by k_is) (by k_is) (by k_is) (xs_ev ev_str fun u1 => xs_ex (ex_tup (xs_nil fun tk => newTuple_at W23 (sz_le rfl) fun e2 h24 W24 tk1 => args_ev (ev_globT (f := fun t => .int 0 t) W24 (by k_is)) fun u2 => xs_ev ev_int fun u3 => xs_nil fun tk2 => ⟨W24.K, useF (f1 := [(sn, _), (sw, _)]) (f2 := (dx, dictOf _ _) :: fp2) V W24 (make_ok (k := 2) (List.mem_cons_of_mem _ hx3) (B.t1 _ _) lo mem_tup (by decide) (hS2.mono (Sub.cons (Sub.refl _)))) ?_ (by decide) tk2⟩))))
  intro i4 ti4 fp4 l4 hS4 s4 h25 _ W25 tk6
  have hx5 := s4 _ (List.mem_cons_of_mem (e2, tupO []) hx3)
  refine (ev_loc (x := "self") W25 rfl).run fun ω tk7 => setattr_at W25 (W25.inl hx5) (.tail (.tail .head)) (by k_is) (by k_is) (by k_is) (by k_is) (fun tb1 h26 W26 tk8 => (show Run c c.Q h26 _ from ?_).go tk8) (B.s1 _ _) (B.z1 _ _ · _)
  exact run_done R (At.keepF (f1 := [(sn, _), (sw, _), (dx, _)]) (f2 := fp4) W26) fun R k => k _ _ sn sw _ _ _ _ _ _ _ (B.f _ _ _ _) hx5
end
section --A17
open PySem PySem.W PyProof.Rows PySem.Calls PySem.Spec PyProof.V PySem.SeqAt
set_option maxHeartbeats 1000000
noncomputable def TermMade (G : Gl) (x dx : Addr) (R : Post) : Prop := ∀ es n sn sw bn ob b0 b1 b2 c0 c1 c2 l', BankD es sn sw (.ref bn) → ob.IsDictOf (PySem.intKind PG G.w) [] → (bn == sysModules) = false → (x, instObj 621 dx) ∈ l' →
  R .none [(bn, ob), (sn, listOf #[.str "Bool" b0, .str "Int" b1, .str "Real" b2] 0), (sw, listOf #[.int 0 c0, .int 0 c1, .int 0 c2] 0), (dx, dictOf es n)] l'
theorem CtK.use {G : Gl} {A : Around} {s : Shared} {L : Addr} {m : Str → Option Value} {env : Env} {outer : List Env} {fn : Value} {vals : List Value} {d : Nat} {fp fs xs l : Led} {K : Post → Prop} {R : Result → Shared → Prop} (Cl : CtK G fn vals d fp l K) (F : Fr G.h₀ L s.heap m) (N : News G.h₀ L s.heap (fp ++ (fs ++ (xs ++ l))))
    (hA : A.frames = some (env :: outer)) (hf : env.frame = some L) (hk : env.scope.kind = .function) (Fs : TI.Frs outer fs) (hh : A.handled = none) (hr : Room A d) (Z : Ap fp fs (xs ++ l))
    (k : K fun v fp' l' => ∀ h' tk, Fr G.h₀ L h' m → News G.h₀ L h' (fp' ++ (fs ++ (xs ++ l'))) → Ap fp' fs (xs ++ l') → Gro xs l l' → R (.ok (.ret v)) { s with heap := h', toks := tk }) : codeAny G.M A (.call fn ⟨vals, []⟩) R s :=
  DoesK.use Cl.go (loc := []) F N hA hf hk Fs hh hr Z zl_nil fun v fp' l' h' tk q F' N' Z' G' => q _ k h' tk F' N' Z' G'
theorem newattr_raw {G : Gl} {A : Around} {g : Array GenState} {dr : Drawn} {os : OsState} {L ia dx C bn : Addr} {m : Str → Option Value} {fp fs xs l : Led} {h h' : Heap} {tk : Nat} {ob : Obj} {es : List DictEntry} {n : Nat} {y : Str} {gg : Obj → Led} {R : Unit → Shared → Prop} {E : Value → Shared → Prop} (F : Fr G.h₀ L h m) (N : News G.h₀ L h (fp ++ (fs ++ (xs ++ l)))) (Z : Ap fp fs (xs ++ l))
    (F' : Fr G.h₀ L h' m) (N' : News G.h₀ L h' ((bn, ob) :: (fp ++ (fs ++ (xs ++ l))))) (lt : ∀ p ∈ fp ++ (fs ++ (xs ++ l)), p.1 < bn) (hm : (ia, instObj C dx) ∈ l) (s : Slot dx (dictOf es n) fp gg)
    (hs : findIn (K0.heap_1 G.w.params) (.ref C) "__setattr__" = some (some (.builtin "object.__setattr__"))) (hp : plainOver (K0.heap_1 G.w.params) C = true) (ht : takerIn (K0.heap_1 G.w.params) C y = some none) (hh : hasDictIn (K0.heap_1 G.w.params) C = true)
    (hl : (getL y es).isSome = true) (hz : ∀ t, (putE G y t (.ref bn) es).length ≤ 1000) (k : ∀ t h', Has G.h₀ h' ((bn, ob) :: gg (dictOf (putE G y t (.ref bn) es) (putN y es n))) fs (xs ++ l) → ∀ tk, R () ⟨h', g, dr, tk, os⟩) : wpAny G.M A (setAttr (.ref ia) y (.ref bn)) R E ⟨h', g, dr, tk, os⟩ := by
  let c : Cx G { kind := .function, names := [], isGenerator := false, isCoroutine := false } := ⟨A, y, 0, .none, L, g, dr, os, [], fs, xs, l, fun ω ω => True, fun ω ω => True⟩
  have W : At c m fp l h := ⟨F, N, Z, Gro.refl _ _⟩
  have W' : At c m ((bn, ob) :: fp) l h' := W.pushF F' N' lt
  exact setattr_at W' (W'.inl hm) (.tail s) hs hp ht hh (fun t h2 W2 tk2 => k t h2 (Has.back W2.F W2.N W2.Z) tk2) hl hz
theorem termbank_init_ok {G : Gl} {x dx : Addr} : CtK G (.ref 520) [.ref x] 5 [(dx, dictOf [] 0)] [(x, instObj 621 dx)] (TermMade G x dx) := by
  refine ⟨?_⟩
  intro A envs fs xs s R0 Y R S hQ
  obtain ⟨hp, g, dr, tk, os⟩ := s
  refine m_callKS (K := K0.heap_1 G.w.params) (binds := [("self", .ref x)]) S G.X G.T.nolimit (by k_is) (by k_is) R.depth (BindsTo.of_eq rfl) (locs rfl) ?_ (by decide)
  intro L' h1 tk1 F1 N1 l1
  have I := InstAt.of_news (x := x) (C := 621) (dx := dx) N1 (List.mem_append_right _ (List.mem_append_right _ (List.mem_append_right _ List.mem_cons_self))) (List.mem_append_left _ List.mem_cons_self)
  refine ks_wpAt_execs_cons (ks_wpAt_Expr_any (ks_wpAt_MethodCall ?_))
  refine ks_node F1 G.X N1 G.T (by k_is) (by rfl) (by rfl) I (by k_is) (by rfl) (by first | rfl | decide +kernel) (by k_is) (by k_is) (by k_is) (by k_is) (by decide) (by rfl) (by rfl) (by rfl) (by rfl) (by decide +kernel) (by first | boot_by_name | rfl | kernel_rfl) ?_
  intro so h2 F2 N2 l2
  refine ks_method F2 G.X N2 List.mem_cons_self (InstAt.of_news (x := x) (C := 621) (dx := dx) N2 (List.mem_cons_of_mem _ (List.mem_append_right _ (List.mem_append_right _ (List.mem_append_right _ List.mem_cons_self)))) (List.mem_cons_of_mem _ (List.mem_append_left _ List.mem_cons_self))) (by k_is) (by ks_is) (by k_is) (by decide) ?_
  intro q h3 F3 N3 l3
  refine callWith_M0 (methP N3 List.mem_cons_self (G.X.keeps F3.keep)) (by k_is) (call_meth N3 List.mem_cons_self ?_)
  refine CtK.use bank_init_ok F3 (News.sub N3 fun q hq => List.mem_cons_of_mem _ (List.mem_cons_of_mem _ hq)) (Around.frames_deeper (Ar.frames Y)) rfl rfl (Ar.frs Y) Y.free (Room.mono (Room.deeper R) (by lia)) S.apart ?_
  intro es n sn sw b0 b1 b2 c0 c1 c2 l5 B hx h5 tk5 F5 N5 Z5 G5
  refine ks_wpAt_execs_cons (ks_wpAt_Assign_Attr (wpAt_of_wpAny (newDict_K (s := ⟨h5, g, dr, tk5, os⟩) F5 N5 G.T.nolimit fun bn h6 ob F6 N6 lt lo ω ω hd ω => ?_)))
  refine nameX_L (s := ⟨h6, g, dr, tk5, os⟩) F6 (v := .ref x) rfl ?_
  refine newattr_raw F5 N5 Z5 F6 N6 lt hx (.tail (.tail .head)) (by k_is) (by k_is) (by k_is) (by k_is) B.s (B.z · _) fun t h7 H7 tk7 => ?_
  exact wpAt_of_wpAny (wpAny_execs_nil (hQ _ _ _ _ _ (fun R k => k _ _ sn sw bn ob _ _ _ _ _ _ _ (B.d t _) hd lo hx) H7 G5))
end
section --N18
open PySem PySem.W PyProof.Rows PySem.Calls PySem.Spec PySem.SeqAt
set_option maxHeartbeats 400000
noncomputable def NoTup (c : Addr) (l : Led) : Prop := ∀ o, (c, o) ∈ l → o.cls ≠ .type "tuple"
theorem TupIn.less {c : Addr} {l : Led} (hc : NoTup c l) {a : Addr} {vs : List Value} (h : TupIn l a vs) : TupIn (Mine.drop c l) a vs := by
  obtain ⟨o, n, hm, h1, h2⟩ := h
  exact ⟨o, n, mem_drop.mpr ⟨hm, fun e => hc o (by rw [← (show a = c from e)]; exact hm) h1⟩, h1, h2⟩
theorem IsIt.less {c : Addr} {l : Led} (hc : NoTup c l) {v : Value} {x : It} (h : IsIt l v x) : IsIt (Mine.drop c l) v x := h.map fun ω ω h => h.less hc
theorem adjust_rev (n : Nat) : Builtin.Slice.sliceAdjust none none (-1) (n : Int) = ((n : Int) - 1, -1) := by
  unfold Builtin.Slice.sliceAdjust
  simp
theorem places_rev (n : Nat) : Builtin.Slice.slicePlaces ((n : Int) - 1) (-1) (-1) = n := by
  unfold Builtin.Slice.slicePlaces
  have h1 : ¬ ((-1 : Int) > 0) := by lia
  simp only [h1, if_false]
  rw [show (-(-1 : Int)) = 1 from rfl, Int.ediv_one]
  split <;> lia
theorem pick_rev : ∀ (vs : List Value), vs.length ≤ 2 → ((List.range vs.length).filterMap fun (k : Nat) => vs.toArray[(((vs.length : Int) - 1) + (k : Int) * (-1)).toNat]?).toArray = vs.reverse.toArray
  | [], _ => rfl
  | [_], _ => rfl
  | [_, _], _ => rfl
  | _ :: _ :: _ :: _, h => absurd h (by simp)
section
variable {G : Gl} {cs : Scope} {c : Cx G cs} {m m' : Str → Option Value} {fp fp' l l' : Led} {h h' : Heap} {la ta : Addr} {vs : List Value} {n : Nat} {Q : Value → Shared → Prop} {q : Addr × Obj}
theorem At.noTup (W : At c m fp l h) (hq : q ∈ l) (hn : q.2.cls ≠ .type "tuple") : NoTup q.1 l := fun o ho => by
  have e1 := (W.N _ (W.inl ho)).1
  have e2 := (W.N q (W.inl hq)).1
  rw [e1] at e2
  cases e2
  exact hn
theorem At.unsettle (W0 : At c m (q :: fp) l h) (W : At c m' fp' l' h') (hq : q ∈ l') : At c m' (q :: fp') (drop q.1 l') h' := by
  refine ⟨W.F, News.sub W.N fun p hp => ?_, ⟨fun p hp r hr => ?_, fun p hp r hr => ?_, List.pairwise_cons.mpr ⟨fun p hp => W.Z.ap p (List.mem_append_left _ hp) q (List.mem_append_right _ hq), W.Z.dist⟩⟩, ⟨fun p hp => mem_drop.mpr ⟨W.G.sub p hp, fun e => W0.Z.ap q (List.mem_append_left _ List.mem_cons_self) p (List.mem_append_right _ (W0.G.sub p hp)) e⟩, fun p hp => W.G.new p (mem_drop.mp hp).1⟩⟩
  · simp only [List.cons_append, List.mem_cons, List.mem_append] at hp ⊢
    rcases hp with rfl | hp | hp | hp | hp
    · simp [hq]
    · simp [hp]
    · simp [hp]
    · simp [hp]
    · simp [(mem_drop.mp hp).1]
  · have hr' : r ∈ c.xs ∨ (r ∈ l' ∧ r.1 ≠ q.1) := (List.mem_append.mp hr).imp id fun z => mem_drop.mp z
    have hp' : p = q ∨ p ∈ fp' ++ c.fs := by
      simp only [List.cons_append, List.mem_cons] at hp
      exact hp
    rcases hp' with rfl | hp'
    · rcases hr' with hr' | hr'
      · exact W0.Z.ap p (List.mem_append_left _ List.mem_cons_self) r (List.mem_append_left _ hr')
      · exact hr'.2
    · exact W.Z.ap p hp' r (List.mem_append.mpr (hr'.imp id And.left))
  · rcases List.mem_cons.mp hp with rfl | hp
    · exact W0.Z.apf p List.mem_cons_self r hr
    · exact W.Z.apf p hp r hr
theorem At.subless (W0 : At c m (q :: fp) l h) (s : Sub (q :: l) l') : Sub l (drop q.1 l') := fun p hp =>
  mem_drop.mpr ⟨s _ (List.mem_cons_of_mem _ hp), fun e => W0.Z.ap q (List.mem_append_left _ List.mem_cons_self) p (List.mem_append_right _ hp) e⟩
theorem join_if {J : Value → Led → Heap → Prop} {b : Bool} {e₁ e₂ : Expr} {tk : Nat} (h1 : b = true → ∀ (Q' : Value → Shared → Prop), (∀ v l' h' tk, J v l' h' → Q' v (c.S h' tk)) → wpAny G.M c.A (eval e₁ c.env) Q' c.E (c.S h tk))
    (h2 : b = false → ∀ (Q' : Value → Shared → Prop), (∀ v l' h' tk, J v l' h' → Q' v (c.S h' tk)) → wpAny G.M c.A (eval e₂ c.env) Q' c.E (c.S h tk)) (k : ∀ v l' h' tk, J v l' h' → Q v (c.S h' tk)) :
    if b = true then wpAny G.M c.A (eval e₁ c.env) Q c.E (c.S h tk) else wpAny G.M c.A (eval e₂ c.env) Q c.E (c.S h tk) := by
  cases b with
  | true => exact h1 rfl Q k
  | false => exact h2 rfl Q k
theorem cutL_at {value slice : Expr} {k : Int} {u : Tok} {E : Value → Shared → Prop} {tk : Nat} (W : At c m fp l h) (hm : (la, listOf vs.toArray n) ∈ l) (h0 : 0 ≤ k) (hz : vs.length ≤ 1000)
    (q : ∀ D h', At c m fp ((D, listOf (vs.take k.toNat).toArray 0) :: l) h' → ∀ tk, Q (.ref D) (c.S h' tk))
    (hs : autoParam (subscripted slice false (.ref la) (.ref h.objs.size) = operate [.ref h.objs.size, .ref la] (getItem (.ref la) (.ref h.objs.size))) aW) :
    wpAny G.M c.A (subscriptTail value slice (.ref la) (.ref h.objs.size)) Q E (c.S (h.push { cls := .type "slice", data := .fields #[.none, .int k u, .none] }) tk) := by
  have up : ∀ b o, h.get? b = some o → (h.push { cls := .type "slice", data := .fields #[.none, .int k u, .none] }).get? b = some o := fun ω ω e => Heap.get?_push_of_some _ e
  have hl : h.IsList la vs.toArray := News.isList W.N (W.inl hm)
  have e : slicePick vs.toArray none (some k) none = (vs.take k.toNat).toArray := by
    have e1 : sliceBounds none (some k) none vs.toArray.size = (((0 : Nat) : Int), ((min k.toNat vs.toArray.size : Nat) : Int), 1) := by
      simp only [sliceBounds, Option.getD_none, show (1 : Int) > 0 by decide, if_true, if_neg (show ¬ (k < 0) by lia)]
      congr 1
      congr 1
      lia
    rw [kmk_pick_nat _ e1]
    show (((vs.drop 0).take (min k.toNat vs.toArray.size - 0))).toArray = _
    rw [List.drop_zero, Nat.sub_zero, List.size_toArray, kmk_take_min]
  refine tail_any (s := c.S (h.push { cls := .type "slice", data := .fields #[.none, .int k u, .none] }) tk) (hl.push _).typeIs slot_list_getitem.lookup
    (wpAny_getItem_list_slice (hl.push _) (Heap.IsSliceOf.new ..) .none (.int _ _) .none (by simp) ?_ (by rw [sizeLine_eq]; simp; lia)) hs
  rw [e]
  have N1 := News.push (W.F.push { cls := .type "slice", data := .fields #[.none, .int k u, .none] }) (W.N.grown up) (listOf (vs.take k.toNat).toArray 0)
  rw [Heap.size_push] at N1
  show Q (.ref (h.push _).objs.size) _
  rw [Heap.size_push]
  exact q _ _ (W.push ((W.F.push _).push _) N1 fun p hp => Nat.lt_succ_of_lt (Heap.lt_size (W.N p hp).1)) _
theorem getItem_tuple_rev {w : World} {A : Around} {E : Value → Shared → Prop} {s : Shared} {t sl : Addr} {u : Tok} (ht : IsTup s.heap t vs.toArray) (hs : s.heap.IsSliceOf sl .none .none (.int (-1) u)) (hz : vs.length ≤ 2)
    (h : Q (.ref s.heap.objs.size) { s with heap := s.heap.push { cls := .type "tuple", data := .seq vs.reverse.toArray } }) : wpAny (model PG w) A (getItem (.ref t) (.ref sl)) Q E s := by
  have hdrop : sizeOk (.seq vs.reverse.toArray) := by
    show vs.reverse.toArray.size ≤ sizeLine
    rw [List.size_toArray, List.length_reverse, sizeLine_eq]
    lia
  obtain ⟨os, hos, hcs, hds⟩ := id hs
  have hTs : s.TypeIs (.ref sl) "slice" := ⟨os, hos, hcs⟩
  unfold getItem
  try with_reducible refine wpAny_holding ?_
  first | refine wpAny_bind (wpAny_pure ?_) | skip
  refine wpAny_bind (wpAny_sequenceKey ht.typeIs (by decide) ?_)
  refine wpAny_bind (wpAny_callSpecial?_slot (name := Str.ofString "__getitem__") ht.typeIs slot_tuple_getitem
    (wpAny_call_entry slot_tuple_getitem ht.typeIs entry_tuple_getitem ?_ (args_tuple_getitem _ _)))
  show wpAny _ _ (Builtin.Tuple.tupleItemsOf (.ref t) >>= _) _ _ s
  refine wpAny_bind (tupleItemsOf_ ht ?_)
  refine wpAny_bind (wpAny_typeOf hTs ?_)
  rw [if_pos (by decide)]
  have ap : ∀ {Q : Int × Int × Nat → Shared → Prop} {E}, Q ((vs.length : Int) - 1, -1, vs.length) s → wpAny (model PG w) A.in1 (Builtin.Slice.sliceApplied (.ref sl) (pure (vs.toArray.size : Int))) Q E s := fun {Q E} q => by
    unfold Builtin.Slice.sliceApplied Builtin.Slice.sliceFields
    refine wpAny_bind (wpAny_bind (wpAny_field hos hds (x := .none) rfl (wpAny_bind (wpAny_field hos hds (x := .none) rfl (wpAny_bind (wpAny_field hos hds (x := .int (-1) u) rfl (wpAny_pure ?_)))))))
    refine wpAny_bind (slicePart_int ?_)
    show wpAny _ _ (if ((-1 : Int) == 0) = true then _ else _) _ _ s
    rw [if_neg (by decide)]
    refine wpAny_bind (slicePart_none (wpAny_bind (slicePart_none (wpAny_bind (wpAny_pure ?_)))))
    show wpAny _ _ (match Builtin.Slice.sliceAdjust none none (-1) (vs.length : Int) with | (lo, hi) => pure (lo, (-1 : Int), Builtin.Slice.slicePlaces lo hi (-1))) _ _ s
    rw [adjust_rev]
    show wpAny _ _ (pure ((vs.length : Int) - 1, (-1 : Int), Builtin.Slice.slicePlaces ((vs.length : Int) - 1) (-1) (-1))) _ _ s
    rw [places_rev]
    exact wpAny_pure q
  refine wpAny_bind (ap ?_)
  show wpAny _ _ (if (((vs.length : Int) - 1) == 0 && (-1 : Int) == 1 && vs.length == vs.toArray.size) = true then _ else _) _ _ s
  rw [if_neg (by simp)]
  rw [pick_rev vs hz]
  first
    | exact wpAny_bind (m := Builtin.Tuple.tupleExact _) (wpAny_newObj_type (wpAny_pure ⟨_, rfl, wpAny_pure h⟩) hdrop)
    | exact wpAny_bind (m := Builtin.Tuple.tupleExact _) (wpAny_newObj_type (wpAny_bind (wpAny_pure (wpAny_pure ⟨_, rfl, wpAny_pure h⟩))) hdrop)
    | exact wpAny_bind (wpAny_bind (m := Builtin.Tuple.tupleExact _) (wpAny_newObj_type (wpAny_pure (wpAny_pure ⟨_, rfl, wpAny_pure h⟩)) hdrop))
    | exact wpAny_bind (wpAny_bind (m := Builtin.Tuple.tupleExact _) (wpAny_newObj_type (wpAny_pure ⟨_, rfl, wpAny_pure h⟩) hdrop))
theorem ex_rev {e₁ : Expr} {j : Nat} {p p' p'' sp : Pos} (W : At c m fp l h) (e1 : Ev c h e₁ (fun ω => .ref ta)) (ht : TupIn l ta vs) (hz : vs.length ≤ 2)
    (q : ∀ D h', At c m fp ((D, tupO vs.reverse) :: l) h' → ∀ tk, Q (.ref D) (c.S h' tk))
    (hs : autoParam (∀ D, subscripted (.Slice none none (some (.UnaryOp .USub (.Constant (.int 1) j p') p'')) sp) false (.ref ta) (.ref D) = operate [.ref ta, .ref D] (getItem (.ref ta) (.ref D))) aJ) : Ex c h (.Subscript e₁ (.Slice none none (some (.UnaryOp .USub (.Constant (.int 1) j p') p'')) sp) p) Q := ⟨fun tk => by
  refine Subscript_ (e1 _ _ _ fun ω tk' => wpAny_Slice (evalPart_none_step (evalPart_none_step (evalPart_some_step (ev_neg ev_int _ _ _ fun u tk2 => ?_)))))
  have up : ∀ b o, h.get? b = some o → (h.push { cls := .type "slice", data := .fields #[.none, .none, .int (-1) u] }).get? b = some o := fun ω ω e => Heap.get?_push_of_some _ e
  have ht' : IsTup (h.push { cls := .type "slice", data := .fields #[.none, .none, .int (-1) u] }) ta vs.toArray := (ht.isTup W.N W.sub).keeps up
  refine tail_any (s := c.S (h.push { cls := .type "slice", data := .fields #[.none, .none, .int (-1) u] }) tk2) ht'.typeIs slot_tuple_getitem.lookup (getItem_tuple_rev ht' (Heap.IsSliceOf.new ..) hz ?_) (hs _)
  have N1 := News.push (W.F.push { cls := .type "slice", data := .fields #[.none, .none, .int (-1) u] }) (W.N.grown up) (tupO vs.reverse)
  rw [Heap.size_push] at N1
  show Q (.ref (h.push _).objs.size) _
  rw [Heap.size_push]
  exact q _ _ (W.push ((W.F.push _).push _) N1 fun p hp => Nat.lt_succ_of_lt (Heap.lt_size (W.N p hp).1)) _⟩
end
end
section --N19
open PySem PySem.W PyProof.Rows PySem.Calls PySem.Spec PySem.SeqAt
set_option maxHeartbeats 400000
theorem valueAt_snoc {kvs : List (Str × Value)} {k s : Str} {v : Value} (h : valueAt kvs k = none) : valueAt (stored kvs k v) s = if s = k then some v else valueAt kvs s := by
  rw [stored_absent h]
  unfold valueAt at h ⊢
  rw [List.find?_append]
  by_cases e : s = k
  · subst e
    rw [if_pos rfl]
    cases hf : kvs.find? (fun p => decide (p.1 = s)) with
    | none => simp
    | some p => rw [hf] at h; cases h
  · rw [if_neg e]
    have : [(k, v)].find? (fun p => decide (p.1 = s)) = none := by simp [Ne.symm e]
    rw [this, Option.or_none]
structure BrOk (G : Gl) (l : Led) (kvs dvs : List (Str × Value)) (ws : List Int) (vs : List Value) (tab : List Row) (dn : Str → Option Int) : Prop where
  so : SortsIn l kvs tab dn
  kl : kvs.length = tab.length
  w3 : 3 ≤ ws.length
  wl : ws.length ≤ 3 + tab.length
  de : ∀ s, match dn s with | none => valueAt dvs s = none | some i => ∃ t, valueAt dvs s = some (.int i t)
  dl : dvs.length ≤ tab.length
  ra : RowsAre l vs tab
  ok : RowsOk tab
  dr : ∀ s, dn s = none → tab.any (declRow s) = false
  nm : ∀ s i, dn s = some i → ∃ j, j < tab.length ∧ s = nameAt j
theorem nameAt_inj {i j : Nat} (hi : i < 4) (hj : j < 4) (h : nameAt i = nameAt j) : i = j := by
  have := congrArg rk h
  rwa [rk_nameAt i hi, rk_nameAt j hj] at this
theorem name_fresh {tab : List Row} (ok : RowsOk tab) (hk : tab.length ≤ 3) : tab.find? (fun r => decide (r.name = nameAt tab.length)) = none := by
  refine List.find?_eq_none.mpr fun r hr e => ?_
  obtain ⟨j, hj, hjr⟩ := List.getElem_of_mem hr
  have := (ok.row j r (by rw [List.getElem?_eq_getElem hj, hjr])).1
  have e' : nameAt j = nameAt tab.length := by rw [← this]; simpa using e
  have := nameAt_inj (by lia) (by lia) e'
  lia
theorem BrOk.fresh {G : Gl} {l : Led} {kvs dvs : List (Str × Value)} {ws : List Int} {vs : List Value} {tab : List Row} {dn : Str → Option Int} (B : BrOk G l kvs dvs ws vs tab dn) (hk : tab.length ≤ 3) : valueAt kvs (nameAt tab.length) = none ∧ dn (nameAt tab.length) = none := by
  have h1 := B.so (nameAt tab.length)
  rw [name_fresh B.ok hk] at h1
  refine ⟨h1, ?_⟩
  cases h : dn (nameAt tab.length) with
  | none => rfl
  | some i =>
    obtain ⟨j, hj, e⟩ := B.nm _ _ h
    have := nameAt_inj (by lia) (by lia) e
    lia
theorem rows_snoc {l l' : Led} {vs : List Value} {tab : List Row} {v : Value} {r : Row} (h : RowsAre l vs tab) (s : Sub l l') (hv : RowIs l' v r) : RowsAre l' (vs ++ [v]) (tab ++ [r]) := by
  refine ⟨by simp [h.1], fun j w hw => ?_⟩
  rcases Nat.lt_or_ge j vs.length with hj | hj
  · rw [List.getElem?_append_left hj] at hw
    obtain ⟨r', a, b⟩ := h.2 j w hw
    exact ⟨r', by rw [List.getElem?_append_left (by rw [← h.1]; exact hj)]; exact a, b.mono s⟩
  · have hj2 : j = vs.length := by
      have := (List.getElem?_eq_some_iff.mp hw).1
      simp at this; lia
    subst hj2
    simp at hw
    exact ⟨r, by rw [h.1]; simp, hw ▸ hv⟩
theorem rowsOk_snoc {tab : List Row} {r : Row} (ok : RowsOk tab) (hk : tab.length ≤ 3) (h1 : r.name = nameAt tab.length) (h2 : r.params.length ≤ 2) (h3 : r.body = none → r.params = []) (h4 : ∀ b, r.body = some b → 1 ≤ tab.length ∧ Over tab.length 3 b) : RowsOk (tab ++ [r]) := by
  refine ⟨by simp; lia, fun j q hq => ?_⟩
  rcases Nat.lt_or_ge j tab.length with hj | hj
  · rw [List.getElem?_append_left hj] at hq
    exact ok.row j q hq
  · have hj2 : j = tab.length := by
      have := (List.getElem?_eq_some_iff.mp hq).1
      simp at this; lia
    subst hj2
    simp at hq
    subst hq
    exact ⟨h1, h2, h3, h4⟩
theorem sorts_snoc {l l' : Led} {kvs : List (Str × Value)} {tab : List Row} {dn dn' : Str → Option Int} {v : Value} {i : Int} {r : Row} (h : SortsIn l kvs tab dn) (s : Sub l l') (hf : tab.find? (fun q => decide (q.name = r.name)) = none) (hp : r.params.length ≤ 2) (he : EntryIn l' v r i) (hd : ∀ x, x ≠ r.name → dn' x = dn x) (hi : r.body = none → dn' r.name = some i) :
    SortsIn l' (stored kvs r.name v) (tab ++ [r]) dn' := by
  have hv : valueAt kvs r.name = none := by
    have := h r.name
    rwa [hf] at this
  intro x
  have h1 := h x
  rw [List.find?_append, valueAt_snoc hv]
  by_cases e : x = r.name
  · subst e
    rw [hf, if_pos rfl]
    simp only [Option.none_or, List.find?_cons, decide_true]
    exact ⟨hp, v, i, rfl, he, hi⟩
  · have e2 : [r].find? (fun q => decide (q.name = x)) = none := by simp [Ne.symm e]
    rw [if_neg e, e2, Option.or_none]
    cases hq : tab.find? (fun q => decide (q.name = x)) with
    | none => rw [hq] at h1; exact h1
    | some q =>
      rw [hq] at h1
      obtain ⟨a, w, i', b1, b2, b3⟩ := h1
      exact ⟨a, w, i', b1, b2.mono s, by rw [hd x e]; exact b3⟩
variable {G : Gl} {l l' : Led} {kvs dvs : List (Str × Value)} {ws : List Int} {vs : List Value} {tab : List Row} {dn : Str → Option Int}
theorem BrOk.decl {v w : Value} {t : Tok} (B : BrOk G l kvs dvs ws vs tab dn) (hk : tab.length ≤ 3) (s : Sub l l') (he : EntryIn l' v ⟨nameAt tab.length, [], none⟩ ws.length) (hw : RowIs l' w ⟨nameAt tab.length, [], none⟩) :
    BrOk G l' (stored kvs (nameAt tab.length) v) (stored dvs (nameAt tab.length) (.int ws.length t)) (ws ++ [0]) (vs ++ [w]) (tab ++ [⟨nameAt tab.length, [], none⟩]) (fun x => if x = nameAt tab.length then some (ws.length : Int) else dn x) := by
  obtain ⟨f1, f2⟩ := B.fresh hk
  have f3 : valueAt dvs (nameAt tab.length) = none := by
    have := B.de (nameAt tab.length)
    rwa [f2] at this
  refine ⟨sorts_snoc B.so s (name_fresh B.ok hk) (by simp) he (fun x hx => if_neg hx) (fun ω => if_pos rfl), by rw [stored_absent f1]; simp [B.kl], by simp; have := B.w3; lia, by simp; have := B.wl; lia, fun x => ?_, by rw [stored_absent f3]; simp [B.dl], rows_snoc B.ra s hw, rowsOk_snoc B.ok hk rfl (by simp) (fun ω => rfl) (fun b hb => by cases hb), fun x hx => ?_, fun x i hx => ?_⟩
  · rw [valueAt_snoc f3]
    by_cases e : x = nameAt tab.length
    · rw [if_pos e, if_pos e]; exact ⟨t, rfl⟩
    · rw [if_neg e, if_neg e]; exact B.de x
  · by_cases e : x = nameAt tab.length
    · rw [if_pos e] at hx; cases hx
    · rw [if_neg e] at hx
      rw [List.any_append, B.dr x hx]
      simp [declRow, Ne.symm e]
  · by_cases e : x = nameAt tab.length
    · exact ⟨tab.length, by simp, e⟩
    · rw [if_neg e] at hx
      obtain ⟨j, hj, e2⟩ := B.nm x i hx
      exact ⟨j, by simp; lia, e2⟩
theorem BrOk.defn {v w : Value} {ps : List Str} {b : It} (B : BrOk G l kvs dvs ws vs tab dn) (hk : tab.length ≤ 3) (s : Sub l l') (he : EntryIn l' v ⟨nameAt tab.length, ps, some b⟩ 0) (hw : RowIs l' w ⟨nameAt tab.length, ps, some b⟩) (hp : ps.length ≤ 2) (h1 : 1 ≤ tab.length) (ho : Over tab.length 3 b) :
    BrOk G l' (stored kvs (nameAt tab.length) v) dvs ws (vs ++ [w]) (tab ++ [⟨nameAt tab.length, ps, some b⟩]) dn := by
  obtain ⟨f1, f2⟩ := B.fresh hk
  refine ⟨sorts_snoc B.so s (name_fresh B.ok hk) hp he (fun ω ω => rfl) (fun z => by cases z), by rw [stored_absent f1]; simp [B.kl], B.w3, by simp; have := B.wl; lia, B.de, by simp; have := B.dl; lia, rows_snoc B.ra s hw, rowsOk_snoc B.ok hk rfl hp (fun z => by cases z) (fun b' hb => by cases hb; exact ⟨h1, ho⟩), fun x hx => ?_, fun x i hx => ?_⟩
  · rw [List.any_append, B.dr x hx]
    simp [declRow]
  · obtain ⟨j, hj, e2⟩ := B.nm x i hx
    exact ⟨j, by simp; lia, e2⟩
theorem BrOk.mono (B : BrOk G l kvs dvs ws vs tab dn) (s : Sub l l') : BrOk G l' kvs dvs ws vs tab dn := ⟨B.so.mono s, B.kl, B.w3, B.wl, B.de, B.dl, B.ra.mono s, B.ok, B.dr, B.nm⟩
end
section --A18
open PySem PySem.W PyProof.Rows PySem.Calls PySem.Spec PyProof.V PySem.SeqAt
set_option maxHeartbeats 1000000
noncomputable abbrev brF (so br sn sw dca rwa : Addr) (oso on ow od : Obj) (ab : Array Value) (kb : Nat) (vs : List Value) (kk : Nat) : Led := [(so, oso), (br, listOf ab kb), (sn, on), (sw, ow), (dca, od), (rwa, listOf vs.toArray kk)]
noncomputable def BrK (G : Gl) (cl fa so br sn sw dca rwa : Addr) (n sm : Int) (k : Nat) (l : Led) : Post → Prop := fun R => ∀ n' oso ab kb on ow od vs kk kvs dvs ws tab dn fp l',
  FeedSt G.w cl fa n' sm fp → n ≤ n' → n' ≤ n + 13 → oso.IsDictOf (PySem.strKind PG G.w) kvs → ab.size = tab.length → LsOk ws on ow → od.IsDictOf (PySem.strKind PG G.w) dvs → BrOk G l' kvs dvs ws vs tab dn → tab.length = k + 1 → Sub l l' → R .none (brF so br sn sw dca rwa oso on ow od ab kb vs kk ++ fp) l'
theorem names4 : ∀ k, k ≤ 3 → nameAt k = "P" ∨ nameAt k = "A" ∨ nameAt k = "B" ∨ nameAt k = "C"
:= by decide
theorem Te.cb {G : Gl} {cs : Scope} {c : Cx G cs} {h : Heap} {e : Expr} {b b' : Bool} (t : Te c h e b) (hb : b = b') : Te c h e b' := hb ▸ t
theorem tex_or_ft {G : Gl} {cs : Scope} {c : Cx G cs} {h : Heap} {e : Expr} {es : List Expr} {p : Pos} {R : Bool → Shared → Prop} (t : Te c h e false) (k : TeX c h (.BoolOp .Or es p) R) : TeX c h (.BoolOp .Or (e :: es) p) R := ⟨fun whole tk => isTrue_or (t _ _ _ _ fun tk' => k.go whole tk')⟩
theorem name_P : ∀ k, k ≤ 3 → k ≠ 0 → (nameAt k == "P") = false
:= by decide
theorem or_q {R : Bool → Shared → Prop} {b : Bool} {s : Shared} (q : ∀ b, R b s) : if b = true then R true s else R false s := by cases b <;> exact q _
theorem tex_join {G : Gl} {cs : Scope} {c : Cx G cs} {h : Heap} {e : Expr} {Q : Bool → Shared → Prop} {J : Bool → Heap → Prop} (h1 : ∀ Q' : Bool → Shared → Prop, (∀ b h' tk, J b h' → Q' b (c.S h' tk)) → TeX c h e Q') (k : ∀ b h' tk, J b h' → Q b (c.S h' tk)) : TeX c h e Q := h1 Q k
theorem take_PQ {ps : List Value} {r : Int} (hs : Strs ps ["P", "Q"]) (h0 : 0 ≤ r) (h3 : r < 3) : ∃ prs, Strs (ps.take r.toNat) prs ∧ prs.length ≤ 2 ∧ ∀ x ∈ prs, x = "P" ∨ x = "Q" := by
  cases hs with
  | cons h => cases h with
    | cons h => cases h with
      | nil =>
        have : r.toNat = 0 ∨ r.toNat = 1 ∨ r.toNat = 2 := by lia
        rcases this with e | e | e <;> rw [e]
        · exact ⟨[], .nil, by decide, by simp⟩
        · exact ⟨["P"], .cons .nil, by decide, by simp⟩
        · exact ⟨["P", "Q"], .cons (.cons .nil), by decide, by simp⟩
theorem Strs.append {a b : List Value} {x y : List Str} (h1 : Strs a x) (h : Strs b y) : Strs (a ++ b) (x ++ y) := by
  induction h1 with
  | nil => exact h
  | cons _ ih => exact .cons ih
theorem Strs.reverse {a : List Value} {x : List Str} (h : Strs a x) : Strs a.reverse x.reverse := by
  induction h with
  | nil => exact .nil
  | cons _ ih => rw [List.reverse_cons, List.reverse_cons]; exact ih.append (.cons .nil)
noncomputable def PrJ {G : Gl} {cs : Scope} (c : Cx G cs) (m : Str → Option Value) (fp l : Led) : Value → Led → Heap → Prop := fun v l' h' => ∃ D qs prs, v = .ref D ∧ TupIn l' D qs ∧ Strs qs prs ∧ prs.length ≤ 2 ∧ (∀ x ∈ prs, x = "P" ∨ x = "Q") ∧ Sub l l' ∧ At c m fp l' h'
theorem brought_ok {G : Gl} {cl fa wa ba sya sdx so br sn sw bn dca rwa : Addr} {oso on ow od : Obj} {ab : Array Value} {kb kk : Nat} {kvs dvs : List (Str × Value)} {ws : List Int} {vs : List Value} {tab : List Row} {dn : Str → Option Int} {n sm : Int} {nm : Str} {t : Tok} {fp l : Led}
    (hw : WldIn G.w l wa ba sya rwa dca) (Sy : SymAt l sya sdx so br ba) (B : BankAt l ba sn sw bn) (hc : CellsIn l cl) (F : FeedSt G.w cl fa n sm fp) (hD : oso.IsDictOf (PySem.strKind PG G.w) kvs) (hab : ab.size = tab.length) (O : LsOk ws on ow) (hDe : od.IsDictOf (PySem.strKind PG G.w) dvs) (Br : BrOk G l kvs dvs ws vs tab dn) (hk : tab.length ≤ 3) (hnm : nm = nameAt tab.length) (hn : 0 ≤ n ∧ n + 20 ≤ 1000000) :
    Ct G (.ref 923) [.ref fa, .ref wa, .str nm t] 5 (brF so br sn sw dca rwa oso on ow od ab kb vs kk ++ fp) l (BrK G cl fa so br sn sw dca rwa n sm tab.length l) NoX := by
  subst hnm
  refine hw.out fun owd w1 w2 => ?_
  refine Sy.out fun dx es nn b1 b2 g0 g1 g2 g3 g4 g5 => ?_
  have hwl := Br.wl
  have hkl := Br.kl
  have hdl := Br.dl
  have hvl := Br.ra.1
  refine ent (binds := [("feed", .ref fa), ("world", .ref wa), ("name", .str (nameAt tab.length) t)]) (by k_is) (by k_is) fun c h V W R EX => ?_
  have NM {p} := fun {m : Str → Option Value} {fp l : Led} {h : Heap} (W : At c m fp l h) (hm : m "name" = some (.str (nameAt tab.length) t)) => ev_locT (p := p) (x := "name") (f := fun t => .str (nameAt tab.length) t) W hm
  refine run_ifX (tex_join (J := fun b h1 => ∃ n1 fp1, FeedSt G.w cl fa n1 sm fp1 ∧ n ≤ n1 ∧ n1 ≤ n + 1 ∧ (b = false → 1 ≤ tab.length) ∧ At c (lk [("feed", .ref fa), ("world", .ref wa), ("name", .str (nameAt tab.length) t)]) (brF so br sn sw dca rwa oso on ow od ab kb vs kk ++ fp1) l h1) (fun Q' q => ?_) ?_)
  · by_cases hk0 : tab.length = 0
    · refine Te.x (b := true || false) (te_or2 ((te_eqS (NM W rfl) ev_str).cb (by rw [hk0]; rfl)) fun z => by cases z) fun tk => q true h tk ⟨n, fp, F, by lia, by lia, (fun z => by cases z), W⟩
    · refine tex_or_ft ((te_eqS (NM W rfl) ev_str).cb (name_P _ hk hk0)) (tex_or_x (tex_cmp (call2 W (by k_is) (by k_is) (ev_loc W rfl) ev_int fun ω ω => useF V W (draw_ok F hc (by lia) (by decide)) ?_)))
      intro r u fp1 F1 _ _ h1 _ W1 tk1
      exact int_eq_at fun tk2 => or_q fun b => q b h1 tk2 ⟨n + 1, fp1, F1, by lia, by lia, fun ω => by lia, W1⟩
  rintro b h1 tk1 ⟨n1, fp1, F1, z1, z2, z3, W0⟩
  refine if_run (fun hb => ?_) fun hb => ?_
  · have W1 := (show At c _ ([(so, oso), (br, listOf ab kb), (sn, on), (sw, ow)] ++ ([(dca, od), (rwa, listOf vs.toArray kk)] ++ fp1)) l h1 from W0).perm List.perm_append_comm
    refine run_setX2 (meth_inst W1 (ev_dictS W1 (ev_loc W1 rfl) ev_str (W1.inl w1) w2 (v := .ref sya) rfl) b1 b2 g3 (by k_is) (by k_is) (by k_is) (by k_is) (xs_ev (NM W1 rfl) fun ω => xs_nil fun tk => ⟨W1.K, useF (f1 := [(dca, od), (rwa, listOf vs.toArray kk)] ++ fp1) (f2 := [(so, oso), (br, listOf ab kb)] ++ [(sn, on), (sw, ow)]) V W1 (sym_declare_ok Sy B O (by lia) hD (Br.fresh hk).1 (by lia) (by lia) (names4 _ hk)) ?_ (by decide) tk⟩))
    intro on' ow' oso' ab' kb' ea t' l1 hO' hD' hab' hE s1 h1 _ W2 tk1
    refine setS_at W2 (ev_dictS W2 (ev_loc W2 rfl) ev_str (W2.inl (s1 _ w1)) w2 (v := .ref dca) rfl) (NM W2 rfl) .head hDe (by lia) fun h2 od' hd2 W3 tk2 => (show Run c _ h2 _ from ?_).go tk2
    refine run_append W3 (ev_dictS W3 (ev_loc W3 rfl) ev_str (W3.inl (s1 _ w1)) w2 (v := .ref rwa) rfl) (.tail .head) (xs_ex (ex_tup (xs_ev (NM W3 rfl) fun t1 => xs_ex (ex_tup (xs_nil fun tk => newTuple_at W3 (sz_le rfl) fun em h4 W4 tk4 => args_ev ev_none fun ω => xs_nil fun tk5 => newTuple_at W4 (sz_le rfl) fun D h5 W5 tk6 => args_nil (append_at2 W5 (.tail .head) (by simp; lia) fun h6 W6 tk7 => (show Run c _ h6 _ from ?_).go tk7))))))
    rw [List.push_toArray] at W6
    have W7 := (show At c _ (([(dca, od'), (rwa, listOf (vs ++ [Value.ref D]).toArray (kk + 1))] ++ fp1) ++ ([(so, oso'), (br, listOf ab' kb')] ++ [(sn, on'), (sw, ow')])) _ h6 from W6).perm List.perm_append_comm
    refine run_retN R.sq W7 fun R k => k _ oso' ab' kb' on' ow' od' _ _ _ _ _ _ _ fp1 _ F1 z1 (by lia) hD' (by rw [hab', hab]; simp) hO' hd2 (Br.decl hk (s1.trans (Sub.cons (Sub.cons (Sub.refl l1)))) (hE.mono (Sub.cons (Sub.cons (Sub.refl l1)))) ?_) (by simp) (s1.trans (Sub.cons (Sub.cons (Sub.refl l1))))
    exact ⟨D, t1, em, [], .none, rfl, mem_tup, mem_tup.mono (Sub.cons (Sub.refl _)), .nil, rfl, nameAt_len _⟩
  · have h1t := z3 hb
    refine run_setX (call_T W0 (by k_is) rfl (ex_sub (call0 W0 (by k_is) (by k_is) (useO V W0 params_ok EX trivial ?_))))
    intro a ps l2 hs ha s2 h2 _ W2 tk2
    refine wpAny_Slice (evalPart_none_step (evalPart_some_step ((call2 W2 (by k_is) (by k_is) (ev_loc W2 rfl) ev_int fun ω ω => useF V W2 (draw_ok F1 (hc.mono s2) (by lia) (by decide)) ?_).go tk2)))
    intro r u fp2 F2 r0 r1 h3 _ W3 tk3
    have hs2 := hs.length
    refine evalPart_none_step (cutL_at W3 ha r0 (by rw [hs2]; decide) fun D h4 W4 tk4 => tuple_of_at W4 List.mem_cons_self (by simp; rw [hs2]; simp; lia) fun D2 h5 W5 tk5 => store_run W5 fun h6 W6 => ?_)
    obtain ⟨prs, hp1, hp2, hp3⟩ := take_PQ hs r0 r1
    have hpl := hp1.length
    have s6 : Sub l ((D2, tupO (ps.take r.toNat)) :: (D, listOf (ps.take r.toNat).toArray 0) :: l2) := s2.trans (Sub.cons (Sub.cons (Sub.refl l2)))
    refine run_setX (ex_ifX (tex_cmp (call2 W6 (by k_is) (by k_is) (ev_loc W6 rfl) ev_int fun ω ω => useF V W6 (draw_ok F2 (hc.mono s6) (by lia) (by decide)) ?_)))
    intro r' u' fp3 F3 _ _ h7 _ W7 tk7
    refine int_eq_at fun tk8 => join_if (J := PrJ c (up (lk [("feed", .ref fa), ("world", .ref wa), ("name", .str (nameAt tab.length) t)]) "params" (.ref D2)) (brF so br sn sw dca rwa oso on ow od ab kb vs kk ++ fp3) l) (fun ω Q' q => ?_) (fun ω Q' q => ?_) ?_
    · exact (ex_rev W7 (ev_loc W7 rfl) mem_tup (by lia) fun D3 h8 W8 tk9 => q _ _ _ _ ⟨D3, _, _, rfl, mem_tup, hp1.reverse, by simpa using hp2, fun x hx => hp3 x (by simpa using hx), s6.trans (Sub.cons (Sub.refl _)), W8⟩).go tk8
    · exact (ev_loc W7 rfl).run fun ω tk9 => q _ _ _ _ ⟨D2, _, _, rfl, mem_tup, hp1, hp2, hp3, s6, W7⟩
    rintro _ l8 h8 tk9 ⟨D3, qs, prs, rfl, hq1, hq2, hq3, hq4, s8, W8⟩
    clear hp1 hp2 hp3 hpl hs hs2 ha
    refine store_run W8 fun h9 W9 => ?_
    have W10 := (show At c _ ([(so, oso), (br, listOf ab kb), (sn, on), (sw, ow), (dca, od)] ++ (rwa, listOf vs.toArray kk) :: fp3) l8 h9 from W9).perm List.perm_middle
    have W11 := W10.settle
    refine run_setX (call3 W11 (by k_is) (by k_is) (ev_loc W11 rfl) (ev_loc W11 rfl) ev_int fun ω ω ω => useF (f1 := [(so, oso), (br, listOf ab kb), (sn, on), (sw, ow), (dca, od)]) V W11 (item_ok 1 F3 (hc.mono (s8.trans (Sub.cons (Sub.refl l8)))) (hw.mono (s8.trans (Sub.cons (Sub.refl l8)))) ⟨vs, kk, List.mem_cons_self, Br.ra.mono (s8.trans (Sub.cons (Sub.refl l8)))⟩ Br.ok h1t (by have : cost 1 = 10 := rfl; lia)) ?_)
    intro v n' it fp4 l' F4 y1 y2 hi ho s12 h12 _ W12 tk12
    have W13 := W10.unsettle W12 (s12 _ List.mem_cons_self)
    have hi' : IsIt (drop rwa l') v it := hi.less (W12.noTup (s12 _ List.mem_cons_self) (fun z => absurd (Value.type.inj z) (by decide)))
    have s13 : Sub l8 (drop rwa l') := W10.subless s12
    have s14 : Sub l (drop rwa l') := s8.trans s13
    refine store_run W13 fun h14 W14 => ?_
    have W15 := W14.perm (perm_mid (a := (rwa, listOf vs.toArray kk)) (A := [(so, oso), (br, listOf ab kb)]) (B := [(sn, on), (sw, ow), (dca, od)] ++ fp4))
    refine exec_expr (meth_inst W15 (ev_dictS W15 (ev_loc W15 rfl) ev_str (W15.inl (s14 _ w1)) w2 (v := .ref sya) rfl) (s14 _ b1) (s14 _ b2) g4 (by k_is) (by k_is) (by k_is) (by k_is) (xs_ev (NM W15 rfl) fun ω => xs_ev (ev_loc W15 rfl) fun ω => xs_ev (ev_loc W15 rfl) fun ω => xs_nil fun tk => ⟨W15.K, useF (f2 := [(so, oso), (br, listOf ab kb)]) V W15 (sym_define_ok (Sy.mono s14) (hq1.mono s13) hq2 hq4 hD (Br.fresh hk).1 (by lia) (by lia) (names4 _ hk)) ?_ (by decide) tk⟩))
    intro oso' ab' kb' ea l16 hD' hab' hE s16 h16 _ W16 tk16
    refine (show Run c c.Q h16 _ from ?_).go tk16
    have s17 := s14.trans s16
    refine run_append W16 (ev_dictS W16 (ev_loc W16 rfl) ev_str (W16.inl (s17 _ w1)) w2 (v := .ref rwa) rfl) .head (xs_ex (ex_tup (xs_ev (NM W16 rfl) fun t1 => xs_ev (ev_loc W16 rfl) fun ω => xs_ev (ev_loc W16 rfl) fun ω => xs_nil fun tk => newTuple_at W16 (sz_le rfl) fun D h17 W17 tk17 => args_nil (append_at2 W17 .head (by simp; lia) fun h18 W18 tk18 => (show Run c c.Q h18 _ from ?_).go tk18))))
    rw [List.push_toArray] at W18
    have PM : (((rwa, listOf (vs ++ [Value.ref D]).toArray (kk + 1)) :: ([(sn, on), (sw, ow), (dca, od)] ++ fp4)) ++ [(so, oso'), (br, listOf ab' kb')]).Perm (brF so br sn sw dca rwa oso' on ow od ab' kb' (vs ++ [Value.ref D]) (kk + 1) ++ fp4) :=
      List.perm_append_comm.trans ((List.perm_middle (l₁ := [(sn, on), (sw, ow), (dca, od)])).symm.append_left [(so, oso'), (br, listOf ab' kb')])
    have W19 := W18.perm PM
    refine run_end R W19 fun R k => k _ oso' ab' kb' on ow od _ _ _ _ _ _ _ fp4 _ F4 (by lia) (by have : cost 1 = 10 := rfl; lia) hD' (by rw [hab', hab]; simp) O hDe (Br.defn hk (s17.trans (Sub.cons (Sub.refl l16))) ((hE (some it) hi').mono (Sub.cons (Sub.refl l16))) ?_ hq3 h1t ho) (by simp) (s17.trans (Sub.cons (Sub.refl l16)))
    exact ⟨D, t1, D3, qs, v, rfl, mem_tup, ((hq1.mono s13).mono s16).mono (Sub.cons (Sub.refl _)), hq2, (hi'.mono s16).mono (Sub.cons (Sub.refl _)), nameAt_len _⟩
end
section --N20
open PySem PySem.W PyProof.Rows PySem.Calls PySem.Spec PySem.SeqAt
set_option maxHeartbeats 400000
section
variable {G : Gl} {cs : Scope} {c : Cx G cs} {m m' m0 : Str → Option Value} {fp fp' fp0 l l' : Led} {h h' h0 : Heap} {d : Nat} {o : Led} {s : Shared} {x : Str} {px pos p p' p'' : Pos} {body rest : List Stmt} {QF : Flow → Shared → Prop} {target iter e e₁ e₂ : Expr} {Q : Value → Shared → Prop} {ca : Addr} {v : Value} {f : Tok → Value}
noncomputable abbrev Cx.own (c : Cx G cs) (o l : Led) (s : Shared) : Cx G cs := { c with xs := o ++ c.xs, l₀ := l, g := s.gens, dr := s.drawn, os := s.os }
theorem Live.own (V : Live c d) : Live (c.own o l s) d := ⟨V.fr, V.Fs, V.hh, V.room, V.hk⟩
theorem At.own (W : At c m fp l h) (h1 : ∀ p ∈ o, h.get? p.1 = some p.2 ∧ p.1 ≠ c.L ∧ G.h₀.get? p.1 = none) (h2 : ∀ p ∈ o, ∀ q ∈ fp ++ (c.fs ++ (c.xs ++ l)), q.1 ≠ p.1) : At (c.own o l s) m fp l h := by
  refine ⟨W.F, fun p hp => ?_, ⟨fun p hp q hq => ?_, W.Z.apf, W.Z.dist⟩, Gro.refl _ _⟩
  · have hp' : p ∈ o ∨ p ∈ fp ++ (c.fs ++ (c.xs ++ l)) := by
      simp only [List.mem_append] at hp ⊢
      rcases hp with hp | hp | (hp | hp) | hp <;> simp [hp]
    exact hp'.elim (h1 p) (W.N p)
  · have hq' : q ∈ o ∨ q ∈ c.xs ++ l := by
      simp only [List.mem_append] at hq ⊢
      rcases hq with (hq | hq) | hq <;> simp [hq]
    rcases hq' with hq' | hq'
    · refine (h2 q hq' p ?_).symm
      simp only [List.mem_append] at hp ⊢
      rcases hp with hp | hp <;> simp [hp]
    · exact W.Z.ap p hp q hq'
theorem At.back (W : At c m0 fp0 l h0) (h2 : ∀ p ∈ o, ∀ q ∈ c.xs ++ l, q.1 ≠ p.1) (W' : At (c.own o l s) m' fp' l' h') : At c m' fp' l' h' ∧ (∀ p ∈ o, h'.get? p.1 = some p.2) ∧ ∀ p ∈ o, ∀ q ∈ fp' ++ (c.fs ++ (c.xs ++ l')), q.1 ≠ p.1 := by
  have ho : ∀ p ∈ o, p ∈ (c.own o l s).xs ++ l' := fun p hp => List.mem_append_left _ (List.mem_append_left _ hp)
  refine ⟨⟨W'.F, News.sub W'.N fun q hq => ?_, ⟨fun p hp q hq => W'.Z.ap p hp q ?_, W'.Z.apf, W'.Z.dist⟩, W.G.trans ⟨W'.G.sub, fun q hq => (W'.G.new q hq).imp id fun z y hy => z y (List.mem_append_right _ hy)⟩⟩, fun p hp => (W'.N p (List.mem_append_right _ (List.mem_append_right _ (ho p hp)))).1, fun p hp q hq => ?_⟩
  · simp only [List.mem_append] at hq ⊢
    rcases hq with hq | hq | hq | hq <;> simp [hq]
  · simp only [List.mem_append] at hq ⊢
    rcases hq with hq | hq <;> simp [hq]
  · have hq' : q ∈ fp' ++ c.fs ∨ q ∈ c.xs ∨ q ∈ l' := by
      simp only [List.mem_append] at hq ⊢
      rcases hq with hq | hq | hq | hq <;> simp [hq]
    rcases hq' with hq' | hq' | hq'
    · exact (W'.Z.ap q hq' p (ho p hp)).symm
    · exact h2 p hp q (List.mem_append_left _ hq')
    · rcases W'.G.new q hq' with z | z
      · exact h2 p hp q (List.mem_append_right _ z)
      · exact z p (List.mem_append_left _ hp)
noncomputable def TurnL (c : Cx G cs) (J : (Str → Option Value) → Led → Led → Prop) : Flow → Shared → Prop := fun f s' => f = .next ∧ ∃ m fp l h tk, s' = c.S h tk ∧ J m fp l ∧ At c m fp l h
theorem turnL_end {J : (Str → Option Value) → Led → Led → Prop} (W : At c m fp l h) (j : J m fp l) : Run c (TurnL c J) h [] := run_nil fun tk => ⟨rfl, m, fp, l, h, tk, rfl, j, W⟩
theorem run_for (e1 : Ex c h iter fun xv s₁ => wpAny G.M c.A (pyIter xv) (fun it s₂ => LoopAtT PG G.w c.A G.h₀ c.env target body (Sq c QF rest .next |> fun q f s => match f with | .next => q s | f => Sq c QF rest f s) c.E it s₂) c.E s₁)
    (hs : autoParam (∀ v, foldedSetIterable iter c.env v = pure v) aI) : Run c QF h (.For target iter body [] pos :: rest) := Run.cons fun tk => wpAny_mono (For_invT G.h₀ (e1.go tk) hs (by unfold Cx.E; passes_own)) (fun f s' q => by cases f <;> exact q) fun ω ω e => e
structure Like (c c' : Cx G cs) : Prop where
  L : c'.L = c.L
  env : c'.env = c.env
  cd : c'.cd = c.cd
  fs : c'.fs = c.fs
  live : ∀ {d}, Live c d → Live c' d
theorem Like.cel {c' : Cx G cs} {y : Str} {v : Value} (H : Like c c') (x : Cel c l y v) : Cel c' l y v := by
  unfold Cel at x ⊢
  rw [H.L]; exact x
theorem Like.look {c' : Cx G cs} {y : Str} {a : Addr} (H : Like c c') (x : (cellsFrom (c.L + 1) cs.names []).lookup y = some a) : (cellsFrom (c'.L + 1) cs.names []).lookup y = some a := by
  rw [H.L]; exact x
theorem look_of {y : Str} {a : Addr} (x : (cellsFrom (c.L + 1) cs.names []).lookup y = some a) : (cellsFrom (c.L + 1) cs.names []).lookup y = some a := x
theorem rng_loop {J : Nat → (Str → Option Value) → Led → Led → Prop} {cnt : Nat} {b : Int} {R : Addr} {t1 t2 t3 : Tok} {tk : Nat} (V : Live c d) (W : At c m fp l h) (hr : IsRange h R 0 b 1 t1 t2 t3) (hb : b = (cnt : Int)) (hsz : cnt ≤ 1000) (h0 : J 0 m fp l)
    (step : ∀ (i : Nat) t m₁ fp₁ l₁ h₁ (c' : Cx G cs) QT, i < cnt → J i m₁ fp₁ l₁ → Like c c' → (∀ {m2 fp2 l2 h2}, J (i + 1) m2 fp2 l2 → At c' m2 fp2 l2 h2 → Run c' QT h2 []) → At c' (up m₁ x (.int i t)) fp₁ l₁ h₁ → Run c' QT h₁ body)
    (k : ∀ m' fp' l' h', J cnt m' fp' l' → At c m' fp' l' h' → Run c QF h' rest)
    (hk : autoParam (cs.kind = .function) aR) (hx : autoParam (cs.names.lookup x = some .local) aR) :
    wpAny G.M c.A (pyIter (.ref R)) (fun it s₂ => LoopAtT PG G.w c.A G.h₀ c.env (.Name x px) body (Sq c QF rest .next |> fun q f s => match f with | .next => q s | f => Sq c QF rest f s) c.E it s₂) c.E (c.S h tk) := by
  subst hb
  have hsize : Builtin.Range.rangeSize 0 (cnt : Int) 1 = (cnt : Int) := by
    rw [rangeSize_nat]; simp
  have hsmall : Builtin.Range.small 0 (cnt : Int) 1 = true := by
    unfold Builtin.Range.small Builtin.Range.rangeFitsLong
    rw [hsize]
    simp
    lia
  have lt : ∀ p ∈ fp ++ (c.fs ++ (c.xs ++ l)), p.1 < h.objs.size := fun p hp => Heap.lt_size (W.N p hp).1
  refine wpAny_pyIter_range (s := c.S h tk) hr hsmall ?_
  rw [hsize]
  have up : ∀ b o, h.get? b = some o → (h.push { cls := .type "range_iterator", data := .fields #[rawInt 0, rawInt (cnt : Int), rawInt 1] }).get? b = some o := fun b o e => Heap.get?_push_of_some _ e
  refine ⟨h.objs.size, [h.objs.size], [h.objs.size], cnt, _, _, m, fp ++ (c.fs ++ (c.xs ++ l)), fun i m' news' => ∃ fp' l', news' = fp' ++ (c.fs ++ (c.xs ++ l')) ∧ Ap fp' c.fs (c.xs ++ l') ∧ Gro c.xs c.l₀ l' ∧ J i m' fp' l', rfl, Walks.range V.hh h.objs.size 0 1 cnt, fun hl => ?_, fun b hb => ?_, fun p hp hb => ?_, ?_, W.F.keeps up, W.N.grown up, fun i s' v Q' a b => ?_, ⟨fp, l, rfl, W.Z, W.G, h0⟩, ?_, ?_⟩
  · exact absurd (List.mem_singleton.mp hl) (Nat.ne_of_lt W.F.ns.lt)
  · rw [List.mem_singleton.mp hb]; exact fr_new W.F (Nat.le_refl _)
  · exact absurd (List.mem_singleton.mp hb) (Nat.ne_of_lt (lt p hp))
  · show IsRangeIter _ _ _ _ _
    have e1 : (0 : Int) + ((0 : Nat) : Int) * 1 = 0 := by decide
    have e2 : ((cnt : Nat) : Int) - ((0 : Nat) : Int) = (cnt : Int) := by lia
    rw [e1, e2]
    exact Heap.get?_push_size _ rfl
  · unfold letOwnedTupleGo
    exact wpAny_pure b
  · rintro i v m₁ _ s₁ own hi ⟨t, rfl⟩ ⟨fp₁, l₁, rfl, Z₁, G₁, hj⟩ hnw hof _ hmem hst F₁ N₁
    have W₁ : At c m₁ fp₁ l₁ s₁.heap := ⟨F₁, News.sub N₁ fun q hq => List.mem_append_right _ hq, Z₁, G₁⟩
    have hne : ∀ p ∈ own, ∀ q ∈ fp₁ ++ (c.fs ++ (c.xs ++ l₁)), q.1 ≠ p.1 := fun p hp q hq e => hnw q hq (e ▸ hof p hp)
    have ho : ∀ p ∈ own, s₁.heap.get? p.1 = some p.2 ∧ p.1 ≠ c.L ∧ G.h₀.get? p.1 = none := fun p hp => N₁ p (List.mem_append_left _ hp)
    have Wo : At (c.own own l₁ s₁) m₁ fp₁ l₁ s₁.heap := W₁.own ho hne
    have ev : (0 : Int) + (i : Int) * 1 = i := by lia
    rw [ev]
    refine wpAny_assign_Name (store_at (c := c.own own l₁ s₁) (tk := s₁.toks) Wo (fun h' W' tk' => ?_) hk hx)
    refine wpAny_mono ((step i t m₁ fp₁ l₁ h' (c.own own l₁ s₁) (TurnL (c.own own l₁ s₁) (J (i + 1))) hi hj ⟨rfl, rfl, rfl, rfl, fun V => V.own⟩ (fun j W => turnL_end W j) W').go tk') (fun f s' q => ?_) fun ω ω e => e
    obtain ⟨rfl, m2, fp2, l2, h2, tk2, rfl, j2, W2⟩ := q
    obtain ⟨Wb, b1, b2⟩ := W₁.back (fun p hp q hq => hne p hp q (by simp only [List.mem_append] at hq ⊢; rcases hq with hq | hq <;> simp [hq])) W2
    refine ⟨rfl, h2, tk2, m2, _, rfl, Wb.F, fun p hp => ?_, fun p hp hb => ?_, fp2, l2, rfl, Wb.Z, Wb.G, j2⟩
    · rcases List.mem_append.mp hp with hp | hp
      · exact ⟨b1 p hp, (ho p hp).2⟩
      · exact Wb.N p hp
    · exact b2 _ (hmem h.objs.size (List.mem_singleton.mpr rfl) (fr_new W.F (Nat.le_refl _)) _ hst) p hp (List.mem_singleton.mp hb)
  · rintro h' tk' m' _ F' N' _ ⟨fp', l', rfl, Z', G', hj⟩
    exact (k m' fp' l' h' hj ⟨F', N', Z', G'⟩).go tk'
end
end
section --N21
open PySem PySem.W PyProof.Rows PySem.Calls PySem.Spec PySem.SeqAt
set_option maxHeartbeats 400000
theorem codeAmong_app (pos : Pos) (a b : Int) (v : Value) (l : List Value) (h : TriplesOk l) : codeAmong pos (l ++ [rawInt a, rawInt b, v]) = (codeAmong pos l).or (if (a == pos.line && b == pos.col) = true then some v else none) := by
  fun_induction TriplesOk l with
  | case1 => simp [codeAmong, rawInt]
  | case2 a' t b' u x rest ih =>
    simp only [List.cons_append, codeAmong]
    split
    · rfl
    · exact ih h
  | case3 l h1 h2 => exact h.elim
structure TabSt (l : Led) (qual : Str) (ps : Array Value) : Prop where
  ok : TriplesOk ps.toList
  at_ : ∀ pos v, codeAmong pos ps.toList = some v → ∃ c' oc vs t, v = .ref c' ∧ (c', oc) ∈ l ∧ oc.data = .fields vs ∧ vs[1]? = some (.str qual t)
theorem TabSt.mono {l l' : Led} {qual : Str} {ps : Array Value} (s : Sub l l') (T : TabSt l qual ps) : TabSt l' qual ps := ⟨T.ok, fun pos v h => by obtain ⟨c', oc, vs, t, a, b, c⟩ := T.at_ pos v h; exact ⟨c', oc, vs, t, a, s _ b, c⟩⟩
theorem TabSt.nil {l : Led} {qual : Str} : TabSt l qual #[] := ⟨trivial, fun ω ω h => nomatch h⟩
noncomputable abbrev noArgs : Arguments := { posonlyargs := [], args := [], vararg := none, kwonlyargs := [], kw_defaults := [], kwarg := none, defaults := [] }
section
variable {G : Gl} {cs : Scope} {c : Cx G cs} {m : Str → Option Value} {fp l : Led} {h : Heap} {d : Nat} {pos : Pos} {body : Expr} {scope : Scope} {Q : Value → Shared → Prop} {P code : Addr} {ps : Array Value} {g : Obj → Led} {clos : List (Str × Addr)} {x : Str} {px : Pos} {ca : Addr} {v : Value} {o : Obj} {v₀ : Option Value}
theorem ex_lambda (W : At c m fp l h) (s : Slot P (tabObj ps) fp g) (hC : CodeHd G.h₀ code P) (hcd : c.cd = .ref code) (T : TabSt l (c.env.qual ++ "<lambda>") ps)
    (k : ∀ la c' pm ctv oc vs t ps' l' h', (la, kla_obj "<lambda>" (c.env.qual ++ "<lambda>") noArgs body scope clos pm c' ctv) ∈ l' → (c', oc) ∈ l' → oc.data = .fields vs → vs[1]? = some (.str (c.env.qual ++ "<lambda>") t) → TabSt l' (c.env.qual ++ "<lambda>") ps' → Sub l l' → At c m (g (tabObj ps')) l' h' → ∀ tk, Q (.ref la) (c.S h' tk))
    (hcl : autoParam (closureFor scope c.env = pure clos) aW) : Ex c h (.Lambda noArgs body scope pos) Q := ⟨fun tk => by
  refine kla_eval rfl ?_
  cases hf : codeAmong pos ps.toList with
  | none =>
    refine kla_nest (s := c.S h tk) W.F W.N G.T hC hcd (W.upd s) T.ok hf hcl fun f c' oc vs t ctv h' tk' F' N' d1 d2 l1 l2 => ?_
    have hg : ∀ p ∈ g (tabObj (ps ++ #[rawInt pos.line, rawInt pos.col, .ref c'])) ++ (c.fs ++ (c.xs ++ l)), p.1 < c' := fun p hp => by
      rcases List.mem_append.mp hp with hp | hp
      · obtain ⟨q, hq, e⟩ : ∃ q ∈ fp, q.1 = p.1 := by
          have h2 : p.1 ∈ (g (tabObj (ps ++ #[rawInt pos.line, rawInt pos.col, .ref c']))).map (·.1) := List.mem_map_of_mem hp
          rw [s.map] at h2
          exact List.mem_map.mp h2
        exact e ▸ l1 q (List.mem_append_left _ hq)
      · exact l1 p (List.mem_append_right _ hp)
    have W1 : At c m (g (tabObj (ps ++ #[rawInt pos.line, rawInt pos.col, .ref c']))) l h' := W.turn F' (News.sub N' fun q hq => List.mem_cons_of_mem _ (List.mem_cons_of_mem _ hq)) (s.map _)
    have W2 := W1.push (D := c') (o := oc) F' (News.sub N' fun q hq => List.mem_cons_of_mem _ hq) hg
    have W3 := W2.push (D := f) (o := kla_obj "<lambda>" (c.env.qual ++ "<lambda>") noArgs body scope clos ((G.mg "__name__").getD .none) c' ctv) F' (News.sub N' fun q hq => by
      simp only [List.mem_append, List.mem_cons] at hq ⊢
      rcases hq with hq | hq | hq | hq | hq | hq <;> simp [hq]) fun q hq => by
      have : q = (c', oc) ∨ q ∈ g (tabObj (ps ++ #[rawInt pos.line, rawInt pos.col, .ref c'])) ++ (c.fs ++ (c.xs ++ l)) := by
        simp only [List.mem_append, List.mem_cons] at hq ⊢
        rcases hq with hq | hq | hq | hq | hq <;> simp [hq]
      rcases this with rfl | hq
      · exact l2
      · exact Nat.lt_trans (hg q hq) l2
    refine k f c' _ ctv oc vs t _ _ h' List.mem_cons_self (List.mem_cons_of_mem _ List.mem_cons_self) d1 d2 ⟨?_, fun pos' v hv => ?_⟩ (Sub.cons (Sub.cons (Sub.refl l))) W3 tk'
    · rw [Array.toList_append]; exact TriplesOk_snoc _ _ _ _ T.ok
    · rw [Array.toList_append] at hv
      have hv' : codeAmong pos' (ps.toList ++ [rawInt pos.line, rawInt pos.col, .ref c']) = some v := hv
      rw [codeAmong_app _ _ _ _ _ T.ok] at hv'
      cases e : codeAmong pos' ps.toList with
      | some v' =>
        rw [e, Option.some_or] at hv'
        obtain ⟨c2, oc2, vs2, t2, a1, a2, a3⟩ := T.at_ pos' v (e.trans hv')
        exact ⟨c2, oc2, vs2, t2, a1, List.mem_cons_of_mem _ (List.mem_cons_of_mem _ a2), a3⟩
      | none =>
        rw [e, Option.none_or] at hv'
        split at hv'
        · cases hv'
          exact ⟨c', oc, vs, t, rfl, List.mem_cons_of_mem _ List.mem_cons_self, d1, d2⟩
        · cases hv'
  | some v =>
    obtain ⟨c', oc, vs, t, rfl, b1, b2, b3⟩ := T.at_ pos v hf
    refine kla_hit (s := c.S h tk) W.F W.N G.T hC hcd (W.inf s.mem) T.ok hf hcl fun f ctv h' tk' F' N' lt => ?_
    have W1 := W.push (D := f) F' N' lt
    have hg : fp = g (tabObj ps) := by
      have : ∀ {fp : Led} {g : Obj → Led}, Slot P (tabObj ps) fp g → fp = g (tabObj ps) := fun {fp g} s => by
        induction s with
        | head => rfl
        | tail _ ih => exact congrArg _ ih
      exact this s
    rw [hg] at W1
    exact k f c' _ ctv oc vs t ps _ h' List.mem_cons_self (List.mem_cons_of_mem _ b1) b2 b3 (T.mono (Sub.cons (Sub.refl l))) (Sub.cons (Sub.refl l)) W1 tk'⟩
theorem cell_at {Q : Unit → Shared → Prop} {tk : Nat} (W : At c m fp l h) (s : Slot ca o fp g) (hc : (cellsFrom (c.L + 1) cs.names []).lookup x = some ca) (hd : o.data = .cell v₀) (k : ∀ o' h', o'.data = .cell (some v) → At c m (g o') l h' → ∀ tk, Q () (c.S h' tk))
    (hk : autoParam (cs.kind = .function) aR) (hx : autoParam (cs.names.lookup x = some .cell) aR) : wpAny G.M c.A (storeName c.env x v) Q c.E (c.S h tk) :=
  storeX_C (s := c.S h tk) W.F W.N hc (W.upd s) hd (fun ha oa Fa Na da => k oa ha da (W.turn Fa Na (s.map _)) _) hk hx
theorem lam_ok {la c' : Addr} {oc : Obj} {vs : Array Value} {t : Tok} {qual : Str} {cl : List (Str × Addr)} {pm ctv : Value} {K KX : Post → Prop} (hla : (la, kla_obj "<lambda>" qual noArgs body scope cl pm c' ctv) ∈ l) (hc : (c', oc) ∈ l) (h1 : oc.data = .fields vs) (h2 : vs[1]? = some (.str qual t))
    (go : ∀ {A : Around} {L : Addr} {h : Heap} {gs : Array GenState} {dr : Drawn} {os : OsState} {tk : Nat} {outer : List Env} {fs xs : Led} {Q : Value → Shared → Prop} {E : Value → Shared → Prop}, A.frames = some (envX qual scope L la (.ref c') cl :: outer) → TI.Frs outer fs → A.handled = none → Room A d → Fr G.h₀ L h (fun ω => none) → News G.h₀ L h (fp ++ (fs ++ (xs ++ l))) → Ap fp fs (xs ++ l) →
      (∀ v fp' l' h' tk, Out K v fp' l' → Fr G.h₀ L h' (fun ω => none) → News G.h₀ L h' (fp' ++ (fs ++ (xs ++ l'))) → Ap fp' fs (xs ++ l') → Gro xs l l' → Q v ⟨h', gs, dr, tk, os⟩) →
      (∀ e C fp' oL' fs' l' h' tk, Out KX C fp' l' → Fly G.h₀ (envX qual scope L la (.ref c') cl :: outer) e C h' fp' ((L, oL') :: fs') (xs ++ l') → h'.Ns L (fun ω => none) → G.h₀.objs.size ≤ L → TI.SameUp fs fs' → Gro xs l l' → E (.ref e) ⟨h', gs, dr, tk, os⟩) →
      wpAny G.M A (eval body (envX qual scope L la (.ref c') cl)) Q E ⟨h, gs, dr, tk, os⟩)
    (hcell : autoParam (∀ x ∈ scope.names, x.2 ≠ .cell) aD) (hco : autoParam (scope.isCoroutine = false) aR) (hgen : autoParam (scope.isGenerator = false) aR) (hk : autoParam (scope.kind = .function) aR) : Ct G (.ref la) [] (d + 1) fp l K KX := by
  refine ⟨?_⟩
  intro A envs fs xs s Q E Y R S hQ hE
  obtain ⟨hp, gs, dr, tk, os⟩ := s
  have mem : ∀ q ∈ l, q ∈ fp ++ (fs ++ (xs ++ l)) := fun q hq => List.mem_append_right _ (List.mem_append_right _ (List.mem_append_right _ hq))
  refine wpAny_call (kla_callFunE R.depth (S.at_ _ (mem _ hla)).1 rfl hco hgen rfl ⟨c', oc, vs, t, rfl, (S.at_ _ (mem _ hc)).1, h1, h2⟩ ?_)
  refine wpAny_pure (wpAny_newFunctionEnv hcell (by intro y hy; cases hy) (fun h₁ hns hsb => ⟨(G.T.nolimit.keeps S.keep).fresh _ hsb, ?_⟩) hk)
  have hk₁ : ∀ b o, hp.get? b = some o → h₁.get? b = some o := fun b o e => hsb.extBut b o (Nat.ne_of_lt (Heap.lt_size e)) (Heap.get?_push_of_some _ e)
  refine kla_codeExpr ?_
  refine go (A := A.deeper (envX qual scope hp.objs.size la (.ref c') cl)) (outer := envs) (fs := fs) (xs := xs) (Around.frames_deeper (Ar.frames Y)) (Ar.frs Y) Y.free R.deeper ⟨hns, fun b o e => hk₁ b o (S.keep b o e), S.size⟩ (fun p hp => ⟨hk₁ _ _ (S.at_ p hp).1, Nat.ne_of_lt (Heap.lt_size (S.at_ p hp).1), (S.at_ p hp).2⟩) S.apart ?_ ?_
  · intro v fp' l' h' tk' q F' N' Z' G'
    exact hQ v fp' l' h' tk' q (Has.back F' N' Z') G'
  · intro e C fp' oL' fs' l' h' tk' q Hf hn hL SU G'
    exact leave_fly (s := ⟨h', gs, dr, tk', os⟩) (Around.frames_deeper (Ar.frames Y)) rfl Hf hn hL fun fs'' h'' x y => hE e C fp' fs'' l' h'' tk' q x (TI.SameUp.trans SU y) G'
end
end
section --Z2
open PySem PySem.W PyProof.Rows PySem.Calls PySem.Spec PyProof.V PySem.SeqAt
set_option maxHeartbeats 1000000
noncomputable def itOf : Gr → It
  | .bool => .sym "Bool"
  | .int => .sym "Int"
  | .real => .sym "Real"
  | .decl s => .sym s
  | .bits w => .list [.sym "_", .sym "BitVec", .num w]
noncomputable def GoodGr (tab : List Row) : Gr → Prop
  | .decl s => tab.any (declRow s) = true ∧ s ≠ "Bool" ∧ s ≠ "Int" ∧ s ≠ "Real"
  | .bits w => 1 ≤ w ∧ w ≤ 4096
  | _ => True
noncomputable def itK (κ : Str → Option Gr) : Str → Option It := fun x => (κ x).map itOf
noncomputable def RelG (tab : List Row) (g : Option Gr) (res : Option It) : Prop := (g = none ∧ res = none) ∨ ∃ gr, g = some gr ∧ res = some (itOf gr) ∧ GoodGr tab gr
theorem itOf_ground {tab : List Row} : ∀ {g : Gr}, GoodGr tab g → isGround tab (itOf g) = true
  | .bool, _ => by rw [itOf, isGround_sym]; rfl
  | .int, _ => by rw [itOf, isGround_sym]; rfl
  | .real, _ => by rw [itOf, isGround_sym]; rfl
  | .decl s, h => by rw [itOf, isGround_sym, h.1, Bool.or_true]
  | .bits w, h => by
    rw [itOf, isGround_three]
    have : decide (0 < w) = true := decide_eq_true (by have := h.1; lia)
    show ((isSym "_" (.sym "_") && isSym "BitVec" (.sym "BitVec")) && decide (0 < w)) = true
    rw [this]; rfl
theorem grd_ground {tab : List Row} {it : It} (h : isGround tab it = true) (n : Nat) : grd tab (n + 1) it = some (some it) := by rw [grd, if_pos h]
theorem grd_step {tab : List Row} {it : It} (h : isGround tab it = false) (n : Nat) : grd tab (n + 1) it = grdCase (grd tab n) tab it := by rw [grd, if_neg (by rw [h]; exact Bool.false_ne_true)]
noncomputable def GoodK (tab : List Row) (κ : Str → Option Gr) : Prop := ∀ x g, κ x = some g → GoodGr tab g
theorem row_uniq {tab : List Row} (hok : RowsOk tab) {r r' : Row} (h : r ∈ tab) (h' : r' ∈ tab) (e : r.name = r'.name) : r = r' := by
  obtain ⟨j, hj⟩ := List.mem_iff_getElem?.mp h
  obtain ⟨j', hj'⟩ := List.mem_iff_getElem?.mp h'
  have l1 : j < tab.length := (List.getElem?_eq_some_iff.mp hj).1
  have l2 : j' < tab.length := (List.getElem?_eq_some_iff.mp hj').1
  have hl := hok.len
  have e1 := (hok.row j r hj).1
  have e2 := (hok.row j' r' hj').1
  have : j = j' := by rw [← rk_nameAt j (by lia), ← rk_nameAt j' (by lia), ← e1, ← e2, e]
  subst this
  rw [hj] at hj'
  exact Option.some.inj hj'
theorem find_name {tab : List Row} {s : Str} {r : Row} (h : tab.find? (fun r => decide (r.name = s)) = some r) : r ∈ tab ∧ r.name = s := ⟨List.mem_of_find?_eq_some h, by simpa using List.find?_some h⟩
theorem no_name {tab : List Row} {s : Str} (h : tab.find? (fun r => decide (r.name = s)) = none) : ∀ r ∈ tab, r.name ≠ s := fun r hr e => by
  have := List.find?_eq_none.mp h r hr
  simp [e] at this
theorem find_none {tab : List Row} {s : Str} (h : tab.find? (fun r => decide (r.name = s)) = none) : tab.find? (hasBody s) = none := List.find?_eq_none.mpr fun r hr => by
  have := no_name h r hr
  unfold hasBody
  simp [this]
theorem find_nobody {tab : List Row} (hok : RowsOk tab) {s : Str} {r : Row} (h : tab.find? (fun r => decide (r.name = s)) = some r) (hb : r.body = none) : tab.find? (hasBody s) = none := List.find?_eq_none.mpr fun r' hr' => by
  obtain ⟨h1, h2⟩ := find_name h
  unfold hasBody
  by_cases e : r'.name = s
  · rw [row_uniq hok hr' h1 (e.trans h2.symm), hb]; simp
  · simp [e]
theorem find_body {tab : List Row} (hok : RowsOk tab) {s : Str} {r : Row} {b : It} (h : tab.find? (fun r => decide (r.name = s)) = some r) (hb : r.body = some b) : tab.find? (hasBody s) = some r := by
  obtain ⟨h1, h2⟩ := find_name h
  cases e : tab.find? (hasBody s) with
  | none =>
    have := List.find?_eq_none.mp e r h1
    unfold hasBody at this
    rw [h2, hb] at this
    simp at this
  | some r' =>
    have h3 := List.find?_some e
    have h4 := List.mem_of_find?_eq_some e
    unfold hasBody at h3
    simp only [Bool.and_eq_true, beq_iff_eq] at h3
    rw [row_uniq hok h4 h1 (h3.1.trans h2.symm)]
theorem decl_iff {tab : List Row} (hok : RowsOk tab) (s : Str) : tab.any (declRow s) = match tab.find? (fun r => decide (r.name = s)) with | none => false | some r => r.body.isNone := by
  cases h : tab.find? (fun r => decide (r.name = s)) with
  | none =>
    dsimp only
    rw [List.any_eq_false]
    intro r hr
    have := no_name h r hr
    unfold declRow
    simp [this]
  | some r =>
    obtain ⟨h1, h2⟩ := find_name h
    dsimp only
    cases hb : r.body with
    | none =>
      obtain ⟨j, hj⟩ := List.mem_iff_getElem?.mp h1
      have hp := (hok.row j r hj).2.2.1 hb
      refine List.any_eq_true.mpr ⟨r, h1, ?_⟩
      unfold declRow
      rw [h2, hp, hb]
      simp
    | some b =>
      rw [Option.isNone_some, List.any_eq_false]
      intro r' hr'
      unfold declRow
      by_cases e : r'.name = s
      · rw [row_uniq hok hr' h1 (e.trans h2.symm), hb]; simp
      · simp [e]
theorem put_none : ∀ (n : Nat) (it : It), Deep n it → putIt (fun ω => none) it = it
  | 0, _, h => h.elim
  | _ + 1, .sym _, _ => rfl
  | _ + 1, .num _, _ => rfl
  | _ + 1, .key _, _ => rfl
  | _ + 1, .list [], _ => rfl
  | n + 1, .list (x :: xs), h => by
    have all : ∀ l : List It, (∀ y ∈ l, Deep n y) → putAll (fun ω => none) l = l := fun l => by
      induction l with
      | nil => intro _; rfl
      | cons y ys ih =>
        intro hy
        rw [putAll, put_none n y (hy y List.mem_cons_self), ih fun z hz => hy z (List.mem_cons_of_mem _ hz)]
    rw [putIt, all xs fun y hy => h y (List.mem_cons_of_mem _ hy)]
    split <;> rfl
noncomputable def Agree (tab : List Row) (κ : Str → Option Gr) (it : It) (N : Nat) : Prop :=
  ∃ g res, (∀ n, N ≤ n → readR tab n κ it = some g) ∧ (∀ n, N ≤ n → grd tab n (putIt (itK κ) it) = some res) ∧ RelG tab g res
noncomputable def AgreeAll (tab : List Row) (κ : Str → Option Gr) (its : List It) (N : Nat) : Prop :=
  ∃ gs rs, (∀ n, N ≤ n → readAll (readR tab n κ) its = some gs) ∧ (∀ n, N ≤ n → grdAll (grd tab n) (putAll (itK κ) its) = some rs) ∧
    ((gs = none ∧ justAll rs = none) ∨ ∃ l, gs = some l ∧ justAll rs = some (l.map itOf) ∧ ∀ g ∈ l, GoodGr tab g)
theorem Agree.mono {tab : List Row} {κ : Str → Option Gr} {it : It} {N N' : Nat} (h : Agree tab κ it N) (hn : N ≤ N') : Agree tab κ it N' := by
  obtain ⟨g, res, a, b, c⟩ := h; exact ⟨g, res, fun n hh => a n (Nat.le_trans hn hh), fun n hh => b n (Nat.le_trans hn hh), c⟩
theorem agree_all {tab : List Row} {κ : Str → Option Gr} {N : Nat} : ∀ its : List It, (∀ x ∈ its, Agree tab κ x N) → AgreeAll tab κ its N
  | [], _ => ⟨some [], [], fun n ω => by rw [readAll], fun n ω => rfl, .inr ⟨[], rfl, rfl, fun g hg => nomatch hg⟩⟩
  | x :: xs, h => by
    obtain ⟨g, res, a1, a2, a3⟩ := h x List.mem_cons_self
    obtain ⟨gs, rs, b1, b2, b3⟩ := agree_all xs fun y hy => h y (List.mem_cons_of_mem _ hy)
    refine ⟨(match g with | none => none | some g => match gs with | none => none | some l => some (g :: l)), res :: rs, fun n hn => ?_, fun n hn => ?_, ?_⟩
    · have c1 := a1 n hn
      have c2 := b1 n hn
      rw [readAll, c1]
      cases g with
      | none => rfl
      | some g =>
        dsimp only
        rw [c2]
        cases gs <;> rfl
    · have c1 := a2 n hn
      have c2 := b2 n hn
      rw [putAll, grdAll, c1]
      dsimp only
      rw [c2]
    · rcases a3 with ⟨rfl, rfl⟩ | ⟨gr, rfl, rfl, hg⟩
      · exact .inl ⟨rfl, rfl⟩
      · rcases b3 with ⟨rfl, hj⟩ | ⟨l, rfl, hj, hl⟩
        · refine .inl ⟨rfl, ?_⟩
          show (match justAll rs with | none => none | some l => some (itOf gr :: l)) = none
          rw [hj]
        · refine .inr ⟨gr :: l, rfl, ?_, fun g' hg' => ?_⟩
          · show (match justAll rs with | none => none | some l => some (itOf gr :: l)) = _
            rw [hj]; rfl
          · rcases List.mem_cons.mp hg' with rfl | hg'
            · exact hg
            · exact hl g' hg'
theorem read_sym (tab : List Row) (n : Nat) (κ : Str → Option Gr) (s : Str) : readR tab (n + 1) κ (.sym s) = match κ s with
    | some g => some (some g)
    | none => if s = "Bool" then some (some .bool) else if s = "Int" then some (some .int) else if s = "Real" then some (some .real) else
      match tab.find? (fun r => decide (r.name = s)) with
      | none => some none
      | some r => match r.params, r.body with
        | [], none => some (some (.decl s))
        | [], some b => readR tab n (fun ω => none) b
        | _ :: _, _ => some none := by rw [readR]; try rfl
theorem zipLook_nil : zipLook [] [] = fun ω => none := rfl
theorem from1 {P : Nat → Prop} {N : Nat} (h : ∀ n, N ≤ n → P (n + 1)) : ∀ n, N + 1 ≤ n → P n := fun n hn => by
  obtain ⟨m, rfl⟩ : ∃ m, n = m + 1 := ⟨n - 1, by lia⟩
  exact h m (by lia)
theorem agree_sym {tab : List Row} {N : Nat} (hok : RowsOk tab) {κ : Str → Option Gr} {s : Str} (hκ : κ s = none) (body : ∀ r b, r ∈ tab → r.name = s → r.body = some b → Deep 3 b ∧ Agree tab (fun ω => none) b N) : Agree tab κ (.sym s) (N + 1) := by
  have hp : putIt (itK κ) (.sym s) = .sym s := by
    show ((itK κ) s).getD (.sym s) = _
    unfold itK
    rw [hκ]; rfl
  by_cases h1 : s = "Bool"
  · subst h1
    refine ⟨some .bool, some (.sym "Bool"), from1 fun n ω => ?_, from1 fun n ω => ?_, .inr ⟨.bool, rfl, rfl, trivial⟩⟩
    · rw [read_sym, hκ]; rfl
    · rw [hp]; exact grd_ground (itOf_ground (g := .bool) trivial) n
  by_cases h2 : s = "Int"
  · subst h2
    refine ⟨some .int, some (.sym "Int"), from1 fun n ω => ?_, from1 fun n ω => ?_, .inr ⟨.int, rfl, rfl, trivial⟩⟩
    · rw [read_sym, hκ]; rfl
    · rw [hp]; exact grd_ground (itOf_ground (g := .int) trivial) n
  by_cases h3 : s = "Real"
  · subst h3
    refine ⟨some .real, some (.sym "Real"), from1 fun n ω => ?_, from1 fun n ω => ?_, .inr ⟨.real, rfl, rfl, trivial⟩⟩
    · rw [read_sym, hκ]; rfl
    · rw [hp]; exact grd_ground (itOf_ground (g := .real) trivial) n
  have hr : ∀ n, readR tab (n + 1) κ (.sym s) = match tab.find? (fun r => decide (r.name = s)) with
      | none => some none
      | some r => match r.params, r.body with
        | [], none => some (some (.decl s))
        | [], some b => readR tab n (fun ω => none) b
        | _ :: _, _ => some none := fun n => by rw [read_sym, hκ, if_neg h1, if_neg h2, if_neg h3]
  have hg0 : isGround tab (.sym s) = tab.any (declRow s) := by
    rw [isGround_sym]
    have a1 : (Str.ofString "Int" == s) = false := by simpa using fun e => h2 e.symm
    have a2 : (Str.ofString "Bool" == s) = false := by simpa using fun e => h1 e.symm
    have a3 : (Str.ofString "Real" == s) = false := by simpa using fun e => h3 e.symm
    rw [a1, a2, a3]; rfl
  have hd := decl_iff hok s
  cases hf : tab.find? (fun r => decide (r.name = s)) with
  | none =>
    rw [hf] at hd
    have hg : isGround tab (.sym s) = false := hg0.trans hd
    refine ⟨none, none, from1 fun n ω => ?_, from1 fun n ω => ?_, .inl ⟨rfl, rfl⟩⟩
    · rw [hr, hf]
    · rw [hp, grd_step hg]
      show grdStep (grd tab n) tab s [] = _
      unfold grdStep
      rw [find_none hf]
  | some r =>
    obtain ⟨hm, hn⟩ := find_name hf
    rw [hf] at hd
    cases hb : r.body with
    | none =>
      dsimp only at hd
      rw [hb] at hd
      have hd' : tab.any (declRow s) = true := hd
      obtain ⟨j, hj⟩ := List.mem_iff_getElem?.mp hm
      have hps := (hok.row j r hj).2.2.1 hb
      refine ⟨some (.decl s), some (.sym s), from1 fun n ω => ?_, from1 fun n ω => ?_, .inr ⟨.decl s, rfl, rfl, hd', h1, h2, h3⟩⟩
      · rw [hr, hf]; dsimp only; rw [hps, hb]
      · rw [hp]; exact grd_ground (hg0.trans hd') n
    | some b =>
      dsimp only at hd
      rw [hb] at hd
      have hg : isGround tab (.sym s) = false := hg0.trans hd
      have hst : ∀ n, grd tab (n + 1) (putIt (itK κ) (.sym s)) = if r.params.length = ([] : List It).length then grd tab n (putIt (zipLook r.params []) b) else some none := fun n => by
        rw [hp, grd_step hg]
        show grdStep (grd tab n) tab s [] = _
        unfold grdStep
        rw [find_body hok hf hb]
        dsimp only
        rw [hb]
      cases hps : r.params with
      | cons x xs =>
        refine ⟨none, none, from1 fun n ω => ?_, from1 fun n ω => ?_, .inl ⟨rfl, rfl⟩⟩
        · rw [hr, hf]; dsimp only; rw [hps]
        · rw [hst, hps, if_neg (by simp)]
      | nil =>
        obtain ⟨hdeep, g, res, c1, c2, c3⟩ := body r b hm hn hb
        refine ⟨g, res, from1 fun n hn => ?_, from1 fun n hn => ?_, c3⟩
        · rw [hr, hf]; dsimp only; rw [hps, hb]; exact c1 n hn
        · rw [hst, hps, if_pos (show ([] : List Str).length = ([] : List It).length from rfl), zipLook_nil]
          exact c2 n hn
theorem not_ground_head {tab : List Row} {x : It} {ys : List It} (h : isSym "_" x = false) : isGround tab (.list (x :: ys)) = false := by
  rcases ys with _ | ⟨b, _ | ⟨c, _ | ⟨d, r⟩⟩⟩
  iterate 2 rfl
  · rw [isGround_three, h]; rfl
  · rfl
theorem zip_itK (ps : List Str) (gs : List Gr) : itK (fun x => (ps.zip gs).reverse.lookup x) = zipLook ps (gs.map itOf) := by
  funext x
  unfold itK zipLook
  have : (ps.zip (gs.map itOf)).reverse = (ps.zip gs).reverse.map fun p => (p.1, itOf p.2) := by
    rw [List.zip_map_right, List.map_reverse]
    rfl
  rw [this]
  generalize (ps.zip gs).reverse = l
  induction l with
  | nil => rfl
  | cons p l ih =>
    obtain ⟨a, b⟩ := p
    show Option.map itOf (List.lookup x ((a, b) :: l)) = List.lookup x ((a, itOf b) :: l.map fun p => (p.1, itOf p.2))
    rw [List.lookup_cons, List.lookup_cons]
    cases x == a
    · exact ih
    · rfl
theorem agree_use {tab : List Row} {N : Nat} (hok : RowsOk tab) {κ : Str → Option Gr} {s : Str} {x1 : It} {xr : List It} (hs : ¬ s = "_") (args : AgreeAll tab κ (x1 :: xr) N)
    (body : ∀ r b κ', r ∈ tab → r.name = s → r.body = some b → GoodK tab κ' → Agree tab κ' b N) : Agree tab κ (.list (.sym s :: x1 :: xr)) (N + 1) := by
  have hsym : isSym "_" (.sym s) = false := by simpa [isSym] using hs
  have hp : putIt (itK κ) (.list (.sym s :: x1 :: xr)) = .list (.sym s :: putAll (itK κ) (x1 :: xr)) := by
    rw [putIt, hsym]; rfl
  have hbits : bitsOf (.sym s :: x1 :: xr) = none := bitsOf_not hsym
  have hhead : headIs "_" (.sym s :: x1 :: xr) = false := hsym
  have hg : ∀ n, grd tab (n + 1) (putIt (itK κ) (.list (.sym s :: x1 :: xr))) = match grdAll (grd tab n) (putAll (itK κ) (x1 :: xr)) with
      | none => none
      | some rs => match justAll rs with
        | none => some none
        | some as => grdStep (grd tab n) tab s as := fun n => by
    rw [hp, grd_step (not_ground_head hsym)]
    exact if_neg hs
  obtain ⟨gs, rs, a1, a2, a3⟩ := args
  have hlen : ∀ l : List Gr, gs = some l → 1 ≤ l.length := fun l e => by
    have := a1 (max N 1) (Nat.le_max_left _ _)
    rw [e] at this
    rw [readAll] at this
    split at this
    · cases this
    · cases this
    · split at this
      · cases this
      · cases this
      · cases this; simp
  cases hf : tab.find? (fun r => decide (r.name = s)) with
  | none =>
    refine ⟨none, none, from1 fun n hn => ?_, from1 fun n hn => ?_, .inl ⟨rfl, rfl⟩⟩
    · unfold readR; rw [hbits]; dsimp only; rw [if_neg (by rw [hhead]; simp), hf]
    · rw [hg, a2 n hn]
      dsimp only
      cases hj : justAll rs with
      | none => rfl
      | some as =>
        dsimp only
        unfold grdStep
        rw [find_none hf]
  | some r =>
    obtain ⟨hm, hn⟩ := find_name hf
    rcases a3 with ⟨rfl, hj⟩ | ⟨l, rfl, hj, hl⟩
    · refine ⟨none, none, from1 fun n hn => ?_, from1 fun n hn => ?_, .inl ⟨rfl, rfl⟩⟩
      · unfold readR; rw [hbits]; dsimp only; rw [if_neg (by rw [hhead]; simp), hf]; dsimp only; rw [a1 n hn]
      · rw [hg, a2 n hn]; dsimp only; rw [hj]
    · have hl1 := hlen l rfl
      cases hb : r.body with
      | none =>
        obtain ⟨j, hj'⟩ := List.mem_iff_getElem?.mp hm
        have hps := (hok.row j r hj').2.2.1 hb
        refine ⟨none, none, from1 fun n hn => ?_, from1 fun n hn => ?_, .inl ⟨rfl, rfl⟩⟩
        · unfold readR; rw [hbits]; dsimp only; rw [if_neg (by rw [hhead]; simp), hf]; dsimp only; rw [a1 n hn]; dsimp only
          rw [if_neg (by rw [hps]; simp; lia)]
        · rw [hg, a2 n hn]; dsimp only; rw [hj]; dsimp only
          unfold grdStep
          rw [find_nobody hok hf hb]
      | some b =>
        by_cases hlp : r.params.length = l.length
        · have hgood : GoodK tab (fun x => (r.params.zip l).reverse.lookup x) := fun x g e => by
            obtain ⟨l1, l2, e2⟩ := List.lookup_eq_some_iff.mp e |> fun h => h
            have hmem : (x, g) ∈ (r.params.zip l).reverse := by rw [e2.1]; simp
            exact hl g (List.of_mem_zip (List.mem_reverse.mp hmem)).2
          obtain ⟨g, res, c1, c2, c3⟩ := body r b _ hm hn hb hgood
          refine ⟨g, res, from1 fun n hn => ?_, from1 fun n hn => ?_, c3⟩
          · unfold readR; rw [hbits]; dsimp only; rw [if_neg (by rw [hhead]; simp), hf]; dsimp only; rw [a1 n hn]; dsimp only
            rw [if_pos hlp, hb]
            exact c1 n hn
          · rw [hg, a2 n hn]; dsimp only; rw [hj]; dsimp only
            unfold grdStep
            rw [find_body hok hf hb]
            dsimp only
            rw [hb]
            dsimp only
            rw [if_pos (by simpa using hlp), ← zip_itK]
            exact c2 n hn
        · refine ⟨none, none, from1 fun n hn => ?_, from1 fun n hn => ?_, .inl ⟨rfl, rfl⟩⟩
          · unfold readR; rw [hbits]; dsimp only; rw [if_neg (by rw [hhead]; simp), hf]; dsimp only; rw [a1 n hn]; dsimp only
            rw [if_neg hlp]
          · rw [hg, a2 n hn]; dsimp only; rw [hj]; dsimp only
            unfold grdStep
            rw [find_body hok hf hb]
            dsimp only
            rw [hb]
            dsimp only
            rw [if_neg (by simpa using hlp)]
theorem agree_no {tab : List Row} {N : Nat} {κ : Str → Option Gr} {it : It} (h1 : ∀ n, readR tab (n + 1) κ it = some none) (h2 : ∀ n, grd tab (n + 1) (putIt (itK κ) it) = some none) : Agree tab κ it (N + 1) :=
  ⟨none, none, from1 fun n ω => h1 n, from1 fun n ω => h2 n, .inl ⟨rfl, rfl⟩⟩
theorem agree_under {tab : List Row} {N : Nat} {κ : Str → Option Gr} {xs : List It} (hB : ∀ w, xs = [.sym "BitVec", .num w] → w ≤ 4096) : Agree tab κ (.list (.sym "_" :: xs)) (N + 1) := by
  have hp : putIt (itK κ) (.list (.sym "_" :: xs)) = .list (.sym "_" :: xs) := by rw [putIt]; rfl
  have hcase : ∀ n, isGround tab (.list (.sym "_" :: xs)) = false → grd tab (n + 1) (putIt (itK κ) (.list (.sym "_" :: xs))) = some none := fun n hg => by
    rw [hp, grd_step hg]
    cases xs with
    | nil => rfl
    | cons x1 xr =>
      show (if Str.ofString "_" = Str.ofString "_" then some none else match grdAll (grd tab n) (x1 :: xr) with | none => none | some rs => match justAll rs with | none => some none | some as => grdStep (grd tab n) tab "_" as) = some none
      exact if_pos rfl
  have hno : bitsOf (.sym "_" :: xs) = none → isGround tab (.list (.sym "_" :: xs)) = false → Agree tab κ (.list (.sym "_" :: xs)) (N + 1) := fun hb hg => agree_no (fun n => by
    unfold readR; rw [hb]
    dsimp only
    rw [if_pos (.inr (rfl : isSym "_" (.sym "_") = true))]) fun n => hcase n hg
  by_cases h3 : (It.sym "_" :: xs).length = 3
  case neg => exact hno (bitsOf_short h3) (bits3_no h3)
  · obtain ⟨_, y, z, e⟩ := three h3
    cases e
    by_cases hy : isSym "BitVec" y = true
    · cases isSym_eq hy
      have hb : bitsOf [.sym "_", .sym "BitVec", z] = some z := bitsOf_bv
      cases z with
      | num w =>
        by_cases hw : 1 ≤ w
        · have hw2 := hB w rfl
          have hg : isGround tab (itOf (.bits w)) = true := itOf_ground (g := .bits w) ⟨hw, hw2⟩
          refine ⟨some (.bits w), some (itOf (.bits w)), from1 fun n ω => ?_, from1 fun n ω => ?_, .inr ⟨.bits w, rfl, rfl, hw, hw2⟩⟩
          · unfold readR; rw [hb]
            dsimp only
            rw [if_pos ⟨hw, hw2⟩]
          · rw [hp]; exact grd_ground hg n
        · refine agree_no (fun n => ?_) fun n => hcase n ?_
          · unfold readR; rw [hb]
            dsimp only
            rw [if_neg fun h => hw h.1]
          · rw [isGround_three]
            have : decide (0 < w) = false := decide_eq_false (by lia)
            show ((isSym "_" (.sym "_") && isSym "BitVec" (.sym "BitVec")) && decide (0 < w)) = false
            rw [this, Bool.and_false]
      | sym a => exact agree_no (fun n => by unfold readR; rw [hb]) fun n => hcase n (by rw [isGround_three]; exact Bool.and_false _)
      | key a => exact agree_no (fun n => by unfold readR; rw [hb]) fun n => hcase n (by rw [isGround_three]; exact Bool.and_false _)
      | list a => exact agree_no (fun n => by unfold readR; rw [hb]) fun n => hcase n (by rw [isGround_three]; exact Bool.and_false _)
    · have hy' : isSym "BitVec" y = false := by simpa using hy
      exact hno (bitsOf_no (by rw [hy', Bool.and_false])) (by rw [isGround_three, hy', Bool.and_false, Bool.false_and])
theorem agree_other {tab : List Row} {N : Nat} {κ : Str → Option Gr} {x : It} {xs : List It} (hx : isSym "_" x = false) (h : xs = [] ∨ ∀ s, x ≠ .sym s) : Agree tab κ (.list (x :: xs)) (N + 1) := by
  have hp : putIt (itK κ) (.list (x :: xs)) = .list (x :: putAll (itK κ) xs) := by rw [putIt, hx]; rfl
  have hb : bitsOf (x :: xs) = none := bitsOf_not hx
  refine agree_no (fun n => ?_) fun n => ?_
  · unfold readR; rw [hb]
    dsimp only
    by_cases hl : (x :: xs).length < 2 ∨ headIs "_" (x :: xs) = true
    · rw [if_pos hl]
    · rw [if_neg hl]
      cases x with
      | sym s =>
        rcases h with rfl | h
        · exact absurd (.inl (by simp)) hl
        · exact absurd rfl (h s)
      | _ => rfl
  · rw [hp, grd_step (not_ground_head hx)]
    rcases h with rfl | h
    · cases x <;> rfl
    · cases x with
      | sym s => exact absurd rfl (h s)
      | _ => rfl
theorem agree_list {tab : List Row} {N : Nat} (hok : RowsOk tab) {κ : Str → Option Gr} : ∀ {its : List It}, (∀ w, its = [.sym "_", .sym "BitVec", .num w] → w ≤ 4096) → (∀ x ∈ its, Agree tab κ x N ∨ ∃ s, x = .sym s) → (∀ x ∈ its.tail, Agree tab κ x N) →
    (∀ s r b κ', its.head? = some (.sym s) → r ∈ tab → r.name = s → r.body = some b → GoodK tab κ' → Agree tab κ' b N) → Agree tab κ (.list its) (N + 1)
  | [], _, _, _, _ => agree_no (fun n => by unfold readR; rfl) fun n => rfl
  | x :: xs, hB, _, ha, hb => by
    by_cases hx : isSym "_" x = true
    · have ex : x = .sym "_" := by
        cases x with
        | sym a => simp only [isSym, beq_iff_eq] at hx; rw [hx]
        | _ => cases hx
      subst ex
      exact agree_under fun w e => hB w (by rw [e])
    · have hx' : isSym "_" x = false := by simpa using hx
      cases x with
      | sym s =>
        cases xs with
        | nil => exact agree_other hx' (.inl rfl)
        | cons x1 xr =>
          have hs : ¬ s = "_" := by simpa [isSym] using hx'
          exact agree_use hok hs (agree_all _ ha) fun r b κ' h1 h2 h3 h4 => hb s r b κ' rfl h1 h2 h3 h4
      | num i => exact agree_other hx' (.inr fun s e => nomatch e)
      | key i => exact agree_other hx' (.inr fun s e => nomatch e)
      | list i => exact agree_other hx' (.inr fun s e => nomatch e)
theorem agree {tab : List Row} (hok : RowsOk tab) : ∀ (k d : Nat) (it : It) (κ : Str → Option Gr), Over k d it → k ≤ tab.length → GoodK tab κ → Agree tab κ it (4 * k + d) := by
  intro k
  induction k using Nat.strongRecOn with
  | _ k ihk =>
    intro d
    induction d with
    | zero => intro it κ h; exact h.elim
    | succ d ihd =>
      intro it κ h hk hκ
      have hrow : ∀ s, rk s < k → ∀ r b, r ∈ tab → r.name = s → r.body = some b → Deep 3 b ∧ ∀ κ', GoodK tab κ' → Agree tab κ' b (4 * k + d) := fun s hs r b hm hn hb => by
        obtain ⟨j, hj⟩ := List.mem_iff_getElem?.mp hm
        have hl := hok.len
        have l1 : j < tab.length := (List.getElem?_eq_some_iff.mp hj).1
        obtain ⟨h1, _, _, h4⟩ := hok.row j r hj
        have hjk : j < k := by
          rw [← hn, h1, rk_nameAt j (by lia)] at hs
          exact hs
        exact ⟨(h4 b hb).2.deep, fun κ' hκ' => (ihk j hjk 3 b κ' (h4 b hb).2 (by lia) hκ').mono (by lia)⟩
      cases it with
      | sym s =>
        cases e : κ s with
        | none => exact agree_sym hok e fun r b h1 h2 h3 => ⟨(hrow s h r b h1 h2 h3).1, (hrow s h r b h1 h2 h3).2 _ fun x g e => nomatch e⟩
        | some g =>
          have hg := hκ s g e
          refine ⟨some g, some (itOf g), from1 fun n ω => ?_, from1 fun n ω => ?_, .inr ⟨g, rfl, rfl, hg⟩⟩
          · rw [read_sym, e]
          · have hp : putIt (itK κ) (.sym s) = itOf g := by
              show ((itK κ) s).getD (.sym s) = _
              unfold itK
              rw [e]; rfl
            rw [hp]; exact grd_ground (itOf_ground hg) n
      | num i => exact agree_no (fun n => by rw [readR]) fun n => rfl
      | key i => exact agree_no (fun n => by rw [readR]) fun n => rfl
      | list its =>
        refine agree_list hok (fun w e => ?_) (fun x hx => .inl (ihd x κ (h x hx) hk hκ)) (fun x hx => ihd x κ (h x (List.mem_of_mem_tail hx)) hk hκ) fun s r b κ' hh h1 h2 h3 h4 => ?_
        · have h3 := h (.num w) (by rw [e]; simp)
          cases d with
          | zero => exact h3.elim
          | succ d => exact h3
        · have hs := h (.sym s) (List.mem_of_mem_head? hh)
          cases d with
          | zero => exact hs.elim
          | succ d => exact (hrow s hs r b h1 h2 h3).2 κ' h4
theorem itOf_small {tab : List Row} {g : Gr} (h : GoodGr tab g) : ∀ x y wd, itOf g = .list [x, y, .num wd] → wd ≤ 4096 := fun x y wd e => by
  cases g with
  | bits w =>
    have e' : It.list [.sym "_", .sym "BitVec", .num w] = .list [x, y, .num wd] := e
    injection e' with e'
    injection e' with _ e'
    injection e' with _ e'
    injection e' with e' _
    injection e' with e'
    rw [← e']; exact h.2
  | bool => exact nomatch (show It.sym "Bool" = .list [x, y, .num wd] from e)
  | int => exact nomatch (show It.sym "Int" = .list [x, y, .num wd] from e)
  | real => exact nomatch (show It.sym "Real" = .list [x, y, .num wd] from e)
  | decl s => exact nomatch (show It.sym s = .list [x, y, .num wd] from e)
theorem grOf_itOf {tab : List Row} {g : Gr} (h : GoodGr tab g) : grOf (itOf g) = some g := by
  cases g with
  | bool => rfl
  | int => rfl
  | real => rfl
  | decl s => exact grOf_decl h.2.1 h.2.2.1 h.2.2.2
  | bits w => rfl
theorem due_read {tab : List Row} {σ σ' : Bk} {dn : Str → Option Int} {g : Option Gr} {res : Option It} {r : Value} (h : RelG tab g res) (hn : NumIs σ dn r res) (hle : σ.Le σ') :
    (g = none ∧ r = .none) ∨ ∃ gr i t, g = some gr ∧ r = .int i t ∧ ∀ j, Num σ' dn gr j → j = i := by
  rcases h with ⟨rfl, rfl⟩ | ⟨gr, rfl, rfl, hg⟩
  · exact .inl ⟨rfl, hn⟩
  · obtain ⟨g', i, t, e, rfl, hi⟩ := hn
    rw [grOf_itOf hg] at e
    cases e
    exact .inr ⟨gr, i, t, rfl, rfl, fun j hj => Num.uniq hj (hi.up hle)⟩
end
section --A19
open PySem PySem.W PyProof.Rows PySem.Calls PySem.Spec PyProof.V PySem.SeqAt
set_option maxHeartbeats 400000
noncomputable abbrev frS (xs : List Str) : Scope := { kind := .function, names := xs.map fun x => (x, .free), isGenerator := false, isCoroutine := false }
structure FreeIn (l : Led) (cl : List (Str × Addr)) (x : Str) (v : Value) : Prop where
  ex : ∃ a o, cl.lookup x = some a ∧ (a, o) ∈ l ∧ o.data = .cell (some v)
theorem free_at {M : Model} {A : Around} {E : Value → Shared → Prop} {Q : Value → Shared → Prop} {s : Shared} {h₀ : Heap} {L f : Addr} {cd : Value} {qual : Str} {scope : Scope} {cl : List (Str × Addr)} {news l : Led} {x : Str} {v : Value} {p : Pos} (N : News h₀ L s.heap news) (sb : Sub l news) (h : FreeIn l cl x v) (q : Q v s) (hk : autoParam (scope.kind = .function) aR) (hx : autoParam (scope.names.lookup x = some .free) aR) (hn : autoParam ((x == ("__classdict__" : Str)) = false) aD) (hd : autoParam ((x == ("__debug__" : Str)) = false) aD) :
    wpAny M A (eval (.Name x p) (envX qual scope L f cd cl)) Q E s := by
  obtain ⟨a, o, h1, h2, h3⟩ := h
  exact wpAny_Name (wpAny_loadName_free hk hx h1 ⟨o, (N _ (sb _ h2)).1, h3⟩ q hn) hd
section
variable {G : Gl} {la c' : Addr} {oc : Obj} {vs : Array Value} {t : Tok} {qual : Str} {cl : List (Str × Addr)} {pm ctv : Value} {n : Nat} {it : It} {res : Option Gr} {tab : List Row} {dn : Str → Option Int} {ra ba sya so sn sw bn kd : Addr} {v : Value} {σ : Bk} {l fp : Led} {κ : Str → Option Gr} {p1 p2 p3 p4 p5 p6 : Pos} {pl : Addr → Addr → Value → Sem Bool}
theorem lam_item (hla : (la, kla_obj "<lambda>" qual noArgs (.Call (.Attribute (.Name "reader" p1) "sort_of_item" p2) [.Name "item" p3] [] p4) (frS ["item", "reader"]) cl pm c' ctv) ∈ l) (hc : (c', oc) ∈ l) (h1 : oc.data = .fields vs) (h2 : vs[1]? = some (.str qual t))
    (hr : FreeIn l cl "reader" (.ref ra)) (hv : FreeIn l cl "item" v) (hres : readR tab n (fun ω => none) it = some res) (Rd : Rdr G.w l ra ba sya so sn sw bn tab dn) (hi : IsIt l v it) (hB : BankSt G.w sn sw bn σ fp)
    (hca : ∀ L f cd, eval (.Call (.Attribute (.Name "reader" p1) "sort_of_item" p2) [.Name "item" p3] [] p4) (envX qual (frS ["item", "reader"]) L f cd cl) = (do
      let ov ← eval (.Name "reader" p1) (envX qual (frS ["item", "reader"]) L f cd cl)
      standAt p2.atName
      let (f', first) ← holding [ov] (getMethod ov "sort_of_item" (pl L f cd))
      callWith p4 f' first (backTo p4 (starEach [.Name "item" p3] (envX qual (frS ["item", "reader"]) L f cd cl))) []) := by intro _ _ _; rfl) : Ct G (.ref la) [] (6 * n + 1 + 1) fp l (UK G sn sw bn dn σ res) (UX G sn sw bn σ res it) := by
  obtain ⟨_, ⟨dx, es, nn, a1, a2, a3, a4, a5, a6⟩, _, _⟩ := id Rd
  refine lam_ok hla hc h1 h2 fun {A L h gs dr os tk outer fs xs Q E} hA Fs hh hr' F N Z hQ hE => ?_
  have sb : Sub l (fp ++ (fs ++ (xs ++ l))) := Sub.app (Sub.app (Sub.app (Sub.refl l)))
  exact MethodCall_ (free_at (s := ⟨h, gs, dr, tk, os⟩) N sb hr (method_inst (s := ⟨h, gs, dr, tk, os⟩) F G.X (InstAt.of_news N (sb _ a1) (sb _ a2)) (by k_is) (by k_is) (by k_is) a5 (callWith_K G.X (by k_is) (args_cons (free_at N sb hv (args_nil ⟨G.X.keeps F.keep, Does.use (loc := []) (of_item_ok hres Rd hi hB).go F N hA rfl rfl Fs hh hr' Z zl_nil hQ hE⟩)) rfl) rfl rfl))) (hca _ _ _)
theorem lam_known (hla : (la, kla_obj "<lambda>" qual noArgs (.Call (.Attribute (.Name "reader" p1) "sort_under" p2) [.Name "item" p3, .Name "known" p5] [] p4) (frS ["item", "known", "reader"]) cl pm c' ctv) ∈ l) (hc : (c', oc) ∈ l) (h1 : oc.data = .fields vs) (h2 : vs[1]? = some (.str qual t))
    (hr : FreeIn l cl "reader" (.ref ra)) (hv : FreeIn l cl "item" v) (hkn : FreeIn l cl "known" (.ref kd)) (hres : readR tab n κ it = some res) (Rd : Rdr G.w l ra ba sya so sn sw bn tab dn) (hi : IsIt l v it) (hK : KnownIn G.w l σ dn kd κ) (hB : BankSt G.w sn sw bn σ fp)
    (hca : ∀ L f cd, eval (.Call (.Attribute (.Name "reader" p1) "sort_under" p2) [.Name "item" p3, .Name "known" p5] [] p4) (envX qual (frS ["item", "known", "reader"]) L f cd cl) = (do
      let ov ← eval (.Name "reader" p1) (envX qual (frS ["item", "known", "reader"]) L f cd cl)
      standAt p2.atName
      let (f', first) ← holding [ov] (getMethod ov "sort_under" (pl L f cd))
      callWith p4 f' first (backTo p4 (starEach [.Name "item" p3, .Name "known" p5] (envX qual (frS ["item", "known", "reader"]) L f cd cl))) []) := by intro _ _ _; rfl) : Ct G (.ref la) [] (6 * n + 1) fp l (UK G sn sw bn dn σ res) (UX G sn sw bn σ res it) := by
  obtain ⟨_, ⟨dx, es, nn, a1, a2, a3, a4, a5, a6, a7⟩, _, _⟩ := id Rd
  refine lam_ok hla hc h1 h2 fun {A L h gs dr os tk outer fs xs Q E} hA Fs hh hr' F N Z hQ hE => ?_
  have sb : Sub l (fp ++ (fs ++ (xs ++ l))) := Sub.app (Sub.app (Sub.app (Sub.refl l)))
  exact MethodCall_ (free_at (s := ⟨h, gs, dr, tk, os⟩) N sb hr (method_inst (s := ⟨h, gs, dr, tk, os⟩) F G.X (InstAt.of_news N (sb _ a1) (sb _ a2)) (by k_is) (by k_is) (by k_is) a6 (callWith_K G.X (by k_is) (args_cons (free_at N sb hv (args_cons (free_at N sb hkn (args_nil ⟨G.X.keeps F.keep, Does.use (loc := []) (under_ok n κ it res tab dn hres Rd hi hK hB).go F N hA rfl rfl Fs hh hr' Z zl_nil hQ hE⟩)) rfl)) rfl) rfl rfl))) (hca _ _ _)
theorem lam_empty (hla : (la, kla_obj "<lambda>" qual noArgs (.Call (.Attribute (.Name "reader" p1) "sort_under" p2) [.Name "item" p3, .Dict [] [] p5] [] p4) (frS ["item", "reader"]) cl pm c' ctv) ∈ l) (hc : (c', oc) ∈ l) (h1 : oc.data = .fields vs) (h2 : vs[1]? = some (.str qual t))
    (hr : FreeIn l cl "reader" (.ref ra)) (hv : FreeIn l cl "item" v) (hres : readR tab n (fun ω => none) it = some res) (Rd : Rdr G.w l ra ba sya so sn sw bn tab dn) (hi : IsIt l v it) (hB : BankSt G.w sn sw bn σ fp)
    (hca : ∀ L f cd, eval (.Call (.Attribute (.Name "reader" p1) "sort_under" p2) [.Name "item" p3, .Dict [] [] p5] [] p4) (envX qual (frS ["item", "reader"]) L f cd cl) = (do
      let ov ← eval (.Name "reader" p1) (envX qual (frS ["item", "reader"]) L f cd cl)
      standAt p2.atName
      let (f', first) ← holding [ov] (getMethod ov "sort_under" (pl L f cd))
      callWith p4 f' first (backTo p4 (starEach [.Name "item" p3, .Dict [] [] p5] (envX qual (frS ["item", "reader"]) L f cd cl))) []) := by intro _ _ _; rfl) : Ct G (.ref la) [] (6 * n + 1) fp l (UK G sn sw bn dn σ res) (UX G sn sw bn σ res it) := by
  obtain ⟨_, ⟨dx, es, nn, a1, a2, a3, a4, a5, a6, a7⟩, _, _⟩ := id Rd
  refine lam_ok hla hc h1 h2 fun {A L h gs dr os tk outer fs xs Q E} hA Fs hh hr' F N Z hQ hE => ?_
  have sb : Sub l (fp ++ (fs ++ (xs ++ l))) := Sub.app (Sub.app (Sub.app (Sub.refl l)))
  refine MethodCall_ (free_at (s := ⟨h, gs, dr, tk, os⟩) N sb hr (method_inst (s := ⟨h, gs, dr, tk, os⟩) F G.X (InstAt.of_news N (sb _ a1) (sb _ a2)) (by k_is) (by k_is) (by k_is) a6 (callWith_K G.X (by k_is) (args_cons (free_at N sb hv (args_cons (newDict_K F N G.T.nolimit fun D h2 o F2 N2 lt lo hd ω ω ω => args_nil ⟨G.X.keeps F2.keep, ?_⟩) rfl)) rfl) rfl rfl))) (hca _ _ _)
  have up : Sub l ((D, o) :: l) := Sub.cons (Sub.refl l)
  have hx : ∀ p ∈ xs, ∀ q ∈ [(D, o)], q.1 ≠ p.1 := fun p hp q hq => by rw [List.mem_singleton.mp hq]; exact Nat.ne_of_gt (lt p (by simp [hp]))
  exact Does.use (loc := [(D, o)]) (under_ok n _ it res tab dn hres (Rd.mono up) (hi.mono up) ⟨o, [], List.mem_cons_self, hd, lo, fun s => rfl⟩ hB).go F2 N2 hA rfl rfl Fs hh hr' Z (fun p hp q hq => by rw [List.mem_singleton.mp hq]; exact Nat.ne_of_gt (lt p (by simp only [List.mem_append] at hp ⊢; rcases hp with hp | hp <;> simp [hp])))
    (fun v fp' l' h' tk q F' N' Z' G' => hQ v fp' l' h' tk q F' N' Z' (G'.loc hx)) fun e C fp' oL' fs' l' h' tk q Hf hn hL SU G' => hE e C fp' oL' fs' l' h' tk q Hf hn hL SU (G'.loc hx)
end
end
section --N22
open PySem PySem.W PyProof.Rows PySem.Calls PySem.Spec PySem.SeqAt
set_option maxHeartbeats 400000
section
variable {G : Gl} {cs : Scope} {c : Cx G cs} {m : Str → Option Value} {fp l : Led} {h h' : Heap} {d : Nat} {pos p p' p'' : Pos} {e e₁ e₂ : Expr} {Q : Value → Shared → Prop} {x : Str} {v : Value} {sc : Scope} {cl : List (Str × Addr)} {C : Addr} {tk : Nat} {E : Value → Shared → Prop} {la : Addr} {vs : List Value} {f : Tok → Value}
theorem entT {fa : Addr} {vals : List Value} {binds : List (Str × Value)} {name qual : Str} {params : Arguments} {body : List Stmt} {dV kV doc pm cdv ct oc : Value} {an od : Option Addr} {osl : Array (Option Value)} {P : Value → Led → Led → Prop} {g : Array GenState} {dr : Drawn} {os : OsState}
    (ho : (K0.heap_1 G.w.params).lookup fa = some ⟨oc, od, .func (fnX name qual params body cs [] dV kV doc pm an cdv ct), osl⟩) (hcd : codeIn (K0.heap_1 G.w.params) cdv qual = true)
    (hpw : ∀ n, ((cellsFrom n cs.names []).map (·.2)).Pairwise (· ≠ ·)) (S : Has G.h₀ h fp [] ([] ++ l))
    (go : ∀ (c : Cx G cs) h cells, Live c 200 → c.fs = [] → c.cd = cdv → c.cn = qual → At c (lkC cs binds) (cells ++ fp) l h → CellsAre (bindC (fun y => cs.names.lookup y) binds (fun ω => none)) (cellsFrom (c.L + 1) cs.names []) cells → Rets c c.Q P → Run c c.Q h body)
    (hQ : ∀ v fp' l' h' tk, P v fp' l' → Has G.h₀ h' fp' [] ([] ++ l') → Q v ⟨h', g, dr, tk, os⟩)
    (hbind : ∀ s, BindsTo s (fnX name qual params body cs [] dV kV doc pm an cdv ct) ⟨vals, []⟩ binds := by exact fun ω => BindsTo.of_eq rfl) (hkind : autoParam ((binds.all fun y => cs.names.lookup y.1 == some .local || cs.names.lookup y.1 == some .cell) = true) aR) (hnd : autoParam (((cellsFrom 0 cs.names []).map (·.1)).Nodup) aD)
    (hco : autoParam (cs.isCoroutine = false) aR) (hgen : autoParam (cs.isGenerator = false) aR) (hk : autoParam (cs.kind = .function) aR) : wpAny G.M callerA (call (.ref fa) vals) Q E ⟨h, g, dr, tk, os⟩ := by
  have R : Room callerA 201 := ⟨by decide, by decide⟩
  refine m_callC (K := K0.heap_1 G.w.params) (binds := binds) S G.X G.T.nolimit ho hcd R.depth (hbind _) hkind hnd ?_ hco hgen hk
  intro L' h' tk' cells F' N' Y' l1
  have hge := cells_ge Y'
  have N2 : News G.h₀ L' h' ((cells ++ fp) ++ ([] ++ ([] ++ l))) := News.sub N' fun p hp => by
    simp only [List.mem_append] at hp ⊢
    rcases hp with (hp | hp) | hp | hp | hp <;> simp [hp]
  have far : ∀ p ∈ cells, ∀ q ∈ fp ++ ([] ++ ([] ++ l)), p.1 ≠ q.1 := fun p hp q hq e => by
    have h1 := hge p hp
    rw [e] at h1
    exact absurd (Nat.lt_of_lt_of_le (l1 q hq) (Nat.le_of_succ_le h1)) (Nat.lt_irrefl _)
  have Z2 : Ap (cells ++ fp) [] ([] ++ l) := ⟨fun p hp q hq => by
    have hp' : p ∈ cells ∨ p ∈ fp ++ [] := by
      simp only [List.mem_append] at hp ⊢
      rcases hp with (hp | hp) | hp <;> simp [hp]
    rcases hp' with hp' | hp'
    · exact (far p hp' q (by simp only [List.mem_append] at hq ⊢; rcases hq with hq | hq <;> simp [hq])).symm
    · exact S.apart.ap p hp' q hq, (fun p hp q hq => nomatch hq), List.pairwise_append.mpr ⟨?_, S.apart.dist, fun p hp q hq => far p hp q (by simp [hq])⟩⟩
  · let c : Cx G cs := ⟨callerA.deeper (envX qual cs L' fa cdv (cellsFrom (L' + 1) cs.names [])), qual, fa, cdv, L', g, dr, os, [], [], [], l, Q, E⟩
    have := (go c h' cells ⟨Around.frames_deeper rfl, trivial, rfl, R.deeper, hk⟩ rfl rfl rfl ⟨F', N2, Z2, Gro.refl _ _⟩ Y'
      (fun {v m fp' l' h''} tk q W => hQ v fp' l' h'' tk q (Has.back W.F W.N W.Z))).go tk'
    refine wpAny_mono this (fun f s' q => ?_) fun e s' q => q
    cases f <;> exact q
  · have := hpw (L' + 1)
    rw [← cells_map Y', List.pairwise_map] at this
    exact this
theorem fr_comp {h₀ : Heap} {L : Addr} (F : Fr h₀ L h m) (hCL : C ≠ L) (hC0 : h₀.get? C = none) (kk : ∀ b o, b ≠ C → h.get? b = some o → h'.get? b = some o) : Fr h₀ L h' m :=
  ⟨F.ns.at' fun o e => kk _ o (Ne.symm hCL) e, fun b o e => kk b o (fun z => by rw [z, hC0] at e; cases e) (F.keep b o e), F.above⟩
theorem ce_B (F : Fr G.h₀ c.L h m) (hn : nsIn (K0.heap_1 G.w.params) mainGlobals x = some none) (hb : bootBuiltins x = some v) (k : Q v (c.S h tk)) (hk : autoParam ((compEnvC sc cl C c.env).scope.kind = .function) aR) (hx : autoParam ((compEnvC sc cl C c.env).kindOf x = some .globalImplicit) aR) (hd : autoParam ((x == ("__debug__" : Str)) = false) aD) (hd2 : autoParam (x ≠ "__name__") aD) :
    wpAny G.M c.A (eval (.Name x p) (compEnvC sc cl C c.env)) Q E (c.S h tk) :=
  Name_function_global hk hx (loadGlobal_builtin (s := c.S h tk) (env := compEnvC sc cl C c.env) ((topRead_of G.T).g.keeps F.keep) (mg_none_of G.X (topRead_of G.T).g hn) ((topRead_of G.T).b.keeps F.keep) (((topRead_of G.T).builtins x hd2).trans hb) k) hd
theorem call_B {id : String} (W : At c m fp l h) (hn : nsIn (K0.heap_1 G.w.params) mainGlobals x = some none) (hb : bootBuiltins x = some (.builtin id)) (e1 : Ex c h e₁ fun v s₁ => wpAny G.M c.A (call (.builtin id) [v]) Q c.E s₁)
    (hk : autoParam (cs.kind = .function) aR) (hx : autoParam (cs.names.lookup x = some .globalImplicit) aR) (hd : autoParam ((x == ("__debug__" : Str)) = false) aD) (hd2 : autoParam (x ≠ "__name__") aD) (he : autoParam (notStar e₁ = true) aR) : Ex c h (.Call (.Name x p) [e₁] [] p') Q := ⟨fun tk =>
  Call_ (nameX_B (s := c.S h tk) W.F G.X (topRead_of G.T) hn hb hd2 (PyProof.Rows.callWith_builtin1 (args_cons (wpAny_mono (e1.go tk) (fun v s₁ q => args_nil q) fun ω ω e => e) (star_of he)) (star_of he) rfl) hk hx hd) call_name⟩
theorem cutL_is {value slice : Expr} {k : Int} {u : Tok} (W : At c m fp l h) (hl : h.IsList la vs.toArray) (h0 : 0 ≤ k) (hz : vs.length ≤ 1000)
    (q : ∀ D h', At c m fp ((D, listOf (vs.take k.toNat).toArray 0) :: l) h' → ∀ tk, Q (.ref D) (c.S h' tk))
    (hs : autoParam (subscripted slice false (.ref la) (.ref h.objs.size) = operate [.ref h.objs.size, .ref la] (getItem (.ref la) (.ref h.objs.size))) aW) :
    wpAny G.M c.A (subscriptTail value slice (.ref la) (.ref h.objs.size)) Q E (c.S (h.push { cls := .type "slice", data := .fields #[.none, .int k u, .none] }) tk) := by
  have up : ∀ b o, h.get? b = some o → (h.push { cls := .type "slice", data := .fields #[.none, .int k u, .none] }).get? b = some o := fun ω ω e => Heap.get?_push_of_some _ e
  have e : slicePick vs.toArray none (some k) none = (vs.take k.toNat).toArray := by
    have e1 : sliceBounds none (some k) none vs.toArray.size = (((0 : Nat) : Int), ((min k.toNat vs.toArray.size : Nat) : Int), 1) := by
      simp only [sliceBounds, Option.getD_none, show (1 : Int) > 0 by decide, if_true, if_neg (show ¬ (k < 0) by lia)]
      congr 1
      congr 1
      lia
    rw [kmk_pick_nat _ e1]
    show (((vs.drop 0).take (min k.toNat vs.toArray.size - 0))).toArray = _
    rw [List.drop_zero, Nat.sub_zero, List.size_toArray, kmk_take_min]
  refine tail_any (s := c.S (h.push { cls := .type "slice", data := .fields #[.none, .int k u, .none] }) tk) (hl.push _).typeIs slot_list_getitem.lookup
    (wpAny_getItem_list_slice (hl.push _) (Heap.IsSliceOf.new ..) .none (.int _ _) .none (by simp) ?_ (by rw [sizeLine_eq]; simp; lia)) hs
  rw [e]
  have N1 := News.push (W.F.push { cls := .type "slice", data := .fields #[.none, .int k u, .none] }) (W.N.grown up) (listOf (vs.take k.toNat).toArray 0)
  rw [Heap.size_push] at N1
  show Q (.ref (h.push _).objs.size) _
  rw [Heap.size_push]
  exact q _ _ (W.push ((W.F.push _).push _) N1 fun p hp => Nat.lt_succ_of_lt (Heap.lt_size (W.N p hp).1)) _
noncomputable def Alike (r v : Value) : Prop := (r = .none ∧ v = .none) ∨ ∃ i t u, r = .int i t ∧ v = .int i u
theorem ne_alike {r v : Value} {R : Bool → Shared → Prop} (hh : Alike r v) (q : R false (c.S h tk)) : wpAny G.M c.A (compareOp .NotEq r v) (fun v s₃ => wpAny G.M c.A (truthy v) R c.E s₃) c.E (c.S h tk) := by
  rcases hh with ⟨rfl, rfl⟩ | ⟨i, t, u, rfl, rfl⟩
  · exact EqNone.ne_none_none (wpAny_truthy_bool q)
  · exact P.ne_int (wpAny_truthy_bool (by rw [bne_self_eq_false]; exact q))
theorem ne_dict2 {a b : Addr} {oa ob : Obj} {i j : Int} {t1 t2 t3 t4 : Tok} {k1 k2 : Str} {R : Bool → Shared → Prop} (V : Live c (d + 1)) (W : At c m fp l h) (ha : (a, oa) ∈ fp ++ (c.fs ++ (c.xs ++ l))) (hb : (b, ob) ∈ fp ++ (c.fs ++ (c.xs ++ l))) (da : oa.IsDictOf (PySem.strKind PG G.w) [(k1, .int i t1), (k2, .int j t2)]) (db : ob.IsDictOf (PySem.strKind PG G.w) [(k1, .int i t3), (k2, .int j t4)]) (la : (a == sysModules) = false) (lb : (b == sysModules) = false) (hk : k1 ≠ k2)
    (q : R false (c.S h tk)) : wpAny G.M c.A (compareOp .NotEq (.ref a) (.ref b)) (fun v s₃ => wpAny G.M c.A (truthy v) R c.E s₃) c.E (c.S h tk) := by
  refine kne_pairs (s := c.S h tk) (r := true && (true && true)) W.N ha hb da db la lb rfl V.u0 ?_ (wpAny_truthy_bool q)
  refine .hit (y := .int i t3) (by simp [valueAt]) ?_ (.hit (y := .int j t4) (by simp [valueAt, hk]) ?_ .nil)
  · have := EqAt.int_int (A := c.A.in1) (s := c.S h tk) i t1 i t3
    rwa [beq_self_eq_true] at this
  · have := EqAt.int_int (A := c.A.in1) (s := c.S h tk) j t2 j t4
    rwa [beq_self_eq_true] at this
end
end
section --N23
open PySem PySem.W PyProof.Rows PySem.Calls PySem.Spec PySem.SeqAt
set_option maxHeartbeats 400000
section
variable {G : Gl} {cs : Scope} {c : Cx G cs} {m : Str → Option Value} {fp l : Led} {h : Heap} {d n : Nat} {p p' pos : Pos} {iter test : Expr} {Q : Value → Shared → Prop} {x : Str} {sc : Scope} {cl : List (Str × Addr)} {ax : Addr} {vs : List Value}
theorem At.same {h' : Heap} (W : At c m fp l h) (hL : ∀ o, h.get? c.L = some o → h'.get? c.L = some o) (h0 : ∀ b o, G.h₀.get? b = some o → h.get? b = some o → h'.get? b = some o) (hk : ∀ q ∈ fp ++ (c.fs ++ (c.xs ++ l)), ∀ o, h.get? q.1 = some o → h'.get? q.1 = some o) : At c m fp l h' :=
  ⟨⟨W.F.ns.at' hL, fun b o e => h0 b o e (W.F.keep b o e), W.F.above⟩, fun q hq => ⟨hk q hq _ (W.N q hq).1, (W.N q hq).2⟩, W.Z, W.G⟩
inductive LoopN (c : Cx G cs) (m : Str → Option Value) (l : Led) (ax : Addr) (n : Nat) (J : Nat → Led → Led → Prop) (I D C : Addr) (k : Nat) (s' : Shared) : Prop
  | mk (h' : Heap) (tk : Nat) (mC : Str → Option Value) (fp' l' : Led) (i : Nat) (e : s' = c.S h' tk) (it : h'.IsListIter I ax i) (pl : h'.PlainList D #[]) (ns : h'.Ns C mC) (W : At c m fp' l' h') (s : Sub l l') (far : ∀ q ∈ fp' ++ (c.fs ++ (c.xs ++ l')), q.1 ≠ I ∧ q.1 ≠ D ∧ q.1 ≠ C) (j : J i fp' l') (hi : i ≤ n) (hk : k = n + 1 - i)
theorem cmp_none {J : Nat → Led → Led → Prop} (V : Live c d) (W : At c m fp l h) (hm : (ax, listOf vs.toArray n) ∈ l) (hsz : vs.length ≤ 1000) (h0 : J 0 fp l)
    (turn : ∀ (i : Nat) v C h' mC fp' l' o s, vs[i]? = some v → J i fp' l' → Sub l l' → h'.Ns C mC → mC x = some v → At (c.own o l' s) m fp' l' h' → ∀ (Kk : Bool → Shared → Prop) (E : Value → Shared → Prop) (whole : Sem Value) tk, (∀ fp2 l2 h2 tk, J (i + 1) fp2 l2 → At (c.own o l' s) m fp2 l2 h2 → Kk false ((c.own o l' s).S h2 tk)) → wpAny G.M c.A (isTrue test (compEnvC sc cl C c.env) whole) Kk E ((c.own o l' s).S h' tk))
    (k : ∀ D fp' l' h' n, J vs.length fp' l' → Sub l l' → At c m fp' ((D, listOf #[] n) :: l') h' → ∀ tk, Q (.ref D) (c.S h' tk))
    (hcell : autoParam (∀ y ∈ sc.names, y.2 ≠ .cell) aD) (hkind : autoParam (sc.kind = .function) aR) (hx : autoParam (sc.names.lookup x = some .local) aR) : ∀ tk, CmpP c (.Name x p') (.Name x p) iter [test] sc cl pos none Q (.ref ax) (c.S h tk) := fun tk => by
  have hsrc := News.isList W.N (W.inl hm)
  have hax : ax < h.objs.size := Heap.lt_size (W.N _ (W.inl hm)).1
  have lt : ∀ q ∈ fp ++ (c.fs ++ (c.xs ++ l)), q.1 < h.objs.size := fun q hq => Heap.lt_size (W.N q hq).1
  have hLlt : c.L < h.objs.size := W.F.ns.lt
  have n0 : ∀ a, h.objs.size ≤ a → G.h₀.get? a = none := fun a ha => fr_new W.F ha
  refine wpAny_pyIter_list (s := c.S h tk) hsrc ?_
  refine wpAny_newObj_type (wpAny_newFunctionEnv hcell (by intro y hy; simp at hy) (fun h₁ hns₁ hsb₁ => ?_) hkind)
  dsimp only at hns₁ hsb₁ ⊢
  generalize hH1 : h.push { cls := .type "list_iterator", data := .fields #[.ref ax, .int 0 0] } = H1 at hns₁ hsb₁ ⊢
  have e1 : H1.objs.size = h.objs.size + 1 := by rw [← hH1, Heap.size_push]
  have g1 : ∀ b o, h.get? b = some o → H1.get? b = some o := fun b o e => hH1 ▸ Heap.get?_push_of_some _ e
  have gI : H1.get? h.objs.size = some { cls := .type "list_iterator", data := .fields #[.ref ax, .int 0 0] } := hH1 ▸ Heap.get?_push_size _ rfl
  generalize hH2 : H1.push { cls := .type "list", dict := none, data := .seq ([] : List Value).toArray } = H2 at hns₁ hsb₁ ⊢
  have e2 : H2.objs.size = h.objs.size + 2 := by rw [← hH2, Heap.size_push, e1]
  have g2 : ∀ b o, H1.get? b = some o → H2.get? b = some o := fun b o e => hH2 ▸ Heap.get?_push_of_some _ e
  have gD : H2.get? H1.objs.size = some { cls := .type "list", dict := none, data := .seq ([] : List Value).toArray } := hH2 ▸ Heap.get?_push_size _ rfl
  generalize hI : h.objs.size = I at *
  generalize hD : H1.objs.size = D at *
  generalize hC : H2.objs.size = C at *
  have nID : I ≠ D := by rw [e1]; exact Nat.ne_of_lt (Nat.lt_succ_self _)
  have nIC : I ≠ C := by rw [e2]; exact Nat.ne_of_lt (by lia)
  have nDC : D ≠ C := by rw [e1, e2]; exact Nat.ne_of_lt (by lia)
  have nLI : c.L ≠ I := Nat.ne_of_lt hLlt
  have nLD : c.L ≠ D := by rw [e1]; exact Nat.ne_of_lt (Nat.lt_succ_of_lt hLlt)
  have nLC : c.L ≠ C := by rw [e2]; exact Nat.ne_of_lt (Nat.lt_succ_of_lt (Nat.lt_succ_of_lt hLlt))
  have hI0 := n0 I (Nat.le_refl _)
  have hD0 := n0 D (by rw [e1]; lia)
  have hC0 := n0 C (by rw [e2]; lia)
  have old : ∀ b o, b ≠ C → H2.get? b = some o → h₁.get? b = some o := fun b o hb e => hsb₁.extBut b o hb (Heap.get?_push_of_some _ e)
  have below : ∀ b, b < I → b ≠ C := fun b hb => by rw [e2]; exact Nat.ne_of_lt (Nat.lt_succ_of_lt (Nat.lt_succ_of_lt hb))
  have far : ∀ q ∈ fp ++ (c.fs ++ (c.xs ++ l)), q.1 ≠ I ∧ q.1 ≠ D ∧ q.1 ≠ C := fun q hq => by
    have := lt q hq
    refine ⟨Nat.ne_of_lt this, ?_, below _ this⟩
    rw [e1]; exact Nat.ne_of_lt (Nat.lt_succ_of_lt this)
  have W1 : At c m fp l h₁ := W.same (fun o e => old _ o nLC (g2 _ _ (g1 _ _ e))) (fun b o e0 e => old b o (fun z => by rw [z, hC0] at e0; cases e0) (g2 _ _ (g1 _ _ e))) fun q hq o e => old _ o (far q hq).2.2 (g2 _ _ (g1 _ _ e))
  have WK := Walks.listL (prog := PG) (w := G.w) V.hh I ax (Nat.ne_of_lt hax) vs
  have loop : codeAny G.M c.A (.compLoop (.ListComp (.Name x p') [⟨.Name x p, iter, [test], 0⟩] sc pos) 0 (.ref I) (.ref D) (compEnvC sc cl C c.env)) (compPost G.M c.A c.E none Q (.ref D) C) { c.S h tk with heap := h₁, toks := (c.S h tk).toks + ([] : List (Str × Value)).length } := by
    refine comp_loopG
      (LoopN c m l ax vs.length J I D C)
      ?_ (vs.length + 1) ⟨h₁, _, _, fp, l, 0, rfl, ⟨_, old _ _ nIC (g2 _ _ gI), rfl, rfl⟩, ⟨_, old _ _ nDC gD⟩, hns₁, W1, Sub.refl l, far, h0, Nat.zero_le _, rfl⟩
    rintro k' s' ⟨H, tk', mC, fp', l', i, rfl, hst', hacc', hnC, W', sl, far', hJ, hi, rfl⟩
    have hsrc' := News.isList W'.N (W'.inl (sl _ hm))
    by_cases hlt' : i < vs.length
    · refine WK.item i _ _ _ hlt' ⟨hst', hsrc'⟩ fun v ha tka hPv hsta hka => ?_
      have hka' : ∀ b o, b ≠ I → H.get? b = some o → ha.get? b = some o := fun b o hb e => hka b o (fun z => hb (List.mem_singleton.mp z)) e
      have Wa : At c m fp' l' ha := W'.same (fun o e => hka' _ o nLI e) (fun b o e0 e => hka' b o (fun z => by rw [z, hI0] at e0; cases e0) e) fun q hq o e => hka' _ o (far' q hq).1 e
      obtain ⟨nD, hoD⟩ := hacc'
      have hoDa := hka' D _ nID.symm hoD
      unfold letOwnedTupleGo
      refine wpAny_pure ?_
      refine comp_assign1 (s := c.S ha tka) (hnC.at' fun o e => hka' _ o nIC.symm e) hkind hx fun hb tkb kk nn => ?_
      have Wb : At c m fp' l' hb := Wa.same (fun o e => kk _ o nLC e) (fun b o e0 e => kk b o (fun z => by rw [z, hC0] at e0; cases e0) e) fun q hq o e => kk _ o (far' q hq).2.2 e
      obtain ⟨oI, hoI, rI⟩ := id hsta.1
      obtain ⟨oC, esC, epC, hoC, hdC⟩ := ns_obj nn
      have ho : ∀ q ∈ [(I, oI), (D, listOf #[] nD), (C, oC)], hb.get? q.1 = some q.2 ∧ q.1 ≠ c.L ∧ G.h₀.get? q.1 = none := fun q hq => by
        simp only [List.mem_cons, List.not_mem_nil, or_false] at hq
        rcases hq with rfl | rfl | rfl
        · exact ⟨kk _ _ nIC hoI, nLI.symm, hI0⟩
        · exact ⟨kk _ _ nDC hoDa, nLD.symm, hD0⟩
        · exact ⟨hoC, nLC.symm, hC0⟩
      have hf : ∀ q ∈ [(I, oI), (D, listOf #[] nD), (C, oC)], ∀ r ∈ fp' ++ (c.fs ++ (c.xs ++ l')), r.1 ≠ q.1 := fun q hq r hr => by
        simp only [List.mem_cons, List.not_mem_nil, or_false] at hq
        rcases hq with rfl | rfl | rfl
        · exact (far' r hr).1
        · exact (far' r hr).2.1
        · exact (far' r hr).2.2
      refine wpAny_tests_one (turn i v C hb _ fp' l' _ (c.S h tk) hPv hJ sl nn (by simp) (Wb.own ho hf) _ _ _ tkb fun fp2 l2 h2 tk2 hJ2 W2 => ?_)
      obtain ⟨Wc, b1, b2⟩ := W'.back (fun q hq r hr => hf q hq r (by simp only [List.mem_append] at hr ⊢; rcases hr with hr | hr <;> simp [hr])) W2
      have bI := b1 _ List.mem_cons_self
      have bD := b1 _ (List.mem_cons_of_mem _ List.mem_cons_self)
      have bC := b1 _ (List.mem_cons_of_mem _ (List.mem_cons_of_mem _ List.mem_cons_self))
      rw [if_neg Bool.false_ne_true]
      refine ⟨vs.length + 1 - (i + 1), by lia, h2, tk2, _, fp2, l2, i + 1, rfl, ⟨oI, bI, rI⟩, ⟨nD, bD⟩, nn.at' (fun o e => by rw [hoC] at e; cases e; exact bC), Wc, sl.trans W2.G.sub, fun q hq => ⟨b2 _ List.mem_cons_self q hq, b2 _ (List.mem_cons_of_mem _ List.mem_cons_self) q hq, b2 _ (List.mem_cons_of_mem _ (List.mem_cons_of_mem _ List.mem_cons_self)) q hq⟩, hJ2, hlt', rfl⟩
    · have hin : i = vs.length := by lia
      subst hin
      refine WK.done _ _ _ ⟨hst', hsrc'⟩ fun ha tka hka => ?_
      have hka' : ∀ b o, b ≠ I → H.get? b = some o → ha.get? b = some o := fun b o hb e => hka b o (fun z => hb (List.mem_singleton.mp z)) e
      obtain ⟨nD, hoD⟩ := hacc'
      refine ⟨mC, hnC.at' (fun o e => hka' _ o nIC.symm e), fun h3 hs3 => ?_⟩
      have up : ∀ b o, b ≠ I → b ≠ C → H.get? b = some o → h3.get? b = some o := fun b o hb hc e => hs3.extBut b o hc (hka' b o hb e)
      have W3 : At c m fp' l' h3 := W'.same (fun o e => up _ o nLI nLC e) (fun b o e0 e => up b o (fun z => by rw [z, hI0] at e0; cases e0) (fun z => by rw [z, hC0] at e0; cases e0) e) fun q hq o e => up _ o (far' q hq).1 (far' q hq).2.2 e
      refine k D fp' l' h3 nD hJ sl (W3.pushD W3.F (fun q hq => ?_) W3.Z (Gro.refl _ _) fun q hq => (far' q hq).2.1) _
      rcases List.mem_cons.mp hq with rfl | hq
      · exact ⟨up _ _ nID.symm nDC hoD, nLD.symm, hD0⟩
      · exact W3.N q hq
  exact codeAny_compStart_list loop (WK.self 0 _ _ _ ⟨⟨_, old _ _ nIC (g2 _ _ gI), rfl, rfl⟩, News.isList W1.N (W1.inl hm)⟩ loop)
end
end
section --N24
open PySem PySem.W PyProof.Rows PySem.Calls PySem.Spec PySem.SeqAt
set_option maxHeartbeats 400000
theorem cells_four {cm : Str → Option Value} {n1 n2 n3 n4 : Str} {c1 c2 c3 c4 : Addr} {cells : Led} (h : CellsAre cm [(n1, c1), (n2, c2), (n3, c3), (n4, c4)] cells) : ∃ o1 o2 o3 o4, cells = [(c1, o1), (c2, o2), (c3, o3), (c4, o4)] ∧ o1.data = .cell (cm n1) ∧ o2.data = .cell (cm n2) ∧ o3.data = .cell (cm n3) ∧ o4.data = .cell (cm n4) := by
  cases h with | cons a r => cases r with | cons b r => cases r with | cons d r => cases r with | cons e r => cases r; exact ⟨_, _, _, _, rfl, a, b, d, e⟩
theorem sameUp_nil {fs : Led} (s : TI.SameUp [] fs) : fs = [] := by
  cases fs with
  | nil => rfl
  | cons _ _ => exact s.elim
section
variable {G : Gl} {cs : Scope} {c : Cx G cs} {m : Str → Option Value} {fp f1 f2 l l' : Led} {h h' : Heap} {d d' : Nat} {fn : Value} {vals : List Value} {K KX : Post → Prop} {Q : Value → Shared → Prop} {e e₁ e₂ : Expr} {es : List Expr} {p : Pos} {R : Bool → Shared → Prop}
theorem useS0 {E : Value → Shared → Prop} (hfs : c.fs = []) (V : Live c d) (W : At c m (f1 ++ f2) l h) (Cl : CtS G fn vals d' f2 l K) (k : K fun v f2' l' => ∀ h', Sub l l' → At c m (f1 ++ f2') l' h' → ∀ tk, Q v (c.S h' tk)) (hd : autoParam (d' ≤ d) aD) :
    ∀ tk, wpAny G.M c.A (call fn vals) Q E (c.S h tk) := fun tk =>
  DoesS.use (s := c.S h tk) (loc := []) (xs := f1 ++ c.xs) Cl.go W.F (News.sub W.N aside_sub) V.fr rfl V.hk V.Fs V.hh (V.room.mono hd) (by rw [List.append_assoc]; exact W.Z.aside) zl_nil
    fun v f2' fs' l' h' tk' q F' N' s' Z' g => q _ k h' g.sub (by
      rw [hfs] at s'
      obtain rfl := sameUp_nil s'
      have N2 := News.sub N' again_sub
      have Z2 := W.Z.again Z' g (by rw [hfs]; exact fun q hq => ⟨q, hq, rfl⟩)
      rw [← hfs] at N2 Z2
      exact ⟨F', N2, Z2, W.G.trans g.less⟩) tk'
theorem tex_or_s (t : TeX c h e fun b s' => b = false ∧ ∀ whole, wpAny G.M c.A (isTrue (.BoolOp .Or es p) c.env whole) R c.E s') : TeX c h (.BoolOp .Or (e :: es) p) R := ⟨fun whole tk => isTrue_or (wpAny_mono (t.go _ tk) (fun b s' q => by
  obtain ⟨rfl, q⟩ := q
  exact q whole) fun ω ω e => e)⟩
theorem tex_or_l (t : TeX c h e fun b s' => b = false ∧ R false s') : TeX c h (.BoolOp .Or [e] p) R := ⟨fun whole tk => isTrue_or (wpAny_mono (t.go _ tk) (fun b s' q => by
  obtain ⟨rfl, q⟩ := q
  exact isTrue_or_nil q) fun ω ω e => e)⟩
theorem sub_int_at {E : Value → Shared → Prop} {tk : Nat} {i k : Int} {t u : Tok} (q : ∀ t tk, Q (.int (i - k) t) (c.S h tk)) : wpAny G.M c.A (binaryOp .Sub (.int i t) (.int k u)) Q E (c.S h tk) := P.sub_int (q _ _)
end
theorem alike_some {tab : List Row} {σ σ' : Bk} {dn : Str → Option Int} {g : Option Gr} {res : Option It} {r : Value} (h : RelG tab g res) (hn : NumIs σ dn r res) (hle : σ.Le σ') {g' : Gr} {i : Int} {t : Tok} (hg : g = some g') (hi : Num σ' dn g' i) : Alike (.int i t) r := by
  rcases due_read h hn hle with ⟨rfl, rfl⟩ | ⟨gr, j, u, rfl, rfl, hu⟩
  · cases hg
  · cases hg
    exact .inr ⟨j, t, u, by rw [hu i hi], rfl⟩
theorem alike_none {tab : List Row} {σ σ' : Bk} {dn : Str → Option Int} {g : Option Gr} {res : Option It} {r : Value} (h : RelG tab g res) (hn : NumIs σ dn r res) (hle : σ.Le σ') (hg : g = none) : Alike .none r := by
  rcases due_read h hn hle with ⟨rfl, rfl⟩ | ⟨gr, j, u, rfl, rfl, hu⟩
  · exact .inl ⟨rfl, rfl⟩
  · cases hg
theorem bv_sort_no {G : Gl} {ba sn sw bn : Addr} {σ : Bk} {wd : Int} {tw : Tok} {l fp : Led} (B : BankAt l ba sn sw bn) (S : BankSt G.w sn sw bn σ fp) (h1 : 1 ≤ wd) (h2 : wd ≤ 4096) :
    Ct G (.ref 527) [.ref ba, .int wd tw] 4 fp l (fun R => ∀ σ' i t fp', BankSt G.w sn sw bn σ' fp' → σ.Le σ' → σ'.Bits wd i → R (.int i t) fp' l) NoX :=
  (bv_sort_ok B S).mono (Nat.le_refl _) (fun R k σ' i t fp' a b ω ω e => k σ' i t fp' a b e) fun R ω => ⟨fun ω ω z => absurd z (by lia), fun ω ω z => absurd z (by lia)⟩
noncomputable def kap : Str → Option Gr := fun s => if s = "Q" then some (.bits 3) else if s = "C" then some .real else none
theorem kap_good (tab : List Row) : GoodK tab kap := fun x g h => by
  unfold kap at h
  split at h
  · cases h; exact ⟨by decide, by decide⟩
  · split at h
    · cases h; trivial
    · cases h
theorem grd_ok {tab : List Row} {g : Option Gr} {res : Option It} (h : RelG tab g res) : ∀ it, res = some it → isGround tab it = true ∧ ∀ x y wd, it = .list [x, y, .num wd] → wd ≤ 4096 := fun it hit => by
  rcases h with ⟨_, rfl⟩ | ⟨gr, _, rfl, hg⟩
  · cases hit
  · cases hit
    exact ⟨itOf_ground hg, itOf_small hg⟩
theorem name_other {i : Nat} {s : Str} (h : s = nameAt i) : s = "P" ∨ s = "A" ∨ s = "B" ∨ s = "C" := by
  subst h
  match i with
  | 0 => exact .inl rfl
  | 1 => exact .inr (.inl rfl)
  | 2 => exact .inr (.inr (.inl rfl))
  | _ + 3 => exact .inr (.inr (.inr rfl))
theorem BrOk.std {G : Gl} {l : Led} {kvs dvs : List (Str × Value)} {ws : List Int} {vs : List Value} {tab : List Row} {dn : Str → Option Int} (B : BrOk G l kvs dvs ws vs tab dn) : dn "Bool" = none ∧ dn "Int" = none ∧ dn "Real" = none := by
  have go : ∀ s : Str, ¬ (s = "P" ∨ s = "A" ∨ s = "B" ∨ s = "C") → dn s = none := fun s hs => by
    cases h : dn s with
    | none => rfl
    | some i =>
      obtain ⟨j, _, e⟩ := B.nm s i h
      exact absurd (name_other e) hs
  exact ⟨go _ (by decide), go _ (by decide), go _ (by decide)⟩
theorem NumIs.up {σ σ' : Bk} {dn : Str → Option Int} {r : Value} (h : σ.Le σ') {res : Option It} (x : NumIs σ dn r res) : NumIs σ' dn r res := by
  cases res with
  | none => exact x
  | some _ => obtain ⟨g, i, t, e, a, b⟩ := x; exact ⟨g, i, t, e, a, b.up h⟩
noncomputable def ReadK (G : Gl) (sn sw bn : Addr) (σ : Bk) (r : Value) : Post → Prop := fun R => ∀ a σ' fp' l', BankSt G.w sn sw bn σ' fp' → σ.Le σ' → Alike a r → R a fp' l'
theorem read_alike {G : Gl} {la sn sw bn : Addr} {oc : Value} {od : Option Addr} {sl : Array (Option Value)} {fd : FuncData} {d : Nat} {l fp : Led} {σ : Bk} {tab : List Row} {dn : Str → Option Int} {g : Option Gr} {res : Option It} {it : It} {r : Value} (hla : (la, (⟨oc, od, .func fd, sl⟩ : Obj)) ∈ l) (D : Ct G (.ref la) [] d fp l (UK G sn sw bn dn σ g) (UX G sn sw bn σ g it)) (hR : RelG tab g res) (hn : NumIs σ dn r res) : CtS G (.ref 916) [.ref la] (d + 1) fp l (ReadK G sn sw bn σ r) := by
  have := read_ok hla D (fun σ' C fp' l' ω ω ω hC ω => by
    rcases hC with rfl | rfl
    · exact .inl rfl
    · exact .inr rfl)
  refine ⟨fun Y R S hQ => this.go Y R S fun v fp' fs' l' h' tk q H s g => hQ v fp' fs' l' h' tk (fun R k => q R ⟨fun σ' g' i t fp' l' h1 h2 h3 h4 => ?_, fun σ' C fp' l' h1 h2 h3 ω ω => ?_⟩) H s g⟩
  · exact k _ σ' fp' l' h1 h2 (alike_some hR hn h2 h3 h4)
  · exact k _ σ' fp' l' h1 h2 (alike_none hR hn h2 h3)
theorem tab_kap {w : World} {l : Led} {D : Addr} {o : Obj} {v1 v2 : Value} (hm : (D, o) ∈ l) (lo : (D == sysModules) = false) (hd : o.IsDictOf (PySem.strKind PG w) [("Q", v1), ("C", v2)]) (h1 : IsIt l v1 (.list [.sym "_", .sym "BitVec", .num 3])) (h2 : IsIt l v2 (.sym "Real")) : TabIn w l D (itK kap) := by
  refine ⟨o, _, hm, hd, lo, fun s => ?_⟩
  unfold itK kap
  by_cases e1 : s = "Q"
  · subst e1; exact ⟨v1, rfl, h1⟩
  · by_cases e2 : s = "C"
    · subst e2; exact ⟨v2, rfl, h2⟩
    · rw [if_neg e1, if_neg e2]
      show valueAt _ s = none
      simp [valueAt, Ne.symm e1, Ne.symm e2]
theorem known_kap {w : World} {l : Led} {D : Addr} {o : Obj} {i : Int} {t u : Tok} {σ : Bk} {dn : Str → Option Int} (hm : (D, o) ∈ l) (lo : (D == sysModules) = false) (hd : o.IsDictOf (PySem.strKind PG w) [("Q", .int i t), ("C", .int 2 u)]) (hb : σ.Bits 3 i) : KnownIn w l σ dn D kap := by
  refine ⟨o, _, hm, hd, lo, fun s => ?_⟩
  unfold kap
  by_cases e1 : s = "Q"
  · subst e1; exact ⟨i, t, rfl, hb⟩
  · by_cases e2 : s = "C"
    · subst e2; exact ⟨2, u, rfl, rfl⟩
    · rw [if_neg e1, if_neg e2]
      show valueAt _ s = none
      simp [valueAt, Ne.symm e1, Ne.symm e2]
end
section --A20
open PySem PySem.W PyProof.Rows PySem.Calls PySem.Spec PyProof.V PySem.SeqAt
set_option maxHeartbeats 2000000
theorem pw4 (n : Nat) : [n + 1 + 1 + 1, n + 1 + 1, n + 1, n].Pairwise (· ≠ ·) := by
  simp only [List.pairwise_cons, List.mem_cons, List.not_mem_nil, or_false, false_implies, implies_true, List.Pairwise.nil, and_true]
  refine ⟨fun a h => ?_, fun a h => ?_, fun a h => ?_⟩ <;> lia
theorem ints_snoc {ys : List Value} {ns : List Int} {i : Nat} {k : Int} {t : Tok} (h : IntsAre ys (ns.take i)) (e : ns[i]? = some k) : IntsAre (ys ++ [.int k t]) (ns.take (i + 1)) := by
  rw [List.take_add_one, e]
  exact h.append (.cons k t .nil)
theorem ints_get {vs : List Value} {ns : List Int} (h : IntsAre vs ns) {i : Nat} {v : Value} (e : vs[i]? = some v) : ∃ k t, v = .int k t ∧ ns[i]? = some k := by
  induction h generalizing i with
  | nil => exact nomatch e
  | cons a t _ ih => cases i with
    | zero => exact ⟨a, t, (Option.some.inj e).symm, rfl⟩
    | succ i => exact ih e
theorem perm15 {α : Type} {a0 a1 a2 a3 a4 a5 a6 a7 a8 a9 a10 a11 a12 a13 a14 : α} : [a0, a1, a2, a3, a4, a5, a6, a7, a8, a9, a10, a11, a12, a13, a14].Perm [a5, a13, a4, a14, a10, a11, a12, a6, a3, a2, a7, a8, a0, a1, a9] := by
  have h : ([0, 1, 2, 3, 4, 5, 6, 7, 8, 9, 10, 11, 12, 13, 14] : List Nat).Perm [5, 13, 4, 14, 10, 11, 12, 6, 3, 2, 7, 8, 0, 1, 9] := by decide
  exact h.map (fun i => ([a0, a1, a2, a3, a4, a5, a6, a7, a8, a9, a10, a11, a12, a13, a14][i]?).getD a0)
theorem brOk0 {G : Gl} {l : Led} : BrOk G l [] [] [0, 0, 0] [] [] (fun ω => none) :=
  ⟨fun ω => rfl, rfl, by decide, by decide, fun ω => rfl, Nat.le_refl _, ⟨rfl, fun j v h => by simp at h⟩, ⟨by simp, fun j r h => by simp at h⟩, fun ω ω => rfl, fun ω ω h => by cases h⟩
theorem perm11 {α : Type} {a0 a1 a2 a3 a4 a5 a6 a7 a8 a9 a10 : α} {f : List α} : ([a0, a1, a2, a3, a4, a5, a6, a7, a8, a9, a10] ++ f).Perm ([a5, a6, a9, a10, a1, a3, a2, a0] ++ (f ++ [a7, a8, a4])) := by
  have h : ([0, 1, 2, 3, 4, 5, 6, 7, 8, 9, 10] : List Nat).Perm [5, 6, 9, 10, 1, 3, 2, 0, 7, 8, 4] := by decide
  have h2 := (h.map (fun i => ([a0, a1, a2, a3, a4, a5, a6, a7, a8, a9, a10][i]?).getD a0)).append_right f
  exact List.Perm.trans h2 ((List.perm_append_comm (l₁ := [a7, a8, a4]) (l₂ := f)).append_left [a5, a6, a9, a10, a1, a3, a2, a0])
theorem bankSt0 {G : Gl} {sn sw bn : Addr} {on ow ob : Obj} {ws : List Int} (O : LsOk ws on ow) (hob : ob.IsDictOf (PySem.intKind PG G.w) []) (h1 : ws.length ≤ 7) (h2 : 3 ≤ ws.length) : BankSt G.w sn sw bn ⟨ws, []⟩ [(sn, on), (sw, ow), (bn, ob)] :=
  ⟨on, ow, ob, rfl, ⟨O.names, O.wid, hob⟩, ⟨h1, h2, (fun x hx => nomatch hx), List.nodup_nil⟩⟩
inductive LawJ (G : Gl) (f0 : Led) (cl fa so br sn sw dca rwa : Addr) (sm : Int) (m0 : Str → Option Value) (l0 : Led) (i : Nat) (m : Str → Option Value) (fp l : Led) : Prop
  | mk (n' : Int) (oso : Obj) (ab : Array Value) (kb : Nat) (on ow od : Obj) (vs : List Value) (kk : Nat) (kvs dvs : List (Str × Value)) (ws : List Int) (tab : List Row) (dn : Str → Option Int) (fpF : Led) (e : fp = f0 ++ (brF so br sn sw dca rwa oso on ow od ab kb vs kk ++ fpF)) (F : FeedSt G.w cl fa n' sm fpF) (h0 : 0 ≤ n') (h1 : n' ≤ 1 + 13 * (i : Int)) (hD : oso.IsDictOf (PySem.strKind PG G.w) kvs) (hab : ab.size = tab.length) (O : LsOk ws on ow) (hDe : od.IsDictOf (PySem.strKind PG G.w) dvs) (B : BrOk G l kvs dvs ws vs tab dn) (ht : tab.length = i) (s : Sub l0 l) (hm : ∀ y : Str, y ≠ "lap" → m y = m0 y) : LawJ G f0 cl fa so br sn sw dca rwa sm m0 l0 i m fp l
theorem names_at {vs : List Value} (h : Strs vs ["P", "A", "B", "C"]) {i : Nat} (hi : i < 4) : ∃ t, vs[i]? = some (.str (nameAt i) t) := by
  cases h with | cons h => cases h with | cons h => cases h with | cons h => cases h with | cons h => cases h with | nil =>
    have : i = 0 ∨ i = 1 ∨ i = 2 ∨ i = 3 := by lia
    rcases this with rfl | rfl | rfl | rfl <;> exact ⟨_, rfl⟩
inductive LawK (G : Gl) (aI aK cl fa sn sw bn : Addr) (qual : Str) (sm : Int) (m0 : Str → Option Value) (l0 : Led) (i : Nat) (m : Str → Option Value) (fp l : Led) : Prop
  | mk (oI oK : Obj) (vI vK : Option Value) (ps : Array Value) (n' : Int) (σ : Bk) (fpF fpB : Led) (e : fp = (aI, oI) :: (aK, oK) :: (932, tabObj ps) :: (fpF ++ fpB)) (eI : oI.data = .cell vI) (eK : oK.data = .cell vK) (T : TabSt l qual ps) (F : FeedSt G.w cl fa n' sm fpF) (h0 : 0 ≤ n') (h1 : n' ≤ 100 + 34 * (i : Int)) (hB : BankSt G.w sn sw bn σ fpB) (s : Sub l0 l) (hm : ∀ y : Str, y ≠ "lap" → y ≠ "due" → y ≠ "table" → m y = m0 y) : LawK G aI aK cl fa sn sw bn qual sm m0 l0 i m fp l
theorem permK {α : Type} {a b c : α} {F B : List α} : (a :: b :: c :: (F ++ B)).Perm ((a :: b :: c :: B) ++ F) := List.perm_append_comm.append_left [a, b, c]
theorem law_ok {G : Gl} {sa : Addr} {vs : List Value} {ns : List Int} {h : Heap} {g : Array GenState} {dr : Drawn} {os : OsState} {tk : Nat} {Q : Value → Shared → Prop} {E : Value → Shared → Prop} (hC : CodeHd G.h₀ 934 932) (hs : G.h₀.IsList sa vs.toArray) (hi : IntsAre vs ns) (hn : ns.length ≤ 63) (S : Has G.h₀ h [(932, tabObj #[])] [] ([] ++ []))
    (hQ : ∀ fp' l' h' tk, Has G.h₀ h' fp' [] ([] ++ l') → (∃ ps, (932, tabObj ps) ∈ fp') → Q (.bool true) ⟨h', g, dr, tk, os⟩) : wpAny G.M callerA (call (.ref 935) [.ref sa]) Q E ⟨h, g, dr, tk, os⟩ := by
  refine entT (binds := [("script", .ref sa)]) (P := fun v fp' ω => v = .bool true ∧ ∃ ps, (932, tabObj ps) ∈ fp') (by k_is) (by k_is) (by exact fun n => pw4 n) S (fun c h cells V hfs hcd hcn W HC R => ?_) (fun v fp' l' h' tk e H => by obtain ⟨rfl, e⟩ := e; exact hQ fp' l' h' tk H e)
  obtain ⟨oR, oK, oI, oW, rfl, dR, dK, dI, dW⟩ := cells_four HC
  clear HC S
  replace W := (show At c _ [(c.L + 1 + 1 + 1 + 1, oR), (c.L + 1 + 1 + 1, oK), (c.L + 1 + 1, oI), (c.L + 1, oW), (932, tabObj #[])] _ _ from W)
  have lR := look_of (c := c) (y := "reader") (a := c.L + 1 + 1 + 1 + 1) rfl
  have lK := look_of (c := c) (y := "known") (a := c.L + 1 + 1 + 1) rfl
  have lI := look_of (c := c) (y := "item") (a := c.L + 1 + 1) rfl
  have lW := look_of (c := c) (y := "world") (a := c.L + 1) rfl
  generalize eR : c.L + 1 + 1 + 1 + 1 = aR at W lR
  generalize eK : c.L + 1 + 1 + 1 = aK at W lK
  generalize eI : c.L + 1 + 1 = aI at W lI
  obtain ⟨aW, eW⟩ : ∃ a, c.L + 1 = a := ⟨_, rfl⟩
  replace lW := lW.trans (congrArg some eW)
  rw [eW] at W
  have hvl := hi.length
  have hsl : h.IsList sa vs.toArray := by obtain ⟨o, e, r⟩ := hs; exact ⟨o, W.F.keep _ _ e, r⟩
  refine run_compP (c := c) (by with_unfolding_all rfl) (ex_sub (Ev.ex (ev_loc W rfl) fun ω tk1 => wpAny_Slice (evalPart_none_step (evalPart_some_step (wpAny_Constant_int (evalPart_none_step (cutL_is W hsl (by decide) (by lia) fun D h1 W1 => cmp_pure_set V W1 List.mem_cons_self (by simp; lia) (Inv := fun i ys => IntsAre ys ((ns.take 60).take i)) .nil ?_ ?_ ?_)))))))
  · intro tk C i v h tk2 mC ys Kk hv hInv hnC Fh Nh hCL hC0 hlC k
    obtain ⟨k0, t0, rfl, hk0⟩ : ∃ k0 t0, v = .int k0 t0 ∧ (ns.take 60)[i]? = some k0 := ints_get (hi.take 60) hv
    refine comp_assign1 (s := c.S h tk2) hnC rfl rfl fun h' tk' kk nn => ?_
    refine wpAny_tests_nil ?_
    rw [if_pos rfl]
    refine Call_ (ce_B (fr_comp Fh hCL hC0 kk) (by k_is) rfl (PyProof.Rows.callWith_type1 (T := "int") (ce_args (ce_loc (v := .int k0 t0) nn (if_pos rfl)) fun ω tk3 => args_nil (call_int_int (k (some _) h' _ _ (ints_snoc hInv hk0) kk nn))) rfl rfl)) call_name
  · intro i v s Q E hv hit q
    unfold letOwnedTupleGo
    exact wpAny_pure q
  intro cl ys h2 kc hI _ W2
  have hcl : CellsIn ((cl, listOf ys.toArray kc) :: [(D, listOf (vs.take (Int.toNat 60)).toArray 0)]) cl := ⟨ys, _, kc, #[], none, List.mem_cons_self, hI, by simp; lia⟩
  have hyl := hI.length
  clear hs hsl hvl
  refine run_setX (ex_dictlit W2 fun fa fo h3 lo hd W3 => ps_ev (ev_loc W3 rfl) fun t0 u0 => ps_ev ev_int fun t1 u1 => ps_ex fun t2 => call_B W3 (by k_is) rfl (ex_compP (c := c) (by with_unfolding_all rfl) (Ev.ex (ev_loc W3 rfl) fun ω => cmp_pure V W3 List.mem_cons_self (by simp at hyl; lia) (Inv := fun i ys => ∃ ks : List Int, ks.length = i ∧ IntsAre ys ks) ⟨[], rfl, .nil⟩ ?_ ?_ ?_)))
  · intro tk C i v h tk2 mC zs Kk hv hInv hnC Fh Nh hCL hC0 hlC k
    obtain ⟨k0, t0, rfl, _⟩ := ints_get hI hv
    obtain ⟨ks, hks, hz⟩ := hInv
    refine comp_assign1 (s := c.S h tk2) hnC rfl rfl fun h' tk' kk nn => ?_
    refine wpAny_tests_nil ?_
    rw [if_pos rfl]
    refine wpAny_BinOp (Call_ (ce_B (fr_comp Fh hCL hC0 kk) (by k_is) rfl (PyProof.Rows.callWith_builtin1 (ce_args (ce_loc (v := .int k0 t0) nn (if_pos rfl)) fun ω tk3 => args_nil (call_abs_int fun u tk4 => wpAny_Constant_int (mod_int (by decide) (k (some (.int _ _)) h' _ _ ⟨ks ++ [_], by simp [hks], hz.append (.cons _ _ .nil)⟩ kk nn)))) rfl rfl)) call_name)
  · intro i v s Q E hv hit q
    unfold letOwnedTupleGo
    exact wpAny_pure q
  intro D2 zs h4 k4 hI4 _ W4 tk4
  obtain ⟨ks, hkl, hks⟩ := hI4
  refine LSm.sum_ints (s := c.S h4 tk4) W4.F W4.N V.hh (News.isList W4.N (W4.inl List.mem_cons_self)) hks fun h5 tk5 t5 F5 N5 => ?_
  have W5 : At c _ _ _ h5 := ⟨F5, N5, W4.Z, W4.G⟩
  refine Ps.go (ps_nil fun tk6 => ?_) tk5
  refine dict_made_at W5 .head hd fun fo h6 hd6 W6 tk7 => ?_
  refine store_run W6 fun h7 W7 => ?_
  have F0 : FeedSt G.w cl fa 0 ks.sum [(fa, fo)] := FeedSt.of hd6
  clear F5 N5 W5 W4 hks hkl hd hyl W3 hd6 W2
  refine run_setX (call0 W7 (by k_is) (by k_is) (make_any V W7 (by k_is) (by k_is) (by k_is) (fun x dx ω => termbank_init_ok) ?_ (by decide)))
  intro ba dxb es n sn sw bn ob b0 b1 b2 c0 c1 c2 l8 BD hob lob hxb
  refine ⟨rfl, fun h8 W8 tk8 => store_run W8 fun h9 W9 => ?_⟩
  have W10 := ((show At c _ ([(bn, ob), (sn, _), (sw, _)] ++ (dxb, dictOf es n) :: ((fa, fo) :: [(aR, oR), (aK, oK), (aI, oI), (aW, oW), (932, tabObj #[])])) _ h9 from W9).perm List.perm_middle).settle
  have B : BankAt ((dxb, dictOf es n) :: (l8 ++ [(D2, listOf zs.toArray k4), (cl, listOf ys.toArray kc), (D, listOf (vs.take (Int.toNat 60)).toArray 0)])) ba sn sw bn := ⟨⟨dxb, es, n, List.mem_cons_of_mem _ (List.mem_append_left _ hxb), List.mem_cons_self, BD.g1, BD.g2, BD.g3, BD.g4, BD.g5, BD.g6, BD.g7⟩, lob⟩
  replace hcl := hcl.mono (show Sub _ ((dxb, dictOf es n) :: (l8 ++ [(D2, listOf zs.toArray k4), (cl, listOf ys.toArray kc), (D, listOf (vs.take (Int.toNat 60)).toArray 0)])) from fun q hq => List.mem_cons_of_mem _ (List.mem_append_right _ (List.mem_cons_of_mem _ hq)))
  generalize hl10 : (dxb, dictOf es n) :: (l8 ++ [(D2, listOf zs.toArray k4), (cl, listOf ys.toArray kc), (D, listOf (vs.take (Int.toNat 60)).toArray 0)]) = l10 at B hcl W10
  clear hl10 W9 W8 W7 BD hxb hI hi hn
  refine run_setX (ex_dictlit W10 fun wa ow h11 low hdw W11 => ps_ev (ev_loc W11 rfl) fun t0 u0 => ps_ex fun t1 => call_K W11 (by k_is) (by k_is) (xs_ev (ev_loc W11 rfl) fun ω => xs_nil fun tk => ⟨W11.K, make_any V W11 (by k_is) (by k_is) (by k_is) (fun x dx ω => symbols_init_ok) ?_ (by decide) tk⟩))
  intro sya dxs es2 n2 so oso br l12 hso loso g1 g2 g3 g4 g5 g6 ssub
  refine ⟨rfl, fun h12 W12 tk12 => ?_⟩
  refine Ps.go (ps_ex fun t2 => ex_list (xs_nil fun tk => newListF_at W12 (sz_le rfl) fun rwa h13 W13 tk13 => ?_)) tk12
  refine Ps.go (ps_ex fun t3 => ex_dict W13 fun dca dco h14 lo14 hd14 W14 tk14 => ?_) tk13
  refine Ps.go (ps_nil fun tk15 => ?_) tk14
  refine dict_made_at W14 (.tail (.tail (.tail (.tail (.tail .head))))) hdw fun ow' h15 hdw' W15 tk16 => ?_
  refine cell_at W15 (.tail (.tail (.tail (.tail (.tail (.tail (.tail (.tail (.tail (.tail (.tail (.tail (.tail .head))))))))))))) lW dW fun oW' h16 dW' W16 tk17 => (show Run c c.Q h16 _ from ?_).go tk17
  have W17 := (((W16.perm perm15).settle).settle).settle
  have hw : WldIn G.w ((dxs, dictOf es2 n2) :: (aW, oW') :: (wa, ow') :: (l12 ++ l10)) wa ba sya rwa dca := ⟨ow', by simp, hdw', low⟩
  have Sy : SymAt ((dxs, dictOf es2 n2) :: (aW, oW') :: (wa, ow') :: (l12 ++ l10)) sya dxs so br ba := ⟨⟨es2, n2, List.mem_cons_of_mem _ (List.mem_cons_of_mem _ (List.mem_cons_of_mem _ (List.mem_append_left _ (ssub _ List.mem_cons_self)))), List.mem_cons_self, g1, g2, g3, g4, g5, g6⟩, loso⟩
  have CW : Cel c ((dxs, dictOf es2 n2) :: (aW, oW') :: (wa, ow') :: (l12 ++ l10)) "world" (.ref wa) := ⟨aW, oW', lW, by simp, dW'⟩
  have up17 : Sub l10 ((dxs, dictOf es2 n2) :: (aW, oW') :: (wa, ow') :: (l12 ++ l10)) := Sub.cons (Sub.cons (Sub.cons fun q hq => List.mem_append_right _ hq))
  replace B := B.mono up17
  replace hcl := hcl.mono up17
  generalize hl17 : (dxs, dictOf es2 n2) :: (aW, oW') :: (wa, ow') :: (l12 ++ l10) = l17 at hw Sy CW B hcl W17
  clear hl17 up17 W16 W15 W14 W13 W12 W11 W10 g1 g2 g3 g4 g5 g6 ssub dW' hdw hdw' low
  refine run_setX (ex_strs W17 (sxs_cons (sxs_cons (sxs_cons (sxs_cons sxs_nil)))) (by decide) fun nl vns h18 hns W18 tk18 => store_run W18 fun h19 W19 => ?_)
  have up19 : Sub l17 ((nl, listOf vns.toArray 0) :: l17) := Sub.cons (Sub.refl l17)
  refine run_for (call_T W19 (by k_is) rfl (ex_bin (Ev.ex ev_int fun t0 tk0 => (call2 W19 (by k_is) (by k_is) (ev_loc W19 rfl) ev_int fun ω ω => useF (f1 := [(932, _), (aR, oR), (aK, oK), (aI, oI), (bn, ob), (so, oso), (br, _), (sn, _), (sw, _), (dca, dco), (rwa, _)]) (f2 := [(fa, fo)]) V W19 (draw_ok F0 (hcl.mono up19) (by lia) (by decide)) ?_).go tk0)))
  intro r u fp20 F1 r0 r1 h20 _ W20 tk20
  refine add_int_at fun t1 tk21 => range_at W20 fun Rg h21 q1 q2 q3 hrg W21 tk22 => ?_
  refine rng_loop (J := LawJ G [(932, tabObj #[]), (aR, oR), (aK, oK), (aI, oI), (bn, ob)] cl fa so br sn sw dca rwa ks.sum _ ((nl, listOf vns.toArray 0) :: l17)) (cnt := (1 + r).toNat) V W21 hrg (by lia) (by lia) ⟨0 + 1, oso, _, _, _, _, dco, [], 0, [], [], [0, 0, 0], [], fun ω => none, fp20, rfl, F1, by lia, by lia, hso, rfl, ⟨⟨_, _, rfl, rfl⟩, ⟨_, _, rfl, .cons _ _ (.cons _ _ (.cons _ _ .nil))⟩⟩, hd14, brOk0, rfl, Sub.refl _, fun ω ω => rfl⟩ ?_ ?_
  · rintro i t m1 _ l1 h1 c' QT hi ⟨n', oso, ab, kb, on, ow, od, vs, kk, kvs, dvs, ws, tab, dn, fpF, rfl, F, z1, z2, hD, hab, O, hDe, Br, rfl, sl, hm⟩ LK END W1
    obtain ⟨tn, hnx⟩ := names_at hns (i := tab.length) (by lia)
    have sl' := up19.trans sl
    refine exec_expr (call_K W1 (by k_is) (by k_is) (xs_ev (ev_loc W1 ((up_ne (by decide)).trans ((hm _ (by decide)).trans rfl))) fun ω => xs_ev (ev_cell W1 (LK.cel (CW.mono sl'))) fun ω => xs_ev (ev_itemL W1 (ev_loc W1 ((up_ne (by decide)).trans ((hm _ (by decide)).trans rfl))) (ev_locT (f := fun t => .int (tab.length : Int) t) W1 rfl) (W1.inl (sl _ List.mem_cons_self)) (by lia) (by lia) hnx) fun ω => xs_nil fun tk => ⟨W1.K, useF (f1 := [(932, tabObj #[]), (aR, oR), (aK, oK), (aI, oI), (bn, ob)]) (f2 := brF so br sn sw dca rwa oso on ow od ab kb vs kk ++ fpF) (LK.live V) W1 (brought_ok (hw.mono sl') (Sy.mono sl') (B.mono sl') (hcl.mono sl') F hD hab O hDe Br (by lia) rfl (by lia)) ?_ (by decide) tk⟩))
    intro n2 oso2 ab2 kb2 on2 ow2 od2 vs2 kk2 kvs2 dvs2 ws2 tab2 dn2 fp2 l2 F2 y1 y2 hD2 hab2 O2 hDe2 Br2 ht2 s2 h2 s2' W2 tk2
    exact (END ⟨n2, oso2, ab2, kb2, on2, ow2, od2, vs2, kk2, kvs2, dvs2, ws2, tab2, dn2, fp2, rfl, F2, by lia, by lia, hD2, hab2, O2, hDe2, Br2, ht2, sl.trans s2, fun y hy => (up_ne hy).trans (hm y hy)⟩ W2).go tk2
  · rintro m2 _ l22 h22 ⟨n', oso, ab, kb, on, ow, od, vs, kk, kvs, dvs, ws, tab, dn, fpF, rfl, F, z1, z2, hD, hab, O, hDe, Br, ht, sl, hm⟩ W22
    have W23 := ((((W22.perm perm11).settle).settle).settle).settle
    have sl' := up19.trans sl
    have hwl := Br.wl
    have hw3 := Br.w3
    have up23 : Sub l22 ((rwa, listOf vs.toArray kk) :: (dca, od) :: (br, listOf ab kb) :: (so, oso) :: l22) := Sub.cons (Sub.cons (Sub.cons (Sub.cons (Sub.refl l22))))
    have ht4 : 1 ≤ tab.length ∧ tab.length ≤ 4 := by lia
    have hB := bankSt0 (G := G) (sn := sn) (sw := sw) (bn := bn) O hob (by lia) hw3
    have hrow : RowsIn ((rwa, listOf vs.toArray kk) :: (dca, od) :: (br, listOf ab kb) :: (so, oso) :: l22) rwa tab := ⟨vs, kk, List.mem_cons_self, Br.ra.mono up23⟩
    have hdec : DeclIn G.w ((rwa, listOf vs.toArray kk) :: (dca, od) :: (br, listOf ab kb) :: (so, oso) :: l22) dca dn := ⟨od, dvs, by simp, hDe, lo14, Br.de⟩
    have hso2 : (so, oso) ∈ (rwa, listOf vs.toArray kk) :: (dca, od) :: (br, listOf ab kb) :: (so, oso) :: l22 := by simp
    replace hw := hw.mono (sl'.trans up23)
    replace Sy := Sy.mono (sl'.trans up23)
    replace B := B.mono (sl'.trans up23)
    replace hcl := hcl.mono (sl'.trans up23)
    replace CW := CW.mono (sl'.trans up23)
    replace Br := Br.mono up23
    generalize hl23 : (rwa, listOf vs.toArray kk) :: (dca, od) :: (br, listOf ab kb) :: (so, oso) :: l22 = l23 at hw Sy B hcl CW hrow hdec hso2 Br W23
    clear hl23 up23 W22 W21 W20 W19 W18 W17 sl sl' hwl hw3 up19 hns hrg
    refine hw.out fun owd w1 w2 => ?_
    refine run_setX (call_K W23 (by k_is) (by k_is) (xs_ev (ev_loc W23 ((hm _ (by decide)).trans rfl)) fun ω => xs_ev (ev_dictS W23 (ev_cell W23 CW) ev_str (W23.inl w1) w2 (v := .ref sya) rfl) fun ω => xs_nil fun tk => ⟨W23.K, make_any V W23 (by k_is) (by k_is) (by k_is) (fun x dx ω => reader_init_ok) ?_ (by decide) tk⟩))
    intro ra dxr u1 u2 n25 _
    refine ⟨rfl, fun h25 W25 tk25 => ?_⟩
    refine cell_at W25 (.tail .head) lR dR fun oR' h26 dR' W26 tk26 => (show Run c c.Q h26 _ from ?_).go tk26
    have W27 := (W26.settle).settle
    have up27 : Sub l23 ((aR, oR') :: (dxr, dictOf (putE G "symbols" u2 (.ref sya) (putE G "bank" u1 (.ref ba) [])) n25) :: ([(ra, instObj 850 dxr)] ++ l23)) := Sub.cons (Sub.cons (Sub.cons (Sub.refl l23)))
    have Rd : Rdr G.w ((aR, oR') :: (dxr, dictOf (putE G "symbols" u2 (.ref sya) (putE G "bank" u1 (.ref ba) [])) n25) :: ([(ra, instObj 850 dxr)] ++ l23)) ra ba sya so sn sw bn tab dn := by
      obtain ⟨⟨e3, n3, y1, y2, _, y4, _⟩, lo3⟩ := Sy
      exact ⟨B.mono up27, ⟨dxr, _, _, List.mem_cons_of_mem _ (List.mem_cons_of_mem _ List.mem_cons_self), List.mem_cons_of_mem _ List.mem_cons_self, rfl, rfl, rfl, rfl, rfl, rfl, rfl⟩, ⟨dxs, e3, n3, up27 _ y1, up27 _ y2, y4⟩, ⟨oso, kvs, up27 _ hso2, hD, lo3, Br.so.mono up27⟩⟩
    have CR : Cel c ((aR, oR') :: (dxr, dictOf (putE G "symbols" u2 (.ref sya) (putE G "bank" u1 (.ref ba) [])) n25) :: ([(ra, instObj 850 dxr)] ++ l23)) "reader" (.ref ra) := ⟨_, oR', lR, List.mem_cons_self, dR'⟩
    replace hw := hw.mono up27
    replace B := B.mono up27
    replace hcl := hcl.mono up27
    replace CW := CW.mono up27
    replace hrow := hrow.mono up27
    replace hdec := hdec.mono up27
    have hok := Br.ok
    have hdr := Br.dr
    have hstd := Br.std
    have hRm : (aR, oR') ∈ (aR, oR') :: (dxr, dictOf (putE G "symbols" u2 (.ref sya) (putE G "bank" u1 (.ref ba) [])) n25) :: ([(ra, instObj 850 dxr)] ++ l23) := List.mem_cons_self
    generalize hl27 : (aR, oR') :: (dxr, dictOf (putE G "symbols" u2 (.ref sya) (putE G "bank" u1 (.ref ba) [])) n25) :: ([(ra, instObj 850 dxr)] ++ l23) = l27 at hw B hcl CW CR hrow hdec Rd hRm W27
    clear hl27 up27 W26 W25 W23 Sy hso2 Br w1 w2
    refine run_for (call_T W27 (by k_is) rfl (Ev.ex ev_int fun t0 tk0 => range_at W27 fun Rg h28 q1 q2 q3 hrg W28 tk28 => ?_))
    refine rng_loop (J := LawK G (aI) (aK) cl fa sn sw bn (c.env.qual ++ "<lambda>") ks.sum m2 l27) (cnt := 2) V W28 hrg rfl (by lia) ⟨oI, oK, _, _, #[], n', _, fpF, _, rfl, dI, dK, .nil, F, z1, by lia, hB, Sub.refl _, fun ω ω ω ω => rfl⟩ ?_ ?_
    · clear hrg W28 W27 hB F z2 z1 dI dK
      rintro i t m1 _ l1 h1 c' QT hi ⟨oI, oK, vI, vK, ps, n', σ, fpF, fpB, rfl, dI, dK, T, F, z1, z2, hB, sl, hm1⟩ LK END W1
      have c1 : cost 2 = 34 := rfl
      have hfs' := LK.fs.trans hfs
      replace V := LK.live V
      replace CW := LK.cel CW
      replace hcd := LK.cd.trans hcd
      replace lI := LK.look lI
      replace lK := LK.look lK
      have hq := congrArg Env.qual LK.env
      rw [← hq] at T
      have W2 := W1.perm permK
      refine run_setX (call3 W2 (by k_is) (by k_is) (ev_loc W2 ((up_ne (by decide)).trans ((hm1 _ (by decide) (by decide) (by decide)).trans ((hm _ (by decide)).trans rfl)))) (ev_cell W2 (CW.mono sl)) ev_int fun ω ω ω => useF V W2 (item_ok 2 F (hcl.mono sl) (hw.mono sl) (hrow.mono sl) hok ht4.1 (by lia)) ?_)
      intro v n3 it fpF3 l3 F3 y1 y2 hi3 ho3 s3 h3 _ W3 tk3
      refine cell_at W3 .head lI dI fun oI' h4 eI' W4 tk4 => (show Run c' _ h4 _ from ?_).go tk4
      have W5 := W4.perm (permK (a := (aI, oI')) (b := (aK, oK)) (c := (932, tabObj ps)) (F := fpF3) (B := fpB)).symm
      have s5 := sl.trans s3
      obtain ⟨g1, res1, a1, a2, a3⟩ := (agree hok tab.length 4 it (fun ω => none) ho3 (Nat.le_refl _) (fun x g h => nomatch h)).mono (show 4 * tab.length + 4 ≤ 20 by lia)
      rw [show itK (fun ω => none) = fun ω => none from rfl, put_none 4 it ho3.deep] at a2
      refine run_setX (call_K W5 (by k_is) (by k_is) (xs_ev (ev_cell W5 (CW.mono s5)) fun ω => xs_ex (call2 W5 (by k_is) (by k_is) (ev_cellF W5 lI (.head _) eI') (ev_cell W5 (CW.mono s5)) fun ω ω => useO V W5 (ground_ok 20 (a2 20 (Nat.le_refl _)) (hw.mono s5) (hrow.mono s5) hok hi3) exs_no trivial ?_)))
      intro r l6 hr6 s6 h6 _ W6 tk6
      have s7 := s5.trans s6
      refine args_nil ⟨W6.K, useF (f1 := (aI, oI') :: (aK, oK) :: (932, tabObj ps) :: fpF3) (f2 := fpB) V W6 (number_ok (hw.mono s7) (hdec.mono s7) (B.mono s7) hr6 (grd_ok a3) hdr hstd hB) ?_ (by decide) tk6⟩
      intro r7 σ7 fp7 l7 hB7 hle7 hn7 s8 h7 _ W7 tk7
      refine store_run W7 fun h8 W8 => ?_
      have s9 := s7.trans s8
      refine run_ifX (tex_or_s (tex_cmp (call_K W8 (by k_is) (by k_is) (xs_ex (ex_lambda W8 (.tail (.tail .head)) hC hcd (T.mono (s3.trans (s6.trans s8))) (clos := [("reader", aR), ("item", aI)]) (hcl := by rw [LK.env, ← eR, ← eI]; with_unfolding_all rfl) fun la c1 pm ctv oc vs1 tq ps1 l9 h9 hla hc1 d1 d2 T9 s10 W9 tk9 => args_nil ⟨W9.K, ?_⟩)))))
      have W10 := W9.settle
      have s11 := s9.trans s10
      have hi9 := hi3.mono (s6.trans (s8.trans s10))
      refine useS0 (f1 := (aK, oK) :: (932, tabObj ps1) :: fpF3) (f2 := fp7) hfs' V W10 (read_alike (List.mem_cons_of_mem _ hla) (lam_item (List.mem_cons_of_mem _ hla) (List.mem_cons_of_mem _ hc1) d1 d2 ⟨_, _, rfl, List.mem_cons_of_mem _ (s11 _ hRm), dR'⟩ ⟨_, _, rfl, List.mem_cons_self, eI'⟩ (a1 20 (Nat.le_refl _)) (Rd.mono (s11.trans (Sub.cons (Sub.refl _)))) (hi9.mono (Sub.cons (Sub.refl _))) hB7) a3 hn7) ?_ (by decide) tk9
      intro a σ9 fp9 l10 hB9 hle9 hAl h10 s12 W11 tk10
      have W12 := W9.unsettle W11 (s12 _ List.mem_cons_self)
      have s13 := W9.subless s12
      refine (ev_loc W12 rfl).run fun ω tk11 => ne_alike hAl ⟨rfl, fun whole => ?_⟩
      clear hAl
      have hn9 := hn7.up hle9
      refine TeX.go (tex_or_l (tex_cmp (call_K W12 (by k_is) (by k_is) (xs_ex (ex_lambda W12 (.tail (.tail .head)) hC hcd (T9.mono s13) (clos := [("reader", aR), ("item", aI)]) (hcl := by rw [LK.env, ← eR, ← eI]; with_unfolding_all rfl) fun la2 c2 pm2 ctv2 oc2 vs2 tq2 ps2 l13 h13 hla2 hc2 d3 d4 T13 s14 W13 tk13 => args_nil ⟨W13.K, ?_⟩))))) whole tk11
      have W14 := W13.settle
      have s15 := s11.trans (s13.trans s14)
      have hi13 := hi9.mono (s13.trans s14)
      refine useS0 (f1 := (aK, oK) :: (932, tabObj ps2) :: fpF3) (f2 := fp9) hfs' V W14 (read_alike (List.mem_cons_of_mem _ hla2) (lam_empty (List.mem_cons_of_mem _ hla2) (List.mem_cons_of_mem _ hc2) d3 d4 ⟨_, _, rfl, List.mem_cons_of_mem _ (s15 _ hRm), dR'⟩ ⟨_, _, rfl, List.mem_cons_self, eI'⟩ (a1 20 (Nat.le_refl _)) (Rd.mono (s15.trans (Sub.cons (Sub.refl _)))) (hi13.mono (Sub.cons (Sub.refl _))) hB9) a3 hn9) ?_ (by decide) tk13
      intro a' σ14 fp14 l14 hB14 hle14 hAl2 h14 s16 W15 tk14
      have W16 := W13.unsettle W15 (s16 _ List.mem_cons_self)
      have s17 := s15.trans (W13.subless s16)
      have hi16 := hi13.mono (W13.subless s16)
      have T16 := T13.mono (W13.subless s16)
      refine (ev_loc W16 rfl).run fun ω tk15 => ne_alike hAl2 ⟨rfl, if_run (b := false) (fun z => by cases z) fun ω => ?_⟩
      clear hAl2 W15 W14 W13 W12 W11 W10 W9 W8 W7 W6 hn9 hn7 hr6 T13 T9 hla hc1 d1 d2 hla2 hc2 d3 d4 hi13 hi9 s15 s16 s13 s14 s12 s11 s10 a1 a2 a3 hB9 hB7 hB
      generalize drop (aI, oI').fst l14 = l16 at W16 s17 hi16 T16
      refine B.out fun dxb2 es2b nb b1 b2 ω ω ω bq ω ω ω => ?_
      refine run_setX (ex_dictlit W16 fun D o2 h17 lo2 hd2 W17 => ps_ex fun t1 => call1 W17 (by k_is) (by k_is) ev_int fun t2 tk17 => useO V W17 bits_ok exs_no trivial ?_ (by decide) tk17)
      intro v1 l18 hv1 s18 h18 _ W18 tk18
      refine Ps.go (ps_ex fun t3 => IX.ex W18 (ix_sym W18 ev_str (by decide)) fun v2 l19 h19 hv2 s19 W19 tk19 => ?_) tk18
      refine Ps.go (ps_nil fun tk20 => ?_) tk19
      refine dict_made_at W19 .head hd2 fun o3 h20 hd3 W20 tk21 => ?_
      refine store_run W20 fun h21 W21 => ?_
      have W22 := W21.settle
      have TI : TabIn G.w ((D, o3) :: l19) D (itK kap) := tab_kap List.mem_cons_self lo2 hd3 (hv1.mono (s19.trans (Sub.cons (Sub.refl _)))) (hv2.mono (Sub.cons (Sub.refl _)))
      have u22 : Sub l16 ((D, o3) :: l19) := (s18.trans s19).trans (Sub.cons (Sub.refl l19))
      replace s17 := s17.trans u22
      replace hi16 := hi16.mono u22
      replace T16 := T16.mono u22
      clear W21 W20 W19 W18 W17 W16 u22 s18 s19 hv1 hv2 hd2 hd3
      refine run_setX (ex_dictlit W22 fun Dk ok h23 lok hdk W23 => ps_ex fun t1 => meth_inst W23 (ev_loc W23 ((up_ne (by decide)).trans ((up_ne (by decide)).trans ((up_ne (by decide)).trans ((hm1 _ (by decide) (by decide) (by decide)).trans ((hm _ (by decide)).trans rfl)))))) (s17 _ b1) (s17 _ b2) bq (by k_is) (by k_is) (by k_is) (by k_is) (xs_ev ev_int fun t2 => xs_nil fun tk => ⟨W23.K, useF (f1 := (Dk, ok) :: (aI, oI') :: (aK, oK) :: (932, tabObj ps2) :: fpF3) (f2 := fp14) V W23 (bv_sort_no (B.mono s17) hB14 (by decide) (by decide)) ?_ (by decide) tk⟩))
      intro σ24 i24 t24 fp24 hB24 hle24 hbits h24 _ W24 tk24
      refine Ps.go (ps_ev ev_int fun t4 t5 => ps_nil fun tk25 => ?_) tk24
      refine dict_made_at W24 .head hdk fun ok' h25 hdk' W25 tk26 => ?_
      refine cell_at W25 (.tail (.tail .head)) lK dK fun oK' h26 eK' W26 tk27 => (show Run c' _ h26 _ from ?_).go tk27
      have W27 := W26.settle
      have KN : KnownIn G.w ((Dk, ok') :: (D, o3) :: l19) σ24 dn Dk kap := known_kap List.mem_cons_self lok hdk' hbits
      have u27 : Sub ((D, o3) :: l19) ((Dk, ok') :: (D, o3) :: l19) := Sub.cons (Sub.refl _)
      replace s17 := s17.trans u27
      replace hi16 := hi16.mono u27
      replace T16 := T16.mono u27
      replace TI := TI.mono u27
      have hDk : (Dk, ok') ∈ (Dk, ok') :: (D, o3) :: l19 := List.mem_cons_self
      generalize (Dk, ok') :: (D, o3) :: l19 = l27 at W27 KN s17 hi16 T16 TI hDk
      clear u27 W26 W25 W24 W23 W22 hdk hB14
      obtain ⟨g2, res2, a4, a5, a6⟩ := (agree hok tab.length 4 it kap ho3 (Nat.le_refl _) (kap_good tab)).mono (show 4 * tab.length + 4 ≤ 20 by lia)
      refine run_setX (call_K W27 (by k_is) (by k_is) (xs_ev (ev_cell W27 (CW.mono s17)) fun ω => xs_ex (call_K W27 (by k_is) (by k_is) (xs_ex (call2 W27 (by k_is) (by k_is) (ev_cellF W27 lI (.head _) eI') (ev_loc W27 rfl) fun ω ω => useO V W27 (put_ok 4 TI hi16 ho3.deep) exs_no trivial ?_)))))
      intro r28 l28 hr28 s28 h28 _ W28 tk28
      have s28' := s17.trans s28
      refine args_ev (ev_cell W28 (CW.mono s28')) fun ω => xs_nil fun tk29 => ⟨W28.K, useO V W28 (ground_ok 20 (a5 20 (Nat.le_refl _)) (hw.mono s28') (hrow.mono s28') hok hr28) exs_no trivial ?_ (by decide) tk29⟩
      intro r30 l30 hr30 s30 h30 _ W30 tk30
      have s30' := s28'.trans s30
      refine args_nil ⟨W30.K, useF (f1 := (aI, oI') :: (aK, oK') :: (932, tabObj ps2) :: fpF3) (f2 := fp24) V W30 (number_ok (hw.mono s30') (hdec.mono s30') (B.mono s30') hr30 (grd_ok a6) hdr hstd hB24) ?_ (by decide) tk30⟩
      intro r31 σ31 fp31 l31 hB31 hle31 hn31 s31 h31 _ W31 tk31
      refine store_run W31 fun h32 W32 => ?_
      have u32 : Sub l27 l31 := s28.trans (s30.trans s31)
      replace s17 := s17.trans u32
      replace hi16 := hi16.mono u32
      replace T16 := T16.mono u32
      replace KN := KN.up u32 hle31
      replace hDk := u32 _ hDk
      clear W31 W30 W28 W27 u32 s31 s30 s30' s28 s28' hr30 hr28 TI a5
      refine run_ifX (tex_or_s (tex_cmp (call_K W32 (by k_is) (by k_is) (xs_ex (ex_lambda W32 (.tail (.tail .head)) hC hcd T16 (clos := [("reader", aR), ("known", aK), ("item", aI)]) (hcl := by rw [LK.env, ← eR, ← eI, ← eK]; with_unfolding_all rfl) fun la c1 pm ctv oc vs1 tq ps3 l33 h33 hla hc1 d1 d2 T33 s33 W33 tk33 => args_nil ⟨W33.K, ?_⟩)))))
      have W34 := W33.settle
      have W35 := W34.settle
      have u35 : Sub l33 ((aK, oK') :: (aI, oI') :: l33) := Sub.cons (Sub.cons (Sub.refl l33))
      have s35 := s17.trans s33
      refine useS0 (f1 := (932, tabObj ps3) :: fpF3) (f2 := fp31) hfs' V W35 (read_alike (u35 _ hla) (lam_known (u35 _ hla) (u35 _ hc1) d1 d2 ⟨_, _, rfl, u35 _ (s35 _ hRm), dR'⟩ ⟨_, _, rfl, List.mem_cons_of_mem _ List.mem_cons_self, eI'⟩ ⟨_, _, rfl, List.mem_cons_self, eK'⟩ (a4 20 (Nat.le_refl _)) (Rd.mono (s35.trans u35)) (hi16.mono (s33.trans u35)) (KN.up (s33.trans u35) (.refl _)) hB31) a6 hn31) ?_ (by decide) tk33
      intro a σ36 fp36 l36 hB36 hle36 hAl h36 s36 W36 tk36
      have W37 := W34.unsettle W36 (s36 _ List.mem_cons_self)
      have s37 := W34.subless s36
      have W38 := W33.unsettle W37 (s37 _ List.mem_cons_self)
      have s38 := W33.subless s37
      refine (ev_loc W38 rfl).run fun ω tk38 => ne_alike hAl ⟨rfl, fun whole => ?_⟩
      have u38 := s33.trans s38
      replace s17 := s17.trans u38
      replace T33 := T33.mono s38
      replace hDk := u38 _ hDk
      clear hAl W37 W36 W35 W34 W33 W32 KN hla hc1 d1 d2 u38 u35 s35 s36 s37 s38 s33 hi16 a4 a6 hn31 hB31
      generalize drop (aI, oI').fst (drop (aK, oK').fst l36) = l38 at W38 T33 s17 hDk
      refine TeX.go (tex_or_l (tex_cmp (Ev.ex (ev_cellF W38 lK (.tail _ (.head _)) eK') fun ω tk39 => (ex_dictlit W38 fun D4 o4 h40 lo4 hd4 W40 => ps_ex fun t1 => meth_inst W40 (ev_loc W40 ((up_ne (by decide)).trans ((up_ne (by decide)).trans ((up_ne (by decide)).trans ((up_ne (by decide)).trans ((hm1 _ (by decide) (by decide) (by decide)).trans ((hm _ (by decide)).trans rfl))))))) (s17 _ b1) (s17 _ b2) bq (by k_is) (by k_is) (by k_is) (by k_is) (xs_ev ev_int fun t2 => xs_nil fun tk => ⟨W40.K, useF (f1 := (D4, o4) :: (aI, oI') :: (aK, oK') :: (932, tabObj ps3) :: fpF3) (f2 := fp36) V W40 (bv_sort_no (B.mono s17) hB36 (by decide) (by decide)) ?_ (by decide) tk⟩)).go tk39))) whole tk38
      intro σ41 i41 t41 fp41 hB41 hle41 hbits41 h41 _ W41 tk41
      refine Ps.go (ps_ev ev_int fun t4' t5' => ps_nil fun tk42 => ?_) tk41
      refine dict_made_at W41 .head hd4 fun o4' h43 hd4' W43 tk43 => ?_
      obtain rfl : i24 = i41 := (hle41.bits _ _ (hle36.bits _ _ (hle31.bits _ _ hbits))).uniq hbits41
      refine ne_dict2 (d := 199) V W43 (W43.inl hDk) (W43.inf List.mem_cons_self) hdk' hd4' lok lo4 (by decide) ⟨rfl, if_run (b := false) (fun z => by cases z) fun ω => ?_⟩
      exact END ⟨oI', oK', _, _, ps3, n3, σ41, fpF3, fp41, rfl, eI', eK', hq ▸ T33.mono (Sub.cons (Sub.refl _)), F3, by lia, by lia, hB41, s17.trans (Sub.cons (Sub.refl _)), fun y h1 h2 h3 => (up_ne h2).trans ((up_ne h3).trans ((up_ne h2).trans ((up_ne h1).trans (hm1 y h1 h2 h3))))⟩ W43.settle
    · rintro m3 _ l29 h29 ⟨oI, oK, vI, vK, ps, n', σ, fpF, fpB, rfl, eI, eK, T, F, z1, z2, hB, sl, hm1⟩ W29
      clear W28 W27 hrg eI eK dI dK
      have hfeed : m3 "feed" = some (.ref fa) := (hm1 _ (by decide) (by decide) (by decide)).trans ((hm _ (by decide)).trans rfl)
      have W30 := W29.perm permK
      refine run_setX (ex_list (xs_ex (ex_bin (Ev.ex ev_int fun t0 tk0 => (call2 W30 (by k_is) (by k_is) (ev_loc W30 hfeed) ev_int fun ω ω => useF V W30 (draw_ok F (hcl.mono sl) (by lia) (by decide)) ?_).go tk0))))
      intro r1 u1 fp31 F1 _ _ h31 _ W31 tk31
      refine add_int_at fun t2 tk32 => args_ex (ex_bin (call2 W31 (by k_is) (by k_is) (ev_loc W31 hfeed) ev_int fun ω ω => useF V W31 (draw_ok F1 (hcl.mono sl) (by lia) (by decide)) ?_))
      intro r2 u2 fp33 F2 _ _ h33 _ W33 tk33
      refine wpAny_Constant_int (sub_int_at fun t3 tk34 => args_nil (newList_at W33 (sz_le rfl) fun wl h35 W35 tk35 => store_run W35 fun h36 W36 => ?_))
      have W37 := W36.perm (permK (F := fp33) (B := fpB)).symm
      have s37 : Sub l27 ((wl, listOf [Value.int (4094 + r1) t2, Value.int (r2 - 2) t3].toArray 0) :: l29) := sl.trans (Sub.cons (Sub.refl l29))
      refine run_retX ⟨fun tk => wpAny_Compare1 ((ex_compP (c := c) (by with_unfolding_all rfl) (Ev.ex (ev_loc W37 rfl) fun ω => cmp_none (J := fun ω fp l => ∃ σ fpB, fp = ((aI, oI) :: (aK, oK) :: (932, tabObj ps) :: fp33) ++ fpB ∧ BankSt G.w sn sw bn σ fpB) V W37 List.mem_cons_self (by simp) ⟨σ, fpB, rfl, hB⟩ ?_ ?_)).go tk) rfl⟩
      · rintro i v C h' mC _ l' o s hv ⟨σ', fpB', rfl, hB'⟩ sl' hn hx W' Kk E' whole tk' kk
        have hfs' : (c.own o l' s).fs = [] := hfs
        obtain ⟨wd, tw, rfl⟩ : ∃ wd tw, v = .int wd tw := by
          match i, hv with
          | 0, hv => exact ⟨_, _, (Option.some.inj hv).symm⟩
          | 1, hv => exact ⟨_, _, (Option.some.inj hv).symm⟩
          | _ + 2, hv => exact absurd hv (by simp)
        have s38 := s37.trans sl'
        refine isTrue_not (wpAny_isTrue_value (ce_call (c := c.own o l' s) W'.F (by k_is) (by k_is) fun tk => ce_args (ce_cell (c := c.own o l' s) W'.N W'.sub (CW.mono s38)) fun ω tk => ce_args (ce_cell (c := c.own o l' s) W'.N W'.sub (CR.mono s38)) fun ω tk => ce_args (ce_loc (c := c.own o l' s) hn hx) fun ω tk => args_nil ⟨W'.K, useS0 (f1 := (aI, oI) :: (aK, oK) :: (932, tabObj ps) :: fp33) (f2 := fpB') hfs' V.own W' (width_right_ok (hw.mono s38) (Rd.mono s38) hB') ?_ (by decide) tk⟩))
        intro σ2 fp2 l2 hB2 _ h2 _ W2 tk2
        exact wpAny_truthy_bool (kk _ _ h2 _ ⟨σ2, fp2, rfl, hB2⟩ W2)
      · rintro D _ l38 h38 n38 ⟨σ38, fp38, rfl, _⟩ s38 W38 tk38
        refine (ex_list (xs_nil fun tk2 => newList_at W38 (sz_le rfl) fun D2 h39 W39 tk39 => eq_lst_nil (s := c.S h39 tk39) (xs := []) (News.isList W39.N (W39.inl (List.mem_cons_of_mem _ List.mem_cons_self))) (News.isList W39.N (W39.inl List.mem_cons_self)) V.u0 ?_)).go tk38
        exact R tk39 ⟨rfl, ps, List.mem_cons_of_mem _ (List.mem_cons_of_mem _ List.mem_cons_self)⟩ W39
end
section --L1
open PySem PySem.W PyProof.Rows PySem.Calls PySem.Spec PyProof.V PySem.SeqAt
set_option maxHeartbeats 1000000
noncomputable def asL : List Addr := [2, 3, 15, 17, 18, 20, 21, 22, 25, 30, 31, 33, 34, 36, 37, 38, 40, 41, 43, 44, 45, 46, 47, 48, 51, 58, 60, 61, 63, 64, 65, 66, 67, 70, 77, 79, 80, 82, 
  83, 84, 85, 86, 89, 91, 92, 94, 95, 103, 105, 106, 108, 109, 110, 112, 113, 115, 116, 117, 119, 120, 122, 123, 124, 126, 127, 129, 130, 131, 133, 
  134, 136, 137, 138, 140, 141, 143, 144, 145, 147, 148, 150, 151, 152, 154, 155, 157, 158, 159, 161, 162, 164, 165, 166, 168, 169, 171, 172, 173, 175, 
  176, 178, 179, 180, 182, 183, 185, 186, 187, 189, 190, 192, 193, 194, 196, 197, 199, 200, 201, 203, 204, 206, 207, 208, 210, 211, 213, 214, 215, 217, 
  218, 220, 221, 222, 224, 225, 227, 228, 229, 231, 232, 234, 235, 236, 238, 239, 241, 242, 243, 245, 246, 248, 249, 250, 252, 253, 255, 256, 257, 259, 
  260, 262, 263, 264, 266, 267, 269, 270, 271, 273, 274, 276, 277, 278, 280, 281, 283, 284, 285, 287, 288, 290, 291, 292, 294, 295, 297, 298, 299, 301, 
  302, 304, 305, 306, 307, 308, 309, 310, 313, 320, 322, 323, 325, 326, 327, 329, 330, 332, 333, 334, 336, 337, 339, 340, 341, 343, 344, 346, 347, 348, 
  350, 351, 353, 354, 355, 357, 358, 360, 361, 362, 364, 365, 367, 368, 369, 371, 372, 374, 375, 376, 378, 379, 381, 382, 383, 385, 386, 388, 389, 390, 
  392, 393, 395, 396, 397, 399, 400, 402, 403, 404, 406, 407, 409, 410, 411, 412, 413, 416, 423, 425, 426, 428, 429, 430, 432, 433, 435, 436, 437, 439, 
  440, 442, 443, 444, 446, 447, 449, 450, 451, 453, 454, 456, 457, 458, 460, 461, 463, 464, 465, 467, 468, 470, 471, 472, 474, 475, 477, 478, 479, 481, 
  482, 484, 485, 486, 488, 489, 491, 492, 493, 495, 496, 498, 499, 500, 501, 502, 505, 508, 513, 514, 516, 517, 519, 520, 521, 523, 524, 526, 527, 528, 
  530, 531, 533, 534, 535, 537, 538, 540, 541, 542, 544, 545, 547, 548, 549, 551, 552, 554, 555, 556, 558, 559, 561, 562, 563, 565, 566, 568, 569, 570, 
  572, 573, 575, 576, 577, 579, 580, 582, 583, 584, 586, 587, 589, 590, 591, 593, 594, 596, 597, 598, 600, 601, 603, 604, 605, 607, 608, 610, 611, 612, 
  614, 615, 617, 618, 619, 620, 621, 624, 625, 633, 635, 636, 638, 639, 640, 641, 642, 643, 644, 654, 656, 657, 659, 660, 661, 663, 664, 666, 667, 668, 
  670, 671, 673, 674, 675, 677, 678, 680, 681, 682, 684, 685, 687, 688, 689, 691, 692, 694, 695, 696, 698, 699, 701, 702, 703, 705, 706, 708, 709, 710, 
  712, 713, 715, 716, 717, 719, 720, 722, 723, 724, 726, 727, 729, 730, 731, 733, 734, 736, 737, 738, 740, 741, 743, 744, 745, 747, 748, 750, 751, 752, 
  754, 755, 757, 758, 759, 761, 762, 764, 765, 766, 768, 769, 771, 772, 773, 774, 775, 776, 777, 780, 782, 783, 785, 786, 787, 789, 790, 792, 793, 794, 
  796, 797, 799, 800, 808, 810, 811, 813, 814, 815, 817, 818, 820, 821, 822, 825, 826, 827, 829, 830, 832, 833, 834, 836, 837, 839, 840, 841, 843, 844, 
  846, 847, 848, 849, 850, 851, 852, 855, 857, 858, 860, 861, 862, 864, 865, 867, 868, 869, 871, 872, 874, 875, 876, 879, 880, 881, 884, 885, 886, 889, 
  890, 891, 893, 894, 896, 897, 898, 901, 902, 903, 905, 906, 908, 909, 910, 912, 913, 915, 916, 917, 919, 920, 922, 923, 924, 926, 927, 929, 930, 931, 
  934, 935]
theorem asE (P : Params) : asL = (K0.heap_1 P).map (·.1) := by kernel_rfl
noncomputable abbrev Walk : Prop := ∀ (q : Program) (d : DefRec) (kwd : List (PySem.Str × PySem.Expr)), d.name = PySem.Challenge.rw_nz0158_01.row.name →
  WalkO q [] (XL q []) (kmHook K0.heap_1 asL asE [932]).says PySem.Challenge.rw_nz0158_01.row.toRowW d kwd fun f vs => PySem.call f vs
end
section --L2
open PySem PySem.W PyProof.Rows PySem.Calls PySem.Spec PyProof.V PySem.SeqAt
set_option maxHeartbeats 1000000
set_option tactic.hygienic true in
theorem walk0 : Walk := by
  unfold Walk WalkO
  intro q d kwd hn
  intro w s₀ s₁ mg mb G Y fa o pm cd doc dV kV ho hd hcd hD hmg hg args vals as hpre hlay hrd hwl hlo
  have KX := km_in_of Y
  have hT8 := km_tabs_of Y
  have X := (Ground.X G).1
  refine Ground.open G ?_
  intro T B D TE TW
  have e935 := mg_of KX T.g (show nsIn (K0.heap_1 w.params) mainGlobals (Str.ofString "law") = some (some (.ref 935)) by kernel_rfl)
  wrow_args hpre hlay hrd hwl hlo
  rename_i ns _ _ _ _ _ _ _ sa vs _ hL _ _ _ hI _ hlen _
  have hT9 : TabsAt [(934, 932)] s₁.heap := List.forall_mem_cons.mpr ⟨⟨codeHd_of_K (c := 934) (P := 932) KX (by kernel_rfl), hT8 932 (by simp)⟩, fun ω h => nomatch h⟩
  have hname : d.name = Str.ofString "law" := hn.trans (by rfl)
  rw [hname, e935] at hmg
  cases hmg
  let GG : Gl := ⟨w, ghostOf s₁.heap [(934, 932)], topProg, _, _, mg, mb, ghost_K hT9 KX (by kernel_rfl), ghost_top hT9 T⟩
  obtain ⟨hp, gs, dr, tk, os⟩ := s₁
  refine law_ok (G := GG) (ghost_code hT9).1 (ghost_list hT9 hL) hI (by lia) ⟨fun b o e => of_hideAll _ e, Nat.le_of_eq (hideAll_size _ _), fun p hp => ?_, ⟨(fun p hp q hq => nomatch hq), (fun p hp q hq => nomatch hq), List.pairwise_singleton _ _⟩⟩ fun fp' l' h' tk' H hm => ?_
  · rw [show p = (932, tabObj #[]) by simpa using hp]
    exact ⟨hT8 932 (by simp), hideAll_none _ (by simp)⟩
  · obtain ⟨ps, hm⟩ := hm
    have hP := (H.at_ _ (List.mem_append_left _ hm)).1
    have keep : ∀ b o, b ∉ [((934 : Addr), (932 : Addr))].map (·.2) → hp.get? b = some o → h'.get? b = some o := fun b o hb e => H.keep b o (ghost_ne e hb)
    refine ⟨.inl ⟨.bool true, .bool true, [], rfl, fun ω => ?_, .bool true, ?_, ?_⟩, ⟨fun b o e => ?_, fun b o e => ?_⟩, rfl, .of_eq hg⟩
    · rfl
    · wrow_post
    · exact unshared_nil
    · by_cases hb : b ∈ [((934 : Addr), (932 : Addr))].map (·.2)
      · obtain rfl : b = 932 := by simpa using hb
        have e2 := hT8 932 (by simp)
        rw [show hp.get? 932 = some o from e] at e2
        cases e2
        exact .inr (.inl ⟨((hT9 _ List.mem_cons_self).1.tab (hT9 _ List.mem_cons_self).2).isCodeTable, rfl, #[], ps, rfl, by rw [Array.empty_append]; exact hP⟩)
      · exact .inl (keep b o hb e)
    · by_cases hb : b ∈ [((934 : Addr), (932 : Addr))].map (·.2)
      · obtain rfl : b = 932 := by simpa using hb
        exact ⟨_, hP⟩
      · exact ⟨o, keep b o hb e⟩
end
namespace head
theorem tw10005452208157733855:True:=⟨⟩
theorem tw10015159338476511836:True:=⟨⟩
theorem tw10059252607514160932:True:=⟨⟩
theorem tw10062970787820224252:True:=⟨⟩
theorem tw10066793327743970655:True:=⟨⟩
theorem tw10070411193226618655:True:=⟨⟩
theorem tw10079960370226730655:True:=⟨⟩
theorem tw10110233660360586483:True:=⟨⟩
theorem tw10116942457455264815:True:=⟨⟩
theorem tw10128390137947593754:True:=⟨⟩
theorem tw10128820837102578890:True:=⟨⟩
theorem tw10170068340998493759:True:=⟨⟩
theorem tw10187618423342961781:True:=⟨⟩
theorem tw10258521583956687137:True:=⟨⟩
theorem tw10261356005730403935:True:=⟨⟩
theorem tw10265929125382437317:True:=⟨⟩
theorem tw10270352894671993868:True:=⟨⟩
theorem tw10275354952418168282:True:=⟨⟩
theorem tw10307130028497402462:True:=⟨⟩
theorem tw10317212456122042642:True:=⟨⟩
theorem tw10366927770000222440:True:=⟨⟩
theorem tw10371985647062452541:True:=⟨⟩
theorem tw10389290468125465742:True:=⟨⟩
theorem tw10394994958332740275:True:=⟨⟩
theorem tw10400636543074173776:True:=⟨⟩
theorem tw10402926801511590149:True:=⟨⟩
theorem tw10431609616501453582:True:=⟨⟩
theorem tw10451821566800517634:True:=⟨⟩
theorem tw10457615780465708087:True:=⟨⟩
theorem tw10467814448475477596:True:=⟨⟩
theorem tw10472834687351259785:True:=⟨⟩
theorem tw10504981510240967646:True:=⟨⟩
theorem tw1050551135032985961:True:=⟨⟩
theorem tw10510183946089719056:True:=⟨⟩
theorem tw10510622979536455646:True:=⟨⟩
theorem tw10519217271611395807:True:=⟨⟩
theorem tw10521553517811329670:True:=⟨⟩
theorem tw10533634037010066435:True:=⟨⟩
theorem tw1056085985882870562:True:=⟨⟩
theorem tw10573961123116132518:True:=⟨⟩
theorem tw10589435714200987077:True:=⟨⟩
theorem tw1061700454162486011:True:=⟨⟩
theorem tw1062042127530464391:True:=⟨⟩
theorem tw10668533816033670360:True:=⟨⟩
theorem tw10698650227242318774:True:=⟨⟩
theorem tw10706776884845955466:True:=⟨⟩
theorem tw10730805705081004914:True:=⟨⟩
theorem tw10735254221757914791:True:=⟨⟩
theorem tw10746725682022337571:True:=⟨⟩
theorem tw10775541529341759161:True:=⟨⟩
theorem tw10786079294511566085:True:=⟨⟩
theorem tw10812213935944405949:True:=⟨⟩
theorem tw1082313596108445148:True:=⟨⟩
theorem tw10840385229135970747:True:=⟨⟩
theorem tw10845400790151957771:True:=⟨⟩
theorem tw10865165270600546614:True:=⟨⟩
theorem tw10872037306656784433:True:=⟨⟩
theorem tw10875119458065257276:True:=⟨⟩
theorem tw10898857373019930491:True:=⟨⟩
theorem tw10900948863051656163:True:=⟨⟩
theorem tw10927441816077202529:True:=⟨⟩
theorem tw10936905620487946977:True:=⟨⟩
theorem tw10947310743691471603:True:=⟨⟩
theorem tw10948677003083999065:True:=⟨⟩
theorem tw10951786044768298760:True:=⟨⟩
theorem tw10981693645786004873:True:=⟨⟩
theorem tw10987702880554017565:True:=⟨⟩
theorem tw10988817232074504935:True:=⟨⟩
theorem tw11001102331484777339:True:=⟨⟩
theorem tw11005904730967762025:True:=⟨⟩
theorem tw11052631288978436188:True:=⟨⟩
theorem tw11060938730435951684:True:=⟨⟩
theorem tw11097941207591946120:True:=⟨⟩
theorem tw11105056867450500199:True:=⟨⟩
theorem tw11124748197601291601:True:=⟨⟩
theorem tw11128210870785958166:True:=⟨⟩
theorem tw11180365069992382532:True:=⟨⟩
theorem tw11194998557105285118:True:=⟨⟩
theorem tw11252389752188410926:True:=⟨⟩
theorem tw1125430239929706018:True:=⟨⟩
theorem tw11255790879490906821:True:=⟨⟩
theorem tw11268529262604976462:True:=⟨⟩
theorem tw11289835788462762251:True:=⟨⟩
theorem tw11290360913936777911:True:=⟨⟩
theorem tw11296743742662292762:True:=⟨⟩
theorem tw11305582741114486441:True:=⟨⟩
theorem tw11308087075614649832:True:=⟨⟩
theorem tw1134157569726261602:True:=⟨⟩
theorem tw11373832636114325086:True:=⟨⟩
theorem tw11402027661713467040:True:=⟨⟩
theorem tw1141324103231798235:True:=⟨⟩
theorem tw11426403942048686318:True:=⟨⟩
theorem tw11427066125472700054:True:=⟨⟩
theorem tw11434997419882176723:True:=⟨⟩
theorem tw1146124256749630112:True:=⟨⟩
theorem tw11485113708198979986:True:=⟨⟩
theorem tw11540487432870637733:True:=⟨⟩
theorem tw11544532188706048022:True:=⟨⟩
theorem tw1155926839051525531:True:=⟨⟩
theorem tw11569442021236766091:True:=⟨⟩
theorem tw11582096051123008839:True:=⟨⟩
theorem tw11613311375368785083:True:=⟨⟩
theorem tw11628534518673281344:True:=⟨⟩
theorem tw11629762434490789354:True:=⟨⟩
theorem tw11636873012791513418:True:=⟨⟩
theorem tw11680266561614322678:True:=⟨⟩
theorem tw11704837465938651953:True:=⟨⟩
theorem tw11714945338242495837:True:=⟨⟩
theorem tw11715283913529211631:True:=⟨⟩
theorem tw11724780754615379514:True:=⟨⟩
theorem tw1172538174109094731:True:=⟨⟩
theorem tw11732908120936727654:True:=⟨⟩
theorem tw11770459041652445329:True:=⟨⟩
theorem tw11808996689058197189:True:=⟨⟩
theorem tw11819297519747316193:True:=⟨⟩
theorem tw11820730986300896962:True:=⟨⟩
theorem tw11821203517306503961:True:=⟨⟩
theorem tw11826063581560689246:True:=⟨⟩
theorem tw11849420070602536199:True:=⟨⟩
theorem tw11857307637417881527:True:=⟨⟩
theorem tw11862927689305589065:True:=⟨⟩
theorem tw11904684991359361074:True:=⟨⟩
theorem tw11914187763297459524:True:=⟨⟩
theorem tw11923155195566972133:True:=⟨⟩
theorem tw11925700103697007601:True:=⟨⟩
theorem tw11988142204041823098:True:=⟨⟩
theorem tw11998209505049934977:True:=⟨⟩
theorem tw12032222614953749359:True:=⟨⟩
theorem tw12037728316022314418:True:=⟨⟩
theorem tw12074249297620881909:True:=⟨⟩
theorem tw12084453891678590660:True:=⟨⟩
theorem tw1211024037004892549:True:=⟨⟩
theorem tw1212124681294104184:True:=⟨⟩
theorem tw1214346256449528893:True:=⟨⟩
theorem tw12147184966966947637:True:=⟨⟩
theorem tw12157662564070965069:True:=⟨⟩
theorem tw1216361941278037836:True:=⟨⟩
theorem tw12201952087667049370:True:=⟨⟩
theorem tw12205659690895024086:True:=⟨⟩
theorem tw12207028300977255130:True:=⟨⟩
theorem tw12212823987433534256:True:=⟨⟩
theorem tw12214093580764582487:True:=⟨⟩
theorem tw12242153458792446204:True:=⟨⟩
theorem tw12244833863542804788:True:=⟨⟩
theorem tw1224924573807776437:True:=⟨⟩
theorem tw12249523057431388528:True:=⟨⟩
theorem tw12275693417441809861:True:=⟨⟩
theorem tw12287978374625458572:True:=⟨⟩
theorem tw12310735299239354703:True:=⟨⟩
theorem tw12321676766767419452:True:=⟨⟩
theorem tw12324890628731678277:True:=⟨⟩
theorem tw12330954535739239725:True:=⟨⟩
theorem tw12339793173418651155:True:=⟨⟩
theorem tw12344544660321961925:True:=⟨⟩
theorem tw1235056861985050600:True:=⟨⟩
theorem tw12352672977532951062:True:=⟨⟩
theorem tw12359489953124434286:True:=⟨⟩
theorem tw12362083183470981646:True:=⟨⟩
theorem tw12364624919760631829:True:=⟨⟩
theorem tw12371566548271132015:True:=⟨⟩
theorem tw12417293695627231756:True:=⟨⟩
theorem tw12427710115714267126:True:=⟨⟩
theorem tw12428389735305899900:True:=⟨⟩
theorem tw12450897077315312262:True:=⟨⟩
theorem tw12472887615940459650:True:=⟨⟩
theorem tw12478146576626367362:True:=⟨⟩
theorem tw12489392125719316460:True:=⟨⟩
theorem tw12542841389457131302:True:=⟨⟩
theorem tw12581593161143036515:True:=⟨⟩
theorem tw12596154207471609045:True:=⟨⟩
theorem tw12601080634535202701:True:=⟨⟩
theorem tw12604462930493870256:True:=⟨⟩
theorem tw12630350610049390935:True:=⟨⟩
theorem tw12668424612319814730:True:=⟨⟩
theorem tw12682429181067543257:True:=⟨⟩
theorem tw12704426703380559182:True:=⟨⟩
theorem tw12723833596933988784:True:=⟨⟩
theorem tw12740806245664736207:True:=⟨⟩
theorem tw12741294794224977040:True:=⟨⟩
theorem tw12763952150808568291:True:=⟨⟩
theorem tw12764128322984676335:True:=⟨⟩
theorem tw1276956409769668328:True:=⟨⟩
theorem tw12773685731770592110:True:=⟨⟩
theorem tw12775505166333009402:True:=⟨⟩
theorem tw12795389718870424448:True:=⟨⟩
theorem tw12799445714804067355:True:=⟨⟩
theorem tw12799616582074740251:True:=⟨⟩
theorem tw12799966317143952679:True:=⟨⟩
theorem tw12822298378996975857:True:=⟨⟩
theorem tw12834788339754589683:True:=⟨⟩
theorem tw12841863872788715202:True:=⟨⟩
theorem tw12851702773856589430:True:=⟨⟩
theorem tw12856577281151766611:True:=⟨⟩
theorem tw12858780395421280599:True:=⟨⟩
theorem tw12875325457547866274:True:=⟨⟩
theorem tw12903917746401883607:True:=⟨⟩
theorem tw12908475990344208633:True:=⟨⟩
theorem tw12949380547846470161:True:=⟨⟩
theorem tw12987040726578829979:True:=⟨⟩
theorem tw12998212659555988865:True:=⟨⟩
theorem tw13002585709282622103:True:=⟨⟩
theorem tw13065621461132903086:True:=⟨⟩
theorem tw13078646160514809887:True:=⟨⟩
theorem tw13086575352542018947:True:=⟨⟩
theorem tw13135395098459392958:True:=⟨⟩
theorem tw13137911371727378231:True:=⟨⟩
theorem tw1315283587788430596:True:=⟨⟩
theorem tw1315816938146588887:True:=⟨⟩
theorem tw13180129090757240718:True:=⟨⟩
theorem tw1318689175770300589:True:=⟨⟩
theorem tw13198292447841614426:True:=⟨⟩
theorem tw1319983325249436295:True:=⟨⟩
theorem tw13213268828098156179:True:=⟨⟩
theorem tw13216898753189638151:True:=⟨⟩
theorem tw13227620805987009915:True:=⟨⟩
theorem tw13277643439714857746:True:=⟨⟩
theorem tw13294958713779813728:True:=⟨⟩
theorem tw13295082483830516422:True:=⟨⟩
theorem tw13295774097974887486:True:=⟨⟩
theorem tw13315729282080922261:True:=⟨⟩
theorem tw13337238644230332656:True:=⟨⟩
theorem tw13353151263460963528:True:=⟨⟩
theorem tw13357441389134331599:True:=⟨⟩
theorem tw13379354915994877463:True:=⟨⟩
theorem tw13381877923881390905:True:=⟨⟩
theorem tw13381936622781507537:True:=⟨⟩
theorem tw13397106695672350980:True:=⟨⟩
theorem tw13412022041919118725:True:=⟨⟩
theorem tw1344716296598748285:True:=⟨⟩
theorem tw13448663612475342349:True:=⟨⟩
theorem tw13478637309914159250:True:=⟨⟩
theorem tw13488047542759136002:True:=⟨⟩
theorem tw13504307299585405616:True:=⟨⟩
theorem tw13508044439285423174:True:=⟨⟩
theorem tw1351559336864506655:True:=⟨⟩
theorem tw13537664574400122534:True:=⟨⟩
theorem tw13585267454733459922:True:=⟨⟩
theorem tw13600378441667735501:True:=⟨⟩
theorem tw13605870324054321959:True:=⟨⟩
theorem tw13650549970936915252:True:=⟨⟩
theorem tw13653928888864918839:True:=⟨⟩
theorem tw13664066127859960707:True:=⟨⟩
theorem tw13697588214506672789:True:=⟨⟩
theorem tw13708957947011138092:True:=⟨⟩
theorem tw13743032657059413451:True:=⟨⟩
theorem tw13750642191701924398:True:=⟨⟩
theorem tw13800718416732639697:True:=⟨⟩
theorem tw13801937863458859944:True:=⟨⟩
theorem tw13846591363081406657:True:=⟨⟩
theorem tw13868347639449504327:True:=⟨⟩
theorem tw13896987355042952010:True:=⟨⟩
theorem tw13910694723763315657:True:=⟨⟩
theorem tw139141181571183326:True:=⟨⟩
theorem tw13917482298092908234:True:=⟨⟩
theorem tw13932022402069264104:True:=⟨⟩
theorem tw13942192884097748152:True:=⟨⟩
theorem tw13955511503576765797:True:=⟨⟩
theorem tw1398043889541792783:True:=⟨⟩
theorem tw13986843968525588388:True:=⟨⟩
theorem tw13988103294471073821:True:=⟨⟩
theorem tw140066278072042493:True:=⟨⟩
theorem tw14028522991509751376:True:=⟨⟩
theorem tw14059167943309011982:True:=⟨⟩
theorem tw14061139507663348314:True:=⟨⟩
theorem tw14068133799693864440:True:=⟨⟩
theorem tw14078167904914714981:True:=⟨⟩
theorem tw14086173767186703872:True:=⟨⟩
theorem tw14090159008775844135:True:=⟨⟩
theorem tw14112020806712329415:True:=⟨⟩
theorem tw14112051064653734678:True:=⟨⟩
theorem tw14127983276867164173:True:=⟨⟩
theorem tw14139502460874162764:True:=⟨⟩
theorem tw14149427978524627653:True:=⟨⟩
theorem tw14158537116620707164:True:=⟨⟩
theorem tw14168692526580214153:True:=⟨⟩
theorem tw14195316510222423288:True:=⟨⟩
theorem tw14205479233844494046:True:=⟨⟩
theorem tw14234965402570480558:True:=⟨⟩
theorem tw14241001667801471300:True:=⟨⟩
theorem tw14255830675389880745:True:=⟨⟩
theorem tw14277528927401260903:True:=⟨⟩
theorem tw14330330676051879864:True:=⟨⟩
theorem tw14344768424176206936:True:=⟨⟩
theorem tw14364637388885140079:True:=⟨⟩
theorem tw1438866918597655640:True:=⟨⟩
theorem tw14393718171448925343:True:=⟨⟩
theorem tw14412733801367601576:True:=⟨⟩
theorem tw14417885227837004991:True:=⟨⟩
theorem tw14429822130985059091:True:=⟨⟩
theorem tw14492117785962260688:True:=⟨⟩
theorem tw14512941343882779238:True:=⟨⟩
theorem tw14513887754847984766:True:=⟨⟩
theorem tw14524160177008508720:True:=⟨⟩
theorem tw14527164170590304321:True:=⟨⟩
theorem tw14531177953140590962:True:=⟨⟩
theorem tw14565420633037775528:True:=⟨⟩
theorem tw14586503196746008701:True:=⟨⟩
theorem tw14597329475937083939:True:=⟨⟩
theorem tw14615432700455777464:True:=⟨⟩
theorem tw14628233357713752721:True:=⟨⟩
theorem tw14631306762972528136:True:=⟨⟩
theorem tw14631705268626504575:True:=⟨⟩
theorem tw14637134836413734856:True:=⟨⟩
theorem tw14643560169476415855:True:=⟨⟩
theorem tw14643959010103036307:True:=⟨⟩
theorem tw14646466228836335164:True:=⟨⟩
theorem tw14667470093908496907:True:=⟨⟩
theorem tw14676189674455941282:True:=⟨⟩
theorem tw14679116673082234219:True:=⟨⟩
theorem tw14699528089545365996:True:=⟨⟩
theorem tw14699756766385990792:True:=⟨⟩
theorem tw14720509044617813951:True:=⟨⟩
theorem tw14721649852327151169:True:=⟨⟩
theorem tw1472379273497163797:True:=⟨⟩
theorem tw14735301032572234722:True:=⟨⟩
theorem tw14740928361383774428:True:=⟨⟩
theorem tw14744981736328886265:True:=⟨⟩
theorem tw14768688571040804171:True:=⟨⟩
theorem tw14788773977795034992:True:=⟨⟩
theorem tw14796412885826930917:True:=⟨⟩
theorem tw14818019229276831692:True:=⟨⟩
theorem tw14843749296085226474:True:=⟨⟩
theorem tw14862789650711617903:True:=⟨⟩
theorem tw14877080517539528568:True:=⟨⟩
theorem tw1489404036187247834:True:=⟨⟩
theorem tw14909605222495392915:True:=⟨⟩
theorem tw14922436083285072407:True:=⟨⟩
theorem tw14943480678444902952:True:=⟨⟩
theorem tw14946772226789246504:True:=⟨⟩
theorem tw14956133685725647455:True:=⟨⟩
theorem tw14956371261235936329:True:=⟨⟩
theorem tw1495726902847802894:True:=⟨⟩
theorem tw14959218684248593190:True:=⟨⟩
theorem tw14969385696402013904:True:=⟨⟩
theorem tw14982685227137828758:True:=⟨⟩
theorem tw14983349147647662914:True:=⟨⟩
theorem tw14999265807660949796:True:=⟨⟩
theorem tw15001418939266856263:True:=⟨⟩
theorem tw15012772271602616124:True:=⟨⟩
theorem tw15022480046535758418:True:=⟨⟩
theorem tw15035418422258542911:True:=⟨⟩
theorem tw15037083628117588352:True:=⟨⟩
theorem tw15039987702171664376:True:=⟨⟩
theorem tw15051624971371641934:True:=⟨⟩
theorem tw15064752311394979489:True:=⟨⟩
theorem tw1506576300011279404:True:=⟨⟩
theorem tw15091486752826498866:True:=⟨⟩
theorem tw15112835437128306455:True:=⟨⟩
theorem tw15127644999133008818:True:=⟨⟩
theorem tw15142167089309388077:True:=⟨⟩
theorem tw15149402430504572791:True:=⟨⟩
theorem tw15155616545929982514:True:=⟨⟩
theorem tw15164278277893987615:True:=⟨⟩
theorem tw1519320592345488741:True:=⟨⟩
theorem tw15204471325056678010:True:=⟨⟩
theorem tw15225242498421095992:True:=⟨⟩
theorem tw1522823579158628613:True:=⟨⟩
theorem tw15248001044337979736:True:=⟨⟩
theorem tw15250023729529759990:True:=⟨⟩
theorem tw15253147559959296200:True:=⟨⟩
theorem tw15256841493749336786:True:=⟨⟩
theorem tw15263674166054382079:True:=⟨⟩
theorem tw15296082917334920728:True:=⟨⟩
theorem tw15305915472762889579:True:=⟨⟩
theorem tw15317023959539522800:True:=⟨⟩
theorem tw15326552575505426906:True:=⟨⟩
theorem tw15328847239876097677:True:=⟨⟩
theorem tw15330342782969278459:True:=⟨⟩
theorem tw15392136045813129965:True:=⟨⟩
theorem tw15410735652082386980:True:=⟨⟩
theorem tw15436542981012472205:True:=⟨⟩
theorem tw15452280279296900796:True:=⟨⟩
theorem tw15468718075485040107:True:=⟨⟩
theorem tw15501141472565082077:True:=⟨⟩
theorem tw15506723302920939300:True:=⟨⟩
theorem tw15510365090734361527:True:=⟨⟩
theorem tw15520248196984853422:True:=⟨⟩
theorem tw15539854500240908086:True:=⟨⟩
theorem tw15564447279633807951:True:=⟨⟩
theorem tw15582730294447300881:True:=⟨⟩
theorem tw15604011560834605598:True:=⟨⟩
theorem tw15638870477510070732:True:=⟨⟩
theorem tw15647610678857825673:True:=⟨⟩
theorem tw15656768269340197940:True:=⟨⟩
theorem tw15666658371737129944:True:=⟨⟩
theorem tw15676425527210111115:True:=⟨⟩
theorem tw15682741785845805564:True:=⟨⟩
theorem tw15736342250582547807:True:=⟨⟩
theorem tw15785421084128741142:True:=⟨⟩
theorem tw15794997505209512671:True:=⟨⟩
theorem tw15798066900824788120:True:=⟨⟩
theorem tw15827502805916655846:True:=⟨⟩
theorem tw15832300201269216667:True:=⟨⟩
theorem tw15838623164411332158:True:=⟨⟩
theorem tw15840312062823119879:True:=⟨⟩
theorem tw15841401105113185080:True:=⟨⟩
theorem tw15845715064670954444:True:=⟨⟩
theorem tw15873191416987729925:True:=⟨⟩
theorem tw1588943658860677225:True:=⟨⟩
theorem tw15894371620910866019:True:=⟨⟩
theorem tw15895551434495452948:True:=⟨⟩
theorem tw15898109809663626304:True:=⟨⟩
theorem tw15898970277018273793:True:=⟨⟩
theorem tw15924019268735266097:True:=⟨⟩
theorem tw1593561654347908568:True:=⟨⟩
theorem tw15967466079928408925:True:=⟨⟩
theorem tw16014373381606645092:True:=⟨⟩
theorem tw16031315777459398524:True:=⟨⟩
theorem tw16065720564569863766:True:=⟨⟩
theorem tw16078238667976319046:True:=⟨⟩
theorem tw1608297297296620843:True:=⟨⟩
theorem tw16106133796442146334:True:=⟨⟩
theorem tw16111715859725283846:True:=⟨⟩
theorem tw16128420640991077102:True:=⟨⟩
theorem tw16166440364842034014:True:=⟨⟩
theorem tw16172356507618199906:True:=⟨⟩
theorem tw16175233474957185256:True:=⟨⟩
theorem tw1618804561499322139:True:=⟨⟩
theorem tw1620002657737552111:True:=⟨⟩
theorem tw1626232751844553403:True:=⟨⟩
theorem tw16272097951300814418:True:=⟨⟩
theorem tw16278871845796110771:True:=⟨⟩
theorem tw16291991722392533869:True:=⟨⟩
theorem tw16332062296072025786:True:=⟨⟩
theorem tw16385634705727604063:True:=⟨⟩
theorem tw16415787539773345739:True:=⟨⟩
theorem tw1642545813376747948:True:=⟨⟩
theorem tw1643771367246577777:True:=⟨⟩
theorem tw16441004959143088680:True:=⟨⟩
theorem tw16472945084836616533:True:=⟨⟩
theorem tw16481179823495478772:True:=⟨⟩
theorem tw16495435189000846180:True:=⟨⟩
theorem tw16545597347906280737:True:=⟨⟩
theorem tw16572314662081343053:True:=⟨⟩
theorem tw16576625349610184965:True:=⟨⟩
theorem tw16579250180923337425:True:=⟨⟩
theorem tw16582591585412914238:True:=⟨⟩
theorem tw16583212636882356314:True:=⟨⟩
theorem tw16604199759994364997:True:=⟨⟩
theorem tw1660877005871194693:True:=⟨⟩
theorem tw1662426559620638255:True:=⟨⟩
theorem tw16640130746408290383:True:=⟨⟩
theorem tw16647155751929229394:True:=⟨⟩
theorem tw16652688526520581961:True:=⟨⟩
theorem tw16659920880120507502:True:=⟨⟩
theorem tw16695014060947850149:True:=⟨⟩
theorem tw16703865258624009325:True:=⟨⟩
theorem tw16714887947964762639:True:=⟨⟩
theorem tw1673358830478937286:True:=⟨⟩
theorem tw16769997242578385675:True:=⟨⟩
theorem tw16782820856776367440:True:=⟨⟩
theorem tw16800043278716471037:True:=⟨⟩
theorem tw16817119741492734445:True:=⟨⟩
theorem tw16821450928103126590:True:=⟨⟩
theorem tw16828514060538661750:True:=⟨⟩
theorem tw16845296645482713644:True:=⟨⟩
theorem tw16871623187472473471:True:=⟨⟩
theorem tw16874305072444578374:True:=⟨⟩
theorem tw16888070154925205155:True:=⟨⟩
theorem tw1689142752476645926:True:=⟨⟩
theorem tw16894393574925625578:True:=⟨⟩
theorem tw16894561301568121468:True:=⟨⟩
theorem tw16903022960794457021:True:=⟨⟩
theorem tw16917608666046251313:True:=⟨⟩
theorem tw16922147877168347812:True:=⟨⟩
theorem tw1693818546310300448:True:=⟨⟩
theorem tw16942090399603786721:True:=⟨⟩
theorem tw16952181060025214987:True:=⟨⟩
theorem tw16962450398199861240:True:=⟨⟩
theorem tw16966009324859112401:True:=⟨⟩
theorem tw16974685034882416825:True:=⟨⟩
theorem tw16984083398119652359:True:=⟨⟩
theorem tw16997897962222511:True:=⟨⟩
theorem tw17002534310236347988:True:=⟨⟩
theorem tw17007033763367706731:True:=⟨⟩
theorem tw17008234436448823602:True:=⟨⟩
theorem tw17014415605687186514:True:=⟨⟩
theorem tw17014734716931888790:True:=⟨⟩
theorem tw17017319662998615:True:=⟨⟩
theorem tw17024340208454683379:True:=⟨⟩
theorem tw17029281499520769684:True:=⟨⟩
theorem tw17037872496334206203:True:=⟨⟩
theorem tw1703907593899377836:True:=⟨⟩
theorem tw17039324001796647390:True:=⟨⟩
theorem tw17047625674926534286:True:=⟨⟩
theorem tw17050696954950088759:True:=⟨⟩
theorem tw17052544337092648970:True:=⟨⟩
theorem tw17062125606838978880:True:=⟨⟩
theorem tw17093656651364094606:True:=⟨⟩
theorem tw17129914584562691343:True:=⟨⟩
theorem tw17142359554024780413:True:=⟨⟩
theorem tw1714602735852981970:True:=⟨⟩
theorem tw17173245716831642929:True:=⟨⟩
theorem tw17173436117698932495:True:=⟨⟩
theorem tw1718890006036334650:True:=⟨⟩
theorem tw17188972718952451159:True:=⟨⟩
theorem tw17190349231170142043:True:=⟨⟩
theorem tw17194126546080390198:True:=⟨⟩
theorem tw17197444120159719569:True:=⟨⟩
theorem tw17206032370551948308:True:=⟨⟩
theorem tw17212568112599259466:True:=⟨⟩
theorem tw17238610979035211840:True:=⟨⟩
theorem tw17243387458012846398:True:=⟨⟩
theorem tw17262968490309938674:True:=⟨⟩
theorem tw17265401458761052179:True:=⟨⟩
theorem tw17275705279478898512:True:=⟨⟩
theorem tw17287069475806534740:True:=⟨⟩
theorem tw1728724042893426364:True:=⟨⟩
theorem tw17297054508065495485:True:=⟨⟩
theorem tw17304152732226823993:True:=⟨⟩
theorem tw17338433451809081892:True:=⟨⟩
theorem tw17339705970751849611:True:=⟨⟩
theorem tw17342198202392708656:True:=⟨⟩
theorem tw17346037399652195860:True:=⟨⟩
theorem tw17348764703882912863:True:=⟨⟩
theorem tw17362218986543327160:True:=⟨⟩
theorem tw17371765431496345816:True:=⟨⟩
theorem tw17377423518514600169:True:=⟨⟩
theorem tw17411354535832351560:True:=⟨⟩
theorem tw174166394780034911:True:=⟨⟩
theorem tw17444863063712431705:True:=⟨⟩
theorem tw17453365369857097546:True:=⟨⟩
theorem tw17458890533420659534:True:=⟨⟩
theorem tw17464823870196871000:True:=⟨⟩
theorem tw1748456618969930982:True:=⟨⟩
theorem tw17486074103640542121:True:=⟨⟩
theorem tw17508272824862286709:True:=⟨⟩
theorem tw17522360388414511382:True:=⟨⟩
theorem tw17525636777796739105:True:=⟨⟩
theorem tw17539234302018041193:True:=⟨⟩
theorem tw17553620660974883448:True:=⟨⟩
theorem tw1756991915124769162:True:=⟨⟩
theorem tw17573037796337583832:True:=⟨⟩
theorem tw17577399041416155939:True:=⟨⟩
theorem tw17595797816247731874:True:=⟨⟩
theorem tw17608190574486352970:True:=⟨⟩
theorem tw17630500395600762314:True:=⟨⟩
theorem tw17646911460466567920:True:=⟨⟩
theorem tw1764952784847918493:True:=⟨⟩
theorem tw17658000642845759554:True:=⟨⟩
theorem tw1766074496371839085:True:=⟨⟩
theorem tw17674571679781333832:True:=⟨⟩
theorem tw17698105195316432488:True:=⟨⟩
theorem tw17700853532424174462:True:=⟨⟩
theorem tw17725469503822016867:True:=⟨⟩
theorem tw17769433529836712537:True:=⟨⟩
theorem tw17782148633632673465:True:=⟨⟩
theorem tw17783093436913651231:True:=⟨⟩
theorem tw17784522201281872271:True:=⟨⟩
theorem tw17784925447008408576:True:=⟨⟩
theorem tw17788742646020836255:True:=⟨⟩
theorem tw17789423225533864492:True:=⟨⟩
theorem tw17799196618456615035:True:=⟨⟩
theorem tw17821319399108415887:True:=⟨⟩
theorem tw17826015225549371706:True:=⟨⟩
theorem tw17836260108008149386:True:=⟨⟩
theorem tw17836618258811950860:True:=⟨⟩
theorem tw17844492200522320778:True:=⟨⟩
theorem tw17850378814381688901:True:=⟨⟩
theorem tw17854896373637125580:True:=⟨⟩
theorem tw1786199778172832133:True:=⟨⟩
theorem tw17889261914703972767:True:=⟨⟩
theorem tw17890245599415353634:True:=⟨⟩
theorem tw17894702793023417833:True:=⟨⟩
theorem tw17905491414393134947:True:=⟨⟩
theorem tw1792277464101229681:True:=⟨⟩
theorem tw17958272820484234708:True:=⟨⟩
theorem tw17975491588444890076:True:=⟨⟩
theorem tw17988201657351507238:True:=⟨⟩
theorem tw17993767162375566018:True:=⟨⟩
theorem tw17994261503862256477:True:=⟨⟩
theorem tw17996886184498570944:True:=⟨⟩
theorem tw18007968972792079559:True:=⟨⟩
theorem tw18051680202136193954:True:=⟨⟩
theorem tw18080951475816111786:True:=⟨⟩
theorem tw18081138779251354973:True:=⟨⟩
theorem tw18095809974233413182:True:=⟨⟩
theorem tw18123143868385100064:True:=⟨⟩
theorem tw18125128294737035143:True:=⟨⟩
theorem tw18164835968555783806:True:=⟨⟩
theorem tw18176413224385145225:True:=⟨⟩
theorem tw18177665153149118353:True:=⟨⟩
theorem tw18215824643853355119:True:=⟨⟩
theorem tw18254194996027185994:True:=⟨⟩
theorem tw18277060748420158845:True:=⟨⟩
theorem tw18310999140377845807:True:=⟨⟩
theorem tw1832916270232011604:True:=⟨⟩
theorem tw18331334602107656470:True:=⟨⟩
theorem tw18331532914195504034:True:=⟨⟩
theorem tw18332285231265401824:True:=⟨⟩
theorem tw18332689328565389885:True:=⟨⟩
theorem tw18345104242076519216:True:=⟨⟩
theorem tw18364922244981856966:True:=⟨⟩
theorem tw18384547517478447814:True:=⟨⟩
theorem tw18416563613846182222:True:=⟨⟩
theorem tw18419137052163196841:True:=⟨⟩
theorem tw18433677622606106133:True:=⟨⟩
theorem tw1852205218256702202:True:=⟨⟩
theorem tw1858156416291392539:True:=⟨⟩
theorem tw1858285994304674589:True:=⟨⟩
theorem tw1904360653210494845:True:=⟨⟩
theorem tw1906429620130506887:True:=⟨⟩
theorem tw1909714482019496454:True:=⟨⟩
theorem tw1914692607248247194:True:=⟨⟩
theorem tw1917425121527220963:True:=⟨⟩
theorem tw1919001801439425371:True:=⟨⟩
theorem tw1919890906376249811:True:=⟨⟩
theorem tw1929634836878124385:True:=⟨⟩
theorem tw1937370526825066196:True:=⟨⟩
theorem tw1939405473400901271:True:=⟨⟩
theorem tw1966224132733831507:True:=⟨⟩
theorem tw1971652810694446911:True:=⟨⟩
theorem tw1976755195193171425:True:=⟨⟩
theorem tw1985537357303476512:True:=⟨⟩
theorem tw1992862871153497056:True:=⟨⟩
theorem tw1995287165650055613:True:=⟨⟩
theorem tw203279951241792120:True:=⟨⟩
theorem tw2035680199648653684:True:=⟨⟩
theorem tw2066564036433440168:True:=⟨⟩
theorem tw2096541523181747872:True:=⟨⟩
theorem tw2118377178292867602:True:=⟨⟩
theorem tw2123727595537733498:True:=⟨⟩
theorem tw2154566216772986472:True:=⟨⟩
theorem tw2201313380682377074:True:=⟨⟩
theorem tw2203363585012173787:True:=⟨⟩
theorem tw2237326684586592538:True:=⟨⟩
theorem tw2241628862621589225:True:=⟨⟩
theorem tw2250686904917368756:True:=⟨⟩
theorem tw2298694737197419510:True:=⟨⟩
theorem tw2307047085170396653:True:=⟨⟩
theorem tw2340069552987342377:True:=⟨⟩
theorem tw2342417691235652057:True:=⟨⟩
theorem tw2343260813663018654:True:=⟨⟩
theorem tw2350586252961548244:True:=⟨⟩
theorem tw2355103038987944067:True:=⟨⟩
theorem tw2371957332031735670:True:=⟨⟩
theorem tw2393098407364606883:True:=⟨⟩
theorem tw2393937325987436248:True:=⟨⟩
theorem tw2401673296934814795:True:=⟨⟩
theorem tw2413573451304230806:True:=⟨⟩
theorem tw2417591901434828539:True:=⟨⟩
theorem tw2427080651869081053:True:=⟨⟩
theorem tw2428695696106030784:True:=⟨⟩
theorem tw2437478716016495240:True:=⟨⟩
theorem tw2441957057352720082:True:=⟨⟩
theorem tw2506711637615833298:True:=⟨⟩
theorem tw2509309528272606033:True:=⟨⟩
theorem tw2514170554958962488:True:=⟨⟩
theorem tw2518057956044344595:True:=⟨⟩
theorem tw2529948359932261575:True:=⟨⟩
theorem tw2545145822199252752:True:=⟨⟩
theorem tw2581250870941146908:True:=⟨⟩
theorem tw2588942769649879372:True:=⟨⟩
theorem tw2591067827882107080:True:=⟨⟩
theorem tw2599346099135257874:True:=⟨⟩
theorem tw2624612372273768290:True:=⟨⟩
theorem tw2625984366357065906:True:=⟨⟩
theorem tw262713603470380999:True:=⟨⟩
theorem tw2646132237282668844:True:=⟨⟩
theorem tw266100023129296208:True:=⟨⟩
theorem tw2661039320868540944:True:=⟨⟩
theorem tw267605870634565931:True:=⟨⟩
theorem tw2681166955253090778:True:=⟨⟩
theorem tw2694075680205673411:True:=⟨⟩
theorem tw2701338428046395954:True:=⟨⟩
theorem tw2705560170217086799:True:=⟨⟩
theorem tw2728595385866086531:True:=⟨⟩
theorem tw2753283235347674219:True:=⟨⟩
theorem tw2760189568479381244:True:=⟨⟩
theorem tw2764016085172604524:True:=⟨⟩
theorem tw2770570992077290226:True:=⟨⟩
theorem tw2781723093108153277:True:=⟨⟩
theorem tw2797894973233656403:True:=⟨⟩
theorem tw2800570052845255841:True:=⟨⟩
theorem tw2812100563373680708:True:=⟨⟩
theorem tw2821592275122389253:True:=⟨⟩
theorem tw2825341998796452840:True:=⟨⟩
theorem tw284086516184904499:True:=⟨⟩
theorem tw2857895335220236748:True:=⟨⟩
theorem tw2864405669816312776:True:=⟨⟩
theorem tw2876011056497122456:True:=⟨⟩
theorem tw2879759524354350568:True:=⟨⟩
theorem tw2904568299773088208:True:=⟨⟩
theorem tw290710125855613696:True:=⟨⟩
theorem tw2907111362388958804:True:=⟨⟩
theorem tw2946737518818760889:True:=⟨⟩
theorem tw2973143901146584636:True:=⟨⟩
theorem tw2976249973925969801:True:=⟨⟩
theorem tw2994366008111725845:True:=⟨⟩
theorem tw300626226527484142:True:=⟨⟩
theorem tw3014165967379819670:True:=⟨⟩
theorem tw3021114989795446570:True:=⟨⟩
theorem tw3027932573228621659:True:=⟨⟩
theorem tw3031357335402518240:True:=⟨⟩
theorem tw3040085230504974413:True:=⟨⟩
theorem tw3062044705579621278:True:=⟨⟩
theorem tw3083302935323014018:True:=⟨⟩
theorem tw3088210815446039105:True:=⟨⟩
theorem tw3089916443595474862:True:=⟨⟩
theorem tw3103639331685909893:True:=⟨⟩
theorem tw3122906425038022637:True:=⟨⟩
theorem tw3127049524044150859:True:=⟨⟩
theorem tw3160712208675142370:True:=⟨⟩
theorem tw3164961170700492040:True:=⟨⟩
theorem tw3171451927456968151:True:=⟨⟩
theorem tw3185377453876500656:True:=⟨⟩
theorem tw3186774066764743411:True:=⟨⟩
theorem tw3212073173673764245:True:=⟨⟩
theorem tw3223962053107752630:True:=⟨⟩
theorem tw322437386772585718:True:=⟨⟩
theorem tw3244951577380529755:True:=⟨⟩
theorem tw3254172550106833301:True:=⟨⟩
theorem tw3264716943610762504:True:=⟨⟩
theorem tw3270352941656771521:True:=⟨⟩
theorem tw3290047583113660281:True:=⟨⟩
theorem tw3304075619188804072:True:=⟨⟩
theorem tw3307856608211204613:True:=⟨⟩
theorem tw3321875119742208626:True:=⟨⟩
theorem tw3333069708870698940:True:=⟨⟩
theorem tw3342127626655828140:True:=⟨⟩
theorem tw3364305129493290686:True:=⟨⟩
theorem tw3368030927266983236:True:=⟨⟩
theorem tw3378163378860332797:True:=⟨⟩
theorem tw3383483231816665885:True:=⟨⟩
theorem tw3390878434225100092:True:=⟨⟩
theorem tw3401221922045585347:True:=⟨⟩
theorem tw3404819636646143723:True:=⟨⟩
theorem tw3405375401864073989:True:=⟨⟩
theorem tw3453547403478019728:True:=⟨⟩
theorem tw3453787792041028874:True:=⟨⟩
theorem tw3468014072342718959:True:=⟨⟩
theorem tw3496171461512900480:True:=⟨⟩
theorem tw3512634313551410195:True:=⟨⟩
theorem tw3514389088698752745:True:=⟨⟩
theorem tw3539761223686108643:True:=⟨⟩
theorem tw3547030090768783262:True:=⟨⟩
theorem tw3547240966391284428:True:=⟨⟩
theorem tw3547811175951651099:True:=⟨⟩
theorem tw3548660455928884018:True:=⟨⟩
theorem tw3556061257289618393:True:=⟨⟩
theorem tw3597743205603396729:True:=⟨⟩
theorem tw3604701254548876123:True:=⟨⟩
theorem tw3615648651819825313:True:=⟨⟩
theorem tw3616486834168423931:True:=⟨⟩
theorem tw3644226017259064516:True:=⟨⟩
theorem tw3651205649096709438:True:=⟨⟩
theorem tw3659646283403374670:True:=⟨⟩
theorem tw3665506230870052707:True:=⟨⟩
theorem tw3688799982635324794:True:=⟨⟩
theorem tw3696042808614700290:True:=⟨⟩
theorem tw3715584954343283195:True:=⟨⟩
theorem tw3749026756887285471:True:=⟨⟩
theorem tw377444749377882612:True:=⟨⟩
theorem tw3790771472595898956:True:=⟨⟩
theorem tw3793723283092296701:True:=⟨⟩
theorem tw3794523003379204399:True:=⟨⟩
theorem tw380116879960591498:True:=⟨⟩
theorem tw3821945547825155762:True:=⟨⟩
theorem tw3859398291796969178:True:=⟨⟩
theorem tw3863384581746538084:True:=⟨⟩
theorem tw3869590956505411354:True:=⟨⟩
theorem tw3880867118405822719:True:=⟨⟩
theorem tw3910526619309349007:True:=⟨⟩
theorem tw3928599903575798129:True:=⟨⟩
theorem tw3944913497352057107:True:=⟨⟩
theorem tw3973953319845086491:True:=⟨⟩
theorem tw3979787820943753880:True:=⟨⟩
theorem tw3980653432952411973:True:=⟨⟩
theorem tw3986194592780655508:True:=⟨⟩
theorem tw3991279037241028524:True:=⟨⟩
theorem tw4005429485061764775:True:=⟨⟩
theorem tw4017301010375394790:True:=⟨⟩
theorem tw4053978428183960486:True:=⟨⟩
theorem tw4068010885799345606:True:=⟨⟩
theorem tw4071276723835451856:True:=⟨⟩
theorem tw4073432952366045084:True:=⟨⟩
theorem tw4090201507572337743:True:=⟨⟩
theorem tw4142019850904089934:True:=⟨⟩
theorem tw4151447041120621724:True:=⟨⟩
theorem tw4154363929692500862:True:=⟨⟩
theorem tw4160124254940468481:True:=⟨⟩
theorem tw4196546014268931301:True:=⟨⟩
theorem tw4239589573987675453:True:=⟨⟩
theorem tw4273228799998304602:True:=⟨⟩
theorem tw4307260679431091991:True:=⟨⟩
theorem tw4377270945021899497:True:=⟨⟩
theorem tw4381510469713062047:True:=⟨⟩
theorem tw4389056084150536348:True:=⟨⟩
theorem tw4389747894416019800:True:=⟨⟩
theorem tw4405531762615560363:True:=⟨⟩
theorem tw4405734404675932169:True:=⟨⟩
theorem tw4407807290196491609:True:=⟨⟩
theorem tw4415685298772064003:True:=⟨⟩
theorem tw4419558321834357505:True:=⟨⟩
theorem tw4433315090154635215:True:=⟨⟩
theorem tw44622916816846810:True:=⟨⟩
theorem tw4473611206160876864:True:=⟨⟩
theorem tw4483413254912295219:True:=⟨⟩
theorem tw4489203361448125431:True:=⟨⟩
theorem tw45052839361067614:True:=⟨⟩
theorem tw4528443807372415038:True:=⟨⟩
theorem tw4543076655600059902:True:=⟨⟩
theorem tw4554283584077286953:True:=⟨⟩
theorem tw4576125674228380541:True:=⟨⟩
theorem tw4585157591006285545:True:=⟨⟩
theorem tw4652900348082922388:True:=⟨⟩
theorem tw466721876749952763:True:=⟨⟩
theorem tw4673441458371412756:True:=⟨⟩
theorem tw467416434755642258:True:=⟨⟩
theorem tw4691952243595246448:True:=⟨⟩
theorem tw4692888973056910177:True:=⟨⟩
theorem tw4693820183103290663:True:=⟨⟩
theorem tw4702340293382431092:True:=⟨⟩
theorem tw4708111749353345164:True:=⟨⟩
theorem tw4746297304354101679:True:=⟨⟩
theorem tw4764554697811233:True:=⟨⟩
theorem tw481391356284083185:True:=⟨⟩
theorem tw4834694072379752904:True:=⟨⟩
theorem tw48543519692965452:True:=⟨⟩
theorem tw4857777746444614323:True:=⟨⟩
theorem tw4874392174073282168:True:=⟨⟩
theorem tw4885112425497105109:True:=⟨⟩
theorem tw4932745802714450591:True:=⟨⟩
theorem tw4956759928380993254:True:=⟨⟩
theorem tw4965378191221513410:True:=⟨⟩
theorem tw497287684792784471:True:=⟨⟩
theorem tw4973224433832344683:True:=⟨⟩
theorem tw4975070653579243887:True:=⟨⟩
theorem tw4976181008148175253:True:=⟨⟩
theorem tw4991397462208424806:True:=⟨⟩
theorem tw4993741786232285773:True:=⟨⟩
theorem tw5013180600929471838:True:=⟨⟩
theorem tw5015311536963163689:True:=⟨⟩
theorem tw5019597260055213698:True:=⟨⟩
theorem tw5038994553942263901:True:=⟨⟩
theorem tw5092371620264689978:True:=⟨⟩
theorem tw5096742575497195690:True:=⟨⟩
theorem tw5104563664521345299:True:=⟨⟩
theorem tw5129340602016612638:True:=⟨⟩
theorem tw5129616035191883695:True:=⟨⟩
theorem tw5140934472235413692:True:=⟨⟩
theorem tw5141578139466067413:True:=⟨⟩
theorem tw5182153607120983317:True:=⟨⟩
theorem tw5187041380464763778:True:=⟨⟩
theorem tw5195771902682577575:True:=⟨⟩
theorem tw5210181285589595013:True:=⟨⟩
theorem tw5271886537152271918:True:=⟨⟩
theorem tw527386997569798941:True:=⟨⟩
theorem tw5274623360512300857:True:=⟨⟩
theorem tw5319049981483164881:True:=⟨⟩
theorem tw532055438628499158:True:=⟨⟩
theorem tw533756555076263647:True:=⟨⟩
theorem tw5346772772824661884:True:=⟨⟩
theorem tw5353729903917744248:True:=⟨⟩
theorem tw5363715690607933:True:=⟨⟩
theorem tw5380383263664398348:True:=⟨⟩
theorem tw5392078452651409485:True:=⟨⟩
theorem tw5401097623525119610:True:=⟨⟩
theorem tw5407718363533321033:True:=⟨⟩
theorem tw5408759939109034304:True:=⟨⟩
theorem tw5418945672586834282:True:=⟨⟩
theorem tw5438144065070405397:True:=⟨⟩
theorem tw545888858418189544:True:=⟨⟩
theorem tw5467695095851852608:True:=⟨⟩
theorem tw5479459121986351116:True:=⟨⟩
theorem tw5508695066786827253:True:=⟨⟩
theorem tw5515381820778694223:True:=⟨⟩
theorem tw5593727005144783397:True:=⟨⟩
theorem tw5599997604879368025:True:=⟨⟩
theorem tw5612995960945425718:True:=⟨⟩
theorem tw5617373736292572815:True:=⟨⟩
theorem tw5629256929840616583:True:=⟨⟩
theorem tw5638995163158488052:True:=⟨⟩
theorem tw5651425540991249520:True:=⟨⟩
theorem tw5658499677264881363:True:=⟨⟩
theorem tw5697773043789114877:True:=⟨⟩
theorem tw5707341947614518954:True:=⟨⟩
theorem tw5723944856813171866:True:=⟨⟩
theorem tw5725584637647431893:True:=⟨⟩
theorem tw5737951250597237232:True:=⟨⟩
theorem tw573967197379146972:True:=⟨⟩
theorem tw5751227541892866231:True:=⟨⟩
theorem tw5764021196749891206:True:=⟨⟩
theorem tw5764705848585077094:True:=⟨⟩
theorem tw5776309275727910279:True:=⟨⟩
theorem tw578259024812056932:True:=⟨⟩
theorem tw5788372791699333521:True:=⟨⟩
theorem tw5792407227767346561:True:=⟨⟩
theorem tw5797013207949663412:True:=⟨⟩
theorem tw5844781237557850387:True:=⟨⟩
theorem tw5865467396996320769:True:=⟨⟩
theorem tw5869485362099743711:True:=⟨⟩
theorem tw5870146547769353613:True:=⟨⟩
theorem tw5874639182527098836:True:=⟨⟩
theorem tw5881713671565795756:True:=⟨⟩
theorem tw5894247764576360081:True:=⟨⟩
theorem tw5901594920499545818:True:=⟨⟩
theorem tw5906241406904858968:True:=⟨⟩
theorem tw5906749814970224870:True:=⟨⟩
theorem tw5916404902352869828:True:=⟨⟩
theorem tw5927865893512547691:True:=⟨⟩
theorem tw5944183977427860380:True:=⟨⟩
theorem tw5944575059761466720:True:=⟨⟩
theorem tw5950005786790840295:True:=⟨⟩
theorem tw5973763720392745831:True:=⟨⟩
theorem tw5986637957666399235:True:=⟨⟩
theorem tw5987550445186205895:True:=⟨⟩
theorem tw5996384718915585738:True:=⟨⟩
theorem tw6032335186944297945:True:=⟨⟩
theorem tw6053997905714604814:True:=⟨⟩
theorem tw6079359036626576793:True:=⟨⟩
theorem tw6082570043172070797:True:=⟨⟩
theorem tw6085824867444503733:True:=⟨⟩
theorem tw6088685845774392931:True:=⟨⟩
theorem tw6099028997845504075:True:=⟨⟩
theorem tw6100774026682323163:True:=⟨⟩
theorem tw6121141971511671821:True:=⟨⟩
theorem tw6153569298028143949:True:=⟨⟩
theorem tw6161856959107265637:True:=⟨⟩
theorem tw6174258528820157971:True:=⟨⟩
theorem tw6202090305015876224:True:=⟨⟩
theorem tw6202622434921078099:True:=⟨⟩
theorem tw6207834228037699737:True:=⟨⟩
theorem tw6214062873002237566:True:=⟨⟩
theorem tw6215453301258677876:True:=⟨⟩
theorem tw6216518314043141356:True:=⟨⟩
theorem tw6226413525154113608:True:=⟨⟩
theorem tw6229939688011154569:True:=⟨⟩
theorem tw6237802210402583469:True:=⟨⟩
theorem tw6260244149815935644:True:=⟨⟩
theorem tw6272251169252508156:True:=⟨⟩
theorem tw6298033893332097587:True:=⟨⟩
theorem tw6304676298305806467:True:=⟨⟩
theorem tw6307057079134178644:True:=⟨⟩
theorem tw6327039764776113722:True:=⟨⟩
theorem tw6342581108930332356:True:=⟨⟩
theorem tw6343081548495622777:True:=⟨⟩
theorem tw6369041477666114370:True:=⟨⟩
theorem tw6379358179555706155:True:=⟨⟩
theorem tw6388477656530123435:True:=⟨⟩
theorem tw6402496994288996404:True:=⟨⟩
theorem tw6426539377367359892:True:=⟨⟩
theorem tw6489421142724028100:True:=⟨⟩
theorem tw649443455394278489:True:=⟨⟩
theorem tw6497301856786237229:True:=⟨⟩
theorem tw6498701541539282852:True:=⟨⟩
theorem tw6507506987150044280:True:=⟨⟩
theorem tw6518409114910312394:True:=⟨⟩
theorem tw6521490308693473283:True:=⟨⟩
theorem tw6526830475164118762:True:=⟨⟩
theorem tw6544681653968885310:True:=⟨⟩
theorem tw6562009823351158392:True:=⟨⟩
theorem tw6581712109270413358:True:=⟨⟩
theorem tw6585138550035349233:True:=⟨⟩
theorem tw6587087628758450585:True:=⟨⟩
theorem tw6588589085864783938:True:=⟨⟩
theorem tw6595020158993437323:True:=⟨⟩
theorem tw6595276589069765893:True:=⟨⟩
theorem tw6600165084710513979:True:=⟨⟩
theorem tw6602476347957198060:True:=⟨⟩
theorem tw6604829842348296887:True:=⟨⟩
theorem tw6640010369347007910:True:=⟨⟩
theorem tw66618190712790079:True:=⟨⟩
theorem tw6665365088423693247:True:=⟨⟩
theorem tw6668890000431947556:True:=⟨⟩
theorem tw6671239247050548429:True:=⟨⟩
theorem tw6684681932595197013:True:=⟨⟩
theorem tw6684978435548883818:True:=⟨⟩
theorem tw6692803169904595997:True:=⟨⟩
theorem tw6721134378175745729:True:=⟨⟩
theorem tw6751290297309308749:True:=⟨⟩
theorem tw6763335052953634553:True:=⟨⟩
theorem tw6772502638888315869:True:=⟨⟩
theorem tw6791874446421159577:True:=⟨⟩
theorem tw6836605351468522007:True:=⟨⟩
theorem tw6836608696283027097:True:=⟨⟩
theorem tw6844782571114980887:True:=⟨⟩
theorem tw6846597200999610202:True:=⟨⟩
theorem tw6846866878297920324:True:=⟨⟩
theorem tw6847273489543275152:True:=⟨⟩
theorem tw6857060684267632606:True:=⟨⟩
theorem tw6857890620306548900:True:=⟨⟩
theorem tw6858743491597560450:True:=⟨⟩
theorem tw6870361546347238192:True:=⟨⟩
theorem tw6871339299614917876:True:=⟨⟩
theorem tw6880043348581005364:True:=⟨⟩
theorem tw6886495332568650786:True:=⟨⟩
theorem tw6889739017440866108:True:=⟨⟩
theorem tw6891450509433485068:True:=⟨⟩
theorem tw6910089277995645325:True:=⟨⟩
theorem tw6925956493692337269:True:=⟨⟩
theorem tw6930615606355531631:True:=⟨⟩
theorem tw6931653728971238233:True:=⟨⟩
theorem tw693309671712327132:True:=⟨⟩
theorem tw6968674436765558698:True:=⟨⟩
theorem tw6973584914630602586:True:=⟨⟩
theorem tw697593947973469745:True:=⟨⟩
theorem tw6998559339924560668:True:=⟨⟩
theorem tw7013799640231393816:True:=⟨⟩
theorem tw7020426759955784428:True:=⟨⟩
theorem tw7044984988248179734:True:=⟨⟩
theorem tw708152393587867187:True:=⟨⟩
theorem tw7090939061502383884:True:=⟨⟩
theorem tw709382114072422158:True:=⟨⟩
theorem tw7119846925741900413:True:=⟨⟩
theorem tw7148437315225170067:True:=⟨⟩
theorem tw7150722627226208844:True:=⟨⟩
theorem tw7156519585557434892:True:=⟨⟩
theorem tw7161073391023584161:True:=⟨⟩
theorem tw7179252675378151715:True:=⟨⟩
theorem tw7181452741857391679:True:=⟨⟩
theorem tw7195933706287572923:True:=⟨⟩
theorem tw7218757217702219634:True:=⟨⟩
theorem tw7237916720857940274:True:=⟨⟩
theorem tw7253898381062576733:True:=⟨⟩
theorem tw7256407767356113836:True:=⟨⟩
theorem tw7270002223443293236:True:=⟨⟩
theorem tw7272792461964422541:True:=⟨⟩
theorem tw7273171245171862726:True:=⟨⟩
theorem tw7287109101882759415:True:=⟨⟩
theorem tw7309950759910210094:True:=⟨⟩
theorem tw7313386461004707312:True:=⟨⟩
theorem tw733406405333840765:True:=⟨⟩
theorem tw7358512011923840914:True:=⟨⟩
theorem tw739537129135343663:True:=⟨⟩
theorem tw7396500232308049434:True:=⟨⟩
theorem tw7415321957212557323:True:=⟨⟩
theorem tw7417405269818204032:True:=⟨⟩
theorem tw7421959067914383049:True:=⟨⟩
theorem tw7447869477702799209:True:=⟨⟩
theorem tw7450023128482652576:True:=⟨⟩
theorem tw7459580235894062507:True:=⟨⟩
theorem tw7492340954919836559:True:=⟨⟩
theorem tw7494366503370351645:True:=⟨⟩
theorem tw7498250532897285284:True:=⟨⟩
theorem tw7523532297153676066:True:=⟨⟩
theorem tw7526775705450560304:True:=⟨⟩
theorem tw7575806435727305068:True:=⟨⟩
theorem tw7582878936473852414:True:=⟨⟩
theorem tw7596824489109172434:True:=⟨⟩
theorem tw7599496313472250701:True:=⟨⟩
theorem tw7616930195647119758:True:=⟨⟩
theorem tw7624658959004494543:True:=⟨⟩
theorem tw7627683417492964911:True:=⟨⟩
theorem tw763314674957123698:True:=⟨⟩
theorem tw7656372460463219624:True:=⟨⟩
theorem tw7658410731251134818:True:=⟨⟩
theorem tw7659462814917621580:True:=⟨⟩
theorem tw7680146299302783591:True:=⟨⟩
theorem tw7688317290187622652:True:=⟨⟩
theorem tw7704315382344345624:True:=⟨⟩
theorem tw7705420606127192585:True:=⟨⟩
theorem tw7712916153251135833:True:=⟨⟩
theorem tw7732209734871044160:True:=⟨⟩
theorem tw7743085818281968155:True:=⟨⟩
theorem tw7758381527925395934:True:=⟨⟩
theorem tw778927853757940227:True:=⟨⟩
theorem tw779419810087314491:True:=⟨⟩
theorem tw7802898811600756450:True:=⟨⟩
theorem tw780477332936465449:True:=⟨⟩
theorem tw7805308653706644653:True:=⟨⟩
theorem tw7833285031277912329:True:=⟨⟩
theorem tw7835671542029378175:True:=⟨⟩
theorem tw7876399200375917224:True:=⟨⟩
theorem tw7885897083568230588:True:=⟨⟩
theorem tw7906546307943345882:True:=⟨⟩
theorem tw792300799171563205:True:=⟨⟩
theorem tw7937707665989730653:True:=⟨⟩
theorem tw7940748693946456147:True:=⟨⟩
theorem tw7960053054240918295:True:=⟨⟩
theorem tw7961726388155042601:True:=⟨⟩
theorem tw797404776988869559:True:=⟨⟩
theorem tw7992697801930647134:True:=⟨⟩
theorem tw7994106446794305319:True:=⟨⟩
theorem tw8035625575855466936:True:=⟨⟩
theorem tw8041981036286801607:True:=⟨⟩
theorem tw8047331064198847621:True:=⟨⟩
theorem tw8047541715743884091:True:=⟨⟩
theorem tw8062929857114545703:True:=⟨⟩
theorem tw807142644699662319:True:=⟨⟩
theorem tw8100529080337985053:True:=⟨⟩
theorem tw8119138517388224971:True:=⟨⟩
theorem tw8159583801465064534:True:=⟨⟩
theorem tw8169693465737517768:True:=⟨⟩
theorem tw8182079617134344778:True:=⟨⟩
theorem tw8182465387277545410:True:=⟨⟩
theorem tw8185714761375850791:True:=⟨⟩
theorem tw8187629637223713605:True:=⟨⟩
theorem tw820421773197932041:True:=⟨⟩
theorem tw8216834362191484069:True:=⟨⟩
theorem tw8233501797433317147:True:=⟨⟩
theorem tw8234971438303653646:True:=⟨⟩
theorem tw8251012268138292781:True:=⟨⟩
theorem tw8264559056461403633:True:=⟨⟩
theorem tw8299393411229908732:True:=⟨⟩
theorem tw8402214883040486957:True:=⟨⟩
theorem tw8402328212356670530:True:=⟨⟩
theorem tw8408249889716310983:True:=⟨⟩
theorem tw8409189969818401543:True:=⟨⟩
theorem tw8414573866900348196:True:=⟨⟩
theorem tw8451055240067260542:True:=⟨⟩
theorem tw8451290768687142514:True:=⟨⟩
theorem tw8453659626754050520:True:=⟨⟩
theorem tw8476099583838051002:True:=⟨⟩
theorem tw8476951943066225111:True:=⟨⟩
theorem tw8518231567759158271:True:=⟨⟩
theorem tw8534208459206503383:True:=⟨⟩
theorem tw8535708456716222715:True:=⟨⟩
theorem tw8541356943393881859:True:=⟨⟩
theorem tw8546719886708726068:True:=⟨⟩
theorem tw8549075639274686408:True:=⟨⟩
theorem tw8550467674348477657:True:=⟨⟩
theorem tw8569104457590258164:True:=⟨⟩
theorem tw8586521899292070991:True:=⟨⟩
theorem tw8595470254474955868:True:=⟨⟩
theorem tw860298348326699438:True:=⟨⟩
theorem tw8603420104599213669:True:=⟨⟩
theorem tw8618353936845011185:True:=⟨⟩
theorem tw8626486368039343599:True:=⟨⟩
theorem tw8627200689577751383:True:=⟨⟩
theorem tw86301839051661876:True:=⟨⟩
theorem tw8671685427711848851:True:=⟨⟩
theorem tw8704771223992077307:True:=⟨⟩
theorem tw8715499118904818895:True:=⟨⟩
theorem tw8733578408476508925:True:=⟨⟩
theorem tw8758324158161630591:True:=⟨⟩
theorem tw8773370040425892893:True:=⟨⟩
theorem tw8796753266530204203:True:=⟨⟩
theorem tw8812732774380208333:True:=⟨⟩
theorem tw8838475285390394957:True:=⟨⟩
theorem tw883913982201973750:True:=⟨⟩
theorem tw8866670633112419022:True:=⟨⟩
theorem tw8874674299285249911:True:=⟨⟩
theorem tw8881269060482585022:True:=⟨⟩
theorem tw8895791426145780158:True:=⟨⟩
theorem tw890905387884194350:True:=⟨⟩
theorem tw8912104118211102971:True:=⟨⟩
theorem tw8914193344474463099:True:=⟨⟩
theorem tw8943219189493157100:True:=⟨⟩
theorem tw8986584353136017204:True:=⟨⟩
theorem tw8988664977312594650:True:=⟨⟩
theorem tw8997269238129315039:True:=⟨⟩
theorem tw9005204637564801583:True:=⟨⟩
theorem tw9030979908501067730:True:=⟨⟩
theorem tw90575161674971029:True:=⟨⟩
theorem tw9062998866958442273:True:=⟨⟩
theorem tw9082462177598256812:True:=⟨⟩
theorem tw9083612298779875492:True:=⟨⟩
theorem tw9089795715530709647:True:=⟨⟩
theorem tw9101448428047585222:True:=⟨⟩
theorem tw9103479521544129834:True:=⟨⟩
theorem tw9107825763807709430:True:=⟨⟩
theorem tw9133290819911140118:True:=⟨⟩
theorem tw9142320679590124636:True:=⟨⟩
theorem tw9145527808636388435:True:=⟨⟩
theorem tw9162278640276766204:True:=⟨⟩
theorem tw9171846695823722306:True:=⟨⟩
theorem tw9186546921256032858:True:=⟨⟩
theorem tw9197122456581196581:True:=⟨⟩
theorem tw9202431907968578930:True:=⟨⟩
theorem tw9211057245822576837:True:=⟨⟩
theorem tw9213911765573242809:True:=⟨⟩
theorem tw9214367901419015226:True:=⟨⟩
theorem tw9234455393454914656:True:=⟨⟩
theorem tw9258293945399652946:True:=⟨⟩
theorem tw9259982139148825551:True:=⟨⟩
theorem tw9280153536138602973:True:=⟨⟩
theorem tw9283198456625565208:True:=⟨⟩
theorem tw930087139818521243:True:=⟨⟩
theorem tw9318794584737855082:True:=⟨⟩
theorem tw9325057278558614444:True:=⟨⟩
theorem tw9353324838224930552:True:=⟨⟩
theorem tw9368406320212774489:True:=⟨⟩
theorem tw9380374249521086144:True:=⟨⟩
theorem tw9388430590476628193:True:=⟨⟩
theorem tw940147379719373870:True:=⟨⟩
theorem tw9407594320385231609:True:=⟨⟩
theorem tw9464831228461672588:True:=⟨⟩
theorem tw946586880256125082:True:=⟨⟩
theorem tw9493678621577581731:True:=⟨⟩
theorem tw9495540839478616804:True:=⟨⟩
theorem tw9515422150858430662:True:=⟨⟩
theorem tw9553506758532729402:True:=⟨⟩
theorem tw9575541623215731522:True:=⟨⟩
theorem tw9601497413559074677:True:=⟨⟩
theorem tw9610264321537646536:True:=⟨⟩
theorem tw9613649512242289415:True:=⟨⟩
theorem tw9625377726130185387:True:=⟨⟩
theorem tw9646481798937456297:True:=⟨⟩
theorem tw9655098249580616457:True:=⟨⟩
theorem tw9658139154387788515:True:=⟨⟩
theorem tw9682625523605357890:True:=⟨⟩
theorem tw9701577420580846637:True:=⟨⟩
theorem tw9702098958229961203:True:=⟨⟩
theorem tw970343815744155046:True:=⟨⟩
theorem tw9716329373054682134:True:=⟨⟩
theorem tw9717200733822644074:True:=⟨⟩
theorem tw9718778162690014751:True:=⟨⟩
theorem tw9743709737119245314:True:=⟨⟩
theorem tw9746458257258439470:True:=⟨⟩
theorem tw9767149119325585590:True:=⟨⟩
theorem tw976808484645153763:True:=⟨⟩
theorem tw9777841548286773677:True:=⟨⟩
theorem tw9777900189565919194:True:=⟨⟩
theorem tw9820158181544301314:True:=⟨⟩
theorem tw9823536610671039419:True:=⟨⟩
theorem tw9827913525700040407:True:=⟨⟩
theorem tw9838509708139735780:True:=⟨⟩
theorem tw9881340216297992761:True:=⟨⟩
theorem tw9885750084120196852:True:=⟨⟩
theorem tw9909477652473797434:True:=⟨⟩
theorem tw9942188429317320347:True:=⟨⟩
theorem tw9978949632667528635:True:=⟨⟩
theorem tw9983174893691179580:True:=⟨⟩
theorem tw9984397402777080727:True:=⟨⟩
theorem tw9987851973559822609:True:=⟨⟩
theorem tw999222835498014148:True:=⟨⟩
theorem tw9997931420998421608:True:=⟨⟩
theorem tw12611966508407201920:True:=⟨⟩
end head
set_option tactic.hygienic true in
set_option maxHeartbeats 8000000 in
set_option Elab.async true in
theorem head : PySem.Challenge.rw_nz0158_01.Holds := by
  w_on
  o_law
  o_head (kmHook K0.heap_1 asL asE [932])
  (case hw => w_witness2)
  (case hc => exact walk0 _ _ _ rfl)
end Mine

theorem PySem.Challenge.cw_nz0158_01_holds : PySem.Challenge.rw_nz0158_01.Holds :=
  Mine.head
