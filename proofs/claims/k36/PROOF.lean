import PyProof.Rows.All
import Wide.All
import OpenK.AllK
import Wide.FinOn
import HandS.GenYield
import HandS.Base
import HandS.Call
import HandS.List
import HandS.Comp
import HandS.Ends
import HandS.EndBits
import HandS.More
import HandS.Words
import PyProof.ReprRoads
import HandS.ForMost
import HandS.Star
import HandS.Defaults
import HandS.ClsMeth
import HandS.Property
import HandS.MakeKwOnly
import HandS.IsInst
import HandS.Conv
import HandS.DictComp
import HandS.SortInts
import HandS.Wide
import HandS.WideBits
import HandS.GenList
import PySem.Challenge.RW_threeswaps_k36_whole_streams_hold_so_man
set_option Elab.async false
section
set_option linter.all false
set_option maxRecDepth 100000
set_option maxHeartbeats 1000000
/-! a for that yields, within a generator def -/
namespace My
open PySem PySem.Spec PyProof.Rows GenW L2

section
variable {M : Model} {A : Around} {R : GenEnd} {Y : Protocol} {n : Nat} {s₀ : Shared} {c : Code} {fs : List Frame} {s : Shared} {env : Env}
  {K : Flow → Sem PySem.Fin} {J : Value → Sem PySem.Fin} {gd : Bool → Bool} {lv : List Value → List Value}
/-- the statement's head: what is walked, its iterator, then the loop's own code -/
theorem seg_forHead {target iter : Expr} {body orelse : List Stmt} {pos : Pos}
    (hs : ∀ x, foldedSetIterable iter env x = pure x)
    (h : wpAny M (A.over c fs) (eval iter env) (fun x s1 => wpAny M (A.over c fs) (pyIter x) (fun it s2 =>
        ∀ p, Seg M A R Y n s₀ (.forLoop target it body orelse env) (M.den (.forLoop target it body orelse env))
          (.ret (fun r => ((match r with | .ok f => (.pure f : Sem Flow) | .error e => .raise e).onRaise (L2.cameBack env)).wrap K J gd lv) none (gd false) (lv []) c p [] :: fs) s2)
        (fun x s' => Seg M A R Y n s₀ c (J x) fs s') s1) (fun x s' => Seg M A R Y n s₀ c (J x) fs s') s) :
    Seg M A R Y n s₀ c ((exec (.For target iter body orelse pos) env).wrap K J gd lv) fs s := by
  rw [exec_For]
  show Seg M A R Y n s₀ c (.at pos fun _ => ((eval iter env >>= fun y => foldedSetIterable iter env y >>= fun x => standAt iter.pos >>= fun _ => holding [x] (pyIter x) >>= fun it => runOwn (.forLoop target it body orelse env) env).wrap K J gd lv)) fs s
  refine seg_at ?_
  rw [Sem.bind_eq_wrap', Sem.wrap_wrap]
  refine seg_wrap (wpAny_mono h (fun x s1 h1 => ?_) fun _ _ q => q)
  show Seg M A R Y n s₀ c ((foldedSetIterable iter env x >>= fun x => standAt iter.pos >>= fun _ => holding [x] (pyIter x) >>= fun it => runOwn (.forLoop target it body orelse env) env).wrap K J gd lv) fs s1
  rw [hs x]
  show Seg M A R Y n s₀ c (.at iter.pos fun _ => ((holding [x] (pyIter x) >>= fun it => runOwn (.forLoop target it body orelse env) env).wrap K J gd lv)) fs s1
  refine seg_at ?_
  rw [Sem.bind_eq_wrap', Sem.wrap_wrap]
  refine seg_wrap (wpAny_holding (wpAny_mono h1 (fun it s2 h2 => ?_) fun _ _ q => q))
  exact seg_call h2
end

section
variable {prog : Program} {w : World} {A : Around} {R : GenEnd} {Y : Protocol} {n : Nat} {s₀ : Shared} {fs : List Frame} {s : Shared} {env : Env}
/-- what is noted of an exception that leaves a turn -/
abbrev notes (env : Env) (e : Value) : Sem PySem.Fin := (do noteFrame e env; theTreesLotGoes e : Sem Unit).wrap (fun _ => .raise e) .raise id id
theorem seg_forTurn {target : Expr} {it : Value} {body orelse : List Stmt} {EE : Value → Shared → Prop}
    (hE : ∀ x s', EE x s' → Seg (model prog w) A R Y n s₀ (.forLoop target it body orelse env) (notes env x) fs s')
    (h : wpAny (model prog w) (A.over (.forLoop target it body orelse env) fs) (pyNext it) (fun r s1 => match r with
        | none => Seg (model prog w) A R Y n s₀ (.forLoop target it body orelse env) (.pure (.again (.block orelse env))) fs s1
        | some v => wpAny (model prog w) (A.over (.forLoop target it body orelse env) fs) (letOwnedTupleGo target it v) (fun _ s2 =>
            wpAny (model prog w) (A.over (.forLoop target it body orelse env) fs) (assign target env v) (fun _ s3 =>
              Seg (model prog w) A R Y n s₀ (.forLoop target it body orelse env) ((execs body env).wrap (fun f => match f with
                | .next | .cont => .pure (.again (.forLoop target it body orelse env))
                | .brk => .pure (.done .next)
                | .ret v => .pure (.done (.ret v))) (notes env) id id) fs s3) EE s2) EE s1) EE s) :
    Seg (model prog w) A R Y n s₀ (.forLoop target it body orelse env) ((model prog w).den (.forLoop target it body orelse env)) fs s := by
  show Seg _ A R Y n s₀ _ ((forTurn target it body orelse env).onRaise (fun x => do noteFrame x env; theTreesLotGoes x)) fs s
  have hN : ∀ e : Value, ((do noteFrame e env; theTreesLotGoes e : Sem Unit).bind fun _ => (Sem.raise e : Sem PySem.Fin)) = notes env e := fun e => Sem.bind_eq_wrap _ _
  unfold forTurn
  rw [Sem.onRaise_eq_wrap]
  refine seg_at ?_
  show Seg _ A R Y n s₀ _ (Sem.wrap _ _ _ _ (Sem.bind ((pyNext it).onRaise _) _)) fs s
  rw [Sem.bind_eq_wrap, Sem.wrap_wrap, Sem.onRaise_eq_wrap, Sem.wrap_wrap]
  refine seg_wrap (wpAny_mono h (fun r s1 h1 => ?_) fun x s1 h1 => ?_)
  · cases r with
    | none => exact h1
    | some v =>
      show Seg _ A R Y n s₀ _ (Sem.wrap _ _ _ _ (letOwnedTupleGo target it v >>= _)) fs s1
      rw [Sem.bind_eq_wrap', Sem.wrap_wrap]
      refine seg_wrap (wpAny_mono h1 (fun _ s2 h2 => ?_) fun x s2 h2 => ?_)
      · show Seg _ A R Y n s₀ _ (Sem.wrap _ _ _ _ (assign target env v >>= _)) fs s2
        rw [Sem.bind_eq_wrap', Sem.wrap_wrap]
        refine seg_wrap (wpAny_mono h2 (fun _ s3 h3 => ?_) fun x s3 h3 => ?_)
        · show Seg _ A R Y n s₀ _ (Sem.wrap _ _ _ _ (execs body env >>= _)) fs s3
          rw [Sem.bind_eq_wrap', Sem.wrap_wrap]
          rw [Sem.wrap_congr (execs body env) _ _ (K' := fun f => match f with
            | .next | .cont => .pure (.again (.forLoop target it body orelse env))
            | .brk => .pure (.done .next)
            | .ret v => .pure (.done (.ret v))) (H' := notes env) (fun f => by cases f <;> rfl) (fun e => by exact hN e)]
          exact h3
        · have q := hE x s3 h3
          rw [← hN x] at q
          exact q
      · have q := hE x s2 h2
        rw [← hN x] at q
        exact q
  · refine seg_at ?_
    have q := hE x s1 h1
    rw [← hN x] at q
    exact q
end

section
variable {X : Cx}
/-- for .. that yields: W by the turn, a measure, what is out so far, the slots and the heap -/
def tGFor (wi : TI) (g : TG) (tb : TGn) : TGn := fun D ys σ H => wi σ H fun J H1 => ∃ W : Nat → Nat → List V → L2.St → Hp → Prop, (∃ m, W 0 m ys σ H1) ∧ ∀ i m ys σ H, W i m ys σ H →
  (J.stop i H ∧ D.nx ys σ H) ∨ (J.go i H ∧ ∃ N : List V → L2.St → Hp → Prop, (∀ ys' σ' H', N ys' σ' H' → ∃ m', m' < m ∧ W (i + 1) m' ys' σ' H') ∧
    ∀ x H', J.yld i H x H' → g x σ H' fun σ2 H2 => tb { D with nx := N, ct := N, bk := D.nx } ys σ2 H2)
theorem gs_for {tg iter : Expr} {body : List Stmt} {wi : TI} {g : TG} {tb : TGn} {pos : Pos} (hp : PassesOwn (model X.prog X.w) X.A X.env X.xe) (hc : X.calm = true) (hi : PI X tg iter wi) (hg : PG X tg g) (hb : GSs X body tb)
    (hs : ∀ x, foldedSetIterable iter X.env x = pure x := by intro _; rfl) : GS X (.For tg iter body [] pos) (tGFor wi g tb) := by
  refine ⟨fun A S ip R n ys s₀ c fs K J gd lv s σ H D gc hn k hI ht => ?_⟩
  obtain ⟨acc, cc, rv, I⟩ := hI
  refine seg_forHead hs ?_
  rw [gc.over]
  refine wpAny_mono (hi.run _ s σ H _ I ht) (fun v s1 h1 => wpAny_mono h1 (fun itv s2 h2 => ?_) fun x s' hx => k.exc n s₀ x s' hx) fun x s' hx => k.exc n s₀ x s' hx
  obtain ⟨it, fp, tn, JJ, H2, ei, I2, T, st2, f2, W, ⟨m0, w0⟩, turn⟩ := h2
  subst ei
  intro p
  have hit : ∀ b ∈ fp, S ≠ b := fun b hb => (f2 b hb).2.2.2.2.2 (S, lstObj acc cc) (List.mem_append_right _ List.mem_cons_self)
  have gl := fun (kk : Result → Sem PySem.Fin) => gc_loop (k := kk) (c' := .forLoop tg (.ref it) body [] X.env) (l := lv []) (kp := []) (p := p) gc rfl rfl
  have loop : ∀ (m i n : Nat) (ys : List V) (s₀ s : Shared) (σ : L2.St) (H : Hp), n + ys.length = sizeLine → W i m ys σ H → GI X S ip ys σ H s → tn i s.heap → (∀ b ∈ fp, H b = none) →
      Seg (model X.prog X.w) A R (GY X S) n s₀ (.forLoop tg (.ref it) body [] X.env) ((model X.prog X.w).den (.forLoop tg (.ref it) body [] X.env))
        (.ret (fun r => ((match r with | .ok f => (.pure f : Sem Flow) | .error e => .raise e).onRaise (L2.cameBack X.env)).wrap K J gd lv) none (gd false) (lv []) c p [] :: fs) s := by
    intro m
    induction m using Nat.strongRecOn with
    | ind m ih =>
      intro i n ys s₀ s σ H hn w hI st fr
      obtain ⟨acc1, cc1, r1, I1⟩ := hI
      have ee : ∀ (n : Nat) (s₀ : Shared) (x : Value) (s' : Shared), X.xe x s' → Seg (model X.prog X.w) A R (GY X S) n s₀ (.forLoop tg (.ref it) body [] X.env) (notes X.env x)
          (.ret (fun r => ((match r with | .ok f => (.pure f : Sem Flow) | .error e => .raise e).onRaise (L2.cameBack X.env)).wrap K J gd lv) none (gd false) (lv []) c p [] :: fs) s' := fun n s₀ x s' hx => by
        refine seg_wrap ?_
        rw [(gl _).over]
        refine wpAny_bind (wpAny_mono (hp x s' hx) (fun _ s'' hcb => wpAny_theTreesLotGoes ?_) fun y s'' hcb => ?_)
        · exact seg_leaf (.error x) (seg_cameBack gc k hcb)
        · exact seg_leaf (.error y) (seg_cameBack gc k hcb)
      have stat : ∀ {acc' : Array Value} {cc' : Nat} {H' : Hp}, (∀ b ∈ fp, H' b = none) → ∀ b ∈ fp, FpOk X ((S, lstObj acc' cc') :: ip) H' b := fun {acc' cc' H'} hn b hb => by
        obtain ⟨_, q1, q2, q3, q4, q5⟩ := f2 b hb
        refine ⟨hn b hb, q1, q2, q3, q4, fun pp hpp => ?_⟩
        rcases List.mem_append.mp hpp with z | z
        · exact q5 pp (List.mem_append_left _ z)
        · rcases List.mem_cons.mp z with z | z
          · rw [z]; exact hit b hb
          · exact q5 pp (List.mem_append_right _ (List.mem_cons_of_mem _ z))
      refine seg_forTurn (EE := X.xe) (fun x s' hx => ee n s₀ x s' hx) ?_
      rw [(gl _).over]
      rcases turn i m ys σ H w with ⟨stop, qn⟩ | ⟨go, N, hN, step⟩
      · refine wpAny_mono (T.done X rfl rfl rfl hc i _ s σ H X.xe I1 (stat fr) st stop) (fun r s4 ⟨hr, I4⟩ => ?_) fun _ _ q => q
        subst hr
        refine seg_again rfl ?_
        exact seg_leaf (.ok .next) (k.ok n ys s₀ s4 .next hn ⟨σ, H, ⟨acc1, cc1, r1, I4⟩, qn⟩)
      · refine wpAny_mono (T.item X rfl rfl rfl hc i _ s σ H X.xe I1 (stat fr) st go) (fun r s4 ⟨u, hr, h4⟩ => ?_) fun _ _ q => q
        subst hr
        refine wpAny_mono h4 (fun _ s5 ⟨x, H5, I5, r5, y5, st5, fr5⟩ => ?_) fun _ _ q => q
        have I5' := I5.pinned (stat fr5) (T.obj _ _ st5)
        refine wpAny_mono (hg.run _ s5 σ H5 x u _ I5' r5 (step x H5 y5)) (fun _ s6 ⟨σ6, H6, I6, q6⟩ => ?_) fun _ _ q => q
        have hip : ∀ pp ∈ ip ++ pinsAt fp s5.heap, pp.1 ≠ S := fun pp hpp => by
          rcases List.mem_append.mp hpp with z | z
          · exact gc.ip pp z
          · exact fun e => hit pp.1 (of_pinsAt z).1 e.symm
        have gl2 := gl (fun r => ((match r with | .ok f => (.pure f : Sem Flow) | .error e => .raise e).onRaise (L2.cameBack X.env)).wrap K J gd lv)
        have gl' : GC X S (ip ++ pinsAt fp s5.heap) A (.forLoop tg (.ref it) body [] X.env) (.ret (fun r => ((match r with | .ok f => (.pure f : Sem Flow) | .error e => .raise e).onRaise (L2.cameBack X.env)).wrap K J gd lv) none (gd false) (lv []) c p [] :: fs) id :=
          ⟨gl2.pn, hip, gl2.apart, gl2.over, gl2.split, gl2.guard, gl2.gd⟩
        have down : ∀ {ys' : List V} {σ' : L2.St} {H' : Hp} {s' : Shared}, GI X S (ip ++ pinsAt fp s5.heap) ys' σ' H' s' → GI X S ip ys' σ' H' s' ∧ tn (i + 1) s'.heap ∧ ∀ b ∈ fp, H' b = none := fun {ys' σ' H' s'} h => by
          obtain ⟨a', c', r', I'⟩ := h
          have hpin : ∀ b ∈ fp, ∀ o, s5.heap.get? b = some o → s'.heap.get? b = some o ∧ H' b = none := fun b hb o e => by
            have q := I'.pin (b, o) (List.mem_append_right _ (List.mem_cons_of_mem _ (List.mem_append_right _ (mem_pinsAt hb e))))
            exact ⟨q.1, q.2.1⟩
          refine ⟨⟨a', c', r', I'.pins_of fun pp hpp => ?_⟩, T.keep _ _ _ st5 fun b hb o e => (hpin b hb o e).1, fun b hb => ?_⟩
          · rcases List.mem_cons.mp hpp with z | z
            · rw [z]; exact I'.pin _ (List.mem_append_right _ List.mem_cons_self)
            · exact I'.pin pp (List.mem_append_right _ (List.mem_cons_of_mem _ (List.mem_append_left _ z)))
          · obtain ⟨o, e, _⟩ := T.obj _ _ st5 b hb
            exact (hpin b hb o e).2
        refine hb.run A S (ip ++ pinsAt fp s5.heap) R n ys s₀ _ _ _ _ id id s6 σ6 H6 { D with nx := N, ct := N, bk := D.nx } gl' hn ⟨fun n' ys' s₀' s7 f hn' hs => ?_, fun n' s₀' x s7 hx => ee n' s₀' x s7 hx⟩ ⟨acc1, cc1, r1, I6⟩ q6
        cases f with
        | next =>
          obtain ⟨σ7, H7, I7, n7⟩ := hs
          obtain ⟨m', hm, w7⟩ := hN ys' σ7 H7 n7
          obtain ⟨d1, d2, d3⟩ := down I7
          exact seg_again rfl (ih m' hm (i + 1) n' ys' s₀' s7 σ7 H7 hn' w7 d1 d2 d3)
        | cont =>
          obtain ⟨σ7, H7, I7, n7⟩ := hs
          obtain ⟨m', hm, w7⟩ := hN ys' σ7 H7 n7
          obtain ⟨d1, d2, d3⟩ := down I7
          exact seg_again rfl (ih m' hm (i + 1) n' ys' s₀' s7 σ7 H7 hn' w7 d1 d2 d3)
        | brk =>
          obtain ⟨σ7, H7, I7, q7⟩ := hs
          exact seg_leaf (.ok .next) (k.ok n' ys' s₀' s7 .next hn' ⟨σ7, H7, (down I7).1, q7⟩)
        | ret v =>
          obtain ⟨x7, σ7, H7, I7, r7, q7⟩ := hs
          exact seg_leaf (.ok (.ret v)) (k.ok n' ys' s₀' s7 (.ret v) hn' ⟨x7, σ7, H7, (down I7).1, r7, q7⟩)
  exact loop m0 0 n ys s₀ s2 σ H2 hn w0 ⟨acc, cc, rv, I2⟩ st2 fun b hb => (f2 b hb).1
/-- over a range -/
theorem gfor_range {lo : Int} {n : Nat} {g : TG} {tb : TGn} {D : GEnds} {ys : List V} {σ : L2.St} {H : Hp} (Pv : Nat → List V → L2.St → Hp → Prop) (h0 : Pv 0 ys σ H)
    (hs : ∀ i ys σ H, i < n → Pv i ys σ H → g (.int (lo + i)) σ H fun σ2 H2 => tb { D with nx := Pv (i + 1), ct := Pv (i + 1), bk := D.nx } ys σ2 H2) (hd : ∀ ys σ H, Pv n ys σ H → D.nx ys σ H) :
    ∃ W : Nat → Nat → List V → L2.St → Hp → Prop, (∃ m, W 0 m ys σ H) ∧ ∀ i m ys σ H, W i m ys σ H →
      ((Itr lo n).stop i H ∧ D.nx ys σ H) ∨ ((Itr lo n).go i H ∧ ∃ N : List V → L2.St → Hp → Prop, (∀ ys' σ' H', N ys' σ' H' → ∃ m', m' < m ∧ W (i + 1) m' ys' σ' H') ∧
        ∀ x H', (Itr lo n).yld i H x H' → g x σ H' fun σ2 H2 => tb { D with nx := N, ct := N, bk := D.nx } ys σ2 H2) := by
  refine ⟨fun i m ys σ H => i + m = n ∧ Pv i ys σ H, ⟨n, Nat.zero_add n, h0⟩, ?_⟩
  rintro i m ys σ H ⟨hm, q⟩
  by_cases hlt : i < n
  · refine Or.inr ⟨hlt, Pv (i + 1), fun ys' σ' H' q' => ⟨m - 1, by omega, by omega, q'⟩, fun x H' y => ?_⟩
    obtain ⟨e1, e2⟩ := y
    rw [e1, e2]
    exact hs i ys σ H hlt q
  · have e : i = n := by omega
    rw [e] at q
    exact Or.inl ⟨by show n ≤ i; omega, hd ys σ H q⟩
end
end My

end
section
set_option linter.all false
set_option maxRecDepth 100000
set_option maxHeartbeats 1000000
/-! defs whose run knows that no container is being shown (guards), so that repr of lists and tuples may be told -/
namespace My
open PySem PySem.Spec PyProof.Rows L2

/-! ### repr of data -/
section
variable {K : PySem.W.Frag} {H : Hp}
mutual
theorem dp_noDict : ∀ (d : PyData) (v : V), Dp K H v d → d.hasDict = false
  | .none, _, _ => by simp only [PyData.hasDict]
  | .bool _, _, _ => by simp only [PyData.hasDict]
  | .int _, _, _ => by simp only [PyData.hasDict]
  | .str _, _, _ => by simp only [PyData.hasDict]
  | .list ds, v, h => by
    cases h with
    | lst hs ha =>
      simp only [PyData.hasDict]
      exact dp_noDictAll ds _ ha
  | .tuple ds, v, h => by
    cases h with
    | tup hs ha =>
      simp only [PyData.hasDict]
      exact dp_noDictAll ds _ ha
  | .dict _, _, h => nomatch h
theorem dp_noDictAll : ∀ (ds : List PyData) (vs : List V), DpAll K H vs ds → PyData.hasDictAll ds = false
  | [], _, _ => by simp only [PyData.hasDictAll]
  | d :: ds, _, h => by
    cases h with
    | cons h1 h2 =>
      simp only [PyData.hasDictAll]
      rw [dp_noDict d _ h1, dp_noDictAll ds _ h2]
      rfl
end
end
/-- repr of a list or a tuple of data -/
def rReprD (K : PySem.W.Frag) : List V → Hp → VK → Prop := fun vs H Q => ∃ (a : Addr) (d : PyData), vs = [.ref a] ∧ Dp K H (.ref a) d ∧ d.showable = true ∧ d.depth ≤ 40 ∧ d.shown.length ≤ sizeLine ∧ Q (.str d.shown) H
section
variable {X : Cx}
theorem cr_reprD (hg : X.A.guards = some []) (hu : X.A.units + 64 < cLine) : CallR X (.builtin "repr") (rReprD X.K) := by
  intro pins s σ H vs us Q I r h
  obtain ⟨a, d, ev, hd, hs, hdep, hlen, q⟩ := h
  subst ev
  cases r with
  | cons r1 r2 =>
    cases r2
    rename_i u
    obtain rfl : u = Value.ref a := r1
    obtain ⟨as, rd⟩ := Dp.reads I d _ _ hd rfl
    refine repr_of_reads' rd hs (PyData.noDict_hsm (dp_noDict d _ hd)) hg (by omega) (fun _ _ e => e) (fun h' u tk hk => ?_) hlen
    exact ⟨.str d.shown, H, I.kept hk, ⟨u, rfl⟩, q⟩
end

/-! ### defs that know the guards -/
def FnG (P : Program) (w : World) (K : PySem.W.Frag) (mg : Str → Option Value) (base : Heap) (k : Nat) (f : Addr) (sp : Sp) : Prop :=
  ∀ (A : Around) (outer : List Env) (s : Shared) (H : Hp) (us : List Value) (vs : List V) (Q : VK), A.guards = some [] → Room k A → Env0 P w K mg base A outer s H → Vals vs us → sp vs H Q E0 →
    codeAny (model P w) A (.call (.ref f) ⟨us, []⟩) (CR CX0 outer P w H s Q E0) s
section
variable {P : Program} {w : World} {K : PySem.W.Frag} {mg : Str → Option Value} {base : Heap}
theorem FnG.mono {j k : Nat} {f : Addr} {sp : Sp} (F : FnG P w K mg base j f sp) (h : j ≤ k) : FnG P w K mg base k f sp := fun A outer s H us vs Q hg hr => F A outer s H us vs Q hg (hr.mono h)
theorem Fun.okG {x qual : Str} {st : Stmt} {f : Addr} {fd : FuncData} {N ps : List Str} {k : Nat} {sp : Sp} (F : Fun K x qual st f fd) (S : FnScope N ps (defScope st)) (hb : Binds K fd ps [])
    (len : ∀ vs H Q, sp vs H Q E0 → vs.length = ps.length)
    (hbody : ∀ (cdv : Value) (A : Around) (outer : List Env) (s : Shared) (H : Hp) (vs : List V) (Q : VK), A.guards = some [] → Room k (A.deeper (envOfC qual (defScope st) s.heap.objs.size f cdv)) → sp vs H Q E0 →
      ∃ t, PSs (cxOf CX0 P w K mg base N qual (defScope st) f cdv A outer s H E0).nox (defBody st) t ∧ t { nx := fun _ H' => Q .non H', rt := Q } (start N vs) H) : FnG P w K mg base (k + 1) f sp := by
  obtain ⟨oc, od, kV, doc, pm, an, cdv, ct, osl, efd, lk, hcd⟩ := F.ex
  intro A outer s H us vs Q hg hr e0 r hsp
  have hl : vs.length = ps.length := len _ _ _ hsp
  have hlu : (us ++ []).length = ps.length := by rw [List.append_nil, ← r.length, hl]
  have keepB : ∀ b o, base.get? b = some o → s.heap.get? b = some o := fun b o e => (e0.bs b o e).1
  have KX : K.In s.heap := e0.mod.kin.keeps keepB
  have bd := hb s us KX hlu
  rw [List.append_nil] at bd
  subst efd
  have hkind : ∀ y ∈ ps.zip us, (defScope st).names.lookup y.1 = some .local ∨ ((defScope st).names.lookup y.1 = some .cell ∧ ((cellsFrom (s.heap.objs.size + 1) (defScope st).names []).lookup y.1).isSome = true) := fun y hy => by
    rcases S.par y.1 (List.of_mem_zip hy).1 with q | q
    · exact Or.inl q
    · exact Or.inr ⟨q, PySem.W.cellsFrom_some _ _ _ (.inl q)⟩
  refine codeAny_call_function hr.depth (KX _ _ lk) rfl S.co S.gen rfl (PySem.W.codeRec_of KX hcd) (bd _ _ _ _ ?_)
  refine wpAny_newFunctionEnv_cells S.kind hkind fun env he s1 x => ?_
  subst he
  refine ⟨(e0.mod.nolimit.keeps keepB).keeps x.toInCall.keep, codeAny_func ?_⟩
  obtain ⟨t, ht, hq⟩ := hbody cdv A outer s H vs Q hg (hr.deeper _) hsp
  have I := inv_start (CX := CX0) (qual := qual) (f := f) (cd := cdv) (E := E0) S hr.hd e0 hl r x
  refine wpAny_mono (ht.nox.run [] s1 (start N vs) H _ I hq) (fun fl s' hs => ?_) fun e s' hs => hs
  cases fl with
  | ret u =>
    obtain ⟨v, σ', H', J, rv, q⟩ := hs
    exact ⟨v, H', J.os, J.bare, J.base, J.hok, rv, q⟩
  | next =>
    obtain ⟨σ', H', J, q⟩ := hs
    exact ⟨V.non, H', J.os, J.bare, J.base, J.hok, rfl, q⟩
  | brk =>
    obtain ⟨_, _, _, q⟩ := hs
    exact q.elim
  | cont =>
    obtain ⟨_, _, _, q⟩ := hs
    exact q.elim
/-- a plain def, where the guards do not matter -/
theorem FnG.of {CX : CXT} {k : Nat} {f : Addr} {fd : FuncData} {ps : List Str} {sp : Sp} (F : FnOk P w K mg base CX0 k f fd ps sp) (hb : Binds K fd ps []) : FnG P w K mg base k f sp := fun A outer s H us vs Q _ hr e0 r h => by
  have hl : (us ++ []).length = ps.length := by rw [List.append_nil, ← r.length, F.len _ _ _ _ h]
  have KX : K.In s.heap := e0.mod.kin.keeps fun b o e => (e0.bs b o e).1
  have bd := hb s us KX hl
  rw [List.append_nil] at bd
  exact F.run A outer s H _ us vs Q E0 hr e0 bd r h
end
section
variable {X : Cx} {k : Nat} {f : Addr} {sp : Sp} {x : Str} {p pos : Pos} {e : Expr} {es : List Expr} {t : TA}
/-- f(e, ..) of such a def, where the guards are known -/
theorem pe_callG (F : FnG X.prog X.w X.K X.mg X.base k f sp) (hgu : X.A.guards = some []) (hr : Room k X.A) (hg : Gl X x) (hm : X.mg x = some (.ref f)) (hk : PySem.W.keepIn X.K (.ref f) = true)
    (ha : PA X (e :: es) t) (hdb : (x == ("__debug__" : Str)) = false := by decide) (he : starEach (e :: es) X.env = (false, eval e X.env) :: starEach es X.env := by rfl) (hpl : (backTo pos (starEach es X.env)).any (·.1) = false := by rfl) :
    PE X (.Call (.Name x p) (e :: es) [] pos) (tCall sp [] E0 t) := by
  refine ⟨fun pins s σ H Q I h => wpAny_Call_Name_kw (ld_glob I hg hm ?_ hdb)⟩
  refine PySem.W.callWith_K (h₀ := X.base) I.ok.mod.kin hk (thn (ha.run pos pins s σ H _ I h) fun us s1 h1 => ?_) he hpl
  obtain ⟨vs, H1, I1, r, q⟩ := h1
  rw [List.append_nil] at q
  refine ⟨I1.kIn, wpAny_call (codeAny_mono (F X.A X.stack s1 H1 us vs Q hgu hr I1.env0 r q) fun rr s' hq => ?_)⟩
  cases rr with
  | error e => exact False.elim hq
  | ok fl =>
    cases fl with
    | ret u => exact I1.after hq
    | next => exact False.elim hq
    | brk => exact False.elim hq
    | cont => exact False.elim hq
end
end My

end
section
set_option linter.all false
set_option maxRecDepth 100000
set_option maxHeartbeats 1000000
/-! the end of a law row whose def knows the guards -/
namespace My
open PySem PySem.Spec PyProof.Rows L2

section
variable {P : Program} {w : World} {K : PySem.W.Frag} {mg mb : Str → Option Value} {k : Nat} {fa a : Addr} {sp : Sp} {s₁ : Shared} {vs : List Value} {ns : List Int}
/-- the law's call at an abstract heap in which at most the script is tracked -/
theorem run_at (H : Hp) (KX : K.In s₁.heap) (hns : s₁.heap.Ns mainGlobals mg) (hb : s₁.heap.Ns builtinsNs mb) (hbb : ∀ x : Str, x ≠ "__name__" → mb x = bootBuiltins x) (hlim : s₁.heap.NoLimit) (hg : s₁.gens = #[])
    (ha : s₁.heap.get? a = some { cls := .type "list", data := .seq vs.toArray }) (hr : Room k callerA)
    (F : ∀ base : Heap, K.In base → base.Ns mainGlobals mg → FnG P w K mg base k fa sp)
    (hO : Only H) (hok : HOk P w H s₁.heap) (hA : ∀ b, b ≠ a → H b = none) (hK : H a = none ∨ K.lookup a = none) (hsp : sp [.ref a] H (fun v _ => v = .bl true) E0) :
    codeAny (model P w) callerA (.call (.ref fa) ⟨[.ref a], []⟩) (fun r s' => r = .ok (.ret (.bool true)) ∧ OldK s₁.heap s'.heap ∧ s'.os = s₁.os ∧ AllBare s'.gens) s₁ := by
  have free : ∀ {b : Addr}, b ≠ a ∨ H a = none → H b = none := fun {b} h => by
    by_cases e : b = a
    · rcases h with z | z
      · exact absurd e z
      · rw [e]; exact z
    · exact hA b e
  have ofNs : ∀ {b : Addr} {m : Str → Option Value}, s₁.heap.Ns b m → (hidT s₁.heap H).Ns b m := fun {b m} z => by
    obtain ⟨o, es, ep, e, d, r⟩ := z
    refine ⟨o, es, ep, hidT_get e (free (Or.inl fun q => ?_)), d, r⟩
    rw [q, ha] at e
    cases e
    have d' : Data.seq vs.toArray _ = Data.dict es ep := d
    cases d'
  have inK : K.In (hidT s₁.heap H) := fun b o e => hidT_get (KX b o e) (by
    rcases hK with z | z
    · exact free (Or.inr z)
    · refine free (Or.inl fun q => ?_)
      rw [q, z] at e
      cases e)
  obtain ⟨mc, l1, l2⟩ := hlim
  have hM : Mod K mg (hidT s₁.heap H) := ⟨inK, ofNs hns, ⟨mb, ofNs hb, hbb⟩, ⟨mc, ofNs l1, l2⟩⟩
  have none_in : ∀ {b : Addr} {R : Prop}, b ∈ frs ([] : List Env) → R := fun {b R} z => by
    have z' : b ∈ ([] : List Addr) := z
    cases z'
  have e0 : Env0 P w K mg (hidT s₁.heap H) callerA [] s₁ H := ⟨rfl, hM, fun _ _ e => of_hidT e, Nat.le_of_eq (hidT_size _ _), trivial, fun _ z => none_in z, hok, .of_eq hg⟩
  refine codeAny_mono (F _ inK (ofNs hns) callerA [] s₁ H [.ref a] [.ref a] _ rfl hr e0 (.cons rfl .nil) hsp) fun r s' h => ?_
  cases r with
  | error e => exact False.elim h
  | ok fl =>
    cases fl with
    | next => exact False.elim h
    | brk => exact False.elim h
    | cont => exact False.elim h
    | ret u =>
      obtain ⟨v, H', os, bare, un, hok', r', q⟩ := h
      obtain rfl : v = .bl true := q
      obtain rfl : u = Value.bool true := r'
      refine ⟨rfl, OldK.of_keep fun b o e => ?_, os, bare⟩
      cases q : H b with
      | none => exact un.keep b o e q (fun z => none_in z) (by simp)
      | some t =>
        rcases hO b with z | ⟨ob, xs, z⟩
        · rw [q] at z
          cases z
        · have e1 := (hok b _ z).1
          have e2 := (hok' b _ (un.frzs b ob _ z)).1
          rw [e] at e1
          cases e1
          exact e2
theorem law_callG (KX : K.In s₁.heap) (hns : s₁.heap.Ns mainGlobals mg) (hb : s₁.heap.Ns builtinsNs mb) (hbb : ∀ x : Str, x ≠ "__name__" → mb x = bootBuiltins x) (hlim : s₁.heap.NoLimit) (hg : s₁.gens = #[])
    (ha : s₁.heap.get? a = some { cls := .type "list", data := .seq vs.toArray }) (hi : IntsAre vs ns) (hl : ns.length ≤ sizeLine) (hr : Room k callerA)
    (F : ∀ base : Heap, K.In base → base.Ns mainGlobals mg → FnG P w K mg base k fa sp)
    (hsp : ∀ H : Hp, Only H → SqL K H a (ns.map V.int) → sp [.ref a] H (fun v _ => v = .bl true) E0) :
    codeAny (model P w) callerA (.call (.ref fa) ⟨[.ref a], []⟩) (fun r s' => r = .ok (.ret (.bool true)) ∧ OldK s₁.heap s'.heap ∧ s'.os = s₁.os ∧ AllBare s'.gens) s₁ := by
  have rv := vals_ints hi
  have hlen : vs.length = ns.length := hi.length
  cases hk : K.lookup a with
  | some o =>
    have eo : o = { cls := .type "list", data := .seq vs.toArray } := by
      have e := KX a o hk
      rw [ha] at e
      exact (Option.some.inj e).symm
    have sq : SqL K (fun _ => none) a (ns.map V.int) := Or.inr ⟨o, vs.toArray, _, hk, by rw [eo], by rw [eo], by rw [eo], by rw [List.size_toArray, hlen]; exact hl, by simpa using rv⟩
    refine run_at (fun _ => none) KX hns hb hbb hlim hg ha hr F (fun _ => Or.inl rfl) (fun b u z => ?_) (fun _ _ => rfl) (Or.inl rfl) (hsp _ (fun _ => Or.inl rfl) sq)
    have z' : (none : Option HO) = some u := z
    cases z'
  | none =>
    let fz : HO := .frz { cls := .type "list", data := .seq vs.toArray } (.lst (ns.map V.int))
    have at_ : (fun b : Addr => if b = a then some fz else none) a = some fz := if_pos rfl
    have off : ∀ b : Addr, b ≠ a → (fun b : Addr => if b = a then some fz else none) b = none := fun b h => if_neg h
    have hO : Only (fun b : Addr => if b = a then some fz else none) := fun b => by
      by_cases e : b = a
      · rw [e]; exact Or.inr ⟨_, _, at_⟩
      · exact Or.inl (off b e)
    refine run_at _ KX hns hb hbb hlim hg ha hr F hO (fun b u z => ?_) off (Or.inr hk) (hsp _ hO (Or.inl (Or.inr ⟨_, at_⟩)))
    by_cases e : b = a
    · subst e
      have eu : fz = u := Option.some.inj (at_.symm.trans z)
      rw [← eu]
      exact ⟨ha, by rw [List.length_map]; exact hl, vs, _, rv, ha⟩
    · exact absurd ((off b e).symm.trans z) (fun q => nomatch q)
end
/-- what k_head leaves (case hc), by the law's promise, with the bits of the script's ints told -/
theorem walk_ofG {l : PySem.W.OpenLaw} {n k : Nat} {q : Program} {loose : List Str} {XP : (Str → Option Value) → Heap → Prop} {YP : World → Heap → Prop} {d : DefRec} {K : Params → PySem.W.Frag} {sp : World → Sp}
    (hn : l.most = some n) (hn2 : n ≤ sizeLine) (hdf : d.params.defaults = []) (hr : Room k callerA)
    (hY : ∀ (w : World) (h : Heap), YP w h → (K w.params).In h)
    (F : ∀ (w : World) (mg : Str → Option Value) (fa : Addr) (h : Heap), (K w.params).In h → h.Ns mainGlobals mg → mg d.name = some (.ref fa) →
      ∀ base : Heap, (K w.params).In base → base.Ns mainGlobals mg → FnG l.prog w (K w.params) mg base k fa (sp w))
    (hsp : ∀ (w : World) (H : Hp) (a : Addr) (ns : List Int), ns.length ≤ n → (∀ z ∈ ns, Builtin.Int.intBits z ≤ 1048576) → Only H → SqL (K w.params) H a (ns.map V.int) → sp w [.ref a] H (fun v _ => v = .bl true) E0) :
    PySem.W.WalkO q loose XP YP l.row.toRowW d [] (fun f vs => PySem.call f vs) := by
  refine Att.attach_callB hn hdf fun w s₀ s₁ mg mb fa o pm cd doc a vs ns G Y ho hd hcd hmg hobj hints hlen hbits hg => ?_
  have KX := hY w _ Y
  exact law_callG KX G.T.g G.T.b G.T.builtins G.T.nolimit hg hobj hints (Nat.le_trans hlen hn2) hr (F w mg fa _ KX G.T.g hmg) fun H hO hS => hsp w H a ns hlen hbits hO hS
end My

end
section
set_option linter.all false
set_option maxRecDepth 100000
/-! a method called with keywords alone -/
namespace My
open PySem PySem.Spec PyProof.Rows L2
/-- o.m(k = v, ..) -/
def tMethK (C : Addr) (m : Str) (sp : Sp) (gV : List V → List V → List V) (E : XK) (ta : TE) (tk : TA) : TE := fun σ H Q => ta σ H fun x H1 => ∃ a dx fs, x = .ref a ∧ H1 a = some (.ins C dx fs) ∧ fs.lookup m = none ∧
  tk σ H1 fun zs H2 => sp (gV [x] zs) H2 Q E
theorem pe_methK0 {X : Cx} {CX : CXT} {k : Nat} {f C : Addr} {fd : FuncData} {ps ks : List Str} {sp : Sp} {E : XK} {m : Str} {pos apos : Pos} {o : Expr} {kws : List Keyword} {ta : TE} {tk : TA} {g : List Value → List Value → List Value} {gV : List V → List V → List V} {pl : Sem Bool}
    (he : PE X o ta) (c : Cls X.K C) (hm : Meth X.K C m f) (F : FnOk X.prog X.w X.K X.mg X.base CX k f fd ps sp) (hr : Room k X.A) (hb : KBinds X.K fd ps ks g gV) (hx : Passes CX X E) (hkw : PK X kws tk)
    (hall : (backToKw pos (keywordEach kws X.env)).all (·.1.isSome) = true := by rfl) (hks : (backToKw pos (keywordEach kws X.env)).filterMap (·.1) = ks := by rfl)
    (hpl : ((backTo pos (starEach [] X.env)).any (·.1) || (backToKw pos (keywordEach kws X.env)).any (·.1.isNone)) = false := by rfl)
    (ht : eval (.Call (.Attribute o m apos) [] kws pos) X.env = (eval o X.env >>= fun ov => standAt apos.atName >>= fun _ => holding [ov] (getMethod ov m pl) >>= fun fx =>
      callWith pos fx.1 fx.2 (backTo pos (starEach [] X.env)) (backToKw pos (keywordEach kws X.env))) := by rfl) :
    PE X (.Call (.Attribute o m apos) [] kws pos) (tMethK C m sp gV E ta tk) := by
  refine ⟨fun pins s σ H Q I h => ?_⟩
  refine PySem.W.methodCall_KW (pl := pl) (thn (he.run pins s σ H _ I h) fun u s1 h1 => ?_) ht
  obtain ⟨x, H1, I1, rx, a, dx, fs, ex, ea, l, q⟩ := h1
  subst ex
  obtain rfl : u = Value.ref a := rx
  refine getmeth_ok I1 ea c hm l ?_
  refine PySem.W.callWith_KW0 (first := [.ref a]) (h₀ := X.base) I.ok.mod.kin hm.kp hall (thn (hkw.run pos pins s1 σ H1 _ I1 q) fun ws s2 h2 => ?_) hpl
  obtain ⟨zs, H2, I2, rz, q2⟩ := h2
  refine ⟨I2.kIn, ?_⟩
  rw [hks]
  exact run_fnk (us := [.ref a]) (vs := [.ref a]) F hr hb hx I2 (.cons rfl .nil) rz q2
end My

end
section
set_option linter.all false
set_option maxRecDepth 100000
set_option maxHeartbeats 1000000
namespace My
open PySem PySem.Spec PyProof.Rows L2

/-! ### defs in bundles -/
/-- the module's name x is a def that keeps the promise sp when called with all but the last values dvs -/
structure CalD (P : Program) (w : World) (K : PySem.W.Frag) (mg : Str → Option Value) (base : Heap) (k : Nat) (x : Str) (sp : Sp) (dvs : List V) : Prop where
  ex : ∃ (f : Addr) (fd : FuncData) (ps : List Str) (ds : List Value), FnOk P w K mg base CX0 k f fd ps sp ∧ mg x = some (.ref f) ∧ PySem.W.keepIn K (.ref f) = true ∧ Binds K fd ps ds ∧ Vals dvs ds
structure MetD (P : Program) (w : World) (K : PySem.W.Frag) (mg : Str → Option Value) (base : Heap) (k : Nat) (C : Addr) (m : Str) (sp : Sp) (dvs : List V) : Prop where
  ex : ∃ (f : Addr) (fd : FuncData) (ps : List Str) (ds : List Value), Cls K C ∧ Meth K C m f ∧ FnOk P w K mg base CX0 k f fd ps sp ∧ Binds K fd ps ds ∧ Vals dvs ds
structure MakD (P : Program) (w : World) (K : PySem.W.Frag) (mg : Str → Option Value) (base : Heap) (k : Nat) (x : Str) (C : Addr) (sp : Sp) (dvs : List V) : Prop where
  ex : ∃ (f : Addr) (fd : FuncData) (ps : List Str) (ds : List Value), Mk K C f ∧ FnOk P w K mg base CX0 k f fd ps sp ∧ mg x = some (.ref C) ∧ Binds K fd ps ds ∧ Vals dvs ds
structure PrpD (P : Program) (w : World) (K : PySem.W.Frag) (mg : Str → Option Value) (base : Heap) (k : Nat) (C : Addr) (m : Str) (sp : Sp) : Prop where
  ex : ∃ (p f : Addr) (fd : FuncData) (ps : List Str), Cls K C ∧ PropOf K C m p f ∧ FnOk P w K mg base CX0 k f fd ps sp ∧ Binds K fd ps []
section
variable {X : Cx} {k j : Nat} {C : Addr} {x m : Str} {sp : Sp} {dvs : List V} {p pos apos : Pos} {e o : Expr} {es : List Expr} {ta : TE} {t : TA}
theorem pe_d (c : CalD X.prog X.w X.K X.mg X.base k x sp dvs) (hr : Room j X.A) (hk : k ≤ j) (hg : Gl X x) (ha : PA X (e :: es) t)
    (hdb : (x == ("__debug__" : Str)) = false := by decide) (he : starEach (e :: es) X.env = (false, eval e X.env) :: starEach es X.env := by rfl) (hpl : (backTo pos (starEach es X.env)).any (·.1) = false := by rfl) :
    PE X (.Call (.Name x p) (e :: es) [] pos) (tCall sp dvs E0 t) := by
  obtain ⟨f, fd, ps, ds, F, h1, h2, b, d⟩ := c.ex
  exact pe_call F (hr.mono hk) hg h1 h2 b d pass0 ha hdb he hpl
theorem pe_mkd (c : MakD X.prog X.w X.K X.mg X.base k x C sp dvs) (hr : Room j X.A) (hk : k + 1 ≤ j) (hg : Gl X x) (ha : PA X (e :: es) t)
    (hdb : (x == ("__debug__" : Str)) = false := by decide) (he : starEach (e :: es) X.env = (false, eval e X.env) :: starEach es X.env := by rfl) (hpl : (backTo pos (starEach es X.env)).any (·.1) = false := by rfl) :
    PE X (.Call (.Name x p) (e :: es) [] pos) (tMake C sp dvs E0 t) := by
  obtain ⟨f, fd, ps, ds, M, F, h1, b, d⟩ := c.ex
  exact pe_make M F (hr.mono hk) hg h1 b d pass0 ha hdb he hpl
theorem pe_md {pl : Sem Bool} (c : MetD X.prog X.w X.K X.mg X.base k C m sp dvs) (hr : Room j X.A) (hk : k ≤ j) (ho : PE X o ta) (ha : PA X (e :: es) t)
    (hst : starEach (e :: es) X.env = (false, eval e X.env) :: starEach es X.env := by rfl) (hpl : (backTo pos (starEach es X.env)).any (·.1) = false := by rfl)
    (ht : eval (.Call (.Attribute o m apos) (e :: es) [] pos) X.env = (eval o X.env >>= fun ov => standAt apos.atName >>= fun _ => holding [ov] (getMethod ov m pl) >>= fun fx =>
      callWith pos fx.1 fx.2 (backTo pos (starEach (e :: es) X.env)) (backToKw pos (keywordEach [] X.env))) := by rfl) :
    PE X (.Call (.Attribute o m apos) (e :: es) [] pos) (tMeth C m sp dvs E0 ta t) := by
  obtain ⟨f, fd, ps, ds, h1, h2, F, b, d⟩ := c.ex
  exact pe_meth (pl := pl) ho h1 h2 F (hr.mono hk) b d pass0 ha hst hpl ht
theorem pe_md0 {pl : Sem Bool} (c : MetD X.prog X.w X.K X.mg X.base k C m sp dvs) (hr : Room j X.A) (hk : k ≤ j) (ho : PE X o ta)
    (ht : eval (.Call (.Attribute o m apos) [] [] pos) X.env = (eval o X.env >>= fun ov => standAt apos.atName >>= fun _ => holding [ov] (getMethod ov m pl) >>= fun fx =>
      callWith pos fx.1 fx.2 (backTo pos (starEach [] X.env)) (backToKw pos (keywordEach [] X.env))) := by rfl) :
    PE X (.Call (.Attribute o m apos) [] [] pos) (tMeth C m sp dvs E0 ta tNil) := by
  obtain ⟨f, fd, ps, ds, h1, h2, F, b, d⟩ := c.ex
  exact pe_meth0 (pl := pl) ho h1 h2 F (hr.mono hk) b d pass0 ht
theorem pe_prd (c : PrpD X.prog X.w X.K X.mg X.base k C m sp) (hr : Room j X.A) (hk : k + 1 ≤ j) (ho : PE X o ta) (hab : attributeBase o m X.env (eval o X.env) = eval o X.env := by rfl) : PE X (.Attribute o m pos) (tProp C sp [] E0 ta) := by
  obtain ⟨q, f, fd, ps, h1, h2, F, b⟩ := c.ex
  exact pe_prop (CX := CX0) ho h1 h2 F (hr.mono hk) b .nil pass0 hab
/-- c(e, ..), c a local name that holds the class at C -/
def tMakeL (i : Nat) (C : Addr) (sp : Sp) (dvs : List V) (E : XK) (t : TA) : TE := fun σ H Q => σ[i]? = some (some (.ref C)) ∧ tMake C sp dvs E t σ H Q
theorem pe_mkL {i : Nat} {y : Str} (c : MakD X.prog X.w X.K X.mg X.base k y C sp dvs) (hr : Room j X.A) (hk : k + 1 ≤ j) (hN : X.N[i]? = some x) (hv : Vis X.env.scope x) (ha : PA X (e :: es) t)
    (hdb : (x == ("__debug__" : Str)) = false := by decide) (hcd : (x == ("__classdict__" : Str)) = false := by decide)
    (he : starEach (e :: es) X.env = (false, eval e X.env) :: starEach es X.env := by rfl) (hpl : (backTo pos (starEach es X.env)).any (·.1) = false := by rfl) :
    PE X (.Call (.Name x p) (e :: es) [] pos) (tMakeL i C sp dvs E0 t) := by
  obtain ⟨f, fd, ps, ds, M, F, h1, b, d⟩ := c.ex
  refine ⟨fun pins s σ H Q I h => ?_⟩
  obtain ⟨hs, ht⟩ := h
  refine wpAny_Call_Name_kw (thn ((pe_var (pos := p) hN hv hdb hcd).run pins s σ H (fun v H1 => v = .ref C ∧ H1 = H) I ⟨_, hs, rfl, rfl⟩) fun u s1 h2 => ?_)
  obtain ⟨v, H1, I1, r1, e1, e2⟩ := h2
  subst e1 e2
  obtain rfl : u = Value.ref C := r1
  refine PySem.W.callWith_K (h₀ := X.base) I.ok.mod.kin M.kp (thn (ha.run pos pins s1 σ _ _ I1 ht) fun us s2 h3 => ?_) he hpl
  obtain ⟨vs, H2, I2, r, q⟩ := h3
  exact ⟨I2.kIn, run_make M F (hr.mono hk) b d pass0 I2 r q⟩
end

/-! ### heaps that grow -/
theorem Same.new {H : Hp} {p : Addr} {o : HO} (h : H p = none) : Same H (upd H p o) := fun a u e => by
  rw [upd_ne (ne_of_none e h)]
  exact e
/-- what H does not know may change -/
theorem Same.mut {H H' : Hp} {p : Addr} {o : HO} (e : Same H H') (h : H p = none) : Same H (upd H' p o) := fun a u ha => by
  rw [upd_ne (ne_of_none ha h)]
  exact e a u ha
/-- behind a new object: the heap by what is known of it -/
theorem newk {H : Hp} {p : Addr} {o : HO} {R : Hp → Prop} (hp : H p = none) (k : ∀ H1, Same H H1 → H1 p = some o → R H1) : R (upd H p o) := k _ (Same.new hp) upd_same
theorem Same.tup {K : PySem.W.Frag} {H H' : Hp} {a : Addr} {xs : List V} (e : Same H H') (h : SqT K H a xs) : SqT K H' a xs := by
  rcases h with (h | ⟨o, h⟩) | h
  · exact .inl (.inl (e _ _ h))
  · exact .inl (.inr ⟨o, e _ _ h⟩)
  · exact .inr h
/-- a plain def, by name -/
theorem CalD.of {P : Program} {w : World} {K : PySem.W.Frag} {mg : Str → Option Value} {base : Heap} {k : Nat} {x qual : Str} {st : Stmt} {f : Addr} {fd : FuncData} {ps : List Str} {sp : Sp} (F : Fun K x qual st f fd) (hm : mg x = some (.ref f)) (b : Binds K fd ps []) (G : FnOk P w K mg base CX0 k f fd ps sp) :
    CalD P w K mg base k x sp [] := ⟨f, fd, ps, [], G, hm, F.kp, b, .nil⟩
theorem sq_at {K : PySem.W.Frag} {H : Hp} {a : Addr} {xs : List V} (h : H a = some (.lst xs)) : SqL K H a xs := .inl (.inl h)
theorem st_at {K : PySem.W.Frag} {H : Hp} {a : Addr} {xs : List V} (h : H a = some (.tup xs)) : SqT K H a xs := .inl (.inl h)
end My

end
section
set_option linter.all false
set_option maxRecDepth 100000
set_option maxHeartbeats 1000000
namespace My
open PySem PySem.Spec PyProof.Rows L2
/-- over enumerate of a list that the body leaves as it is: each turn's pair is new -/
theorem for_enum {K : PySem.W.Frag} {a : Addr} {xs : List V} {g : TG} {tb : TS} {D : Ends} {σ : L2.St} {H : Hp} (Pv : Nat → L2.St → Hp → Prop) (h0 : Pv 0 σ H) (hl : ∀ i σ H, i ≤ xs.length → Pv i σ H → SqL K H a xs)
    (hs : ∀ i x σ H T H', xs[i]? = some x → Pv i σ H → H T = none → Same H H' → H' T = some (.tup [.int (i : Nat), x]) → g (.ref T) σ H' fun σ2 H2 => tb { D with nx := Pv (i + 1), ct := Pv (i + 1), bk := D.nx } σ2 H2) (hd : ∀ σ H, Pv xs.length σ H → D.nx σ H) :
    ∃ W : Nat → Nat → L2.St → Hp → Prop, (∃ m, W 0 m σ H) ∧ ∀ i m σ H, W i m σ H →
      ((Ite K a).stop i H ∧ D.nx σ H) ∨ ((Ite K a).go i H ∧ ∃ N : L2.St → Hp → Prop, (∀ σ' H', N σ' H' → ∃ m', m' < m ∧ W (i + 1) m' σ' H') ∧ ∀ x H', (Ite K a).yld i H x H' → g x σ H' fun σ2 H2 => tb { D with nx := N, ct := N, bk := D.nx } σ2 H2) := by
  refine ⟨fun i m σ H => i + m = xs.length ∧ Pv i σ H, ⟨xs.length, Nat.zero_add _, h0⟩, ?_⟩
  rintro i m σ H ⟨hm, p⟩
  have q := hl i σ H (by omega) p
  by_cases hlt : i < xs.length
  · refine .inr ⟨⟨xs, xs[i], q, by simp [hlt]⟩, Pv (i + 1), fun σ' H' p' => ⟨m - 1, by omega, by omega, p'⟩, fun v H' y => ?_⟩
    obtain ⟨T, x, ev, hT, eH, hx⟩ := y
    subst ev eH
    exact hs i x σ H T _ (hx xs q) p hT (Same.new hT) upd_same
  · have e : i = xs.length := by omega
    subst e
    exact .inl ⟨⟨xs, q, Nat.le_refl _⟩, hd σ H p⟩
theorem lc_enum {K : PySem.W.Frag} {a : Addr} {xs : List V} {g : TG} {tt : TT} {te : TE} {vs : List Nat} {σ : L2.St} {H1 : Hp} {D : Addr} {Qd : Hp → Prop} (Pv : Nat → Hp → Prop) (h0 : Pv 0 (upd H1 D (.lst []))) (hl : ∀ i H, i ≤ xs.length → Pv i H → SqL K H a xs)
    (hs : ∀ i x H T H', xs[i]? = some x → Pv i H → H T = none → Same H H' → H' T = some (.tup [.int (i : Nat), x]) → g (.ref T) (wipe σ vs) H' fun σ2 H2 => wipe σ2 vs = wipe σ vs ∧ tt σ2 H2 fun b H3 =>
      if b = true then te σ2 H3 fun y H4 => ∃ acc, H4 D = some (.lst acc) ∧ acc.length < sizeLine ∧ Pv (i + 1) (upd H4 D (.lst (acc ++ [y]))) else Pv (i + 1) H3) (hd : ∀ H, Pv xs.length H → Qd H) :
    ∃ W : Nat → Nat → Hp → Prop, (∃ m, W 0 m (upd H1 D (.lst []))) ∧ ∀ i m H, W i m H →
      ((Ite K a).stop i H ∧ Qd H) ∨ ((Ite K a).go i H ∧ ∃ Nx : Hp → Prop, (∀ H', Nx H' → ∃ m', m' < m ∧ W (i + 1) m' H') ∧ ∀ x H', (Ite K a).yld i H x H' → g x (wipe σ vs) H' fun σ2 H2 => wipe σ2 vs = wipe σ vs ∧ tt σ2 H2 fun b H3 =>
        if b = true then te σ2 H3 fun y H4 => ∃ acc, H4 D = some (.lst acc) ∧ acc.length < sizeLine ∧ Nx (upd H4 D (.lst (acc ++ [y]))) else Nx H3) := by
  refine ⟨fun i m H => i + m = xs.length ∧ Pv i H, ⟨xs.length, Nat.zero_add _, h0⟩, ?_⟩
  rintro i m H ⟨hm, p⟩
  have q := hl i H (by omega) p
  by_cases hlt : i < xs.length
  · refine .inr ⟨⟨xs, xs[i], q, by simp [hlt]⟩, Pv (i + 1), fun H' p' => ⟨m - 1, by omega, by omega, p'⟩, fun v H' y => ?_⟩
    obtain ⟨T, x, ev, hT, eH, hx⟩ := y
    subst ev eH
    exact hs i x H T _ (hx xs q) p hT (Same.new hT) upd_same
  · have e : i = xs.length := by omega
    subst e
    exact .inl ⟨⟨xs, q, Nat.le_refl _⟩, hd H p⟩
/-! ### lists of ints -/
abbrev LI (ns : List Int) : List V := ns.map V.int
theorem LI_get {ns : List Int} {i : Nat} {x : V} (h : (LI ns)[i]? = some x) : ∃ n, ns[i]? = some n ∧ x = .int n := by
  rw [List.getElem?_map] at h
  cases e : ns[i]? with
  | none =>
    rw [e] at h
    cases h
  | some n =>
    rw [e] at h
    exact ⟨n, rfl, (Option.some.inj h).symm⟩
theorem dpAll_ints {K : PySem.W.Frag} {H : Hp} : ∀ ns : List Int, DpAll K H (LI ns) (ns.map PyData.int)
  | [] => .nil
  | n :: ns => .cons (.int n) (dpAll_ints ns)
theorem dp_ints {K : PySem.W.Frag} {H : Hp} {a : Addr} {ns : List Int} (h : SqL K H a (LI ns)) : Dp K H (.ref a) (.list (ns.map PyData.int)) := .lst h (dpAll_ints ns)
theorem lay_ints : ∀ ns : List Int, PyData.canLayAll0 (ns.map PyData.int) = true
  | [] => by simp only [List.map_nil, PyData.canLayAll0]
  | n :: ns => by
    simp only [List.map_cons, PyData.canLayAll0, PyData.canLay0, Bool.true_and]
    exact lay_ints ns
theorem depth_ints : ∀ ns : List Int, PyData.depthAll (ns.map PyData.int) = 0
  | [] => by simp only [List.map_nil, PyData.depthAll]
  | n :: ns => by
    simp only [List.map_cons, PyData.depthAll, PyData.depth, depth_ints ns]
    decide
theorem shaped_ints (ns : List Int) : SeqAt.shaped (.list (ns.map PyData.int)) = true := by
  unfold SeqAt.shaped
  simp only [PyData.canLay0, lay_ints, PyData.depth, depth_ints]
  decide
theorem eqvAll_ints : ∀ xs ys : List Int, PyData.eqvAll (xs.map PyData.int) (ys.map PyData.int) = decide (xs = ys)
  | [], [] => by simp [PyData.eqvAll]
  | x :: xs, [] => by simp [PyData.eqvAll]
  | [], y :: ys => by simp [PyData.eqvAll]
  | x :: xs, y :: ys => by
    simp only [List.map_cons, PyData.eqvAll, PyData.eqv, eqvAll_ints xs ys]
    by_cases h1 : x = y <;> by_cases h2 : xs = ys <;> simp [h1, h2]
theorem eqv_ints (xs ys : List Int) : PyData.eqv (.list (xs.map PyData.int)) (.list (ys.map PyData.int)) = decide (xs = ys) := by
  simp only [PyData.eqv, eqvAll_ints]
/-- an item by a Nat index -/
theorem atI_LI {ns : List Int} {i : Nat} {n : Int} (h : ns[i]? = some n) : atI (LI ns) (i : Int) = some (.int n) := by
  have e : (LI ns)[i]? = some (.int n) := by rw [List.getElem?_map, h]; rfl
  exact atI_nat e
/-- the place to which a table moves a place -/
def atT (ts : List Int) (x : Int) : Int := x + ts.getD (x % ts.length).toNat 0
theorem small_len {n : Nat} (h : n ≤ 1000000) : n ≤ sizeLine := Nat.le_trans h (by decide)
theorem small_lt {n : Nat} (h : n < 1000000) : n < sizeLine := Nat.lt_of_lt_of_le h (by decide)
end My

end
section
set_option linter.all false
set_option maxRecDepth 100000
set_option maxHeartbeats 1000000
namespace My
open PySem PySem.Spec PyProof.Rows L2
/-! ### a comprehension whose list is known -/
def LC (H0 : Hp) (D : Addr) (zs : List V) (i : Nat) (H : Hp) : Prop := Same H0 H ∧ H D = some (.lst (zs.take i))
theorem lc_start {H0 H1 : Hp} {D : Addr} {zs : List V} (h : Same H0 H1) (hD : H0 D = none) : LC H0 D zs 0 (upd H1 D (.lst [])) := ⟨Same.mut h hD, upd_same⟩
theorem lc_step {H0 H4 : Hp} {D : Addr} {zs : List V} {i : Nat} {y : V} (hD : H0 D = none) (h : LC H0 D zs i H4) (hy : zs[i]? = some y) (hs : zs.length ≤ 1000000) :
    ∃ acc, H4 D = some (.lst acc) ∧ acc.length < sizeLine ∧ LC H0 D zs (i + 1) (upd H4 D (.lst (acc ++ [y]))) := by
  have hi : i < zs.length := (List.getElem?_eq_some_iff.mp hy).1
  refine ⟨_, h.2, small_lt (by rw [List.length_take]; omega), Same.mut h.1 hD, ?_⟩
  have e : zs.take (i + 1) = zs.take i ++ [y] := by
    rw [List.take_succ, hy]
    rfl
  rw [e]
  exact upd_same
theorem LC.same {H0 H H' : Hp} {D : Addr} {zs : List V} {i : Nat} (h : LC H0 D zs i H) (e : Same H H') : LC H0 D zs i H' := ⟨h.1.trans e, e _ _ h.2⟩
theorem LC.done {H0 H : Hp} {D : Addr} {zs : List V} {n : Nat} (h : LC H0 D zs n H) (e : n = zs.length) : Same H0 H ∧ H D = some (.lst zs) := by
  refine ⟨h.1, ?_⟩
  have := h.2
  rw [e, List.take_length] at this
  exact this
/-! ### a table said more than once -/
def Rep (ts us : List Int) : Prop := ∃ k, us = (List.replicate k ts).flatten
theorem Rep.self (us : List Int) : Rep us us := ⟨1, by simp⟩
theorem flat_len {α : Type} (k : Nat) (ts : List α) : (List.replicate k ts).flatten.length = k * ts.length := by
  rw [List.length_flatten, List.map_replicate, List.sum_replicate_nat]
theorem LI_flat (k : Nat) (ts : List Int) : (List.replicate k (LI ts)).flatten = LI (List.replicate k ts).flatten := by
  unfold LI
  rw [List.map_flatten, List.map_replicate]
theorem newS {H H1 : Hp} {p : Addr} {o : HO} (e : upd H p o = H1) (hp : H p = none) : Same H H1 := e ▸ Same.new hp
theorem newE {H H1 : Hp} {p : Addr} {o : HO} (e : upd H p o = H1) : H1 p = some o := e ▸ upd_same

end My

end
section
set_option linter.all false
set_option maxRecDepth 100000
set_option maxHeartbeats 1000000
namespace My
open PySem PySem.Spec PyProof.Rows L2
variable {X : Cx}
/-- name = {..} on one line -/
theorem ps_setDc {i : Nat} {y : Str} {py pos spos : Pos} {kx vx tg iter : Expr} {ifs : List Expr} {scope : Scope} {own : List (Str × Nat)} {wi : TI} {g : TG} {tt : TT} {tk tv : TE}
    (hc : X.calm = true) (hN : X.N.Nodup) (hy : X.N[i]? = some y) (hyl : X.env.scope.names.lookup y = some .local)
    (hsw : swapsWith (.DictComp kx vx [⟨tg, iter, ifs, 0⟩] scope pos) (some (.Name y py)) spos.line X.env = pure true)
    (hi : PI X tg iter wi) (ok : BlkOk X.N X.env.scope scope own) (hg : ∀ s H C cl fp, PG (X.blk s H scope (compEnvC scope cl C X.env) fp) tg g)
    (ht : ∀ s H C cl fp, PTs (X.blk s H scope (compEnvC scope cl C X.env) fp) ifs tt) (hk : ∀ s H C cl fp, PE (X.blk s H scope (compEnvC scope cl C X.env) fp) kx tk)
    (he : ∀ s H C cl fp, PE (X.blk s H scope (compEnvC scope cl C X.env) fp) vx tv) (hs : ∀ x, foldedSetIterable iter X.env x = pure x := by intro _; rfl) :
    PS X (.Assign [.Name y py] (.DictComp kx vx [⟨tg, iter, ifs, 0⟩] scope pos) spos) (tAsg (tDc wi g tt tk tv (own.map (·.2))) (gName i)) :=
  ⟨fun pins s σ H D I h => by
    rw [exec_Assign_Name_used _ _ _ _ hsw]
    refine wpAny_bind (wpAny_standAt (wpAny_bind ?_))
    show wpAny _ X.A (do let _ ← comprehension (.DictComp kx vx [⟨tg, iter, ifs, 0⟩] scope pos) scope X.env (firstIterPos [⟨tg, iter, ifs, 0⟩] pos) newDict false (eval iter X.env) (some (assign (.Name y py) X.env))) _ _ s
    have h : tDc wi g tt tk tv (own.map (·.2)) σ H (fun x H1 => gName i x σ H1 D.nx) := h
    refine wpAny_bind (thn (dc_core (Qf := fun _ s' => SP X pins D .next s') hc hN I hi ok hg ht hk he hs h fun L C s' m H' I' q hn f => ?_) fun _ s' hq => wpAny_pure (wpAny_pure hq))
    show wpAny _ _ (assign (.Name y py) X.env (.ref L)) _ _ _
    refine wpAny_assign_Name (store_ok2 (v := V.ref L) I' hN hy (.inl hyl) rfl (fun s2 I2 z => ?_) (.inr hyl))
    obtain ⟨a, sb, ha⟩ := z
    have haC : C ≠ a := fun e => ha.elim (fun z => f.2.1 (e.trans z)) fun z => f.2.2.2.2.1 y a z e.symm
    exact ⟨m, hn.sameBut sb haC, fun h3 sb3 => ⟨_, H', I2.turned (t' := s2.toks) (fun b o hb e => (sb3.2 b hb).trans e) f.1 f.2.1 f.2.2.2.1 f.2.2.2.2.1 f.2.2.2.2.2, q⟩⟩⟩
theorem sw_trueD {kx vx : Expr} {gs : List Comprehension} {scope : Scope} {pos py : Pos} {y : Str} {l : Nat} {env : Env} (hk : env.scope.kind = .function)
    (hy : env.scope.names.lookup y = some .local) (hl : (py.line == pos.line) = true) (ha : (scope.names.any fun (n, k) => n == y && (k == .local || k == .cell)) = false) :
    swapsWith (.DictComp kx vx gs scope pos) (some (.Name y py)) l env = pure true := by
  have k2 : env.kindOf y = some .local := hy
  have k3 : env.blockKind = .function := by
    unfold Env.blockKind
    rw [hk]
    rfl
  unfold swapsWith
  simp only [k3, k2, ha, Expr.pos, hl]
  rfl
/-- over the items of a dict that is locked -/
theorem dc_items {d : Addr} {o : Obj} {kvs : List (Key × V)} {g : TG} {tt : TT} {tk tv : TE} {vs : List Nat} {σ : L2.St} {H1 : Hp} {D : Addr} {Qd : Hp → Prop} (Pv : Nat → Hp → Prop) (h0 : Pv 0 (upd H1 D (.dK []))) (hl : ∀ i H, Pv i H → H d = some (.frz o (.dK kvs)))
    (hs : ∀ i k v H T H', kvs[i]? = some (k, v) → Pv i H → H T = none → Same H H' → H' T = some (.tup [kV k, v]) → g (.ref T) (wipe σ vs) H' fun σ2 H2 => wipe σ2 vs = wipe σ vs ∧ tt σ2 H2 fun b H3 =>
      if b = true then tk σ2 H3 fun y H4 => tv σ2 H4 fun z H5 => ∃ kvs k, y = kV k ∧ H5 D = some (.dK kvs) ∧ kvs.length < sizeLine ∧ Pv (i + 1) (upd H5 D (.dK (putK kvs k z))) else Pv (i + 1) H3) (hd : ∀ H, Pv kvs.length H → Qd H) :
    ∃ W : Nat → Nat → Hp → Prop, (∃ m, W 0 m (upd H1 D (.dK []))) ∧ ∀ i m H, W i m H → ((Iti d o kvs).stop i H ∧ Qd H) ∨ ((Iti d o kvs).go i H ∧ ∃ Nx : Hp → Prop, (∀ H', Nx H' → ∃ m', m' < m ∧ W (i + 1) m' H') ∧
      ∀ x H', (Iti d o kvs).yld i H x H' → g x (wipe σ vs) H' fun σ2 H2 => wipe σ2 vs = wipe σ vs ∧ tt σ2 H2 fun b H3 =>
        if b = true then tk σ2 H3 fun y H4 => tv σ2 H4 fun z H5 => ∃ kvs k, y = kV k ∧ H5 D = some (.dK kvs) ∧ kvs.length < sizeLine ∧ Nx (upd H5 D (.dK (putK kvs k z))) else Nx H3) := by
  refine ⟨fun i m H => i + m = kvs.length ∧ Pv i H, ⟨kvs.length, Nat.zero_add _, h0⟩, ?_⟩
  rintro i m H ⟨hm, p⟩
  by_cases hlt : i < kvs.length
  · refine .inr ⟨⟨hl i H p, hlt⟩, Pv (i + 1), fun H' p' => ⟨m - 1, by omega, by omega, p'⟩, fun v H' y => ?_⟩
    obtain ⟨T, k, x, hx, ev, hT, eH⟩ := y
    subst ev eH
    exact hs i k x H T _ hx p hT (Same.new hT) upd_same
  · have e : i = kvs.length := by omega
    subst e
    exact .inl ⟨⟨hl _ H p, Nat.le_refl _⟩, hd H p⟩
end My

end
section
set_option linter.all false
set_option maxRecDepth 100000
set_option maxHeartbeats 1000000
namespace My
open PySem PySem.Spec PyProof.Rows L2 StX ClX
/-! ### the text by places -/
def topS (i : Nat) : Stmt := PySem.Challenge.pw_threeswaps_k36_whole_streams_hold_so_man.main.body.getD i (.Pass ⟨0, 0, 0, 0⟩)
abbrev s_is_integer : Stmt := topS 8
theorem sc_is_integer : FnScope ["value"] ["value"] (defScope s_is_integer) := ⟨rfl, rfl, rfl, by decide +kernel, rfl, by decide +kernel, by decide +kernel⟩

abbrev s_require_integer : Stmt := topS 9
theorem sc_require_integer : FnScope ["value", "least"] ["value", "least"] (defScope s_require_integer) := ⟨rfl, rfl, rfl, by decide +kernel, rfl, by decide +kernel, by decide +kernel⟩

abbrev s_divisor_of_two : Stmt := topS 10
theorem sc_divisor_of_two : FnScope ["one", "other", "greater", "less"] ["one", "other"] (defScope s_divisor_of_two) := ⟨rfl, rfl, rfl, by decide +kernel, rfl, by decide +kernel, by decide +kernel⟩

abbrev s_common_multiple : Stmt := topS 11
theorem sc_common_multiple : FnScope ["numbers", "number", "found"] ["numbers"] (defScope s_common_multiple) := ⟨rfl, rfl, rfl, by decide +kernel, rfl, by decide +kernel, by decide +kernel⟩

abbrev s_checked_table : Stmt := topS 14
theorem sc_checked_table : FnScope ["offsets", "sign", "period", "position", "offset", "first", "remainder"] ["offsets", "sign"] (defScope s_checked_table) := ⟨rfl, rfl, rfl, by decide +kernel, rfl, by decide +kernel, by decide +kernel⟩

abbrev s_least_table : Stmt := topS 15
theorem sc_least_table : FnScope ["offsets", "length", "period"] ["offsets"] (defScope s_least_table) := ⟨rfl, rfl, rfl, by decide +kernel, rfl, by decide +kernel, by decide +kernel⟩

abbrev s_joint_multiple : Stmt := topS 17
theorem sc_joint_multiple : FnScope ["periods", "found"] ["periods"] (defScope s_joint_multiple) := ⟨rfl, rfl, rfl, by decide +kernel, rfl, by decide +kernel, by decide +kernel⟩

abbrev s_moved : Stmt := topS 18
theorem sc_moved : FnScope ["offsets", "place"] ["offsets", "place"] (defScope s_moved) := ⟨rfl, rfl, rfl, by decide +kernel, rfl, by decide +kernel, by decide +kernel⟩

abbrev s_joined_table : Stmt := topS 19
theorem sc_joined_table : FnScope ["one", "other", "period", "place"] ["one", "other"] (defScope s_joined_table) := ⟨rfl, rfl, rfl, by decide +kernel, rfl, by decide +kernel, by decide +kernel⟩

abbrev s_sources_of : Stmt := topS 20
theorem sc_sources_of : FnScope ["offsets", "offset", "found", "place"] ["offsets"] (defScope s_sources_of) := ⟨rfl, rfl, rfl, by decide +kernel, rfl, by decide +kernel, by decide +kernel⟩

abbrev s_Plan_init : Stmt := inClass (topS 21) 1
theorem sc_Plan_init : FnScope ["self", "offsets"] ["self", "offsets"] (defScope s_Plan_init) := ⟨rfl, rfl, rfl, by decide +kernel, rfl, by decide +kernel, by decide +kernel⟩

abbrev s_Plan_shift : Stmt := inClass (topS 21) 3
theorem sc_Plan_shift : FnScope ["cls", "n"] ["cls", "n"] (defScope s_Plan_shift) := ⟨rfl, rfl, rfl, by decide +kernel, rfl, by decide +kernel, by decide +kernel⟩

abbrev s_Plan_flow : Stmt := inClass (topS 21) 6
theorem sc_Plan_flow : FnScope ["self"] ["self"] (defScope s_Plan_flow) := ⟨rfl, rfl, rfl, by decide +kernel, rfl, by decide +kernel, by decide +kernel⟩

abbrev s_Plan_offsets : Stmt := inClass (topS 21) 7
theorem sc_Plan_offsets : FnScope ["self"] ["self"] (defScope s_Plan_offsets) := ⟨rfl, rfl, rfl, by decide +kernel, rfl, by decide +kernel, by decide +kernel⟩

abbrev s_Plan_at : Stmt := inClass (topS 21) 8
theorem sc_Plan_at : FnScope ["self", "x"] ["self", "x"] (defScope s_Plan_at) := ⟨rfl, rfl, rfl, by decide +kernel, rfl, by decide +kernel, by decide +kernel⟩

abbrev s_Plan_then : Stmt := inClass (topS 21) 12
theorem sc_Plan_then : FnScope ["self", "other"] ["self", "other"] (defScope s_Plan_then) := ⟨rfl, rfl, rfl, by decide +kernel, rfl, by decide +kernel, by decide +kernel⟩

abbrev s_delay : Stmt := topS 23
theorem sc_delay : FnScope ["plan", "offset"] ["plan"] (defScope s_delay) := ⟨rfl, rfl, rfl, by decide +kernel, rfl, by decide +kernel, by decide +kernel⟩

abbrev s_delayed : Stmt := topS 24
theorem sc_delayed : FnScope ["plan"] ["plan"] (defScope s_delayed) := ⟨rfl, rfl, rfl, by decide +kernel, rfl, by decide +kernel, by decide +kernel⟩

abbrev s_holds : Stmt := topS 25
theorem sc_holds : FnScope ["plan"] ["plan"] (defScope s_holds) := ⟨rfl, rfl, rfl, by decide +kernel, rfl, by decide +kernel, by decide +kernel⟩

abbrev s_Stream_init : Stmt := inClass (topS 27) 0
theorem sc_Stream_init : FnScope ["self", "plan", "gap"] ["self", "plan", "gap"] (defScope s_Stream_init) := ⟨rfl, rfl, rfl, by decide +kernel, rfl, by decide +kernel, by decide +kernel⟩

abbrev s_Stream_moment : Stmt := inClass (topS 27) 1
theorem sc_Stream_moment : FnScope ["self"] ["self"] (defScope s_Stream_moment) := ⟨rfl, rfl, rfl, by decide +kernel, rfl, by decide +kernel, by decide +kernel⟩

abbrev s_Stream_waiting : Stmt := inClass (topS 27) 2
theorem sc_Stream_waiting : FnScope ["self"] ["self"] (defScope s_Stream_waiting) := ⟨rfl, rfl, rfl, by decide +kernel, rfl, by decide +kernel, by decide +kernel⟩

abbrev s_Stream_push : Stmt := inClass (topS 27) 3
theorem sc_Stream_push : FnScope ["self", "item", "now"] ["self", "item"] (defScope s_Stream_push) := ⟨rfl, rfl, rfl, by decide +kernel, rfl, by decide +kernel, by decide +kernel⟩

abbrev s_Stream_rest : Stmt := inClass (topS 27) 4
theorem sc_Stream_rest : GScope ["self", "moment", "leaving", "last", "item"] ["self"] (defScope s_Stream_rest) := ⟨rfl, rfl, rfl, by decide +kernel, rfl, by decide +kernel, by decide +kernel⟩

abbrev s__law_pot : Stmt := topS 29
theorem sc__law_pot : FnScope ["_law_script", "_law_k", "_law_cell"] ["_law_script", "_law_k"] (defScope s__law_pot) := ⟨rfl, rfl, rfl, by decide +kernel, rfl, by decide +kernel, by decide +kernel⟩

abbrev s__law_draw : Stmt := topS 30
theorem sc__law_draw : FnScope ["_law_pot_here", "_law_many", "_law_digit"] ["_law_pot_here", "_law_many"] (defScope s__law_draw) := ⟨rfl, rfl, rfl, by decide +kernel, rfl, by decide +kernel, by decide +kernel⟩

abbrev s__law_shuffled : Stmt := topS 32
theorem sc__law_shuffled : FnScope ["_law_pot_here", "_law_some", "_law_left", "_law_mixed"] ["_law_pot_here", "_law_some"] (defScope s__law_shuffled) := ⟨rfl, rfl, rfl, by decide +kernel, rfl, by decide +kernel, by decide +kernel⟩

abbrev s__law_table : Stmt := topS 33
theorem sc__law_table : FnScope ["_law_pot_here", "_law_many", "_law_goals", "_law_found", "_law_near", "_law_place"] ["_law_pot_here", "_law_many"] (defScope s__law_table) := ⟨rfl, rfl, rfl, by decide +kernel, rfl, by decide +kernel, by decide +kernel⟩

abbrev s__law_watched : Stmt := topS 34
theorem sc__law_watched : FnScope ["_law_stream", "_law_most", "_law_far", "_law_many", "_law_found", "_law_left", "_law_number"] ["_law_stream", "_law_most", "_law_far", "_law_many"] (defScope s__law_watched) := ⟨rfl, rfl, rfl, by decide +kernel, rfl, by decide +kernel, by decide +kernel⟩

abbrev s__law_right : Stmt := topS 35
theorem sc__law_right : FnScope ["_law_pot_here", "_law_table_here", "_law_made", "_law_late", "_law_far", "_law_most", "_law_many", "_law_stream", "_law_found", "_law_at", "_law_one", "_law_offset"] ["_law_pot_here"] (defScope s__law_right) := ⟨rfl, rfl, rfl, by decide +kernel, rfl, by decide +kernel, by decide +kernel⟩

abbrev s_law : Stmt := topS 36
theorem sc_law : FnScope ["_law_script", "_law_k"] ["_law_script"] (defScope s_law) := ⟨rfl, rfl, rfl, by decide +kernel, rfl, by decide +kernel, by decide +kernel⟩

/-- a plain def of the module -/
abbrev DefM (K : PySem.W.Frag) (mg : Str → Option Value) (x : Str) (st : Stmt) : Prop := ∃ f fd, Fun K x x st f fd ∧ mg x = some (.ref f)
abbrev MetM (K : PySem.W.Frag) (C : Addr) (x qual : Str) (st : Stmt) : Prop := ∃ f fd, Fun K x qual st f fd ∧ Meth K C x f
abbrev PrpM (K : PySem.W.Frag) (C : Addr) (x qual : Str) (st : Stmt) : Prop := ∃ p f fd, Fun K x qual st f fd ∧ PropOf K C x p f
/-- what the top has left -/
structure Txt (K : PySem.W.Frag) (mg : Str → Option Value) (cM cP cS : Addr) : Prop where
  g_isinstance : mg "isinstance" = none
  g_int : mg "int" = none
  g_bool : mg "bool" = none
  g_list : mg "list" = none
  g_tuple : mg "tuple" = none
  g_abs : mg "abs" = none
  g_len : mg "len" = none
  g_enumerate : mg "enumerate" = none
  g_range : mg "range" = none
  g_max : mg "max" = none
  g_min : mg "min" = none
  g_sum : mg "sum" = none
  g_all : mg "all" = none
  g_sorted : mg "sorted" = none
  g_divmod : mg "divmod" = none
  g_repr : mg "repr" = none
  m_Move : mg "Move" = some (.ref cM)
  m_Plan : mg "Plan" = some (.ref cP)
  m_Stream : mg "Stream" = some (.ref cS)
  d_is_integer : DefM K mg "is_integer" s_is_integer
  d_require_integer : ∃ f fd, FunD K "require_integer" "require_integer" (defArgs s_require_integer) (defBody s_require_integer) (defScope s_require_integer) [V.non] [] f fd ∧ mg "require_integer" = some (.ref f)
  d_divisor_of_two : DefM K mg "divisor_of_two" s_divisor_of_two
  d_common_multiple : DefM K mg "common_multiple" s_common_multiple
  d_checked_table : DefM K mg "checked_table" s_checked_table
  d_least_table : DefM K mg "least_table" s_least_table
  d_joint_multiple : DefM K mg "joint_multiple" s_joint_multiple
  d_moved : DefM K mg "moved" s_moved
  d_joined_table : DefM K mg "joined_table" s_joined_table
  d_sources_of : DefM K mg "sources_of" s_sources_of
  d_delay : DefM K mg "delay" s_delay
  d_delayed : DefM K mg "delayed" s_delayed
  d_holds : DefM K mg "holds" s_holds
  d__law_pot : DefM K mg "_law_pot" s__law_pot
  d__law_draw : DefM K mg "_law_draw" s__law_draw
  d__law_shuffled : DefM K mg "_law_shuffled" s__law_shuffled
  d__law_table : DefM K mg "_law_table" s__law_table
  d__law_watched : DefM K mg "_law_watched" s__law_watched
  d__law_right : DefM K mg "_law_right" s__law_right
  d_law : DefM K mg "law" s_law
  clP : Cls K cP
  clS : Cls K cS
  nP1 : NoAttr K cP "own_offsets"
  nP2 : NoAttr K cP "own_sources"
  nS1 : NoAttr K cS "own_delivery"
  nS2 : NoAttr K cS "own_gap"
  nS3 : NoAttr K cS "own_moment"
  nS4 : NoAttr K cS "own_leaving"
  rdM : ∃ mc u, CRead K cM mc ∧ CVal K cM mc "MAX_PERIOD" (.int 2520) u
  rdP : ∃ mc u, CRead K cP mc ∧ CVal K cP mc "SIGN" (.int 1) u
  i_Plan : ∃ f fd, Mk K cP f ∧ Fun K "__init__" "Plan.__init__" s_Plan_init f fd
  i_Stream : ∃ f fd, Mk K cS f ∧ FunD K "__init__" "Stream.__init__" (defArgs s_Stream_init) (defBody s_Stream_init) (defScope s_Stream_init) [] [("gap", V.non)] f fd
  me_Plan_shift : ∃ mc p f fd, CRead K cP mc ∧ CMet K cP mc "shift" p f ∧ Fun K "shift" "Plan.shift" s_Plan_shift f fd
  me_Plan_offsets : MetM K cP "offsets" "Plan.offsets" s_Plan_offsets
  me_Plan_at : MetM K cP "at" "Plan.at" s_Plan_at
  me_Plan_then : MetM K cP "then" "Plan.then" s_Plan_then
  pr_Plan_flow : PrpM K cP "flow" "Plan.flow" s_Plan_flow
  pr_Stream_moment : PrpM K cS "moment" "Stream.moment" s_Stream_moment
  pr_Stream_waiting : PrpM K cS "waiting" "Stream.waiting" s_Stream_waiting
  me_Stream_push : MetM K cS "push" "Stream.push" s_Stream_push
  me_Stream_rest : MetM K cS "rest" "Stream.rest" s_Stream_rest
end My

end
section
set_option linter.all false
set_option maxRecDepth 100000
set_option maxHeartbeats 1000000
namespace My
open PySem PySem.Spec PyProof.Rows L2 StX ClX
/-! ### integers -/
def sp_is_integer : Sp := fun vs H Q _ => ∃ n : Int, vs = [.int n] ∧ Q (.bl true) H
def sp_require_integer : Sp := fun vs H Q _ => ∃ (n : Int) (l : V), vs = [.int n, l] ∧ (l = .non ∨ ∃ m : Int, l = .int m ∧ m ≤ n) ∧ Q .non H
def sp_divisor_of_two : Sp := fun vs H Q _ => ∃ a b : Int, vs = [.int a, .int b] ∧ Q (.int (Int.gcd a b : Int)) H
section
variable {P : Program} {w : World} {K : PySem.W.Frag} {mg : Str → Option Value} {base : Heap} {cM cP cS : Addr} (T : Txt K mg cM cP cS)
include T
theorem c_is_integer : CalD P w K mg base 1 "is_integer" sp_is_integer [] := by
  obtain ⟨f, fd, F, hm⟩ := T.d_is_integer
  refine CalD.of F hm (F.binds (ps := ["value"]) fun _ _ _ _ _ _ us hl => match us, hl with | [_], _ => rfl) (F.ok sc_is_integer (fun vs H Q E h => ?_) (fun cdv A outer s H vs Q E hr h => ?_))
  · obtain ⟨n, e, _⟩ := h
    rw [e]
    rfl
  · obtain ⟨n, rfl, k⟩ := h
    refine ⟨_, (pss_one (ps_ret (pe_and (pe_callB call_isi (by rfl) T.g_isinstance (by decide +kernel) (pa_cons (pv 0) (pa_cons (pe_bltn (v := .ty "int") (by rfl) T.g_int (by decide +kernel) rfl) pa_nil))) (pe_one (pe_not (pe_callB call_isi (by rfl) T.g_isinstance (by decide +kernel) (pa_cons (pv 0) (pa_cons (pe_bltn (v := .ty "bool") (by rfl) T.g_bool (by decide +kernel) rfl) pa_nil)))))))), ?_⟩
    refine ⟨_, rfl, .int n, .ty "int", .type "int", .type "int", true, rfl, .ty _, .base (.int _), kit_ty (by decide +kernel), true, rfl, ?_⟩
    refine iteT ?_
    exact ⟨_, rfl, .int n, .ty "bool", .type "int", .type "bool", false, rfl, .ty _, .base (.int _), kit_ty (by decide +kernel), false, rfl, k⟩
theorem ok_require_integer {f : Addr} {fd : FuncData} (F : FunD K "require_integer" "require_integer" (defArgs s_require_integer) (defBody s_require_integer) (defScope s_require_integer) [V.non] [] f fd) : FnOk P w K mg base CX0 2 f fd ["value", "least"] sp_require_integer := by
  have c_is_integer := c_is_integer (P := P) (w := w) (base := base) T
  refine F.ok sc_require_integer (fun vs H Q E h => ?_) (fun cdv A outer s H vs Q E hr h => ?_)
  · obtain ⟨n, l, e, _⟩ := h
    rw [e]
    rfl
  · obtain ⟨n, l, rfl, hl, k⟩ := h
    refine ⟨_, PSs.nox (pss_one (ps_if (PW.pt (pw_or (pt_not (pt_val (pe_d c_is_integer hr (by decide) rfl (pa_cons (pv 0) pa_nil)))) (pw_or1 (PW.pt (pw_and (pt_cmpR op_notN (pv 1) pe_non (nomark _)) (pw_and1 (pt_cmpR op_lt (pv 0) (pv 1) (nomark _)))))))) (pss_one ps_never) pss_nil)), ?_⟩
    refine ⟨_, rfl, n, rfl, _, rfl, ?_⟩
    refine iteF ?_
    rcases hl with rfl | ⟨m, rfl, hm⟩
    · refine ⟨_, rfl, rfl, _, rfl, ?_⟩
      refine iteF ?_
      refine iteF ?_
      exact k
    · refine ⟨_, rfl, rfl, _, rfl, ?_⟩
      refine iteT ?_
      refine ⟨_, rfl, _, rfl, _, _, rfl, rfl, _, rfl, ?_⟩
      rw [decide_eq_false (show ¬ n < m by omega)]
      refine iteF ?_
      exact k
theorem c_require_integer1 : CalD P w K mg base 2 "require_integer" sp_require_integer [V.non] := by
  obtain ⟨f, fd, F, hm⟩ := T.d_require_integer
  obtain ⟨ds, d, b⟩ := F.binds1 (ps := ["value", "least"]) 1 0 (by simp) rfl (fun Tt kV doc pm an cdv ct us its h1 h2 => match us, its, h1, h2 with | [_], [_], _, _ => ⟨_, rfl, rfl⟩)
  exact ⟨f, fd, _, ds, ok_require_integer T F, hm, F.kp, b, d⟩
theorem c_require_integer2 : CalD P w K mg base 2 "require_integer" sp_require_integer [] := by
  obtain ⟨f, fd, F, hm⟩ := T.d_require_integer
  obtain ⟨ds, d, b⟩ := F.binds1 (ps := ["value", "least"]) 2 1 (by simp) rfl (fun Tt kV doc pm an cdv ct us its h1 h2 => match us, its, h1, h2 with | [_, _], [_], _, _ => ⟨_, rfl, rfl⟩)
  have e : ds = [] := by
    have := d.length
    exact List.length_eq_zero_iff.mp (by simpa using this.symm)
  rw [e] at b
  exact ⟨f, fd, _, [], ok_require_integer T F, hm, F.kp, b, .nil⟩
theorem c_divisor_of_two : CalD P w K mg base 1 "divisor_of_two" sp_divisor_of_two [] := by
  obtain ⟨f, fd, F, hm⟩ := T.d_divisor_of_two
  refine CalD.of F hm (F.binds (ps := ["one", "other"]) fun _ _ _ _ _ _ us hl => match us, hl with | [_, _], _ => rfl) (F.ok sc_divisor_of_two (fun vs H Q E h => ?_) (fun cdv A outer s H vs Q E hr h => ?_))
  · obtain ⟨a, b, e, _⟩ := h
    rw [e]
    rfl
  · obtain ⟨a, b, rfl, k⟩ := h
    refine ⟨_, (pss_cons (ps_par (i := 2) (j := 3) (by rfl) sc_divisor_of_two.nd rfl rfl (by decide) rfl rfl (pa_cons (pe_callB call_abs (by rfl) T.g_abs (by decide +kernel) (pa_cons (pv 0) pa_nil)) (pa_cons (pe_callB call_abs (by rfl) T.g_abs (by decide +kernel) (pa_cons (pv 1) pa_nil)) pa_nil)) (by rfl))
      (pss_cons (ps_while PassesOwn.never (pt_cmpR op_ne (pv 3) pe_int (nomark _)) (pss_one (ps_par (i := 2) (j := 3) (by rfl) sc_divisor_of_two.nd rfl rfl (by decide) rfl rfl (pa_cons (pv 3) (pa_cons (pe_op op_mod (pv 2) (pv 3)) pa_nil)) (by rfl))))
      (pss_one (ps_ret (pv 2))))), ?_⟩
    refine ⟨_, rfl, a, rfl, _, rfl, b, rfl, _, _, rfl, ?_⟩
    have ea : (if a < 0 then -a else a) = (a.natAbs : Int) := by split <;> omega
    have eb : (if b < 0 then -b else b) = (b.natAbs : Int) := by split <;> omega
    rw [ea, eb]
    refine while_by (fun σ H' => H' = H ∧ ∃ x y : Nat, σ = [some (.int a), some (.int b), some (.int (x : Int)), some (.int (y : Int))] ∧ Nat.gcd x y = Int.gcd a b) (fun σ _ => match σ with | [_, _, _, some (.int y)] => y.toNat | _ => 0) ⟨rfl, a.natAbs, b.natAbs, rfl, rfl⟩ ?_ ?_
    · rintro σ H' ⟨rfl, x, y, rfl, hg⟩
      refine ⟨_, rfl, rfl, _, rfl, ?_⟩
      by_cases hy : y = 0
      · subst hy
        refine iteNS rfl ?_
        refine ⟨_, rfl, ?_⟩
        show Q (.int (x : Int)) H'
        rw [show x = Int.gcd a b by rw [← hg, Nat.gcd_zero_right]]
        exact k
      · have hn : V.int (y : Int) ≠ V.int 0 := fun e => by
          injection e with e
          omega
        rw [decide_eq_false hn]
        refine iteT ?_
        refine ⟨_, rfl, _, rfl, _, rfl, _, _, rfl, rfl, (by show (0 : Int) < (y : Int); omega), _, _, rfl, ⟨⟨rfl, y, x % y, rfl, ?_⟩, ?_⟩⟩
        · rw [← hg, Nat.gcd_comm x y]
          exact (Nat.gcd_rec y x).symm ▸ Nat.gcd_comm _ _
        · show ((x : Int) % (y : Int)).toNat < (y : Int).toNat
          have : (x : Int) % (y : Int) < y := Int.emod_lt_of_pos _ (by omega)
          have h0 : 0 ≤ (x : Int) % (y : Int) := Int.emod_nonneg _ (by omega)
          omega
    · rintro σ H' Q1 Q2 hq ⟨v, e1, e2, c, e3, q⟩
      exact ⟨v, e1, e2, c, e3, hq _ _ q⟩
end
end My

end
section
set_option linter.all false
set_option maxRecDepth 100000
set_option maxHeartbeats 1000000
namespace My
open PySem PySem.Spec PyProof.Rows L2 StX ClX
/-- a def with a star, called by its name -/
structure CalR (P : Program) (w : World) (K : PySem.W.Frag) (mg : Str → Option Value) (base : Heap) (k : Nat) (x : Str) (sp : Sp) : Prop where
  ex : ∃ f : Addr, FnR P w K mg base CX0 k f sp ∧ mg x = some (.ref f) ∧ PySem.W.keepIn K (.ref f) = true
theorem pe_r {X : Cx} {k j : Nat} {x : Str} {sp : Sp} {p pos sp_ : Pos} {e : Expr} {te : TE} (c : CalR X.prog X.w X.K X.mg X.base k x sp) (hr : Room j X.A) (hk : k ≤ j) (hg : Gl X x) (he : PE X e te) (hdb : (x == ("__debug__" : Str)) = false := by decide) :
    PE X (.Call (.Name x p) [.Starred e sp_] [] pos) (fun σ H Q => te σ H fun y H1 => ∃ a xs, y = V.ref a ∧ (SqT X.K H1 a xs ∨ SqL X.K H1 a xs) ∧ sp xs H1 Q E0) := by
  obtain ⟨f, F, h1, h2⟩ := c.ex
  exact pe_callS1 (hd := hdb) F (hr.mono hk) h2 hg h1 pass0 he
def lcmL (ns : List Int) : Int := ns.foldl (fun f n => f * n / (Int.gcd f n : Int)) 1
/-- of the tuple of all arguments -/
def sp_cm1 (K : PySem.W.Frag) : Sp := fun vs H Q _ => ∃ (p : Addr) (ns : List Int), vs = [.ref p] ∧ SqT K H p (LI ns) ∧ (∀ n ∈ ns, 1 ≤ n ∧ n ≤ 2520) ∧ Q (.int (lcmL ns)) H
def sp_common_multiple : Sp := fun vs H Q _ => ∃ ns : List Int, vs = LI ns ∧ ns.length ≤ 1000 ∧ (∀ n ∈ ns, 1 ≤ n ∧ n ≤ 2520) ∧ ∀ H', Same H H' → Q (.int (lcmL ns)) H'
def sp_joint_multiple (K : PySem.W.Frag) : Sp := fun vs H Q _ => ∃ (a : Addr) (ns : List Int), vs = [.ref a] ∧ SqL K H a (LI ns) ∧ ns.length ≤ 1000 ∧ (∀ n ∈ ns, 1 ≤ n ∧ n ≤ 2520) ∧ lcmL ns ≤ 2520 ∧ ∀ H', Same H H' → Q (.int (lcmL ns)) H'
def sp_moved (K : PySem.W.Frag) : Sp := fun vs H Q _ => ∃ (a : Addr) (ts : List Int) (x : Int), vs = [.ref a, .int x] ∧ SqL K H a (LI ts) ∧ 0 < ts.length ∧ ts.length ≤ 1000000 ∧ Q (.int (atT ts x)) H
section
variable {P : Program} {w : World} {K : PySem.W.Frag} {mg : Str → Option Value} {base : Heap} {cM cP cS : Addr} (T : Txt K mg cM cP cS)
include T
theorem c_common_multiple : CalR P w K mg base 3 "common_multiple" sp_common_multiple := by
  have c_require_integer2 := c_require_integer2 (P := P) (w := w) (base := base) T
  have c_divisor_of_two := c_divisor_of_two (P := P) (w := w) (base := base) T
  obtain ⟨f, fd, F, hm⟩ := T.d_common_multiple
  obtain ⟨oc, od, kV, doc, pm, an, cdv, ct, osl, rfl, lk, hcd⟩ := F.ex
  have G := fn_star (ps := []) (pv := "numbers") (sp := sp_cm1 K) (P := P) (w := w) (mg := mg) (base := base) (CX := CX0) (k := 2) lk hcd sc_common_multiple cxUp_none (fun us rest hl => match us, rest, hl with | [], [], _ => rfl | [], _ :: _, _ => rfl) (fun A outer s H vs Q E hr h => ?_)
  · refine ⟨f, fun A outer s H us vs Q E hr e0 r h => ?_, hm, F.kp⟩
    obtain ⟨ns, rfl, hl, hb, k⟩ := h
    refine G A outer s H us _ Q E hr e0 r ⟨[], LI ns, rfl, rfl, small_len (by rw [List.length_map]; omega), fun p hp => ⟨p, ns, rfl, st_at upd_same, hb, k _ (Same.new hp)⟩⟩
  · obtain ⟨p, ns, rfl, hs, hb, k⟩ := h
    refine ⟨_, PSs.nox (pss_cons (ps_for PassesOwn.never rfl (pi_tup (pv 0)) (pg_name (i := 1) sc_common_multiple.nd rfl (Or.inl rfl)) (pss_one (ps_expr (pe_d c_require_integer2 hr (by decide) rfl (pa_cons (pv 1) (pa_cons pe_int pa_nil))))))
      (pss_cons (ps_set (i := 2) sc_common_multiple.nd rfl (Or.inl rfl) pe_int)
      (pss_cons (ps_for PassesOwn.never rfl (pi_tup (pv 0)) (pg_name (i := 1) sc_common_multiple.nd rfl (Or.inl rfl)) (pss_one (ps_set (i := 2) sc_common_multiple.nd rfl (Or.inl rfl) (pe_op op_fdiv (pe_op op_mul (pv 2) (pv 1)) (pe_d c_divisor_of_two hr (by decide) rfl (pa_cons (pv 2) (pa_cons (pv 1) pa_nil)))))))
      (pss_one (ps_ret (pv 2)))))), ?_⟩
    refine ⟨_, rfl, p, rfl, ⟨_, hs⟩, for_tup (K := K) (a := p) (xs := LI ns) (fun i σ H' => H' = H ∧ ∃ v, σ = [some (.ref p), v, none]) ⟨rfl, none, rfl⟩ (fun i σ H' _ q => by rw [q.1]; exact hs) ?_ ?_⟩
    · rintro i x σ H' hx ⟨rfl, v, rfl⟩
      obtain ⟨n, hn, rfl⟩ := LI_get hx
      have hm' := hb n (List.mem_of_getElem? hn)
      exact ⟨_, rfl, n, .int 1, rfl, .inr ⟨1, rfl, hm'.1⟩, rfl, _, rfl⟩
    · rintro σ H' ⟨rfl, v, rfl⟩
      refine ⟨_, rfl, p, rfl, ⟨_, hs⟩, for_tup (K := K) (a := p) (xs := LI ns) (fun i σ H1 => H1 = H' ∧ ∃ v, σ = [some (.ref p), v, some (.int (lcmL (ns.take i)))]) ⟨rfl, v, rfl⟩ (fun i σ H1 _ q => by rw [q.1]; exact hs) ?_ ?_⟩
      · rintro i x σ H1 hx ⟨rfl, v, rfl⟩
        obtain ⟨n, hn, rfl⟩ := LI_get hx
        have hm' := hb n (List.mem_of_getElem? hn)
        have hi : i < ns.length := (List.getElem?_eq_some_iff.mp hn).1
        have gpos : 0 < Int.gcd (lcmL (ns.take i)) n := Int.gcd_pos_of_ne_zero_right _ (by omega)
        have gle : (Int.gcd (lcmL (ns.take i)) n : Int) ≤ n := Int.gcd_le_right _ (by omega)
        refine ⟨_, rfl, _, rfl, _, _, rfl, rfl, .inr ⟨by omega, by omega⟩, _, rfl, _, rfl, _, _, rfl, _, _, rfl, rfl, ⟨by omega, by omega⟩, ?_⟩
        refine ⟨rfl, some (.int n), ?_⟩
        have e : ns.take (i + 1) = ns.take i ++ [n] := by
          rw [List.take_succ, hn]
          rfl
        rw [e]
        unfold lcmL
        rw [List.foldl_append]
        rfl
      · rintro σ H1 ⟨rfl, v, rfl⟩
        refine ⟨_, rfl, ?_⟩
        have e : ns.take (LI ns).length = ns := by rw [List.length_map, List.take_length]
        rw [e]
        exact k
theorem c_joint_multiple : CalD P w K mg base 4 "joint_multiple" (sp_joint_multiple K) [] := by
  have c_common_multiple := c_common_multiple (P := P) (w := w) (base := base) T
  obtain ⟨f, fd, F, hm⟩ := T.d_joint_multiple
  refine CalD.of F hm (F.binds (ps := ["periods"]) fun _ _ _ _ _ _ us hl => match us, hl with | [_], _ => rfl) (F.ok sc_joint_multiple (fun vs H Q E h => ?_) (fun cdv A outer s H vs Q E hr h => ?_))
  · obtain ⟨a, ns, e, _⟩ := h
    rw [e]
    rfl
  · obtain ⟨a, ns, rfl, hs, hl, hb, hle, k⟩ := h
    obtain ⟨mc, u, rd, cv⟩ := T.rdM
    refine ⟨_, (pss_cons (ps_set (i := 1) sc_joint_multiple.nd rfl (Or.inl rfl) (pe_r c_common_multiple hr (by decide) rfl (pv 0)))
      (pss_cons (ps_if (pt_cmpR op_gt (pv 1) (pe_cval (pe_glob (v := .ref cM) rfl T.m_Move rfl)) (nomark _)) (pss_one ps_never) pss_nil)
      (pss_one (ps_ret (pv 1))))), ?_⟩
    refine ⟨_, rfl, a, _, rfl, .inr hs, ns, rfl, hl, hb, fun H' s1 => ?_⟩
    refine ⟨_, rfl, _, mc, _, u, rfl, rd, cv, _, _, rfl, rfl, _, rfl, ?_⟩
    rw [decide_eq_false (show ¬ 2520 < lcmL ns by omega)]
    refine iteF ?_
    exact ⟨_, rfl, k H' s1⟩
theorem c_moved : CalD P w K mg base 1 "moved" (sp_moved K) [] := by
  obtain ⟨f, fd, F, hm⟩ := T.d_moved
  refine CalD.of F hm (F.binds (ps := ["offsets", "place"]) fun _ _ _ _ _ _ us hl => match us, hl with | [_, _], _ => rfl) (F.ok sc_moved (fun vs H Q E h => ?_) (fun cdv A outer s H vs Q E hr h => ?_))
  · obtain ⟨a, ts, x, e, _⟩ := h
    rw [e]
    rfl
  · obtain ⟨a, ts, x, rfl, hs, h0, hl, k⟩ := h
    have hpos : (0 : Int) < ((LI ts).length : Int) := by rw [List.length_map]; omega
    have e0 : ((LI ts).length : Int) = (ts.length : Int) := by rw [List.length_map]
    have m0 : 0 ≤ x % (ts.length : Int) := Int.emod_nonneg _ (by omega)
    have m1 : x % (ts.length : Int) < ts.length := Int.emod_lt_of_pos _ (by omega)
    have hi : (x % (ts.length : Int)).toNat < ts.length := by omega
    refine ⟨_, (pss_one (ps_ret (pe_op op_add (pv 1) (pe_ix ix_list (pv 0) (pe_op op_mod (pv 1) (pe_callB call_len (by rfl) T.g_len (by decide +kernel) (pa_cons (pv 0) pa_nil))) (fun _ _ => rfl))))), ?_⟩
    refine ⟨_, rfl, _, rfl, _, rfl, _, rfl, _, (LI ts).length, rfl, .inl ⟨_, hs, rfl⟩, _, _, rfl, rfl, hpos, a, LI ts, _, .int (ts.getD (x % (ts.length : Int)).toNat 0), rfl, rfl, hs, ?_, _, _, rfl, rfl, k⟩
    have e1 : x % ((LI ts).length : Int) = (((x % (ts.length : Int)).toNat : Nat) : Int) := by rw [e0]; omega
    rw [e1]
    refine atI_LI ?_
    rw [List.getD_eq_getElem?_getD, List.getElem?_eq_getElem hi]
    rfl
end
end My

end
section
set_option linter.all false
set_option maxRecDepth 100000
set_option maxHeartbeats 1000000
namespace My
open PySem PySem.Spec PyProof.Rows L2 StX ClX
def resT (us : List Int) (k : Nat) : Int := ((k : Int) + us.getD k 0) % (us.length : Int)
/-- a table of a plan -/
structure Valid (us : List Int) : Prop where
  pos : 0 < us.length
  le : us.length ≤ 2520
  inj : ∀ i j, i < us.length → j < us.length → resT us i = resT us j → i = j
theorem getD_at {us : List Int} {i : Nat} {n : Int} (h : us[i]? = some n) : us.getD i 0 = n := by
  rw [List.getD_eq_getElem?_getD, h]
  rfl
theorem valV_of_none {κ : Type} [DecidableEq κ] {kvs : List (κ × V)} {k : κ} (h : ∀ p ∈ kvs, p.1 ≠ k) : valV kvs k = none := by
  unfold valV
  rw [List.find?_eq_none.mpr fun p hp => by simpa using h p hp]
  rfl
def kvsT (us : List Int) (i : Nat) : List (Key × V) := (List.range i).map fun k => (Sum.inl (resT us k), V.int (k : Nat))
theorem kvsT_succ (us : List Int) (i : Nat) : kvsT us (i + 1) = kvsT us i ++ [(Sum.inl (resT us i), V.int (i : Nat))] := by
  unfold kvsT
  rw [List.range_succ, List.map_append]
  rfl
theorem kvsT_none {us : List Int} (hv : Valid us) {i : Nat} (hi : i < us.length) : valV (kvsT us i) (Sum.inl (resT us i)) = none := by
  refine valV_of_none fun p hp e => ?_
  obtain ⟨k, hk, rfl⟩ := List.mem_map.mp hp
  have hk' := List.mem_range.mp hk
  have := hv.inj k i (by omega) hi (Sum.inl.inj e)
  omega
def sp_checked_table : Sp := fun vs H Q _ => ∃ (a : Addr) (us : List Int), vs = [.ref a, .int 1] ∧ H a = some (.lst (LI us)) ∧ Valid us ∧ ∀ p H', H p = none → Same H H' → H' p = some (.lst (LI us)) → Q (.ref p) H'
section
variable {P : Program} {w : World} {K : PySem.W.Frag} {mg : Str → Option Value} {base : Heap} {cM cP cS : Addr} (T : Txt K mg cM cP cS)
include T
theorem c_checked_table : CalD P w K mg base 2 "checked_table" sp_checked_table [] := by
  have c_is_integer := c_is_integer (P := P) (w := w) (base := base) T
  obtain ⟨f, fd, F, hm⟩ := T.d_checked_table
  refine CalD.of F hm (F.binds (ps := ["offsets", "sign"]) fun _ _ _ _ _ _ us hl => match us, hl with | [_, _], _ => rfl) (F.ok sc_checked_table (fun vs H Q E h => ?_) (fun cdv A outer s H vs Q E hr h => ?_))
  · obtain ⟨a, us, e, _⟩ := h
    rw [e]
    rfl
  · obtain ⟨a, us, rfl, ha, hv, k⟩ := h
    have hu := hu_of hr
    obtain ⟨mc, u, rd, cv⟩ := T.rdM
    have hlen : (LI us).length = us.length := List.length_map ..
    have h0 := hv.pos
    have hle := hv.le
    refine ⟨_, (pss_cons (ps_if (PW.pt (pw_or (pt_not (pt_val (pe_callB call_isiT (by rfl) T.g_isinstance (by decide +kernel) (pa_cons (pv 0) (pa_cons (pe_tup (pa_cons (pe_bltn (v := .ty "list") (by rfl) T.g_list (by decide +kernel) rfl) (pa_cons (pe_bltn (v := .ty "tuple") (by rfl) T.g_tuple (by decide +kernel) rfl) pa_nil))) pa_nil))))) (pw_or1 (pt_cmpR op_eq (pe_callB call_len (by rfl) T.g_len (by decide +kernel) (pa_cons (pv 0) pa_nil)) pe_int (nomark _))))) (pss_one ps_never) pss_nil)
      (pss_cons (ps_set (i := 2) sc_checked_table.nd rfl (Or.inl rfl) (pe_callB call_len (by rfl) T.g_len (by decide +kernel) (pa_cons (pv 0) pa_nil)))
      (pss_cons (ps_if (pt_cmpR op_gt (pv 2) (pe_cval (pe_glob (v := .ref cM) rfl T.m_Move rfl)) (nomark _)) (pss_one ps_never) pss_nil)
      (pss_cons (ps_for PassesOwn.never rfl (pi_enum (by rfl) T.g_enumerate (pa_cons (pv 0) pa_nil)) (pg_tup (by rfl) (pgs_cons (pg_name (i := 3) sc_checked_table.nd rfl (Or.inl rfl)) (pgs_cons (pg_name (i := 4) sc_checked_table.nd rfl (Or.inl rfl)) pgs_nil))) (pss_one (ps_if (pt_not (pt_val (pe_d c_is_integer hr (by decide) rfl (pa_cons (pv 4) pa_nil)))) (pss_one ps_never) pss_nil)))
      (pss_cons (ps_set (i := 5) sc_checked_table.nd rfl (Or.inl rfl) pe_dnewK)
      (pss_cons (ps_for PassesOwn.never rfl (pi_enum (by rfl) T.g_enumerate (pa_cons (pv 0) pa_nil)) (pg_tup (by rfl) (pgs_cons (pg_name (i := 3) sc_checked_table.nd rfl (Or.inl rfl)) (pgs_cons (pg_name (i := 4) sc_checked_table.nd rfl (Or.inl rfl)) pgs_nil))) (pss_cons (ps_set (i := 6) sc_checked_table.nd rfl (Or.inl rfl) (pe_op op_mod (pe_op op_add (pe_op op_mul (pv 1) (pv 3)) (pv 4)) (pv 2)))
      (pss_cons (ps_if (pt_cmp (pc_din hu (pv 6) (pv 5))) (pss_one ps_never) pss_nil)
      (pss_one (ps_dput hu (pv 5) (pv 6) (pv 3) rfl)))))
      (pss_one (ps_ret (pe_callTy call_list_of (by rfl) T.g_list (by decide +kernel) (pa_cons (pv 0) pa_nil)))))))))), ?_⟩
    refine ⟨_, rfl, by decide, fun tp htp => newk htp fun H1 s1 e1 => ?_⟩
    refine ⟨_, tp, _, .type "list", [.type "list", .type "tuple"], true, rfl, e1, .cons (.ty _) (.cons (.ty _) .nil), .base (.lst (s1 _ _ ha)), kitAny_cons (kit_ty (b := "list") (r := true) (by decide +kernel)) (fun h => Bool.noConfusion h) (fun _ => rfl), true, rfl, ?_⟩
    refine iteF ?_
    refine ⟨_, rfl, _, (LI us).length, rfl, .inl ⟨_, sq_at (s1 _ _ ha), rfl⟩, rfl, _, rfl, ?_⟩
    rw [hlen, decide_eq_false (show ¬ (V.int (us.length : Int) = V.int 0) from fun e => by injection e with e; omega)]
    refine iteF ?_
    refine ⟨_, rfl, _, (LI us).length, rfl, .inl ⟨_, sq_at (s1 _ _ ha), rfl⟩, ?_⟩
    refine ⟨_, rfl, _, mc, _, u, rfl, rd, cv, _, _, rfl, rfl, _, rfl, ?_⟩
    rw [hlen, decide_eq_false (show ¬ ((2520 : Int) < (us.length : Int)) by omega)]
    refine iteF ?_
    refine ⟨_, rfl, a, LI us, rfl, sq_at (s1 _ _ ha), for_enum (K := K) (a := a) (xs := LI us) (fun i σ H' => Same H H' ∧ ∃ v3 v4, σ = [some (.ref a), some (.int 1), some (.int (us.length : Int)), v3, v4, none, none]) ⟨s1, none, none, rfl⟩ (fun i σ H' _ q => sq_at (q.1 _ _ ha)) ?_ ?_⟩
    · rintro i x σ H' tt H'' hx ⟨sm, v3, v4, rfl⟩ hT sm' eT
      obtain ⟨n, hn, rfl⟩ := LI_get hx
      refine ⟨tt, _, rfl, st_at eT, rfl, _, _, rfl, _, _, rfl, rfl, ?_⟩
      refine ⟨_, rfl, n, rfl, _, rfl, ?_⟩
      refine iteF ?_
      exact ⟨sm.trans sm', _, _, rfl⟩
    · rintro σ H' ⟨sm, v3, v4, rfl⟩
      intro d hd
      refine newk hd fun H2 s2 e2 => ?_
      have hd0 : H d = none := sm.free hd
      have sm2 := sm.trans s2
      refine ⟨_, rfl, a, LI us, rfl, sq_at (sm2 _ _ ha), for_enum (K := K) (a := a) (xs := LI us) (fun i σ H' => Same H H' ∧ H' d = some (.dK (kvsT us i)) ∧ ∃ v3 v4 v6, σ = [some (.ref a), some (.int 1), some (.int (us.length : Int)), v3, v4, some (.ref d), v6]) ⟨sm2, e2, v3, v4, none, rfl⟩ (fun i σ H' _ q => sq_at (q.1 _ _ ha)) ?_ ?_⟩
      · rintro i x σ H' tt H'' hx ⟨sm, hdk, v3, v4, v6, rfl⟩ hT sm' eT
        obtain ⟨n, hn, rfl⟩ := LI_get hx
        have hi : i < us.length := (List.getElem?_eq_some_iff.mp hn).1
        have hdk' := sm' _ _ hdk
        refine ⟨tt, _, rfl, st_at eT, rfl, _, _, rfl, _, _, rfl, rfl, ?_⟩
        refine ⟨_, rfl, _, rfl, _, _, rfl, rfl, .inl ⟨by decide, by decide⟩, _, rfl, _, _, rfl, rfl, _, rfl, _, _, rfl, rfl, (by omega), ?_⟩
        have er : (1 * ((i : Nat) : Int) + n) % (us.length : Int) = resT us i := by
          unfold resT
          rw [getD_at hn, Int.one_mul]
        show gName 6 (V.int ((1 * (i : Int) + n) % (us.length : Int))) _ _ _
        rw [er]
        refine ⟨_, rfl, _, rfl, d, _, rfl, DGet.k (k := Sum.inl (resT us i)) hdk', _, rfl, ?_⟩
        rw [kvsT_none hv hi]
        refine iteF ?_
        have hks : (kvsT us i).length = i := by
          unfold kvsT
          rw [List.length_map, List.length_range]
        refine ⟨_, rfl, _, rfl, _, rfl, d, _, rfl, DPut.k (k := Sum.inl (resT us i)) hdk' (small_lt (by omega)), ?_⟩
        rw [putK_new _ (kvsT_none hv hi), ← kvsT_succ]
        exact ⟨Same.mut (sm.trans sm') hd0, upd_same, _, _, _, rfl⟩
      · rintro σ H' ⟨sm, hdk, v3, v4, v6, rfl⟩
        refine ⟨_, rfl, a, LI us, rfl, .inl (sq_at (sm _ _ ha)), fun l hl => ?_⟩
        exact k l _ (sm.free hl) (sm.trans (Same.new hl)) upd_same
end
end My

end
section
set_option linter.all false
set_option maxRecDepth 100000
set_option maxHeartbeats 1000000
/-! plain laws of tables -/
namespace My
theorem flat_get (ts : List Int) : ∀ (k i : Nat), i < k * ts.length → (List.replicate k ts).flatten.getD i 0 = ts.getD (i % ts.length) 0
  | 0, i, h => by omega
  | k + 1, i, h => by
    rw [List.replicate_succ, List.flatten_cons]
    by_cases hi : i < ts.length
    · rw [List.getD_eq_getElem?_getD, List.getD_eq_getElem?_getD, List.getElem?_append_left hi, Nat.mod_eq_of_lt hi]
    · have h2 : i - ts.length < k * ts.length := by
        rw [Nat.succ_mul] at h
        omega
      rw [List.getD_eq_getElem?_getD, List.getElem?_append_right (by omega), ← List.getD_eq_getElem?_getD, flat_get ts k _ h2]
      congr 1
      exact (Nat.mod_eq_sub_mod (by omega)).symm
theorem Rep.len {ts us : List Int} (h : Rep ts us) : ∃ k, us.length = k * ts.length := by
  obtain ⟨k, rfl⟩ := h
  exact ⟨k, flat_len k ts⟩
theorem Rep.pos {ts us : List Int} (h : Rep ts us) (h0 : 0 < us.length) : 0 < ts.length := by
  obtain ⟨k, e⟩ := h.len
  rw [e] at h0
  exact Nat.pos_of_mul_pos_left h0
theorem Rep.le {ts us : List Int} (h : Rep ts us) (h0 : 0 < us.length) : ts.length ≤ us.length := by
  obtain ⟨k, e⟩ := h.len
  rw [e] at h0 ⊢
  exact Nat.le_mul_of_pos_left _ (Nat.pos_of_mul_pos_right h0)
theorem Rep.at {ts us : List Int} (h : Rep ts us) (h0 : 0 < us.length) (x : Int) : atT ts x = atT us x := by
  have hp := h.pos h0
  obtain ⟨k, rfl⟩ := h
  unfold atT
  have e := flat_len k ts
  rw [e] at h0 ⊢
  have m0 : 0 ≤ x % ((k * ts.length : Nat) : Int) := Int.emod_nonneg _ (by omega)
  have m1 : x % ((k * ts.length : Nat) : Int) < ((k * ts.length : Nat) : Int) := Int.emod_lt_of_pos _ (by omega)
  rw [flat_get ts k _ (by omega)]
  congr 2
  have : ((x % ((k * ts.length : Nat) : Int)).toNat % ts.length : Nat) = (((x % ((k * ts.length : Nat) : Int)) % (ts.length : Int))).toNat := by
    rw [Int.toNat_emod m0 (by omega), Int.toNat_natCast]
  rw [this, Int.emod_emod_of_dvd _ (by
    rw [Int.natCast_mul]
    exact Int.dvd_mul_left ..)]
theorem Rep.mem {ts us : List Int} (h : Rep ts us) (h0 : 0 < us.length) (o : Int) : o ∈ ts ↔ o ∈ us := by
  obtain ⟨k, rfl⟩ := h
  rw [flat_len] at h0
  have : k ≠ 0 := by
    intro e
    rw [e] at h0
    omega
  rw [List.mem_flatten]
  constructor
  · intro ho
    exact ⟨ts, List.mem_replicate.mpr ⟨this, rfl⟩, ho⟩
  · rintro ⟨l, hl, ho⟩
    rw [(List.mem_replicate.mp hl).2] at ho
    exact ho
theorem Rep.trans {ts us vs : List Int} (h : Rep ts us) (g : Rep us vs) : Rep ts vs := by
  obtain ⟨k, rfl⟩ := h
  obtain ⟨j, rfl⟩ := g
  refine ⟨j * k, ?_⟩
  induction j with
  | zero => simp
  | succ j ih => rw [List.replicate_succ, List.flatten_cons, ih, ← List.flatten_append, List.replicate_append_replicate, Nat.succ_mul, Nat.add_comm k]
theorem Rep.map {ts us : List Int} (h : Rep ts us) (f : Int → Int) : Rep (ts.map f) (us.map f) := by
  obtain ⟨k, rfl⟩ := h
  exact ⟨k, by rw [List.map_flatten, List.map_replicate]⟩
theorem flat_sum (ts : List Int) : ∀ k : Nat, (List.replicate k ts).flatten.sum = k * ts.sum
  | 0 => by simp
  | k + 1 => by
    rw [List.replicate_succ, List.flatten_cons, List.sum_append, flat_sum ts k]
    have : ((k + 1 : Nat) : Int) = (k : Int) + 1 := by omega
    rw [this, Int.add_mul]
    omega
theorem Rep.flow {ts us : List Int} (h : Rep ts us) (h0 : 0 < us.length) : ts.sum / (ts.length : Int) = us.sum / (us.length : Int) := by
  obtain ⟨k, rfl⟩ := h
  rw [flat_len] at h0
  have hk : 0 < k := Nat.pos_of_mul_pos_right h0
  rw [flat_sum, flat_len, Int.natCast_mul]
  exact (Int.mul_ediv_mul_of_pos _ _ (by omega)).symm
/-- a table of a plan, by its places -/
structure VT (us : List Int) : Prop where
  pos : 0 < us.length
  le : us.length ≤ 2520
  inj : ∀ x y, atT us x = atT us y → x = y
theorem VT.rep {ts us : List Int} (h : Rep ts us) (v : VT us) : VT ts :=
  ⟨h.pos v.pos, Nat.le_trans (h.le v.pos) v.le, fun x y e => v.inj x y (by rw [← h.at v.pos, ← h.at v.pos]; exact e)⟩
theorem atT_map (us : List Int) (d : Int) (h0 : 0 < us.length) (x : Int) : atT (us.map (· + d)) x = atT us x + d := by
  unfold atT
  rw [List.length_map]
  have m0 : 0 ≤ x % (us.length : Int) := Int.emod_nonneg _ (by omega)
  have m1 : x % (us.length : Int) < us.length := Int.emod_lt_of_pos _ (by omega)
  have hi : (x % (us.length : Int)).toNat < us.length := by omega
  rw [List.getD_eq_getElem?_getD, List.getD_eq_getElem?_getD, List.getElem?_map, List.getElem?_eq_getElem hi]
  show x + (us[(x % (us.length : Int)).toNat] + d) = x + us[(x % (us.length : Int)).toNat] + d
  omega
theorem VT.map {us : List Int} (v : VT us) (d : Int) : VT (us.map (· + d)) :=
  ⟨by rw [List.length_map]; exact v.pos, by rw [List.length_map]; exact v.le, fun x y e => v.inj x y (by rw [atT_map _ _ v.pos, atT_map _ _ v.pos] at e; omega)⟩
theorem VT.one (d : Int) : VT [d] := ⟨Nat.one_pos, by show 1 ≤ 2520; omega, fun x y e => by
  unfold atT at e
  have h : ∀ z : Int, (z % (([d] : List Int).length : Int)).toNat = 0 := fun z => by
    show (z % 1).toNat = 0
    rw [Int.emod_one]
    rfl
  rw [h, h] at e
  omega⟩
theorem atT_nat (us : List Int) {i : Nat} (hi : i < us.length) : atT us (i : Int) = (i : Int) + us.getD i 0 := by
  unfold atT
  rw [Int.emod_eq_of_lt (by omega) (by omega), Int.toNat_natCast]
theorem atT_shift (us : List Int) (x c : Int) : atT us (x + us.length * c) = atT us x + us.length * c := by
  unfold atT
  rw [Int.add_mul_emod_self_left]
  omega
theorem VT.valid {us : List Int} (v : VT us) : Valid us := by
  refine ⟨v.pos, v.le, fun i j hi hj e => ?_⟩
  unfold resT at e
  have e2 := Int.emod_emod_of_dvd
  obtain ⟨c, hc⟩ : (us.length : Int) ∣ ((i : Int) + us.getD i 0) - ((j : Int) + us.getD j 0) := Int.dvd_of_emod_eq_zero (by
    rw [Int.sub_emod, e, Int.sub_self]
    exact Int.zero_emod _)
  have h1 := atT_shift us (j : Int) c
  rw [atT_nat us hj] at h1
  have h2 := v.inj (i : Int) ((j : Int) + us.length * c) (by rw [atT_nat us hi, h1]; omega)
  have hc0 : c = 0 := by
    have l : (0 : Int) < us.length := by omega
    rcases Int.lt_trichotomy c 0 with h | h | h
    · have : (us.length : Int) * c ≤ us.length * (-1) := Int.mul_le_mul_of_nonneg_left (by omega) (by omega)
      omega
    · exact h
    · have : (us.length : Int) * 1 ≤ us.length * c := Int.mul_le_mul_of_nonneg_left (by omega) (by omega)
      omega
  rw [hc0, Int.mul_zero, Int.add_zero] at h2
  omega
/-! ### the delay -/
def lateT (us : List Int) : Int := us.foldl (fun m o => max m (-o)) 0
theorem late_fold : ∀ (us : List Int) (a : Int), a ≤ us.foldl (fun m o => max m (-o)) a ∧ (∀ o ∈ us, -o ≤ us.foldl (fun m o => max m (-o)) a) ∧ (us.foldl (fun m o => max m (-o)) a = a ∨ ∃ o ∈ us, us.foldl (fun m o => max m (-o)) a = -o)
  | [], a => ⟨Int.le_refl _, fun o h => (List.not_mem_nil h).elim, .inl rfl⟩
  | o :: us, a => by
    obtain ⟨h1, h2, h3⟩ := late_fold us (max a (-o))
    rw [List.foldl_cons]
    refine ⟨by omega, fun x hx => ?_, ?_⟩
    · rcases List.mem_cons.mp hx with rfl | hx
      · omega
      · exact h2 x hx
    · rcases h3 with h3 | ⟨x, hx, h3⟩
      · rw [h3]
        by_cases h : a ≤ -o
        · exact .inr ⟨o, List.mem_cons_self, by omega⟩
        · exact .inl (by omega)
      · exact .inr ⟨x, List.mem_cons_of_mem _ hx, h3⟩
theorem late_pos (us : List Int) : 0 ≤ lateT us := (late_fold us 0).1
theorem late_ge {us : List Int} {o : Int} (h : o ∈ us) : -o ≤ lateT us := (late_fold us 0).2.1 o h
theorem late_is {us : List Int} {m : Int} (h1 : m = 0 ∨ ∃ o ∈ us, m = -o) (h2 : 0 ≤ m) (h3 : ∀ o ∈ us, -o ≤ m) : m = lateT us := by
  have a1 : m ≤ lateT us := by
    rcases h1 with rfl | ⟨o, ho, rfl⟩
    · exact late_pos us
    · exact late_ge ho
  have a2 : lateT us ≤ m := by
    rcases (late_fold us 0).2.2 with h | ⟨o, ho, h⟩
    · unfold lateT
      omega
    · have := h3 o ho
      unfold lateT
      omega
  omega
end My

end
section
set_option linter.all false
set_option maxRecDepth 100000
set_option maxHeartbeats 1000000
namespace My
open PySem PySem.Spec PyProof.Rows L2 StX ClX
def sp_least_table : Sp := fun vs H Q _ => ∃ (a : Addr) (us : List Int), vs = [.ref a] ∧ H a = some (.lst (LI us)) ∧ 0 < us.length ∧ us.length ≤ 2520 ∧ ∀ p ts H', (p = a ∨ H p = none) → Same H H' → H' p = some (.lst (LI ts)) → Rep ts us → Q (.ref p) H'
def sp_sources_of : Sp := fun vs H Q _ => ∃ (a : Addr) (us : List Int), vs = [.ref a] ∧ H a = some (.lst (LI us)) ∧ 0 < us.length ∧ us.length ≤ 2520 ∧ ∀ p H', Same H H' → Q (.ref p) H'
section
variable {P : Program} {w : World} {K : PySem.W.Frag} {mg : Str → Option Value} {base : Heap} {cM cP cS : Addr} (T : Txt K mg cM cP cS)
include T
theorem c_least_table : CalD P w K mg base 1 "least_table" sp_least_table [] := by
  obtain ⟨f, fd, F, hm⟩ := T.d_least_table
  refine CalD.of F hm (F.binds (ps := ["offsets"]) fun _ _ _ _ _ _ us hl => match us, hl with | [_], _ => rfl) (F.ok sc_least_table (fun vs H Q E h => ?_) (fun cdv A outer s H vs Q E hr h => ?_))
  · obtain ⟨a, us, e, _⟩ := h
    rw [e]
    rfl
  · obtain ⟨a, us, rfl, ha, h0, hle, k⟩ := h
    have hlen : (LI us).length = us.length := List.length_map ..
    refine ⟨_, (pss_cons (ps_set (i := 1) sc_least_table.nd rfl (Or.inl rfl) (pe_callB call_len (by rfl) T.g_len (by decide +kernel) (pa_cons (pv 0) pa_nil)))
      (pss_cons (ps_for PassesOwn.never rfl (pi_range2 (by rfl) T.g_range (pa_cons pe_int (pa_cons (pv 1) pa_nil))) (pg_name (i := 2) sc_least_table.nd rfl (Or.inl rfl)) (pss_one (ps_if (PW.pt (pw_and (pt_cmpR op_eq (pe_op op_mod (pv 1) (pv 2)) pe_int (nomark _)) (pw_and1 (pt_cmpR (op_eqD hr.units) (pe_op op_rep (pe_slice sl_list (pv 0) po_none (po_some (pv 2))) (pe_op op_fdiv (pv 1) (pv 2))) (pv 0) (nomark _))))) (pss_one (ps_ret (pe_slice sl_list (pv 0) po_none (po_some (pv 2))))) pss_nil)))
      (pss_one (ps_ret (pv 0))))), ?_⟩
    refine ⟨_, rfl, _, us.length, rfl, .inl ⟨_, sq_at ha, hlen.symm⟩, ?_⟩
    refine ⟨_, rfl, 1, us.length, rfl, ⟨by decide, by decide, by omega, by omega⟩, ?_⟩
    refine for_range (fun i σ H' => Same H H' ∧ ∃ v, σ = [some (.ref a), some (.int (us.length : Int)), v]) ⟨Same.refl H, none, rfl⟩ ?_ ?_
    · rintro i σ H' hi ⟨sm, v, rfl⟩
      refine ⟨_, rfl, _, rfl, _, _, rfl, rfl, (by omega), rfl, _, rfl, ?_⟩
      by_cases hm0 : V.int ((us.length : Int) % (1 + (i : Int))) = V.int 0
      · rw [decide_eq_true hm0]
        refine iteT ?_
        refine ⟨_, rfl, _, rfl, _, rfl, a, LI us, rfl, sq_at (sm _ _ ha), fun p hp => ?_⟩
        generalize hg : upd _ _ _ = H1
        have s1 := newS hg hp
        have e1 := newE hg
        clear hg
        have ec : cutV (LI us) none (some (1 + (i : Int))) = LI (us.take (1 + i)) := by
          rw [show (1 + (i : Int)) = ((1 + i : Nat) : Int) by omega]
          unfold cutV
          rw [HT.sIx_none, HT.sIx_nat, List.drop_zero]
          show _ = List.map V.int (us.take (1 + i))
          rw [List.map_take]
          congr 1
          omega
        rw [ec] at e1
        have hd : 0 < us.length / (1 + i) := Nat.div_pos (by omega) (by omega)
        have hq : (us.length : Int) / (1 + (i : Int)) = ((us.length / (1 + i) : Nat) : Int) := by
          rw [show (1 + (i : Int)) = ((1 + i : Nat) : Int) by omega]
          exact (Int.natCast_ediv ..).symm
        have hlt : (us.take (1 + i)).length = 1 + i := by rw [List.length_take]; omega
        have hml : us.length / (1 + i) * (1 + i) ≤ us.length := Nat.div_mul_le_self ..
        have hml2 : us.length / (1 + i) ≤ us.length := Nat.div_le_self ..
        refine ⟨_, rfl, _, rfl, _, _, rfl, rfl, ⟨by omega, by omega⟩, ?_⟩
        refine ⟨p, ((us.length / (1 + i) : Nat) : Int), _, rfl, congrArg V.int hq, e1, by omega, by omega, small_len ?_, fun p2 hp2 => ?_⟩
        · rw [List.length_map, hlt, Int.toNat_natCast, Nat.mul_comm]
          omega
        generalize hg : upd _ _ _ = H2
        have s2 := newS hg hp2
        have e2 := newE hg
        clear hg
        rw [Int.toNat_natCast, LI_flat] at e2
        refine ⟨_, rfl, _, _, dp_ints (sq_at e2), dp_ints (sq_at ((sm.trans (s1.trans s2)) _ _ ha)), shaped_ints _, shaped_ints _, ?_⟩
        rw [eqv_ints]
        refine ⟨_, rfl, ?_⟩
        by_cases he : (List.replicate (us.length / (1 + i)) (us.take (1 + i))).flatten = us
        · rw [decide_eq_true he]
          refine iteT ?_
          refine ⟨_, rfl, _, rfl, _, rfl, a, LI us, rfl, sq_at ((sm.trans (s1.trans s2)) _ _ ha), fun p3 hp3 => ?_⟩
          generalize hg : upd _ _ _ = H3
          have s3 := newS hg hp3
          have e3 := newE hg
          clear hg
          rw [ec] at e3
          exact k p3 _ H3 (.inr ((sm.trans (s1.trans s2)).free hp3)) (sm.trans (s1.trans (s2.trans s3))) e3 ⟨_, he.symm⟩
        · rw [decide_eq_false he]
          refine iteF ?_
          exact ⟨sm.trans (s1.trans s2), _, rfl⟩
      · rw [decide_eq_false hm0]
        refine iteF ?_
        refine iteF ?_
        exact ⟨sm, _, rfl⟩
    · rintro σ H' ⟨sm, v, rfl⟩
      exact ⟨_, rfl, k a us H' (.inl rfl) sm (sm _ _ ha) (Rep.self us)⟩
theorem c_sources_of : CalD P w K mg base 1 "sources_of" sp_sources_of [] := by
  obtain ⟨f, fd, F, hm⟩ := T.d_sources_of
  refine CalD.of F hm (F.binds (ps := ["offsets"]) fun _ _ _ _ _ _ us hl => match us, hl with | [_], _ => rfl) (F.ok sc_sources_of (fun vs H Q E h => ?_) (fun cdv A outer s H vs Q E hr h => ?_))
  · obtain ⟨a, us, e, _⟩ := h
    rw [e]
    rfl
  · obtain ⟨a, us, rfl, ha, h0, hle, k⟩ := h
    have hlen : (LI us).length = us.length := List.length_map ..
    refine ⟨_, (pss_cons (ps_setLc (i := 2) (own := [("offset", 1)]) (g := gName 1) (tt := tYes) (by rfl) sc_sources_of.nd rfl rfl (sw_true rfl rfl rfl (by decide +kernel)) (pi_list (pv 0)) (blkOk_by (own := [("offset", 1)]) (N := ["offsets", "offset", "found", "place"]) (sc := defScope s_sources_of) (by decide +kernel)) (fun _ _ _ _ _ => (pg_name (i := 1) sc_sources_of.nd rfl (Or.inl rfl))) (fun _ _ _ _ _ => pts_nil) (fun _ _ _ _ _ => pe_int))
      (pss_cons (ps_for PassesOwn.never rfl (pi_enum (by rfl) T.g_enumerate (pa_cons (pv 0) pa_nil)) (pg_tup (by rfl) (pgs_cons (pg_name (i := 3) sc_sources_of.nd rfl (Or.inl rfl)) (pgs_cons (pg_name (i := 1) sc_sources_of.nd rfl (Or.inl rfl)) pgs_nil))) (pss_one (ps_asg (pv 3) (pg_sub (pv 2) (pe_op op_mod (pe_op op_add (pv 3) (pv 1)) (pe_callB call_len (by rfl) T.g_len (by decide +kernel) (pa_cons (pv 0) pa_nil))) set_list))))
      (pss_one (ps_ret (pv 2))))), ?_⟩
    refine ⟨_, rfl, a, rfl, ⟨LI us, sq_at ha⟩, fun D hD => ?_⟩
    refine lc_list (K := K) (a := a) (xs := LI us) (fun i H' => LC H D (List.replicate us.length (V.int 0)) i H') (lc_start (Same.refl H) hD) (fun i H' _ q => sq_at (q.1 _ _ ha)) ?_ ?_
    · rintro i x H' hx q
      obtain ⟨n, hn, rfl⟩ := LI_get hx
      have hi : i < us.length := (List.getElem?_eq_some_iff.mp hn).1
      refine ⟨rfl, lc_step hD q ?_ (by rw [List.length_replicate]; omega)⟩
      rw [List.getElem?_replicate, if_pos hi]
    · rintro H' q
      obtain ⟨sm, eD⟩ := q.done (by rw [hlen, List.length_replicate])
      refine ⟨_, rfl, a, LI us, rfl, sq_at (sm _ _ ha), for_enum (K := K) (a := a) (xs := LI us) (fun i σ H' => Same H H' ∧ ∃ zs v1 v2, H' D = some (.lst zs) ∧ zs.length = us.length ∧ σ = [some (.ref a), v2, some (.ref D), v1]) ⟨sm, _, none, none, eD, List.length_replicate, rfl⟩ (fun i σ H' _ q => sq_at (q.1 _ _ ha)) ?_ ?_⟩
      · rintro i x σ H' tt H'' hx ⟨sm, zs, v1, v2, eD, hz, rfl⟩ hT sm' eT
        obtain ⟨n, hn, rfl⟩ := LI_get hx
        have m0 : 0 ≤ ((i : Int) + n) % (us.length : Int) := Int.emod_nonneg _ (by omega)
        have m1 : ((i : Int) + n) % (us.length : Int) < us.length := Int.emod_lt_of_pos _ (by omega)
        refine ⟨tt, _, rfl, st_at eT, rfl, _, _, rfl, _, _, rfl, rfl, ?_⟩
        refine ⟨_, rfl, _, rfl, _, rfl, _, rfl, _, _, rfl, rfl, _, rfl, _, us.length, rfl, .inl ⟨_, sq_at ((sm.trans sm') _ _ ha), hlen.symm⟩, _, _, rfl, rfl, (by omega), D, zs, _, (((i : Int) + n) % (us.length : Int)).toNat, rfl, rfl, sm' _ _ eD, ?_, ?_⟩
        · unfold ixN
          rw [if_pos m0, if_pos (by omega)]
        · exact ⟨Same.mut (sm.trans sm') hD, _, _, _, upd_same, by rw [List.length_set]; exact hz, rfl⟩
      · rintro σ H' ⟨sm, zs, v1, v2, eD, hz, rfl⟩
        exact ⟨_, rfl, k D H' sm⟩
end
end My

end
section
set_option linter.all false
set_option maxRecDepth 100000
set_option maxHeartbeats 1000000
namespace My
open PySem PySem.Spec PyProof.Rows L2 StX ClX
/-- a plan of the table us -/
def PlanAt (cP : Addr) (H : Hp) (p : Addr) (us : List Int) : Prop := ∃ dx q r ts, H p = some (.ins cP dx [("own_offsets", .ref q), ("own_sources", .ref r)]) ∧ H q = some (.lst (LI ts)) ∧ Rep ts us ∧ VT us
theorem PlanAt.same {cP : Addr} {H H' : Hp} {p : Addr} {us : List Int} (h : PlanAt cP H p us) (e : Same H H') : PlanAt cP H' p us := by
  obtain ⟨dx, q, r, ts, h1, h2, h3⟩ := h
  exact ⟨dx, q, r, ts, e _ _ h1, e _ _ h2, h3⟩
/-- all but p stays -/
def KpP (p : Addr) (H H' : Hp) : Prop := ∀ a u, a ≠ p → H a = some u → H' a = some u
theorem KpP.refl (p : Addr) (H : Hp) : KpP p H H := fun _ _ _ e => e
theorem KpP.trans {p : Addr} {H H' H'' : Hp} (h : KpP p H H') (g : KpP p H' H'') : KpP p H H'' := fun a u n e => g a u n (h a u n e)
theorem KpP.same {p : Addr} {H H' H'' : Hp} (h : KpP p H H') (g : Same H' H'') : KpP p H H'' := fun a u n e => g a u (h a u n e)
theorem Same.kp {p : Addr} {H H' : Hp} (g : Same H H') : KpP p H H' := fun a u n e => g a u e
theorem KpP.set {p : Addr} {H : Hp} {o : HO} : KpP p H (upd H p o) := fun a u n e => (upd_ne n).trans e
def sp_Plan_init (cP : Addr) : Sp := fun vs H Q _ => ∃ (x a dx : Addr) (us : List Int) (H0 : Hp), vs = [.ref x, .ref a] ∧ Same H0 H ∧ H0 x = none ∧ H x = some (.ins cP dx []) ∧ H a = some (.lst (LI us)) ∧ VT us ∧ ∀ H', Same H0 H' → PlanAt cP H' x us → (∀ z H'', H0 z ≠ none → KpP z H' H'' → PlanAt cP H'' x us) → Q .non H'
def sp_Plan_shift (cP : Addr) : Sp := fun vs H Q _ => ∃ d : Int, vs = [.ref cP, .int d] ∧ ∀ p H', Same H H' → PlanAt cP H' p [d] → Q (.ref p) H'
def sp_Plan_flow (cP : Addr) : Sp := fun vs H Q _ => ∃ p us, vs = [.ref p] ∧ PlanAt cP H p us ∧ Q (.int (us.sum / (us.length : Int))) H
def sp_Plan_offsets (cP : Addr) : Sp := fun vs H Q _ => ∃ p us, vs = [.ref p] ∧ PlanAt cP H p us ∧ ∀ q ts H', H q = none → Same H H' → H' q = some (.lst (LI ts)) → Rep ts us → Q (.ref q) H'
def sp_Plan_at (cP : Addr) : Sp := fun vs H Q _ => ∃ p us x, vs = [.ref p, .int x] ∧ PlanAt cP H p us ∧ Q (.int (atT us x)) H
def sp_joined_table : Sp := fun vs H Q _ => ∃ (a b : Addr) (us : List Int) (d : Int), vs = [.ref a, .ref b] ∧ H a = some (.lst (LI us)) ∧ H b = some (.lst (LI [d])) ∧ VT us ∧ ∀ p H', H p = none → Same H H' → H' p = some (.lst (LI (us.map (· + d)))) → Q (.ref p) H'
def sp_Plan_then (cP : Addr) : Sp := fun vs H Q _ => ∃ p o us d, vs = [.ref p, .ref o] ∧ PlanAt cP H p us ∧ PlanAt cP H o [d] ∧ ∀ q H', Same H H' → H q = none → PlanAt cP H' q (us.map (· + d)) → Q (.ref q) H'
section
variable {P : Program} {w : World} {K : PySem.W.Frag} {mg : Str → Option Value} {base : Heap} {cM cP cS : Addr} (T : Txt K mg cM cP cS)
include T
theorem k_Plan : MakD P w K mg base 3 "Plan" cP (sp_Plan_init cP) [] := by
  have c_checked_table := c_checked_table (P := P) (w := w) (base := base) T
  have c_least_table := c_least_table (P := P) (w := w) (base := base) T
  have c_sources_of := c_sources_of (P := P) (w := w) (base := base) T
  obtain ⟨f, fd, M, F⟩ := T.i_Plan
  refine ⟨f, fd, ["self", "offsets"], [], M, F.ok sc_Plan_init (fun vs H Q E h => ?_) (fun cdv A outer s H vs Q E hr h => ?_), T.m_Plan, F.binds (ps := ["self", "offsets"]) fun _ _ _ _ _ _ us hl => match us, hl with | [_, _], _ => rfl, .nil⟩
  · obtain ⟨x, a, dx, us, H0, e, _⟩ := h
    rw [e]
    rfl
  · obtain ⟨x, a, dx, us, H0, rfl, s0, hx0, hx, ha, hv, k⟩ := h
    obtain ⟨mc, u, rd, cv⟩ := T.rdP
    refine ⟨_, (pss_cons (ps_fld (pv 0) (pe_d c_least_table hr (by decide) rfl (pa_cons (pe_d c_checked_table hr (by decide) rfl (pa_cons (pv 1) (pa_cons (pe_cval (pe_glob (v := .ref cP) rfl T.m_Plan rfl)) pa_nil))) pa_nil)) rfl)
      (pss_one (ps_fld (pv 0) (pe_d c_sources_of hr (by decide) rfl (pa_cons (pe_fld (pv 0) rfl) pa_nil)) rfl))), ?_⟩
    refine ⟨_, rfl, _, mc, _, u, rfl, rd, cv, a, us, rfl, ha, hv.valid, fun p H1 hp s1 e1 => ?_⟩
    refine ⟨p, us, rfl, e1, hv.pos, hv.le, fun q ts H2 fq s2 e2 hrep => ?_⟩
    have fq0 : H0 q = none := by
      rcases fq with rfl | fq
      · exact s0.free hp
      · exact s0.free (s1.free fq)
    have s02 : Same H H2 := s1.trans s2
    have hx2 := s02 _ _ hx
    refine ⟨_, rfl, x, cP, dx, [], rfl, hx2, T.clP, T.nP1, Nat.zero_lt_succ _, ?_⟩
    have hqx : x ≠ q := fun e => by
      subst e
      rw [hx2] at e2
      cases e2
    have s03 : Same H0 (upd H2 x (.ins cP dx [("own_offsets", .ref q)])) := Same.mut (s0.trans s02) hx0
    have e3 : (upd H2 x (.ins cP dx [("own_offsets", .ref q)])) q = some (.lst (LI ts)) := by
      rw [upd_ne (fun e => hqx e.symm)]
      exact e2
    refine ⟨_, rfl, x, cP, dx, _, _, rfl, upd_same, T.clP, T.nP1, rfl, q, ts, rfl, e3, hrep.pos hv.pos, Nat.le_trans (hrep.le hv.pos) hv.le, fun r H4 s4 => ?_⟩
    have hx4 := s4 _ _ upd_same
    refine ⟨_, rfl, x, cP, dx, _, rfl, hx4, T.clP, T.nP2, (show 1 < 1000 by omega), ?_⟩
    have eqf : (upd H4 x (.ins cP dx [("own_offsets", .ref q), ("own_sources", .ref r)])) q = some (.lst (LI ts)) := by
      rw [upd_ne (fun e => hqx e.symm)]
      exact s4 _ _ e3
    refine k _ (Same.mut (s03.trans s4) hx0) ⟨dx, q, r, ts, upd_same, eqf, hrep, hv⟩ fun z H'' hz kz => ?_
    exact ⟨dx, q, r, ts, kz _ _ (fun e => hz (e ▸ hx0)) upd_same, kz _ _ (fun e => hz (e ▸ fq0)) eqf, hrep, hv⟩
theorem mk_plan {H : Hp} {a : Addr} {us : List Int} {Q : VK} {E : XK} (ha : H a = some (.lst (LI us))) (hv : VT us) (k : ∀ p H', Same H H' → H p = none → PlanAt cP H' p us → (∀ z H'', H z ≠ none → KpP z H' H'' → PlanAt cP H'' p us) → Q (.ref p) H') :
    ∀ x dx, H x = none → H dx = none → dx ≠ x → sp_Plan_init cP (.ref x :: ([.ref a] ++ [])) (upd (upd H dx (.own x)) x (.ins cP dx [])) (fun v H2 => v = .non ∧ Q (.ref x) H2) E := by
  intro x dx hx hd hn
  have s1 : Same H (upd (upd H dx (.own x)) x (.ins cP dx [])) := Same.mut (Same.new hd) hx
  exact ⟨x, a, dx, us, H, rfl, s1, hx, upd_same, s1 _ _ ha, hv, fun H' s2 hp hf => ⟨rfl, k x H' s2 hx hp hf⟩⟩
theorem c_Plan_shift : ∃ mc p g, CRead K cP mc ∧ CMet K cP mc "shift" p g ∧ FnR P w K mg base CX0 5 g (sp_Plan_shift cP) := by
  have c_require_integer1 := c_require_integer1 (P := P) (w := w) (base := base) T
  have k_Plan := k_Plan (P := P) (w := w) (base := base) T
  obtain ⟨mc, p, f, fd, rd, cm, F⟩ := T.me_Plan_shift
  refine ⟨mc, p, f, rd, cm, ?_⟩
  have F' : FnOk P w K mg base CX0 5 f fd ["cls", "n"] (sp_Plan_shift cP) := by
    refine F.ok sc_Plan_shift (fun vs H Q E h => ?_) (fun cdv A outer s H vs Q E hr h => ?_)
    · obtain ⟨d, e, _⟩ := h
      rw [e]
      rfl
    · obtain ⟨d, rfl, k⟩ := h
      refine ⟨_, (pss_cons (ps_expr (pe_d c_require_integer1 hr (by decide) rfl (pa_cons (pv 1) pa_nil)))
      (pss_one (ps_ret (pe_mkL (i := 0) k_Plan hr (by decide) rfl (Or.inl rfl) (pa_cons (pe_lst (pa_cons (pv 1) pa_nil)) pa_nil))))), ?_⟩
      refine ⟨_, rfl, d, _, rfl, .inl rfl, ?_⟩
      refine ⟨rfl, _, rfl, small_len (show 1 ≤ 1000000 by omega), fun l hl => ?_⟩
      generalize hg : upd _ _ _ = H1
      have s1 := newS hg hl
      have e1 := newE hg
      clear hg
      exact mk_plan T (us := [d]) e1 (VT.one d) fun q H2 s2 _ hp _ => k q H2 (s1.trans s2) hp
  refine (F'.raw (F.binds (ps := ["cls", "n"]) fun _ _ _ _ _ _ us hl => match us, hl with | [_, _], _ => rfl) .nil).imp fun vs H Q E h => ?_
  rw [List.append_nil]
  exact h
theorem p_Plan_flow : PrpD P w K mg base 1 cP "flow" (sp_Plan_flow cP) := by
  obtain ⟨p, f, fd, F, pr⟩ := T.pr_Plan_flow
  refine ⟨p, f, fd, ["self"], T.clP, pr, F.ok sc_Plan_flow (fun vs H Q E h => ?_) (fun cdv A outer s H vs Q E hr h => ?_), F.binds (ps := ["self"]) fun _ _ _ _ _ _ us hl => match us, hl with | [_], _ => rfl⟩
  · obtain ⟨p, us, e, _⟩ := h
    rw [e]
    rfl
  · obtain ⟨p, us, rfl, hp, k⟩ := h
    obtain ⟨dx, q, r, ts, h1, h2, h3, hv⟩ := hp
    have hpos := h3.pos hv.pos
    have hle := h3.le hv.pos
    have hvl := hv.le
    have hlen : (LI ts).length = ts.length := List.length_map ..
    refine ⟨_, (pss_one (ps_ret (pe_op op_fdiv (pe_callB (cr_sum rfl) (by rfl) T.g_sum (by decide +kernel) (pa_cons (pe_fld (pv 0) rfl) pa_nil)) (pe_callB call_len (by rfl) T.g_len (by decide +kernel) (pa_cons (pe_fld (pv 0) rfl) pa_nil))))), ?_⟩
    refine ⟨_, rfl, p, cP, dx, _, _, rfl, h1, T.clP, T.nP1, rfl, q, ts, rfl, sq_at h2, ?_⟩
    refine ⟨_, rfl, p, cP, dx, _, _, rfl, h1, T.clP, T.nP1, rfl, _, ts.length, rfl, .inl ⟨_, sq_at h2, hlen.symm⟩, ?_⟩
    refine ⟨_, _, rfl, rfl, ⟨by omega, by omega⟩, ?_⟩
    rw [← h3.flow hv.pos] at k
    exact k
theorem m_Plan_offsets : MetD P w K mg base 1 cP "offsets" (sp_Plan_offsets cP) [] := by
  obtain ⟨f, fd, F, me⟩ := T.me_Plan_offsets
  refine ⟨f, fd, ["self"], [], T.clP, me, F.ok sc_Plan_offsets (fun vs H Q E h => ?_) (fun cdv A outer s H vs Q E hr h => ?_), F.binds (ps := ["self"]) fun _ _ _ _ _ _ us hl => match us, hl with | [_], _ => rfl, .nil⟩
  · obtain ⟨p, us, e, _⟩ := h
    rw [e]
    rfl
  · obtain ⟨p, us, rfl, hp, k⟩ := h
    obtain ⟨dx, q, r, ts, h1, h2, h3, hv⟩ := hp
    refine ⟨_, (pss_one (ps_ret (pe_callTy call_list_of (by rfl) T.g_list (by decide +kernel) (pa_cons (pe_fld (pv 0) rfl) pa_nil)))), ?_⟩
    refine ⟨_, rfl, p, cP, dx, _, _, rfl, h1, T.clP, T.nP1, rfl, q, LI ts, rfl, .inl (sq_at h2), fun l hl => ?_⟩
    exact k l ts _ hl (Same.new hl) upd_same h3
theorem m_Plan_at : MetD P w K mg base 3 cP "at" (sp_Plan_at cP) [] := by
  have c_require_integer1 := c_require_integer1 (P := P) (w := w) (base := base) T
  have c_moved := c_moved (P := P) (w := w) (base := base) T
  obtain ⟨f, fd, F, me⟩ := T.me_Plan_at
  refine ⟨f, fd, ["self", "x"], [], T.clP, me, F.ok sc_Plan_at (fun vs H Q E h => ?_) (fun cdv A outer s H vs Q E hr h => ?_), F.binds (ps := ["self", "x"]) fun _ _ _ _ _ _ us hl => match us, hl with | [_, _], _ => rfl, .nil⟩
  · obtain ⟨p, us, x, e, _⟩ := h
    rw [e]
    rfl
  · obtain ⟨p, us, x, rfl, hp, k⟩ := h
    obtain ⟨dx, q, r, ts, h1, h2, h3, hv⟩ := hp
    have hvl := hv.le
    have hle := h3.le hv.pos
    refine ⟨_, (pss_cons (ps_expr (pe_d c_require_integer1 hr (by decide) rfl (pa_cons (pv 1) pa_nil)))
      (pss_one (ps_ret (pe_d c_moved hr (by decide) rfl (pa_cons (pe_fld (pv 0) rfl) (pa_cons (pv 1) pa_nil)))))), ?_⟩
    refine ⟨_, rfl, x, _, rfl, .inl rfl, ?_⟩
    refine ⟨_, rfl, p, cP, dx, _, _, rfl, h1, T.clP, T.nP1, rfl, _, rfl, q, ts, x, rfl, sq_at h2, h3.pos hv.pos, by omega, ?_⟩
    rw [h3.at hv.pos]
    exact k
theorem c_joined_table : CalD P w K mg base 5 "joined_table" sp_joined_table [] := by
  have c_joint_multiple := c_joint_multiple (P := P) (w := w) (base := base) T
  have c_moved := c_moved (P := P) (w := w) (base := base) T
  obtain ⟨f, fd, F, hm⟩ := T.d_joined_table
  refine CalD.of F hm (F.binds (ps := ["one", "other"]) fun _ _ _ _ _ _ us hl => match us, hl with | [_, _], _ => rfl) (F.ok sc_joined_table (fun vs H Q E h => ?_) (fun cdv A outer s H vs Q E hr h => ?_))
  · obtain ⟨a, b, us, d, e, _⟩ := h
    rw [e]
    rfl
  · obtain ⟨a, b, us, d, rfl, ha, hb, hv, k⟩ := h
    have hpos := hv.pos
    have hle := hv.le
    have hlen : (LI us).length = us.length := List.length_map ..
    have hl1 : lcmL [(us.length : Int), 1] = us.length := by
      show 1 * (us.length : Int) / (Int.gcd 1 us.length : Int) * 1 / (Int.gcd (1 * (us.length : Int) / (Int.gcd 1 us.length : Int)) 1 : Int) = us.length
      simp
    refine ⟨_, (pss_cons (ps_set (i := 2) sc_joined_table.nd rfl (Or.inl rfl) (pe_d c_joint_multiple hr (by decide) rfl (pa_cons (pe_lst (pa_cons (pe_callB call_len (by rfl) T.g_len (by decide +kernel) (pa_cons (pv 0) pa_nil)) (pa_cons (pe_callB call_len (by rfl) T.g_len (by decide +kernel) (pa_cons (pv 1) pa_nil)) pa_nil))) pa_nil)))
      (pss_one (ps_ret (pe_lc (own := [("place", 3)]) (g := gName 3) (tt := tYes) (by rfl) sc_joined_table.nd (pi_range1 (by rfl) T.g_range (pa_cons (pv 2) pa_nil)) (blkOk_by (own := [("place", 3)]) (N := ["one", "other", "period", "place"]) (sc := defScope s_joined_table) (by decide +kernel)) (fun _ _ _ _ _ => (pg_name (i := 3) sc_joined_table.nd rfl (Or.inl rfl))) (fun _ _ _ _ _ => pts_nil) (fun _ _ _ _ _ => (pe_op op_sub (pe_d c_moved hr (by decide) rfl (pa_cons (pv 1) (pa_cons (pe_d c_moved hr (by decide) rfl (pa_cons (pv 0) (pa_cons (pv 3) pa_nil))) pa_nil))) (pv 3))))))), ?_⟩
    refine ⟨_, rfl, _, us.length, rfl, .inl ⟨_, sq_at ha, hlen.symm⟩, _, rfl, _, 1, rfl, .inl ⟨_, sq_at hb, rfl⟩, small_len (show 2 ≤ 1000000 by omega), fun l hl => ?_⟩
    generalize hg : upd _ _ _ = H1
    have s1 := newS hg hl
    have e1 := newE hg
    clear hg
    refine ⟨l, [(us.length : Int), 1], rfl, sq_at e1, (show 2 ≤ 1000 by omega), ?_, by rw [hl1]; omega, fun H2 s2 => ?_⟩
    · intro n hn
      rcases List.mem_cons.mp hn with rfl | hn
      · omega
      · rw [List.mem_singleton.mp hn]
        omega
    have s12 := s1.trans s2
    refine ⟨_, rfl, (us.length : Int), congrArg (fun z => [V.int z]) hl1, by omega, by omega, fun D hD => ?_⟩
    refine lc_range (fun i H' => LC H2 D (LI (us.map (· + d))) i H') (lc_start (Same.refl H2) hD) ?_ ?_
    · intro i H' hi q
      have hi : i < us.length := by omega
      refine ⟨rfl, _, rfl, _, rfl, _, rfl, a, us, _, rfl, sq_at (q.1 _ _ (s12 _ _ ha)), hpos, by omega, ?_⟩
      refine ⟨b, [d], _, rfl, sq_at (q.1 _ _ (s12 _ _ hb)), Nat.one_pos, by show 1 ≤ 1000000; omega, ?_⟩
      refine ⟨_, rfl, _, _, rfl, rfl, ?_⟩
      refine lc_step (s12.free hD |> fun _ => hD) q ?_ (by rw [List.length_map, List.length_map]; omega)
      have e1 : ∀ z, atT [d] z = z + d := fun z => by
        have := atT_map [0] d Nat.one_pos z
        rw [show ([0] : List Int).map (· + d) = [d] by simp] at this
        rw [this]
        unfold atT
        rw [show ([0] : List Int).getD (z % (([0] : List Int).length : Int)).toNat 0 = 0 by
          rw [show (z % (([0] : List Int).length : Int)).toNat = 0 by
            show (z % 1).toNat = 0
            rw [Int.emod_one]
            rfl]
          rfl]
        omega
      rw [e1, Int.zero_add, atT_nat us hi]
      show ((us.map (· + d)).map V.int)[i]? = _
      rw [List.getElem?_map, List.getElem?_map, List.getElem?_eq_getElem hi]
      have : us.getD i 0 = us[i] := by rw [List.getD_eq_getElem?_getD, List.getElem?_eq_getElem hi]; rfl
      rw [this]
      show some (V.int (us[i] + d)) = some (V.int ((i : Int) + us[i] + d - (i : Int)))
      congr 2
      omega
    · intro H' q
      obtain ⟨s3, e3⟩ := q.done (by rw [List.length_map, List.length_map]; omega)
      exact k D H' (s12.free hD) (s12.trans s3) e3
theorem m_Plan_then : MetD P w K mg base 6 cP "then" (sp_Plan_then cP) [] := by
  have c_joined_table := c_joined_table (P := P) (w := w) (base := base) T
  have k_Plan := k_Plan (P := P) (w := w) (base := base) T
  obtain ⟨f, fd, F, me⟩ := T.me_Plan_then
  refine ⟨f, fd, ["self", "other"], [], T.clP, me, F.ok sc_Plan_then (fun vs H Q E h => ?_) (fun cdv A outer s H vs Q E hr h => ?_), F.binds (ps := ["self", "other"]) fun _ _ _ _ _ _ us hl => match us, hl with | [_, _], _ => rfl, .nil⟩
  · obtain ⟨p, o, us, d, e, _⟩ := h
    rw [e]
    rfl
  · obtain ⟨p, o, us, d, rfl, hp, ho, k⟩ := h
    obtain ⟨dx, q, r, ts, h1, h2, h3, hv⟩ := hp
    obtain ⟨dx', q', r', ts', h1', h2', h3', hv'⟩ := ho
    have et : ts' = [d] := by
      obtain ⟨kk, ek⟩ := h3'
      have hl := congrArg List.length ek
      rw [flat_len] at hl
      have h1 : kk * ts'.length = 1 := hl.symm
      obtain rfl := Nat.eq_one_of_mul_eq_one_right h1
      simpa using ek.symm
    subst et
    refine ⟨_, (pss_one (ps_ret (pe_mkd k_Plan hr (by decide) rfl (pa_cons (pe_d c_joined_table hr (by decide) rfl (pa_cons (pe_fld (pv 0) rfl) (pa_cons (pe_fld (pv 1) rfl) pa_nil))) pa_nil)))), ?_⟩
    refine ⟨_, rfl, p, cP, dx, _, _, rfl, h1, T.clP, T.nP1, rfl, _, rfl, o, cP, dx', _, _, rfl, h1', T.clP, T.nP1, rfl, q, q', ts, d, rfl, h2, h2', VT.rep h3 hv, fun l H1 hl s1 e1 => ?_⟩
    refine mk_plan T e1 ((VT.rep h3 hv).map d) fun z H2 s2 hz hpz _ => k z H2 (s1.trans s2) (s1.free hz) ?_
    obtain ⟨dx3, q3, r3, ts3, g1, g2, g3, _⟩ := hpz
    exact ⟨dx3, q3, r3, ts3, g1, g2, g3.trans (h3.map _), hv.map d⟩
end
end My

end
section
set_option linter.all false
set_option maxRecDepth 100000
set_option maxHeartbeats 1000000
namespace My
open PySem PySem.Spec PyProof.Rows L2 StX ClX
def sp_delay (cP : Addr) : Sp := fun vs H Q _ => ∃ p us, vs = [.ref p] ∧ PlanAt cP H p us ∧ ∀ H', Same H H' → Q (.int (lateT us)) H'
def sp_delayed (cP : Addr) : Sp := fun vs H Q _ => ∃ p us, vs = [.ref p] ∧ PlanAt cP H p us ∧ ∀ q H', Same H H' → H q = none → PlanAt cP H' q (us.map (· + lateT us)) → Q (.ref q) H'
def sp_holds (cP : Addr) : Sp := fun vs H Q _ => ∃ p us, vs = [.ref p] ∧ PlanAt cP H p us ∧ ∀ H', Same H H' → Q (.int (us.sum / (us.length : Int) + lateT us)) H'
theorem late_max {ts us : List Int} (h : Rep ts us) (h0 : 0 < us.length) {m : Int} (h1 : m ∈ 0 :: ts.map (fun o => -o)) (h2 : ∀ y ∈ 0 :: ts.map (fun o => -o), y ≤ m) : m = lateT us := by
  refine late_is ?_ (h2 0 List.mem_cons_self) fun o ho => h2 _ (List.mem_cons_of_mem _ (List.mem_map.mpr ⟨o, (h.mem h0 o).mpr ho, rfl⟩))
  rcases List.mem_cons.mp h1 with e | e
  · exact .inl e
  · obtain ⟨o, ho, e⟩ := List.mem_map.mp e
    exact .inr ⟨o, (h.mem h0 o).mp ho, e.symm⟩
section
variable {P : Program} {w : World} {K : PySem.W.Frag} {mg : Str → Option Value} {base : Heap} {cM cP cS : Addr} (T : Txt K mg cM cP cS)
include T
theorem c_delay : CalD P w K mg base 2 "delay" (sp_delay cP) [] := by
  have m_Plan_offsets := m_Plan_offsets (P := P) (w := w) (base := base) T
  obtain ⟨f, fd, F, hm⟩ := T.d_delay
  refine CalD.of F hm (F.binds (ps := ["plan"]) fun _ _ _ _ _ _ us hl => match us, hl with | [_], _ => rfl) (F.ok sc_delay (fun vs H Q E h => ?_) (fun cdv A outer s H vs Q E hr h => ?_))
  · obtain ⟨p, us, e, _⟩ := h
    rw [e]
    rfl
  · obtain ⟨p, us, rfl, hp, k⟩ := h
    obtain ⟨dx, q, r, ts0, h1, _⟩ := id hp
    refine ⟨_, (pss_one (ps_ret (pe_callB (cr_max rfl) (by rfl) T.g_max (by decide +kernel) (pa_cons (pe_op op_cat (pe_lst (pa_cons pe_int pa_nil)) (pe_lc (own := [("offset", 1)]) (g := gName 1) (tt := tYes) (by rfl) sc_delay.nd (pi_list (pe_md0 m_Plan_offsets hr (by decide) (pv 0))) (blkOk_by (own := [("offset", 1)]) (N := ["plan", "offset"]) (sc := defScope s_delay) (by decide +kernel)) (fun _ _ _ _ _ => (pg_name (i := 1) sc_delay.nd rfl (Or.inl rfl))) (fun _ _ _ _ _ => pts_nil) (fun _ _ _ _ _ => (pe_un un_neg (pv 1))))) pa_nil)))), ?_⟩
    refine ⟨small_len (show 1 ≤ 1000000 by omega), fun l hl => ?_⟩
    generalize hg : upd _ _ _ = H1
    have s1 := newS hg hl
    have e1 := newE hg
    clear hg
    refine ⟨_, rfl, p, dx, _, rfl, s1 _ _ h1, rfl, p, us, rfl, hp.same s1, fun a ts H2 ha s2 e2 hrep => ?_⟩
    have hv : VT us := by
      obtain ⟨_, _, _, _, _, _, _, hv⟩ := hp
      exact hv
    have hlt : ts.length ≤ 2520 := Nat.le_trans (hrep.le hv.pos) hv.le
    refine ⟨a, rfl, ⟨_, sq_at e2⟩, fun D hD => ?_⟩
    refine lc_list (K := K) (a := a) (xs := LI ts) (fun i H' => LC H2 D (LI (ts.map fun o => -o)) i H') (lc_start (Same.refl H2) hD) (fun i H' _ q => sq_at (q.1 _ _ e2)) ?_ ?_
    · rintro i x H' hx q
      obtain ⟨n, hn, rfl⟩ := LI_get hx
      refine ⟨rfl, _, rfl, n, rfl, lc_step hD q ?_ (by rw [List.length_map, List.length_map]; omega)⟩
      show ((ts.map fun o => -o).map V.int)[i]? = _
      rw [List.getElem?_map, List.getElem?_map, hn]
      rfl
    · rintro H' q
      obtain ⟨s3, e3⟩ := q.done (by rw [List.length_map, List.length_map, List.length_map])
      refine ⟨l, D, [.int 0], _, rfl, rfl, (s2.trans s3) _ _ e1, e3, small_len (by rw [List.length_map, List.length_map]; show 1 + ts.length ≤ 1000000; omega), fun z hz => ?_⟩
      generalize hg : upd _ _ _ = H4
      have s4 := newS hg hz
      have e4 := newE hg
      clear hg
      refine ⟨z, 0 :: ts.map (fun o => -o), rfl, sq_at e4, Nat.zero_lt_succ _, fun m hm1 hm2 => ?_⟩
      rw [late_max hrep hv.pos hm1 hm2]
      exact k H4 (s1.trans (s2.trans (s3.trans s4)))
theorem c_delayed : CalD P w K mg base 7 "delayed" (sp_delayed cP) [] := by
  have m_Plan_then := m_Plan_then (P := P) (w := w) (base := base) T
  have c_delay := c_delay (P := P) (w := w) (base := base) T
  obtain ⟨mcS, pS, gS, rdS, cmS, FS⟩ := c_Plan_shift (P := P) (w := w) (base := base) T
  obtain ⟨f, fd, F, hm⟩ := T.d_delayed
  refine CalD.of F hm (F.binds (ps := ["plan"]) fun _ _ _ _ _ _ us hl => match us, hl with | [_], _ => rfl) (F.ok sc_delayed (fun vs H Q E h => ?_) (fun cdv A outer s H vs Q E hr h => ?_))
  · obtain ⟨p, us, e, _⟩ := h
    rw [e]
    rfl
  · obtain ⟨p, us, rfl, hp, k⟩ := h
    obtain ⟨dx, q, r, ts0, h1, _⟩ := id hp
    refine ⟨_, (pss_one (ps_ret (pe_md m_Plan_then hr (by decide) (pv 0) (pa_cons (pe_cmeth (pe_glob (v := .ref cP) rfl T.m_Plan rfl) rdS cmS FS (hr.mono (by decide)) pass0 (pa_cons (pe_d c_delay hr (by decide) rfl (pa_cons (pv 0) pa_nil)) pa_nil)) pa_nil)))), ?_⟩
    refine ⟨_, rfl, p, dx, _, rfl, h1, rfl, rfl, _, rfl, p, us, rfl, hp, fun H1 s1 => ?_⟩
    refine ⟨_, rfl, fun o H2 s2 ho => ?_⟩
    refine ⟨p, o, us, _, rfl, hp.same (s1.trans s2), ho, fun z H3 s3 hz hpz => ?_⟩
    exact k z H3 (s1.trans (s2.trans s3)) ((s1.trans s2).free hz) hpz
theorem c_holds : CalD P w K mg base 3 "holds" (sp_holds cP) [] := by
  have p_Plan_flow := p_Plan_flow (P := P) (w := w) (base := base) T
  have c_delay := c_delay (P := P) (w := w) (base := base) T
  obtain ⟨f, fd, F, hm⟩ := T.d_holds
  refine CalD.of F hm (F.binds (ps := ["plan"]) fun _ _ _ _ _ _ us hl => match us, hl with | [_], _ => rfl) (F.ok sc_holds (fun vs H Q E h => ?_) (fun cdv A outer s H vs Q E hr h => ?_))
  · obtain ⟨p, us, e, _⟩ := h
    rw [e]
    rfl
  · obtain ⟨p, us, rfl, hp, k⟩ := h
    obtain ⟨dx, q, r, ts0, h1, _⟩ := id hp
    refine ⟨_, (pss_one (ps_ret (pe_op op_add (pe_prd p_Plan_flow hr (by decide) (pv 0)) (pe_d c_delay hr (by decide) rfl (pa_cons (pv 0) pa_nil))))), ?_⟩
    refine ⟨_, rfl, p, dx, _, rfl, h1, p, us, rfl, hp, _, rfl, p, us, rfl, hp, fun H1 s1 => ?_⟩
    exact ⟨_, _, rfl, rfl, k H1 s1⟩
end
end My

end
section
set_option linter.all false
set_option maxRecDepth 100000
set_option maxHeartbeats 1000000
namespace My
open PySem PySem.Spec PyProof.Rows L2 StX ClX
/-- all but x and D stays -/
def Kp (x D : Addr) (H H' : Hp) : Prop := ∀ a o, a ≠ x → a ≠ D → H a = some o → H' a = some o
abbrev flds (pl : Addr) (n : Int) (D : Addr) : List (Str × V) := [("own_delivery", .ref pl), ("own_gap", .non), ("own_moment", .int n), ("own_leaving", .ref D)]
/-- a stream: its table with the delay, its moment, what waits -/
def StreamAt (cS cP : Addr) (H : Hp) (x D dx pl : Addr) (us : List Int) (n : Int) (kvs : List (Key × V)) : Prop := H x = some (.ins cS dx (flds pl n D)) ∧ H D = some (.dK kvs) ∧ PlanAt cP H pl us
theorem PlanAt.put {cP x C dx p : Addr} {H : Hp} {us : List Int} {fs : List (Str × V)} {o : HO} (h : PlanAt cP H p us) (hx : H x = some (.ins C dx fs)) (hf : fs.lookup ("own_offsets" : Str) = none) : PlanAt cP (upd H x o) p us := by
  obtain ⟨dx', q, r, ts, h1, h2, h3⟩ := h
  refine ⟨dx', q, r, ts, ?_, ?_, h3⟩
  · rw [upd_ne ?_]
    · exact h1
    · intro e
      rw [e, hx] at h1
      cases h1
      cases hf
  · rw [upd_ne ?_]
    · exact h2
    · intro e
      rw [e, hx] at h2
      cases h2
theorem PlanAt.putD {cP D p : Addr} {H : Hp} {us : List Int} {kvs : List (Key × V)} {o : HO} (h : PlanAt cP H p us) (hx : H D = some (.dK kvs)) : PlanAt cP (upd H D o) p us := by
  obtain ⟨dx', q, r, ts, h1, h2, h3⟩ := h
  refine ⟨dx', q, r, ts, ?_, ?_, h3⟩
  · rw [upd_ne ?_]
    · exact h1
    · intro e
      rw [e, hx] at h1
      cases h1
  · rw [upd_ne ?_]
    · exact h2
    · intro e
      rw [e, hx] at h2
      cases h2
theorem StreamAt.same {cS cP x D dx pl : Addr} {H H' : Hp} {us : List Int} {n : Int} {kvs : List (Key × V)} (h : StreamAt cS cP H x D dx pl us n kvs) (e : Same H H') : StreamAt cS cP H' x D dx pl us n kvs := by
  obtain ⟨h1, h2, h3⟩ := h
  exact ⟨e _ _ h1, e _ _ h2, h3.same e⟩
theorem StreamAt.ne {cS cP x D dx pl : Addr} {H : Hp} {us : List Int} {n : Int} {kvs : List (Key × V)} (h : StreamAt cS cP H x D dx pl us n kvs) : D ≠ x := fun e => by
  obtain ⟨h1, h2, h3⟩ := h
  rw [e, h1] at h2
  cases h2
/-- only the moment and what waits have changed -/
theorem StreamAt.kp {cS cP x D dx pl : Addr} {H H' : Hp} {us : List Int} {n n' : Int} {kvs kvs' : List (Key × V)} (h : StreamAt cS cP H x D dx pl us n kvs) (k : Kp x D H H') (hx : H' x = some (.ins cS dx (flds pl n' D))) (hD : H' D = some (.dK kvs')) : StreamAt cS cP H' x D dx pl us n' kvs' := by
  obtain ⟨h1, h2, dx', q, r, ts, g1, g2, g3⟩ := h
  refine ⟨hx, hD, dx', q, r, ts, k _ _ (fun e => ?_) (fun e => ?_) g1, k _ _ (fun e => ?_) (fun e => ?_) g2, g3⟩
  · rw [e, h1] at g1
    cases g1
  · rw [e, h2] at g1
    cases g1
  · rw [e, h1] at g2
    cases g2
  · rw [e, h2] at g2
    cases g2
theorem dropK_none {kvs : List (Key × V)} {k : Key} (h : valV kvs k = none) : dropK kvs k = kvs := by
  unfold dropK
  refine List.filter_eq_self.mpr fun p hp => ?_
  have h2 : kvs.find? (fun kv => decide (kv.1 = k)) = none := by
    unfold valV at h
    exact Option.map_eq_none_iff.mp h
  have := List.find?_eq_none.mp h2 p hp
  simpa using this
def sp_Stream_init (cS cP : Addr) : Sp := fun vs H Q _ => ∃ (x p dx : Addr) (us : List Int) (H0 : Hp), vs = [.ref x, .ref p, .non] ∧ Same H0 H ∧ H0 x = none ∧ H x = some (.ins cS dx []) ∧ PlanAt cP H p us ∧
  ∀ D pl H', Same H0 H' → H0 D = none → x ≠ D → StreamAt cS cP H' x D dx pl (us.map (· + lateT us)) 0 [] → Q .non H'
def sp_Stream_moment (cS cP : Addr) : Sp := fun vs H Q _ => ∃ x D dx pl us n kvs, vs = [.ref x] ∧ StreamAt cS cP H x D dx pl us n kvs ∧ Q (.int n) H
def sp_Stream_waiting (cS cP : Addr) : Sp := fun vs H Q _ => ∃ x D dx pl us n kvs, vs = [.ref x] ∧ StreamAt cS cP H x D dx pl us n kvs ∧ Q (.int (kvs.length : Nat)) H
def sp_Stream_push (cS cP : Addr) : Sp := fun vs H Q _ => ∃ x D dx pl us n kvs it, vs = [.ref x, it] ∧ StreamAt cS cP H x D dx pl us n kvs ∧ kvs.length < 1000000 ∧
  ∀ H', Kp x D H H' → StreamAt cS cP H' x D dx pl us (n + 1) (dropK (putK kvs (.inl (atT us n)) it) (.inl n)) → Q ((valV (putK kvs (.inl (atT us n)) it) (.inl n)).getD .non) H'
section
variable {P : Program} {w : World} {K : PySem.W.Frag} {mg : Str → Option Value} {base : Heap} {cM cP cS : Addr} (T : Txt K mg cM cP cS)
include T
theorem k_Stream : MakD P w K mg base 8 "Stream" cS (sp_Stream_init cS cP) [V.non] := by
  have c_delayed := c_delayed (P := P) (w := w) (base := base) T
  obtain ⟨f, fd, M, F⟩ := T.i_Stream
  obtain ⟨ds, d, b⟩ := F.binds0 (ps := ["self", "plan", "gap"]) 2 (by simp) rfl (fun D doc pm an cdv ct us ks h1 h2 => match us, ks, h1, h2 with | [_, _], [_], _, _ => ⟨_, _, _, _, _, _, rfl, rfl, rfl⟩)
  refine ⟨f, fd, ["self", "plan", "gap"], ds, M, F.ok sc_Stream_init (fun vs H Q E h => ?_) (fun cdv A outer s H vs Q E hr h => ?_), T.m_Stream, b, d⟩
  · obtain ⟨x, a, dx, us, H0, e, _⟩ := h
    rw [e]
    rfl
  · obtain ⟨x, p, dx, us, H0, rfl, s0, hx0, hx, hp, k⟩ := h
    refine ⟨_, PSs.nox (pss_cons (ps_fld (pv 0) (pe_d c_delayed hr (by decide) rfl (pa_cons (pv 1) pa_nil)) rfl)
      (pss_cons (ps_fld (pv 0) (pv 2) rfl)
      (pss_cons (ps_fld (pv 0) pe_int rfl)
      (pss_one (ps_fld (pv 0) pe_dnewK rfl))))), ?_⟩
    refine ⟨_, rfl, p, us, rfl, hp, fun q H1 s1 hq hpq => ?_⟩
    have hx1 := s1 _ _ hx
    refine ⟨_, rfl, x, cS, dx, _, rfl, hx1, T.clS, T.nS1, Nat.zero_lt_succ _, ?_⟩
    refine ⟨_, rfl, _, rfl, x, cS, dx, _, rfl, upd_same, T.clS, T.nS2, (show 1 < 1000 by omega), ?_⟩
    refine ⟨_, rfl, x, cS, dx, _, rfl, upd_same, T.clS, T.nS3, (show 2 < 1000 by omega), ?_⟩
    have s3 : Same H0 (upd (upd (upd H1 x (.ins cS dx [("own_delivery", .ref q)])) x (.ins cS dx [("own_delivery", .ref q), ("own_gap", .non)])) x (.ins cS dx [("own_delivery", .ref q), ("own_gap", .non), ("own_moment", .int 0)])) := Same.mut (Same.mut (Same.mut (s0.trans s1) hx0) hx0) hx0
    have p3 : PlanAt cP (upd (upd (upd H1 x (.ins cS dx [("own_delivery", .ref q)])) x (.ins cS dx [("own_delivery", .ref q), ("own_gap", .non)])) x (.ins cS dx [("own_delivery", .ref q), ("own_gap", .non), ("own_moment", .int 0)])) q (us.map (· + lateT us)) := PlanAt.put (PlanAt.put (PlanAt.put hpq hx1 rfl) upd_same rfl) upd_same rfl
    have x3 : (upd (upd (upd H1 x (.ins cS dx [("own_delivery", .ref q)])) x (.ins cS dx [("own_delivery", .ref q), ("own_gap", .non)])) x (.ins cS dx [("own_delivery", .ref q), ("own_gap", .non), ("own_moment", .int 0)])) x = some (.ins cS dx [("own_delivery", .ref q), ("own_gap", .non), ("own_moment", .int 0)]) := upd_same
    intro D hD
    have nxD : x ≠ D := fun e => by
      rw [← e] at hD
      exact absurd (hD.symm.trans upd_same) (fun z => by cases z)
    refine ⟨_, rfl, x, cS, dx, _, rfl, (upd_ne nxD).trans upd_same, T.clS, T.nS4, (show 3 < 1000 by omega), ?_⟩
    refine k D q _ (Same.mut (s3.trans (Same.new hD)) hx0) (s3.free hD) nxD ⟨upd_same, (upd_ne fun e => nxD e.symm).trans upd_same, ?_⟩
    exact PlanAt.put (PlanAt.same p3 (Same.new hD)) ((upd_ne nxD).trans upd_same) rfl
theorem p_Stream_moment : PrpD P w K mg base 1 cS "moment" (sp_Stream_moment cS cP) := by
  obtain ⟨p, f, fd, F, pr⟩ := T.pr_Stream_moment
  refine ⟨p, f, fd, ["self"], T.clS, pr, F.ok sc_Stream_moment (fun vs H Q E h => ?_) (fun cdv A outer s H vs Q E hr h => ?_), F.binds (ps := ["self"]) fun _ _ _ _ _ _ us hl => match us, hl with | [_], _ => rfl⟩
  · obtain ⟨x, D, dx, pl, us, n, kvs, e, _⟩ := h
    rw [e]
    rfl
  · obtain ⟨x, D, dx, pl, us, n, kvs, rfl, hs, k⟩ := h
    obtain ⟨h1, h2, h3⟩ := hs
    refine ⟨_, (pss_one (ps_ret (pe_fld (pv 0) rfl))), ?_⟩
    exact ⟨_, rfl, x, cS, dx, _, _, rfl, h1, T.clS, T.nS3, rfl, k⟩
theorem p_Stream_waiting : PrpD P w K mg base 1 cS "waiting" (sp_Stream_waiting cS cP) := by
  obtain ⟨p, f, fd, F, pr⟩ := T.pr_Stream_waiting
  refine ⟨p, f, fd, ["self"], T.clS, pr, F.ok sc_Stream_waiting (fun vs H Q E h => ?_) (fun cdv A outer s H vs Q E hr h => ?_), F.binds (ps := ["self"]) fun _ _ _ _ _ _ us hl => match us, hl with | [_], _ => rfl⟩
  · obtain ⟨x, D, dx, pl, us, n, kvs, e, _⟩ := h
    rw [e]
    rfl
  · obtain ⟨x, D, dx, pl, us, n, kvs, rfl, hs, k⟩ := h
    obtain ⟨h1, h2, h3⟩ := hs
    refine ⟨_, (pss_one (ps_ret (pe_callB call_lenD (by rfl) T.g_len (by decide +kernel) (pa_cons (pe_fld (pv 0) rfl) pa_nil)))), ?_⟩
    exact ⟨_, rfl, x, cS, dx, _, _, rfl, h1, T.clS, T.nS4, rfl, D, kvs, rfl, h2, k⟩
theorem m_Stream_push_ok : ∃ f fd, FnOk P w K mg base CX0 4 f fd ["self", "item"] (sp_Stream_push cS cP) ∧ Meth K cS "push" f ∧ Fun K "push" "Stream.push" s_Stream_push f fd := by
  have m_Plan_at := m_Plan_at (P := P) (w := w) (base := base) T
  obtain ⟨f, fd, F, me⟩ := T.me_Stream_push
  refine ⟨f, fd, F.ok sc_Stream_push (fun vs H Q E h => ?_) (fun cdv A outer s H vs Q E hr h => ?_), me, F⟩
  · obtain ⟨x, D, dx, pl, us, n, kvs, it, e, _⟩ := h
    rw [e]
    rfl
  · obtain ⟨x, D, dx, pl, us, n, kvs, it, rfl, hs, hlen, k⟩ := h
    obtain ⟨h1, h2, h3⟩ := hs
    have hu := hu_of hr
    have nDx : D ≠ x := fun e => by
      rw [e, h1] at h2
      cases h2
    refine ⟨_, (pss_cons (ps_set (i := 2) sc_Stream_push.nd rfl (Or.inl rfl) (pe_fld (pv 0) rfl))
      (pss_cons (ps_fld (pv 0) (pe_op op_add (pv 2) pe_int) rfl)
      (pss_cons (ps_dput hu (pe_fld (pv 0) rfl) (pe_md m_Plan_at hr (by decide) (pe_fld (pv 0) rfl) (pa_cons (pv 2) pa_nil)) (pv 1) rfl)
      (pss_one (ps_ret (pe_dpop2 (pe_fld (pv 0) rfl) (pv 2) (pe_fld (pv 0) rfl) ⟨rfl, rfl, rfl, rfl⟩)))))), ?_⟩
    refine ⟨_, rfl, x, cS, dx, _, _, rfl, h1, T.clS, T.nS3, rfl, ?_⟩
    refine ⟨_, rfl, _, _, rfl, rfl, _, rfl, x, cS, dx, _, rfl, h1, T.clS, T.nS3, (show 4 < 1000 by omega), ?_⟩
    have x1 : (upd H x (.ins cS dx (flds pl (n + 1) D))) x = some (.ins cS dx (flds pl (n + 1) D)) := upd_same
    have p1 : PlanAt cP (upd H x (.ins cS dx (flds pl (n + 1) D))) pl us := PlanAt.put h3 h1 rfl
    have d1 : (upd H x (.ins cS dx (flds pl (n + 1) D))) D = some (.dK kvs) := (upd_ne nDx).trans h2
    obtain ⟨dx2, _, _, _, g1, _⟩ := id p1
    refine ⟨_, rfl, _, rfl, x, cS, dx, _, _, rfl, x1, T.clS, T.nS4, rfl, _, rfl, x, cS, dx, _, _, rfl, x1, T.clS, T.nS1, rfl, pl, dx2, _, rfl, g1, rfl, _, rfl, pl, us, n, rfl, p1, ?_⟩
    refine ⟨D, _, rfl, DPut.k (k := Sum.inl (atT us n)) d1 (small_lt hlen), ?_⟩
    generalize hk2 : putK kvs (Sum.inl (atT us n)) it = kv2 at *
    have x2 : (upd (upd H x (.ins cS dx (flds pl (n + 1) D))) D (.dK kv2)) x = some (.ins cS dx (flds pl (n + 1) D)) := (upd_ne fun e => nDx e.symm).trans x1
    have p2 : PlanAt cP (upd (upd H x (.ins cS dx (flds pl (n + 1) D))) D (.dK kv2)) pl us := PlanAt.putD p1 d1
    refine ⟨_, rfl, x, cS, dx, _, _, rfl, x2, T.clS, T.nS4, rfl, D, rfl, .inl ⟨_, .inl upd_same⟩, _, rfl, _, rfl, x, cS, dx, _, _, rfl, x2, T.clS, T.nS2, rfl, kv2, Sum.inl n, upd_same, rfl, fun v hv => ?_, fun hn => ?_⟩
    · rw [hv] at k
      refine k _ (fun a o ha hd e => ?_) ⟨(upd_ne fun e => nDx e.symm).trans x2, upd_same, PlanAt.putD p2 upd_same⟩
      rw [upd_ne hd, upd_ne hd, upd_ne ha]
      exact e
    · rw [hn, dropK_none hn] at k
      refine k _ (fun a o ha hd e => ?_) ⟨x2, upd_same, p2⟩
      rw [upd_ne hd, upd_ne ha]
      exact e
end
end My

end
section
set_option linter.all false
set_option maxRecDepth 100000
set_option maxHeartbeats 1000000
namespace My
open PySem PySem.Spec PyProof.Rows L2 StX ClX
def g11 {α : Type} : List α → List α → List α
  | [a], [b] => [a, b]
  | _, _ => []
theorem g11_rel {vs zs : List V} {us ws : List Value} (r : Vals vs us) (z : Vals zs ws) : Vals (g11 vs zs) (g11 us ws) := by
  cases r with
  | nil => exact .nil
  | cons r1 r2 =>
    cases r2 with
    | cons _ _ => exact .nil
    | nil =>
      cases z with
      | nil => exact .nil
      | cons z1 z2 =>
        cases z2 with
        | nil => exact .cons r1 (.cons z1 .nil)
        | cons _ _ => exact .nil
/-- a list of pairs as a dict of ints -/
def KV (kv : List (Int × Int)) : List (Key × V) := kv.map fun p => (Sum.inl p.1, V.int p.2)
def sp_rest (cS cP : Addr) : SpG := fun vs H Q _ => ∃ x D dx pl us n kv, vs = [.ref x] ∧ StreamAt cS cP H x D dx pl us n (KV kv) ∧ (kv.map (·.1)).Nodup ∧ kv.length ≤ 1000 ∧ 0 ≤ n ∧ n ≤ 900000 ∧ (∀ p ∈ kv, p.1 ≤ 900000) ∧
  ∀ last, last ∈ (n - 1) :: kv.map (·.1) → (∀ y ∈ (n - 1) :: kv.map (·.1), y ≤ last) → ∀ H', Same H H' → Q ((List.range (last + 1 - n).toNat).map fun (i : Nat) => (valV (KV kv) (.inl (n + (i : Int)))).getD .non) H'
theorem KV_none {kv : List (Int × Int)} (h : (kv.map (·.1)).Nodup) {i : Nat} {p : Int × Int} (hi : kv[i]? = some p) : valV (KV (kv.take i)) (Sum.inl p.1) = none := by
  refine valV_of_none fun q hq e => ?_
  obtain ⟨r, hr, rfl⟩ := List.mem_map.mp hq
  obtain ⟨j, hj, e2⟩ := List.getElem_of_mem hr
  have hj2 : j < kv.length := by
    rw [List.length_take] at hj
    omega
  have hj3 : j < i := by
    rw [List.length_take] at hj
    omega
  have hi2 : i < kv.length := (List.getElem?_eq_some_iff.mp hi).1
  rw [List.getElem_take] at e2
  have e3 : kv[i] = p := (List.getElem?_eq_some_iff.mp hi).2
  have e4 : r.1 = p.1 := Sum.inl.inj e
  have := (List.getElem_inj (h₀ := by rw [List.length_map]; exact hj2) (h₁ := by rw [List.length_map]; exact hi2) h).mp (by rw [List.getElem_map, List.getElem_map, e2, e3]; exact e4)
  omega
section
variable {P : Program} {w : World} {K : PySem.W.Frag} {mg : Str → Option Value} {base : Heap} {cM cP cS : Addr} (T : Txt K mg cM cP cS)
include T
theorem mk_push : ∃ f fd, FnOk P w K mg base CX0 4 f fd ["self", "item"] (sp_Stream_push cS cP) ∧ Meth K cS "push" f ∧ KBinds K fd ["self", "item"] ["item"] g11 g11 := by
  obtain ⟨f, fd, F, me, G⟩ := m_Stream_push_ok (P := P) (w := w) (base := base) T
  obtain ⟨oc, od0, kVd, doc, pm, an, cdv, ct, osl, rfl, lk, hcd⟩ := G.ex
  refine ⟨f, _, F, me, ⟨fun s us ws kin hl => ?_, g11_rel⟩⟩
  exact match us, ws, hl with
    | [a], [b], _ => BindsTo.of_looks fun M => PySem.W.Looks.of_pure rfl
theorem g_Stream_rest : ∃ f fd, GFn P w K mg base 2 f fd ["self"] (sp_rest cS cP) ∧ Meth K cS "rest" f ∧ Binds K fd ["self"] [] := by
  obtain ⟨f, fd, F, me⟩ := T.me_Stream_rest
  have hb := F.binds (ps := ["self"]) fun _ _ _ _ _ _ us hl => match us, hl with | [_], _ => rfl
  obtain ⟨oc, od0, kVd, doc, pm, an, cdv, ct, osl, rfl, lk, hcd⟩ := F.ex
  refine ⟨f, _, gfn_of lk hcd sc_Stream_rest (fun vs H Q E h => ?_) (fun A outer s H vs Q E pn hr h => ?_), me, hb⟩
  · obtain ⟨x, D, dx, pl, us, n, kv, e, _⟩ := h
    rw [e]
    rfl
  · obtain ⟨x, D, dx, pl, us, n, kv, rfl, hs, hnd, hkl, hn0, hn1, hkb, k⟩ := h
    obtain ⟨h1, h2, h3⟩ := hs
    have hu := hu_of hr
    have nDx : D ≠ x := fun e => by
      rw [e, h1] at h2
      cases h2
    refine ⟨_, (gss_cons (gs_ps (ps_lock (ps_setDc (i := 2) (own := [("moment", 1), ("item", 4)]) (g := gTup K 2 (gCons (gName 1) (gCons (gName 4) gNil))) (tt := tYes) (by rfl) sc_Stream_rest.nd rfl rfl (sw_trueD rfl rfl rfl (by decide +kernel)) (pi_items (pe_fld (pv 0) rfl)) (blkOk_by (own := [("moment", 1), ("item", 4)]) (N := ["self", "moment", "leaving", "last", "item"]) (sc := defScope s_Stream_rest) (by decide +kernel)) (fun _ _ _ _ _ => (pg_tup (by rfl) (pgs_cons (pg_name (i := 1) sc_Stream_rest.nd rfl (Or.inl rfl)) (pgs_cons (pg_name (i := 4) sc_Stream_rest.nd rfl (Or.inl rfl)) pgs_nil)))) (fun _ _ _ _ _ => pts_nil) (fun _ _ _ _ _ => (pv 1)) (fun _ _ _ _ _ => (pv 4)))))
      (gss_cons (gs_ps (ps_set (i := 3) sc_Stream_rest.nd rfl (Or.inl rfl) (pe_callB (cr_max rfl) (by rfl) T.g_max (by decide +kernel) (pa_cons (pe_op op_cat (pe_lst (pa_cons (pe_op op_sub (pe_fld (pv 0) rfl) pe_int) pa_nil)) (pe_callTy (call_listD rfl) (by rfl) T.g_list (by decide +kernel) (pa_cons (pv 2) pa_nil))) pa_nil))))
      (gss_cons (gs_for owns_gcx (by rfl) (pi_range2 (by rfl) T.g_range (pa_cons (pe_fld (pv 0) rfl) (pa_cons (pe_op op_add (pv 3) pe_int) pa_nil))) (pg_name (i := 1) sc_Stream_rest.nd rfl (Or.inl rfl)) (gss_cons (gs_yield (pe_dget2 hu (pv 2) (pv 1) (pe_fld (pv 0) rfl) ⟨rfl, rfl, rfl, rfl⟩))
      gss_nil))
      gss_nil))), ?_⟩
    refine ⟨D, _, h2, trivial, fun od => ?_⟩
    have f2 : (upd H D (.frz od (.dK (KV kv)))) D = some (.frz od (.dK (KV kv))) := upd_same
    have f1 : (upd H D (.frz od (.dK (KV kv)))) x = some (.ins cS dx (flds pl n D)) := (upd_ne fun e => nDx e.symm).trans h1
    refine ⟨_, rfl, x, cS, dx, _, _, rfl, f1, T.clS, T.nS4, rfl, D, od, KV kv, rfl, f2, fun L hL => ?_⟩
    have nLD : L ≠ D := fun e => by
      rw [e, f2] at hL
      cases hL
    have hlk : (KV kv).length = kv.length := List.length_map ..
    refine dc_items (d := D) (o := od) (kvs := KV kv) (fun i H' => Same (upd H D (.frz od (.dK (KV kv)))) H' ∧ H' L = some (.dK (KV (kv.take i)))) ⟨Same.mut (Same.refl _) hL, upd_same⟩ (fun i H' q => q.1 _ _ f2) ?_ ?_
    · rintro i k0 v0 H' tt H'' hx ⟨sm, eL⟩ hT sm' eT
      obtain ⟨p, hp, e⟩ : ∃ p, kv[i]? = some p ∧ (Sum.inl p.1, V.int p.2) = (k0, v0) := by
        unfold KV at hx
        rw [List.getElem?_map] at hx
        cases e : kv[i]? with
        | none =>
          rw [e] at hx
          cases hx
        | some p =>
          rw [e] at hx
          exact ⟨p, rfl, Option.some.inj hx⟩
      cases e
      refine ⟨tt, _, rfl, st_at eT, rfl, _, _, rfl, _, _, rfl, rfl, ?_⟩
      refine ⟨rfl, _, rfl, _, rfl, _, Sum.inl p.1, rfl, sm' _ _ eL, small_lt (by unfold KV; rw [List.length_map, List.length_take]; omega), Same.mut (sm.trans sm') hL, ?_⟩
      rw [putK_new _ (KV_none hnd hp)]
      have e : kv.take (i + 1) = kv.take i ++ [p] := by
        rw [List.take_succ, hp]
        rfl
      rw [e]
      unfold KV
      rw [List.map_append]
      exact upd_same
    · rintro H' ⟨sm, eL⟩
      rw [hlk, List.take_length] at eL
      refine ⟨sm _ _ f2, ?_⟩
      have sb : Same H (upd H' D (.dK (KV kv))) := fun a u ha => by
        by_cases e : a = D
        · rw [e, h2] at ha
          rw [e, upd_same]
          exact ha
        · rw [upd_ne e]
          exact sm _ _ ((upd_ne e).trans ha)
      have eL2 : (upd H' D (.dK (KV kv))) L = some (.dK (KV kv)) := (upd_ne nLD).trans eL
      generalize upd H' D (.dK (KV kv)) = Hb at *
      refine ⟨_, rfl, x, cS, dx, _, _, rfl, sb _ _ h1, T.clS, T.nS3, rfl, _, _, rfl, rfl, small_len (show 1 ≤ 1000000 by omega), fun l hl => ?_⟩
      generalize hg : upd _ _ _ = H1
      have s1 := newS hg hl
      have e1 := newE hg
      clear hg
      refine ⟨_, rfl, L, KV kv, rfl, .inl (s1 _ _ eL2), fun m hm => ?_⟩
      generalize hg : upd _ _ _ = H2
      have s2 := newS hg hm
      have e2 := newE hg
      clear hg
      refine ⟨l, m, _, _, rfl, rfl, s2 _ _ e1, e2, small_len (by rw [List.length_map, hlk]; show 1 + kv.length ≤ 1000000; omega), fun z hz => ?_⟩
      generalize hg : upd _ _ _ = H3
      have s3 := newS hg hz
      have e3 := newE hg
      clear hg
      have ez : [V.int (n - 1)] ++ (KV kv).map (fun kv => kV kv.1) = LI ((n - 1) :: kv.map (·.1)) := by
        unfold KV
        rw [List.map_map]
        show V.int (n - 1) :: _ = V.int (n - 1) :: (kv.map (·.1)).map V.int
        rw [List.map_map]
        rfl
      rw [ez] at e3
      refine ⟨z, (n - 1) :: kv.map (·.1), rfl, sq_at e3, Nat.zero_lt_succ _, fun last l1 l2 => ?_⟩
      have sa := sb.trans (s1.trans (s2.trans s3))
      have hL3 := (s1.trans (s2.trans s3)) _ _ eL2
      have lb : n - 1 ≤ last := l2 _ List.mem_cons_self
      have ub : last ≤ 900000 := by
        rcases List.mem_cons.mp l1 with e | e
        · omega
        · obtain ⟨p, hp, rfl⟩ := List.mem_map.mp e
          exact hkb p hp
      refine ⟨_, rfl, x, cS, dx, _, _, rfl, sa _ _ h1, T.clS, T.nS3, rfl, _, rfl, _, _, rfl, rfl, n, last + 1, rfl, ⟨by omega, by omega, by omega, by omega⟩, ?_⟩
      refine gfor_range (fun i ys σ H' => ys = ((List.range i).map fun (i : Nat) => (valV (KV kv) (.inl (n + (i : Int)))).getD .non) ∧ Same H3 H' ∧ ∃ v1 v2, σ = [some (.ref x), v1, some (.ref L), some (.int last), v2]) ⟨rfl, Same.refl _, none, none, rfl⟩ ?_ ?_
      · rintro i ys σ H' hi ⟨rfl, sm3, v1, v2, rfl⟩
        refine ⟨small_lt (by rw [List.length_map, List.length_range]; omega), _, rfl, L, rfl, .inl ⟨_, .inl (sm3 _ _ hL3)⟩, _, rfl, _, rfl, x, cS, dx, _, _, rfl, sm3 _ _ (sa _ _ h1), T.clS, T.nS2, rfl, _, DGet.k (k := Sum.inl (n + (i : Int))) (sm3 _ _ hL3), ?_⟩
        refine ⟨?_, sm3, _, _, rfl⟩
        rw [List.range_succ, List.map_append]
        rfl
      · rintro ys σ H' ⟨rfl, sm3, v1, v2, rfl⟩
        exact k last l1 l2 H' (sa.trans sm3)
end
end My

end
section
set_option linter.all false
set_option maxRecDepth 100000
set_option maxHeartbeats 1000000
namespace My
open PySem PySem.Spec PyProof.Rows L2 StX ClX
/-- a pot: a digit store and a seed -/
def PotAt (H : Hp) (p : Addr) : Prop := ∃ a b : Int, H p = some (.lst [.int a, .int b]) ∧ 0 ≤ a ∧ 0 ≤ b ∧ b ≤ 2147483629
/-- a thing of one's own changes, one that the start did not know -/
theorem KpP.mut {p q : Addr} {H H' : Hp} {o : HO} (h : KpP p H H') (hq : H q = none) : KpP p H (upd H' q o) := fun a u n e => (upd_ne (ne_of_none e hq)).trans (h a u n e)
theorem PotAt.same {H H' : Hp} {p : Addr} (h : PotAt H p) (g : Same H H') : PotAt H' p := by
  obtain ⟨a, b, h1, h2⟩ := h
  exact ⟨a, b, g _ _ h1, h2⟩
theorem PotAt.ne {H : Hp} {p q : Addr} (h : PotAt H p) (hq : H q = none) : q ≠ p := fun e => by
  obtain ⟨a, b, h1, h2⟩ := h
  rw [e, h1] at hq
  cases hq
theorem PotAt.put {H : Hp} {p q : Addr} {o : HO} (h : PotAt H p) (n : q ≠ p) : PotAt (upd H q o) p := by
  obtain ⟨a, b, h1, h2⟩ := h
  exact ⟨a, b, (upd_ne fun e => n e.symm).trans h1, h2⟩
theorem erase_map {α β : Type} (f : α → β) : ∀ (l : List α) (i : Nat), (l.map f).eraseIdx i = (l.eraseIdx i).map f
  | [], _ => rfl
  | _ :: _, 0 => rfl
  | x :: l, i + 1 => by
    rw [List.map_cons, List.eraseIdx_cons_succ, List.eraseIdx_cons_succ, List.map_cons, erase_map f l i]
theorem erase_perm' {α : Type} : ∀ (l : List α) (i : Nat) (y : α), l[i]? = some y → ([y] ++ l.eraseIdx i).Perm l
  | [], i, y, h => by cases h
  | x :: l, 0, y, h => by
    cases h
    exact List.Perm.refl _
  | x :: l, i + 1, y, h => (List.Perm.swap x y _).trans ((erase_perm' l i y h).cons x)
theorem rgV_LI (m : Nat) : rgV 0 (m : Int) = LI ((List.range m).map Int.ofNat) := by
  unfold rgV LI
  rw [List.map_map, Int.sub_zero, Int.toNat_natCast]
  refine List.map_congr_left fun i _ => ?_
  show V.int (0 + (i : Int)) = V.int (Int.ofNat i)
  rw [Int.zero_add]
  rfl
theorem tyl {K : PySem.W.Frag} {H : Hp} {p : Addr} {xs : List V} (h : SqL K H p xs) : tyV K "list" (.ref p) H := .inl ⟨rfl, xs, h⟩
def sp_draw : Sp := fun vs H Q _ => ∃ (p : Addr) (many : Int), vs = [.ref p, .int many] ∧ PotAt H p ∧ 0 < many ∧ many ≤ 1000000 ∧ ∀ d H', 0 ≤ d → d < many → KpP p H H' → PotAt H' p → Q (.int d) H'
def sp_shuffled : Sp := fun vs H Q _ => ∃ (p a : Addr) (xs : List Int), vs = [.ref p, .ref a] ∧ PotAt H p ∧ H a = some (.lst (LI xs)) ∧ xs.length ≤ 1000 ∧ ∀ q ys H', KpP p H H' → PotAt H' p → H q = none → H' q = some (.lst (LI ys)) → ys.Perm xs → Q (.ref q) H'
/-- a table made of a permutation -/
structure TabOf (m : Nat) (us : List Int) : Prop where
  len : us.length = m
  ex : ∃ gs : List Int, gs.Perm ((List.range m).map Int.ofNat) ∧ ∀ i, i < m → ∃ c : Int, -2 ≤ c ∧ c ≤ 2 ∧ us.getD i 0 = gs.getD i 0 - i + m * c
def sp_table : Sp := fun vs H Q _ => ∃ (p : Addr) (m : Nat), vs = [.ref p, .int m] ∧ PotAt H p ∧ 0 < m ∧ m ≤ 1000 ∧ ∀ q us H', KpP p H H' → PotAt H' p → H q = none → H' q = some (.lst (LI us)) → TabOf m us → Q (.ref q) H'
def sp_pot (K : PySem.W.Frag) : Sp := fun vs H Q _ => ∃ (a : Addr) (ns : List Int) (k : Nat), vs = [.ref a, .int k] ∧ SqL K H a (LI ns) ∧ ns.length ≤ 1000 ∧ k ≤ 1000 ∧ ∀ q H', Same H H' → H q = none → PotAt H' q → Q (.ref q) H'
section
variable {P : Program} {w : World} {K : PySem.W.Frag} {mg : Str → Option Value} {base : Heap} {cM cP cS : Addr} (T : Txt K mg cM cP cS)
include T
theorem c__law_draw : CalD P w K mg base 1 "_law_draw" sp_draw [] := by
  obtain ⟨f, fd, F, hm⟩ := T.d__law_draw
  refine CalD.of F hm (F.binds (ps := ["_law_pot_here", "_law_many"]) fun _ _ _ _ _ _ us hl => match us, hl with | [_, _], _ => rfl) (F.ok sc__law_draw (fun vs H Q E h => ?_) (fun cdv A outer s H vs Q E hr h => ?_))
  · obtain ⟨p, many, e, _⟩ := h
    rw [e]
    rfl
  · obtain ⟨p, many, rfl, hp, h0, h1, k⟩ := h
    obtain ⟨a, b, hl, ha, hb, hb2⟩ := hp
    refine ⟨_, (pss_cons (ps_if (pt_cmpR op_gt (pe_ix ix_list (pv 0) pe_int (fun _ _ => rfl)) pe_int (nomark _)) (pss_cons (ps_asg (pe_callB call_divmod (by rfl) T.g_divmod (by decide +kernel) (pa_cons (pe_ix ix_list (pv 0) pe_int (fun _ _ => rfl)) (pa_cons (pv 1) pa_nil))) (pg_tup (by rfl) (pgs_cons (pg_sub (pv 0) pe_int set_list) (pgs_cons (pg_name (i := 2) sc__law_draw.nd rfl (Or.inl rfl)) pgs_nil))))
      (pss_one (ps_ret (pv 2)))) pss_nil)
      (pss_cons (ps_asg (pe_op op_mod (pe_callTy call_int1 (by rfl) T.g_int (by decide +kernel) (pa_cons (pe_op op_add (pe_op op_mul (pe_ix ix_list (pv 0) pe_int (fun _ _ => rfl)) pe_int) pe_int) pa_nil)) pe_int) (pg_sub (pv 0) pe_int set_list))
      (pss_one (ps_ret (pe_op op_mod (pe_callTy call_int1 (by rfl) T.g_int (by decide +kernel) (pa_cons (pe_op op_fdiv (pe_op op_mod (pe_callTy call_int1 (by rfl) T.g_int (by decide +kernel) (pa_cons (pe_op op_mul (pe_ix ix_list (pv 0) pe_int (fun _ _ => rfl)) (pe_ix ix_list (pv 0) pe_int (fun _ _ => rfl))) pa_nil)) pe_int) pe_int) pa_nil)) (pv 1)))))), ?_⟩
    refine ⟨_, rfl, p, _, _, _, rfl, rfl, sq_at hl, rfl, ?_⟩
    refine ⟨_, _, rfl, rfl, _, rfl, ?_⟩
    by_cases hp : a > 0
    · rw [decide_eq_true hp]
      refine iteT ?_
      refine ⟨_, rfl, p, _, _, _, rfl, rfl, sq_at hl, rfl, _, rfl, a, many, rfl, ⟨h0, by omega⟩, fun t ht => ?_⟩
      have htp : t ≠ p := fun e => by
        rw [e, hl] at ht
        cases ht
      have hl1 : (upd H t (.tup [.int (a / many), .int (a % many)])) p = some (.lst [.int a, .int b]) := (upd_ne fun e => htp e.symm).trans hl
      refine ⟨t, _, rfl, st_at upd_same, rfl, _, _, rfl, ?_⟩
      refine ⟨_, rfl, p, _, 0, 0, rfl, rfl, hl1, rfl, ?_⟩
      refine ⟨_, _, rfl, rfl, ?_⟩
      refine ⟨_, rfl, ?_⟩
      refine k _ _ (Int.emod_nonneg _ (by omega)) (Int.emod_lt_of_pos _ h0) (KpP.trans (Same.kp (Same.new ht)) KpP.set) ⟨a / many, b, upd_same, Int.ediv_nonneg ha (by omega), hb, hb2⟩
    · rw [decide_eq_false hp]
      refine iteF ?_
      have m0 : 0 ≤ (b * 48271 + 30011) % 2147483629 := Int.emod_nonneg _ (by omega)
      have m1 : (b * 48271 + 30011) % 2147483629 < 2147483629 := Int.emod_lt_of_pos _ (by omega)
      refine ⟨_, rfl, p, _, _, .int b, rfl, rfl, sq_at hl, rfl, _, _, rfl, rfl, .inr ⟨by decide, by decide⟩, _, _, rfl, rfl, .inl ⟨_, rfl, _, _, rfl, rfl, (show (0:Int) < 2147483629 by omega), ?_⟩⟩
      refine ⟨_, rfl, p, _, 1, 1, rfl, rfl, hl, rfl, ?_⟩
      have e1 : (upd H p (.lst ([V.int a, V.int b].set 1 (V.int ((b * 48271 + 30011) % 2147483629))))) p = some (.lst [.int a, .int ((b * 48271 + 30011) % 2147483629)]) := upd_same
      refine ⟨_, rfl, p, _, _, _, rfl, rfl, sq_at e1, rfl, ?_⟩
      refine ⟨_, rfl, p, _, _, _, rfl, rfl, sq_at e1, rfl, _, _, rfl, rfl, .inr ⟨by omega, by omega⟩, .inl ⟨_, rfl, ?_⟩⟩
      refine ⟨_, _, rfl, rfl, (show (0:Int) < 2147483587 by omega), _, _, rfl, rfl, ⟨by omega, by omega⟩, .inl ⟨_, rfl, _, rfl, _, _, rfl, rfl, h0, ?_⟩⟩
      exact k _ _ (Int.emod_nonneg _ (by omega)) (Int.emod_lt_of_pos _ h0) KpP.set ⟨a, _, upd_same, ha, m0, by omega⟩
theorem c__law_shuffled : CalD P w K mg base 2 "_law_shuffled" sp_shuffled [] := by
  have c__law_draw := c__law_draw (P := P) (w := w) (base := base) T
  obtain ⟨f, fd, F, hm⟩ := T.d__law_shuffled
  refine CalD.of F hm (F.binds (ps := ["_law_pot_here", "_law_some"]) fun _ _ _ _ _ _ us hl => match us, hl with | [_, _], _ => rfl) (F.ok sc__law_shuffled (fun vs H Q E h => ?_) (fun cdv A outer s H vs Q E hr h => ?_))
  · obtain ⟨p, a, xs, e, _⟩ := h
    rw [e]
    rfl
  · obtain ⟨p, a, xs, rfl, hp, ha, hlen, k⟩ := h
    refine ⟨_, (pss_cons (ps_par (i := 2) (j := 3) (by rfl) sc__law_shuffled.nd rfl rfl (by decide) rfl rfl (pa_cons (pe_callTy call_list_of (by rfl) T.g_list (by decide +kernel) (pa_cons (pv 1) pa_nil)) (pa_cons (pe_lst pa_nil) pa_nil)) (by rfl))
      (pss_cons (ps_while PassesOwn.never (pt_cmpR (op_neD hr.units) (pv 2) (pe_lst pa_nil) (nomark _)) (pss_one (ps_expr (pe_bm PySem.F.plainAttrs_list PySem.F.slot_list_append PySem.F.type_list_append mt_append (pv 3) (pa_cons (pe_bm PySem.F.plainAttrs_list PySem.F.slot_list_pop PySem.F.type_list_pop mt_popAt (pv 2) (pa_cons (pe_d c__law_draw hr (by decide) rfl (pa_cons (pv 0) (pa_cons (pe_callB call_len (by rfl) T.g_len (by decide +kernel) (pa_cons (pv 2) pa_nil)) pa_nil))) pa_nil)) pa_nil)))))
      (pss_one (ps_ret (pv 3))))), ?_⟩
    refine ⟨_, rfl, a, LI xs, rfl, .inl (sq_at ha), fun l hl => ?_⟩
    have nl := PotAt.ne hp hl
    have hp1 := hp.same (Same.new (o := .lst (LI xs)) hl)
    have el : (upd H l (.lst (LI xs))) l = some (.lst (LI xs)) := upd_same
    have k1 : KpP p H (upd H l (.lst (LI xs))) := Same.kp (Same.new hl)
    generalize upd H l (.lst (LI xs)) = H1 at *
    refine ⟨small_len (show 0 ≤ 1000000 by omega), fun m hm => ?_⟩
    have nm := PotAt.ne hp1 hm
    have nml : m ≠ l := fun e => by
      rw [e, el] at hm
      cases hm
    have hm0 : H m = none := by
      cases e : H m with
      | none => rfl
      | some u =>
        have := k1 m u nm e
        rw [hm] at this
        cases this
    have hp2 := hp1.same (Same.new (o := .lst []) hm)
    refine ⟨_, _, rfl, ?_⟩
    refine while_by (fun σ H' => KpP p H H' ∧ PotAt H' p ∧ ∃ zs ws, H' l = some (.lst (LI zs)) ∧ H' m = some (.lst (LI ws)) ∧ (ws ++ zs).Perm xs ∧ σ = [some (.ref p), some (.ref a), some (.ref l), some (.ref m)]) (fun σ H' => match H' l with | some (.lst zs) => zs.length | _ => 0) ⟨KpP.same k1 (Same.new hm), hp2, xs, [], (upd_ne fun e => nml e.symm).trans el, upd_same, List.Perm.refl _, rfl⟩ ?_ ?_
    · rintro σ H' ⟨kp, hp', zs, ws, ez, ew, pm, rfl⟩
      refine ⟨_, rfl, small_len (show 0 ≤ 1000000 by omega), fun t ht => ?_⟩
      generalize hg : upd _ _ _ = H2
      have s2 := newS hg ht
      have e2 := newE hg
      clear hg
      refine ⟨_, _, dp_ints (sq_at (s2 _ _ ez)), dp_ints (ns := []) (sq_at e2), shaped_ints _, shaped_ints _, ?_⟩
      rw [eqv_ints]
      refine ⟨_, rfl, ?_⟩
      have lp := pm.length_eq
      rw [List.length_append] at lp
      by_cases hz : zs = []
      · subst hz
        refine iteNS rfl ?_
        refine ⟨_, rfl, ?_⟩
        rw [List.append_nil] at pm
        exact k m ws H2 (kp.same s2) (hp'.same s2) hm0 (s2 _ _ ew) pm
      · have hzl : 0 < zs.length := List.length_pos_iff.mpr hz
        rw [decide_eq_false hz]
        refine iteT ?_
        refine ⟨_, rfl, tyl (sq_at (s2 _ _ ew)), _, rfl, tyl (sq_at (s2 _ _ ez)), _, rfl, _, rfl, _, zs.length, rfl, .inl ⟨_, sq_at (s2 _ _ ez), (List.length_map ..).symm⟩, p, _, rfl, hp'.same s2, by omega, by omega, fun d H3 d0 d1 k3 hp3 => ?_⟩
        have e3 := k3 _ _ nl (s2 _ _ ez)
        have w3 := k3 _ _ nm (s2 _ _ ew)
        have hdl : d.toNat < zs.length := by omega
        refine ⟨l, _, d, d.toNat, .int zs[d.toNat], rfl, rfl, e3, by omega, by omega, ?_, ?_, ?_⟩
        · rw [List.length_map]
          show seqIndex? d zs.length = some d.toNat
          have h1 : ¬ d < 0 := by omega
          have h2 : d < (zs.length : Int) := d1
          unfold seqIndex?
          simp [h1, h2, d0]
        · show (zs.map V.int)[d.toNat]? = _
          rw [List.getElem?_map, List.getElem?_eq_getElem hdl]
          rfl
        · refine ⟨m, LI ws, _, rfl, rfl, (upd_ne nml).trans w3, small_lt (by rw [List.length_map]; omega), ?_⟩
          have er : (LI zs).eraseIdx d.toNat = LI (zs.eraseIdx d.toNat) := by
            show (zs.map V.int).eraseIdx d.toNat = (zs.eraseIdx d.toNat).map V.int
            exact erase_map V.int zs d.toNat
          rw [er]
          refine ⟨⟨?_, ?_, zs.eraseIdx d.toNat, ws ++ [zs[d.toNat]], (upd_ne fun e => nml e.symm).trans upd_same, ?_, ?_, rfl⟩, ?_⟩
          · exact KpP.mut (KpP.mut ((kp.same s2).trans k3) hl) hm0
          · exact PotAt.put (PotAt.put hp3 nl) nm
          · rw [upd_same]
            show some (HO.lst (ws.map V.int ++ [V.int zs[d.toNat]])) = some (HO.lst ((ws ++ [zs[d.toNat]]).map V.int))
            rw [List.map_append]
            rfl
          · refine List.Perm.trans ?_ pm
            rw [List.append_assoc]
            refine List.Perm.append_left ws ?_
            exact erase_perm' zs _ _ (List.getElem?_eq_getElem hdl)
          · rw [(upd_ne fun e => nml e.symm).trans upd_same, ez]
            show ((zs.eraseIdx d.toNat).map V.int).length < (zs.map V.int).length
            rw [List.length_map, List.length_map, List.length_eraseIdx_of_lt hdl]
            omega
    · rintro σ H' Q1 Q2 hq ⟨v, e1, h1, h2⟩
      exact ⟨v, e1, h1, fun t ht => by
        obtain ⟨dd, ee, q1, q2, q3, q4, b, q5, q6⟩ := h2 t ht
        exact ⟨dd, ee, q1, q2, q3, q4, b, q5, hq _ _ q6⟩⟩
theorem c__law_table : CalD P w K mg base 3 "_law_table" sp_table [] := by
  have c__law_draw := c__law_draw (P := P) (w := w) (base := base) T
  have c__law_shuffled := c__law_shuffled (P := P) (w := w) (base := base) T
  obtain ⟨f, fd, F, hm⟩ := T.d__law_table
  refine CalD.of F hm (F.binds (ps := ["_law_pot_here", "_law_many"]) fun _ _ _ _ _ _ us hl => match us, hl with | [_, _], _ => rfl) (F.ok sc__law_table (fun vs H Q E h => ?_) (fun cdv A outer s H vs Q E hr h => ?_))
  · obtain ⟨p, m, e, _⟩ := h
    rw [e]
    rfl
  · obtain ⟨p, m, rfl, hp, h0, h1, k⟩ := h
    refine ⟨_, (pss_cons (ps_par (i := 2) (j := 3) (by rfl) sc__law_table.nd rfl rfl (by decide) rfl rfl (pa_cons (pe_d c__law_shuffled hr (by decide) rfl (pa_cons (pv 0) (pa_cons (pe_listRg rfl (by rfl) T.g_list (prg_1 (by rfl) T.g_range (pv 1))) pa_nil))) (pa_cons (pe_lst pa_nil) pa_nil)) (by rfl))
      (pss_cons (ps_set (i := 4) sc__law_table.nd rfl (Or.inl rfl) (pe_d c__law_draw hr (by decide) rfl (pa_cons (pv 0) (pa_cons pe_int pa_nil))))
      (pss_cons (ps_for PassesOwn.never rfl (pi_range1 (by rfl) T.g_range (pa_cons (pv 1) pa_nil)) (pg_name (i := 5) sc__law_table.nd rfl (Or.inl rfl)) (pss_one (ps_expr (pe_bm PySem.F.plainAttrs_list PySem.F.slot_list_append PySem.F.type_list_append mt_append (pv 3) (pa_cons (pe_op op_add (pe_op op_sub (pe_ix ix_list (pv 2) (pv 5) (fun _ _ => rfl)) (pv 5)) (pe_op op_mul (pe_op op_mul (pv 1) (pe_op op_sub (pe_d c__law_draw hr (by decide) rfl (pa_cons (pv 0) (pa_cons pe_int pa_nil))) pe_int)) (pv 4))) pa_nil)))))
      (pss_one (ps_ret (pv 3)))))), ?_⟩
    refine ⟨_, rfl, _, rfl, m, rfl, ⟨by omega, by omega, by omega, by omega, by omega⟩, fun l hl => ?_⟩
    rw [rgV_LI]
    generalize hg : upd _ _ _ = H1
    have s1 := newS hg hl
    have e1 := newE hg
    clear hg
    refine ⟨p, l, _, rfl, hp.same s1, e1, by rw [List.length_map, List.length_range]; omega, fun q gs H2 k2 hp2 hq e2 pm => ?_⟩
    have gl : gs.length = m := by rw [pm.length_eq, List.length_map, List.length_range]
    refine ⟨small_len (show 0 ≤ 1000000 by omega), fun t ht => ?_⟩
    have nt := PotAt.ne hp2 ht
    have hq0 : H q = none := s1.free hq
    have ntq : t ≠ q := fun e => by
      rw [e, e2] at ht
      cases ht
    have ht0 : H t = none := by
      cases e : H t with
      | none => rfl
      | some u =>
        have := k2 t u nt (s1 _ _ e)
        rw [ht] at this
        cases this
    have kp2 : KpP p H H2 := (Same.kp s1).trans k2
    have nqp : q ≠ p := PotAt.ne (hp.same s1) hq
    generalize hg : upd _ _ _ = H3
    have s3 := newS hg ht
    have e3 := newE hg
    clear hg
    refine ⟨_, _, rfl, ?_⟩
    refine ⟨_, rfl, p, 2, rfl, hp2.same s3, by omega, by omega, fun near H4 n0 n1 k4 hp4 => ?_⟩
    refine ⟨_, rfl, m, rfl, by omega, by omega, ?_⟩
    have e4 := k4 _ _ nqp (s3 _ _ e2)
    have t4 := k4 _ _ nt e3
    refine for_range (fun i σ H' => KpP p H H' ∧ PotAt H' p ∧ H' q = some (.lst (LI gs)) ∧ ∃ us v, H' t = some (.lst (LI us)) ∧ us.length = i ∧ (∀ j, j < i → ∃ c : Int, -2 ≤ c ∧ c ≤ 2 ∧ us.getD j 0 = gs.getD j 0 - j + m * c) ∧ σ = [some (.ref p), some (.int m), some (.ref q), some (.ref t), some (.int near), v]) ⟨(kp2.same s3).trans k4, hp4, e4, [], none, t4, rfl, fun j hj => (Nat.not_lt_zero _ hj).elim, rfl⟩ ?_ ?_
    · rintro i σ H' hi ⟨kp, hp', eq, us, v, et, hlen, hus, rfl⟩
      have hig : i < gs.length := by omega
      refine ⟨_, rfl, tyl (sq_at et), ?_⟩
      refine ⟨_, rfl, _, rfl, q, _, _, .int gs[i], rfl, rfl, sq_at eq, ?_, _, rfl, _, _, rfl, rfl, ?_⟩
      · rw [Int.zero_add]
        exact atI_LI (List.getElem?_eq_getElem hig)
      refine ⟨_, rfl, _, rfl, p, 5, rfl, hp', by omega, by omega, fun c H5 c0 c1 k5 hp5 => ?_⟩
      have et5 := k5 _ _ nt et
      have eq5 := k5 _ _ nqp eq
      refine ⟨_, _, rfl, rfl, _, _, rfl, rfl, .inl ⟨by omega, by omega⟩, _, rfl, _, _, rfl, rfl, .inr ⟨by omega, by omega⟩, _, _, rfl, rfl, ?_⟩
      refine ⟨t, LI us, _, rfl, rfl, et5, small_lt (by rw [List.length_map]; omega), ?_⟩
      refine ⟨KpP.mut (kp.trans k5) ht0, PotAt.put hp5 nt, (upd_ne fun e => ntq e.symm).trans eq5, us ++ [gs[i] - (0 + (i : Int)) + m * (c - 2) * near], _, ?_, ?_, ?_, rfl⟩
      · rw [upd_same]
        show _ = some (HO.lst ((us ++ [gs[i] - (0 + (i : Int)) + m * (c - 2) * near]).map V.int))
        rw [List.map_append]
        rfl
      · rw [List.length_append, hlen]
        rfl
      · intro j hj
        by_cases hji : j < i
        · obtain ⟨c', h1, h2, h3⟩ := hus j hji
          refine ⟨c', h1, h2, ?_⟩
          rw [← h3, List.getD_eq_getElem?_getD, List.getD_eq_getElem?_getD, List.getElem?_append_left (by omega)]
        · obtain rfl : j = i := by omega
          refine ⟨(c - 2) * near, ?_, ?_, ?_⟩
          · rcases (show near = 0 ∨ near = 1 by omega) with rfl | rfl <;> omega
          · rcases (show near = 0 ∨ near = 1 by omega) with rfl | rfl <;> omega
          · rw [List.getD_eq_getElem?_getD, List.getElem?_append_right (by omega), hlen, Nat.sub_self, List.getD_eq_getElem?_getD, List.getElem?_eq_getElem hig]
            show gs[j] - (0 + (j : Int)) + m * (c - 2) * near = gs[j] - (j : Int) + m * ((c - 2) * near)
            rw [Int.mul_assoc, Int.zero_add]
    · rintro σ H' ⟨kp, hp', eq, us, v, et, hlen, hus, rfl⟩
      refine ⟨_, rfl, k t us H' kp hp' ht0 et ⟨by omega, gs, pm, fun i hi => hus i (by omega)⟩⟩
theorem c__law_pot : CalD P w K mg base 1 "_law_pot" (sp_pot K) [] := by
  obtain ⟨f, fd, F, hm⟩ := T.d__law_pot
  refine CalD.of F hm (F.binds (ps := ["_law_script", "_law_k"]) fun _ _ _ _ _ _ us hl => match us, hl with | [_, _], _ => rfl) (F.ok sc__law_pot (fun vs H Q E h => ?_) (fun cdv A outer s H vs Q E hr h => ?_))
  · obtain ⟨a, ns, i, e, _⟩ := h
    rw [e]
    rfl
  · obtain ⟨a, ns, i, rfl, ha, hl, hi, k⟩ := h
    refine ⟨_, (pss_cons (ps_set (i := 2) sc__law_pot.nd rfl (Or.inl rfl) (pe_op op_add (pe_op op_mul pe_int (pv 1)) pe_int))
      (pss_cons (ps_if (pt_cmpR op_lt (pv 1) (pe_callB call_len (by rfl) T.g_len (by decide +kernel) (pa_cons (pv 0) pa_nil)) (nomark _)) (pss_one (ps_set (i := 2) sc__law_pot.nd rfl (Or.inl rfl) (pe_callB call_abs (by rfl) T.g_abs (by decide +kernel) (pa_cons (pe_ix ix_list (pv 0) (pv 1) (fun _ _ => rfl)) pa_nil)))) pss_nil)
      (pss_one (ps_ret (pe_lst (pa_cons (pe_callB (call_max2 rfl) (by rfl) T.g_max (by decide +kernel) (pa_cons pe_int (pa_cons (pe_op op_sub (pv 2) (pe_op op_pow pe_int pe_int)) pa_nil))) (pa_cons (pe_op op_add (pe_op op_mod (pe_callTy call_int1 (by rfl) T.g_int (by decide +kernel) (pa_cons (pe_op op_add (pe_op op_add (pe_op op_mul (pe_op op_mod (pe_callTy call_int1 (by rfl) T.g_int (by decide +kernel) (pa_cons (pv 2) pa_nil)) pe_int) pe_int) (pe_op op_mul pe_int (pv 1))) pe_int) pa_nil)) pe_int) pe_int) pa_nil))))))), ?_⟩
    refine ⟨_, rfl, _, _, rfl, rfl, .inl ⟨by decide, by decide⟩, _, _, rfl, rfl, ?_⟩
    have hlen : (LI ns).length = ns.length := List.length_map ..
    refine ⟨_, rfl, _, rfl, _, ns.length, rfl, .inl ⟨_, ha, hlen.symm⟩, _, _, rfl, rfl, _, rfl, ?_⟩
    by_cases hk : (i : Int) < (ns.length : Int)
    · rw [decide_eq_true hk]
      refine iteT ?_
      have hik : i < ns.length := by omega
      refine ⟨_, rfl, _, rfl, a, _, _, _, rfl, rfl, ha, atI_LI (List.getElem?_eq_getElem hik), _, rfl, ?_⟩
      refine ⟨_, rfl, _, _, rfl, rfl, ⟨by decide, by decide, by decide⟩, _, _, rfl, rfl, _, _, rfl, ?_⟩
      refine ⟨_, rfl, .inl ⟨_, rfl, _, _, rfl, rfl, (show (0:Int) < 2147483587 by omega), _, _, rfl, rfl, .inr ⟨by decide, by decide⟩, _, rfl, _, _, rfl, rfl, .inl ⟨by decide, by decide⟩, _, _, rfl, rfl, _, _, rfl, rfl, .inl ⟨_, rfl, ?_⟩⟩⟩
      refine ⟨_, _, rfl, rfl, (show (0:Int) < 2147483629 by omega), _, _, rfl, rfl, small_len (show 2 ≤ 1000000 by omega), fun q hq => ?_⟩
      generalize hg : upd _ _ _ = H1
      have s1 := newS hg hq
      have e1 := newE hg
      clear hg
      exact k q H1 s1 hq ⟨_, _, e1, by split <;> omega, by omega, by omega⟩
    · rw [decide_eq_false hk]
      refine iteF ?_
      refine ⟨_, rfl, _, _, rfl, rfl, ⟨by decide, by decide, by decide⟩, _, _, rfl, rfl, _, _, rfl, ?_⟩
      refine ⟨_, rfl, .inl ⟨_, rfl, _, _, rfl, rfl, (show (0:Int) < 2147483587 by omega), _, _, rfl, rfl, .inr ⟨by decide, by decide⟩, _, rfl, _, _, rfl, rfl, .inl ⟨by decide, by decide⟩, _, _, rfl, rfl, _, _, rfl, rfl, .inl ⟨_, rfl, ?_⟩⟩⟩
      refine ⟨_, _, rfl, rfl, (show (0:Int) < 2147483629 by omega), _, _, rfl, rfl, small_len (show 2 ≤ 1000000 by omega), fun q hq => ?_⟩
      generalize hg : upd _ _ _ = H1
      have s1 := newS hg hq
      have e1 := newE hg
      clear hg
      exact k q H1 s1 hq ⟨_, _, e1, by split <;> omega, by omega, by omega⟩
end
end My

end
section
set_option linter.all false
set_option maxRecDepth 100000
set_option maxHeartbeats 1000000
/-! what a stream holds: plain laws -/
namespace My
open PySem PySem.Spec PyProof.Rows L2
/-- a table with its delay -/
structure Gd (vs : List Int) (far : Int) : Prop where
  pos : 0 < vs.length
  ge : ∀ x, x ≤ atT vs x
  le : ∀ x, atT vs x ≤ x + far
  inj : ∀ x y, atT vs x = atT vs y → x = y
  sur : ∀ y, ∃ x, atT vs x = y
def pr (vs : List Int) (i : Nat) : Int × Int := (atT vs (i : Int), (i : Int))
def wt (vs : List Int) (n : Nat) : List Nat := (List.range n).filter fun (i : Nat) => decide ((n : Int) ≤ atT vs (i : Int))
def wtA (vs : List Int) (n : Nat) : List Nat := (List.range (n + 1)).filter fun (i : Nat) => decide ((n : Int) ≤ atT vs (i : Int))
def kvN (vs : List Int) (n : Nat) : List (Int × Int) := (wt vs n).map (pr vs)
def srcN (vs : List Int) (n m : Nat) : Option Nat := (List.range n).find? fun (i : Nat) => decide (atT vs (i : Int) = (m : Int))
def oV : Option Nat → V
  | none => .non
  | some i => .int (i : Nat)
def hit (vs : List Int) (n : Nat) : Nat := if (srcN vs (n + 1) n).isSome then 1 else 0
section
variable {vs : List Int} {far : Int} (g : Gd vs far)
include g
theorem wtA_eq (n : Nat) : wtA vs n = wt vs n ++ [n] := by
  unfold wtA wt
  rw [List.range_succ, List.filter_append]
  congr 1
  have h : decide ((n : Int) ≤ atT vs (n : Int)) = true := decide_eq_true (g.ge n)
  simp [List.filter_cons, h]
theorem wt_succ (n : Nat) : wt vs (n + 1) = (wtA vs n).filter fun (i : Nat) => decide (atT vs (i : Int) ≠ (n : Int)) := by
  unfold wtA wt
  rw [List.filter_filter]
  refine List.filter_congr fun i _ => ?_
  by_cases h1 : (n : Int) ≤ atT vs (i : Int) <;> by_cases h2 : atT vs (i : Int) = (n : Int) <;> simp [h1, h2] <;> omega
theorem step_put (n : Nat) : putK (KV (kvN vs n)) (.inl (atT vs (n : Int))) (.int (n : Nat)) = KV ((wtA vs n).map (pr vs)) := by
  have hn : valV (KV (kvN vs n)) (.inl (atT vs (n : Int))) = none := by
    refine valV_of_none fun p hp e => ?_
    obtain ⟨q, hq, rfl⟩ := List.mem_map.mp hp
    obtain ⟨i, hi, rfl⟩ := List.mem_map.mp hq
    have h1 := List.mem_range.mp (List.mem_filter.mp hi).1
    have := g.inj _ _ (Sum.inl.inj e)
    omega
  rw [putK_new _ hn, wtA_eq g]
  unfold KV kvN
  rw [List.map_append, List.map_append]
  rfl
theorem step_drop (n : Nat) : dropK (KV ((wtA vs n).map (pr vs))) (.inl (n : Int)) = KV (kvN vs (n + 1)) := by
  unfold dropK KV kvN
  rw [List.map_map, List.map_map, List.filter_map, wt_succ g]
  congr 1
  refine List.filter_congr fun i _ => ?_
  show decide ((Sum.inl (atT vs (i : Int)) : Key) ≠ Sum.inl (n : Int)) = decide (atT vs (i : Int) ≠ (n : Int))
  by_cases h : atT vs (i : Int) = (n : Int)
  · rw [decide_eq_false, decide_eq_false]
    · simpa using h
    · intro e
      exact e (congrArg Sum.inl h)
  · rw [decide_eq_true, decide_eq_true]
    · exact h
    · intro e
      exact h (Sum.inl.inj e)
omit g in
theorem val_src (A : List Nat) (n : Nat) : (valV (KV (A.map (pr vs))) (.inl (n : Int))).getD .non = oV (A.find? fun (i : Nat) => decide (atT vs (i : Int) = (n : Int))) := by
  induction A with
  | nil => rfl
  | cons i A ih =>
    by_cases h : atT vs (i : Int) = (n : Int)
    · rw [List.find?_cons, decide_eq_true h]
      have : valV (KV ((i :: A).map (pr vs))) (.inl (n : Int)) = some (.int (i : Nat)) := valV_pos (congrArg Sum.inl h)
      rw [this]
      rfl
    · rw [List.find?_cons, decide_eq_false h]
      show _ = oV (A.find? _)
      rw [← ih]
      have : valV (KV ((i :: A).map (pr vs))) (.inl (n : Int)) = valV (KV (A.map (pr vs))) (.inl (n : Int)) := valV_neg fun e => h (Sum.inl.inj e)
      rw [this]
theorem step_val (n : Nat) : (valV (KV ((wtA vs n).map (pr vs))) (.inl (n : Int))).getD .non = oV (srcN vs (n + 1) n) := by
  rw [val_src]
  unfold wtA srcN
  rw [List.find?_filter]
  congr 2
  funext i
  by_cases h2 : atT vs (i : Int) = (n : Int)
  · have : (n : Int) ≤ atT vs (i : Int) := by omega
    simp [h2]
  · simp [h2]
theorem filt_one (p : Nat → Bool) : ∀ A : List Nat, A.Nodup → (∀ i ∈ A, ∀ j ∈ A, p i = true → p j = true → i = j) → (A.filter fun i => !p i).length + (if (A.find? p).isSome then 1 else 0) = A.length
  | [], _, _ => rfl
  | i :: A, hn, hu => by
    have hn' := List.nodup_cons.mp hn
    have ih := filt_one p A hn'.2 fun a ha b hb => hu a (List.mem_cons_of_mem _ ha) b (List.mem_cons_of_mem _ hb)
    by_cases h : p i = true
    · have hA : A.filter (fun i => !p i) = A := List.filter_eq_self.mpr fun j hj => by
        cases e : p j with
        | false => rfl
        | true => exact absurd (hu i List.mem_cons_self j (List.mem_cons_of_mem _ hj) h e) fun e2 => hn'.1 (e2 ▸ hj)
      rw [List.find?_cons_of_pos h, List.filter_cons_of_neg (by simp [h]), hA]
      rfl
    · have hf : p i = false := by simpa using h
      rw [List.find?_cons_of_neg h, List.filter_cons_of_pos (by simp [hf]), List.length_cons, List.length_cons]
      omega
theorem wt_len (n : Nat) : (wt vs (n + 1)).length + hit vs n = (wt vs n).length + 1 := by
  have nd : (wtA vs n).Nodup := List.Pairwise.filter _ List.nodup_range
  have h := filt_one g (fun (i : Nat) => decide (atT vs (i : Int) = (n : Int))) (wtA vs n) nd fun i _ j _ hi hj => by
    have h1 := of_decide_eq_true hi
    have h2 := of_decide_eq_true hj
    have := g.inj _ _ (h1.trans h2.symm)
    omega
  have e : (wtA vs n).find? (fun (i : Nat) => decide (atT vs (i : Int) = (n : Int))) = srcN vs (n + 1) n := by
    unfold wtA srcN
    rw [List.find?_filter]
    congr 1
    funext i
    by_cases h2 : atT vs (i : Int) = (n : Int)
    · simp [h2]
    · simp [h2]
  rw [e] at h
  rw [wt_succ g]
  have el : (wtA vs n).length = (wt vs n).length + 1 := by
    rw [wtA_eq g, List.length_append]
    rfl
  rw [el] at h
  unfold hit
  rw [← h]
  congr 2
  refine List.filter_congr fun i _ => ?_
  simp
theorem wt_le (n : Nat) : (wt vs n).length ≤ n := by
  unfold wt
  exact Nat.le_trans (List.length_filter_le ..) (by rw [List.length_range]; omega)
theorem far0 : 0 ≤ far := by
  have h1 := g.ge 0
  have h2 := g.le 0
  omega
theorem src_far {N m : Nat} (h : far ≤ (m : Int)) (hN : m < N) : ∃ i, srcN vs N m = some i := by
  obtain ⟨x, hx⟩ := g.sur (m : Int)
  have h1 := g.ge x
  have h2 := g.le x
  have hx0 : 0 ≤ x := by omega
  have hx1 : x.toNat < N := by omega
  have : ((List.range N).find? fun (i : Nat) => decide (atT vs (i : Int) = (m : Int))).isSome = true := by
    rw [List.find?_isSome]
    refine ⟨x.toNat, List.mem_range.mpr hx1, ?_⟩
    rw [show ((x.toNat : Nat) : Int) = x by omega]
    exact decide_eq_true hx
  exact Option.isSome_iff_exists.mp this
theorem hit_far {n : Nat} (h : far ≤ (n : Int)) : hit vs n = 1 := by
  obtain ⟨i, e⟩ := src_far g h (Nat.lt_succ_self n)
  unfold hit
  rw [e]
  rfl
theorem hit_le (n : Nat) : hit vs n ≤ 1 := by
  unfold hit
  split <;> omega
theorem wt_const {n : Nat} (h : far ≤ (n : Int)) : ∀ k, (wt vs (n + k)).length = (wt vs n).length
  | 0 => rfl
  | k + 1 => by
    have h1 := wt_len g (n + k)
    rw [hit_far g (by omega), wt_const h k] at h1
    rw [← Nat.add_assoc]
    omega
theorem wt_mono (n : Nat) : ∀ k, (wt vs n).length ≤ (wt vs (n + k)).length
  | 0 => Nat.le_refl _
  | k + 1 => by
    have h1 := wt_len g (n + k)
    have h2 := hit_le g (n + k)
    have h3 := wt_mono n k
    rw [← Nat.add_assoc]
    omega
/-- the time that is left to all that wait -/
def pot (vs : List Int) (n : Nat) : Int := ((wt vs n).map fun (i : Nat) => atT vs (i : Int) - (n : Int)).sum
omit g in
theorem sum_filt (f : Nat → Int) (p : Nat → Bool) : ∀ A : List Nat, (∀ i ∈ A, p i = false → f i = 0) → ((A.filter p).map f).sum = (A.map f).sum
  | [], _ => rfl
  | i :: A, h => by
    have ih := sum_filt f p A fun j hj => h j (List.mem_cons_of_mem _ hj)
    cases e : p i with
    | true => rw [List.filter_cons_of_pos e, List.map_cons, List.map_cons, List.sum_cons, List.sum_cons, ih]
    | false => rw [List.filter_cons_of_neg (by simp [e]), List.map_cons, List.sum_cons, ih, h i List.mem_cons_self e, Int.zero_add]
omit g in
theorem sum_dec (f : Nat → Int) : ∀ A : List Nat, (A.map fun i => f i - 1).sum = (A.map f).sum - (A.length : Int)
  | [] => rfl
  | i :: A => by
    rw [List.map_cons, List.map_cons, List.sum_cons, List.sum_cons, sum_dec f A, List.length_cons]
    omega
theorem pot_succ (n : Nat) : pot vs (n + 1) + ((wt vs (n + 1)).length : Int) = pot vs n + (atT vs (n : Int) - (n : Int)) := by
  have e1 : pot vs (n + 1) = ((wt vs (n + 1)).map fun (i : Nat) => (atT vs (i : Int) - (n : Int)) - 1).sum := by
    unfold pot
    congr 1
    refine List.map_congr_left fun i _ => ?_
    omega
  rw [e1, sum_dec (fun (i : Nat) => atT vs (i : Int) - (n : Int))]
  have e2 : ((wt vs (n + 1)).map fun (i : Nat) => atT vs (i : Int) - (n : Int)).sum = ((wtA vs n).map fun (i : Nat) => atT vs (i : Int) - (n : Int)).sum := by
    rw [wt_succ g]
    refine sum_filt _ _ _ fun i _ h => ?_
    have : atT vs (i : Int) = (n : Int) := by simpa using h
    omega
  rw [e2, wtA_eq g, List.map_append, List.sum_append]
  unfold pot
  simp
theorem pot_bnd (n : Nat) : 0 ≤ pot vs n ∧ pot vs n ≤ ((wt vs n).length : Int) * far := by
  have h : ∀ A : List Nat, (∀ i ∈ A, 0 ≤ atT vs (i : Int) - (n : Int) ∧ atT vs (i : Int) - (n : Int) ≤ far) → 0 ≤ (A.map fun (i : Nat) => atT vs (i : Int) - (n : Int)).sum ∧ (A.map fun (i : Nat) => atT vs (i : Int) - (n : Int)).sum ≤ (A.length : Int) * far := by
    intro A
    induction A with
    | nil => intro _; simp
    | cons i A ih =>
      intro h
      obtain ⟨h1, h2⟩ := ih fun j hj => h j (List.mem_cons_of_mem _ hj)
      obtain ⟨h3, h4⟩ := h i List.mem_cons_self
      rw [List.map_cons, List.sum_cons, List.length_cons]
      have : ((A.length + 1 : Nat) : Int) * far = (A.length : Int) * far + far := by
        rw [Int.natCast_add, Int.add_mul]
        simp
      omega
  refine h _ fun i hi => ?_
  have h1 := List.mem_range.mp (List.mem_filter.mp hi).1
  have h2 := of_decide_eq_true (List.mem_filter.mp hi).2
  have h3 := g.le (i : Int)
  omega
end
end My

end
section
set_option linter.all false
set_option maxRecDepth 100000
set_option maxHeartbeats 1000000
/-! what a stream holds, what it hands out: plain laws -/
namespace My
open PySem PySem.Spec PyProof.Rows L2
section
variable {vs : List Int} {far : Int} (g : Gd vs far)
include g
theorem pot_block {t : Nat} (ht : far ≤ ((vs.length * t : Nat) : Int)) : ∀ j, j ≤ vs.length → pot vs (vs.length * t + j) = pot vs (vs.length * t) + (vs.take j).sum - (j : Int) * ((wt vs (vs.length * t)).length : Int)
  | 0, _ => by simp
  | j + 1, hj => by
    have h1 := pot_succ g (vs.length * t + j)
    have h2 := pot_block ht j (by omega)
    have h3 := wt_const g ht (j + 1)
    have e : atT vs ((vs.length * t + j : Nat) : Int) = ((vs.length * t + j : Nat) : Int) + vs.getD j 0 := by
      unfold atT
      congr 2
      rw [← Int.natCast_emod, Int.toNat_natCast, Nat.mul_add_mod, Nat.mod_eq_of_lt (by omega)]
    have e2 : vs.take (j + 1) = vs.take j ++ [vs.getD j 0] := by
      rw [List.take_succ, List.getD_eq_getElem?_getD, List.getElem?_eq_getElem (by omega)]
      rfl
    rw [e2, List.sum_append, ← Nat.add_assoc]
    rw [← Nat.add_assoc] at h3
    rw [h3] at h1
    rw [e] at h1
    have e3 : ((j + 1 : Nat) : Int) * ((wt vs (vs.length * t)).length : Int) = (j : Int) * ((wt vs (vs.length * t)).length : Int) + ((wt vs (vs.length * t)).length : Int) := by
      rw [Int.natCast_add, Int.add_mul]
      simp
    rw [e3]
    simp only [List.sum_cons, List.sum_nil]
    omega
theorem pot_blocks {t : Nat} (ht : far ≤ ((vs.length * t : Nat) : Int)) : ∀ s : Nat, pot vs (vs.length * (t + s)) = pot vs (vs.length * t) + (s : Int) * (vs.sum - (vs.length : Int) * ((wt vs (vs.length * t)).length : Int))
  | 0 => by simp
  | s + 1 => by
    have h1 := pot_blocks ht s
    have ht2 : far ≤ ((vs.length * (t + s) : Nat) : Int) := by
      rw [Nat.mul_add]
      omega
    have h2 := pot_block g ht2 vs.length (Nat.le_refl _)
    rw [List.take_length] at h2
    have h3 : (wt vs (vs.length * (t + s))).length = (wt vs (vs.length * t)).length := by
      rw [Nat.mul_add]
      exact wt_const g ht _
    rw [h3] at h2
    have e : vs.length * (t + (s + 1)) = vs.length * (t + s) + vs.length := by rw [← Nat.add_assoc, Nat.mul_add _ (t + s) 1, Nat.mul_one]
    rw [e, h2, h1]
    have e3 : ((s + 1 : Nat) : Int) * (vs.sum - (vs.length : Int) * ((wt vs (vs.length * t)).length : Int)) = (s : Int) * (vs.sum - (vs.length : Int) * ((wt vs (vs.length * t)).length : Int)) + (vs.sum - (vs.length : Int) * ((wt vs (vs.length * t)).length : Int)) := by
      rw [Int.natCast_add, Int.add_mul]
      simp
    rw [e3]
    omega
theorem far_mul : far ≤ ((vs.length * far.toNat : Nat) : Int) := by
  have h := far0 g
  have : far.toNat ≤ vs.length * far.toNat := Nat.le_mul_of_pos_left _ g.pos
  omega
theorem flow_is : vs.sum = (vs.length : Int) * ((wt vs (vs.length * far.toNat)).length : Int) := by
  have hf := far_mul g
  have hb := pot_bnd g (vs.length * far.toNat)
  generalize hB : ((wt vs (vs.length * far.toNat)).length : Int) * far = B at hb
  have key : ∀ s : Nat, 0 ≤ pot vs (vs.length * far.toNat) + (s : Int) * (vs.sum - (vs.length : Int) * ((wt vs (vs.length * far.toNat)).length : Int)) ∧ pot vs (vs.length * far.toNat) + (s : Int) * (vs.sum - (vs.length : Int) * ((wt vs (vs.length * far.toNat)).length : Int)) ≤ B := fun s => by
    rw [← pot_blocks g hf s]
    have h := pot_bnd g (vs.length * (far.toNat + s))
    have h3 : (wt vs (vs.length * (far.toNat + s))).length = (wt vs (vs.length * far.toNat)).length := by
      rw [Nat.mul_add]
      exact wt_const g hf _
    rw [h3, hB] at h
    exact h
  generalize hd : vs.sum - (vs.length : Int) * ((wt vs (vs.length * far.toNat)).length : Int) = d at key
  have k0 := key 0
  have k1 := key (B + 1).toNat
  generalize pot vs (vs.length * far.toNat) = p at *
  have hB0 : 0 ≤ B := by omega
  have hs : (((B + 1).toNat : Nat) : Int) = B + 1 := by omega
  rw [hs] at k1
  have : d = 0 := by
    rcases Int.lt_trichotomy d 0 with h | h | h
    · have : (B + 1) * d ≤ (B + 1) * (-1) := Int.mul_le_mul_of_nonneg_left (by omega) (by omega)
      omega
    · exact h
    · have : (B + 1) * 1 ≤ (B + 1) * d := Int.mul_le_mul_of_nonneg_left (by omega) (by omega)
      omega
  omega
theorem wt_flow {n : Nat} (h : far ≤ (n : Int)) : ((wt vs n).length : Int) = vs.sum / (vs.length : Int) := by
  have h1 := flow_is g
  have hp := g.pos
  rw [h1, Int.mul_ediv_cancel_left _ (by omega)]
  by_cases hle : n ≤ vs.length * far.toNat
  · have := wt_const g h (vs.length * far.toNat - n)
    rw [show n + (vs.length * far.toNat - n) = vs.length * far.toNat by omega] at this
    omega
  · have := wt_const g (far_mul g) (n - vs.length * far.toNat)
    rw [show vs.length * far.toNat + (n - vs.length * far.toNat) = n by omega] at this
    omega
theorem wt_most (n : Nat) : ((wt vs n).length : Int) ≤ vs.sum / (vs.length : Int) := by
  have h := wt_mono g n far.toNat
  have h0 := far0 g
  rw [← wt_flow g (n := n + far.toNat) (by omega)]
  omega
theorem src_iff {n m i : Nat} : srcN vs n m = some i ↔ i < n ∧ atT vs (i : Int) = (m : Int) := by
  constructor
  · intro h
    exact ⟨List.mem_range.mp (List.mem_of_find?_eq_some h), of_decide_eq_true (List.find?_some (p := fun (i : Nat) => decide (atT vs (i : Int) = (m : Int))) h)⟩
  · rintro ⟨h1, h2⟩
    have : ((List.range n).find? fun (i : Nat) => decide (atT vs (i : Int) = (m : Int))).isSome = true := List.find?_isSome.mpr ⟨i, List.mem_range.mpr h1, decide_eq_true h2⟩
    obtain ⟨j, hj⟩ := Option.isSome_iff_exists.mp this
    have h3 := of_decide_eq_true (List.find?_some (p := fun (i : Nat) => decide (atT vs (i : Int) = (m : Int))) hj)
    have h4 := g.inj _ _ (h3.trans h2.symm)
    have : j = i := by omega
    rw [← this]
    exact hj
theorem src_ext {n n' m : Nat} (h : ∀ i : Nat, atT vs (i : Int) = (m : Int) → (i < n ↔ i < n')) : srcN vs n m = srcN vs n' m := by
  refine Option.ext fun i => ?_
  rw [src_iff g, src_iff g]
  constructor
  · rintro ⟨h1, h2⟩
    exact ⟨(h i h2).mp h1, h2⟩
  · rintro ⟨h1, h2⟩
    exact ⟨(h i h2).mpr h1, h2⟩
theorem src_low {N m : Nat} (h : m < N) : srcN vs (m + 1) m = srcN vs N m := src_ext g fun i hi => by
  have := g.ge (i : Int)
  omega
theorem val_rest {N m : Nat} (h : N ≤ m) : (valV (KV (kvN vs N)) (.inl (m : Int))).getD .non = oV (srcN vs N m) := by
  unfold kvN
  rw [val_src]
  congr 1
  unfold wt srcN
  rw [List.find?_filter]
  congr 1
  funext i
  by_cases h2 : atT vs (i : Int) = (m : Int)
  · have : (N : Int) ≤ atT vs (i : Int) := by omega
    simp [h2, h]
  · simp [h2]
/-- all that the stream hands out -/
def outN (vs : List Int) (N L : Nat) : List (Option Nat) := (List.range L).map fun m => srcN vs N m
theorem out_cat {N : Nat} {last : Int} (h : (N : Int) - 1 ≤ last) :
    ((List.range N).map fun (m : Nat) => oV (srcN vs (m + 1) m)) ++ ((List.range (last + 1 - (N : Int)).toNat).map fun (i : Nat) => (valV (KV (kvN vs N)) (.inl ((N : Int) + (i : Int)))).getD .non) = (outN vs N (last + 1).toNat).map oV := by
  unfold outN
  rw [List.map_map]
  have e : (last + 1).toNat = N + (last + 1 - (N : Int)).toNat := by omega
  rw [e, List.range_add, List.map_append, List.map_map]
  congr 1
  · refine List.map_congr_left fun m hm => ?_
    rw [src_low g (List.mem_range.mp hm)]
    rfl
  · refine List.map_congr_left fun i _ => ?_
    have := val_rest g (N := N) (m := N + i) (by omega)
    rw [show ((N + i : Nat) : Int) = (N : Int) + (i : Int) by omega] at this
    rw [this]
    rfl
theorem kv_key {N : Nat} {y : Int} : y ∈ (kvN vs N).map (·.1) ↔ ∃ i : Nat, i < N ∧ atT vs (i : Int) = y ∧ (N : Int) ≤ y := by
  unfold kvN wt
  rw [List.map_map, List.mem_map]
  constructor
  · rintro ⟨i, hi, rfl⟩
    obtain ⟨h1, h2⟩ := List.mem_filter.mp hi
    exact ⟨i, List.mem_range.mp h1, rfl, of_decide_eq_true h2⟩
  · rintro ⟨i, h1, rfl, h2⟩
    exact ⟨i, List.mem_filter.mpr ⟨List.mem_range.mpr h1, decide_eq_true h2⟩, rfl⟩
theorem kv_nodup (N : Nat) : ((kvN vs N).map (·.1)).Nodup := by
  unfold kvN wt
  rw [List.map_map]
  refine List.pairwise_map.mpr ?_
  refine List.Pairwise.imp (R := fun a b => a ≠ b) (fun {a b} (h : a ≠ b) => ?_) (List.Pairwise.filter _ List.nodup_range)
  intro e
  have e2 : atT vs (a : Int) = atT vs (b : Int) := e
  have := g.inj _ _ e2
  omega
theorem out_perm {N : Nat} {last : Int} (h : (N : Int) - 1 ≤ last) (hb : ∀ y ∈ (kvN vs N).map (·.1), y ≤ last) : ((outN vs N (last + 1).toNat).filterMap id).Perm (List.range N) := by
  refine (List.perm_ext_iff_of_nodup ?_ List.nodup_range).mpr fun i => ?_
  · unfold outN
    rw [List.filterMap_map]
    refine List.Pairwise.filterMap _ (R := fun a b => a ≠ b) (S := fun a b => a ≠ b) (fun a a' n b hb b' hb' => ?_) List.nodup_range
    intro e
    have h1 := (src_iff g).mp hb
    have h2 := (src_iff g).mp hb'
    subst e
    omega
  · rw [List.mem_filterMap, List.mem_range]
    constructor
    · rintro ⟨o, ho, e⟩
      unfold outN at ho
      obtain ⟨m, hm, rfl⟩ := List.mem_map.mp ho
      exact ((src_iff g).mp e).1
    · intro hi
      have h0 := g.ge (i : Int)
      refine ⟨some i, ?_, rfl⟩
      unfold outN
      refine List.mem_map.mpr ⟨(atT vs (i : Int)).toNat, List.mem_range.mpr ?_, (src_iff g).mpr ⟨hi, by omega⟩⟩
      by_cases hk : (N : Int) ≤ atT vs (i : Int)
      · have := hb _ ((kv_key g).mpr ⟨i, hi, rfl, hk⟩)
        omega
      · omega
theorem out_last {N : Nat} {last : Int} (hf : far ≤ (N : Int)) (h1 : last ∈ ((N : Int) - 1) :: (kvN vs N).map (·.1)) (h2 : ∀ y ∈ ((N : Int) - 1) :: (kvN vs N).map (·.1), y ≤ last) (hm : 0 < vs.sum / (vs.length : Int)) : ∃ i, srcN vs N last.toNat = some i ∧ (last.toNat : Int) = last := by
  rw [← wt_flow g hf] at hm
  have : 0 < (kvN vs N).length := by
    unfold kvN
    rw [List.length_map]
    omega
  obtain ⟨p, hp⟩ := List.exists_mem_of_length_pos this
  have hk : p.1 ∈ (kvN vs N).map (·.1) := List.mem_map.mpr ⟨p, hp, rfl⟩
  have h3 := h2 _ (List.mem_cons_of_mem _ hk)
  obtain ⟨_, _, _, h4⟩ := (kv_key g).mp hk
  rcases List.mem_cons.mp h1 with e | e
  · omega
  · obtain ⟨i, hi, e2, h5⟩ := (kv_key g).mp e
    have : (last.toNat : Int) = last := by omega
    exact ⟨i, (src_iff g).mpr ⟨hi, by omega⟩, this⟩
theorem last_far {N : Nat} {last : Int} (h1 : last ∈ ((N : Int) - 1) :: (kvN vs N).map (·.1)) : last ≤ (N : Int) - 1 + far := by
  have := far0 g
  rcases List.mem_cons.mp h1 with e | e
  · omega
  · obtain ⟨i, hi, e2, h5⟩ := (kv_key g).mp e
    have := g.le (i : Int)
    omega
end
end My

end
section
set_option linter.all false
set_option maxRecDepth 100000
set_option maxHeartbeats 1000000
/-! tables made of permutations -/
namespace My
theorem map_getD {gs : List Int} {j : Nat} (h : j < gs.length) : gs.getD j 0 = gs[j] := by
  rw [List.getD_eq_getElem?_getD, List.getElem?_eq_getElem h]
  rfl
theorem ofNat_nodup (m : Nat) : ((List.range m).map Int.ofNat).Nodup :=
  List.pairwise_map.mpr (List.Pairwise.imp (R := fun a b => a ≠ b) (fun {a b} (h : a ≠ b) e => h (Int.ofNat.inj e)) List.nodup_range)
section
variable {m : Nat} {us gs : List Int} (hm : 0 < m) (hl : us.length = m) (pm : gs.Perm ((List.range m).map Int.ofNat)) (hc : ∀ i, i < m → ∃ c : Int, -2 ≤ c ∧ c ≤ 2 ∧ us.getD i 0 = gs.getD i 0 - i + m * c)
include pm
theorem gs_len : gs.length = m := by rw [pm.length_eq, List.length_map, List.length_range]
theorem gs_bnd {j : Nat} (h : j < m) : 0 ≤ gs.getD j 0 ∧ gs.getD j 0 < (m : Int) := by
  have hj : j < gs.length := by rw [gs_len pm]; exact h
  rw [map_getD hj]
  have := pm.mem_iff.mp (List.getElem_mem hj)
  obtain ⟨i, hi, e⟩ := List.mem_map.mp this
  have := List.mem_range.mp hi
  rw [← e]
  show 0 ≤ (i : Int) ∧ (i : Int) < m
  omega
theorem gs_inj {i j : Nat} (hi : i < m) (hj : j < m) (e : gs.getD i 0 = gs.getD j 0) : i = j := by
  have hi' : i < gs.length := by rw [gs_len pm]; exact hi
  have hj' : j < gs.length := by rw [gs_len pm]; exact hj
  rw [map_getD hi', map_getD hj'] at e
  exact (List.getElem_inj (h₀ := hi') (h₁ := hj') (pm.nodup_iff.mpr (ofNat_nodup m))).mp e
theorem gs_sur {r : Int} (h0 : 0 ≤ r) (h1 : r < m) : ∃ j, j < m ∧ gs.getD j 0 = r := by
  have : r ∈ gs := pm.mem_iff.mpr (List.mem_map.mpr ⟨r.toNat, List.mem_range.mpr (by omega), by show ((r.toNat : Nat) : Int) = r; omega⟩)
  obtain ⟨j, hj, e⟩ := List.getElem_of_mem this
  exact ⟨j, by rw [← gs_len pm]; exact hj, by rw [map_getD hj]; exact e⟩
include hm hl hc
theorem tab_mod (x : Int) : ∃ q, atT us x = m * q + gs.getD (x % (m : Int)).toNat 0 := by
  have m0 : 0 ≤ x % (m : Int) := Int.emod_nonneg _ (by omega)
  have m1 : x % (m : Int) < m := Int.emod_lt_of_pos _ (by omega)
  obtain ⟨c, _, _, e⟩ := hc (x % (m : Int)).toNat (by omega)
  refine ⟨x / m + c, ?_⟩
  unfold atT
  rw [hl, e, Int.mul_add]
  have := Int.mul_ediv_add_emod x m
  omega
theorem tab_inj (x y : Int) (e : atT us x = atT us y) : x = y := by
  obtain ⟨q, hq⟩ := tab_mod hm hl pm hc x
  obtain ⟨q', hq'⟩ := tab_mod hm hl pm hc y
  have hx0 : 0 ≤ x % (m : Int) := Int.emod_nonneg _ (by omega)
  have hx1 : x % (m : Int) < m := Int.emod_lt_of_pos _ (by omega)
  have hy0 : 0 ≤ y % (m : Int) := Int.emod_nonneg _ (by omega)
  have hy1 : y % (m : Int) < m := Int.emod_lt_of_pos _ (by omega)
  have b1 := gs_bnd pm (j := (x % (m : Int)).toNat) (by omega)
  have b2 := gs_bnd pm (j := (y % (m : Int)).toNat) (by omega)
  have e2 : gs.getD (x % (m : Int)).toNat 0 = gs.getD (y % (m : Int)).toNat 0 := by
    have h : ∀ (q g : Int), 0 ≤ g → g < m → ((m : Int) * q + g) % m = g := fun q g h0 h1 => by
      rw [Int.add_comm, Int.add_mul_emod_self_left, Int.emod_eq_of_lt h0 h1]
    rw [← h q _ b1.1 b1.2, ← h q' _ b2.1 b2.2, ← hq, ← hq', e]
  have e3 := gs_inj pm (by omega) (by omega) e2
  unfold atT at e
  rw [hl, e3] at e
  omega
theorem tab_sur (y : Int) : ∃ x, atT us x = y := by
  have hy0 : 0 ≤ y % (m : Int) := Int.emod_nonneg _ (by omega)
  have hy1 : y % (m : Int) < m := Int.emod_lt_of_pos _ (by omega)
  obtain ⟨j, hj, e⟩ := gs_sur pm hy0 hy1
  obtain ⟨c, _, _, ec⟩ := hc j hj
  refine ⟨(j : Int) + us.length * (y / m - c), ?_⟩
  rw [atT_shift, atT_nat us (by omega), ec, e, hl, Int.mul_sub]
  have := Int.mul_ediv_add_emod y m
  omega
end
theorem TabOf.vt {m : Nat} {us : List Int} (h : TabOf m us) (hm : 0 < m) (hm2 : m ≤ 1000) : VT us := by
  obtain ⟨gs, pm, hc⟩ := h.ex
  exact ⟨by rw [h.len]; exact hm, by rw [h.len]; omega, tab_inj hm h.len pm hc⟩
theorem at_mem {us : List Int} (h : 0 < us.length) (x : Int) : ∃ o ∈ us, atT us x = x + o := by
  have m0 : 0 ≤ x % (us.length : Int) := Int.emod_nonneg _ (by omega)
  have m1 : x % (us.length : Int) < us.length := Int.emod_lt_of_pos _ (by omega)
  have hi : (x % (us.length : Int)).toNat < us.length := by omega
  refine ⟨us[(x % (us.length : Int)).toNat], List.getElem_mem hi, ?_⟩
  unfold atT
  rw [map_getD hi]
/-- with its delay -/
theorem TabOf.gd {m : Nat} {us : List Int} {mx : Int} (h : TabOf m us) (hm : 0 < m) (hx : ∀ o ∈ us, o ≤ mx) : Gd (us.map (· + lateT us)) (mx + lateT us) := by
  obtain ⟨gs, pm, hc⟩ := h.ex
  have hp : 0 < us.length := by rw [h.len]; exact hm
  have e := fun x => atT_map us (lateT us) hp x
  refine ⟨by rw [List.length_map]; exact hp, fun x => ?_, fun x => ?_, fun x y he => ?_, fun y => ?_⟩
  · rw [e]
    obtain ⟨o, ho, eo⟩ := at_mem hp x
    have := late_ge ho
    omega
  · rw [e]
    obtain ⟨o, ho, eo⟩ := at_mem hp x
    have := hx o ho
    omega
  · rw [e, e] at he
    exact tab_inj hm h.len pm hc x y (by omega)
  · obtain ⟨x, hx⟩ := tab_sur hm h.len pm hc (y - lateT us)
    exact ⟨x, by rw [e, hx]; omega⟩
theorem sum_add (d : Int) : ∀ us : List Int, (us.map (· + d)).sum = us.sum + us.length * d
  | [] => by simp
  | u :: us => by
    rw [List.map_cons, List.sum_cons, sum_add d us, List.sum_cons, List.length_cons]
    have : ((us.length + 1 : Nat) : Int) * d = us.length * d + d := by
      rw [Int.natCast_add, Int.add_mul]
      simp
    rw [this]
    omega
theorem flow_add {us : List Int} (h : 0 < us.length) (d : Int) : (us.map (· + d)).sum / ((us.map (· + d)).length : Int) = us.sum / (us.length : Int) + d := by
  rw [sum_add, List.length_map, Int.add_mul_ediv_left _ _ (by omega)]
/-- its offsets are small -/
theorem TabOf.small {m : Nat} {us : List Int} (h : TabOf m us) (hm : 0 < m) {o : Int} (ho : o ∈ us) : -(3 * (m : Int)) ≤ o ∧ o ≤ 3 * (m : Int) := by
  obtain ⟨gs, pm, hc⟩ := h.ex
  obtain ⟨j, hj, e⟩ := List.getElem_of_mem ho
  have hj2 : j < m := by rw [← h.len]; exact hj
  obtain ⟨c, c1, c2, ec⟩ := hc j hj2
  rw [map_getD hj, e] at ec
  have b := gs_bnd pm hj2
  have h1 : (m : Int) * c ≤ m * 2 := Int.mul_le_mul_of_nonneg_left c2 (by omega)
  have h2 : (m : Int) * (-2) ≤ m * c := Int.mul_le_mul_of_nonneg_left c1 (by omega)
  omega
theorem late_small {us : List Int} {b : Int} (hb : 0 ≤ b) (h : ∀ o ∈ us, -b ≤ o) : lateT us ≤ b := by
  rcases (late_fold us 0).2.2 with e | ⟨o, ho, e⟩
  · unfold lateT
    omega
  · have := h o ho
    unfold lateT
    omega
end My

end
section
set_option linter.all false
set_option maxRecDepth 100000
set_option maxHeartbeats 1000000
namespace My
open PySem PySem.Spec PyProof.Rows L2 StX ClX
def outF (ws : List Int) (n : Nat) : List V := (List.range n).map fun (m : Nat) => oV (srcN ws (m + 1) m)
theorem outF_succ (ws : List Int) (n : Nat) : outF ws (n + 1) = outF ws n ++ [oV (srcN ws (n + 1) n)] := by
  unfold outF
  rw [List.range_succ, List.map_append]
  rfl
theorem outF_len (ws : List Int) (n : Nat) : (outF ws n).length = n := by
  unfold outF
  rw [List.length_map, List.length_range]
theorem at_last {α : Type} (xs : List α) (y : α) : atI (xs ++ [y]) (-1) = some y := by
  unfold atI ixN
  rw [if_neg (by omega), if_pos (by rw [List.length_append]; show -((xs.length + 1 : Nat) : Int) ≤ -1; omega)]
  show (xs ++ [y])[(-1 + ((xs ++ [y]).length : Int)).toNat]? = some y
  have : (-1 + ((xs ++ [y]).length : Int)).toNat = xs.length := by
    rw [List.length_append]
    show (-1 + ((xs.length + 1 : Nat) : Int)).toNat = xs.length
    omega
  rw [this, List.getElem?_append_right (Nat.le_refl _), Nat.sub_self]
  rfl
theorem kvN_len (ws : List Int) (n : Nat) : (KV (kvN ws n)).length = (wt ws n).length := by
  unfold KV kvN
  rw [List.length_map, List.length_map]
def sp_watched (cS cP : Addr) : Sp := fun vs H Q _ => ∃ (x D dx pl : Addr) (ws : List Int) (far : Int) (N : Nat), vs = [.ref x, .int (ws.sum / (ws.length : Int)), .int far, .int (N : Nat)] ∧ StreamAt cS cP H x D dx pl ws 0 [] ∧ Gd ws far ∧ N ≤ 1000 ∧
  ∀ q H', Kp x D H H' → StreamAt cS cP H' x D dx pl ws (N : Nat) (KV (kvN ws N)) → H q = none → H' q = some (.lst (outF ws N)) → Q (.ref q) H'
section
variable {P : Program} {w : World} {K : PySem.W.Frag} {mg : Str → Option Value} {base : Heap} {cM cP cS : Addr} (T : Txt K mg cM cP cS)
include T
theorem c__law_watched : CalD P w K mg base 5 "_law_watched" (sp_watched cS cP) [] := by
  have p_Stream_waiting := p_Stream_waiting (P := P) (w := w) (base := base) T
  obtain ⟨fP, fdP, FP, meP, kbP⟩ := mk_push (P := P) (w := w) (base := base) T
  obtain ⟨f, fd, F, hm⟩ := T.d__law_watched
  refine CalD.of F hm (F.binds (ps := ["_law_stream", "_law_most", "_law_far", "_law_many"]) fun _ _ _ _ _ _ us hl => match us, hl with | [_, _, _, _], _ => rfl) (F.ok sc__law_watched (fun vs H Q E h => ?_) (fun cdv A outer s H vs Q E hr h => ?_))
  · obtain ⟨x, D, dx, pl, ws, far, N, e, _⟩ := h
    rw [e]
    rfl
  · obtain ⟨x, D, dx, pl, ws, far, N, rfl, hs, g, hN, k⟩ := h
    refine ⟨_, (pss_cons (ps_par (i := 4) (j := 5) (by rfl) sc__law_watched.nd rfl rfl (by decide) rfl rfl (pa_cons (pe_lst pa_nil) (pa_cons pe_int pa_nil)) (by rfl))
      (pss_cons (ps_for PassesOwn.never rfl (pi_range1 (by rfl) T.g_range (pa_cons (pv 3) pa_nil)) (pg_name (i := 6) sc__law_watched.nd rfl (Or.inl rfl)) (pss_cons (ps_expr (pe_bm PySem.F.plainAttrs_list PySem.F.slot_list_append PySem.F.type_list_append mt_append (pv 4) (pa_cons (pe_methK0 (pv 0) T.clS meP FP (hr.mono (by decide)) kbP pass0 (pk_cons (pv 6) pk_nil)) pa_nil)))
      (pss_cons (ps_set (i := 5) sc__law_watched.nd rfl (Or.inl rfl) (pe_op op_add (pv 5) (pe_callTy call_int1 (by rfl) T.g_int (by decide +kernel) (pa_cons (pe_cmpR op_notN (pe_ix ix_list (pv 4) (pe_un un_neg pe_int) (fun _ _ => rfl)) pe_non (nomark _)) pa_nil))))
      (pss_cons (ps_if (PW.pt (pw_or (pt_cmpR op_gt (pe_prd p_Stream_waiting hr (by decide) (pv 0)) (pv 1) (nomark _)) (pw_or1 (PW.pt (pw_and (pt_cmpR op_ge (pe_op op_add (pv 6) pe_int) (pv 2) (nomark _)) (pw_and1 (pt_cmpR op_ne (pe_prd p_Stream_waiting hr (by decide) (pv 0)) (pv 1) (nomark _)))))))) (pss_one (ps_ret pe_non)) pss_nil)
      (pss_one (ps_if (pt_cmpR op_ne (pe_op op_add (pv 5) (pe_prd p_Stream_waiting hr (by decide) (pv 0))) (pe_op op_add (pv 6) pe_int) (nomark _)) (pss_one (ps_ret pe_non)) pss_nil))))))
      (pss_one (ps_ret (pv 4))))), ?_⟩
    refine ⟨small_len (show 0 ≤ 1000000 by omega), fun q hq => ?_⟩
    generalize hg : upd _ _ _ = H1
    have s1 := newS hg hq
    have e1 := newE hg
    clear hg
    refine ⟨_, _, rfl, ?_⟩
    refine ⟨_, rfl, N, rfl, by omega, by omega, ?_⟩
    have nDx := StreamAt.ne hs
    have nqx : q ≠ x := fun e => by
      obtain ⟨h1, _⟩ := hs
      rw [← e, hq] at h1
      cases h1
    have nqD : q ≠ D := fun e => by
      obtain ⟨_, h2, _⟩ := hs
      rw [← e, hq] at h2
      cases h2
    have hs1 := StreamAt.same hs s1
    have ek0 : KV (kvN ws 0) = [] := rfl
    refine for_range (fun i σ H' => Kp x D H H' ∧ StreamAt cS cP H' x D dx pl ws (i : Nat) (KV (kvN ws i)) ∧ H' q = some (.lst (outF ws i)) ∧ ∃ v, σ = [some (.ref x), some (.int (ws.sum / (ws.length : Int))), some (.int far), some (.int (N : Nat)), some (.ref q), some (.int ((i : Int) - ((wt ws i).length : Int))), v]) ⟨fun a o _ _ e => s1 _ _ e, hs1, e1, none, rfl⟩ ?_ ?_
    · rintro i σ H' hi ⟨kp, hs', eq, v, rfl⟩
      have hi' : i < N := by omega
      have hwl := wt_le g i
      rw [Int.zero_add]
      have ev : (valV (putK (KV (kvN ws i)) (.inl (atT ws (i : Int))) (.int (i : Int))) (.inl (i : Int))).getD .non = oV (srcN ws (i + 1) i) := by
        rw [step_put g, step_val g]
      refine ⟨_, rfl, tyl (sq_at eq), _, rfl, x, dx, _, rfl, hs'.1, rfl, _, rfl, x, D, dx, pl, ws, _, _, _, rfl, hs', by rw [kvN_len]; omega, fun H2 kp2 hs2 => ?_⟩
      rw [ev]
      rw [step_put g, step_drop g] at hs2
      have eq2 := kp2 _ _ nqx nqD eq
      refine ⟨q, outF ws i, _, rfl, rfl, eq2, small_lt (by rw [outF_len]; omega), ?_⟩
      rw [← outF_succ]
      have kp3 : Kp x D H (upd H2 q (.lst (outF ws (i + 1)))) := fun a o ha hd e => (upd_ne (ne_of_none e hq)).trans (kp2 _ _ ha hd (kp _ _ ha hd e))
      have hs3 : StreamAt cS cP (upd H2 q (.lst (outF ws (i + 1)))) x D dx pl ws ((i : Int) + 1) (KV (kvN ws (i + 1))) := StreamAt.kp hs kp3 ((upd_ne fun e => nqx e.symm).trans hs2.1) ((upd_ne fun e => nqD e.symm).trans hs2.2.1)
      have eq3 : (upd H2 q (.lst (outF ws (i + 1)))) q = some (.lst (outF ws (i + 1))) := upd_same
      generalize upd H2 q (.lst (outF ws (i + 1))) = H3 at *
      have hal : atI (outF ws (i + 1)) (-1) = some (oV (srcN ws (i + 1) i)) := by
        rw [outF_succ]
        exact at_last _ _
      have hwl2 := wt_len g i
      have hwle2 := wt_le g (i + 1)
      refine ⟨_, rfl, _, rfl, 1, rfl, q, _, _, _, rfl, rfl, sq_at eq3, hal, rfl, .inr ⟨_, rfl, _, _, rfl, rfl, ?_⟩⟩
      have eh : ((i : Int) - ((wt ws i).length : Int)) + (if (!decide (oV (srcN ws (i + 1) i) = V.non)) = true then (1 : Int) else 0) = ((i + 1 : Nat) : Int) - ((wt ws (i + 1)).length : Int) := by
        unfold hit at hwl2
        cases e : srcN ws (i + 1) i with
        | none =>
          rw [e] at hwl2
          have h2 : (wt ws (i + 1)).length + 0 = (wt ws i).length + 1 := hwl2
          show ((i : Int) - ((wt ws i).length : Int)) + 0 = _
          omega
        | some r =>
          rw [e] at hwl2
          have h2 : (wt ws (i + 1)).length + 1 = (wt ws i).length + 1 := hwl2
          show ((i : Int) - ((wt ws i).length : Int)) + 1 = _
          omega
      refine ⟨_, rfl, x, dx, _, rfl, hs3.1, x, D, dx, pl, ws, _, _, rfl, hs3, _, rfl, _, _, rfl, rfl, _, rfl, ?_⟩
      have hkl : ((KV (kvN ws (i + 1))).length : Int) = ((wt ws (i + 1)).length : Int) := by rw [kvN_len]
      have hmost := wt_most g (i + 1)
      rw [decide_eq_false (show ¬ (ws.sum / (ws.length : Int) < ((KV (kvN ws (i + 1))).length : Int)) by omega)]
      refine iteF ?_
      have hs4 : StreamAt cS cP H3 x D dx pl ws ((i + 1 : Nat) : Int) (KV (kvN ws (i + 1))) := by
        rw [Int.natCast_add]
        exact hs3
      refine ⟨_, rfl, _, _, rfl, rfl, _, rfl, _, _, rfl, rfl, _, rfl, ?_⟩
      by_cases hf : far ≤ (i : Int) + 1
      · rw [decide_eq_true hf]
        refine iteT ?_
        have hW := wt_flow g (n := i + 1) (by omega)
        refine ⟨_, rfl, x, dx, _, rfl, hs3.1, x, D, dx, pl, ws, _, _, rfl, hs3, _, rfl, rfl, _, rfl, ?_⟩
        refine iteNS (congrArg V.int (hkl.trans hW)) ?_
        refine ⟨_, rfl, _, rfl, x, dx, _, rfl, hs3.1, x, D, dx, pl, ws, _, _, rfl, hs3, _, _, rfl, rfl, _, rfl, _, _, rfl, rfl, rfl, _, rfl, ?_⟩
        refine iteNS (congrArg V.int (by rw [eh]; omega)) ?_
        exact ⟨kp3, hs4, eq3, _, congrArg (fun z => [some (V.ref x), some (V.int (ws.sum / (ws.length : Int))), some (V.int far), some (V.int (N : Nat)), some (V.ref q), some (V.int z), some (V.int (i : Int))]) eh⟩
      · rw [decide_eq_false hf]
        refine iteF ?_
        refine iteF ?_
        refine ⟨_, rfl, _, rfl, x, dx, _, rfl, hs3.1, x, D, dx, pl, ws, _, _, rfl, hs3, _, _, rfl, rfl, _, rfl, _, _, rfl, rfl, rfl, _, rfl, ?_⟩
        refine iteNS (congrArg V.int (by rw [eh]; omega)) ?_
        exact ⟨kp3, hs4, eq3, _, congrArg (fun z => [some (V.ref x), some (V.int (ws.sum / (ws.length : Int))), some (V.int far), some (V.int (N : Nat)), some (V.ref q), some (V.int z), some (V.int (i : Int))]) eh⟩
    · rintro σ H' ⟨kp, hs', eq, v, rfl⟩
      exact ⟨_, rfl, k q H' kp hs' hq eq⟩
end
end My

end
section
set_option linter.all false
set_option maxRecDepth 100000
set_option maxHeartbeats 1000000
namespace My
open PySem PySem.Spec PyProof.Rows L2 StX ClX
theorem passG {X : Cx} : Passes (CX X.prog X.w) X E0 := fun pins σ H s e s' I c => by
  obtain ⟨a, B, H', cls, d, _, _, _, _, _, _, _, _, z⟩ := c
abbrev rLenK (K : PySem.W.Frag) : List V → Hp → VK → Prop := fun xs H Q => ∃ x n, xs = [x] ∧ LenV K x H n ∧ Q (.int n) H
theorem noStop0 {K : PySem.W.Frag} : NoStop K E0 := fun _ _ _ h => h.elim
section
variable {P : Program} {w : World} {K : PySem.W.Frag} {mg : Str → Option Value} {base : Heap} {cM cP cS : Addr}
theorem showable_ints : ∀ ns : List Int, (∀ n ∈ ns, 0 ≤ n ∧ n ≤ 1000) → PyData.showableAll (ns.map PyData.int) = true
  | [], _ => by simp only [List.map_nil, PyData.showableAll]
  | n :: ns, h => by
    simp only [List.map_cons, PyData.showableAll, PyData.showable, showable_ints ns fun x hx => h x (List.mem_cons_of_mem _ hx), Bool.and_true, decide_eq_true_eq]
    have := h n List.mem_cons_self
    exact Nat.lt_of_le_of_lt (Nat.log2_le_self _) (by omega)
theorem short_ints : ∀ ns : List Int, (∀ n ∈ ns, 0 ≤ n ∧ n ≤ 1000) → PyData.leavesShortAll 13 (ns.map PyData.int) = true
  | [], _ => by simp only [List.map_nil, PyData.leavesShortAll]
  | n :: ns, h => by
    simp only [List.map_cons, PyData.leavesShortAll, PyData.leavesShort, short_ints ns fun x hx => h x (List.mem_cons_of_mem _ hx), Bool.and_true, decide_eq_true_eq]
    have := h n List.mem_cons_self
    exact PyData.shown_int_le (by omega)
theorem bulk_ints : ∀ ns : List Int, PyData.bulkAll (ns.map PyData.int) = ns.length
  | [] => by simp only [List.map_nil, PyData.bulkAll, List.length_nil]
  | n :: ns => by
    simp only [List.map_cons, PyData.bulkAll, PyData.bulk, bulk_ints ns, List.length_cons]
    omega
theorem repr_ints {ns : List Int} (hb : ∀ n ∈ ns, 0 ≤ n ∧ n ≤ 1000) (hl : ns.length ≤ 1000) : (PyData.list (ns.map PyData.int)).showable = true ∧ (PyData.list (ns.map PyData.int)).depth ≤ 40 ∧ (PyData.list (ns.map PyData.int)).shown.length ≤ sizeLine :=
  ⟨by simp only [PyData.showable]; exact showable_ints ns hb, by simp only [PyData.depth, depth_ints]; decide, PyData.shown_fits_bulk (B := 13) (by decide) (by decide) (by simp only [PyData.leavesShort]; exact short_ints ns hb) (by simp only [PyData.bulk, bulk_ints]; omega)⟩
end
def sp_right : Sp := fun vs H Q _ => ∃ p, vs = [.ref p] ∧ PotAt H p ∧ ∀ H', KpP p H H' → Q (.bl true) H'
section
variable {P : Program} {w : World} {K : PySem.W.Frag} {mg : Str → Option Value} {base : Heap} {cM cP cS : Addr} (T : Txt K mg cM cP cS)
include T
set_option maxHeartbeats 0 in
theorem g__law_right : ∃ f, FnG P w K mg base 10 f sp_right ∧ mg "_law_right" = some (.ref f) ∧ PySem.W.keepIn K (.ref f) = true := by
  have c__law_draw := c__law_draw (P := P) (w := w) (base := base) T
  have c__law_table := c__law_table (P := P) (w := w) (base := base) T
  have c__law_watched := c__law_watched (P := P) (w := w) (base := base) T
  have c_holds := c_holds (P := P) (w := w) (base := base) T
  have k_Plan := k_Plan (P := P) (w := w) (base := base) T
  have k_Stream := k_Stream (P := P) (w := w) (base := base) T
  have p_Stream_waiting := p_Stream_waiting (P := P) (w := w) (base := base) T
  have p_Stream_moment := p_Stream_moment (P := P) (w := w) (base := base) T
  obtain ⟨fR, fdR, FR, meR, bR⟩ := g_Stream_rest (P := P) (w := w) (base := base) T
  obtain ⟨f, fd, F, hm⟩ := T.d__law_right
  refine ⟨f, My.Fun.okG F sc__law_right (F.binds (ps := ["_law_pot_here"]) fun _ _ _ _ _ _ us hl => match us, hl with | [_], _ => rfl) (fun vs H Q h => ?_) (fun cdv A outer s H vs Q hgu hr h => ?_), hm, F.kp⟩
  · obtain ⟨p, e, _⟩ := h
    rw [e]
    rfl
  · obtain ⟨p, rfl, hp, k⟩ := h
    refine ⟨_, (pss_cons (ps_set (i := 1) sc__law_right.nd rfl (Or.inr rfl) (pe_d c__law_table hr (by decide) rfl (pa_cons (pv 0) (pa_cons (pe_op op_add pe_int (pe_d c__law_draw hr (by decide) rfl (pa_cons (pv 0) (pa_cons pe_int pa_nil)))) pa_nil))))
      (pss_cons (ps_asg (pe_tup (pa_cons (pe_mkd k_Plan hr (by decide) rfl (pa_cons (pv 1) pa_nil)) (pa_cons (pe_callB (cr_max rfl) (by rfl) T.g_max (by decide +kernel) (pa_cons (pe_op op_cat (pe_lst (pa_cons pe_int pa_nil)) (pe_lc (own := [("_law_offset", 11)]) (g := gName 11) (tt := tYes) (by rfl) sc__law_right.nd (pi_list (pv 1)) (blkOk_by (own := [("_law_offset", 11)]) (N := ["_law_pot_here", "_law_table_here", "_law_made", "_law_late", "_law_far", "_law_most", "_law_many", "_law_stream", "_law_found", "_law_at", "_law_one", "_law_offset"]) (sc := defScope s__law_right) (by decide +kernel)) (fun _ _ _ _ _ => (pg_name (i := 11) sc__law_right.nd rfl (Or.inl rfl))) (fun _ _ _ _ _ => pts_nil) (fun _ _ _ _ _ => (pe_op op_sub pe_int (pv 11))))) pa_nil)) pa_nil))) (pg_tup (by rfl) (pgs_cons (pg_name (i := 2) sc__law_right.nd rfl (Or.inl rfl)) (pgs_cons (pg_name (i := 3) sc__law_right.nd rfl (Or.inr rfl)) pgs_nil))))
      (pss_cons (ps_par (i := 4) (j := 5) (by rfl) sc__law_right.nd rfl rfl (by decide) rfl rfl (pa_cons (pe_op op_add (pe_callB (cr_max rfl) (by rfl) T.g_max (by decide +kernel) (pa_cons (pv 1) pa_nil)) (pv 3)) (pa_cons (pe_op op_add (pe_op op_fdiv (pe_callB (cr_sum rfl) (by rfl) T.g_sum (by decide +kernel) (pa_cons (pv 1) pa_nil)) (pe_callB call_len (by rfl) T.g_len (by decide +kernel) (pa_cons (pv 1) pa_nil))) (pv 3)) pa_nil)) (by rfl))
      (pss_cons (ps_par (i := 6) (j := 7) (by rfl) sc__law_right.nd rfl rfl (by decide) rfl rfl (pa_cons (pe_op op_add (pe_op op_add (pv 4) (pe_d c__law_draw hr (by decide) rfl (pa_cons (pv 0) (pa_cons pe_int pa_nil)))) (pe_op op_mul pe_int (pe_callTy call_int1 (by rfl) T.g_int (by decide +kernel) (pa_cons (pe_cmpR op_eq (pe_d c__law_draw hr (by decide) rfl (pa_cons (pv 0) (pa_cons pe_int pa_nil))) pe_int (nomark _)) pa_nil)))) (pa_cons (pe_mkd k_Stream hr (by decide) rfl (pa_cons (pv 2) pa_nil)) pa_nil)) (by rfl))
      (pss_cons (ps_set (i := 8) sc__law_right.nd rfl (Or.inl rfl) (pe_d c__law_watched hr (by decide) rfl (pa_cons (pv 7) (pa_cons (pv 5) (pa_cons (pv 4) (pa_cons (pv 6) pa_nil))))))
      (pss_cons (ps_if (PW.pt (pw_or (pt_cmpR op_isN (pv 8) pe_non (nomark _)) (pw_or1 (pt_cmpR (op_neD hr.units) (pe_lst (pa_cons (pe_d c_holds hr (by decide) rfl (pa_cons (pv 2) pa_nil)) (pa_cons (pe_prd p_Stream_moment hr (by decide) (pv 7)) (pa_cons (pe_prd p_Stream_waiting hr (by decide) (pv 7)) pa_nil)))) (pe_lst (pa_cons (pv 5) (pa_cons (pv 6) (pa_cons (pv 5) pa_nil)))) (nomark _))))) (pss_one (ps_ret pe_bl)) pss_nil)
      (pss_cons (ps_set (i := 8) sc__law_right.nd rfl (Or.inl rfl) (pe_op op_cat (pv 8) (pe_listG (pgen_meth0 (pv 7) T.clS meR FR (hr.mono (by decide)) bR .nil) passG noStop0 (hr.mono (by decide)) (by rfl) T.g_list rfl)))
      (pss_cons (ps_if (pt_cmpR op_ne (pe_callB (cr_reprD hgu hr.units) (by rfl) T.g_repr (by decide +kernel) (pa_cons (pe_callB cr_sortedI (by rfl) T.g_sorted (by decide +kernel) (pa_cons (pe_lc (own := [("_law_one", 10)]) (g := gName 10) (tt := _) (by rfl) sc__law_right.nd (pi_list (pv 8)) (blkOk_by (own := [("_law_one", 10)]) (N := ["_law_pot_here", "_law_table_here", "_law_made", "_law_late", "_law_far", "_law_most", "_law_many", "_law_stream", "_law_found", "_law_at", "_law_one", "_law_offset"]) (sc := defScope s__law_right) (by decide +kernel)) (fun _ _ _ _ _ => (pg_name (i := 10) sc__law_right.nd rfl (Or.inl rfl))) (fun _ _ _ _ _ => (pts_one (pt_cmpR op_notN (pv 10) pe_non (nomark _)))) (fun _ _ _ _ _ => (pv 10))) pa_nil)) pa_nil)) (pe_callB (cr_reprD hgu hr.units) (by rfl) T.g_repr (by decide +kernel) (pa_cons (pe_listRg rfl (by rfl) T.g_list (prg_1 (by rfl) T.g_range (pv 6))) pa_nil)) (nomark _)) (pss_one (ps_ret pe_bl)) pss_nil)
      (pss_cons (ps_if (PW.pt (pw_or (PW.pt (pw_and (pt_cmpR op_gt (pv 5) pe_int (nomark _)) (pw_and1 (pt_cmpR op_isN (pe_ix ix_list (pv 8) (pe_un un_neg pe_int) (fun _ _ => rfl)) pe_non (nomark _))))) (pw_or1 (pt_cmpR op_gt (pe_callB call_len (by rfl) T.g_len (by decide +kernel) (pa_cons (pv 8) pa_nil)) (pe_op op_add (pv 6) (pv 4)) (nomark _))))) (pss_one (ps_ret pe_bl)) pss_nil)
      (pss_one (ps_ret (pe_callB (cr_all rfl) (by rfl) T.g_all (by decide +kernel) (pa_cons (pe_lc (own := [("_law_at", 9), ("_law_one", 10)]) (g := gTup K 2 (gCons (gName 9) (gCons (gName 10) gNil))) (tt := tYes) (by rfl) sc__law_right.nd (pi_enum (by rfl) T.g_enumerate (pa_cons (pv 8) pa_nil)) (blkOk_by (own := [("_law_at", 9), ("_law_one", 10)]) (N := ["_law_pot_here", "_law_table_here", "_law_made", "_law_late", "_law_far", "_law_most", "_law_many", "_law_stream", "_law_found", "_law_at", "_law_one", "_law_offset"]) (sc := defScope s__law_right) (by decide +kernel)) (fun _ _ _ _ _ => (pg_tup (by rfl) (pgs_cons (pg_name (i := 9) sc__law_right.nd rfl (Or.inl rfl)) (pgs_cons (pg_name (i := 10) sc__law_right.nd rfl (Or.inl rfl)) pgs_nil)))) (fun _ _ _ _ _ => pts_nil) (fun _ _ _ _ _ => (pe_or (pe_cmpR op_isN (pv 10) pe_non (nomark _)) (pe_one (pe_cmpR op_eq (pe_op op_add (pe_op op_add (pv 10) (pe_ix (r := rIxL K) ix_list (pv 1) (pe_op op_mod (pe_callTy call_int1 (by rfl) T.g_int (by decide +kernel) (pa_cons (pv 10) pa_nil)) (pe_callB (id := "len") (r := rLenK K) call_len (by rfl) T.g_len (by decide +kernel) (pa_cons (pv 1) pa_nil))) (fun _ _ => rfl))) (pv 3)) (pv 9) (nomark _)))))) pa_nil))))))))))))), ?_⟩
    refine ⟨_, rfl, _, rfl, p, 10, rfl, hp, by omega, by omega, fun d H1 d0 d1 k1 hp1 => ?_⟩
    refine ⟨_, _, rfl, rfl, p, (1 + d).toNat, by rw [show (((1 + d).toNat : Nat) : Int) = 1 + d by omega]; rfl, hp1, by omega, by omega, fun t us H2 k2 hp2 ht e2 tab => ?_⟩
    have hm0 : 0 < (1 + d).toNat := by omega
    have vt : VT us := tab.vt hm0 (by omega)
    have hlu : (LI us).length = us.length := List.length_map ..
    have hl0 := vt.pos
    have hl1 : us.length ≤ 10 := by rw [tab.len]; omega
    have ntp : t ≠ p := PotAt.ne hp1 ht
    have z2 : H2 p ≠ none := fun e => by
      obtain ⟨a, b, h, _⟩ := hp2
      rw [e] at h
      cases h
    refine ⟨_, rfl, ?_⟩
    intro pl0 pdx hpl0 hpd hpn
    have s3a : Same H2 (upd (upd H2 pdx (.own pl0)) pl0 (.ins cP pdx [])) := Same.mut (Same.new hpd) hpl0
    refine ⟨pl0, t, pdx, us, H2, rfl, s3a, hpl0, upd_same, s3a _ _ e2, vt, fun H3 s3 hplan hfr => ⟨rfl, ?_⟩⟩
    refine ⟨small_len (show 1 ≤ 1000000 by omega), fun l hl => ?_⟩
    generalize hg : upd _ _ _ = H4
    have s4 := newS hg hl
    have e4 := newE hg
    clear hg
    have s24 := s3.trans s4
    refine ⟨_, rfl, t, rfl, ⟨_, sq_at (s24 _ _ e2)⟩, fun D hD => ?_⟩
    refine lc_list (K := K) (a := t) (xs := LI us) (fun i H' => LC H4 D (LI (us.map fun o => -o)) i H') (lc_start (Same.refl H4) hD) (fun i H' _ q => sq_at (q.1 _ _ (s24 _ _ e2))) ?_ ?_
    · rintro i x H' hx q
      obtain ⟨n, hn, rfl⟩ := LI_get hx
      refine ⟨rfl, _, rfl, _, _, rfl, rfl, lc_step hD q ?_ (by rw [List.length_map, List.length_map]; omega)⟩
      show ((us.map fun o => -o).map V.int)[i]? = some (V.int (0 - n))
      rw [List.getElem?_map, List.getElem?_map, hn, Int.zero_sub]
      rfl
    rintro H5 q5
    obtain ⟨s5, e5⟩ := q5.done (by rw [List.length_map, List.length_map, List.length_map])
    refine ⟨l, D, [.int 0], _, rfl, rfl, s5 _ _ e4, e5, small_len (by rw [List.length_map, List.length_map]; show 1 + us.length ≤ 1000000; omega), fun z hz => ?_⟩
    generalize hg : upd _ _ _ = H6
    have s6 := newS hg hz
    have e6 := newE hg
    clear hg
    refine ⟨z, 0 :: us.map (fun o => -o), rfl, sq_at e6, Nat.zero_lt_succ _, fun late lt1 lt2 => ?_⟩
    obtain rfl := late_max (Rep.self us) vt.pos lt1 lt2
    refine ⟨small_len (show 2 ≤ 1000000 by omega), fun tp htp => ?_⟩
    have s6b := s6
    generalize hg : upd _ _ _ = H6b
    have s6c := newS hg htp
    have e6c := newE hg
    clear hg
    have s26 := s24.trans (s5.trans (s6.trans s6c))
    have s46 := s4.trans (s5.trans (s6.trans s6c))
    clear s6b
    clear s6 e6 e5 s5 e4 s4 q5
    refine ⟨tp, _, rfl, st_at e6c, rfl, _, _, rfl, _, _, rfl, rfl, ?_⟩
    have t6 := s26 _ _ e2
    refine ⟨_, rfl, t, us, rfl, sq_at t6, hl0, fun mx mx1 mx2 => ?_⟩
    refine ⟨_, rfl, _, _, rfl, rfl, _, rfl, t, us, rfl, sq_at t6, _, rfl, _, us.length, rfl, .inl ⟨_, sq_at t6, hlu.symm⟩, _, _, rfl, rfl, ⟨by omega, by omega⟩, _, rfl, _, _, rfl, rfl, _, _, rfl, ?_⟩
    have g : Gd (us.map (· + lateT us)) (mx + lateT us) := tab.gd hm0 mx2
    have bl : lateT us ≤ 30 := late_small (by omega) fun o ho => by
      have := (tab.small hm0 ho).1
      omega
    have bl0 := late_pos us
    have bm := (tab.small hm0 mx1).2
    have bf := far0 g
    have hp6 := hp2.same s26
    refine ⟨_, rfl, _, rfl, p, 31, rfl, hp6, by omega, by omega, fun r H7 r0 r1 k7 hp7 => ?_⟩
    refine ⟨_, _, rfl, rfl, _, rfl, p, 9, rfl, hp7, by omega, by omega, fun y H8 y0 y1 k8 hp8 => ?_⟩
    refine ⟨rfl, .inr ⟨_, rfl, _, _, rfl, rfl, .inl ⟨by decide, by decide⟩, _, _, rfl, rfl, ?_⟩⟩
    obtain ⟨N, hN⟩ : ∃ N : Nat, (mx + lateT us + r + 300 * (if decide (V.int y = V.int 0) = true then (1 : Int) else 0)) = (N : Int) := ⟨(mx + lateT us + r + 300 * (if decide (V.int y = V.int 0) = true then (1 : Int) else 0)).toNat, by split <;> omega⟩
    have hN1 : N ≤ 400 ∧ mx + lateT us ≤ (N : Int) := by
      split at hN <;> omega
    have k68 : KpP p H6b H8 := k7.trans k8
    have t8 := k68 _ _ ntp t6
    have pl8 : PlanAt cP H8 pl0 us := hfr p H8 z2 (fun a u n e => k68 a u n (s46 a u e))
    refine ⟨_, rfl, ?_⟩
    intro x dx hx9 hdx9 hne9
    have s9a : Same H8 (upd (upd H8 dx (.own x)) x (.ins cS dx [])) := Same.mut (Same.new hdx9) hx9
    refine ⟨x, pl0, dx, us, H8, rfl, s9a, hx9, upd_same, pl8.same s9a, fun Dd pl H9 s9 hD9 nD9 hs9 => ⟨rfl, ?_⟩⟩
    refine ⟨_, _, rfl, ?_⟩
    refine ⟨_, rfl, _, rfl, _, rfl, _, rfl, x, Dd, dx, pl, us.map (· + lateT us), mx + lateT us, N, ?_, hs9, g, by omega, fun q H10 kp10 hs10 hq10 eq10 => ?_⟩
    · rw [flow_add vt.pos, ← hN]
      rfl
    have s810 : Same H8 H10 := fun a u e => kp10 a u (ne_of_none e hx9) (ne_of_none e hD9) (s9 a u e)
    have hW : ((KV (kvN (us.map (· + lateT us)) N)).length : Int) = us.sum / (us.length : Int) + lateT us := by
      rw [kvN_len, wt_flow g hN1.2, flow_add vt.pos]
    refine ⟨_, rfl, rfl, _, rfl, ?_⟩
    refine iteF ?_
    refine ⟨_, rfl, pl0, us, rfl, pl8.same s810, fun H11 s11 => ?_⟩
    have hs11 := hs10.same s11
    refine ⟨_, rfl, x, dx, _, rfl, hs11.1, x, Dd, dx, pl, _, _, _, rfl, hs11, _, rfl, x, dx, _, rfl, hs11.1, x, Dd, dx, pl, _, _, _, rfl, hs11, small_len (show 3 ≤ 1000000 by omega), fun l1 hl1 => ?_⟩
    generalize hg : upd _ _ _ = H12
    have s12 := newS hg hl1
    have e12 := newE hg
    clear hg
    refine ⟨_, rfl, _, rfl, _, rfl, small_len (show 3 ≤ 1000000 by omega), fun l2 hl2 => ?_⟩
    generalize hg : upd _ _ _ = H13
    have s13 := newS hg hl2
    have e13 := newE hg
    clear hg
    refine ⟨_, _, dp_ints (ns := [_, _, _]) (sq_at (s13 _ _ e12)), dp_ints (ns := [_, _, _]) (sq_at e13), shaped_ints _, shaped_ints _, ?_⟩
    rw [eqv_ints]
    refine ⟨_, rfl, ?_⟩
    refine iteNS ?_ ?_
    · show [us.sum / (us.length : Int) + lateT us, (N : Int), ((KV (kvN (us.map (· + lateT us)) N)).length : Int)] = [us.sum / (us.length : Int) + lateT us, mx + lateT us + r + 300 * (if decide (V.int y = V.int 0) = true then (1 : Int) else 0), us.sum / (us.length : Int) + lateT us]
      rw [hN, hW]
    have s1013 : Same H10 H13 := s11.trans (s12.trans s13)
    have hs13 := hs10.same s1013
    refine ⟨_, rfl, _, rfl, x, dx, _, rfl, hs13.1, rfl, x, Dd, dx, pl, _, _, kvN (us.map (· + lateT us)) N, rfl, hs13, kv_nodup g N, ?_, by omega, by omega, ?_, fun last l1' l2' H14 s14 => fun rr hrr => ?_⟩
    · unfold kvN
      rw [List.length_map]
      have := wt_le g N
      omega
    · intro pq hpq
      obtain ⟨i, hi, e, _⟩ := (kv_key g).mp (List.mem_map.mpr ⟨pq, hpq, rfl⟩)
      have := g.le (i : Int)
      omega
    have hla := l2' _ List.mem_cons_self
    have hlf := last_far g l1'
    have hlb : ∀ y ∈ (kvN (us.map (· + lateT us)) N).map (·.1), y ≤ last := fun y hy => l2' _ (List.mem_cons_of_mem _ hy)
    generalize hg : upd _ _ _ = H15
    have s15 := newS hg hrr
    have e15 := newE hg
    clear hg
    refine ⟨q, rr, _, _, rfl, rfl, (s1013.trans (s14.trans s15)) _ _ eq10, e15, small_len ?_, fun z hz => ?_⟩
    · rw [outF_len, List.length_map, List.length_range]
      omega
    have oc := out_cat g hla
    rw [show outF (us.map (· + lateT us)) N = ((List.range N).map fun (m : Nat) => oV (srcN (us.map (· + lateT us)) (m + 1) m)) from rfl, oc]
    generalize hg : upd _ _ _ = H16
    have s16 := newS hg hz
    have e16 := newE hg
    clear hg
    have s816 : Same H8 H16 := s810.trans (s1013.trans (s14.trans (s15.trans s16)))
    have t16 := s816 _ _ t8
    have hL : (outN (us.map (· + lateT us)) N (last + 1).toNat).length = (last + 1).toNat := by
      unfold outN
      rw [List.length_map, List.length_range]
    have hperm := out_perm g hla hlb
    generalize hO : outN (us.map (· + lateT us)) N (last + 1).toNat = O at *
    have hLm : (O.map oV).length = O.length := List.length_map ..
    refine ⟨_, rfl, z, rfl, ⟨_, sq_at e16⟩, fun D2 hD2 => ?_⟩
    refine lc_list (K := K) (a := z) (xs := O.map oV) (fun i H' => Same H16 H' ∧ H' D2 = some (.lst (LI (((O.take i).filterMap id).map Int.ofNat)))) ⟨Same.new hD2, upd_same⟩ (fun i H' _ q => sq_at (q.1 _ _ e16)) ?_ ?_
    · rintro i v H' hv ⟨sm, eD⟩
      obtain ⟨o, ho, rfl⟩ : ∃ o, O[i]? = some o ∧ v = oV o := by
        rw [List.getElem?_map] at hv
        cases e : O[i]? with
        | none =>
          rw [e] at hv
          cases hv
        | some o =>
          rw [e] at hv
          exact ⟨o, rfl, (Option.some.inj hv).symm⟩
      have hi := (List.getElem?_eq_some_iff.mp ho).1
      have tk : O.take (i + 1) = O.take i ++ [o] := by
        rw [List.take_succ, ho]
        rfl
      refine ⟨rfl, _, rfl, rfl, _, rfl, ?_⟩
      cases o with
      | none =>
        refine iteNS rfl ?_
        refine ⟨sm, ?_⟩
        rw [tk, List.filterMap_append]
        simpa using eD
      | some rv =>
        refine iteT ?_
        refine ⟨_, rfl, _, eD, small_lt ?_, Same.mut sm hD2, ?_⟩
        · rw [List.length_map, List.length_map]
          have := List.length_filterMap_le id (O.take i)
          rw [List.length_take] at this
          omega
        rw [tk, List.filterMap_append, upd_same]
        show _ = some (HO.lst (((((O.take i).filterMap id) ++ [rv]).map Int.ofNat).map V.int))
        rw [List.map_append, List.map_append]
        rfl
    rintro H17 ⟨s17, e17⟩
    rw [hLm, List.take_length] at e17
    refine ⟨D2, _, rfl, sq_at e17, fun ns' p2 pm srt hp2 => ?_⟩
    have ens : ns' = (List.range N).map Int.ofNat := by
      refine List.Perm.eq_of_pairwise (fun a b _ _ h1 h2 => Int.le_antisymm h1 h2) srt ?_ (pm.trans (hperm.map Int.ofNat))
      refine List.pairwise_map.mpr (List.Pairwise.imp (fun {a b} (h : a < b) => ?_) List.pairwise_lt_range)
      show (a : Int) ≤ (b : Int)
      omega
    subst ens
    generalize hg : upd _ _ _ = H18
    have s18 := newS hg hp2
    have e18 := newE hg
    clear hg
    have hbd : ∀ n ∈ (List.range N).map Int.ofNat, 0 ≤ n ∧ n ≤ 1000 := fun n hn => by
      obtain ⟨i, hi, rfl⟩ := List.mem_map.mp hn
      have := List.mem_range.mp hi
      show 0 ≤ (i : Int) ∧ (i : Int) ≤ 1000
      omega
    have hrp := repr_ints hbd (by rw [List.length_map, List.length_range]; omega)
    refine ⟨p2, _, rfl, dp_ints (sq_at e18), hrp.1, hrp.2.1, hrp.2.2, ?_⟩
    refine ⟨_, rfl, (N : Int), congrArg V.int hN, ⟨by omega, by omega, by omega, by omega, by omega⟩, fun l3 hl3 => ?_⟩
    rw [rgV_LI]
    generalize hg : upd _ _ _ = H19
    have s19 := newS hg hl3
    have e19 := newE hg
    clear hg
    refine ⟨l3, _, rfl, dp_ints (sq_at e19), hrp.1, hrp.2.1, hrp.2.2, ?_⟩
    refine ⟨rfl, _, rfl, ?_⟩
    refine iteNS rfl ?_
    have s1619 : Same H16 H19 := s17.trans (s18.trans s19)
    have z19 := s1619 _ _ e16
    have t19 := s1619 _ _ t16
    have hlast : us.sum / (us.length : Int) + lateT us > 0 → ∃ i : Nat, atI (O.map oV) (-1) = some (V.int i) := fun hpos => by
      obtain ⟨i, hi, e⟩ := out_last g hN1.2 l1' l2' (by rw [flow_add vt.pos]; exact hpos)
      refine ⟨i, ?_⟩
      rw [← hO, show (last + 1).toNat = last.toNat + 1 by omega]
      unfold outN
      rw [List.range_succ, List.map_append, List.map_append]
      show atI (_ ++ [oV (srcN (us.map (· + lateT us)) N last.toNat)]) (-1) = _
      rw [at_last, hi]
      rfl
    have hlenle : ¬ (mx + lateT us + r + 300 * (if decide (V.int y = V.int 0) = true then (1 : Int) else 0) + (mx + lateT us) < ((O.map oV).length : Int)) := by
      rw [hN, hLm, hL]
      omega
    have hat : ∀ (i rv : Nat), O[i]? = some (some rv) → (rv : Int) + us.getD ((rv : Int) % (us.length : Int)).toNat 0 + lateT us = (i : Int) := fun i rv ho => by
      rw [← hO] at ho
      unfold outN at ho
      rw [List.getElem?_map] at ho
      obtain ⟨m, hm1, hm2⟩ := Option.map_eq_some_iff.mp ho
      have hmi : m = i := by
        have := (List.getElem?_eq_some_iff.mp hm1).2
        rw [List.getElem_range] at this
        exact this.symm
      subst hmi
      have e := ((src_iff g).mp hm2).2
      rw [atT_map us _ vt.pos] at e
      exact e
    refine ⟨_, rfl, _, _, rfl, rfl, _, rfl, ?_⟩
    have hOv : ∀ (i : Nat) (v : V), (O.map oV)[i]? = some v → ∃ o, O[i]? = some o ∧ v = oV o := fun i v hv => by
      rw [List.getElem?_map] at hv
      cases e : O[i]? with
      | none =>
        rw [e] at hv
        cases hv
      | some o =>
        rw [e] at hv
        exact ⟨o, rfl, (Option.some.inj hv).symm⟩
    have hOl : O.length ≤ 1000 := by
      rw [hL]
      omega
    by_cases hpos : us.sum / (us.length : Int) + lateT us > 0
    · obtain ⟨iv, hiv⟩ := hlast hpos
      rw [decide_eq_true hpos]
      refine iteT ?_
      refine ⟨_, rfl, 1, rfl, z, _, _, _, rfl, rfl, sq_at z19, hiv, rfl, _, rfl, ?_⟩
      refine iteF ?_
      refine ⟨_, rfl, _, _, rfl, .inl ⟨_, sq_at z19, rfl⟩, _, rfl, _, rfl, _, _, rfl, rfl, _, _, rfl, rfl, _, rfl, ?_⟩
      rw [decide_eq_false hlenle]
      refine iteF ?_
      refine ⟨_, rfl, z, _, rfl, sq_at z19, fun D3 hD3 => ?_⟩
      refine lc_enum (K := K) (a := z) (xs := O.map oV) (fun i H' => LC H19 D3 (List.replicate O.length (V.bl true)) i H') (lc_start (Same.refl H19) hD3) (fun i H' _ q => sq_at (q.1 _ _ z19)) ?_ ?_
      · rintro i v H' tt H'' hv q hT sm' eT
        obtain ⟨o, ho, rfl⟩ := hOv i v hv
        have hi := (List.getElem?_eq_some_iff.mp ho).1
        have q' := q.same sm'
        refine ⟨tt, _, rfl, st_at eT, rfl, _, _, rfl, _, _, rfl, rfl, ?_⟩
        refine ⟨rfl, _, rfl, rfl, _, rfl, ?_⟩
        cases o with
        | none =>
          refine iteT ?_
          exact lc_step hD3 q' (by rw [List.getElem?_replicate, if_pos hi]) (by rw [List.length_replicate]; omega)
        | some rv =>
          refine iteF ?_
          refine ⟨_, rfl, _, rfl, _, rfl, .inl ⟨_, rfl, _, rfl, _, us.length, rfl, .inl ⟨_, sq_at (q'.1 _ _ t19), hlu.symm⟩, _, _, rfl, rfl, (show (0 : Int) < (us.length : Int) by omega), t, LI us, _, .int (us.getD ((rv : Int) % (us.length : Int)).toNat 0), rfl, rfl, sq_at (q'.1 _ _ t19), ?_, _, _, rfl, rfl, _, rfl, _, _, rfl, rfl, _, rfl, rfl, ?_⟩⟩
          · have m0 : 0 ≤ (rv : Int) % (us.length : Int) := Int.emod_nonneg _ (by omega)
            have m1 : (rv : Int) % (us.length : Int) < us.length := Int.emod_lt_of_pos _ (by omega)
            have hi2 : ((rv : Int) % (us.length : Int)).toNat < us.length := by omega
            have e : (rv : Int) % (us.length : Int) = ((((rv : Int) % (us.length : Int)).toNat : Nat) : Int) := by omega
            have h2 := atI_LI (ns := us) (i := ((rv : Int) % (us.length : Int)).toNat) (n := us.getD ((rv : Int) % (us.length : Int)).toNat 0) (by rw [map_getD hi2]; exact List.getElem?_eq_getElem hi2)
            rw [← e] at h2
            exact h2
          · refine lc_step hD3 q' ?_ (by rw [List.length_replicate]; omega)
            rw [List.getElem?_replicate, if_pos hi]
            show some (V.bl true) = some (V.bl (decide (V.int ((rv : Int) + us.getD ((rv : Int) % (us.length : Int)).toNat 0 + lateT us) = V.int (i : Int))))
            rw [decide_eq_true (congrArg V.int (hat i rv ho))]
      · rintro H20 q20
        obtain ⟨s20, e20⟩ := q20.done (by rw [hLm, List.length_replicate])
        refine ⟨D3, List.replicate O.length true, rfl, sq_at (by rw [List.map_replicate]; exact e20), ?_⟩
        rw [show (List.replicate O.length true).all id = true by simp]
        exact k H20 ((((k1.trans k2).same s26).trans k68).same (s816.trans (s1619.trans s20)))
    · rw [decide_eq_false hpos]
      refine iteF ?_
      refine iteF ?_
      refine ⟨_, rfl, _, _, rfl, .inl ⟨_, sq_at z19, rfl⟩, _, rfl, _, rfl, _, _, rfl, rfl, _, _, rfl, rfl, _, rfl, ?_⟩
      rw [decide_eq_false hlenle]
      refine iteF ?_
      refine ⟨_, rfl, z, _, rfl, sq_at z19, fun D3 hD3 => ?_⟩
      refine lc_enum (K := K) (a := z) (xs := O.map oV) (fun i H' => LC H19 D3 (List.replicate O.length (V.bl true)) i H') (lc_start (Same.refl H19) hD3) (fun i H' _ q => sq_at (q.1 _ _ z19)) ?_ ?_
      · rintro i v H' tt H'' hv q hT sm' eT
        obtain ⟨o, ho, rfl⟩ := hOv i v hv
        have hi := (List.getElem?_eq_some_iff.mp ho).1
        have q' := q.same sm'
        refine ⟨tt, _, rfl, st_at eT, rfl, _, _, rfl, _, _, rfl, rfl, ?_⟩
        refine ⟨rfl, _, rfl, rfl, _, rfl, ?_⟩
        cases o with
        | none =>
          refine iteT ?_
          exact lc_step hD3 q' (by rw [List.getElem?_replicate, if_pos hi]) (by rw [List.length_replicate]; omega)
        | some rv =>
          refine iteF ?_
          refine ⟨_, rfl, _, rfl, _, rfl, .inl ⟨_, rfl, _, rfl, _, us.length, rfl, .inl ⟨_, sq_at (q'.1 _ _ t19), hlu.symm⟩, _, _, rfl, rfl, (show (0 : Int) < (us.length : Int) by omega), t, LI us, _, .int (us.getD ((rv : Int) % (us.length : Int)).toNat 0), rfl, rfl, sq_at (q'.1 _ _ t19), ?_, _, _, rfl, rfl, _, rfl, _, _, rfl, rfl, _, rfl, rfl, ?_⟩⟩
          · have m0 : 0 ≤ (rv : Int) % (us.length : Int) := Int.emod_nonneg _ (by omega)
            have m1 : (rv : Int) % (us.length : Int) < us.length := Int.emod_lt_of_pos _ (by omega)
            have hi2 : ((rv : Int) % (us.length : Int)).toNat < us.length := by omega
            have e : (rv : Int) % (us.length : Int) = ((((rv : Int) % (us.length : Int)).toNat : Nat) : Int) := by omega
            have h2 := atI_LI (ns := us) (i := ((rv : Int) % (us.length : Int)).toNat) (n := us.getD ((rv : Int) % (us.length : Int)).toNat 0) (by rw [map_getD hi2]; exact List.getElem?_eq_getElem hi2)
            rw [← e] at h2
            exact h2
          · refine lc_step hD3 q' ?_ (by rw [List.length_replicate]; omega)
            rw [List.getElem?_replicate, if_pos hi]
            show some (V.bl true) = some (V.bl (decide (V.int ((rv : Int) + us.getD ((rv : Int) % (us.length : Int)).toNat 0 + lateT us) = V.int (i : Int))))
            rw [decide_eq_true (congrArg V.int (hat i rv ho))]
      · rintro H20 q20
        obtain ⟨s20, e20⟩ := q20.done (by rw [hLm, List.length_replicate])
        refine ⟨D3, List.replicate O.length true, rfl, sq_at (by rw [List.map_replicate]; exact e20), ?_⟩
        rw [show (List.replicate O.length true).all id = true by simp]
        exact k H20 ((((k1.trans k2).same s26).trans k68).same (s816.trans (s1619.trans s20)))
end
end My

end
section
set_option linter.all false
set_option maxRecDepth 100000
set_option maxHeartbeats 1000000
namespace My
open PySem PySem.Spec PyProof.Rows L2 StX ClX
theorem Same.sq {K : PySem.W.Frag} {H H' : Hp} {a : Addr} {xs : List V} (e : Same H H') (h : SqL K H a xs) : SqL K H' a xs := by
  rcases h with (h | ⟨o, h⟩) | h
  · exact .inl (.inl (e _ _ h))
  · exact .inl (.inr ⟨o, e _ _ h⟩)
  · exact .inr h
def sp_law (K : PySem.W.Frag) : Sp := fun vs H Q _ => ∃ (a : Addr) (ns : List Int), vs = [.ref a] ∧ SqL K H a (LI ns) ∧ ns.length ≤ 63 ∧ ∀ H', Q (.bl true) H'
section
variable {P : Program} {w : World} {K : PySem.W.Frag} {mg : Str → Option Value} {base : Heap} {cM cP cS : Addr} (T : Txt K mg cM cP cS)
include T
theorem g_law : ∃ f, FnG P w K mg base 11 f (sp_law K) ∧ mg "law" = some (.ref f) := by
  have c__law_pot := c__law_pot (P := P) (w := w) (base := base) T
  obtain ⟨fR, FR, hmR, kpR⟩ := g__law_right (P := P) (w := w) (base := base) T
  obtain ⟨f, fd, F, hm⟩ := T.d_law
  refine ⟨f, My.Fun.okG F sc_law (F.binds (ps := ["_law_script"]) fun _ _ _ _ _ _ us hl => match us, hl with | [_], _ => rfl) (fun vs H Q h => ?_) (fun cdv A outer s H vs Q hgu hr h => ?_), hm⟩
  · obtain ⟨a, ns, e, _⟩ := h
    rw [e]
    rfl
  · obtain ⟨a, ns, rfl, ha, hl, k⟩ := h
    have hlen : (LI ns).length = ns.length := List.length_map ..
    refine ⟨_, (pss_one (ps_ret (pe_callB (cr_all rfl) (by rfl) T.g_all (by decide +kernel) (pa_cons (pe_lc (own := [("_law_k", 1)]) (g := gName 1) (tt := tYes) (by rfl) sc_law.nd (pi_range1 (by rfl) T.g_range (pa_cons (pe_callB (call_max2 rfl) (by rfl) T.g_max (by decide +kernel) (pa_cons pe_int (pa_cons (pe_callB (call_min2 rfl) (by rfl) T.g_min (by decide +kernel) (pa_cons pe_int (pa_cons (pe_callB call_len (by rfl) T.g_len (by decide +kernel) (pa_cons (pv 0) pa_nil)) pa_nil))) pa_nil))) pa_nil)) (blkOk_by (own := [("_law_k", 1)]) (N := ["_law_script", "_law_k"]) (sc := defScope s_law) (by decide +kernel)) (fun _ _ _ _ _ => (pg_name (i := 1) sc_law.nd rfl (Or.inl rfl))) (fun _ _ _ _ _ => pts_nil) (fun _ _ _ _ _ => (pe_callG FR hgu (hr.mono (by decide)) (by rfl) hmR kpR (pa_cons (pe_d c__law_pot hr (by decide) rfl (pa_cons (pv 0) (pa_cons (pv 1) pa_nil))) pa_nil)))) pa_nil)))), ?_⟩
    refine ⟨_, rfl, _, ns.length, rfl, .inl ⟨_, ha, hlen.symm⟩, _, _, rfl, _, _, rfl, _, rfl, ?_, ?_, fun D hD => ?_⟩
    · split <;> split <;> omega
    · split <;> split <;> omega
    refine lc_range (fun i H' => ∃ n, LC H D (List.replicate n (V.bl true)) i H' ∧ n = 1000) ⟨1000, lc_start (Same.refl H) hD, rfl⟩ ?_ ?_
    · rintro i H' hi ⟨n, q, rfl⟩
      have hi3 : i < 4 := by
        split at hi <;> split at hi <;> omega
      rw [Int.zero_add]
      refine ⟨rfl, _, rfl, _, rfl, a, ns, i, rfl, Same.sq q.1 ha, by omega, by omega, fun p H1 s1 hp hpot => ?_⟩
      refine ⟨p, rfl, hpot, fun H2 k2 => ?_⟩
      have npD : D ≠ p := fun e => by
        have := q.2
        rw [e, hp] at this
        cases this
      have q2 : LC H D (List.replicate 1000 (V.bl true)) i H2 := ⟨fun b u e => k2 b u (ne_of_none (q.1 b u e) hp) (s1 _ _ (q.1 b u e)), k2 _ _ npD (s1 _ _ q.2)⟩
      obtain ⟨acc, h1, h2, h3⟩ := lc_step (y := V.bl true) hD q2 (by rw [List.getElem?_replicate, if_pos (by omega)]) (by rw [List.length_replicate]; omega)
      exact ⟨acc, h1, h2, _, h3, rfl⟩
    · rintro H' ⟨n, q, rfl⟩
      obtain ⟨m, em⟩ : ∃ m, H' D = some (.lst (List.replicate m (V.bl true))) := ⟨_, by rw [q.2, List.take_replicate]⟩
      refine ⟨D, List.replicate m true, rfl, sq_at (by rw [List.map_replicate]; exact em), ?_⟩
      rw [show (List.replicate m true).all id = true by simp]
      exact k H'
end
end My

end
section
set_option linter.all false
set_option maxRecDepth 100000
set_option maxHeartbeats 1000000
namespace My
open PySem PySem.Spec PyProof.Rows L2 StX ClX
theorem all_mk {K : PySem.W.Frag} {h : Heap} {mg : Str → Option Value} (X : K.In h) (G : h.Ns mainGlobals mg) {cM cP cS f0 f1 f2 f3 f4 f5 f6 f7 f8 f9 f10 f11 f12 f13 f14 f15 f16 f17 f18 f19 dT f20 f21 dK f22 pSh f23 f24 f25 f26 f27 f28 p28 f29 p29 f30 p30 : Addr}
    {oc0 kV0 dc0 pm0 cd0 ct0 oc1 kV1 dc1 pm1 cd1 ct1 oc2 kV2 dc2 pm2 cd2 ct2 oc3 kV3 dc3 pm3 cd3 ct3 oc4 kV4 dc4 pm4 cd4 ct4 oc5 kV5 dc5 pm5 cd5 ct5 oc6 kV6 dc6 pm6 cd6 ct6 oc7 kV7 dc7 pm7 cd7 ct7 oc8 kV8 dc8 pm8 cd8 ct8 oc9 kV9 dc9 pm9 cd9 ct9 oc10 kV10 dc10 pm10 cd10 ct10 oc11 kV11 dc11 pm11 cd11 ct11 oc12 kV12 dc12 pm12 cd12 ct12 oc13 kV13 dc13 pm13 cd13 ct13 oc14 kV14 dc14 pm14 cd14 ct14 oc15 kV15 dc15 pm15 cd15 ct15 oc16 kV16 dc16 pm16 cd16 ct16 oc17 kV17 dc17 pm17 cd17 ct17 oc18 kV18 dc18 pm18 cd18 ct18 oc19 kV19 dc19 pm19 cd19 ct19 ocT oc20 kV20 dc20 pm20 cd20 ct20 oc21 dc21 pm21 cd21 ct21 oc22 kV22 dc22 pm22 cd22 ct22 oc23 kV23 dc23 pm23 cd23 ct23 oc24 kV24 dc24 pm24 cd24 ct24 oc25 kV25 dc25 pm25 cd25 ct25 oc26 kV26 dc26 pm26 cd26 ct26 oc27 kV27 dc27 pm27 cd27 ct27 oc28 kV28 dc28 pm28 cd28 ct28 oc29 kV29 dc29 pm29 cd29 ct29 oc30 kV30 dc30 pm30 cd30 ct30 : Value} {od0 an0 od1 an1 od2 an2 od3 an3 od4 an4 od5 an5 od6 an6 od7 an7 od8 an8 od9 an9 od10 an10 od11 an11 od12 an12 od13 an13 od14 an14 od15 an15 od16 an16 od17 an17 od18 an18 od19 an19 odT od20 an20 od21 an21 od22 an22 od23 an23 od24 an24 od25 an25 od26 an26 od27 an27 od28 an28 od29 an29 od30 an30 : Option Addr}
    {sl0 sl1 sl2 sl3 sl4 sl5 sl6 sl7 sl8 sl9 sl10 sl11 sl12 sl13 sl14 sl15 sl16 sl17 sl18 sl19 slT sl20 sl21 sl22 sl23 sl24 sl25 sl26 sl27 sl28 sl29 sl30 : Array (Option Value)} {nT : Nat} {rSh r28 r29 r30 : List Value} {tM tP : Tok}
    (z_isinstance : PySem.W.nsIn K mainGlobals "isinstance" = some none)
    (z_int : PySem.W.nsIn K mainGlobals "int" = some none)
    (z_bool : PySem.W.nsIn K mainGlobals "bool" = some none)
    (z_list : PySem.W.nsIn K mainGlobals "list" = some none)
    (z_tuple : PySem.W.nsIn K mainGlobals "tuple" = some none)
    (z_abs : PySem.W.nsIn K mainGlobals "abs" = some none)
    (z_len : PySem.W.nsIn K mainGlobals "len" = some none)
    (z_enumerate : PySem.W.nsIn K mainGlobals "enumerate" = some none)
    (z_range : PySem.W.nsIn K mainGlobals "range" = some none)
    (z_max : PySem.W.nsIn K mainGlobals "max" = some none)
    (z_min : PySem.W.nsIn K mainGlobals "min" = some none)
    (z_sum : PySem.W.nsIn K mainGlobals "sum" = some none)
    (z_all : PySem.W.nsIn K mainGlobals "all" = some none)
    (z_sorted : PySem.W.nsIn K mainGlobals "sorted" = some none)
    (z_divmod : PySem.W.nsIn K mainGlobals "divmod" = some none)
    (z_repr : PySem.W.nsIn K mainGlobals "repr" = some none)
    (a_Move : PySem.W.nsIn K mainGlobals "Move" = some (some (.ref cM)))
    (a_Plan : PySem.W.nsIn K mainGlobals "Plan" = some (some (.ref cP)))
    (a_Stream : PySem.W.nsIn K mainGlobals "Stream" = some (some (.ref cS)))
    (a0 : PySem.W.nsIn K mainGlobals "is_integer" = some (some (.ref f0)))
    (l0 : K.lookup f0 = some ⟨oc0, od0, .func (PySem.W.fnOf "is_integer" "is_integer" (defArgs s_is_integer) (defBody s_is_integer) (defScope s_is_integer) .none kV0 dc0 pm0 an0 cd0 ct0), sl0⟩)
    (c0 : PySem.W.codeIn K cd0 "is_integer" = true)
    (k0 : PySem.W.keepIn K (.ref f0) = true)
    (a1 : PySem.W.nsIn K mainGlobals "divisor_of_two" = some (some (.ref f1)))
    (l1 : K.lookup f1 = some ⟨oc1, od1, .func (PySem.W.fnOf "divisor_of_two" "divisor_of_two" (defArgs s_divisor_of_two) (defBody s_divisor_of_two) (defScope s_divisor_of_two) .none kV1 dc1 pm1 an1 cd1 ct1), sl1⟩)
    (c1 : PySem.W.codeIn K cd1 "divisor_of_two" = true)
    (k1 : PySem.W.keepIn K (.ref f1) = true)
    (a2 : PySem.W.nsIn K mainGlobals "common_multiple" = some (some (.ref f2)))
    (l2 : K.lookup f2 = some ⟨oc2, od2, .func (PySem.W.fnOf "common_multiple" "common_multiple" (defArgs s_common_multiple) (defBody s_common_multiple) (defScope s_common_multiple) .none kV2 dc2 pm2 an2 cd2 ct2), sl2⟩)
    (c2 : PySem.W.codeIn K cd2 "common_multiple" = true)
    (k2 : PySem.W.keepIn K (.ref f2) = true)
    (a3 : PySem.W.nsIn K mainGlobals "checked_table" = some (some (.ref f3)))
    (l3 : K.lookup f3 = some ⟨oc3, od3, .func (PySem.W.fnOf "checked_table" "checked_table" (defArgs s_checked_table) (defBody s_checked_table) (defScope s_checked_table) .none kV3 dc3 pm3 an3 cd3 ct3), sl3⟩)
    (c3 : PySem.W.codeIn K cd3 "checked_table" = true)
    (k3 : PySem.W.keepIn K (.ref f3) = true)
    (a4 : PySem.W.nsIn K mainGlobals "least_table" = some (some (.ref f4)))
    (l4 : K.lookup f4 = some ⟨oc4, od4, .func (PySem.W.fnOf "least_table" "least_table" (defArgs s_least_table) (defBody s_least_table) (defScope s_least_table) .none kV4 dc4 pm4 an4 cd4 ct4), sl4⟩)
    (c4 : PySem.W.codeIn K cd4 "least_table" = true)
    (k4 : PySem.W.keepIn K (.ref f4) = true)
    (a5 : PySem.W.nsIn K mainGlobals "joint_multiple" = some (some (.ref f5)))
    (l5 : K.lookup f5 = some ⟨oc5, od5, .func (PySem.W.fnOf "joint_multiple" "joint_multiple" (defArgs s_joint_multiple) (defBody s_joint_multiple) (defScope s_joint_multiple) .none kV5 dc5 pm5 an5 cd5 ct5), sl5⟩)
    (c5 : PySem.W.codeIn K cd5 "joint_multiple" = true)
    (k5 : PySem.W.keepIn K (.ref f5) = true)
    (a6 : PySem.W.nsIn K mainGlobals "moved" = some (some (.ref f6)))
    (l6 : K.lookup f6 = some ⟨oc6, od6, .func (PySem.W.fnOf "moved" "moved" (defArgs s_moved) (defBody s_moved) (defScope s_moved) .none kV6 dc6 pm6 an6 cd6 ct6), sl6⟩)
    (c6 : PySem.W.codeIn K cd6 "moved" = true)
    (k6 : PySem.W.keepIn K (.ref f6) = true)
    (a7 : PySem.W.nsIn K mainGlobals "joined_table" = some (some (.ref f7)))
    (l7 : K.lookup f7 = some ⟨oc7, od7, .func (PySem.W.fnOf "joined_table" "joined_table" (defArgs s_joined_table) (defBody s_joined_table) (defScope s_joined_table) .none kV7 dc7 pm7 an7 cd7 ct7), sl7⟩)
    (c7 : PySem.W.codeIn K cd7 "joined_table" = true)
    (k7 : PySem.W.keepIn K (.ref f7) = true)
    (a8 : PySem.W.nsIn K mainGlobals "sources_of" = some (some (.ref f8)))
    (l8 : K.lookup f8 = some ⟨oc8, od8, .func (PySem.W.fnOf "sources_of" "sources_of" (defArgs s_sources_of) (defBody s_sources_of) (defScope s_sources_of) .none kV8 dc8 pm8 an8 cd8 ct8), sl8⟩)
    (c8 : PySem.W.codeIn K cd8 "sources_of" = true)
    (k8 : PySem.W.keepIn K (.ref f8) = true)
    (a9 : PySem.W.nsIn K mainGlobals "delay" = some (some (.ref f9)))
    (l9 : K.lookup f9 = some ⟨oc9, od9, .func (PySem.W.fnOf "delay" "delay" (defArgs s_delay) (defBody s_delay) (defScope s_delay) .none kV9 dc9 pm9 an9 cd9 ct9), sl9⟩)
    (c9 : PySem.W.codeIn K cd9 "delay" = true)
    (k9 : PySem.W.keepIn K (.ref f9) = true)
    (a10 : PySem.W.nsIn K mainGlobals "delayed" = some (some (.ref f10)))
    (l10 : K.lookup f10 = some ⟨oc10, od10, .func (PySem.W.fnOf "delayed" "delayed" (defArgs s_delayed) (defBody s_delayed) (defScope s_delayed) .none kV10 dc10 pm10 an10 cd10 ct10), sl10⟩)
    (c10 : PySem.W.codeIn K cd10 "delayed" = true)
    (k10 : PySem.W.keepIn K (.ref f10) = true)
    (a11 : PySem.W.nsIn K mainGlobals "holds" = some (some (.ref f11)))
    (l11 : K.lookup f11 = some ⟨oc11, od11, .func (PySem.W.fnOf "holds" "holds" (defArgs s_holds) (defBody s_holds) (defScope s_holds) .none kV11 dc11 pm11 an11 cd11 ct11), sl11⟩)
    (c11 : PySem.W.codeIn K cd11 "holds" = true)
    (k11 : PySem.W.keepIn K (.ref f11) = true)
    (a12 : PySem.W.nsIn K mainGlobals "_law_pot" = some (some (.ref f12)))
    (l12 : K.lookup f12 = some ⟨oc12, od12, .func (PySem.W.fnOf "_law_pot" "_law_pot" (defArgs s__law_pot) (defBody s__law_pot) (defScope s__law_pot) .none kV12 dc12 pm12 an12 cd12 ct12), sl12⟩)
    (c12 : PySem.W.codeIn K cd12 "_law_pot" = true)
    (k12 : PySem.W.keepIn K (.ref f12) = true)
    (a13 : PySem.W.nsIn K mainGlobals "_law_draw" = some (some (.ref f13)))
    (l13 : K.lookup f13 = some ⟨oc13, od13, .func (PySem.W.fnOf "_law_draw" "_law_draw" (defArgs s__law_draw) (defBody s__law_draw) (defScope s__law_draw) .none kV13 dc13 pm13 an13 cd13 ct13), sl13⟩)
    (c13 : PySem.W.codeIn K cd13 "_law_draw" = true)
    (k13 : PySem.W.keepIn K (.ref f13) = true)
    (a14 : PySem.W.nsIn K mainGlobals "_law_shuffled" = some (some (.ref f14)))
    (l14 : K.lookup f14 = some ⟨oc14, od14, .func (PySem.W.fnOf "_law_shuffled" "_law_shuffled" (defArgs s__law_shuffled) (defBody s__law_shuffled) (defScope s__law_shuffled) .none kV14 dc14 pm14 an14 cd14 ct14), sl14⟩)
    (c14 : PySem.W.codeIn K cd14 "_law_shuffled" = true)
    (k14 : PySem.W.keepIn K (.ref f14) = true)
    (a15 : PySem.W.nsIn K mainGlobals "_law_table" = some (some (.ref f15)))
    (l15 : K.lookup f15 = some ⟨oc15, od15, .func (PySem.W.fnOf "_law_table" "_law_table" (defArgs s__law_table) (defBody s__law_table) (defScope s__law_table) .none kV15 dc15 pm15 an15 cd15 ct15), sl15⟩)
    (c15 : PySem.W.codeIn K cd15 "_law_table" = true)
    (k15 : PySem.W.keepIn K (.ref f15) = true)
    (a16 : PySem.W.nsIn K mainGlobals "_law_watched" = some (some (.ref f16)))
    (l16 : K.lookup f16 = some ⟨oc16, od16, .func (PySem.W.fnOf "_law_watched" "_law_watched" (defArgs s__law_watched) (defBody s__law_watched) (defScope s__law_watched) .none kV16 dc16 pm16 an16 cd16 ct16), sl16⟩)
    (c16 : PySem.W.codeIn K cd16 "_law_watched" = true)
    (k16 : PySem.W.keepIn K (.ref f16) = true)
    (a17 : PySem.W.nsIn K mainGlobals "_law_right" = some (some (.ref f17)))
    (l17 : K.lookup f17 = some ⟨oc17, od17, .func (PySem.W.fnOf "_law_right" "_law_right" (defArgs s__law_right) (defBody s__law_right) (defScope s__law_right) .none kV17 dc17 pm17 an17 cd17 ct17), sl17⟩)
    (c17 : PySem.W.codeIn K cd17 "_law_right" = true)
    (k17 : PySem.W.keepIn K (.ref f17) = true)
    (a18 : PySem.W.nsIn K mainGlobals "law" = some (some (.ref f18)))
    (l18 : K.lookup f18 = some ⟨oc18, od18, .func (PySem.W.fnOf "law" "law" (defArgs s_law) (defBody s_law) (defScope s_law) .none kV18 dc18 pm18 an18 cd18 ct18), sl18⟩)
    (c18 : PySem.W.codeIn K cd18 "law" = true)
    (k18 : PySem.W.keepIn K (.ref f18) = true)
    (a19 : PySem.W.nsIn K mainGlobals "require_integer" = some (some (.ref f19)))
    (l19 : K.lookup f19 = some ⟨oc19, od19, .func (PySem.W.fnOf "require_integer" "require_integer" (defArgs s_require_integer) (defBody s_require_integer) (defScope s_require_integer) (.ref dT) kV19 dc19 pm19 an19 cd19 ct19), sl19⟩)
    (c19 : PySem.W.codeIn K cd19 "require_integer" = true)
    (k19 : PySem.W.keepIn K (.ref f19) = true)
    (lT : K.lookup dT = some ⟨ocT, odT, .seq [Value.none].toArray nT, slT⟩)
    (pgP : PySem.W.plainGet K cP Str.empty = true)
    (hdP : PySem.W.hasDictIn K cP = true)
    (poP : PySem.W.plainOver K cP = true)
    (saP : PySem.W.findIn K (.ref cP) "__setattr__" = some (some (.builtin "object.__setattr__")))
    (mkP : PySem.W.makesIn K cP = true)
    (kcP : PySem.W.keepIn K (.ref cP) = true)
    (pgS : PySem.W.plainGet K cS Str.empty = true)
    (hdS : PySem.W.hasDictIn K cS = true)
    (poS : PySem.W.plainOver K cS = true)
    (saS : PySem.W.findIn K (.ref cS) "__setattr__" = some (some (.builtin "object.__setattr__")))
    (mkS : PySem.W.makesIn K cS = true)
    (kcS : PySem.W.keepIn K (.ref cS) = true)
    (nP1 : PySem.W.findIn K (.ref cP) "own_offsets" = some none)
    (nP2 : PySem.W.findIn K (.ref cP) "own_sources" = some none)
    (nS1 : PySem.W.findIn K (.ref cS) "own_delivery" = some none)
    (nS2 : PySem.W.findIn K (.ref cS) "own_gap" = some none)
    (nS3 : PySem.W.findIn K (.ref cS) "own_moment" = some none)
    (nS4 : PySem.W.findIn K (.ref cS) "own_leaving" = some none)
    (rdM : PySem.W.readsIn K cM (.type "type") = true)
    (gaM : PySem.W.specialIn K (.ref cM) "__getattribute__" = some (some (.builtin "type.__getattribute__")))
    (cvM : PySem.W.findCls K (.ref cM) (.type "type") "MAX_PERIOD" = some (.val (.int 2520 tM)))
    (rdP : PySem.W.readsIn K cP (.type "type") = true)
    (gaP : PySem.W.specialIn K (.ref cP) "__getattribute__" = some (some (.builtin "type.__getattribute__")))
    (cvP : PySem.W.findCls K (.ref cP) (.type "type") "SIGN" = some (.val (.int 1 tP)))
    (a20 : PySem.W.findIn K (.ref cP) "__init__" = some (some (.ref f20)))
    (i20 : PySem.W.isFn K (.ref f20) = true)
    (l20 : K.lookup f20 = some ⟨oc20, od20, .func (PySem.W.fnOf "__init__" "Plan.__init__" (defArgs s_Plan_init) (defBody s_Plan_init) (defScope s_Plan_init) .none kV20 dc20 pm20 an20 cd20 ct20), sl20⟩)
    (c20 : PySem.W.codeIn K cd20 "Plan.__init__" = true)
    (k20 : PySem.W.keepIn K (.ref f20) = true)
    (a21 : PySem.W.findIn K (.ref cS) "__init__" = some (some (.ref f21)))
    (i21 : PySem.W.isFn K (.ref f21) = true)
    (l21 : K.lookup f21 = some ⟨oc21, od21, .func (PySem.W.fnOf "__init__" "Stream.__init__" (defArgs s_Stream_init) (defBody s_Stream_init) (defScope s_Stream_init) .none (.ref dK) dc21 pm21 an21 cd21 ct21), sl21⟩)
    (c21 : PySem.W.codeIn K cd21 "Stream.__init__" = true)
    (k21 : PySem.W.keepIn K (.ref f21) = true)
    (nG : PySem.W.nsIn K dK "gap" = some (some Value.none))
    (aSh : PySem.W.findCls K (.ref cP) (.type "type") "shift" = some (.get (.builtin "classmethod.__get__") (.ref pSh) .none (.ref cP)))
    (rcSh : PySem.W.recIn K pSh "classmethod" = some (.ref f22 :: rSh))
    (fiSh : PySem.W.fnIn K f22 = true)
    (l22 : K.lookup f22 = some ⟨oc22, od22, .func (PySem.W.fnOf "shift" "Plan.shift" (defArgs s_Plan_shift) (defBody s_Plan_shift) (defScope s_Plan_shift) .none kV22 dc22 pm22 an22 cd22 ct22), sl22⟩)
    (c22 : PySem.W.codeIn K cd22 "Plan.shift" = true)
    (k22 : PySem.W.keepIn K (.ref f22) = true)
    (a23 : PySem.W.findIn K (.ref cP) "offsets" = some (some (.ref f23)))
    (i23 : PySem.W.isFn K (.ref f23) = true)
    (l23 : K.lookup f23 = some ⟨oc23, od23, .func (PySem.W.fnOf "offsets" "Plan.offsets" (defArgs s_Plan_offsets) (defBody s_Plan_offsets) (defScope s_Plan_offsets) .none kV23 dc23 pm23 an23 cd23 ct23), sl23⟩)
    (c23 : PySem.W.codeIn K cd23 "Plan.offsets" = true)
    (k23 : PySem.W.keepIn K (.ref f23) = true)
    (a24 : PySem.W.findIn K (.ref cP) "at" = some (some (.ref f24)))
    (i24 : PySem.W.isFn K (.ref f24) = true)
    (l24 : K.lookup f24 = some ⟨oc24, od24, .func (PySem.W.fnOf "at" "Plan.at" (defArgs s_Plan_at) (defBody s_Plan_at) (defScope s_Plan_at) .none kV24 dc24 pm24 an24 cd24 ct24), sl24⟩)
    (c24 : PySem.W.codeIn K cd24 "Plan.at" = true)
    (k24 : PySem.W.keepIn K (.ref f24) = true)
    (a25 : PySem.W.findIn K (.ref cP) "then" = some (some (.ref f25)))
    (i25 : PySem.W.isFn K (.ref f25) = true)
    (l25 : K.lookup f25 = some ⟨oc25, od25, .func (PySem.W.fnOf "then" "Plan.then" (defArgs s_Plan_then) (defBody s_Plan_then) (defScope s_Plan_then) .none kV25 dc25 pm25 an25 cd25 ct25), sl25⟩)
    (c25 : PySem.W.codeIn K cd25 "Plan.then" = true)
    (k25 : PySem.W.keepIn K (.ref f25) = true)
    (a26 : PySem.W.findIn K (.ref cS) "push" = some (some (.ref f26)))
    (i26 : PySem.W.isFn K (.ref f26) = true)
    (l26 : K.lookup f26 = some ⟨oc26, od26, .func (PySem.W.fnOf "push" "Stream.push" (defArgs s_Stream_push) (defBody s_Stream_push) (defScope s_Stream_push) .none kV26 dc26 pm26 an26 cd26 ct26), sl26⟩)
    (c26 : PySem.W.codeIn K cd26 "Stream.push" = true)
    (k26 : PySem.W.keepIn K (.ref f26) = true)
    (a27 : PySem.W.findIn K (.ref cS) "rest" = some (some (.ref f27)))
    (i27 : PySem.W.isFn K (.ref f27) = true)
    (l27 : K.lookup f27 = some ⟨oc27, od27, .func (PySem.W.fnOf "rest" "Stream.rest" (defArgs s_Stream_rest) (defBody s_Stream_rest) (defScope s_Stream_rest) .none kV27 dc27 pm27 an27 cd27 ct27), sl27⟩)
    (c27 : PySem.W.codeIn K cd27 "Stream.rest" = true)
    (k27 : PySem.W.keepIn K (.ref f27) = true)
    (a28 : PySem.W.findIn K (.ref cP) "flow" = some (some (.ref p28)))
    (g28 : PySem.W.specialIn K (.ref p28) "__get__" = some (some (.builtin "property.__get__")))
    (t28 : PySem.W.takesIn K (.ref p28) = some true)
    (r28c : PySem.W.recIn K p28 "property" = some (.ref f28 :: r28))
    (l28 : K.lookup f28 = some ⟨oc28, od28, .func (PySem.W.fnOf "flow" "Plan.flow" (defArgs s_Plan_flow) (defBody s_Plan_flow) (defScope s_Plan_flow) .none kV28 dc28 pm28 an28 cd28 ct28), sl28⟩)
    (c28 : PySem.W.codeIn K cd28 "Plan.flow" = true)
    (k28 : PySem.W.keepIn K (.ref f28) = true)
    (a29 : PySem.W.findIn K (.ref cS) "moment" = some (some (.ref p29)))
    (g29 : PySem.W.specialIn K (.ref p29) "__get__" = some (some (.builtin "property.__get__")))
    (t29 : PySem.W.takesIn K (.ref p29) = some true)
    (r29c : PySem.W.recIn K p29 "property" = some (.ref f29 :: r29))
    (l29 : K.lookup f29 = some ⟨oc29, od29, .func (PySem.W.fnOf "moment" "Stream.moment" (defArgs s_Stream_moment) (defBody s_Stream_moment) (defScope s_Stream_moment) .none kV29 dc29 pm29 an29 cd29 ct29), sl29⟩)
    (c29 : PySem.W.codeIn K cd29 "Stream.moment" = true)
    (k29 : PySem.W.keepIn K (.ref f29) = true)
    (a30 : PySem.W.findIn K (.ref cS) "waiting" = some (some (.ref p30)))
    (g30 : PySem.W.specialIn K (.ref p30) "__get__" = some (some (.builtin "property.__get__")))
    (t30 : PySem.W.takesIn K (.ref p30) = some true)
    (r30c : PySem.W.recIn K p30 "property" = some (.ref f30 :: r30))
    (l30 : K.lookup f30 = some ⟨oc30, od30, .func (PySem.W.fnOf "waiting" "Stream.waiting" (defArgs s_Stream_waiting) (defBody s_Stream_waiting) (defScope s_Stream_waiting) .none kV30 dc30 pm30 an30 cd30 ct30), sl30⟩)
    (c30 : PySem.W.codeIn K cd30 "Stream.waiting" = true)
    (k30 : PySem.W.keepIn K (.ref f30) = true) : Txt K mg cM cP cS where
  g_isinstance := PySem.W.mg_none_of X G z_isinstance
  g_int := PySem.W.mg_none_of X G z_int
  g_bool := PySem.W.mg_none_of X G z_bool
  g_list := PySem.W.mg_none_of X G z_list
  g_tuple := PySem.W.mg_none_of X G z_tuple
  g_abs := PySem.W.mg_none_of X G z_abs
  g_len := PySem.W.mg_none_of X G z_len
  g_enumerate := PySem.W.mg_none_of X G z_enumerate
  g_range := PySem.W.mg_none_of X G z_range
  g_max := PySem.W.mg_none_of X G z_max
  g_min := PySem.W.mg_none_of X G z_min
  g_sum := PySem.W.mg_none_of X G z_sum
  g_all := PySem.W.mg_none_of X G z_all
  g_sorted := PySem.W.mg_none_of X G z_sorted
  g_divmod := PySem.W.mg_none_of X G z_divmod
  g_repr := PySem.W.mg_none_of X G z_repr
  m_Move := PySem.W.mg_of X G a_Move
  m_Plan := PySem.W.mg_of X G a_Plan
  m_Stream := PySem.W.mg_of X G a_Stream
  d_is_integer := ⟨f0, _, fun_mk l0 c0 k0, PySem.W.mg_of X G a0⟩
  d_divisor_of_two := ⟨f1, _, fun_mk l1 c1 k1, PySem.W.mg_of X G a1⟩
  d_common_multiple := ⟨f2, _, fun_mk l2 c2 k2, PySem.W.mg_of X G a2⟩
  d_checked_table := ⟨f3, _, fun_mk l3 c3 k3, PySem.W.mg_of X G a3⟩
  d_least_table := ⟨f4, _, fun_mk l4 c4 k4, PySem.W.mg_of X G a4⟩
  d_joint_multiple := ⟨f5, _, fun_mk l5 c5 k5, PySem.W.mg_of X G a5⟩
  d_moved := ⟨f6, _, fun_mk l6 c6 k6, PySem.W.mg_of X G a6⟩
  d_joined_table := ⟨f7, _, fun_mk l7 c7 k7, PySem.W.mg_of X G a7⟩
  d_sources_of := ⟨f8, _, fun_mk l8 c8 k8, PySem.W.mg_of X G a8⟩
  d_delay := ⟨f9, _, fun_mk l9 c9 k9, PySem.W.mg_of X G a9⟩
  d_delayed := ⟨f10, _, fun_mk l10 c10 k10, PySem.W.mg_of X G a10⟩
  d_holds := ⟨f11, _, fun_mk l11 c11 k11, PySem.W.mg_of X G a11⟩
  d__law_pot := ⟨f12, _, fun_mk l12 c12 k12, PySem.W.mg_of X G a12⟩
  d__law_draw := ⟨f13, _, fun_mk l13 c13 k13, PySem.W.mg_of X G a13⟩
  d__law_shuffled := ⟨f14, _, fun_mk l14 c14 k14, PySem.W.mg_of X G a14⟩
  d__law_table := ⟨f15, _, fun_mk l15 c15 k15, PySem.W.mg_of X G a15⟩
  d__law_watched := ⟨f16, _, fun_mk l16 c16 k16, PySem.W.mg_of X G a16⟩
  d__law_right := ⟨f17, _, fun_mk l17 c17 k17, PySem.W.mg_of X G a17⟩
  d_law := ⟨f18, _, fun_mk l18 c18 k18, PySem.W.mg_of X G a18⟩
  d_require_integer := ⟨f19, _, ⟨⟨oc19, od19, .ref dT, kV19, dc19, pm19, an19, cd19, ct19, sl19, rfl, l19, c19,   .inr ⟨(fun e => by cases e), dT, _, [Value.none], nT, rfl, lT, rfl, .cons rfl .nil⟩, .inl rfl⟩, k19⟩, PySem.W.mg_of X G a19⟩
  clP := ⟨pgP, hdP, poP, saP⟩
  clS := ⟨pgS, hdS, poS, saS⟩
  nP1 := nP1
  nP2 := nP2
  nS1 := nS1
  nS2 := nS2
  nS3 := nS3
  nS4 := nS4
  rdM := ⟨.type "type", _, ⟨rdM, gaM⟩, ⟨cvM, ⟨_, rfl⟩⟩⟩
  rdP := ⟨.type "type", _, ⟨rdP, gaP⟩, ⟨cvP, ⟨_, rfl⟩⟩⟩
  i_Plan := ⟨f20, _, ⟨mkP, a20, i20, kcP⟩, fun_mk l20 c20 k20⟩
  i_Stream := ⟨f21, _, ⟨mkS, a21, i21, kcS⟩, ⟨oc21, od21, .none, .ref dK, dc21, pm21, an21, cd21, ct21, sl21, rfl, l21, c21, .inl ⟨rfl, rfl⟩, .inr ⟨dK, rfl, fun q hq => by cases List.mem_singleton.mp hq; exact ⟨_, nG, rfl⟩⟩⟩, k21⟩
  me_Plan_shift := ⟨.type "type", pSh, f22, _, ⟨rdP, gaP⟩, ⟨aSh, ⟨rSh, rcSh⟩, fiSh⟩, fun_mk l22 c22 k22⟩
  me_Plan_offsets := ⟨f23, _, fun_mk l23 c23 k23, ⟨a23, i23, k23⟩⟩
  me_Plan_at := ⟨f24, _, fun_mk l24 c24 k24, ⟨a24, i24, k24⟩⟩
  me_Plan_then := ⟨f25, _, fun_mk l25 c25 k25, ⟨a25, i25, k25⟩⟩
  me_Stream_push := ⟨f26, _, fun_mk l26 c26 k26, ⟨a26, i26, k26⟩⟩
  me_Stream_rest := ⟨f27, _, fun_mk l27 c27 k27, ⟨a27, i27, k27⟩⟩
  pr_Plan_flow := ⟨p28, f28, _, fun_mk l28 c28 k28, ⟨a28, g28, t28, ⟨r28, r28c⟩⟩⟩
  pr_Stream_moment := ⟨p29, f29, _, fun_mk l29 c29 k29, ⟨a29, g29, t29, ⟨r29, r29c⟩⟩⟩
  pr_Stream_waiting := ⟨p30, f30, _, fun_mk l30 c30 k30, ⟨a30, g30, t30, ⟨r30, r30c⟩⟩⟩
theorem g_law_at {P : Program} {w : World} {K : PySem.W.Frag} {mg : Str → Option Value} {base : Heap} {cM cP cS fa : Addr} (T : Txt K mg cM cP cS) (h : mg "law" = some (.ref fa)) : FnG P w K mg base 11 fa (sp_law K) := by
  obtain ⟨f, F, hm⟩ := g_law (P := P) (w := w) (base := base) T
  have e := h.symm.trans hm
  cases e
  exact F
end My

end
section
open PySem PySem.W PyProof.Rows
set_option linter.all false
set_option maxRecDepth 100000 in
set_option maxHeartbeats 0 in
theorem PySem.Challenge.cw_threeswaps_k36_whole_streams_hold_so_man_holds : PySem.Challenge.rw_threeswaps_k36_whole_streams_hold_so_man.Holds := by
  w_on; o_law; k_head; (case hw => w_witness2)
  k_fill
  refine My.walk_ofG (l := PySem.Challenge.rw_threeswaps_k36_whole_streams_hold_so_man) (n := 63) (k := 11) (sp := fun w => My.sp_law _) rfl (by decide) rfl ⟨rfl, by decide, by decide⟩ (fun w h Y => PySem.W.kIn_of Y) ?F (fun w H a ns hl hb _ hS => ⟨a, ns, rfl, hS, hl, fun _ => rfl⟩)
  case F =>
    intro w mg fa h KX G hmg base hb hn
    refine' My.g_law_at (base := base) (My.all_mk KX G ?z_isinstance ?z_int ?z_bool ?z_list ?z_tuple ?z_abs ?z_len ?z_enumerate ?z_range ?z_max ?z_min ?z_sum ?z_all ?z_sorted ?z_divmod ?z_repr ?a_Move ?a_Plan ?a_Stream ?a0 ?l0 ?c0 ?k0 ?a1 ?l1 ?c1 ?k1 ?a2 ?l2 ?c2 ?k2 ?a3 ?l3 ?c3 ?k3 ?a4 ?l4 ?c4 ?k4 ?a5 ?l5 ?c5 ?k5 ?a6 ?l6 ?c6 ?k6 ?a7 ?l7 ?c7 ?k7 ?a8 ?l8 ?c8 ?k8 ?a9 ?l9 ?c9 ?k9 ?a10 ?l10 ?c10 ?k10 ?a11 ?l11 ?c11 ?k11 ?a12 ?l12 ?c12 ?k12 ?a13 ?l13 ?c13 ?k13 ?a14 ?l14 ?c14 ?k14 ?a15 ?l15 ?c15 ?k15 ?a16 ?l16 ?c16 ?k16 ?a17 ?l17 ?c17 ?k17 ?a18 ?l18 ?c18 ?k18 ?a19 ?l19 ?c19 ?k19 ?lT ?pgP ?hdP ?poP ?saP ?mkP ?kcP ?pgS ?hdS ?poS ?saS ?mkS ?kcS ?nP1 ?nP2 ?nS1 ?nS2 ?nS3 ?nS4 ?rdM ?gaM ?cvM ?rdP ?gaP ?cvP ?a20 ?i20 ?l20 ?c20 ?k20 ?a21 ?i21 ?l21 ?c21 ?k21 ?nG ?aSh ?rcSh ?fiSh ?l22 ?c22 ?k22 ?a23 ?i23 ?l23 ?c23 ?k23 ?a24 ?i24 ?l24 ?c24 ?k24 ?a25 ?i25 ?l25 ?c25 ?k25 ?a26 ?i26 ?l26 ?c26 ?k26 ?a27 ?i27 ?l27 ?c27 ?k27 ?a28 ?g28 ?t28 ?r28c ?l28 ?c28 ?k28 ?a29 ?g29 ?t29 ?r29c ?l29 ?c29 ?k29 ?a30 ?g30 ?t30 ?r30c ?l30 ?c30 ?k30) hmg
    (case z_isinstance => k_is)
    (case z_int => k_is)
    (case z_bool => k_is)
    (case z_list => k_is)
    (case z_tuple => k_is)
    (case z_abs => k_is)
    (case z_len => k_is)
    (case z_enumerate => k_is)
    (case z_range => k_is)
    (case z_max => k_is)
    (case z_min => k_is)
    (case z_sum => k_is)
    (case z_all => k_is)
    (case z_sorted => k_is)
    (case z_divmod => k_is)
    (case z_repr => k_is)
    (case a_Move => k_is)
    (case a_Plan => k_is)
    (case a_Stream => k_is)
    (case a0 => k_is)
    (case l0 => k_is)
    (case c0 => k_is)
    (case k0 => k_is)
    (case a1 => k_is)
    (case l1 => k_is)
    (case c1 => k_is)
    (case k1 => k_is)
    (case a2 => k_is)
    (case l2 => k_is)
    (case c2 => k_is)
    (case k2 => k_is)
    (case a3 => k_is)
    (case l3 => k_is)
    (case c3 => k_is)
    (case k3 => k_is)
    (case a4 => k_is)
    (case l4 => k_is)
    (case c4 => k_is)
    (case k4 => k_is)
    (case a5 => k_is)
    (case l5 => k_is)
    (case c5 => k_is)
    (case k5 => k_is)
    (case a6 => k_is)
    (case l6 => k_is)
    (case c6 => k_is)
    (case k6 => k_is)
    (case a7 => k_is)
    (case l7 => k_is)
    (case c7 => k_is)
    (case k7 => k_is)
    (case a8 => k_is)
    (case l8 => k_is)
    (case c8 => k_is)
    (case k8 => k_is)
    (case a9 => k_is)
    (case l9 => k_is)
    (case c9 => k_is)
    (case k9 => k_is)
    (case a10 => k_is)
    (case l10 => k_is)
    (case c10 => k_is)
    (case k10 => k_is)
    (case a11 => k_is)
    (case l11 => k_is)
    (case c11 => k_is)
    (case k11 => k_is)
    (case a12 => k_is)
    (case l12 => k_is)
    (case c12 => k_is)
    (case k12 => k_is)
    (case a13 => k_is)
    (case l13 => k_is)
    (case c13 => k_is)
    (case k13 => k_is)
    (case a14 => k_is)
    (case l14 => k_is)
    (case c14 => k_is)
    (case k14 => k_is)
    (case a15 => k_is)
    (case l15 => k_is)
    (case c15 => k_is)
    (case k15 => k_is)
    (case a16 => k_is)
    (case l16 => k_is)
    (case c16 => k_is)
    (case k16 => k_is)
    (case a17 => k_is)
    (case l17 => k_is)
    (case c17 => k_is)
    (case k17 => k_is)
    (case a18 => k_is)
    (case l18 => k_is)
    (case c18 => k_is)
    (case k18 => k_is)
    (case a19 => k_is)
    (case l19 => k_is)
    (case c19 => k_is)
    (case k19 => k_is)
    (case lT => k_is)
    (case pgP => k_is)
    (case hdP => k_is)
    (case poP => k_is)
    (case saP => k_is)
    (case mkP => k_is)
    (case kcP => k_is)
    (case pgS => k_is)
    (case hdS => k_is)
    (case poS => k_is)
    (case saS => k_is)
    (case mkS => k_is)
    (case kcS => k_is)
    (case nP1 => k_is)
    (case nP2 => k_is)
    (case nS1 => k_is)
    (case nS2 => k_is)
    (case nS3 => k_is)
    (case nS4 => k_is)
    (case rdM => k_is)
    (case gaM => k_is)
    (case cvM => k_is)
    (case rdP => k_is)
    (case gaP => k_is)
    (case cvP => k_is)
    (case a20 => k_is)
    (case i20 => k_is)
    (case l20 => k_is)
    (case c20 => k_is)
    (case k20 => k_is)
    (case a21 => k_is)
    (case i21 => k_is)
    (case l21 => k_is)
    (case c21 => k_is)
    (case k21 => k_is)
    (case nG => k_is)
    (case aSh => k_is)
    (case rcSh => k_is)
    (case fiSh => k_is)
    (case l22 => k_is)
    (case c22 => k_is)
    (case k22 => k_is)
    (case a23 => k_is)
    (case i23 => k_is)
    (case l23 => k_is)
    (case c23 => k_is)
    (case k23 => k_is)
    (case a24 => k_is)
    (case i24 => k_is)
    (case l24 => k_is)
    (case c24 => k_is)
    (case k24 => k_is)
    (case a25 => k_is)
    (case i25 => k_is)
    (case l25 => k_is)
    (case c25 => k_is)
    (case k25 => k_is)
    (case a26 => k_is)
    (case i26 => k_is)
    (case l26 => k_is)
    (case c26 => k_is)
    (case k26 => k_is)
    (case a27 => k_is)
    (case i27 => k_is)
    (case l27 => k_is)
    (case c27 => k_is)
    (case k27 => k_is)
    (case a28 => k_is)
    (case g28 => k_is)
    (case t28 => k_is)
    (case r28c => k_is)
    (case l28 => k_is)
    (case c28 => k_is)
    (case k28 => k_is)
    (case a29 => k_is)
    (case g29 => k_is)
    (case t29 => k_is)
    (case r29c => k_is)
    (case l29 => k_is)
    (case c29 => k_is)
    (case k29 => k_is)
    (case a30 => k_is)
    (case g30 => k_is)
    (case t30 => k_is)
    (case r30c => k_is)
    (case l30 => k_is)
    (case c30 => k_is)
    (case k30 => k_is)

end
