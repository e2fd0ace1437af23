import PyProof.Rows.All
import Wide.All
import OpenK.AllK
import Wide.FinOn
import HandS.GenYield
import HandS.Base
import HandS.Call
import HandS.List
import HandS.Comp
import HandS.Ends
import HandS.EndBits
import HandS.More
import HandS.Words
import PyProof.ReprRoads
import HandS.ForMost
import HandS.Star
import HandS.Defaults
import HandS.ClsMeth
import HandS.Property
import HandS.MakeKwOnly
import HandS.IsInst
import HandS.Conv
import HandS.DictComp
import HandS.SortInts
import HandS.Wide
import HandS.WideBits
import HandS.GenList
import PySem.Challenge.RW_threeswaps_k35_whole_streams_by_own_mode
set_option Elab.async false
section
set_option linter.all false
set_option maxRecDepth 100000
set_option maxHeartbeats 1000000
/-! a for that yields, within a generator def -/
namespace My
open PySem PySem.Spec PyProof.Rows GenW L2

section
variable {M : Model} {A : Around} {R : GenEnd} {Y : Protocol} {n : Nat} {s₀ : Shared} {c : Code} {fs : List Frame} {s : Shared} {env : Env}
  {K : Flow → Sem PySem.Fin} {J : Value → Sem PySem.Fin} {gd : Bool → Bool} {lv : List Value → List Value}
/-- the statement's head: what is walked, its iterator, then the loop's own code -/
theorem seg_forHead {target iter : Expr} {body orelse : List Stmt} {pos : Pos}
    (hs : ∀ x, foldedSetIterable iter env x = pure x)
    (h : wpAny M (A.over c fs) (eval iter env) (fun x s1 => wpAny M (A.over c fs) (pyIter x) (fun it s2 =>
        ∀ p, Seg M A R Y n s₀ (.forLoop target it body orelse env) (M.den (.forLoop target it body orelse env))
          (.ret (fun r => ((match r with | .ok f => (.pure f : Sem Flow) | .error e => .raise e).onRaise (L2.cameBack env)).wrap K J gd lv) none (gd false) (lv []) c p [] :: fs) s2)
        (fun x s' => Seg M A R Y n s₀ c (J x) fs s') s1) (fun x s' => Seg M A R Y n s₀ c (J x) fs s') s) :
    Seg M A R Y n s₀ c ((exec (.For target iter body orelse pos) env).wrap K J gd lv) fs s := by
  rw [exec_For]
  show Seg M A R Y n s₀ c (.at pos fun _ => ((eval iter env >>= fun y => foldedSetIterable iter env y >>= fun x => standAt iter.pos >>= fun _ => holding [x] (pyIter x) >>= fun it => runOwn (.forLoop target it body orelse env) env).wrap K J gd lv)) fs s
  refine seg_at ?_
  rw [Sem.bind_eq_wrap', Sem.wrap_wrap]
  refine seg_wrap (wpAny_mono h (fun x s1 h1 => ?_) fun _ _ q => q)
  show Seg M A R Y n s₀ c ((foldedSetIterable iter env x >>= fun x => standAt iter.pos >>= fun _ => holding [x] (pyIter x) >>= fun it => runOwn (.forLoop target it body orelse env) env).wrap K J gd lv) fs s1
  rw [hs x]
  show Seg M A R Y n s₀ c (.at iter.pos fun _ => ((holding [x] (pyIter x) >>= fun it => runOwn (.forLoop target it body orelse env) env).wrap K J gd lv)) fs s1
  refine seg_at ?_
  rw [Sem.bind_eq_wrap', Sem.wrap_wrap]
  refine seg_wrap (wpAny_holding (wpAny_mono h1 (fun it s2 h2 => ?_) fun _ _ q => q))
  exact seg_call h2
end

section
variable {prog : Program} {w : World} {A : Around} {R : GenEnd} {Y : Protocol} {n : Nat} {s₀ : Shared} {fs : List Frame} {s : Shared} {env : Env}
/-- what is noted of an exception that leaves a turn -/
abbrev notes (env : Env) (e : Value) : Sem PySem.Fin := (do noteFrame e env; theTreesLotGoes e : Sem Unit).wrap (fun _ => .raise e) .raise id id
theorem seg_forTurn {target : Expr} {it : Value} {body orelse : List Stmt} {EE : Value → Shared → Prop}
    (hE : ∀ x s', EE x s' → Seg (model prog w) A R Y n s₀ (.forLoop target it body orelse env) (notes env x) fs s')
    (h : wpAny (model prog w) (A.over (.forLoop target it body orelse env) fs) (pyNext it) (fun r s1 => match r with
        | none => Seg (model prog w) A R Y n s₀ (.forLoop target it body orelse env) (.pure (.again (.block orelse env))) fs s1
        | some v => wpAny (model prog w) (A.over (.forLoop target it body orelse env) fs) (letOwnedTupleGo target it v) (fun _ s2 =>
            wpAny (model prog w) (A.over (.forLoop target it body orelse env) fs) (assign target env v) (fun _ s3 =>
              Seg (model prog w) A R Y n s₀ (.forLoop target it body orelse env) ((execs body env).wrap (fun f => match f with
                | .next | .cont => .pure (.again (.forLoop target it body orelse env))
                | .brk => .pure (.done .next)
                | .ret v => .pure (.done (.ret v))) (notes env) id id) fs s3) EE s2) EE s1) EE s) :
    Seg (model prog w) A R Y n s₀ (.forLoop target it body orelse env) ((model prog w).den (.forLoop target it body orelse env)) fs s := by
  show Seg _ A R Y n s₀ _ ((forTurn target it body orelse env).onRaise (fun x => do noteFrame x env; theTreesLotGoes x)) fs s
  have hN : ∀ e : Value, ((do noteFrame e env; theTreesLotGoes e : Sem Unit).bind fun _ => (Sem.raise e : Sem PySem.Fin)) = notes env e := fun e => Sem.bind_eq_wrap _ _
  unfold forTurn
  rw [Sem.onRaise_eq_wrap]
  refine seg_at ?_
  show Seg _ A R Y n s₀ _ (Sem.wrap _ _ _ _ (Sem.bind ((pyNext it).onRaise _) _)) fs s
  rw [Sem.bind_eq_wrap, Sem.wrap_wrap, Sem.onRaise_eq_wrap, Sem.wrap_wrap]
  refine seg_wrap (wpAny_mono h (fun r s1 h1 => ?_) fun x s1 h1 => ?_)
  · cases r with
    | none => exact h1
    | some v =>
      show Seg _ A R Y n s₀ _ (Sem.wrap _ _ _ _ (letOwnedTupleGo target it v >>= _)) fs s1
      rw [Sem.bind_eq_wrap', Sem.wrap_wrap]
      refine seg_wrap (wpAny_mono h1 (fun _ s2 h2 => ?_) fun x s2 h2 => ?_)
      · show Seg _ A R Y n s₀ _ (Sem.wrap _ _ _ _ (assign target env v >>= _)) fs s2
        rw [Sem.bind_eq_wrap', Sem.wrap_wrap]
        refine seg_wrap (wpAny_mono h2 (fun _ s3 h3 => ?_) fun x s3 h3 => ?_)
        · show Seg _ A R Y n s₀ _ (Sem.wrap _ _ _ _ (execs body env >>= _)) fs s3
          rw [Sem.bind_eq_wrap', Sem.wrap_wrap]
          rw [Sem.wrap_congr (execs body env) _ _ (K' := fun f => match f with
            | .next | .cont => .pure (.again (.forLoop target it body orelse env))
            | .brk => .pure (.done .next)
            | .ret v => .pure (.done (.ret v))) (H' := notes env) (fun f => by cases f <;> rfl) (fun e => by exact hN e)]
          exact h3
        · have q := hE x s3 h3
          rw [← hN x] at q
          exact q
      · have q := hE x s2 h2
        rw [← hN x] at q
        exact q
  · refine seg_at ?_
    have q := hE x s1 h1
    rw [← hN x] at q
    exact q
end

section
variable {X : Cx}
/-- for .. that yields: W by the turn, a measure, what is out so far, the slots and the heap -/
def tGFor (wi : TI) (g : TG) (tb : TGn) : TGn := fun D ys σ H => wi σ H fun J H1 => ∃ W : Nat → Nat → List V → L2.St → Hp → Prop, (∃ m, W 0 m ys σ H1) ∧ ∀ i m ys σ H, W i m ys σ H →
  (J.stop i H ∧ D.nx ys σ H) ∨ (J.go i H ∧ ∃ N : List V → L2.St → Hp → Prop, (∀ ys' σ' H', N ys' σ' H' → ∃ m', m' < m ∧ W (i + 1) m' ys' σ' H') ∧
    ∀ x H', J.yld i H x H' → g x σ H' fun σ2 H2 => tb { D with nx := N, ct := N, bk := D.nx } ys σ2 H2)
theorem gs_for {tg iter : Expr} {body : List Stmt} {wi : TI} {g : TG} {tb : TGn} {pos : Pos} (hp : PassesOwn (model X.prog X.w) X.A X.env X.xe) (hc : X.calm = true) (hi : PI X tg iter wi) (hg : PG X tg g) (hb : GSs X body tb)
    (hs : ∀ x, foldedSetIterable iter X.env x = pure x := by intro _; rfl) : GS X (.For tg iter body [] pos) (tGFor wi g tb) := by
  refine ⟨fun A S ip R n ys s₀ c fs K J gd lv s σ H D gc hn k hI ht => ?_⟩
  obtain ⟨acc, cc, rv, I⟩ := hI
  refine seg_forHead hs ?_
  rw [gc.over]
  refine wpAny_mono (hi.run _ s σ H _ I ht) (fun v s1 h1 => wpAny_mono h1 (fun itv s2 h2 => ?_) fun x s' hx => k.exc n s₀ x s' hx) fun x s' hx => k.exc n s₀ x s' hx
  obtain ⟨it, fp, tn, JJ, H2, ei, I2, T, st2, f2, W, ⟨m0, w0⟩, turn⟩ := h2
  subst ei
  intro p
  have hit : ∀ b ∈ fp, S ≠ b := fun b hb => (f2 b hb).2.2.2.2.2 (S, lstObj acc cc) (List.mem_append_right _ List.mem_cons_self)
  have gl := fun (kk : Result → Sem PySem.Fin) => gc_loop (k := kk) (c' := .forLoop tg (.ref it) body [] X.env) (l := lv []) (kp := []) (p := p) gc rfl rfl
  have loop : ∀ (m i n : Nat) (ys : List V) (s₀ s : Shared) (σ : L2.St) (H : Hp), n + ys.length = sizeLine → W i m ys σ H → GI X S ip ys σ H s → tn i s.heap → (∀ b ∈ fp, H b = none) →
      Seg (model X.prog X.w) A R (GY X S) n s₀ (.forLoop tg (.ref it) body [] X.env) ((model X.prog X.w).den (.forLoop tg (.ref it) body [] X.env))
        (.ret (fun r => ((match r with | .ok f => (.pure f : Sem Flow) | .error e => .raise e).onRaise (L2.cameBack X.env)).wrap K J gd lv) none (gd false) (lv []) c p [] :: fs) s := by
    intro m
    induction m using Nat.strongRecOn with
    | ind m ih =>
      intro i n ys s₀ s σ H hn w hI st fr
      obtain ⟨acc1, cc1, r1, I1⟩ := hI
      have ee : ∀ (n : Nat) (s₀ : Shared) (x : Value) (s' : Shared), X.xe x s' → Seg (model X.prog X.w) A R (GY X S) n s₀ (.forLoop tg (.ref it) body [] X.env) (notes X.env x)
          (.ret (fun r => ((match r with | .ok f => (.pure f : Sem Flow) | .error e => .raise e).onRaise (L2.cameBack X.env)).wrap K J gd lv) none (gd false) (lv []) c p [] :: fs) s' := fun n s₀ x s' hx => by
        refine seg_wrap ?_
        rw [(gl _).over]
        refine wpAny_bind (wpAny_mono (hp x s' hx) (fun _ s'' hcb => wpAny_theTreesLotGoes ?_) fun y s'' hcb => ?_)
        · exact seg_leaf (.error x) (seg_cameBack gc k hcb)
        · exact seg_leaf (.error y) (seg_cameBack gc k hcb)
      have stat : ∀ {acc' : Array Value} {cc' : Nat} {H' : Hp}, (∀ b ∈ fp, H' b = none) → ∀ b ∈ fp, FpOk X ((S, lstObj acc' cc') :: ip) H' b := fun {acc' cc' H'} hn b hb => by
        obtain ⟨_, q1, q2, q3, q4, q5⟩ := f2 b hb
        refine ⟨hn b hb, q1, q2, q3, q4, fun pp hpp => ?_⟩
        rcases List.mem_append.mp hpp with z | z
        · exact q5 pp (List.mem_append_left _ z)
        · rcases List.mem_cons.mp z with z | z
          · rw [z]; exact hit b hb
          · exact q5 pp (List.mem_append_right _ (List.mem_cons_of_mem _ z))
      refine seg_forTurn (EE := X.xe) (fun x s' hx => ee n s₀ x s' hx) ?_
      rw [(gl _).over]
      rcases turn i m ys σ H w with ⟨stop, qn⟩ | ⟨go, N, hN, step⟩
      · refine wpAny_mono (T.done X rfl rfl rfl hc i _ s σ H X.xe I1 (stat fr) st stop) (fun r s4 ⟨hr, I4⟩ => ?_) fun _ _ q => q
        subst hr
        refine seg_again rfl ?_
        exact seg_leaf (.ok .next) (k.ok n ys s₀ s4 .next hn ⟨σ, H, ⟨acc1, cc1, r1, I4⟩, qn⟩)
      · refine wpAny_mono (T.item X rfl rfl rfl hc i _ s σ H X.xe I1 (stat fr) st go) (fun r s4 ⟨u, hr, h4⟩ => ?_) fun _ _ q => q
        subst hr
        refine wpAny_mono h4 (fun _ s5 ⟨x, H5, I5, r5, y5, st5, fr5⟩ => ?_) fun _ _ q => q
        have I5' := I5.pinned (stat fr5) (T.obj _ _ st5)
        refine wpAny_mono (hg.run _ s5 σ H5 x u _ I5' r5 (step x H5 y5)) (fun _ s6 ⟨σ6, H6, I6, q6⟩ => ?_) fun _ _ q => q
        have hip : ∀ pp ∈ ip ++ pinsAt fp s5.heap, pp.1 ≠ S := fun pp hpp => by
          rcases List.mem_append.mp hpp with z | z
          · exact gc.ip pp z
          · exact fun e => hit pp.1 (of_pinsAt z).1 e.symm
        have gl2 := gl (fun r => ((match r with | .ok f => (.pure f : Sem Flow) | .error e => .raise e).onRaise (L2.cameBack X.env)).wrap K J gd lv)
        have gl' : GC X S (ip ++ pinsAt fp s5.heap) A (.forLoop tg (.ref it) body [] X.env) (.ret (fun r => ((match r with | .ok f => (.pure f : Sem Flow) | .error e => .raise e).onRaise (L2.cameBack X.env)).wrap K J gd lv) none (gd false) (lv []) c p [] :: fs) id :=
          ⟨gl2.pn, hip, gl2.apart, gl2.over, gl2.split, gl2.guard, gl2.gd⟩
        have down : ∀ {ys' : List V} {σ' : L2.St} {H' : Hp} {s' : Shared}, GI X S (ip ++ pinsAt fp s5.heap) ys' σ' H' s' → GI X S ip ys' σ' H' s' ∧ tn (i + 1) s'.heap ∧ ∀ b ∈ fp, H' b = none := fun {ys' σ' H' s'} h => by
          obtain ⟨a', c', r', I'⟩ := h
          have hpin : ∀ b ∈ fp, ∀ o, s5.heap.get? b = some o → s'.heap.get? b = some o ∧ H' b = none := fun b hb o e => by
            have q := I'.pin (b, o) (List.mem_append_right _ (List.mem_cons_of_mem _ (List.mem_append_right _ (mem_pinsAt hb e))))
            exact ⟨q.1, q.2.1⟩
          refine ⟨⟨a', c', r', I'.pins_of fun pp hpp => ?_⟩, T.keep _ _ _ st5 fun b hb o e => (hpin b hb o e).1, fun b hb => ?_⟩
          · rcases List.mem_cons.mp hpp with z | z
            · rw [z]; exact I'.pin _ (List.mem_append_right _ List.mem_cons_self)
            · exact I'.pin pp (List.mem_append_right _ (List.mem_cons_of_mem _ (List.mem_append_left _ z)))
          · obtain ⟨o, e, _⟩ := T.obj _ _ st5 b hb
            exact (hpin b hb o e).2
        refine hb.run A S (ip ++ pinsAt fp s5.heap) R n ys s₀ _ _ _ _ id id s6 σ6 H6 { D with nx := N, ct := N, bk := D.nx } gl' hn ⟨fun n' ys' s₀' s7 f hn' hs => ?_, fun n' s₀' x s7 hx => ee n' s₀' x s7 hx⟩ ⟨acc1, cc1, r1, I6⟩ q6
        cases f with
        | next =>
          obtain ⟨σ7, H7, I7, n7⟩ := hs
          obtain ⟨m', hm, w7⟩ := hN ys' σ7 H7 n7
          obtain ⟨d1, d2, d3⟩ := down I7
          exact seg_again rfl (ih m' hm (i + 1) n' ys' s₀' s7 σ7 H7 hn' w7 d1 d2 d3)
        | cont =>
          obtain ⟨σ7, H7, I7, n7⟩ := hs
          obtain ⟨m', hm, w7⟩ := hN ys' σ7 H7 n7
          obtain ⟨d1, d2, d3⟩ := down I7
          exact seg_again rfl (ih m' hm (i + 1) n' ys' s₀' s7 σ7 H7 hn' w7 d1 d2 d3)
        | brk =>
          obtain ⟨σ7, H7, I7, q7⟩ := hs
          exact seg_leaf (.ok .next) (k.ok n' ys' s₀' s7 .next hn' ⟨σ7, H7, (down I7).1, q7⟩)
        | ret v =>
          obtain ⟨x7, σ7, H7, I7, r7, q7⟩ := hs
          exact seg_leaf (.ok (.ret v)) (k.ok n' ys' s₀' s7 (.ret v) hn' ⟨x7, σ7, H7, (down I7).1, r7, q7⟩)
  exact loop m0 0 n ys s₀ s2 σ H2 hn w0 ⟨acc, cc, rv, I2⟩ st2 fun b hb => (f2 b hb).1
/-- over a range -/
theorem gfor_range {lo : Int} {n : Nat} {g : TG} {tb : TGn} {D : GEnds} {ys : List V} {σ : L2.St} {H : Hp} (Pv : Nat → List V → L2.St → Hp → Prop) (h0 : Pv 0 ys σ H)
    (hs : ∀ i ys σ H, i < n → Pv i ys σ H → g (.int (lo + i)) σ H fun σ2 H2 => tb { D with nx := Pv (i + 1), ct := Pv (i + 1), bk := D.nx } ys σ2 H2) (hd : ∀ ys σ H, Pv n ys σ H → D.nx ys σ H) :
    ∃ W : Nat → Nat → List V → L2.St → Hp → Prop, (∃ m, W 0 m ys σ H) ∧ ∀ i m ys σ H, W i m ys σ H →
      ((Itr lo n).stop i H ∧ D.nx ys σ H) ∨ ((Itr lo n).go i H ∧ ∃ N : List V → L2.St → Hp → Prop, (∀ ys' σ' H', N ys' σ' H' → ∃ m', m' < m ∧ W (i + 1) m' ys' σ' H') ∧
        ∀ x H', (Itr lo n).yld i H x H' → g x σ H' fun σ2 H2 => tb { D with nx := N, ct := N, bk := D.nx } ys σ2 H2) := by
  refine ⟨fun i m ys σ H => i + m = n ∧ Pv i ys σ H, ⟨n, Nat.zero_add n, h0⟩, ?_⟩
  rintro i m ys σ H ⟨hm, q⟩
  by_cases hlt : i < n
  · refine Or.inr ⟨hlt, Pv (i + 1), fun ys' σ' H' q' => ⟨m - 1, by omega, by omega, q'⟩, fun x H' y => ?_⟩
    obtain ⟨e1, e2⟩ := y
    rw [e1, e2]
    exact hs i ys σ H hlt q
  · have e : i = n := by omega
    rw [e] at q
    exact Or.inl ⟨by show n ≤ i; omega, hd ys σ H q⟩
end
end My

end
section
set_option linter.all false
set_option maxRecDepth 100000
set_option maxHeartbeats 1000000
/-! defs whose run knows that no container is being shown (guards), so that repr of lists and tuples may be told -/
namespace My
open PySem PySem.Spec PyProof.Rows L2

/-! ### repr of data -/
section
variable {K : PySem.W.Frag} {H : Hp}
mutual
theorem dp_noDict : ∀ (d : PyData) (v : V), Dp K H v d → d.hasDict = false
  | .none, _, _ => by simp only [PyData.hasDict]
  | .bool _, _, _ => by simp only [PyData.hasDict]
  | .int _, _, _ => by simp only [PyData.hasDict]
  | .str _, _, _ => by simp only [PyData.hasDict]
  | .list ds, v, h => by
    cases h with
    | lst hs ha =>
      simp only [PyData.hasDict]
      exact dp_noDictAll ds _ ha
  | .tuple ds, v, h => by
    cases h with
    | tup hs ha =>
      simp only [PyData.hasDict]
      exact dp_noDictAll ds _ ha
  | .dict _, _, h => nomatch h
theorem dp_noDictAll : ∀ (ds : List PyData) (vs : List V), DpAll K H vs ds → PyData.hasDictAll ds = false
  | [], _, _ => by simp only [PyData.hasDictAll]
  | d :: ds, _, h => by
    cases h with
    | cons h1 h2 =>
      simp only [PyData.hasDictAll]
      rw [dp_noDict d _ h1, dp_noDictAll ds _ h2]
      rfl
end
end
/-- repr of a list or a tuple of data -/
def rReprD (K : PySem.W.Frag) : List V → Hp → VK → Prop := fun vs H Q => ∃ (a : Addr) (d : PyData), vs = [.ref a] ∧ Dp K H (.ref a) d ∧ d.showable = true ∧ d.depth ≤ 40 ∧ d.shown.length ≤ sizeLine ∧ Q (.str d.shown) H
section
variable {X : Cx}
theorem cr_reprD (hg : X.A.guards = some []) (hu : X.A.units + 64 < cLine) : CallR X (.builtin "repr") (rReprD X.K) := by
  intro pins s σ H vs us Q I r h
  obtain ⟨a, d, ev, hd, hs, hdep, hlen, q⟩ := h
  subst ev
  cases r with
  | cons r1 r2 =>
    cases r2
    rename_i u
    obtain rfl : u = Value.ref a := r1
    obtain ⟨as, rd⟩ := Dp.reads I d _ _ hd rfl
    refine repr_of_reads' rd hs (PyData.noDict_hsm (dp_noDict d _ hd)) hg (by omega) (fun _ _ e => e) (fun h' u tk hk => ?_) hlen
    exact ⟨.str d.shown, H, I.kept hk, ⟨u, rfl⟩, q⟩
end

/-! ### defs that know the guards -/
def FnG (P : Program) (w : World) (K : PySem.W.Frag) (mg : Str → Option Value) (base : Heap) (k : Nat) (f : Addr) (sp : Sp) : Prop :=
  ∀ (A : Around) (outer : List Env) (s : Shared) (H : Hp) (us : List Value) (vs : List V) (Q : VK), A.guards = some [] → Room k A → Env0 P w K mg base A outer s H → Vals vs us → sp vs H Q E0 →
    codeAny (model P w) A (.call (.ref f) ⟨us, []⟩) (CR CX0 outer P w H s Q E0) s
section
variable {P : Program} {w : World} {K : PySem.W.Frag} {mg : Str → Option Value} {base : Heap}
theorem FnG.mono {j k : Nat} {f : Addr} {sp : Sp} (F : FnG P w K mg base j f sp) (h : j ≤ k) : FnG P w K mg base k f sp := fun A outer s H us vs Q hg hr => F A outer s H us vs Q hg (hr.mono h)
theorem Fun.okG {x qual : Str} {st : Stmt} {f : Addr} {fd : FuncData} {N ps : List Str} {k : Nat} {sp : Sp} (F : Fun K x qual st f fd) (S : FnScope N ps (defScope st)) (hb : Binds K fd ps [])
    (len : ∀ vs H Q, sp vs H Q E0 → vs.length = ps.length)
    (hbody : ∀ (cdv : Value) (A : Around) (outer : List Env) (s : Shared) (H : Hp) (vs : List V) (Q : VK), A.guards = some [] → Room k (A.deeper (envOfC qual (defScope st) s.heap.objs.size f cdv)) → sp vs H Q E0 →
      ∃ t, PSs (cxOf CX0 P w K mg base N qual (defScope st) f cdv A outer s H E0).nox (defBody st) t ∧ t { nx := fun _ H' => Q .non H', rt := Q } (start N vs) H) : FnG P w K mg base (k + 1) f sp := by
  obtain ⟨oc, od, kV, doc, pm, an, cdv, ct, osl, efd, lk, hcd⟩ := F.ex
  intro A outer s H us vs Q hg hr e0 r hsp
  have hl : vs.length = ps.length := len _ _ _ hsp
  have hlu : (us ++ []).length = ps.length := by rw [List.append_nil, ← r.length, hl]
  have keepB : ∀ b o, base.get? b = some o → s.heap.get? b = some o := fun b o e => (e0.bs b o e).1
  have KX : K.In s.heap := e0.mod.kin.keeps keepB
  have bd := hb s us KX hlu
  rw [List.append_nil] at bd
  subst efd
  have hkind : ∀ y ∈ ps.zip us, (defScope st).names.lookup y.1 = some .local ∨ ((defScope st).names.lookup y.1 = some .cell ∧ ((cellsFrom (s.heap.objs.size + 1) (defScope st).names []).lookup y.1).isSome = true) := fun y hy => by
    rcases S.par y.1 (List.of_mem_zip hy).1 with q | q
    · exact Or.inl q
    · exact Or.inr ⟨q, PySem.W.cellsFrom_some _ _ _ (.inl q)⟩
  refine codeAny_call_function hr.depth (KX _ _ lk) rfl S.co S.gen rfl (PySem.W.codeRec_of KX hcd) (bd _ _ _ _ ?_)
  refine wpAny_newFunctionEnv_cells S.kind hkind fun env he s1 x => ?_
  subst he
  refine ⟨(e0.mod.nolimit.keeps keepB).keeps x.toInCall.keep, codeAny_func ?_⟩
  obtain ⟨t, ht, hq⟩ := hbody cdv A outer s H vs Q hg (hr.deeper _) hsp
  have I := inv_start (CX := CX0) (qual := qual) (f := f) (cd := cdv) (E := E0) S hr.hd e0 hl r x
  refine wpAny_mono (ht.nox.run [] s1 (start N vs) H _ I hq) (fun fl s' hs => ?_) fun e s' hs => hs
  cases fl with
  | ret u =>
    obtain ⟨v, σ', H', J, rv, q⟩ := hs
    exact ⟨v, H', J.os, J.bare, J.base, J.hok, rv, q⟩
  | next =>
    obtain ⟨σ', H', J, q⟩ := hs
    exact ⟨V.non, H', J.os, J.bare, J.base, J.hok, rfl, q⟩
  | brk =>
    obtain ⟨_, _, _, q⟩ := hs
    exact q.elim
  | cont =>
    obtain ⟨_, _, _, q⟩ := hs
    exact q.elim
/-- a plain def, where the guards do not matter -/
theorem FnG.of {CX : CXT} {k : Nat} {f : Addr} {fd : FuncData} {ps : List Str} {sp : Sp} (F : FnOk P w K mg base CX0 k f fd ps sp) (hb : Binds K fd ps []) : FnG P w K mg base k f sp := fun A outer s H us vs Q _ hr e0 r h => by
  have hl : (us ++ []).length = ps.length := by rw [List.append_nil, ← r.length, F.len _ _ _ _ h]
  have KX : K.In s.heap := e0.mod.kin.keeps fun b o e => (e0.bs b o e).1
  have bd := hb s us KX hl
  rw [List.append_nil] at bd
  exact F.run A outer s H _ us vs Q E0 hr e0 bd r h
end
section
variable {X : Cx} {k : Nat} {f : Addr} {sp : Sp} {x : Str} {p pos : Pos} {e : Expr} {es : List Expr} {t : TA}
/-- f(e, ..) of such a def, where the guards are known -/
theorem pe_callG (F : FnG X.prog X.w X.K X.mg X.base k f sp) (hgu : X.A.guards = some []) (hr : Room k X.A) (hg : Gl X x) (hm : X.mg x = some (.ref f)) (hk : PySem.W.keepIn X.K (.ref f) = true)
    (ha : PA X (e :: es) t) (hdb : (x == ("__debug__" : Str)) = false := by decide) (he : starEach (e :: es) X.env = (false, eval e X.env) :: starEach es X.env := by rfl) (hpl : (backTo pos (starEach es X.env)).any (·.1) = false := by rfl) :
    PE X (.Call (.Name x p) (e :: es) [] pos) (tCall sp [] E0 t) := by
  refine ⟨fun pins s σ H Q I h => wpAny_Call_Name_kw (ld_glob I hg hm ?_ hdb)⟩
  refine PySem.W.callWith_K (h₀ := X.base) I.ok.mod.kin hk (thn (ha.run pos pins s σ H _ I h) fun us s1 h1 => ?_) he hpl
  obtain ⟨vs, H1, I1, r, q⟩ := h1
  rw [List.append_nil] at q
  refine ⟨I1.kIn, wpAny_call (codeAny_mono (F X.A X.stack s1 H1 us vs Q hgu hr I1.env0 r q) fun rr s' hq => ?_)⟩
  cases rr with
  | error e => exact False.elim hq
  | ok fl =>
    cases fl with
    | ret u => exact I1.after hq
    | next => exact False.elim hq
    | brk => exact False.elim hq
    | cont => exact False.elim hq
end
end My

end
section
set_option linter.all false
set_option maxRecDepth 100000
set_option maxHeartbeats 1000000
/-! the end of a law row whose def knows the guards -/
namespace My
open PySem PySem.Spec PyProof.Rows L2

section
variable {P : Program} {w : World} {K : PySem.W.Frag} {mg mb : Str → Option Value} {k : Nat} {fa a : Addr} {sp : Sp} {s₁ : Shared} {vs : List Value} {ns : List Int}
/-- the law's call at an abstract heap in which at most the script is tracked -/
theorem run_at (H : Hp) (KX : K.In s₁.heap) (hns : s₁.heap.Ns mainGlobals mg) (hb : s₁.heap.Ns builtinsNs mb) (hbb : ∀ x : Str, x ≠ "__name__" → mb x = bootBuiltins x) (hlim : s₁.heap.NoLimit) (hg : s₁.gens = #[])
    (ha : s₁.heap.get? a = some { cls := .type "list", data := .seq vs.toArray }) (hr : Room k callerA)
    (F : ∀ base : Heap, K.In base → base.Ns mainGlobals mg → FnG P w K mg base k fa sp)
    (hO : Only H) (hok : HOk P w H s₁.heap) (hA : ∀ b, b ≠ a → H b = none) (hK : H a = none ∨ K.lookup a = none) (hsp : sp [.ref a] H (fun v _ => v = .bl true) E0) :
    codeAny (model P w) callerA (.call (.ref fa) ⟨[.ref a], []⟩) (fun r s' => r = .ok (.ret (.bool true)) ∧ OldK s₁.heap s'.heap ∧ s'.os = s₁.os ∧ AllBare s'.gens) s₁ := by
  have free : ∀ {b : Addr}, b ≠ a ∨ H a = none → H b = none := fun {b} h => by
    by_cases e : b = a
    · rcases h with z | z
      · exact absurd e z
      · rw [e]; exact z
    · exact hA b e
  have ofNs : ∀ {b : Addr} {m : Str → Option Value}, s₁.heap.Ns b m → (hidT s₁.heap H).Ns b m := fun {b m} z => by
    obtain ⟨o, es, ep, e, d, r⟩ := z
    refine ⟨o, es, ep, hidT_get e (free (Or.inl fun q => ?_)), d, r⟩
    rw [q, ha] at e
    cases e
    have d' : Data.seq vs.toArray _ = Data.dict es ep := d
    cases d'
  have inK : K.In (hidT s₁.heap H) := fun b o e => hidT_get (KX b o e) (by
    rcases hK with z | z
    · exact free (Or.inr z)
    · refine free (Or.inl fun q => ?_)
      rw [q, z] at e
      cases e)
  obtain ⟨mc, l1, l2⟩ := hlim
  have hM : Mod K mg (hidT s₁.heap H) := ⟨inK, ofNs hns, ⟨mb, ofNs hb, hbb⟩, ⟨mc, ofNs l1, l2⟩⟩
  have none_in : ∀ {b : Addr} {R : Prop}, b ∈ frs ([] : List Env) → R := fun {b R} z => by
    have z' : b ∈ ([] : List Addr) := z
    cases z'
  have e0 : Env0 P w K mg (hidT s₁.heap H) callerA [] s₁ H := ⟨rfl, hM, fun _ _ e => of_hidT e, Nat.le_of_eq (hidT_size _ _), trivial, fun _ z => none_in z, hok, .of_eq hg⟩
  refine codeAny_mono (F _ inK (ofNs hns) callerA [] s₁ H [.ref a] [.ref a] _ rfl hr e0 (.cons rfl .nil) hsp) fun r s' h => ?_
  cases r with
  | error e => exact False.elim h
  | ok fl =>
    cases fl with
    | next => exact False.elim h
    | brk => exact False.elim h
    | cont => exact False.elim h
    | ret u =>
      obtain ⟨v, H', os, bare, un, hok', r', q⟩ := h
      obtain rfl : v = .bl true := q
      obtain rfl : u = Value.bool true := r'
      refine ⟨rfl, OldK.of_keep fun b o e => ?_, os, bare⟩
      cases q : H b with
      | none => exact un.keep b o e q (fun z => none_in z) (by simp)
      | some t =>
        rcases hO b with z | ⟨ob, xs, z⟩
        · rw [q] at z
          cases z
        · have e1 := (hok b _ z).1
          have e2 := (hok' b _ (un.frzs b ob _ z)).1
          rw [e] at e1
          cases e1
          exact e2
theorem law_callG (KX : K.In s₁.heap) (hns : s₁.heap.Ns mainGlobals mg) (hb : s₁.heap.Ns builtinsNs mb) (hbb : ∀ x : Str, x ≠ "__name__" → mb x = bootBuiltins x) (hlim : s₁.heap.NoLimit) (hg : s₁.gens = #[])
    (ha : s₁.heap.get? a = some { cls := .type "list", data := .seq vs.toArray }) (hi : IntsAre vs ns) (hl : ns.length ≤ sizeLine) (hr : Room k callerA)
    (F : ∀ base : Heap, K.In base → base.Ns mainGlobals mg → FnG P w K mg base k fa sp)
    (hsp : ∀ H : Hp, Only H → SqL K H a (ns.map V.int) → sp [.ref a] H (fun v _ => v = .bl true) E0) :
    codeAny (model P w) callerA (.call (.ref fa) ⟨[.ref a], []⟩) (fun r s' => r = .ok (.ret (.bool true)) ∧ OldK s₁.heap s'.heap ∧ s'.os = s₁.os ∧ AllBare s'.gens) s₁ := by
  have rv := vals_ints hi
  have hlen : vs.length = ns.length := hi.length
  cases hk : K.lookup a with
  | some o =>
    have eo : o = { cls := .type "list", data := .seq vs.toArray } := by
      have e := KX a o hk
      rw [ha] at e
      exact (Option.some.inj e).symm
    have sq : SqL K (fun _ => none) a (ns.map V.int) := Or.inr ⟨o, vs.toArray, _, hk, by rw [eo], by rw [eo], by rw [eo], by rw [List.size_toArray, hlen]; exact hl, by simpa using rv⟩
    refine run_at (fun _ => none) KX hns hb hbb hlim hg ha hr F (fun _ => Or.inl rfl) (fun b u z => ?_) (fun _ _ => rfl) (Or.inl rfl) (hsp _ (fun _ => Or.inl rfl) sq)
    have z' : (none : Option HO) = some u := z
    cases z'
  | none =>
    let fz : HO := .frz { cls := .type "list", data := .seq vs.toArray } (.lst (ns.map V.int))
    have at_ : (fun b : Addr => if b = a then some fz else none) a = some fz := if_pos rfl
    have off : ∀ b : Addr, b ≠ a → (fun b : Addr => if b = a then some fz else none) b = none := fun b h => if_neg h
    have hO : Only (fun b : Addr => if b = a then some fz else none) := fun b => by
      by_cases e : b = a
      · rw [e]; exact Or.inr ⟨_, _, at_⟩
      · exact Or.inl (off b e)
    refine run_at _ KX hns hb hbb hlim hg ha hr F hO (fun b u z => ?_) off (Or.inr hk) (hsp _ hO (Or.inl (Or.inr ⟨_, at_⟩)))
    by_cases e : b = a
    · subst e
      have eu : fz = u := Option.some.inj (at_.symm.trans z)
      rw [← eu]
      exact ⟨ha, by rw [List.length_map]; exact hl, vs, _, rv, ha⟩
    · exact absurd ((off b e).symm.trans z) (fun q => nomatch q)
end
/-- what k_head leaves (case hc), by the law's promise, with the bits of the script's ints told -/
theorem walk_ofG {l : PySem.W.OpenLaw} {n k : Nat} {q : Program} {loose : List Str} {XP : (Str → Option Value) → Heap → Prop} {YP : World → Heap → Prop} {d : DefRec} {K : Params → PySem.W.Frag} {sp : World → Sp}
    (hn : l.most = some n) (hn2 : n ≤ sizeLine) (hdf : d.params.defaults = []) (hr : Room k callerA)
    (hY : ∀ (w : World) (h : Heap), YP w h → (K w.params).In h)
    (F : ∀ (w : World) (mg : Str → Option Value) (fa : Addr) (h : Heap), (K w.params).In h → h.Ns mainGlobals mg → mg d.name = some (.ref fa) →
      ∀ base : Heap, (K w.params).In base → base.Ns mainGlobals mg → FnG l.prog w (K w.params) mg base k fa (sp w))
    (hsp : ∀ (w : World) (H : Hp) (a : Addr) (ns : List Int), ns.length ≤ n → (∀ z ∈ ns, Builtin.Int.intBits z ≤ 1048576) → Only H → SqL (K w.params) H a (ns.map V.int) → sp w [.ref a] H (fun v _ => v = .bl true) E0) :
    PySem.W.WalkO q loose XP YP l.row.toRowW d [] (fun f vs => PySem.call f vs) := by
  refine Att.attach_callB hn hdf fun w s₀ s₁ mg mb fa o pm cd doc a vs ns G Y ho hd hcd hmg hobj hints hlen hbits hg => ?_
  have KX := hY w _ Y
  exact law_callG KX G.T.g G.T.b G.T.builtins G.T.nolimit hg hobj hints (Nat.le_trans hlen hn2) hr (F w mg fa _ KX G.T.g hmg) fun H hO hS => hsp w H a ns hlen hbits hO hS
end My

end
section
set_option linter.all false
set_option maxRecDepth 100000
/-! a method called with keywords alone -/
namespace My
open PySem PySem.Spec PyProof.Rows L2
/-- o.m(k = v, ..) -/
def tMethK (C : Addr) (m : Str) (sp : Sp) (gV : List V → List V → List V) (E : XK) (ta : TE) (tk : TA) : TE := fun σ H Q => ta σ H fun x H1 => ∃ a dx fs, x = .ref a ∧ H1 a = some (.ins C dx fs) ∧ fs.lookup m = none ∧
  tk σ H1 fun zs H2 => sp (gV [x] zs) H2 Q E
theorem pe_methK0 {X : Cx} {CX : CXT} {k : Nat} {f C : Addr} {fd : FuncData} {ps ks : List Str} {sp : Sp} {E : XK} {m : Str} {pos apos : Pos} {o : Expr} {kws : List Keyword} {ta : TE} {tk : TA} {g : List Value → List Value → List Value} {gV : List V → List V → List V} {pl : Sem Bool}
    (he : PE X o ta) (c : Cls X.K C) (hm : Meth X.K C m f) (F : FnOk X.prog X.w X.K X.mg X.base CX k f fd ps sp) (hr : Room k X.A) (hb : KBinds X.K fd ps ks g gV) (hx : Passes CX X E) (hkw : PK X kws tk)
    (hall : (backToKw pos (keywordEach kws X.env)).all (·.1.isSome) = true := by rfl) (hks : (backToKw pos (keywordEach kws X.env)).filterMap (·.1) = ks := by rfl)
    (hpl : ((backTo pos (starEach [] X.env)).any (·.1) || (backToKw pos (keywordEach kws X.env)).any (·.1.isNone)) = false := by rfl)
    (ht : eval (.Call (.Attribute o m apos) [] kws pos) X.env = (eval o X.env >>= fun ov => standAt apos.atName >>= fun _ => holding [ov] (getMethod ov m pl) >>= fun fx =>
      callWith pos fx.1 fx.2 (backTo pos (starEach [] X.env)) (backToKw pos (keywordEach kws X.env))) := by rfl) :
    PE X (.Call (.Attribute o m apos) [] kws pos) (tMethK C m sp gV E ta tk) := by
  refine ⟨fun pins s σ H Q I h => ?_⟩
  refine PySem.W.methodCall_KW (pl := pl) (thn (he.run pins s σ H _ I h) fun u s1 h1 => ?_) ht
  obtain ⟨x, H1, I1, rx, a, dx, fs, ex, ea, l, q⟩ := h1
  subst ex
  obtain rfl : u = Value.ref a := rx
  refine getmeth_ok I1 ea c hm l ?_
  refine PySem.W.callWith_KW0 (first := [.ref a]) (h₀ := X.base) I.ok.mod.kin hm.kp hall (thn (hkw.run pos pins s1 σ H1 _ I1 q) fun ws s2 h2 => ?_) hpl
  obtain ⟨zs, H2, I2, rz, q2⟩ := h2
  refine ⟨I2.kIn, ?_⟩
  rw [hks]
  exact run_fnk (us := [.ref a]) (vs := [.ref a]) F hr hb hx I2 (.cons rfl .nil) rz q2
end My

end
section
set_option linter.all false
set_option maxRecDepth 100000
set_option maxHeartbeats 1000000
namespace My
open PySem PySem.Spec PyProof.Rows L2

/-! ### defs in bundles -/
/-- the module's name x is a def that keeps the promise sp when called with all but the last values dvs -/
structure CalD (P : Program) (w : World) (K : PySem.W.Frag) (mg : Str → Option Value) (base : Heap) (k : Nat) (x : Str) (sp : Sp) (dvs : List V) : Prop where
  ex : ∃ (f : Addr) (fd : FuncData) (ps : List Str) (ds : List Value), FnOk P w K mg base CX0 k f fd ps sp ∧ mg x = some (.ref f) ∧ PySem.W.keepIn K (.ref f) = true ∧ Binds K fd ps ds ∧ Vals dvs ds
structure MetD (P : Program) (w : World) (K : PySem.W.Frag) (mg : Str → Option Value) (base : Heap) (k : Nat) (C : Addr) (m : Str) (sp : Sp) (dvs : List V) : Prop where
  ex : ∃ (f : Addr) (fd : FuncData) (ps : List Str) (ds : List Value), Cls K C ∧ Meth K C m f ∧ FnOk P w K mg base CX0 k f fd ps sp ∧ Binds K fd ps ds ∧ Vals dvs ds
structure MakD (P : Program) (w : World) (K : PySem.W.Frag) (mg : Str → Option Value) (base : Heap) (k : Nat) (x : Str) (C : Addr) (sp : Sp) (dvs : List V) : Prop where
  ex : ∃ (f : Addr) (fd : FuncData) (ps : List Str) (ds : List Value), Mk K C f ∧ FnOk P w K mg base CX0 k f fd ps sp ∧ mg x = some (.ref C) ∧ Binds K fd ps ds ∧ Vals dvs ds
structure PrpD (P : Program) (w : World) (K : PySem.W.Frag) (mg : Str → Option Value) (base : Heap) (k : Nat) (C : Addr) (m : Str) (sp : Sp) : Prop where
  ex : ∃ (p f : Addr) (fd : FuncData) (ps : List Str), Cls K C ∧ PropOf K C m p f ∧ FnOk P w K mg base CX0 k f fd ps sp ∧ Binds K fd ps []
section
variable {X : Cx} {k j : Nat} {C : Addr} {x m : Str} {sp : Sp} {dvs : List V} {p pos apos : Pos} {e o : Expr} {es : List Expr} {ta : TE} {t : TA}
theorem pe_d (c : CalD X.prog X.w X.K X.mg X.base k x sp dvs) (hr : Room j X.A) (hk : k ≤ j) (hg : Gl X x) (ha : PA X (e :: es) t)
    (hdb : (x == ("__debug__" : Str)) = false := by decide) (he : starEach (e :: es) X.env = (false, eval e X.env) :: starEach es X.env := by rfl) (hpl : (backTo pos (starEach es X.env)).any (·.1) = false := by rfl) :
    PE X (.Call (.Name x p) (e :: es) [] pos) (tCall sp dvs E0 t) := by
  obtain ⟨f, fd, ps, ds, F, h1, h2, b, d⟩ := c.ex
  exact pe_call F (hr.mono hk) hg h1 h2 b d pass0 ha hdb he hpl
theorem pe_mkd (c : MakD X.prog X.w X.K X.mg X.base k x C sp dvs) (hr : Room j X.A) (hk : k + 1 ≤ j) (hg : Gl X x) (ha : PA X (e :: es) t)
    (hdb : (x == ("__debug__" : Str)) = false := by decide) (he : starEach (e :: es) X.env = (false, eval e X.env) :: starEach es X.env := by rfl) (hpl : (backTo pos (starEach es X.env)).any (·.1) = false := by rfl) :
    PE X (.Call (.Name x p) (e :: es) [] pos) (tMake C sp dvs E0 t) := by
  obtain ⟨f, fd, ps, ds, M, F, h1, b, d⟩ := c.ex
  exact pe_make M F (hr.mono hk) hg h1 b d pass0 ha hdb he hpl
theorem pe_md {pl : Sem Bool} (c : MetD X.prog X.w X.K X.mg X.base k C m sp dvs) (hr : Room j X.A) (hk : k ≤ j) (ho : PE X o ta) (ha : PA X (e :: es) t)
    (hst : starEach (e :: es) X.env = (false, eval e X.env) :: starEach es X.env := by rfl) (hpl : (backTo pos (starEach es X.env)).any (·.1) = false := by rfl)
    (ht : eval (.Call (.Attribute o m apos) (e :: es) [] pos) X.env = (eval o X.env >>= fun ov => standAt apos.atName >>= fun _ => holding [ov] (getMethod ov m pl) >>= fun fx =>
      callWith pos fx.1 fx.2 (backTo pos (starEach (e :: es) X.env)) (backToKw pos (keywordEach [] X.env))) := by rfl) :
    PE X (.Call (.Attribute o m apos) (e :: es) [] pos) (tMeth C m sp dvs E0 ta t) := by
  obtain ⟨f, fd, ps, ds, h1, h2, F, b, d⟩ := c.ex
  exact pe_meth (pl := pl) ho h1 h2 F (hr.mono hk) b d pass0 ha hst hpl ht
theorem pe_md0 {pl : Sem Bool} (c : MetD X.prog X.w X.K X.mg X.base k C m sp dvs) (hr : Room j X.A) (hk : k ≤ j) (ho : PE X o ta)
    (ht : eval (.Call (.Attribute o m apos) [] [] pos) X.env = (eval o X.env >>= fun ov => standAt apos.atName >>= fun _ => holding [ov] (getMethod ov m pl) >>= fun fx =>
      callWith pos fx.1 fx.2 (backTo pos (starEach [] X.env)) (backToKw pos (keywordEach [] X.env))) := by rfl) :
    PE X (.Call (.Attribute o m apos) [] [] pos) (tMeth C m sp dvs E0 ta tNil) := by
  obtain ⟨f, fd, ps, ds, h1, h2, F, b, d⟩ := c.ex
  exact pe_meth0 (pl := pl) ho h1 h2 F (hr.mono hk) b d pass0 ht
theorem pe_prd (c : PrpD X.prog X.w X.K X.mg X.base k C m sp) (hr : Room j X.A) (hk : k + 1 ≤ j) (ho : PE X o ta) (hab : attributeBase o m X.env (eval o X.env) = eval o X.env := by rfl) : PE X (.Attribute o m pos) (tProp C sp [] E0 ta) := by
  obtain ⟨q, f, fd, ps, h1, h2, F, b⟩ := c.ex
  exact pe_prop (CX := CX0) ho h1 h2 F (hr.mono hk) b .nil pass0 hab
/-- c(e, ..), c a local name that holds the class at C -/
def tMakeL (i : Nat) (C : Addr) (sp : Sp) (dvs : List V) (E : XK) (t : TA) : TE := fun σ H Q => σ[i]? = some (some (.ref C)) ∧ tMake C sp dvs E t σ H Q
theorem pe_mkL {i : Nat} {y : Str} (c : MakD X.prog X.w X.K X.mg X.base k y C sp dvs) (hr : Room j X.A) (hk : k + 1 ≤ j) (hN : X.N[i]? = some x) (hv : Vis X.env.scope x) (ha : PA X (e :: es) t)
    (hdb : (x == ("__debug__" : Str)) = false := by decide) (hcd : (x == ("__classdict__" : Str)) = false := by decide)
    (he : starEach (e :: es) X.env = (false, eval e X.env) :: starEach es X.env := by rfl) (hpl : (backTo pos (starEach es X.env)).any (·.1) = false := by rfl) :
    PE X (.Call (.Name x p) (e :: es) [] pos) (tMakeL i C sp dvs E0 t) := by
  obtain ⟨f, fd, ps, ds, M, F, h1, b, d⟩ := c.ex
  refine ⟨fun pins s σ H Q I h => ?_⟩
  obtain ⟨hs, ht⟩ := h
  refine wpAny_Call_Name_kw (thn ((pe_var (pos := p) hN hv hdb hcd).run pins s σ H (fun v H1 => v = .ref C ∧ H1 = H) I ⟨_, hs, rfl, rfl⟩) fun u s1 h2 => ?_)
  obtain ⟨v, H1, I1, r1, e1, e2⟩ := h2
  subst e1 e2
  obtain rfl : u = Value.ref C := r1
  refine PySem.W.callWith_K (h₀ := X.base) I.ok.mod.kin M.kp (thn (ha.run pos pins s1 σ _ _ I1 ht) fun us s2 h3 => ?_) he hpl
  obtain ⟨vs, H2, I2, r, q⟩ := h3
  exact ⟨I2.kIn, run_make M F (hr.mono hk) b d pass0 I2 r q⟩
end

/-! ### heaps that grow -/
theorem Same.new {H : Hp} {p : Addr} {o : HO} (h : H p = none) : Same H (upd H p o) := fun a u e => by
  rw [upd_ne (ne_of_none e h)]
  exact e
/-- what H does not know may change -/
theorem Same.mut {H H' : Hp} {p : Addr} {o : HO} (e : Same H H') (h : H p = none) : Same H (upd H' p o) := fun a u ha => by
  rw [upd_ne (ne_of_none ha h)]
  exact e a u ha
/-- behind a new object: the heap by what is known of it -/
theorem newk {H : Hp} {p : Addr} {o : HO} {R : Hp → Prop} (hp : H p = none) (k : ∀ H1, Same H H1 → H1 p = some o → R H1) : R (upd H p o) := k _ (Same.new hp) upd_same
theorem Same.tup {K : PySem.W.Frag} {H H' : Hp} {a : Addr} {xs : List V} (e : Same H H') (h : SqT K H a xs) : SqT K H' a xs := by
  rcases h with (h | ⟨o, h⟩) | h
  · exact .inl (.inl (e _ _ h))
  · exact .inl (.inr ⟨o, e _ _ h⟩)
  · exact .inr h
/-- a plain def, by name -/
theorem CalD.of {P : Program} {w : World} {K : PySem.W.Frag} {mg : Str → Option Value} {base : Heap} {k : Nat} {x qual : Str} {st : Stmt} {f : Addr} {fd : FuncData} {ps : List Str} {sp : Sp} (F : Fun K x qual st f fd) (hm : mg x = some (.ref f)) (b : Binds K fd ps []) (G : FnOk P w K mg base CX0 k f fd ps sp) :
    CalD P w K mg base k x sp [] := ⟨f, fd, ps, [], G, hm, F.kp, b, .nil⟩
theorem sq_at {K : PySem.W.Frag} {H : Hp} {a : Addr} {xs : List V} (h : H a = some (.lst xs)) : SqL K H a xs := .inl (.inl h)
theorem st_at {K : PySem.W.Frag} {H : Hp} {a : Addr} {xs : List V} (h : H a = some (.tup xs)) : SqT K H a xs := .inl (.inl h)
end My

end
section
set_option linter.all false
set_option maxRecDepth 100000
set_option maxHeartbeats 1000000
namespace My
open PySem PySem.Spec PyProof.Rows L2
/-- over enumerate of a list that the body leaves as it is: each turn's pair is new -/
theorem for_enum {K : PySem.W.Frag} {a : Addr} {xs : List V} {g : TG} {tb : TS} {D : Ends} {σ : L2.St} {H : Hp} (Pv : Nat → L2.St → Hp → Prop) (h0 : Pv 0 σ H) (hl : ∀ i σ H, i ≤ xs.length → Pv i σ H → SqL K H a xs)
    (hs : ∀ i x σ H T H', xs[i]? = some x → Pv i σ H → H T = none → Same H H' → H' T = some (.tup [.int (i : Nat), x]) → g (.ref T) σ H' fun σ2 H2 => tb { D with nx := Pv (i + 1), ct := Pv (i + 1), bk := D.nx } σ2 H2) (hd : ∀ σ H, Pv xs.length σ H → D.nx σ H) :
    ∃ W : Nat → Nat → L2.St → Hp → Prop, (∃ m, W 0 m σ H) ∧ ∀ i m σ H, W i m σ H →
      ((Ite K a).stop i H ∧ D.nx σ H) ∨ ((Ite K a).go i H ∧ ∃ N : L2.St → Hp → Prop, (∀ σ' H', N σ' H' → ∃ m', m' < m ∧ W (i + 1) m' σ' H') ∧ ∀ x H', (Ite K a).yld i H x H' → g x σ H' fun σ2 H2 => tb { D with nx := N, ct := N, bk := D.nx } σ2 H2) := by
  refine ⟨fun i m σ H => i + m = xs.length ∧ Pv i σ H, ⟨xs.length, Nat.zero_add _, h0⟩, ?_⟩
  rintro i m σ H ⟨hm, p⟩
  have q := hl i σ H (by omega) p
  by_cases hlt : i < xs.length
  · refine .inr ⟨⟨xs, xs[i], q, by simp [hlt]⟩, Pv (i + 1), fun σ' H' p' => ⟨m - 1, by omega, by omega, p'⟩, fun v H' y => ?_⟩
    obtain ⟨T, x, ev, hT, eH, hx⟩ := y
    subst ev eH
    exact hs i x σ H T _ (hx xs q) p hT (Same.new hT) upd_same
  · have e : i = xs.length := by omega
    subst e
    exact .inl ⟨⟨xs, q, Nat.le_refl _⟩, hd σ H p⟩
theorem lc_enum {K : PySem.W.Frag} {a : Addr} {xs : List V} {g : TG} {tt : TT} {te : TE} {vs : List Nat} {σ : L2.St} {H1 : Hp} {D : Addr} {Qd : Hp → Prop} (Pv : Nat → Hp → Prop) (h0 : Pv 0 (upd H1 D (.lst []))) (hl : ∀ i H, i ≤ xs.length → Pv i H → SqL K H a xs)
    (hs : ∀ i x H T H', xs[i]? = some x → Pv i H → H T = none → Same H H' → H' T = some (.tup [.int (i : Nat), x]) → g (.ref T) (wipe σ vs) H' fun σ2 H2 => wipe σ2 vs = wipe σ vs ∧ tt σ2 H2 fun b H3 =>
      if b = true then te σ2 H3 fun y H4 => ∃ acc, H4 D = some (.lst acc) ∧ acc.length < sizeLine ∧ Pv (i + 1) (upd H4 D (.lst (acc ++ [y]))) else Pv (i + 1) H3) (hd : ∀ H, Pv xs.length H → Qd H) :
    ∃ W : Nat → Nat → Hp → Prop, (∃ m, W 0 m (upd H1 D (.lst []))) ∧ ∀ i m H, W i m H →
      ((Ite K a).stop i H ∧ Qd H) ∨ ((Ite K a).go i H ∧ ∃ Nx : Hp → Prop, (∀ H', Nx H' → ∃ m', m' < m ∧ W (i + 1) m' H') ∧ ∀ x H', (Ite K a).yld i H x H' → g x (wipe σ vs) H' fun σ2 H2 => wipe σ2 vs = wipe σ vs ∧ tt σ2 H2 fun b H3 =>
        if b = true then te σ2 H3 fun y H4 => ∃ acc, H4 D = some (.lst acc) ∧ acc.length < sizeLine ∧ Nx (upd H4 D (.lst (acc ++ [y]))) else Nx H3) := by
  refine ⟨fun i m H => i + m = xs.length ∧ Pv i H, ⟨xs.length, Nat.zero_add _, h0⟩, ?_⟩
  rintro i m H ⟨hm, p⟩
  have q := hl i H (by omega) p
  by_cases hlt : i < xs.length
  · refine .inr ⟨⟨xs, xs[i], q, by simp [hlt]⟩, Pv (i + 1), fun H' p' => ⟨m - 1, by omega, by omega, p'⟩, fun v H' y => ?_⟩
    obtain ⟨T, x, ev, hT, eH, hx⟩ := y
    subst ev eH
    exact hs i x H T _ (hx xs q) p hT (Same.new hT) upd_same
  · have e : i = xs.length := by omega
    subst e
    exact .inl ⟨⟨xs, q, Nat.le_refl _⟩, hd H p⟩
/-! ### lists of ints -/
abbrev LI (ns : List Int) : List V := ns.map V.int
theorem LI_get {ns : List Int} {i : Nat} {x : V} (h : (LI ns)[i]? = some x) : ∃ n, ns[i]? = some n ∧ x = .int n := by
  rw [List.getElem?_map] at h
  cases e : ns[i]? with
  | none =>
    rw [e] at h
    cases h
  | some n =>
    rw [e] at h
    exact ⟨n, rfl, (Option.some.inj h).symm⟩
theorem dpAll_ints {K : PySem.W.Frag} {H : Hp} : ∀ ns : List Int, DpAll K H (LI ns) (ns.map PyData.int)
  | [] => .nil
  | n :: ns => .cons (.int n) (dpAll_ints ns)
theorem dp_ints {K : PySem.W.Frag} {H : Hp} {a : Addr} {ns : List Int} (h : SqL K H a (LI ns)) : Dp K H (.ref a) (.list (ns.map PyData.int)) := .lst h (dpAll_ints ns)
theorem lay_ints : ∀ ns : List Int, PyData.canLayAll0 (ns.map PyData.int) = true
  | [] => by simp only [List.map_nil, PyData.canLayAll0]
  | n :: ns => by
    simp only [List.map_cons, PyData.canLayAll0, PyData.canLay0, Bool.true_and]
    exact lay_ints ns
theorem depth_ints : ∀ ns : List Int, PyData.depthAll (ns.map PyData.int) = 0
  | [] => by simp only [List.map_nil, PyData.depthAll]
  | n :: ns => by
    simp only [List.map_cons, PyData.depthAll, PyData.depth, depth_ints ns]
    decide
theorem shaped_ints (ns : List Int) : SeqAt.shaped (.list (ns.map PyData.int)) = true := by
  unfold SeqAt.shaped
  simp only [PyData.canLay0, lay_ints, PyData.depth, depth_ints]
  decide
theorem eqvAll_ints : ∀ xs ys : List Int, PyData.eqvAll (xs.map PyData.int) (ys.map PyData.int) = decide (xs = ys)
  | [], [] => by simp [PyData.eqvAll]
  | x :: xs, [] => by simp [PyData.eqvAll]
  | [], y :: ys => by simp [PyData.eqvAll]
  | x :: xs, y :: ys => by
    simp only [List.map_cons, PyData.eqvAll, PyData.eqv, eqvAll_ints xs ys]
    by_cases h1 : x = y <;> by_cases h2 : xs = ys <;> simp [h1, h2]
theorem eqv_ints (xs ys : List Int) : PyData.eqv (.list (xs.map PyData.int)) (.list (ys.map PyData.int)) = decide (xs = ys) := by
  simp only [PyData.eqv, eqvAll_ints]
/-- an item by a Nat index -/
theorem atI_LI {ns : List Int} {i : Nat} {n : Int} (h : ns[i]? = some n) : atI (LI ns) (i : Int) = some (.int n) := by
  have e : (LI ns)[i]? = some (.int n) := by rw [List.getElem?_map, h]; rfl
  exact atI_nat e
/-- the place to which a table moves a place -/
def atT (ts : List Int) (x : Int) : Int := x + ts.getD (x % ts.length).toNat 0
theorem small_len {n : Nat} (h : n ≤ 1000000) : n ≤ sizeLine := Nat.le_trans h (by decide)
theorem small_lt {n : Nat} (h : n < 1000000) : n < sizeLine := Nat.lt_of_lt_of_le h (by decide)
end My

end
section
set_option linter.all false
set_option maxRecDepth 100000
set_option maxHeartbeats 1000000
namespace My
open PySem PySem.Spec PyProof.Rows L2
/-! ### a comprehension whose list is known -/
def LC (H0 : Hp) (D : Addr) (zs : List V) (i : Nat) (H : Hp) : Prop := Same H0 H ∧ H D = some (.lst (zs.take i))
theorem lc_start {H0 H1 : Hp} {D : Addr} {zs : List V} (h : Same H0 H1) (hD : H0 D = none) : LC H0 D zs 0 (upd H1 D (.lst [])) := ⟨Same.mut h hD, upd_same⟩
theorem lc_step {H0 H4 : Hp} {D : Addr} {zs : List V} {i : Nat} {y : V} (hD : H0 D = none) (h : LC H0 D zs i H4) (hy : zs[i]? = some y) (hs : zs.length ≤ 1000000) :
    ∃ acc, H4 D = some (.lst acc) ∧ acc.length < sizeLine ∧ LC H0 D zs (i + 1) (upd H4 D (.lst (acc ++ [y]))) := by
  have hi : i < zs.length := (List.getElem?_eq_some_iff.mp hy).1
  refine ⟨_, h.2, small_lt (by rw [List.length_take]; omega), Same.mut h.1 hD, ?_⟩
  have e : zs.take (i + 1) = zs.take i ++ [y] := by
    rw [List.take_succ, hy]
    rfl
  rw [e]
  exact upd_same
theorem LC.same {H0 H H' : Hp} {D : Addr} {zs : List V} {i : Nat} (h : LC H0 D zs i H) (e : Same H H') : LC H0 D zs i H' := ⟨h.1.trans e, e _ _ h.2⟩
theorem LC.done {H0 H : Hp} {D : Addr} {zs : List V} {n : Nat} (h : LC H0 D zs n H) (e : n = zs.length) : Same H0 H ∧ H D = some (.lst zs) := by
  refine ⟨h.1, ?_⟩
  have := h.2
  rw [e, List.take_length] at this
  exact this
/-! ### a table said more than once -/
def Rep (ts us : List Int) : Prop := ∃ k, us = (List.replicate k ts).flatten
theorem Rep.self (us : List Int) : Rep us us := ⟨1, by simp⟩
theorem flat_len {α : Type} (k : Nat) (ts : List α) : (List.replicate k ts).flatten.length = k * ts.length := by
  rw [List.length_flatten, List.map_replicate, List.sum_replicate_nat]
theorem LI_flat (k : Nat) (ts : List Int) : (List.replicate k (LI ts)).flatten = LI (List.replicate k ts).flatten := by
  unfold LI
  rw [List.map_flatten, List.map_replicate]
theorem newS {H H1 : Hp} {p : Addr} {o : HO} (e : upd H p o = H1) (hp : H p = none) : Same H H1 := e ▸ Same.new hp
theorem newE {H H1 : Hp} {p : Addr} {o : HO} (e : upd H p o = H1) : H1 p = some o := e ▸ upd_same

end My

end
section
set_option linter.all false
set_option maxRecDepth 100000
set_option maxHeartbeats 1000000
namespace My
open PySem PySem.Spec PyProof.Rows L2
variable {X : Cx}
/-- name = {..} on one line -/
theorem ps_setDc {i : Nat} {y : Str} {py pos spos : Pos} {kx vx tg iter : Expr} {ifs : List Expr} {scope : Scope} {own : List (Str × Nat)} {wi : TI} {g : TG} {tt : TT} {tk tv : TE}
    (hc : X.calm = true) (hN : X.N.Nodup) (hy : X.N[i]? = some y) (hyl : X.env.scope.names.lookup y = some .local)
    (hsw : swapsWith (.DictComp kx vx [⟨tg, iter, ifs, 0⟩] scope pos) (some (.Name y py)) spos.line X.env = pure true)
    (hi : PI X tg iter wi) (ok : BlkOk X.N X.env.scope scope own) (hg : ∀ s H C cl fp, PG (X.blk s H scope (compEnvC scope cl C X.env) fp) tg g)
    (ht : ∀ s H C cl fp, PTs (X.blk s H scope (compEnvC scope cl C X.env) fp) ifs tt) (hk : ∀ s H C cl fp, PE (X.blk s H scope (compEnvC scope cl C X.env) fp) kx tk)
    (he : ∀ s H C cl fp, PE (X.blk s H scope (compEnvC scope cl C X.env) fp) vx tv) (hs : ∀ x, foldedSetIterable iter X.env x = pure x := by intro _; rfl) :
    PS X (.Assign [.Name y py] (.DictComp kx vx [⟨tg, iter, ifs, 0⟩] scope pos) spos) (tAsg (tDc wi g tt tk tv (own.map (·.2))) (gName i)) :=
  ⟨fun pins s σ H D I h => by
    rw [exec_Assign_Name_used _ _ _ _ hsw]
    refine wpAny_bind (wpAny_standAt (wpAny_bind ?_))
    show wpAny _ X.A (do let _ ← comprehension (.DictComp kx vx [⟨tg, iter, ifs, 0⟩] scope pos) scope X.env (firstIterPos [⟨tg, iter, ifs, 0⟩] pos) newDict false (eval iter X.env) (some (assign (.Name y py) X.env))) _ _ s
    have h : tDc wi g tt tk tv (own.map (·.2)) σ H (fun x H1 => gName i x σ H1 D.nx) := h
    refine wpAny_bind (thn (dc_core (Qf := fun _ s' => SP X pins D .next s') hc hN I hi ok hg ht hk he hs h fun L C s' m H' I' q hn f => ?_) fun _ s' hq => wpAny_pure (wpAny_pure hq))
    show wpAny _ _ (assign (.Name y py) X.env (.ref L)) _ _ _
    refine wpAny_assign_Name (store_ok2 (v := V.ref L) I' hN hy (.inl hyl) rfl (fun s2 I2 z => ?_) (.inr hyl))
    obtain ⟨a, sb, ha⟩ := z
    have haC : C ≠ a := fun e => ha.elim (fun z => f.2.1 (e.trans z)) fun z => f.2.2.2.2.1 y a z e.symm
    exact ⟨m, hn.sameBut sb haC, fun h3 sb3 => ⟨_, H', I2.turned (t' := s2.toks) (fun b o hb e => (sb3.2 b hb).trans e) f.1 f.2.1 f.2.2.2.1 f.2.2.2.2.1 f.2.2.2.2.2, q⟩⟩⟩
theorem sw_trueD {kx vx : Expr} {gs : List Comprehension} {scope : Scope} {pos py : Pos} {y : Str} {l : Nat} {env : Env} (hk : env.scope.kind = .function)
    (hy : env.scope.names.lookup y = some .local) (hl : (py.line == pos.line) = true) (ha : (scope.names.any fun (n, k) => n == y && (k == .local || k == .cell)) = false) :
    swapsWith (.DictComp kx vx gs scope pos) (some (.Name y py)) l env = pure true := by
  have k2 : env.kindOf y = some .local := hy
  have k3 : env.blockKind = .function := by
    unfold Env.blockKind
    rw [hk]
    rfl
  unfold swapsWith
  simp only [k3, k2, ha, Expr.pos, hl]
  rfl
/-- over the items of a dict that is locked -/
theorem dc_items {d : Addr} {o : Obj} {kvs : List (Key × V)} {g : TG} {tt : TT} {tk tv : TE} {vs : List Nat} {σ : L2.St} {H1 : Hp} {D : Addr} {Qd : Hp → Prop} (Pv : Nat → Hp → Prop) (h0 : Pv 0 (upd H1 D (.dK []))) (hl : ∀ i H, Pv i H → H d = some (.frz o (.dK kvs)))
    (hs : ∀ i k v H T H', kvs[i]? = some (k, v) → Pv i H → H T = none → Same H H' → H' T = some (.tup [kV k, v]) → g (.ref T) (wipe σ vs) H' fun σ2 H2 => wipe σ2 vs = wipe σ vs ∧ tt σ2 H2 fun b H3 =>
      if b = true then tk σ2 H3 fun y H4 => tv σ2 H4 fun z H5 => ∃ kvs k, y = kV k ∧ H5 D = some (.dK kvs) ∧ kvs.length < sizeLine ∧ Pv (i + 1) (upd H5 D (.dK (putK kvs k z))) else Pv (i + 1) H3) (hd : ∀ H, Pv kvs.length H → Qd H) :
    ∃ W : Nat → Nat → Hp → Prop, (∃ m, W 0 m (upd H1 D (.dK []))) ∧ ∀ i m H, W i m H → ((Iti d o kvs).stop i H ∧ Qd H) ∨ ((Iti d o kvs).go i H ∧ ∃ Nx : Hp → Prop, (∀ H', Nx H' → ∃ m', m' < m ∧ W (i + 1) m' H') ∧
      ∀ x H', (Iti d o kvs).yld i H x H' → g x (wipe σ vs) H' fun σ2 H2 => wipe σ2 vs = wipe σ vs ∧ tt σ2 H2 fun b H3 =>
        if b = true then tk σ2 H3 fun y H4 => tv σ2 H4 fun z H5 => ∃ kvs k, y = kV k ∧ H5 D = some (.dK kvs) ∧ kvs.length < sizeLine ∧ Nx (upd H5 D (.dK (putK kvs k z))) else Nx H3) := by
  refine ⟨fun i m H => i + m = kvs.length ∧ Pv i H, ⟨kvs.length, Nat.zero_add _, h0⟩, ?_⟩
  rintro i m H ⟨hm, p⟩
  by_cases hlt : i < kvs.length
  · refine .inr ⟨⟨hl i H p, hlt⟩, Pv (i + 1), fun H' p' => ⟨m - 1, by omega, by omega, p'⟩, fun v H' y => ?_⟩
    obtain ⟨T, k, x, hx, ev, hT, eH⟩ := y
    subst ev eH
    exact hs i k x H T _ hx p hT (Same.new hT) upd_same
  · have e : i = kvs.length := by omega
    subst e
    exact .inl ⟨⟨hl _ H p, Nat.le_refl _⟩, hd H p⟩
end My

end
section
set_option linter.all false
set_option maxRecDepth 100000
set_option maxHeartbeats 1000000
namespace My
open PySem PySem.Spec PyProof.Rows L2 StX ClX
/-! ### the text by places -/
def topS (i : Nat) : Stmt := PySem.Challenge.pw_threeswaps_k35_whole_streams_by_own_mode.main.body.getD i (.Pass ⟨0, 0, 0, 0⟩)
abbrev s_is_integer : Stmt := topS 8
theorem sc_is_integer : FnScope ["value"] ["value"] (defScope s_is_integer) := ⟨rfl, rfl, rfl, by decide +kernel, rfl, by decide +kernel, by decide +kernel⟩

abbrev s_require_integer : Stmt := topS 9
theorem sc_require_integer : FnScope ["value", "least"] ["value", "least"] (defScope s_require_integer) := ⟨rfl, rfl, rfl, by decide +kernel, rfl, by decide +kernel, by decide +kernel⟩

abbrev s_divisor_of_two : Stmt := topS 10
theorem sc_divisor_of_two : FnScope ["one", "other", "greater", "less"] ["one", "other"] (defScope s_divisor_of_two) := ⟨rfl, rfl, rfl, by decide +kernel, rfl, by decide +kernel, by decide +kernel⟩

abbrev s_common_multiple : Stmt := topS 11
theorem sc_common_multiple : FnScope ["numbers", "number", "found"] ["numbers"] (defScope s_common_multiple) := ⟨rfl, rfl, rfl, by decide +kernel, rfl, by decide +kernel, by decide +kernel⟩

abbrev s_checked_table : Stmt := topS 14
theorem sc_checked_table : FnScope ["offsets", "sign", "period", "position", "offset", "first", "remainder"] ["offsets", "sign"] (defScope s_checked_table) := ⟨rfl, rfl, rfl, by decide +kernel, rfl, by decide +kernel, by decide +kernel⟩

abbrev s_least_table : Stmt := topS 15
theorem sc_least_table : FnScope ["offsets", "length", "period"] ["offsets"] (defScope s_least_table) := ⟨rfl, rfl, rfl, by decide +kernel, rfl, by decide +kernel, by decide +kernel⟩

abbrev s_joint_multiple : Stmt := topS 17
theorem sc_joint_multiple : FnScope ["periods", "found"] ["periods"] (defScope s_joint_multiple) := ⟨rfl, rfl, rfl, by decide +kernel, rfl, by decide +kernel, by decide +kernel⟩

abbrev s_moved : Stmt := topS 18
theorem sc_moved : FnScope ["offsets", "place"] ["offsets", "place"] (defScope s_moved) := ⟨rfl, rfl, rfl, by decide +kernel, rfl, by decide +kernel, by decide +kernel⟩

abbrev s_joined_table : Stmt := topS 19
theorem sc_joined_table : FnScope ["one", "other", "period", "place"] ["one", "other"] (defScope s_joined_table) := ⟨rfl, rfl, rfl, by decide +kernel, rfl, by decide +kernel, by decide +kernel⟩

abbrev s_sources_of : Stmt := topS 20
theorem sc_sources_of : FnScope ["offsets", "offset", "found", "place"] ["offsets"] (defScope s_sources_of) := ⟨rfl, rfl, rfl, by decide +kernel, rfl, by decide +kernel, by decide +kernel⟩

abbrev s_Plan_init : Stmt := inClass (topS 21) 1
theorem sc_Plan_init : FnScope ["self", "offsets"] ["self", "offsets"] (defScope s_Plan_init) := ⟨rfl, rfl, rfl, by decide +kernel, rfl, by decide +kernel, by decide +kernel⟩

abbrev s_Plan_shift : Stmt := inClass (topS 21) 3
theorem sc_Plan_shift : FnScope ["cls", "n"] ["cls", "n"] (defScope s_Plan_shift) := ⟨rfl, rfl, rfl, by decide +kernel, rfl, by decide +kernel, by decide +kernel⟩

abbrev s_Plan_identity : Stmt := inClass (topS 21) 2
theorem sc_Plan_identity : FnScope ["cls"] ["cls"] (defScope s_Plan_identity) := ⟨rfl, rfl, rfl, by decide +kernel, rfl, by decide +kernel, by decide +kernel⟩

abbrev s_Plan_offsets : Stmt := inClass (topS 21) 7
theorem sc_Plan_offsets : FnScope ["self"] ["self"] (defScope s_Plan_offsets) := ⟨rfl, rfl, rfl, by decide +kernel, rfl, by decide +kernel, by decide +kernel⟩

abbrev s_Plan_at : Stmt := inClass (topS 21) 8
theorem sc_Plan_at : FnScope ["self", "x"] ["self", "x"] (defScope s_Plan_at) := ⟨rfl, rfl, rfl, by decide +kernel, rfl, by decide +kernel, by decide +kernel⟩

abbrev s_Plan_then : Stmt := inClass (topS 21) 12
theorem sc_Plan_then : FnScope ["self", "other"] ["self", "other"] (defScope s_Plan_then) := ⟨rfl, rfl, rfl, by decide +kernel, rfl, by decide +kernel, by decide +kernel⟩

abbrev s_delay : Stmt := topS 23
theorem sc_delay : FnScope ["plan", "offset"] ["plan"] (defScope s_delay) := ⟨rfl, rfl, rfl, by decide +kernel, rfl, by decide +kernel, by decide +kernel⟩

abbrev s_delayed : Stmt := topS 24
theorem sc_delayed : FnScope ["plan"] ["plan"] (defScope s_delayed) := ⟨rfl, rfl, rfl, by decide +kernel, rfl, by decide +kernel, by decide +kernel⟩

abbrev s_deliveries : Stmt := topS 27
theorem sc_deliveries : FnScope ["plan", "items", "gap", "stream", "found", "item"] ["plan", "items", "gap"] (defScope s_deliveries) := ⟨rfl, rfl, rfl, by decide +kernel, rfl, by decide +kernel, by decide +kernel⟩

abbrev s_Stream_init : Stmt := inClass (topS 26) 0
theorem sc_Stream_init : FnScope ["self", "plan", "gap"] ["self", "plan", "gap"] (defScope s_Stream_init) := ⟨rfl, rfl, rfl, by decide +kernel, rfl, by decide +kernel, by decide +kernel⟩

abbrev s_Stream_moment : Stmt := inClass (topS 26) 1
theorem sc_Stream_moment : FnScope ["self"] ["self"] (defScope s_Stream_moment) := ⟨rfl, rfl, rfl, by decide +kernel, rfl, by decide +kernel, by decide +kernel⟩

abbrev s_Stream_waiting : Stmt := inClass (topS 26) 2
theorem sc_Stream_waiting : FnScope ["self"] ["self"] (defScope s_Stream_waiting) := ⟨rfl, rfl, rfl, by decide +kernel, rfl, by decide +kernel, by decide +kernel⟩

abbrev s_Stream_push : Stmt := inClass (topS 26) 3
theorem sc_Stream_push : FnScope ["self", "item", "now"] ["self", "item"] (defScope s_Stream_push) := ⟨rfl, rfl, rfl, by decide +kernel, rfl, by decide +kernel, by decide +kernel⟩

abbrev s_Stream_rest : Stmt := inClass (topS 26) 4
theorem sc_Stream_rest : GScope ["self", "moment", "leaving", "last", "item"] ["self"] (defScope s_Stream_rest) := ⟨rfl, rfl, rfl, by decide +kernel, rfl, by decide +kernel, by decide +kernel⟩

abbrev s__law_pot : Stmt := topS 29
theorem sc__law_pot : FnScope ["_law_script", "_law_k", "_law_cell"] ["_law_script", "_law_k"] (defScope s__law_pot) := ⟨rfl, rfl, rfl, by decide +kernel, rfl, by decide +kernel, by decide +kernel⟩

abbrev s__law_draw : Stmt := topS 30
theorem sc__law_draw : FnScope ["_law_pot_here", "_law_many", "_law_digit"] ["_law_pot_here", "_law_many"] (defScope s__law_draw) := ⟨rfl, rfl, rfl, by decide +kernel, rfl, by decide +kernel, by decide +kernel⟩

abbrev s__law_shuffled : Stmt := topS 32
theorem sc__law_shuffled : FnScope ["_law_pot_here", "_law_some", "_law_left", "_law_mixed"] ["_law_pot_here", "_law_some"] (defScope s__law_shuffled) := ⟨rfl, rfl, rfl, by decide +kernel, rfl, by decide +kernel, by decide +kernel⟩

abbrev s__law_table : Stmt := topS 34
theorem sc__law_table : FnScope ["_law_pot_here", "_law_many", "_law_goals", "_law_found", "_law_near", "_law_place"] ["_law_pot_here", "_law_many"] (defScope s__law_table) := ⟨rfl, rfl, rfl, by decide +kernel, rfl, by decide +kernel, by decide +kernel⟩

abbrev s__law_choice : Stmt := topS 31
theorem sc__law_choice : FnScope ["_law_pot_here", "_law_some"] ["_law_pot_here", "_law_some"] (defScope s__law_choice) := ⟨rfl, rfl, rfl, by decide +kernel, rfl, by decide +kernel, by decide +kernel⟩

abbrev s__law_period : Stmt := topS 33
theorem sc__law_period : FnScope ["_law_pot_here"] ["_law_pot_here"] (defScope s__law_period) := ⟨rfl, rfl, rfl, by decide +kernel, rfl, by decide +kernel, by decide +kernel⟩

abbrev s__law_drawn : Stmt := topS 35
theorem sc__law_drawn : FnScope ["_law_pot_here", "_law_far"] ["_law_pot_here"] (defScope s__law_drawn) := ⟨rfl, rfl, rfl, by decide +kernel, rfl, by decide +kernel, by decide +kernel⟩

abbrev s__law_item : Stmt := topS 36
theorem sc__law_item : FnScope ["_law_pot_here", "_law_way"] ["_law_pot_here"] (defScope s__law_item) := ⟨rfl, rfl, rfl, by decide +kernel, rfl, by decide +kernel, by decide +kernel⟩

abbrev s__law_leaves : Stmt := topS 37
theorem sc__law_leaves : FnScope ["_law_table_here", "_law_moment", "_law_late", "_law_offset"] ["_law_table_here", "_law_moment"] (defScope s__law_leaves) := ⟨rfl, rfl, rfl, by decide +kernel, rfl, by decide +kernel, by decide +kernel⟩

abbrev s__law_rest : Stmt := topS 38
theorem sc__law_rest : FnScope ["_law_pending", "_law_moment", "_law_mark", "_law_known", "_law_when", "_law_one", "_law_now"] ["_law_pending", "_law_moment", "_law_mark"] (defScope s__law_rest) := ⟨rfl, rfl, rfl, by decide +kernel, rfl, by decide +kernel, by decide +kernel⟩

abbrev s__law_delivered : Stmt := topS 39
theorem sc__law_delivered : FnScope ["_law_table_here", "_law_goods", "_law_mark", "_law_moment", "_law_one"] ["_law_table_here", "_law_goods", "_law_mark"] (defScope s__law_delivered) := ⟨rfl, rfl, rfl, by decide +kernel, rfl, by decide +kernel, by decide +kernel⟩

abbrev s__law_pushed_right : Stmt := topS 40
theorem sc__law_pushed_right : FnScope ["_law_pot_here", "_law_table_here", "_law_stream", "_law_mark", "_law_goods", "_law_pending", "_law_moment", "_law_one", "_law_due", "_law_told", "_law_row", "_law_when", "_law_good"] ["_law_pot_here", "_law_table_here", "_law_stream", "_law_mark", "_law_goods"] (defScope s__law_pushed_right) := ⟨rfl, rfl, rfl, by decide +kernel, rfl, by decide +kernel, by decide +kernel⟩

abbrev s__law_itself_right : Stmt := topS 41
theorem sc__law_itself_right : FnScope ["_law_pot_here", "_law_far", "_law_own", "_law_stream", "_law_number", "_law_rest_here", "_law_told"] ["_law_pot_here"] (defScope s__law_itself_right) := ⟨rfl, rfl, rfl, by decide +kernel, rfl, by decide +kernel, by decide +kernel⟩

abbrev s__law_new_right : Stmt := topS 42
theorem sc__law_new_right : FnScope ["_law_made", "_law_goods", "_law_mark", "_law_due", "_law_shown", "_law_known", "_law_told_due", "_law_turn", "_law_told"] ["_law_made", "_law_goods", "_law_mark", "_law_due"] (defScope s__law_new_right) := ⟨rfl, rfl, rfl, by decide +kernel, rfl, by decide +kernel, by decide +kernel⟩

abbrev s__law_right : Stmt := topS 43
theorem sc__law_right : FnScope ["_law_pot_here", "_law_table_here", "_law_made", "_law_mark", "_law_goods", "_law_stream", "_law_shown", "_law_twin", "_law_due", "_law_late", "_law_told", "_law_turn"] ["_law_pot_here"] (defScope s__law_right) := ⟨rfl, rfl, rfl, by decide +kernel, rfl, by decide +kernel, by decide +kernel⟩

abbrev s_law : Stmt := topS 44
theorem sc_law : FnScope ["_law_script", "_law_k"] ["_law_script"] (defScope s_law) := ⟨rfl, rfl, rfl, by decide +kernel, rfl, by decide +kernel, by decide +kernel⟩

/-- a plain def of the module -/
abbrev DefM (K : PySem.W.Frag) (mg : Str → Option Value) (x : Str) (st : Stmt) : Prop := ∃ f fd, Fun K x x st f fd ∧ mg x = some (.ref f)
abbrev MetM (K : PySem.W.Frag) (C : Addr) (x qual : Str) (st : Stmt) : Prop := ∃ f fd, Fun K x qual st f fd ∧ Meth K C x f
abbrev PrpM (K : PySem.W.Frag) (C : Addr) (x qual : Str) (st : Stmt) : Prop := ∃ p f fd, Fun K x qual st f fd ∧ PropOf K C x p f
/-- what the top has left -/
structure Txt (K : PySem.W.Frag) (mg : Str → Option Value) (cM cP cS : Addr) : Prop where
  g_isinstance : mg "isinstance" = none
  g_int : mg "int" = none
  g_bool : mg "bool" = none
  g_list : mg "list" = none
  g_tuple : mg "tuple" = none
  g_abs : mg "abs" = none
  g_len : mg "len" = none
  g_enumerate : mg "enumerate" = none
  g_range : mg "range" = none
  g_max : mg "max" = none
  g_min : mg "min" = none
  g_str : mg "str" = none
  g_all : mg "all" = none
  g_divmod : mg "divmod" = none
  g_repr : mg "repr" = none
  m_Move : mg "Move" = some (.ref cM)
  m_Plan : mg "Plan" = some (.ref cP)
  m_Stream : mg "Stream" = some (.ref cS)
  d_is_integer : DefM K mg "is_integer" s_is_integer
  d_require_integer : ∃ f fd, FunD K "require_integer" "require_integer" (defArgs s_require_integer) (defBody s_require_integer) (defScope s_require_integer) [V.non] [] f fd ∧ mg "require_integer" = some (.ref f)
  d_divisor_of_two : DefM K mg "divisor_of_two" s_divisor_of_two
  d_common_multiple : DefM K mg "common_multiple" s_common_multiple
  d_checked_table : DefM K mg "checked_table" s_checked_table
  d_least_table : DefM K mg "least_table" s_least_table
  d_joint_multiple : DefM K mg "joint_multiple" s_joint_multiple
  d_moved : DefM K mg "moved" s_moved
  d_joined_table : DefM K mg "joined_table" s_joined_table
  d_sources_of : DefM K mg "sources_of" s_sources_of
  d_delay : DefM K mg "delay" s_delay
  d_delayed : DefM K mg "delayed" s_delayed
  d_deliveries : ∃ f fd, FunD K "deliveries" "deliveries" (defArgs s_deliveries) (defBody s_deliveries) (defScope s_deliveries) [] [("gap", V.non)] f fd ∧ mg "deliveries" = some (.ref f)
  d__law_pot : DefM K mg "_law_pot" s__law_pot
  d__law_draw : DefM K mg "_law_draw" s__law_draw
  d__law_shuffled : DefM K mg "_law_shuffled" s__law_shuffled
  d__law_table : DefM K mg "_law_table" s__law_table
  d__law_choice : DefM K mg "_law_choice" s__law_choice
  d__law_period : DefM K mg "_law_period" s__law_period
  d__law_drawn : DefM K mg "_law_drawn" s__law_drawn
  d__law_item : DefM K mg "_law_item" s__law_item
  d__law_leaves : DefM K mg "_law_leaves" s__law_leaves
  d__law_rest : DefM K mg "_law_rest" s__law_rest
  d__law_delivered : DefM K mg "_law_delivered" s__law_delivered
  d__law_pushed_right : DefM K mg "_law_pushed_right" s__law_pushed_right
  d__law_itself_right : DefM K mg "_law_itself_right" s__law_itself_right
  d__law_new_right : DefM K mg "_law_new_right" s__law_new_right
  d__law_right : DefM K mg "_law_right" s__law_right
  d_law : DefM K mg "law" s_law
  clP : Cls K cP
  clS : Cls K cS
  nP1 : NoAttr K cP "own_offsets"
  nP2 : NoAttr K cP "own_sources"
  nS1 : NoAttr K cS "own_delivery"
  nS2 : NoAttr K cS "own_gap"
  nS3 : NoAttr K cS "own_moment"
  nS4 : NoAttr K cS "own_leaving"
  rdM : ∃ mc u, CRead K cM mc ∧ CVal K cM mc "MAX_PERIOD" (.int 2520) u
  rdP : ∃ mc u, CRead K cP mc ∧ CVal K cP mc "SIGN" (.int 1) u
  i_Plan : ∃ f fd, Mk K cP f ∧ Fun K "__init__" "Plan.__init__" s_Plan_init f fd
  i_Stream : ∃ f fd, Mk K cS f ∧ FunD K "__init__" "Stream.__init__" (defArgs s_Stream_init) (defBody s_Stream_init) (defScope s_Stream_init) [] [("gap", V.non)] f fd
  me_Plan_shift : ∃ mc p f fd, CRead K cP mc ∧ CMet K cP mc "shift" p f ∧ Fun K "shift" "Plan.shift" s_Plan_shift f fd
  me_Plan_identity : ∃ mc p f fd, CRead K cP mc ∧ CMet K cP mc "identity" p f ∧ Fun K "identity" "Plan.identity" s_Plan_identity f fd
  me_Plan_offsets : MetM K cP "offsets" "Plan.offsets" s_Plan_offsets
  me_Plan_at : MetM K cP "at" "Plan.at" s_Plan_at
  me_Plan_then : MetM K cP "then" "Plan.then" s_Plan_then
  pr_Stream_moment : PrpM K cS "moment" "Stream.moment" s_Stream_moment
  pr_Stream_waiting : PrpM K cS "waiting" "Stream.waiting" s_Stream_waiting
  me_Stream_push : MetM K cS "push" "Stream.push" s_Stream_push
  me_Stream_rest : MetM K cS "rest" "Stream.rest" s_Stream_rest
end My

end
section
set_option linter.all false
set_option maxRecDepth 100000
set_option maxHeartbeats 1000000
namespace My
open PySem PySem.Spec PyProof.Rows L2 StX ClX
/-! ### integers -/
def sp_is_integer : Sp := fun vs H Q _ => ∃ n : Int, vs = [.int n] ∧ Q (.bl true) H
def sp_require_integer : Sp := fun vs H Q _ => ∃ (n : Int) (l : V), vs = [.int n, l] ∧ (l = .non ∨ ∃ m : Int, l = .int m ∧ m ≤ n) ∧ Q .non H
def sp_divisor_of_two : Sp := fun vs H Q _ => ∃ a b : Int, vs = [.int a, .int b] ∧ Q (.int (Int.gcd a b : Int)) H
section
variable {P : Program} {w : World} {K : PySem.W.Frag} {mg : Str → Option Value} {base : Heap} {cM cP cS : Addr} (T : Txt K mg cM cP cS)
include T
theorem c_is_integer : CalD P w K mg base 1 "is_integer" sp_is_integer [] := by
  obtain ⟨f, fd, F, hm⟩ := T.d_is_integer
  refine CalD.of F hm (F.binds (ps := ["value"]) fun _ _ _ _ _ _ us hl => match us, hl with | [_], _ => rfl) (F.ok sc_is_integer (fun vs H Q E h => ?_) (fun cdv A outer s H vs Q E hr h => ?_))
  · obtain ⟨n, e, _⟩ := h
    rw [e]
    rfl
  · obtain ⟨n, rfl, k⟩ := h
    refine ⟨_, (pss_one (ps_ret (pe_and (pe_callB call_isi (by rfl) T.g_isinstance (by decide +kernel) (pa_cons (pv 0) (pa_cons (pe_bltn (v := .ty "int") (by rfl) T.g_int (by decide +kernel) rfl) pa_nil))) (pe_one (pe_not (pe_callB call_isi (by rfl) T.g_isinstance (by decide +kernel) (pa_cons (pv 0) (pa_cons (pe_bltn (v := .ty "bool") (by rfl) T.g_bool (by decide +kernel) rfl) pa_nil)))))))), ?_⟩
    refine ⟨_, rfl, .int n, .ty "int", .type "int", .type "int", true, rfl, .ty _, .base (.int _), kit_ty (by decide +kernel), true, rfl, ?_⟩
    refine iteT ?_
    exact ⟨_, rfl, .int n, .ty "bool", .type "int", .type "bool", false, rfl, .ty _, .base (.int _), kit_ty (by decide +kernel), false, rfl, k⟩
theorem ok_require_integer {f : Addr} {fd : FuncData} (F : FunD K "require_integer" "require_integer" (defArgs s_require_integer) (defBody s_require_integer) (defScope s_require_integer) [V.non] [] f fd) : FnOk P w K mg base CX0 2 f fd ["value", "least"] sp_require_integer := by
  have c_is_integer := c_is_integer (P := P) (w := w) (base := base) T
  refine F.ok sc_require_integer (fun vs H Q E h => ?_) (fun cdv A outer s H vs Q E hr h => ?_)
  · obtain ⟨n, l, e, _⟩ := h
    rw [e]
    rfl
  · obtain ⟨n, l, rfl, hl, k⟩ := h
    refine ⟨_, PSs.nox (pss_one (ps_if (PW.pt (pw_or (pt_not (pt_val (pe_d c_is_integer hr (by decide) rfl (pa_cons (pv 0) pa_nil)))) (pw_or1 (PW.pt (pw_and (pt_cmpR op_notN (pv 1) pe_non (nomark _)) (pw_and1 (pt_cmpR op_lt (pv 0) (pv 1) (nomark _)))))))) (pss_one ps_never) pss_nil)), ?_⟩
    refine ⟨_, rfl, n, rfl, _, rfl, ?_⟩
    refine iteF ?_
    rcases hl with rfl | ⟨m, rfl, hm⟩
    · refine ⟨_, rfl, rfl, _, rfl, ?_⟩
      refine iteF ?_
      refine iteF ?_
      exact k
    · refine ⟨_, rfl, rfl, _, rfl, ?_⟩
      refine iteT ?_
      refine ⟨_, rfl, _, rfl, _, _, rfl, rfl, _, rfl, ?_⟩
      rw [decide_eq_false (show ¬ n < m by omega)]
      refine iteF ?_
      exact k
theorem c_require_integer1 : CalD P w K mg base 2 "require_integer" sp_require_integer [V.non] := by
  obtain ⟨f, fd, F, hm⟩ := T.d_require_integer
  obtain ⟨ds, d, b⟩ := F.binds1 (ps := ["value", "least"]) 1 0 (by simp) rfl (fun Tt kV doc pm an cdv ct us its h1 h2 => match us, its, h1, h2 with | [_], [_], _, _ => ⟨_, rfl, rfl⟩)
  exact ⟨f, fd, _, ds, ok_require_integer T F, hm, F.kp, b, d⟩
theorem c_require_integer2 : CalD P w K mg base 2 "require_integer" sp_require_integer [] := by
  obtain ⟨f, fd, F, hm⟩ := T.d_require_integer
  obtain ⟨ds, d, b⟩ := F.binds1 (ps := ["value", "least"]) 2 1 (by simp) rfl (fun Tt kV doc pm an cdv ct us its h1 h2 => match us, its, h1, h2 with | [_, _], [_], _, _ => ⟨_, rfl, rfl⟩)
  have e : ds = [] := by
    have := d.length
    exact List.length_eq_zero_iff.mp (by simpa using this.symm)
  rw [e] at b
  exact ⟨f, fd, _, [], ok_require_integer T F, hm, F.kp, b, .nil⟩
theorem c_divisor_of_two : CalD P w K mg base 1 "divisor_of_two" sp_divisor_of_two [] := by
  obtain ⟨f, fd, F, hm⟩ := T.d_divisor_of_two
  refine CalD.of F hm (F.binds (ps := ["one", "other"]) fun _ _ _ _ _ _ us hl => match us, hl with | [_, _], _ => rfl) (F.ok sc_divisor_of_two (fun vs H Q E h => ?_) (fun cdv A outer s H vs Q E hr h => ?_))
  · obtain ⟨a, b, e, _⟩ := h
    rw [e]
    rfl
  · obtain ⟨a, b, rfl, k⟩ := h
    refine ⟨_, (pss_cons (ps_par (i := 2) (j := 3) (by rfl) sc_divisor_of_two.nd rfl rfl (by decide) rfl rfl (pa_cons (pe_callB call_abs (by rfl) T.g_abs (by decide +kernel) (pa_cons (pv 0) pa_nil)) (pa_cons (pe_callB call_abs (by rfl) T.g_abs (by decide +kernel) (pa_cons (pv 1) pa_nil)) pa_nil)) (by rfl))
      (pss_cons (ps_while PassesOwn.never (pt_cmpR op_ne (pv 3) pe_int (nomark _)) (pss_one (ps_par (i := 2) (j := 3) (by rfl) sc_divisor_of_two.nd rfl rfl (by decide) rfl rfl (pa_cons (pv 3) (pa_cons (pe_op op_mod (pv 2) (pv 3)) pa_nil)) (by rfl))))
      (pss_one (ps_ret (pv 2))))), ?_⟩
    refine ⟨_, rfl, a, rfl, _, rfl, b, rfl, _, _, rfl, ?_⟩
    have ea : (if a < 0 then -a else a) = (a.natAbs : Int) := by split <;> omega
    have eb : (if b < 0 then -b else b) = (b.natAbs : Int) := by split <;> omega
    rw [ea, eb]
    refine while_by (fun σ H' => H' = H ∧ ∃ x y : Nat, σ = [some (.int a), some (.int b), some (.int (x : Int)), some (.int (y : Int))] ∧ Nat.gcd x y = Int.gcd a b) (fun σ _ => match σ with | [_, _, _, some (.int y)] => y.toNat | _ => 0) ⟨rfl, a.natAbs, b.natAbs, rfl, rfl⟩ ?_ ?_
    · rintro σ H' ⟨rfl, x, y, rfl, hg⟩
      refine ⟨_, rfl, rfl, _, rfl, ?_⟩
      by_cases hy : y = 0
      · subst hy
        refine iteNS rfl ?_
        refine ⟨_, rfl, ?_⟩
        show Q (.int (x : Int)) H'
        rw [show x = Int.gcd a b by rw [← hg, Nat.gcd_zero_right]]
        exact k
      · have hn : V.int (y : Int) ≠ V.int 0 := fun e => by
          injection e with e
          omega
        rw [decide_eq_false hn]
        refine iteT ?_
        refine ⟨_, rfl, _, rfl, _, rfl, _, _, rfl, rfl, (by show (0 : Int) < (y : Int); omega), _, _, rfl, ⟨⟨rfl, y, x % y, rfl, ?_⟩, ?_⟩⟩
        · rw [← hg, Nat.gcd_comm x y]
          exact (Nat.gcd_rec y x).symm ▸ Nat.gcd_comm _ _
        · show ((x : Int) % (y : Int)).toNat < (y : Int).toNat
          have : (x : Int) % (y : Int) < y := Int.emod_lt_of_pos _ (by omega)
          have h0 : 0 ≤ (x : Int) % (y : Int) := Int.emod_nonneg _ (by omega)
          omega
    · rintro σ H' Q1 Q2 hq ⟨v, e1, e2, c, e3, q⟩
      exact ⟨v, e1, e2, c, e3, hq _ _ q⟩
end
end My

end
section
set_option linter.all false
set_option maxRecDepth 100000
set_option maxHeartbeats 1000000
namespace My
open PySem PySem.Spec PyProof.Rows L2 StX ClX
/-- a def with a star, called by its name -/
structure CalR (P : Program) (w : World) (K : PySem.W.Frag) (mg : Str → Option Value) (base : Heap) (k : Nat) (x : Str) (sp : Sp) : Prop where
  ex : ∃ f : Addr, FnR P w K mg base CX0 k f sp ∧ mg x = some (.ref f) ∧ PySem.W.keepIn K (.ref f) = true
theorem pe_r {X : Cx} {k j : Nat} {x : Str} {sp : Sp} {p pos sp_ : Pos} {e : Expr} {te : TE} (c : CalR X.prog X.w X.K X.mg X.base k x sp) (hr : Room j X.A) (hk : k ≤ j) (hg : Gl X x) (he : PE X e te) (hdb : (x == ("__debug__" : Str)) = false := by decide) :
    PE X (.Call (.Name x p) [.Starred e sp_] [] pos) (fun σ H Q => te σ H fun y H1 => ∃ a xs, y = V.ref a ∧ (SqT X.K H1 a xs ∨ SqL X.K H1 a xs) ∧ sp xs H1 Q E0) := by
  obtain ⟨f, F, h1, h2⟩ := c.ex
  exact pe_callS1 (hd := hdb) F (hr.mono hk) h2 hg h1 pass0 he
def lcmL (ns : List Int) : Int := ns.foldl (fun f n => f * n / (Int.gcd f n : Int)) 1
/-- of the tuple of all arguments -/
def sp_cm1 (K : PySem.W.Frag) : Sp := fun vs H Q _ => ∃ (p : Addr) (ns : List Int), vs = [.ref p] ∧ SqT K H p (LI ns) ∧ (∀ n ∈ ns, 1 ≤ n ∧ n ≤ 2520) ∧ Q (.int (lcmL ns)) H
def sp_common_multiple : Sp := fun vs H Q _ => ∃ ns : List Int, vs = LI ns ∧ ns.length ≤ 1000 ∧ (∀ n ∈ ns, 1 ≤ n ∧ n ≤ 2520) ∧ ∀ H', Same H H' → Q (.int (lcmL ns)) H'
def sp_joint_multiple (K : PySem.W.Frag) : Sp := fun vs H Q _ => ∃ (a : Addr) (ns : List Int), vs = [.ref a] ∧ SqL K H a (LI ns) ∧ ns.length ≤ 1000 ∧ (∀ n ∈ ns, 1 ≤ n ∧ n ≤ 2520) ∧ lcmL ns ≤ 2520 ∧ ∀ H', Same H H' → Q (.int (lcmL ns)) H'
def sp_moved (K : PySem.W.Frag) : Sp := fun vs H Q _ => ∃ (a : Addr) (ts : List Int) (x : Int), vs = [.ref a, .int x] ∧ SqL K H a (LI ts) ∧ 0 < ts.length ∧ ts.length ≤ 1000000 ∧ Q (.int (atT ts x)) H
section
variable {P : Program} {w : World} {K : PySem.W.Frag} {mg : Str → Option Value} {base : Heap} {cM cP cS : Addr} (T : Txt K mg cM cP cS)
include T
theorem c_common_multiple : CalR P w K mg base 3 "common_multiple" sp_common_multiple := by
  have c_require_integer2 := c_require_integer2 (P := P) (w := w) (base := base) T
  have c_divisor_of_two := c_divisor_of_two (P := P) (w := w) (base := base) T
  obtain ⟨f, fd, F, hm⟩ := T.d_common_multiple
  obtain ⟨oc, od, kV, doc, pm, an, cdv, ct, osl, rfl, lk, hcd⟩ := F.ex
  have G := fn_star (ps := []) (pv := "numbers") (sp := sp_cm1 K) (P := P) (w := w) (mg := mg) (base := base) (CX := CX0) (k := 2) lk hcd sc_common_multiple cxUp_none (fun us rest hl => match us, rest, hl with | [], [], _ => rfl | [], _ :: _, _ => rfl) (fun A outer s H vs Q E hr h => ?_)
  · refine ⟨f, fun A outer s H us vs Q E hr e0 r h => ?_, hm, F.kp⟩
    obtain ⟨ns, rfl, hl, hb, k⟩ := h
    refine G A outer s H us _ Q E hr e0 r ⟨[], LI ns, rfl, rfl, small_len (by rw [List.length_map]; omega), fun p hp => ⟨p, ns, rfl, st_at upd_same, hb, k _ (Same.new hp)⟩⟩
  · obtain ⟨p, ns, rfl, hs, hb, k⟩ := h
    refine ⟨_, PSs.nox (pss_cons (ps_for PassesOwn.never rfl (pi_tup (pv 0)) (pg_name (i := 1) sc_common_multiple.nd rfl (Or.inl rfl)) (pss_one (ps_expr (pe_d c_require_integer2 hr (by decide) rfl (pa_cons (pv 1) (pa_cons pe_int pa_nil))))))
      (pss_cons (ps_set (i := 2) sc_common_multiple.nd rfl (Or.inl rfl) pe_int)
      (pss_cons (ps_for PassesOwn.never rfl (pi_tup (pv 0)) (pg_name (i := 1) sc_common_multiple.nd rfl (Or.inl rfl)) (pss_one (ps_set (i := 2) sc_common_multiple.nd rfl (Or.inl rfl) (pe_op op_fdiv (pe_op op_mul (pv 2) (pv 1)) (pe_d c_divisor_of_two hr (by decide) rfl (pa_cons (pv 2) (pa_cons (pv 1) pa_nil)))))))
      (pss_one (ps_ret (pv 2)))))), ?_⟩
    refine ⟨_, rfl, p, rfl, ⟨_, hs⟩, for_tup (K := K) (a := p) (xs := LI ns) (fun i σ H' => H' = H ∧ ∃ v, σ = [some (.ref p), v, none]) ⟨rfl, none, rfl⟩ (fun i σ H' _ q => by rw [q.1]; exact hs) ?_ ?_⟩
    · rintro i x σ H' hx ⟨rfl, v, rfl⟩
      obtain ⟨n, hn, rfl⟩ := LI_get hx
      have hm' := hb n (List.mem_of_getElem? hn)
      exact ⟨_, rfl, n, .int 1, rfl, .inr ⟨1, rfl, hm'.1⟩, rfl, _, rfl⟩
    · rintro σ H' ⟨rfl, v, rfl⟩
      refine ⟨_, rfl, p, rfl, ⟨_, hs⟩, for_tup (K := K) (a := p) (xs := LI ns) (fun i σ H1 => H1 = H' ∧ ∃ v, σ = [some (.ref p), v, some (.int (lcmL (ns.take i)))]) ⟨rfl, v, rfl⟩ (fun i σ H1 _ q => by rw [q.1]; exact hs) ?_ ?_⟩
      · rintro i x σ H1 hx ⟨rfl, v, rfl⟩
        obtain ⟨n, hn, rfl⟩ := LI_get hx
        have hm' := hb n (List.mem_of_getElem? hn)
        have hi : i < ns.length := (List.getElem?_eq_some_iff.mp hn).1
        have gpos : 0 < Int.gcd (lcmL (ns.take i)) n := Int.gcd_pos_of_ne_zero_right _ (by omega)
        have gle : (Int.gcd (lcmL (ns.take i)) n : Int) ≤ n := Int.gcd_le_right _ (by omega)
        refine ⟨_, rfl, _, rfl, _, _, rfl, rfl, .inr ⟨by omega, by omega⟩, _, rfl, _, rfl, _, _, rfl, _, _, rfl, rfl, ⟨by omega, by omega⟩, ?_⟩
        refine ⟨rfl, some (.int n), ?_⟩
        have e : ns.take (i + 1) = ns.take i ++ [n] := by
          rw [List.take_succ, hn]
          rfl
        rw [e]
        unfold lcmL
        rw [List.foldl_append]
        rfl
      · rintro σ H1 ⟨rfl, v, rfl⟩
        refine ⟨_, rfl, ?_⟩
        have e : ns.take (LI ns).length = ns := by rw [List.length_map, List.take_length]
        rw [e]
        exact k
theorem c_joint_multiple : CalD P w K mg base 4 "joint_multiple" (sp_joint_multiple K) [] := by
  have c_common_multiple := c_common_multiple (P := P) (w := w) (base := base) T
  obtain ⟨f, fd, F, hm⟩ := T.d_joint_multiple
  refine CalD.of F hm (F.binds (ps := ["periods"]) fun _ _ _ _ _ _ us hl => match us, hl with | [_], _ => rfl) (F.ok sc_joint_multiple (fun vs H Q E h => ?_) (fun cdv A outer s H vs Q E hr h => ?_))
  · obtain ⟨a, ns, e, _⟩ := h
    rw [e]
    rfl
  · obtain ⟨a, ns, rfl, hs, hl, hb, hle, k⟩ := h
    obtain ⟨mc, u, rd, cv⟩ := T.rdM
    refine ⟨_, (pss_cons (ps_set (i := 1) sc_joint_multiple.nd rfl (Or.inl rfl) (pe_r c_common_multiple hr (by decide) rfl (pv 0)))
      (pss_cons (ps_if (pt_cmpR op_gt (pv 1) (pe_cval (pe_glob (v := .ref cM) rfl T.m_Move rfl)) (nomark _)) (pss_one ps_never) pss_nil)
      (pss_one (ps_ret (pv 1))))), ?_⟩
    refine ⟨_, rfl, a, _, rfl, .inr hs, ns, rfl, hl, hb, fun H' s1 => ?_⟩
    refine ⟨_, rfl, _, mc, _, u, rfl, rd, cv, _, _, rfl, rfl, _, rfl, ?_⟩
    rw [decide_eq_false (show ¬ 2520 < lcmL ns by omega)]
    refine iteF ?_
    exact ⟨_, rfl, k H' s1⟩
theorem c_moved : CalD P w K mg base 1 "moved" (sp_moved K) [] := by
  obtain ⟨f, fd, F, hm⟩ := T.d_moved
  refine CalD.of F hm (F.binds (ps := ["offsets", "place"]) fun _ _ _ _ _ _ us hl => match us, hl with | [_, _], _ => rfl) (F.ok sc_moved (fun vs H Q E h => ?_) (fun cdv A outer s H vs Q E hr h => ?_))
  · obtain ⟨a, ts, x, e, _⟩ := h
    rw [e]
    rfl
  · obtain ⟨a, ts, x, rfl, hs, h0, hl, k⟩ := h
    have hpos : (0 : Int) < ((LI ts).length : Int) := by rw [List.length_map]; omega
    have e0 : ((LI ts).length : Int) = (ts.length : Int) := by rw [List.length_map]
    have m0 : 0 ≤ x % (ts.length : Int) := Int.emod_nonneg _ (by omega)
    have m1 : x % (ts.length : Int) < ts.length := Int.emod_lt_of_pos _ (by omega)
    have hi : (x % (ts.length : Int)).toNat < ts.length := by omega
    refine ⟨_, (pss_one (ps_ret (pe_op op_add (pv 1) (pe_ix ix_list (pv 0) (pe_op op_mod (pv 1) (pe_callB call_len (by rfl) T.g_len (by decide +kernel) (pa_cons (pv 0) pa_nil))) (fun _ _ => rfl))))), ?_⟩
    refine ⟨_, rfl, _, rfl, _, rfl, _, rfl, _, (LI ts).length, rfl, .inl ⟨_, hs, rfl⟩, _, _, rfl, rfl, hpos, a, LI ts, _, .int (ts.getD (x % (ts.length : Int)).toNat 0), rfl, rfl, hs, ?_, _, _, rfl, rfl, k⟩
    have e1 : x % ((LI ts).length : Int) = (((x % (ts.length : Int)).toNat : Nat) : Int) := by rw [e0]; omega
    rw [e1]
    refine atI_LI ?_
    rw [List.getD_eq_getElem?_getD, List.getElem?_eq_getElem hi]
    rfl
end
end My

end
section
set_option linter.all false
set_option maxRecDepth 100000
set_option maxHeartbeats 1000000
namespace My
open PySem PySem.Spec PyProof.Rows L2 StX ClX
def resT (us : List Int) (k : Nat) : Int := ((k : Int) + us.getD k 0) % (us.length : Int)
/-- a table of a plan -/
structure Valid (us : List Int) : Prop where
  pos : 0 < us.length
  le : us.length ≤ 2520
  inj : ∀ i j, i < us.length → j < us.length → resT us i = resT us j → i = j
theorem getD_at {us : List Int} {i : Nat} {n : Int} (h : us[i]? = some n) : us.getD i 0 = n := by
  rw [List.getD_eq_getElem?_getD, h]
  rfl
theorem valV_of_none {κ : Type} [DecidableEq κ] {kvs : List (κ × V)} {k : κ} (h : ∀ p ∈ kvs, p.1 ≠ k) : valV kvs k = none := by
  unfold valV
  rw [List.find?_eq_none.mpr fun p hp => by simpa using h p hp]
  rfl
def kvsT (us : List Int) (i : Nat) : List (Key × V) := (List.range i).map fun k => (Sum.inl (resT us k), V.int (k : Nat))
theorem kvsT_succ (us : List Int) (i : Nat) : kvsT us (i + 1) = kvsT us i ++ [(Sum.inl (resT us i), V.int (i : Nat))] := by
  unfold kvsT
  rw [List.range_succ, List.map_append]
  rfl
theorem kvsT_none {us : List Int} (hv : Valid us) {i : Nat} (hi : i < us.length) : valV (kvsT us i) (Sum.inl (resT us i)) = none := by
  refine valV_of_none fun p hp e => ?_
  obtain ⟨k, hk, rfl⟩ := List.mem_map.mp hp
  have hk' := List.mem_range.mp hk
  have := hv.inj k i (by omega) hi (Sum.inl.inj e)
  omega
def sp_checked_table : Sp := fun vs H Q _ => ∃ (a : Addr) (us : List Int), vs = [.ref a, .int 1] ∧ H a = some (.lst (LI us)) ∧ Valid us ∧ ∀ p H', H p = none → Same H H' → H' p = some (.lst (LI us)) → Q (.ref p) H'
section
variable {P : Program} {w : World} {K : PySem.W.Frag} {mg : Str → Option Value} {base : Heap} {cM cP cS : Addr} (T : Txt K mg cM cP cS)
include T
theorem c_checked_table : CalD P w K mg base 2 "checked_table" sp_checked_table [] := by
  have c_is_integer := c_is_integer (P := P) (w := w) (base := base) T
  obtain ⟨f, fd, F, hm⟩ := T.d_checked_table
  refine CalD.of F hm (F.binds (ps := ["offsets", "sign"]) fun _ _ _ _ _ _ us hl => match us, hl with | [_, _], _ => rfl) (F.ok sc_checked_table (fun vs H Q E h => ?_) (fun cdv A outer s H vs Q E hr h => ?_))
  · obtain ⟨a, us, e, _⟩ := h
    rw [e]
    rfl
  · obtain ⟨a, us, rfl, ha, hv, k⟩ := h
    have hu := hu_of hr
    obtain ⟨mc, u, rd, cv⟩ := T.rdM
    have hlen : (LI us).length = us.length := List.length_map ..
    have h0 := hv.pos
    have hle := hv.le
    refine ⟨_, (pss_cons (ps_if (PW.pt (pw_or (pt_not (pt_val (pe_callB call_isiT (by rfl) T.g_isinstance (by decide +kernel) (pa_cons (pv 0) (pa_cons (pe_tup (pa_cons (pe_bltn (v := .ty "list") (by rfl) T.g_list (by decide +kernel) rfl) (pa_cons (pe_bltn (v := .ty "tuple") (by rfl) T.g_tuple (by decide +kernel) rfl) pa_nil))) pa_nil))))) (pw_or1 (pt_cmpR op_eq (pe_callB call_len (by rfl) T.g_len (by decide +kernel) (pa_cons (pv 0) pa_nil)) pe_int (nomark _))))) (pss_one ps_never) pss_nil)
      (pss_cons (ps_set (i := 2) sc_checked_table.nd rfl (Or.inl rfl) (pe_callB call_len (by rfl) T.g_len (by decide +kernel) (pa_cons (pv 0) pa_nil)))
      (pss_cons (ps_if (pt_cmpR op_gt (pv 2) (pe_cval (pe_glob (v := .ref cM) rfl T.m_Move rfl)) (nomark _)) (pss_one ps_never) pss_nil)
      (pss_cons (ps_for PassesOwn.never rfl (pi_enum (by rfl) T.g_enumerate (pa_cons (pv 0) pa_nil)) (pg_tup (by rfl) (pgs_cons (pg_name (i := 3) sc_checked_table.nd rfl (Or.inl rfl)) (pgs_cons (pg_name (i := 4) sc_checked_table.nd rfl (Or.inl rfl)) pgs_nil))) (pss_one (ps_if (pt_not (pt_val (pe_d c_is_integer hr (by decide) rfl (pa_cons (pv 4) pa_nil)))) (pss_one ps_never) pss_nil)))
      (pss_cons (ps_set (i := 5) sc_checked_table.nd rfl (Or.inl rfl) pe_dnewK)
      (pss_cons (ps_for PassesOwn.never rfl (pi_enum (by rfl) T.g_enumerate (pa_cons (pv 0) pa_nil)) (pg_tup (by rfl) (pgs_cons (pg_name (i := 3) sc_checked_table.nd rfl (Or.inl rfl)) (pgs_cons (pg_name (i := 4) sc_checked_table.nd rfl (Or.inl rfl)) pgs_nil))) (pss_cons (ps_set (i := 6) sc_checked_table.nd rfl (Or.inl rfl) (pe_op op_mod (pe_op op_add (pe_op op_mul (pv 1) (pv 3)) (pv 4)) (pv 2)))
      (pss_cons (ps_if (pt_cmp (pc_din hu (pv 6) (pv 5))) (pss_one ps_never) pss_nil)
      (pss_one (ps_dput hu (pv 5) (pv 6) (pv 3) rfl)))))
      (pss_one (ps_ret (pe_callTy call_list_of (by rfl) T.g_list (by decide +kernel) (pa_cons (pv 0) pa_nil)))))))))), ?_⟩
    refine ⟨_, rfl, by decide, fun tp htp => newk htp fun H1 s1 e1 => ?_⟩
    refine ⟨_, tp, _, .type "list", [.type "list", .type "tuple"], true, rfl, e1, .cons (.ty _) (.cons (.ty _) .nil), .base (.lst (s1 _ _ ha)), kitAny_cons (kit_ty (b := "list") (r := true) (by decide +kernel)) (fun h => Bool.noConfusion h) (fun _ => rfl), true, rfl, ?_⟩
    refine iteF ?_
    refine ⟨_, rfl, _, (LI us).length, rfl, .inl ⟨_, sq_at (s1 _ _ ha), rfl⟩, rfl, _, rfl, ?_⟩
    rw [hlen, decide_eq_false (show ¬ (V.int (us.length : Int) = V.int 0) from fun e => by injection e with e; omega)]
    refine iteF ?_
    refine ⟨_, rfl, _, (LI us).length, rfl, .inl ⟨_, sq_at (s1 _ _ ha), rfl⟩, ?_⟩
    refine ⟨_, rfl, _, mc, _, u, rfl, rd, cv, _, _, rfl, rfl, _, rfl, ?_⟩
    rw [hlen, decide_eq_false (show ¬ ((2520 : Int) < (us.length : Int)) by omega)]
    refine iteF ?_
    refine ⟨_, rfl, a, LI us, rfl, sq_at (s1 _ _ ha), for_enum (K := K) (a := a) (xs := LI us) (fun i σ H' => Same H H' ∧ ∃ v3 v4, σ = [some (.ref a), some (.int 1), some (.int (us.length : Int)), v3, v4, none, none]) ⟨s1, none, none, rfl⟩ (fun i σ H' _ q => sq_at (q.1 _ _ ha)) ?_ ?_⟩
    · rintro i x σ H' tt H'' hx ⟨sm, v3, v4, rfl⟩ hT sm' eT
      obtain ⟨n, hn, rfl⟩ := LI_get hx
      refine ⟨tt, _, rfl, st_at eT, rfl, _, _, rfl, _, _, rfl, rfl, ?_⟩
      refine ⟨_, rfl, n, rfl, _, rfl, ?_⟩
      refine iteF ?_
      exact ⟨sm.trans sm', _, _, rfl⟩
    · rintro σ H' ⟨sm, v3, v4, rfl⟩
      intro d hd
      refine newk hd fun H2 s2 e2 => ?_
      have hd0 : H d = none := sm.free hd
      have sm2 := sm.trans s2
      refine ⟨_, rfl, a, LI us, rfl, sq_at (sm2 _ _ ha), for_enum (K := K) (a := a) (xs := LI us) (fun i σ H' => Same H H' ∧ H' d = some (.dK (kvsT us i)) ∧ ∃ v3 v4 v6, σ = [some (.ref a), some (.int 1), some (.int (us.length : Int)), v3, v4, some (.ref d), v6]) ⟨sm2, e2, v3, v4, none, rfl⟩ (fun i σ H' _ q => sq_at (q.1 _ _ ha)) ?_ ?_⟩
      · rintro i x σ H' tt H'' hx ⟨sm, hdk, v3, v4, v6, rfl⟩ hT sm' eT
        obtain ⟨n, hn, rfl⟩ := LI_get hx
        have hi : i < us.length := (List.getElem?_eq_some_iff.mp hn).1
        have hdk' := sm' _ _ hdk
        refine ⟨tt, _, rfl, st_at eT, rfl, _, _, rfl, _, _, rfl, rfl, ?_⟩
        refine ⟨_, rfl, _, rfl, _, _, rfl, rfl, .inl ⟨by decide, by decide⟩, _, rfl, _, _, rfl, rfl, _, rfl, _, _, rfl, rfl, (by omega), ?_⟩
        have er : (1 * ((i : Nat) : Int) + n) % (us.length : Int) = resT us i := by
          unfold resT
          rw [getD_at hn, Int.one_mul]
        show gName 6 (V.int ((1 * (i : Int) + n) % (us.length : Int))) _ _ _
        rw [er]
        refine ⟨_, rfl, _, rfl, d, _, rfl, DGet.k (k := Sum.inl (resT us i)) hdk', _, rfl, ?_⟩
        rw [kvsT_none hv hi]
        refine iteF ?_
        have hks : (kvsT us i).length = i := by
          unfold kvsT
          rw [List.length_map, List.length_range]
        refine ⟨_, rfl, _, rfl, _, rfl, d, _, rfl, DPut.k (k := Sum.inl (resT us i)) hdk' (small_lt (by omega)), ?_⟩
        rw [putK_new _ (kvsT_none hv hi), ← kvsT_succ]
        exact ⟨Same.mut (sm.trans sm') hd0, upd_same, _, _, _, rfl⟩
      · rintro σ H' ⟨sm, hdk, v3, v4, v6, rfl⟩
        refine ⟨_, rfl, a, LI us, rfl, .inl (sq_at (sm _ _ ha)), fun l hl => ?_⟩
        exact k l _ (sm.free hl) (sm.trans (Same.new hl)) upd_same
end
end My

end
section
set_option linter.all false
set_option maxRecDepth 100000
set_option maxHeartbeats 1000000
/-! plain laws of tables -/
namespace My
theorem flat_get (ts : List Int) : ∀ (k i : Nat), i < k * ts.length → (List.replicate k ts).flatten.getD i 0 = ts.getD (i % ts.length) 0
  | 0, i, h => by omega
  | k + 1, i, h => by
    rw [List.replicate_succ, List.flatten_cons]
    by_cases hi : i < ts.length
    · rw [List.getD_eq_getElem?_getD, List.getD_eq_getElem?_getD, List.getElem?_append_left hi, Nat.mod_eq_of_lt hi]
    · have h2 : i - ts.length < k * ts.length := by
        rw [Nat.succ_mul] at h
        omega
      rw [List.getD_eq_getElem?_getD, List.getElem?_append_right (by omega), ← List.getD_eq_getElem?_getD, flat_get ts k _ h2]
      congr 1
      exact (Nat.mod_eq_sub_mod (by omega)).symm
theorem Rep.len {ts us : List Int} (h : Rep ts us) : ∃ k, us.length = k * ts.length := by
  obtain ⟨k, rfl⟩ := h
  exact ⟨k, flat_len k ts⟩
theorem Rep.pos {ts us : List Int} (h : Rep ts us) (h0 : 0 < us.length) : 0 < ts.length := by
  obtain ⟨k, e⟩ := h.len
  rw [e] at h0
  exact Nat.pos_of_mul_pos_left h0
theorem Rep.le {ts us : List Int} (h : Rep ts us) (h0 : 0 < us.length) : ts.length ≤ us.length := by
  obtain ⟨k, e⟩ := h.len
  rw [e] at h0 ⊢
  exact Nat.le_mul_of_pos_left _ (Nat.pos_of_mul_pos_right h0)
theorem Rep.at {ts us : List Int} (h : Rep ts us) (h0 : 0 < us.length) (x : Int) : atT ts x = atT us x := by
  have hp := h.pos h0
  obtain ⟨k, rfl⟩ := h
  unfold atT
  have e := flat_len k ts
  rw [e] at h0 ⊢
  have m0 : 0 ≤ x % ((k * ts.length : Nat) : Int) := Int.emod_nonneg _ (by omega)
  have m1 : x % ((k * ts.length : Nat) : Int) < ((k * ts.length : Nat) : Int) := Int.emod_lt_of_pos _ (by omega)
  rw [flat_get ts k _ (by omega)]
  congr 2
  have : ((x % ((k * ts.length : Nat) : Int)).toNat % ts.length : Nat) = (((x % ((k * ts.length : Nat) : Int)) % (ts.length : Int))).toNat := by
    rw [Int.toNat_emod m0 (by omega), Int.toNat_natCast]
  rw [this, Int.emod_emod_of_dvd _ (by
    rw [Int.natCast_mul]
    exact Int.dvd_mul_left ..)]
theorem Rep.mem {ts us : List Int} (h : Rep ts us) (h0 : 0 < us.length) (o : Int) : o ∈ ts ↔ o ∈ us := by
  obtain ⟨k, rfl⟩ := h
  rw [flat_len] at h0
  have : k ≠ 0 := by
    intro e
    rw [e] at h0
    omega
  rw [List.mem_flatten]
  constructor
  · intro ho
    exact ⟨ts, List.mem_replicate.mpr ⟨this, rfl⟩, ho⟩
  · rintro ⟨l, hl, ho⟩
    rw [(List.mem_replicate.mp hl).2] at ho
    exact ho
theorem Rep.trans {ts us vs : List Int} (h : Rep ts us) (g : Rep us vs) : Rep ts vs := by
  obtain ⟨k, rfl⟩ := h
  obtain ⟨j, rfl⟩ := g
  refine ⟨j * k, ?_⟩
  induction j with
  | zero => simp
  | succ j ih => rw [List.replicate_succ, List.flatten_cons, ih, ← List.flatten_append, List.replicate_append_replicate, Nat.succ_mul, Nat.add_comm k]
theorem Rep.map {ts us : List Int} (h : Rep ts us) (f : Int → Int) : Rep (ts.map f) (us.map f) := by
  obtain ⟨k, rfl⟩ := h
  exact ⟨k, by rw [List.map_flatten, List.map_replicate]⟩
theorem flat_sum (ts : List Int) : ∀ k : Nat, (List.replicate k ts).flatten.sum = k * ts.sum
  | 0 => by simp
  | k + 1 => by
    rw [List.replicate_succ, List.flatten_cons, List.sum_append, flat_sum ts k]
    have : ((k + 1 : Nat) : Int) = (k : Int) + 1 := by omega
    rw [this, Int.add_mul]
    omega
theorem Rep.flow {ts us : List Int} (h : Rep ts us) (h0 : 0 < us.length) : ts.sum / (ts.length : Int) = us.sum / (us.length : Int) := by
  obtain ⟨k, rfl⟩ := h
  rw [flat_len] at h0
  have hk : 0 < k := Nat.pos_of_mul_pos_right h0
  rw [flat_sum, flat_len, Int.natCast_mul]
  exact (Int.mul_ediv_mul_of_pos _ _ (by omega)).symm
/-- a table of a plan, by its places -/
structure VT (us : List Int) : Prop where
  pos : 0 < us.length
  le : us.length ≤ 2520
  inj : ∀ x y, atT us x = atT us y → x = y
theorem VT.rep {ts us : List Int} (h : Rep ts us) (v : VT us) : VT ts :=
  ⟨h.pos v.pos, Nat.le_trans (h.le v.pos) v.le, fun x y e => v.inj x y (by rw [← h.at v.pos, ← h.at v.pos]; exact e)⟩
theorem atT_map (us : List Int) (d : Int) (h0 : 0 < us.length) (x : Int) : atT (us.map (· + d)) x = atT us x + d := by
  unfold atT
  rw [List.length_map]
  have m0 : 0 ≤ x % (us.length : Int) := Int.emod_nonneg _ (by omega)
  have m1 : x % (us.length : Int) < us.length := Int.emod_lt_of_pos _ (by omega)
  have hi : (x % (us.length : Int)).toNat < us.length := by omega
  rw [List.getD_eq_getElem?_getD, List.getD_eq_getElem?_getD, List.getElem?_map, List.getElem?_eq_getElem hi]
  show x + (us[(x % (us.length : Int)).toNat] + d) = x + us[(x % (us.length : Int)).toNat] + d
  omega
theorem VT.map {us : List Int} (v : VT us) (d : Int) : VT (us.map (· + d)) :=
  ⟨by rw [List.length_map]; exact v.pos, by rw [List.length_map]; exact v.le, fun x y e => v.inj x y (by rw [atT_map _ _ v.pos, atT_map _ _ v.pos] at e; omega)⟩
theorem VT.one (d : Int) : VT [d] := ⟨Nat.one_pos, by show 1 ≤ 2520; omega, fun x y e => by
  unfold atT at e
  have h : ∀ z : Int, (z % (([d] : List Int).length : Int)).toNat = 0 := fun z => by
    show (z % 1).toNat = 0
    rw [Int.emod_one]
    rfl
  rw [h, h] at e
  omega⟩
theorem atT_nat (us : List Int) {i : Nat} (hi : i < us.length) : atT us (i : Int) = (i : Int) + us.getD i 0 := by
  unfold atT
  rw [Int.emod_eq_of_lt (by omega) (by omega), Int.toNat_natCast]
theorem atT_shift (us : List Int) (x c : Int) : atT us (x + us.length * c) = atT us x + us.length * c := by
  unfold atT
  rw [Int.add_mul_emod_self_left]
  omega
theorem VT.valid {us : List Int} (v : VT us) : Valid us := by
  refine ⟨v.pos, v.le, fun i j hi hj e => ?_⟩
  unfold resT at e
  have e2 := Int.emod_emod_of_dvd
  obtain ⟨c, hc⟩ : (us.length : Int) ∣ ((i : Int) + us.getD i 0) - ((j : Int) + us.getD j 0) := Int.dvd_of_emod_eq_zero (by
    rw [Int.sub_emod, e, Int.sub_self]
    exact Int.zero_emod _)
  have h1 := atT_shift us (j : Int) c
  rw [atT_nat us hj] at h1
  have h2 := v.inj (i : Int) ((j : Int) + us.length * c) (by rw [atT_nat us hi, h1]; omega)
  have hc0 : c = 0 := by
    have l : (0 : Int) < us.length := by omega
    rcases Int.lt_trichotomy c 0 with h | h | h
    · have : (us.length : Int) * c ≤ us.length * (-1) := Int.mul_le_mul_of_nonneg_left (by omega) (by omega)
      omega
    · exact h
    · have : (us.length : Int) * 1 ≤ us.length * c := Int.mul_le_mul_of_nonneg_left (by omega) (by omega)
      omega
  rw [hc0, Int.mul_zero, Int.add_zero] at h2
  omega
/-! ### the delay -/
def lateT (us : List Int) : Int := us.foldl (fun m o => max m (-o)) 0
theorem late_fold : ∀ (us : List Int) (a : Int), a ≤ us.foldl (fun m o => max m (-o)) a ∧ (∀ o ∈ us, -o ≤ us.foldl (fun m o => max m (-o)) a) ∧ (us.foldl (fun m o => max m (-o)) a = a ∨ ∃ o ∈ us, us.foldl (fun m o => max m (-o)) a = -o)
  | [], a => ⟨Int.le_refl _, fun o h => (List.not_mem_nil h).elim, .inl rfl⟩
  | o :: us, a => by
    obtain ⟨h1, h2, h3⟩ := late_fold us (max a (-o))
    rw [List.foldl_cons]
    refine ⟨by omega, fun x hx => ?_, ?_⟩
    · rcases List.mem_cons.mp hx with rfl | hx
      · omega
      · exact h2 x hx
    · rcases h3 with h3 | ⟨x, hx, h3⟩
      · rw [h3]
        by_cases h : a ≤ -o
        · exact .inr ⟨o, List.mem_cons_self, by omega⟩
        · exact .inl (by omega)
      · exact .inr ⟨x, List.mem_cons_of_mem _ hx, h3⟩
theorem late_pos (us : List Int) : 0 ≤ lateT us := (late_fold us 0).1
theorem late_ge {us : List Int} {o : Int} (h : o ∈ us) : -o ≤ lateT us := (late_fold us 0).2.1 o h
theorem late_is {us : List Int} {m : Int} (h1 : m = 0 ∨ ∃ o ∈ us, m = -o) (h2 : 0 ≤ m) (h3 : ∀ o ∈ us, -o ≤ m) : m = lateT us := by
  have a1 : m ≤ lateT us := by
    rcases h1 with rfl | ⟨o, ho, rfl⟩
    · exact late_pos us
    · exact late_ge ho
  have a2 : lateT us ≤ m := by
    rcases (late_fold us 0).2.2 with h | ⟨o, ho, h⟩
    · unfold lateT
      omega
    · have := h3 o ho
      unfold lateT
      omega
  omega
end My

end
section
set_option linter.all false
set_option maxRecDepth 100000
set_option maxHeartbeats 1000000
namespace My
open PySem PySem.Spec PyProof.Rows L2 StX ClX
def sp_least_table : Sp := fun vs H Q _ => ∃ (a : Addr) (us : List Int), vs = [.ref a] ∧ H a = some (.lst (LI us)) ∧ 0 < us.length ∧ us.length ≤ 2520 ∧ ∀ p ts H', (p = a ∨ H p = none) → Same H H' → H' p = some (.lst (LI ts)) → Rep ts us → Q (.ref p) H'
def sp_sources_of : Sp := fun vs H Q _ => ∃ (a : Addr) (us : List Int), vs = [.ref a] ∧ H a = some (.lst (LI us)) ∧ 0 < us.length ∧ us.length ≤ 2520 ∧ ∀ p H', Same H H' → Q (.ref p) H'
section
variable {P : Program} {w : World} {K : PySem.W.Frag} {mg : Str → Option Value} {base : Heap} {cM cP cS : Addr} (T : Txt K mg cM cP cS)
include T
theorem c_least_table : CalD P w K mg base 1 "least_table" sp_least_table [] := by
  obtain ⟨f, fd, F, hm⟩ := T.d_least_table
  refine CalD.of F hm (F.binds (ps := ["offsets"]) fun _ _ _ _ _ _ us hl => match us, hl with | [_], _ => rfl) (F.ok sc_least_table (fun vs H Q E h => ?_) (fun cdv A outer s H vs Q E hr h => ?_))
  · obtain ⟨a, us, e, _⟩ := h
    rw [e]
    rfl
  · obtain ⟨a, us, rfl, ha, h0, hle, k⟩ := h
    have hlen : (LI us).length = us.length := List.length_map ..
    refine ⟨_, (pss_cons (ps_set (i := 1) sc_least_table.nd rfl (Or.inl rfl) (pe_callB call_len (by rfl) T.g_len (by decide +kernel) (pa_cons (pv 0) pa_nil)))
      (pss_cons (ps_for PassesOwn.never rfl (pi_range2 (by rfl) T.g_range (pa_cons pe_int (pa_cons (pv 1) pa_nil))) (pg_name (i := 2) sc_least_table.nd rfl (Or.inl rfl)) (pss_one (ps_if (PW.pt (pw_and (pt_cmpR op_eq (pe_op op_mod (pv 1) (pv 2)) pe_int (nomark _)) (pw_and1 (pt_cmpR (op_eqD hr.units) (pe_op op_rep (pe_slice sl_list (pv 0) po_none (po_some (pv 2))) (pe_op op_fdiv (pv 1) (pv 2))) (pv 0) (nomark _))))) (pss_one (ps_ret (pe_slice sl_list (pv 0) po_none (po_some (pv 2))))) pss_nil)))
      (pss_one (ps_ret (pv 0))))), ?_⟩
    refine ⟨_, rfl, _, us.length, rfl, .inl ⟨_, sq_at ha, hlen.symm⟩, ?_⟩
    refine ⟨_, rfl, 1, us.length, rfl, ⟨by decide, by decide, by omega, by omega⟩, ?_⟩
    refine for_range (fun i σ H' => Same H H' ∧ ∃ v, σ = [some (.ref a), some (.int (us.length : Int)), v]) ⟨Same.refl H, none, rfl⟩ ?_ ?_
    · rintro i σ H' hi ⟨sm, v, rfl⟩
      refine ⟨_, rfl, _, rfl, _, _, rfl, rfl, (by omega), rfl, _, rfl, ?_⟩
      by_cases hm0 : V.int ((us.length : Int) % (1 + (i : Int))) = V.int 0
      · rw [decide_eq_true hm0]
        refine iteT ?_
        refine ⟨_, rfl, _, rfl, _, rfl, a, LI us, rfl, sq_at (sm _ _ ha), fun p hp => ?_⟩
        generalize hg : upd _ _ _ = H1
        have s1 := newS hg hp
        have e1 := newE hg
        clear hg
        have ec : cutV (LI us) none (some (1 + (i : Int))) = LI (us.take (1 + i)) := by
          rw [show (1 + (i : Int)) = ((1 + i : Nat) : Int) by omega]
          unfold cutV
          rw [HT.sIx_none, HT.sIx_nat, List.drop_zero]
          show _ = List.map V.int (us.take (1 + i))
          rw [List.map_take]
          congr 1
          omega
        rw [ec] at e1
        have hd : 0 < us.length / (1 + i) := Nat.div_pos (by omega) (by omega)
        have hq : (us.length : Int) / (1 + (i : Int)) = ((us.length / (1 + i) : Nat) : Int) := by
          rw [show (1 + (i : Int)) = ((1 + i : Nat) : Int) by omega]
          exact (Int.natCast_ediv ..).symm
        have hlt : (us.take (1 + i)).length = 1 + i := by rw [List.length_take]; omega
        have hml : us.length / (1 + i) * (1 + i) ≤ us.length := Nat.div_mul_le_self ..
        have hml2 : us.length / (1 + i) ≤ us.length := Nat.div_le_self ..
        refine ⟨_, rfl, _, rfl, _, _, rfl, rfl, ⟨by omega, by omega⟩, ?_⟩
        refine ⟨p, ((us.length / (1 + i) : Nat) : Int), _, rfl, congrArg V.int hq, e1, by omega, by omega, small_len ?_, fun p2 hp2 => ?_⟩
        · rw [List.length_map, hlt, Int.toNat_natCast, Nat.mul_comm]
          omega
        generalize hg : upd _ _ _ = H2
        have s2 := newS hg hp2
        have e2 := newE hg
        clear hg
        rw [Int.toNat_natCast, LI_flat] at e2
        refine ⟨_, rfl, _, _, dp_ints (sq_at e2), dp_ints (sq_at ((sm.trans (s1.trans s2)) _ _ ha)), shaped_ints _, shaped_ints _, ?_⟩
        rw [eqv_ints]
        refine ⟨_, rfl, ?_⟩
        by_cases he : (List.replicate (us.length / (1 + i)) (us.take (1 + i))).flatten = us
        · rw [decide_eq_true he]
          refine iteT ?_
          refine ⟨_, rfl, _, rfl, _, rfl, a, LI us, rfl, sq_at ((sm.trans (s1.trans s2)) _ _ ha), fun p3 hp3 => ?_⟩
          generalize hg : upd _ _ _ = H3
          have s3 := newS hg hp3
          have e3 := newE hg
          clear hg
          rw [ec] at e3
          exact k p3 _ H3 (.inr ((sm.trans (s1.trans s2)).free hp3)) (sm.trans (s1.trans (s2.trans s3))) e3 ⟨_, he.symm⟩
        · rw [decide_eq_false he]
          refine iteF ?_
          exact ⟨sm.trans (s1.trans s2), _, rfl⟩
      · rw [decide_eq_false hm0]
        refine iteF ?_
        refine iteF ?_
        exact ⟨sm, _, rfl⟩
    · rintro σ H' ⟨sm, v, rfl⟩
      exact ⟨_, rfl, k a us H' (.inl rfl) sm (sm _ _ ha) (Rep.self us)⟩
theorem c_sources_of : CalD P w K mg base 1 "sources_of" sp_sources_of [] := by
  obtain ⟨f, fd, F, hm⟩ := T.d_sources_of
  refine CalD.of F hm (F.binds (ps := ["offsets"]) fun _ _ _ _ _ _ us hl => match us, hl with | [_], _ => rfl) (F.ok sc_sources_of (fun vs H Q E h => ?_) (fun cdv A outer s H vs Q E hr h => ?_))
  · obtain ⟨a, us, e, _⟩ := h
    rw [e]
    rfl
  · obtain ⟨a, us, rfl, ha, h0, hle, k⟩ := h
    have hlen : (LI us).length = us.length := List.length_map ..
    refine ⟨_, (pss_cons (ps_setLc (i := 2) (own := [("offset", 1)]) (g := gName 1) (tt := tYes) (by rfl) sc_sources_of.nd rfl rfl (sw_true rfl rfl rfl (by decide +kernel)) (pi_list (pv 0)) (blkOk_by (own := [("offset", 1)]) (N := ["offsets", "offset", "found", "place"]) (sc := defScope s_sources_of) (by decide +kernel)) (fun _ _ _ _ _ => (pg_name (i := 1) sc_sources_of.nd rfl (Or.inl rfl))) (fun _ _ _ _ _ => pts_nil) (fun _ _ _ _ _ => pe_int))
      (pss_cons (ps_for PassesOwn.never rfl (pi_enum (by rfl) T.g_enumerate (pa_cons (pv 0) pa_nil)) (pg_tup (by rfl) (pgs_cons (pg_name (i := 3) sc_sources_of.nd rfl (Or.inl rfl)) (pgs_cons (pg_name (i := 1) sc_sources_of.nd rfl (Or.inl rfl)) pgs_nil))) (pss_one (ps_asg (pv 3) (pg_sub (pv 2) (pe_op op_mod (pe_op op_add (pv 3) (pv 1)) (pe_callB call_len (by rfl) T.g_len (by decide +kernel) (pa_cons (pv 0) pa_nil))) set_list))))
      (pss_one (ps_ret (pv 2))))), ?_⟩
    refine ⟨_, rfl, a, rfl, ⟨LI us, sq_at ha⟩, fun D hD => ?_⟩
    refine lc_list (K := K) (a := a) (xs := LI us) (fun i H' => LC H D (List.replicate us.length (V.int 0)) i H') (lc_start (Same.refl H) hD) (fun i H' _ q => sq_at (q.1 _ _ ha)) ?_ ?_
    · rintro i x H' hx q
      obtain ⟨n, hn, rfl⟩ := LI_get hx
      have hi : i < us.length := (List.getElem?_eq_some_iff.mp hn).1
      refine ⟨rfl, lc_step hD q ?_ (by rw [List.length_replicate]; omega)⟩
      rw [List.getElem?_replicate, if_pos hi]
    · rintro H' q
      obtain ⟨sm, eD⟩ := q.done (by rw [hlen, List.length_replicate])
      refine ⟨_, rfl, a, LI us, rfl, sq_at (sm _ _ ha), for_enum (K := K) (a := a) (xs := LI us) (fun i σ H' => Same H H' ∧ ∃ zs v1 v2, H' D = some (.lst zs) ∧ zs.length = us.length ∧ σ = [some (.ref a), v2, some (.ref D), v1]) ⟨sm, _, none, none, eD, List.length_replicate, rfl⟩ (fun i σ H' _ q => sq_at (q.1 _ _ ha)) ?_ ?_⟩
      · rintro i x σ H' tt H'' hx ⟨sm, zs, v1, v2, eD, hz, rfl⟩ hT sm' eT
        obtain ⟨n, hn, rfl⟩ := LI_get hx
        have m0 : 0 ≤ ((i : Int) + n) % (us.length : Int) := Int.emod_nonneg _ (by omega)
        have m1 : ((i : Int) + n) % (us.length : Int) < us.length := Int.emod_lt_of_pos _ (by omega)
        refine ⟨tt, _, rfl, st_at eT, rfl, _, _, rfl, _, _, rfl, rfl, ?_⟩
        refine ⟨_, rfl, _, rfl, _, rfl, _, rfl, _, _, rfl, rfl, _, rfl, _, us.length, rfl, .inl ⟨_, sq_at ((sm.trans sm') _ _ ha), hlen.symm⟩, _, _, rfl, rfl, (by omega), D, zs, _, (((i : Int) + n) % (us.length : Int)).toNat, rfl, rfl, sm' _ _ eD, ?_, ?_⟩
        · unfold ixN
          rw [if_pos m0, if_pos (by omega)]
        · exact ⟨Same.mut (sm.trans sm') hD, _, _, _, upd_same, by rw [List.length_set]; exact hz, rfl⟩
      · rintro σ H' ⟨sm, zs, v1, v2, eD, hz, rfl⟩
        exact ⟨_, rfl, k D H' sm⟩
end
end My

end
section
set_option linter.all false
set_option maxRecDepth 100000
set_option maxHeartbeats 1000000
namespace My
open PySem PySem.Spec PyProof.Rows L2 StX ClX
/-- a plan of the table us -/
def PlanAt (cP : Addr) (H : Hp) (p : Addr) (us : List Int) : Prop := ∃ dx q r ts, H p = some (.ins cP dx [("own_offsets", .ref q), ("own_sources", .ref r)]) ∧ H q = some (.lst (LI ts)) ∧ Rep ts us ∧ VT us
/-- .. whose own things H0 does not know -/
def PlanFr (cP : Addr) (H0 H : Hp) (p : Addr) (us : List Int) : Prop := ∃ dx q r ts, H p = some (.ins cP dx [("own_offsets", .ref q), ("own_sources", .ref r)]) ∧ H q = some (.lst (LI ts)) ∧ Rep ts us ∧ VT us ∧ H0 p = none ∧ H0 q = none
theorem PlanFr.at {cP : Addr} {H0 H : Hp} {p : Addr} {us : List Int} (h : PlanFr cP H0 H p us) : PlanAt cP H p us := by
  obtain ⟨dx, q, r, ts, h1, h2, h3, h4, _⟩ := h
  exact ⟨dx, q, r, ts, h1, h2, h3, h4⟩
theorem PlanFr.mono {cP : Addr} {H0 H0' H : Hp} {p : Addr} {us : List Int} (h : PlanFr cP H0 H p us) (e : Same H0' H0) : PlanFr cP H0' H p us := by
  obtain ⟨dx, q, r, ts, h1, h2, h3, h4, h5, h6⟩ := h
  exact ⟨dx, q, r, ts, h1, h2, h3, h4, e.free h5, e.free h6⟩
/-- it stands as long as what H0 does not know stays -/
theorem PlanFr.stay {cP : Addr} {H0 H H' : Hp} {p : Addr} {us : List Int} (h : PlanFr cP H0 H p us) (k : ∀ b o, H0 b = none → H b = some o → H' b = some o) : PlanFr cP H0 H' p us := by
  obtain ⟨dx, q, r, ts, h1, h2, h3, h4, h5, h6⟩ := h
  exact ⟨dx, q, r, ts, k _ _ h5 h1, k _ _ h6 h2, h3, h4, h5, h6⟩
theorem PlanAt.same {cP : Addr} {H H' : Hp} {p : Addr} {us : List Int} (h : PlanAt cP H p us) (e : Same H H') : PlanAt cP H' p us := by
  obtain ⟨dx, q, r, ts, h1, h2, h3⟩ := h
  exact ⟨dx, q, r, ts, e _ _ h1, e _ _ h2, h3⟩
/-- all but p stays -/
def KpP (p : Addr) (H H' : Hp) : Prop := ∀ a u, a ≠ p → H a = some u → H' a = some u
theorem KpP.refl (p : Addr) (H : Hp) : KpP p H H := fun _ _ _ e => e
theorem KpP.trans {p : Addr} {H H' H'' : Hp} (h : KpP p H H') (g : KpP p H' H'') : KpP p H H'' := fun a u n e => g a u n (h a u n e)
theorem KpP.same {p : Addr} {H H' H'' : Hp} (h : KpP p H H') (g : Same H' H'') : KpP p H H'' := fun a u n e => g a u (h a u n e)
theorem Same.kp {p : Addr} {H H' : Hp} (g : Same H H') : KpP p H H' := fun a u n e => g a u e
theorem KpP.set {p : Addr} {H : Hp} {o : HO} : KpP p H (upd H p o) := fun a u n e => (upd_ne n).trans e
def sp_Plan_init (cP : Addr) : Sp := fun vs H Q _ => ∃ (x a dx : Addr) (us : List Int) (H0 : Hp), vs = [.ref x, .ref a] ∧ Same H0 H ∧ H0 x = none ∧ H x = some (.ins cP dx []) ∧ H a = some (.lst (LI us)) ∧ VT us ∧ ∀ H', Same H0 H' → PlanFr cP H0 H' x us → Q .non H'
def sp_Plan_shift (cP : Addr) : Sp := fun vs H Q _ => ∃ d : Int, vs = [.ref cP, .int d] ∧ ∀ p H', Same H H' → PlanFr cP H H' p [d] → Q (.ref p) H'
def sp_Plan_offsets (cP : Addr) : Sp := fun vs H Q _ => ∃ p us, vs = [.ref p] ∧ PlanAt cP H p us ∧ ∀ q ts H', H q = none → Same H H' → H' q = some (.lst (LI ts)) → Rep ts us → Q (.ref q) H'
def sp_Plan_at (cP : Addr) : Sp := fun vs H Q _ => ∃ p us x, vs = [.ref p, .int x] ∧ PlanAt cP H p us ∧ Q (.int (atT us x)) H
def sp_joined_table : Sp := fun vs H Q _ => ∃ (a b : Addr) (us : List Int) (d : Int), vs = [.ref a, .ref b] ∧ H a = some (.lst (LI us)) ∧ H b = some (.lst (LI [d])) ∧ VT us ∧ ∀ p H', H p = none → Same H H' → H' p = some (.lst (LI (us.map (· + d)))) → Q (.ref p) H'
def sp_Plan_then (cP : Addr) : Sp := fun vs H Q _ => ∃ p o us d, vs = [.ref p, .ref o] ∧ PlanAt cP H p us ∧ PlanAt cP H o [d] ∧ ∀ q H', Same H H' → PlanFr cP H H' q (us.map (· + d)) → Q (.ref q) H'
section
variable {P : Program} {w : World} {K : PySem.W.Frag} {mg : Str → Option Value} {base : Heap} {cM cP cS : Addr} (T : Txt K mg cM cP cS)
include T
theorem k_Plan : MakD P w K mg base 3 "Plan" cP (sp_Plan_init cP) [] := by
  have c_checked_table := c_checked_table (P := P) (w := w) (base := base) T
  have c_least_table := c_least_table (P := P) (w := w) (base := base) T
  have c_sources_of := c_sources_of (P := P) (w := w) (base := base) T
  obtain ⟨f, fd, M, F⟩ := T.i_Plan
  refine ⟨f, fd, ["self", "offsets"], [], M, F.ok sc_Plan_init (fun vs H Q E h => ?_) (fun cdv A outer s H vs Q E hr h => ?_), T.m_Plan, F.binds (ps := ["self", "offsets"]) fun _ _ _ _ _ _ us hl => match us, hl with | [_, _], _ => rfl, .nil⟩
  · obtain ⟨x, a, dx, us, H0, e, _⟩ := h
    rw [e]
    rfl
  · obtain ⟨x, a, dx, us, H0, rfl, s0, hx0, hx, ha, hv, k⟩ := h
    obtain ⟨mc, u, rd, cv⟩ := T.rdP
    refine ⟨_, (pss_cons (ps_fld (pv 0) (pe_d c_least_table hr (by decide) rfl (pa_cons (pe_d c_checked_table hr (by decide) rfl (pa_cons (pv 1) (pa_cons (pe_cval (pe_glob (v := .ref cP) rfl T.m_Plan rfl)) pa_nil))) pa_nil)) rfl)
      (pss_one (ps_fld (pv 0) (pe_d c_sources_of hr (by decide) rfl (pa_cons (pe_fld (pv 0) rfl) pa_nil)) rfl))), ?_⟩
    refine ⟨_, rfl, _, mc, _, u, rfl, rd, cv, a, us, rfl, ha, hv.valid, fun p H1 hp s1 e1 => ?_⟩
    refine ⟨p, us, rfl, e1, hv.pos, hv.le, fun q ts H2 fq s2 e2 hrep => ?_⟩
    have fq0 : H0 q = none := by
      rcases fq with rfl | fq
      · exact s0.free hp
      · exact s0.free (s1.free fq)
    have s02 : Same H H2 := s1.trans s2
    have hx2 := s02 _ _ hx
    refine ⟨_, rfl, x, cP, dx, [], rfl, hx2, T.clP, T.nP1, Nat.zero_lt_succ _, ?_⟩
    have hqx : x ≠ q := fun e => by
      subst e
      rw [hx2] at e2
      cases e2
    have s03 : Same H0 (upd H2 x (.ins cP dx [("own_offsets", .ref q)])) := Same.mut (s0.trans s02) hx0
    have e3 : (upd H2 x (.ins cP dx [("own_offsets", .ref q)])) q = some (.lst (LI ts)) := by
      rw [upd_ne (fun e => hqx e.symm)]
      exact e2
    refine ⟨_, rfl, x, cP, dx, _, _, rfl, upd_same, T.clP, T.nP1, rfl, q, ts, rfl, e3, hrep.pos hv.pos, Nat.le_trans (hrep.le hv.pos) hv.le, fun r H4 s4 => ?_⟩
    have hx4 := s4 _ _ upd_same
    refine ⟨_, rfl, x, cP, dx, _, rfl, hx4, T.clP, T.nP2, (show 1 < 1000 by omega), ?_⟩
    have eqf : (upd H4 x (.ins cP dx [("own_offsets", .ref q), ("own_sources", .ref r)])) q = some (.lst (LI ts)) := by
      rw [upd_ne (fun e => hqx e.symm)]
      exact s4 _ _ e3
    exact k _ (Same.mut (s03.trans s4) hx0) ⟨dx, q, r, ts, upd_same, eqf, hrep, hv, hx0, fq0⟩
theorem mk_plan {H : Hp} {a : Addr} {us : List Int} {Q : VK} {E : XK} (ha : H a = some (.lst (LI us))) (hv : VT us) (k : ∀ p H', Same H H' → PlanFr cP H H' p us → Q (.ref p) H') :
    ∀ x dx, H x = none → H dx = none → dx ≠ x → sp_Plan_init cP (.ref x :: ([.ref a] ++ [])) (upd (upd H dx (.own x)) x (.ins cP dx [])) (fun v H2 => v = .non ∧ Q (.ref x) H2) E := by
  intro x dx hx hd hn
  have s1 : Same H (upd (upd H dx (.own x)) x (.ins cP dx [])) := Same.mut (Same.new hd) hx
  exact ⟨x, a, dx, us, H, rfl, s1, hx, upd_same, s1 _ _ ha, hv, fun H' s2 hp => ⟨rfl, k x H' s2 hp⟩⟩
theorem c_Plan_shift : ∃ mc p g, CRead K cP mc ∧ CMet K cP mc "shift" p g ∧ FnR P w K mg base CX0 5 g (sp_Plan_shift cP) := by
  have c_require_integer1 := c_require_integer1 (P := P) (w := w) (base := base) T
  have k_Plan := k_Plan (P := P) (w := w) (base := base) T
  obtain ⟨mc, p, f, fd, rd, cm, F⟩ := T.me_Plan_shift
  refine ⟨mc, p, f, rd, cm, ?_⟩
  have F' : FnOk P w K mg base CX0 5 f fd ["cls", "n"] (sp_Plan_shift cP) := by
    refine F.ok sc_Plan_shift (fun vs H Q E h => ?_) (fun cdv A outer s H vs Q E hr h => ?_)
    · obtain ⟨d, e, _⟩ := h
      rw [e]
      rfl
    · obtain ⟨d, rfl, k⟩ := h
      refine ⟨_, (pss_cons (ps_expr (pe_d c_require_integer1 hr (by decide) rfl (pa_cons (pv 1) pa_nil)))
      (pss_one (ps_ret (pe_mkL (i := 0) k_Plan hr (by decide) rfl (Or.inl rfl) (pa_cons (pe_lst (pa_cons (pv 1) pa_nil)) pa_nil))))), ?_⟩
      refine ⟨_, rfl, d, _, rfl, .inl rfl, ?_⟩
      refine ⟨rfl, _, rfl, small_len (show 1 ≤ 1000000 by omega), fun l hl => ?_⟩
      generalize hg : upd _ _ _ = H1
      have s1 := newS hg hl
      have e1 := newE hg
      clear hg
      exact mk_plan T (us := [d]) e1 (VT.one d) fun q H2 s2 hp => k q H2 (s1.trans s2) (PlanFr.mono hp s1)
  refine (F'.raw (F.binds (ps := ["cls", "n"]) fun _ _ _ _ _ _ us hl => match us, hl with | [_, _], _ => rfl) .nil).imp fun vs H Q E h => ?_
  rw [List.append_nil]
  exact h
theorem m_Plan_offsets : MetD P w K mg base 1 cP "offsets" (sp_Plan_offsets cP) [] := by
  obtain ⟨f, fd, F, me⟩ := T.me_Plan_offsets
  refine ⟨f, fd, ["self"], [], T.clP, me, F.ok sc_Plan_offsets (fun vs H Q E h => ?_) (fun cdv A outer s H vs Q E hr h => ?_), F.binds (ps := ["self"]) fun _ _ _ _ _ _ us hl => match us, hl with | [_], _ => rfl, .nil⟩
  · obtain ⟨p, us, e, _⟩ := h
    rw [e]
    rfl
  · obtain ⟨p, us, rfl, hp, k⟩ := h
    obtain ⟨dx, q, r, ts, h1, h2, h3, hv⟩ := hp
    refine ⟨_, (pss_one (ps_ret (pe_callTy call_list_of (by rfl) T.g_list (by decide +kernel) (pa_cons (pe_fld (pv 0) rfl) pa_nil)))), ?_⟩
    refine ⟨_, rfl, p, cP, dx, _, _, rfl, h1, T.clP, T.nP1, rfl, q, LI ts, rfl, .inl (sq_at h2), fun l hl => ?_⟩
    exact k l ts _ hl (Same.new hl) upd_same h3
theorem m_Plan_at : MetD P w K mg base 3 cP "at" (sp_Plan_at cP) [] := by
  have c_require_integer1 := c_require_integer1 (P := P) (w := w) (base := base) T
  have c_moved := c_moved (P := P) (w := w) (base := base) T
  obtain ⟨f, fd, F, me⟩ := T.me_Plan_at
  refine ⟨f, fd, ["self", "x"], [], T.clP, me, F.ok sc_Plan_at (fun vs H Q E h => ?_) (fun cdv A outer s H vs Q E hr h => ?_), F.binds (ps := ["self", "x"]) fun _ _ _ _ _ _ us hl => match us, hl with | [_, _], _ => rfl, .nil⟩
  · obtain ⟨p, us, x, e, _⟩ := h
    rw [e]
    rfl
  · obtain ⟨p, us, x, rfl, hp, k⟩ := h
    obtain ⟨dx, q, r, ts, h1, h2, h3, hv⟩ := hp
    have hvl := hv.le
    have hle := h3.le hv.pos
    refine ⟨_, (pss_cons (ps_expr (pe_d c_require_integer1 hr (by decide) rfl (pa_cons (pv 1) pa_nil)))
      (pss_one (ps_ret (pe_d c_moved hr (by decide) rfl (pa_cons (pe_fld (pv 0) rfl) (pa_cons (pv 1) pa_nil)))))), ?_⟩
    refine ⟨_, rfl, x, _, rfl, .inl rfl, ?_⟩
    refine ⟨_, rfl, p, cP, dx, _, _, rfl, h1, T.clP, T.nP1, rfl, _, rfl, q, ts, x, rfl, sq_at h2, h3.pos hv.pos, by omega, ?_⟩
    rw [h3.at hv.pos]
    exact k
theorem c_joined_table : CalD P w K mg base 5 "joined_table" sp_joined_table [] := by
  have c_joint_multiple := c_joint_multiple (P := P) (w := w) (base := base) T
  have c_moved := c_moved (P := P) (w := w) (base := base) T
  obtain ⟨f, fd, F, hm⟩ := T.d_joined_table
  refine CalD.of F hm (F.binds (ps := ["one", "other"]) fun _ _ _ _ _ _ us hl => match us, hl with | [_, _], _ => rfl) (F.ok sc_joined_table (fun vs H Q E h => ?_) (fun cdv A outer s H vs Q E hr h => ?_))
  · obtain ⟨a, b, us, d, e, _⟩ := h
    rw [e]
    rfl
  · obtain ⟨a, b, us, d, rfl, ha, hb, hv, k⟩ := h
    have hpos := hv.pos
    have hle := hv.le
    have hlen : (LI us).length = us.length := List.length_map ..
    have hl1 : lcmL [(us.length : Int), 1] = us.length := by
      show 1 * (us.length : Int) / (Int.gcd 1 us.length : Int) * 1 / (Int.gcd (1 * (us.length : Int) / (Int.gcd 1 us.length : Int)) 1 : Int) = us.length
      simp
    refine ⟨_, (pss_cons (ps_set (i := 2) sc_joined_table.nd rfl (Or.inl rfl) (pe_d c_joint_multiple hr (by decide) rfl (pa_cons (pe_lst (pa_cons (pe_callB call_len (by rfl) T.g_len (by decide +kernel) (pa_cons (pv 0) pa_nil)) (pa_cons (pe_callB call_len (by rfl) T.g_len (by decide +kernel) (pa_cons (pv 1) pa_nil)) pa_nil))) pa_nil)))
      (pss_one (ps_ret (pe_lc (own := [("place", 3)]) (g := gName 3) (tt := tYes) (by rfl) sc_joined_table.nd (pi_range1 (by rfl) T.g_range (pa_cons (pv 2) pa_nil)) (blkOk_by (own := [("place", 3)]) (N := ["one", "other", "period", "place"]) (sc := defScope s_joined_table) (by decide +kernel)) (fun _ _ _ _ _ => (pg_name (i := 3) sc_joined_table.nd rfl (Or.inl rfl))) (fun _ _ _ _ _ => pts_nil) (fun _ _ _ _ _ => (pe_op op_sub (pe_d c_moved hr (by decide) rfl (pa_cons (pv 1) (pa_cons (pe_d c_moved hr (by decide) rfl (pa_cons (pv 0) (pa_cons (pv 3) pa_nil))) pa_nil))) (pv 3))))))), ?_⟩
    refine ⟨_, rfl, _, us.length, rfl, .inl ⟨_, sq_at ha, hlen.symm⟩, _, rfl, _, 1, rfl, .inl ⟨_, sq_at hb, rfl⟩, small_len (show 2 ≤ 1000000 by omega), fun l hl => ?_⟩
    generalize hg : upd _ _ _ = H1
    have s1 := newS hg hl
    have e1 := newE hg
    clear hg
    refine ⟨l, [(us.length : Int), 1], rfl, sq_at e1, (show 2 ≤ 1000 by omega), ?_, by rw [hl1]; omega, fun H2 s2 => ?_⟩
    · intro n hn
      rcases List.mem_cons.mp hn with rfl | hn
      · omega
      · rw [List.mem_singleton.mp hn]
        omega
    have s12 := s1.trans s2
    refine ⟨_, rfl, (us.length : Int), congrArg (fun z => [V.int z]) hl1, by omega, by omega, fun D hD => ?_⟩
    refine lc_range (fun i H' => LC H2 D (LI (us.map (· + d))) i H') (lc_start (Same.refl H2) hD) ?_ ?_
    · intro i H' hi q
      have hi : i < us.length := by omega
      refine ⟨rfl, _, rfl, _, rfl, _, rfl, a, us, _, rfl, sq_at (q.1 _ _ (s12 _ _ ha)), hpos, by omega, ?_⟩
      refine ⟨b, [d], _, rfl, sq_at (q.1 _ _ (s12 _ _ hb)), Nat.one_pos, by show 1 ≤ 1000000; omega, ?_⟩
      refine ⟨_, rfl, _, _, rfl, rfl, ?_⟩
      refine lc_step (s12.free hD |> fun _ => hD) q ?_ (by rw [List.length_map, List.length_map]; omega)
      have e1 : ∀ z, atT [d] z = z + d := fun z => by
        have := atT_map [0] d Nat.one_pos z
        rw [show ([0] : List Int).map (· + d) = [d] by simp] at this
        rw [this]
        unfold atT
        rw [show ([0] : List Int).getD (z % (([0] : List Int).length : Int)).toNat 0 = 0 by
          rw [show (z % (([0] : List Int).length : Int)).toNat = 0 by
            show (z % 1).toNat = 0
            rw [Int.emod_one]
            rfl]
          rfl]
        omega
      rw [e1, Int.zero_add, atT_nat us hi]
      show ((us.map (· + d)).map V.int)[i]? = _
      rw [List.getElem?_map, List.getElem?_map, List.getElem?_eq_getElem hi]
      have : us.getD i 0 = us[i] := by rw [List.getD_eq_getElem?_getD, List.getElem?_eq_getElem hi]; rfl
      rw [this]
      show some (V.int (us[i] + d)) = some (V.int ((i : Int) + us[i] + d - (i : Int)))
      congr 2
      omega
    · intro H' q
      obtain ⟨s3, e3⟩ := q.done (by rw [List.length_map, List.length_map]; omega)
      exact k D H' (s12.free hD) (s12.trans s3) e3
theorem m_Plan_then : MetD P w K mg base 6 cP "then" (sp_Plan_then cP) [] := by
  have c_joined_table := c_joined_table (P := P) (w := w) (base := base) T
  have k_Plan := k_Plan (P := P) (w := w) (base := base) T
  obtain ⟨f, fd, F, me⟩ := T.me_Plan_then
  refine ⟨f, fd, ["self", "other"], [], T.clP, me, F.ok sc_Plan_then (fun vs H Q E h => ?_) (fun cdv A outer s H vs Q E hr h => ?_), F.binds (ps := ["self", "other"]) fun _ _ _ _ _ _ us hl => match us, hl with | [_, _], _ => rfl, .nil⟩
  · obtain ⟨p, o, us, d, e, _⟩ := h
    rw [e]
    rfl
  · obtain ⟨p, o, us, d, rfl, hp, ho, k⟩ := h
    obtain ⟨dx, q, r, ts, h1, h2, h3, hv⟩ := hp
    obtain ⟨dx', q', r', ts', h1', h2', h3', hv'⟩ := ho
    have et : ts' = [d] := by
      obtain ⟨kk, ek⟩ := h3'
      have hl := congrArg List.length ek
      rw [flat_len] at hl
      have h1 : kk * ts'.length = 1 := hl.symm
      obtain rfl := Nat.eq_one_of_mul_eq_one_right h1
      simpa using ek.symm
    subst et
    refine ⟨_, (pss_one (ps_ret (pe_mkd k_Plan hr (by decide) rfl (pa_cons (pe_d c_joined_table hr (by decide) rfl (pa_cons (pe_fld (pv 0) rfl) (pa_cons (pe_fld (pv 1) rfl) pa_nil))) pa_nil)))), ?_⟩
    refine ⟨_, rfl, p, cP, dx, _, _, rfl, h1, T.clP, T.nP1, rfl, _, rfl, o, cP, dx', _, _, rfl, h1', T.clP, T.nP1, rfl, q, q', ts, d, rfl, h2, h2', VT.rep h3 hv, fun l H1 hl s1 e1 => ?_⟩
    refine mk_plan T e1 ((VT.rep h3 hv).map d) fun z H2 s2 hpz => k z H2 (s1.trans s2) ?_
    obtain ⟨dx3, q3, r3, ts3, g1, g2, g3, _, g5, g6⟩ := hpz
    exact ⟨dx3, q3, r3, ts3, g1, g2, g3.trans (h3.map _), hv.map d, s1.free g5, s1.free g6⟩
theorem c_Plan_identity : ∃ mc p g, CRead K cP mc ∧ CMet K cP mc "identity" p g ∧ FnR P w K mg base CX0 5 g (fun vs H Q _ => vs = [.ref cP] ∧ ∀ p H', Same H H' → PlanFr cP H H' p [0] → Q (.ref p) H') := by
  have k_Plan := k_Plan (P := P) (w := w) (base := base) T
  obtain ⟨mc, p, f, fd, rd, cm, F⟩ := T.me_Plan_identity
  refine ⟨mc, p, f, rd, cm, ?_⟩
  have F' : FnOk P w K mg base CX0 5 f fd ["cls"] (fun vs H Q _ => vs = [.ref cP] ∧ ∀ p H', Same H H' → PlanFr cP H H' p [0] → Q (.ref p) H') := by
    refine F.ok sc_Plan_identity (fun vs H Q E h => ?_) (fun cdv A outer s H vs Q E hr h => ?_)
    · rw [h.1]
      rfl
    · obtain ⟨rfl, k⟩ := h
      refine ⟨_, (pss_one (ps_ret (pe_mkL (i := 0) k_Plan hr (by decide) rfl (Or.inl rfl) (pa_cons (pe_lst (pa_cons pe_int pa_nil)) pa_nil)))), ?_⟩
      refine ⟨rfl, small_len (show 1 ≤ 1000000 by omega), fun l hl => ?_⟩
      generalize hg : upd _ _ _ = H1
      have s1 := newS hg hl
      have e1 := newE hg
      clear hg
      exact mk_plan T (us := [0]) e1 (VT.one 0) fun q H2 s2 hp => k q H2 (s1.trans s2) (PlanFr.mono hp s1)
  refine (F'.raw (F.binds (ps := ["cls"]) fun _ _ _ _ _ _ us hl => match us, hl with | [_], _ => rfl) .nil).imp fun vs H Q E h => ?_
  rw [List.append_nil]
  exact h
end
end My

end
section
set_option linter.all false
set_option maxRecDepth 100000
set_option maxHeartbeats 1000000
namespace My
open PySem PySem.Spec PyProof.Rows L2 StX ClX
def sp_delay (cP : Addr) : Sp := fun vs H Q _ => ∃ p us, vs = [.ref p] ∧ PlanAt cP H p us ∧ ∀ H', Same H H' → Q (.int (lateT us)) H'
def sp_delayed (cP : Addr) : Sp := fun vs H Q _ => ∃ p us, vs = [.ref p] ∧ PlanAt cP H p us ∧ ∀ q H', Same H H' → PlanFr cP H H' q (us.map (· + lateT us)) → Q (.ref q) H'
theorem late_max {ts us : List Int} (h : Rep ts us) (h0 : 0 < us.length) {m : Int} (h1 : m ∈ 0 :: ts.map (fun o => -o)) (h2 : ∀ y ∈ 0 :: ts.map (fun o => -o), y ≤ m) : m = lateT us := by
  refine late_is ?_ (h2 0 List.mem_cons_self) fun o ho => h2 _ (List.mem_cons_of_mem _ (List.mem_map.mpr ⟨o, (h.mem h0 o).mpr ho, rfl⟩))
  rcases List.mem_cons.mp h1 with e | e
  · exact .inl e
  · obtain ⟨o, ho, e⟩ := List.mem_map.mp e
    exact .inr ⟨o, (h.mem h0 o).mp ho, e.symm⟩
section
variable {P : Program} {w : World} {K : PySem.W.Frag} {mg : Str → Option Value} {base : Heap} {cM cP cS : Addr} (T : Txt K mg cM cP cS)
include T
theorem c_delay : CalD P w K mg base 2 "delay" (sp_delay cP) [] := by
  have m_Plan_offsets := m_Plan_offsets (P := P) (w := w) (base := base) T
  obtain ⟨f, fd, F, hm⟩ := T.d_delay
  refine CalD.of F hm (F.binds (ps := ["plan"]) fun _ _ _ _ _ _ us hl => match us, hl with | [_], _ => rfl) (F.ok sc_delay (fun vs H Q E h => ?_) (fun cdv A outer s H vs Q E hr h => ?_))
  · obtain ⟨p, us, e, _⟩ := h
    rw [e]
    rfl
  · obtain ⟨p, us, rfl, hp, k⟩ := h
    obtain ⟨dx, q, r, ts0, h1, _⟩ := id hp
    refine ⟨_, (pss_one (ps_ret (pe_callB (cr_max rfl) (by rfl) T.g_max (by decide +kernel) (pa_cons (pe_op op_cat (pe_lst (pa_cons pe_int pa_nil)) (pe_lc (own := [("offset", 1)]) (g := gName 1) (tt := tYes) (by rfl) sc_delay.nd (pi_list (pe_md0 m_Plan_offsets hr (by decide) (pv 0))) (blkOk_by (own := [("offset", 1)]) (N := ["plan", "offset"]) (sc := defScope s_delay) (by decide +kernel)) (fun _ _ _ _ _ => (pg_name (i := 1) sc_delay.nd rfl (Or.inl rfl))) (fun _ _ _ _ _ => pts_nil) (fun _ _ _ _ _ => (pe_un un_neg (pv 1))))) pa_nil)))), ?_⟩
    refine ⟨small_len (show 1 ≤ 1000000 by omega), fun l hl => ?_⟩
    generalize hg : upd _ _ _ = H1
    have s1 := newS hg hl
    have e1 := newE hg
    clear hg
    refine ⟨_, rfl, p, dx, _, rfl, s1 _ _ h1, rfl, p, us, rfl, hp.same s1, fun a ts H2 ha s2 e2 hrep => ?_⟩
    have hv : VT us := by
      obtain ⟨_, _, _, _, _, _, _, hv⟩ := hp
      exact hv
    have hlt : ts.length ≤ 2520 := Nat.le_trans (hrep.le hv.pos) hv.le
    refine ⟨a, rfl, ⟨_, sq_at e2⟩, fun D hD => ?_⟩
    refine lc_list (K := K) (a := a) (xs := LI ts) (fun i H' => LC H2 D (LI (ts.map fun o => -o)) i H') (lc_start (Same.refl H2) hD) (fun i H' _ q => sq_at (q.1 _ _ e2)) ?_ ?_
    · rintro i x H' hx q
      obtain ⟨n, hn, rfl⟩ := LI_get hx
      refine ⟨rfl, _, rfl, n, rfl, lc_step hD q ?_ (by rw [List.length_map, List.length_map]; omega)⟩
      show ((ts.map fun o => -o).map V.int)[i]? = _
      rw [List.getElem?_map, List.getElem?_map, hn]
      rfl
    · rintro H' q
      obtain ⟨s3, e3⟩ := q.done (by rw [List.length_map, List.length_map, List.length_map])
      refine ⟨l, D, [.int 0], _, rfl, rfl, (s2.trans s3) _ _ e1, e3, small_len (by rw [List.length_map, List.length_map]; show 1 + ts.length ≤ 1000000; omega), fun z hz => ?_⟩
      generalize hg : upd _ _ _ = H4
      have s4 := newS hg hz
      have e4 := newE hg
      clear hg
      refine ⟨z, 0 :: ts.map (fun o => -o), rfl, sq_at e4, Nat.zero_lt_succ _, fun m hm1 hm2 => ?_⟩
      rw [late_max hrep hv.pos hm1 hm2]
      exact k H4 (s1.trans (s2.trans (s3.trans s4)))
theorem c_delayed : CalD P w K mg base 7 "delayed" (sp_delayed cP) [] := by
  have m_Plan_then := m_Plan_then (P := P) (w := w) (base := base) T
  have c_delay := c_delay (P := P) (w := w) (base := base) T
  obtain ⟨mcS, pS, gS, rdS, cmS, FS⟩ := c_Plan_shift (P := P) (w := w) (base := base) T
  obtain ⟨f, fd, F, hm⟩ := T.d_delayed
  refine CalD.of F hm (F.binds (ps := ["plan"]) fun _ _ _ _ _ _ us hl => match us, hl with | [_], _ => rfl) (F.ok sc_delayed (fun vs H Q E h => ?_) (fun cdv A outer s H vs Q E hr h => ?_))
  · obtain ⟨p, us, e, _⟩ := h
    rw [e]
    rfl
  · obtain ⟨p, us, rfl, hp, k⟩ := h
    obtain ⟨dx, q, r, ts0, h1, _⟩ := id hp
    refine ⟨_, (pss_one (ps_ret (pe_md m_Plan_then hr (by decide) (pv 0) (pa_cons (pe_cmeth (pe_glob (v := .ref cP) rfl T.m_Plan rfl) rdS cmS FS (hr.mono (by decide)) pass0 (pa_cons (pe_d c_delay hr (by decide) rfl (pa_cons (pv 0) pa_nil)) pa_nil)) pa_nil)))), ?_⟩
    refine ⟨_, rfl, p, dx, _, rfl, h1, rfl, rfl, _, rfl, p, us, rfl, hp, fun H1 s1 => ?_⟩
    refine ⟨_, rfl, fun o H2 s2 ho => ?_⟩
    refine ⟨p, o, us, _, rfl, hp.same (s1.trans s2), PlanFr.at ho, fun z H3 s3 hpz => ?_⟩
    exact k z H3 (s1.trans (s2.trans s3)) (PlanFr.mono hpz (s1.trans s2))
end
end My

end
section
set_option linter.all false
set_option maxRecDepth 100000
set_option maxHeartbeats 1000000
namespace My
open PySem PySem.Spec PyProof.Rows L2 StX ClX
/-- all but x and D stays -/
def Kp (x D : Addr) (H H' : Hp) : Prop := ∀ a o, a ≠ x → a ≠ D → H a = some o → H' a = some o
abbrev flds (pl : Addr) (gp : V) (n : Int) (D : Addr) : List (Str × V) := [("own_delivery", .ref pl), ("own_gap", gp), ("own_moment", .int n), ("own_leaving", .ref D)]
/-- a stream: its table with the delay, its moment, what waits -/
def StreamAt (cS cP : Addr) (H : Hp) (x D dx pl : Addr) (gp : V) (us : List Int) (n : Int) (kvs : List (Key × V)) : Prop := H x = some (.ins cS dx (flds pl gp n D)) ∧ H D = some (.dK kvs) ∧ PlanAt cP H pl us
theorem PlanAt.put {cP x C dx p : Addr} {H : Hp} {us : List Int} {fs : List (Str × V)} {o : HO} (h : PlanAt cP H p us) (hx : H x = some (.ins C dx fs)) (hf : fs.lookup ("own_offsets" : Str) = none) : PlanAt cP (upd H x o) p us := by
  obtain ⟨dx', q, r, ts, h1, h2, h3⟩ := h
  refine ⟨dx', q, r, ts, ?_, ?_, h3⟩
  · rw [upd_ne ?_]
    · exact h1
    · intro e
      rw [e, hx] at h1
      cases h1
      cases hf
  · rw [upd_ne ?_]
    · exact h2
    · intro e
      rw [e, hx] at h2
      cases h2
theorem PlanAt.putD {cP D p : Addr} {H : Hp} {us : List Int} {kvs : List (Key × V)} {o : HO} (h : PlanAt cP H p us) (hx : H D = some (.dK kvs)) : PlanAt cP (upd H D o) p us := by
  obtain ⟨dx', q, r, ts, h1, h2, h3⟩ := h
  refine ⟨dx', q, r, ts, ?_, ?_, h3⟩
  · rw [upd_ne ?_]
    · exact h1
    · intro e
      rw [e, hx] at h1
      cases h1
  · rw [upd_ne ?_]
    · exact h2
    · intro e
      rw [e, hx] at h2
      cases h2
theorem StreamAt.same {cS cP x D dx pl : Addr} {H H' : Hp} {gp : V} {us : List Int} {n : Int} {kvs : List (Key × V)} (h : StreamAt cS cP H x D dx pl gp us n kvs) (e : Same H H') : StreamAt cS cP H' x D dx pl gp us n kvs := by
  obtain ⟨h1, h2, h3⟩ := h
  exact ⟨e _ _ h1, e _ _ h2, h3.same e⟩
theorem StreamAt.ne {cS cP x D dx pl : Addr} {H : Hp} {gp : V} {us : List Int} {n : Int} {kvs : List (Key × V)} (h : StreamAt cS cP H x D dx pl gp us n kvs) : D ≠ x := fun e => by
  obtain ⟨h1, h2, h3⟩ := h
  rw [e, h1] at h2
  cases h2
/-- only the moment and what waits have changed -/
theorem StreamAt.kp {cS cP x D dx pl : Addr} {H H' : Hp} {gp : V} {us : List Int} {n n' : Int} {kvs kvs' : List (Key × V)} (h : StreamAt cS cP H x D dx pl gp us n kvs) (k : Kp x D H H') (hx : H' x = some (.ins cS dx (flds pl gp n' D))) (hD : H' D = some (.dK kvs')) : StreamAt cS cP H' x D dx pl gp us n' kvs' := by
  obtain ⟨h1, h2, dx', q, r, ts, g1, g2, g3⟩ := h
  refine ⟨hx, hD, dx', q, r, ts, k _ _ (fun e => ?_) (fun e => ?_) g1, k _ _ (fun e => ?_) (fun e => ?_) g2, g3⟩
  · rw [e, h1] at g1
    cases g1
  · rw [e, h2] at g1
    cases g1
  · rw [e, h1] at g2
    cases g2
  · rw [e, h2] at g2
    cases g2
theorem dropK_none {kvs : List (Key × V)} {k : Key} (h : valV kvs k = none) : dropK kvs k = kvs := by
  unfold dropK
  refine List.filter_eq_self.mpr fun p hp => ?_
  have h2 : kvs.find? (fun kv => decide (kv.1 = k)) = none := by
    unfold valV at h
    exact Option.map_eq_none_iff.mp h
  have := List.find?_eq_none.mp h2 p hp
  simpa using this
theorem PlanFr.keep {cP C x D dx p : Addr} {H0 H H'' : Hp} {us : List Int} {fs : List (Str × V)} {kv : List (Key × V)} (h : PlanFr cP H0 H p us) (xf : H x = some (.ins C dx fs)) (hf : fs.lookup ("own_offsets" : Str) = none) (Df : H D = some (.dK kv))
    (kk : ∀ b o, H0 b = none → b ≠ x → b ≠ D → H b = some o → H'' b = some o) : PlanAt cP H'' p us := by
  obtain ⟨dx', q', r', ts', h1, h2, h3, h4, h5, h6⟩ := h
  refine ⟨dx', q', r', ts', kk _ _ h5 (fun e => ?_) (fun e => ?_) h1, kk _ _ h6 (fun e => ?_) (fun e => ?_) h2, h3, h4⟩
  · rw [e, xf] at h1
    cases h1
    cases hf
  · rw [e, Df] at h1
    cases h1
  · rw [e, xf] at h2
    cases h2
  · rw [e, Df] at h2
    cases h2
def sp_Stream_init (cS cP : Addr) : Sp := fun vs H Q _ => ∃ (x p dx : Addr) (gp : V) (us : List Int) (H0 : Hp), vs = [.ref x, .ref p, gp] ∧ Same H0 H ∧ H0 x = none ∧ H x = some (.ins cS dx []) ∧ PlanAt cP H p us ∧
  ∀ D pl H', Same H0 H' → H0 D = none → x ≠ D → StreamAt cS cP H' x D dx pl gp (us.map (· + lateT us)) 0 [] → (∀ H'' n' kvs', (∀ b o, H0 b = none → b ≠ x → b ≠ D → H' b = some o → H'' b = some o) → H'' x = some (.ins cS dx (flds pl gp n' D)) → H'' D = some (.dK kvs') → StreamAt cS cP H'' x D dx pl gp (us.map (· + lateT us)) n' kvs') → Q .non H'
def sp_Stream_moment (cS cP : Addr) : Sp := fun vs H Q _ => ∃ x D dx pl gp us n kvs, vs = [.ref x] ∧ StreamAt cS cP H x D dx pl gp us n kvs ∧ Q (.int n) H
def sp_Stream_waiting (cS cP : Addr) : Sp := fun vs H Q _ => ∃ x D dx pl gp us n kvs, vs = [.ref x] ∧ StreamAt cS cP H x D dx pl gp us n kvs ∧ Q (.int (kvs.length : Nat)) H
def sp_Stream_push (cS cP : Addr) : Sp := fun vs H Q _ => ∃ x D dx pl gp us n kvs it, vs = [.ref x, it] ∧ StreamAt cS cP H x D dx pl gp us n kvs ∧ kvs.length < 1000000 ∧
  ∀ H', Kp x D H H' → StreamAt cS cP H' x D dx pl gp us (n + 1) (dropK (putK kvs (.inl (atT us n)) it) (.inl n)) → Q ((valV (putK kvs (.inl (atT us n)) it) (.inl n)).getD gp) H'
section
variable {P : Program} {w : World} {K : PySem.W.Frag} {mg : Str → Option Value} {base : Heap} {cM cP cS : Addr} (T : Txt K mg cM cP cS)
include T
theorem ok_Stream {f : Addr} {fd : FuncData} (F : FunD K "__init__" "Stream.__init__" (defArgs s_Stream_init) (defBody s_Stream_init) (defScope s_Stream_init) [] [("gap", V.non)] f fd) : FnOk P w K mg base CX0 8 f fd ["self", "plan", "gap"] (sp_Stream_init cS cP) := by
  have c_delayed := c_delayed (P := P) (w := w) (base := base) T
  refine F.ok sc_Stream_init (fun vs H Q E h => ?_) (fun cdv A outer s H vs Q E hr h => ?_)
  · obtain ⟨x, a, dx, gp, us, H0, e, _⟩ := h
    rw [e]
    rfl
  · obtain ⟨x, p, dx, gp, us, H0, rfl, s0, hx0, hx, hp, k⟩ := h
    refine ⟨_, PSs.nox (pss_cons (ps_fld (pv 0) (pe_d c_delayed hr (by decide) rfl (pa_cons (pv 1) pa_nil)) rfl)
      (pss_cons (ps_fld (pv 0) (pv 2) rfl)
      (pss_cons (ps_fld (pv 0) pe_int rfl)
      (pss_one (ps_fld (pv 0) pe_dnewK rfl))))), ?_⟩
    refine ⟨_, rfl, p, us, rfl, hp, fun q H1 s1 hpf => ?_⟩
    have hpq := PlanFr.at hpf
    have hx1 := s1 _ _ hx
    refine ⟨_, rfl, x, cS, dx, _, rfl, hx1, T.clS, T.nS1, Nat.zero_lt_succ _, ?_⟩
    refine ⟨_, rfl, _, rfl, x, cS, dx, _, rfl, upd_same, T.clS, T.nS2, (show 1 < 1000 by omega), ?_⟩
    refine ⟨_, rfl, x, cS, dx, _, rfl, upd_same, T.clS, T.nS3, (show 2 < 1000 by omega), ?_⟩
    have s3 : Same H0 (upd (upd (upd H1 x (.ins cS dx [("own_delivery", .ref q)])) x (.ins cS dx [("own_delivery", .ref q), ("own_gap", gp)])) x (.ins cS dx [("own_delivery", .ref q), ("own_gap", gp), ("own_moment", .int 0)])) := Same.mut (Same.mut (Same.mut (s0.trans s1) hx0) hx0) hx0
    have x3 : (upd (upd (upd H1 x (.ins cS dx [("own_delivery", .ref q)])) x (.ins cS dx [("own_delivery", .ref q), ("own_gap", gp)])) x (.ins cS dx [("own_delivery", .ref q), ("own_gap", gp), ("own_moment", .int 0)])) x = some (.ins cS dx [("own_delivery", .ref q), ("own_gap", gp), ("own_moment", .int 0)]) := upd_same
    intro D hD
    have nxD : x ≠ D := fun e => by
      rw [← e] at hD
      exact absurd (hD.symm.trans upd_same) (fun z => by cases z)
    refine ⟨_, rfl, x, cS, dx, _, rfl, (upd_ne nxD).trans upd_same, T.clS, T.nS4, (show 3 < 1000 by omega), ?_⟩
    have s5 := s3.trans (Same.new (o := .dK []) hD)
    have pF : PlanFr cP H0 (upd (upd (upd (upd (upd H1 x (.ins cS dx [("own_delivery", .ref q)])) x (.ins cS dx [("own_delivery", .ref q), ("own_gap", gp)])) x (.ins cS dx [("own_delivery", .ref q), ("own_gap", gp), ("own_moment", .int 0)])) D (.dK [])) x (.ins cS dx (flds q gp 0 D))) q (us.map (· + lateT us)) := by
      obtain ⟨dx', q', r', ts', h1, h2, h3, h4, h5, h6⟩ := hpf.mono s0
      have n1 : q ≠ x := fun e => by
        rw [e, hx1] at h1
        cases h1
      have n2 : q' ≠ x := fun e => by
        rw [e, hx1] at h2
        cases h2
      have u1 := ((upd_ne n1).trans ((upd_ne n1).trans ((upd_ne n1).trans h1)) : (upd (upd (upd H1 x (.ins cS dx [("own_delivery", .ref q)])) x (.ins cS dx [("own_delivery", .ref q), ("own_gap", gp)])) x (.ins cS dx [("own_delivery", .ref q), ("own_gap", gp), ("own_moment", .int 0)])) q = _)
      have u2 := ((upd_ne n2).trans ((upd_ne n2).trans ((upd_ne n2).trans h2)) : (upd (upd (upd H1 x (.ins cS dx [("own_delivery", .ref q)])) x (.ins cS dx [("own_delivery", .ref q), ("own_gap", gp)])) x (.ins cS dx [("own_delivery", .ref q), ("own_gap", gp), ("own_moment", .int 0)])) q' = _)
      exact ⟨dx', q', r', ts', (upd_ne n1).trans ((upd_ne (ne_of_none u1 hD)).trans u1), (upd_ne n2).trans ((upd_ne (ne_of_none u2 hD)).trans u2), h3, h4, h5, h6⟩
    have xf : (upd (upd (upd (upd (upd H1 x (.ins cS dx [("own_delivery", .ref q)])) x (.ins cS dx [("own_delivery", .ref q), ("own_gap", gp)])) x (.ins cS dx [("own_delivery", .ref q), ("own_gap", gp), ("own_moment", .int 0)])) D (.dK [])) x (.ins cS dx (flds q gp 0 D))) x = some (.ins cS dx (flds q gp 0 D)) := upd_same
    have Df : (upd (upd (upd (upd (upd H1 x (.ins cS dx [("own_delivery", .ref q)])) x (.ins cS dx [("own_delivery", .ref q), ("own_gap", gp)])) x (.ins cS dx [("own_delivery", .ref q), ("own_gap", gp), ("own_moment", .int 0)])) D (.dK [])) x (.ins cS dx (flds q gp 0 D))) D = some (.dK []) := (upd_ne fun e => nxD e.symm).trans upd_same
    refine k D q _ (Same.mut s5 hx0) (s3.free hD) nxD ⟨xf, Df, PlanFr.at pF⟩ fun H'' n' kvs' kk ex eD => ⟨ex, eD, ?_⟩
    exact PlanFr.keep pF xf rfl Df kk
theorem k_Stream : MakD P w K mg base 8 "Stream" cS (sp_Stream_init cS cP) [V.non] := by
  obtain ⟨f, fd, M, F⟩ := T.i_Stream
  obtain ⟨ds, d, b⟩ := F.binds0 (ps := ["self", "plan", "gap"]) 2 (by simp) rfl (fun D doc pm an cdv ct us ks h1 h2 => match us, ks, h1, h2 with | [_, _], [_], _, _ => ⟨_, _, _, _, _, _, rfl, rfl, rfl⟩)
  exact ⟨f, fd, ["self", "plan", "gap"], ds, M, ok_Stream T F, T.m_Stream, b, d⟩
theorem p_Stream_moment : PrpD P w K mg base 1 cS "moment" (sp_Stream_moment cS cP) := by
  obtain ⟨p, f, fd, F, pr⟩ := T.pr_Stream_moment
  refine ⟨p, f, fd, ["self"], T.clS, pr, F.ok sc_Stream_moment (fun vs H Q E h => ?_) (fun cdv A outer s H vs Q E hr h => ?_), F.binds (ps := ["self"]) fun _ _ _ _ _ _ us hl => match us, hl with | [_], _ => rfl⟩
  · obtain ⟨x, D, dx, pl, gp, us, n, kvs, e, _⟩ := h
    rw [e]
    rfl
  · obtain ⟨x, D, dx, pl, gp, us, n, kvs, rfl, hs, k⟩ := h
    obtain ⟨h1, h2, h3⟩ := hs
    refine ⟨_, (pss_one (ps_ret (pe_fld (pv 0) rfl))), ?_⟩
    exact ⟨_, rfl, x, cS, dx, _, _, rfl, h1, T.clS, T.nS3, rfl, k⟩
theorem p_Stream_waiting : PrpD P w K mg base 1 cS "waiting" (sp_Stream_waiting cS cP) := by
  obtain ⟨p, f, fd, F, pr⟩ := T.pr_Stream_waiting
  refine ⟨p, f, fd, ["self"], T.clS, pr, F.ok sc_Stream_waiting (fun vs H Q E h => ?_) (fun cdv A outer s H vs Q E hr h => ?_), F.binds (ps := ["self"]) fun _ _ _ _ _ _ us hl => match us, hl with | [_], _ => rfl⟩
  · obtain ⟨x, D, dx, pl, gp, us, n, kvs, e, _⟩ := h
    rw [e]
    rfl
  · obtain ⟨x, D, dx, pl, gp, us, n, kvs, rfl, hs, k⟩ := h
    obtain ⟨h1, h2, h3⟩ := hs
    refine ⟨_, (pss_one (ps_ret (pe_callB call_lenD (by rfl) T.g_len (by decide +kernel) (pa_cons (pe_fld (pv 0) rfl) pa_nil)))), ?_⟩
    exact ⟨_, rfl, x, cS, dx, _, _, rfl, h1, T.clS, T.nS4, rfl, D, kvs, rfl, h2, k⟩
theorem m_Stream_push_ok : ∃ f fd, FnOk P w K mg base CX0 4 f fd ["self", "item"] (sp_Stream_push cS cP) ∧ Meth K cS "push" f ∧ Fun K "push" "Stream.push" s_Stream_push f fd := by
  have m_Plan_at := m_Plan_at (P := P) (w := w) (base := base) T
  obtain ⟨f, fd, F, me⟩ := T.me_Stream_push
  refine ⟨f, fd, F.ok sc_Stream_push (fun vs H Q E h => ?_) (fun cdv A outer s H vs Q E hr h => ?_), me, F⟩
  · obtain ⟨x, D, dx, pl, gp, us, n, kvs, it, e, _⟩ := h
    rw [e]
    rfl
  · obtain ⟨x, D, dx, pl, gp, us, n, kvs, it, rfl, hs, hlen, k⟩ := h
    obtain ⟨h1, h2, h3⟩ := hs
    have hu := hu_of hr
    have nDx : D ≠ x := fun e => by
      rw [e, h1] at h2
      cases h2
    refine ⟨_, (pss_cons (ps_set (i := 2) sc_Stream_push.nd rfl (Or.inl rfl) (pe_fld (pv 0) rfl))
      (pss_cons (ps_fld (pv 0) (pe_op op_add (pv 2) pe_int) rfl)
      (pss_cons (ps_dput hu (pe_fld (pv 0) rfl) (pe_md m_Plan_at hr (by decide) (pe_fld (pv 0) rfl) (pa_cons (pv 2) pa_nil)) (pv 1) rfl)
      (pss_one (ps_ret (pe_dpop2 (pe_fld (pv 0) rfl) (pv 2) (pe_fld (pv 0) rfl) ⟨rfl, rfl, rfl, rfl⟩)))))), ?_⟩
    refine ⟨_, rfl, x, cS, dx, _, _, rfl, h1, T.clS, T.nS3, rfl, ?_⟩
    refine ⟨_, rfl, _, _, rfl, rfl, _, rfl, x, cS, dx, _, rfl, h1, T.clS, T.nS3, (show 4 < 1000 by omega), ?_⟩
    have x1 : (upd H x (.ins cS dx (flds pl gp (n + 1) D))) x = some (.ins cS dx (flds pl gp (n + 1) D)) := upd_same
    have p1 : PlanAt cP (upd H x (.ins cS dx (flds pl gp (n + 1) D))) pl us := PlanAt.put h3 h1 rfl
    have d1 : (upd H x (.ins cS dx (flds pl gp (n + 1) D))) D = some (.dK kvs) := (upd_ne nDx).trans h2
    obtain ⟨dx2, _, _, _, g1, _⟩ := id p1
    refine ⟨_, rfl, _, rfl, x, cS, dx, _, _, rfl, x1, T.clS, T.nS4, rfl, _, rfl, x, cS, dx, _, _, rfl, x1, T.clS, T.nS1, rfl, pl, dx2, _, rfl, g1, rfl, _, rfl, pl, us, n, rfl, p1, ?_⟩
    refine ⟨D, _, rfl, DPut.k (k := Sum.inl (atT us n)) d1 (small_lt hlen), ?_⟩
    generalize hk2 : putK kvs (Sum.inl (atT us n)) it = kv2 at *
    have x2 : (upd (upd H x (.ins cS dx (flds pl gp (n + 1) D))) D (.dK kv2)) x = some (.ins cS dx (flds pl gp (n + 1) D)) := (upd_ne fun e => nDx e.symm).trans x1
    have p2 : PlanAt cP (upd (upd H x (.ins cS dx (flds pl gp (n + 1) D))) D (.dK kv2)) pl us := PlanAt.putD p1 d1
    refine ⟨_, rfl, x, cS, dx, _, _, rfl, x2, T.clS, T.nS4, rfl, D, rfl, .inl ⟨_, .inl upd_same⟩, _, rfl, _, rfl, x, cS, dx, _, _, rfl, x2, T.clS, T.nS2, rfl, kv2, Sum.inl n, upd_same, rfl, fun v hv => ?_, fun hn => ?_⟩
    · rw [hv] at k
      refine k _ (fun a o ha hd e => ?_) ⟨(upd_ne fun e => nDx e.symm).trans x2, upd_same, PlanAt.putD p2 upd_same⟩
      rw [upd_ne hd, upd_ne hd, upd_ne ha]
      exact e
    · rw [hn, dropK_none hn] at k
      refine k _ (fun a o ha hd e => ?_) ⟨x2, upd_same, p2⟩
      rw [upd_ne hd, upd_ne ha]
      exact e
end
end My

end
section
set_option linter.all false
set_option maxRecDepth 100000
set_option maxHeartbeats 1000000
namespace My
open PySem PySem.Spec PyProof.Rows L2 StX ClX
def g11 {α : Type} : List α → List α → List α
  | [a], [b] => [a, b]
  | _, _ => []
theorem g11_rel {vs zs : List V} {us ws : List Value} (r : Vals vs us) (z : Vals zs ws) : Vals (g11 vs zs) (g11 us ws) := by
  cases r with
  | nil => exact .nil
  | cons r1 r2 =>
    cases r2 with
    | cons _ _ => exact .nil
    | nil =>
      cases z with
      | nil => exact .nil
      | cons z1 z2 =>
        cases z2 with
        | nil => exact .cons r1 (.cons z1 .nil)
        | cons _ _ => exact .nil
/-- a list of pairs as a dict of ints -/
def KV (kv : List (Int × V)) : List (Key × V) := kv.map fun p => (Sum.inl p.1, p.2)
def sp_rest (cS cP : Addr) : SpG := fun vs H Q _ => ∃ x D dx pl gp us n kv, vs = [.ref x] ∧ StreamAt cS cP H x D dx pl gp us n (KV kv) ∧ (kv.map (·.1)).Nodup ∧ kv.length ≤ 1000 ∧ 0 ≤ n ∧ n ≤ 900000 ∧ (∀ p ∈ kv, p.1 ≤ 900000) ∧
  ∀ last, last ∈ (n - 1) :: kv.map (·.1) → (∀ y ∈ (n - 1) :: kv.map (·.1), y ≤ last) → ∀ H', Same H H' → Q ((List.range (last + 1 - n).toNat).map fun (i : Nat) => (valV (KV kv) (.inl (n + (i : Int)))).getD gp) H'
theorem KV_none {kv : List (Int × V)} (h : (kv.map (·.1)).Nodup) {i : Nat} {p : Int × V} (hi : kv[i]? = some p) : valV (KV (kv.take i)) (Sum.inl p.1) = none := by
  refine valV_of_none fun q hq e => ?_
  obtain ⟨r, hr, rfl⟩ := List.mem_map.mp hq
  obtain ⟨j, hj, e2⟩ := List.getElem_of_mem hr
  have hj2 : j < kv.length := by
    rw [List.length_take] at hj
    omega
  have hj3 : j < i := by
    rw [List.length_take] at hj
    omega
  have hi2 : i < kv.length := (List.getElem?_eq_some_iff.mp hi).1
  rw [List.getElem_take] at e2
  have e3 : kv[i] = p := (List.getElem?_eq_some_iff.mp hi).2
  have e4 : r.1 = p.1 := Sum.inl.inj e
  have := (List.getElem_inj (h₀ := by rw [List.length_map]; exact hj2) (h₁ := by rw [List.length_map]; exact hi2) h).mp (by rw [List.getElem_map, List.getElem_map, e2, e3]; exact e4)
  omega
section
variable {P : Program} {w : World} {K : PySem.W.Frag} {mg : Str → Option Value} {base : Heap} {cM cP cS : Addr} (T : Txt K mg cM cP cS)
include T
theorem mk_push : ∃ f fd, FnOk P w K mg base CX0 4 f fd ["self", "item"] (sp_Stream_push cS cP) ∧ Meth K cS "push" f ∧ KBinds K fd ["self", "item"] ["item"] g11 g11 := by
  obtain ⟨f, fd, F, me, G⟩ := m_Stream_push_ok (P := P) (w := w) (base := base) T
  obtain ⟨oc, od0, kVd, doc, pm, an, cdv, ct, osl, rfl, lk, hcd⟩ := G.ex
  refine ⟨f, _, F, me, ⟨fun s us ws kin hl => ?_, g11_rel⟩⟩
  exact match us, ws, hl with
    | [a], [b], _ => BindsTo.of_looks fun M => PySem.W.Looks.of_pure rfl
theorem g_Stream_rest : ∃ f fd, GFn P w K mg base 2 f fd ["self"] (sp_rest cS cP) ∧ Meth K cS "rest" f ∧ Binds K fd ["self"] [] := by
  obtain ⟨f, fd, F, me⟩ := T.me_Stream_rest
  have hb := F.binds (ps := ["self"]) fun _ _ _ _ _ _ us hl => match us, hl with | [_], _ => rfl
  obtain ⟨oc, od0, kVd, doc, pm, an, cdv, ct, osl, rfl, lk, hcd⟩ := F.ex
  refine ⟨f, _, gfn_of lk hcd sc_Stream_rest (fun vs H Q E h => ?_) (fun A outer s H vs Q E pn hr h => ?_), me, hb⟩
  · obtain ⟨x, D, dx, pl, gp, us, n, kv, e, _⟩ := h
    rw [e]
    rfl
  · obtain ⟨x, D, dx, pl, gp, us, n, kv, rfl, hs, hnd, hkl, hn0, hn1, hkb, k⟩ := h
    obtain ⟨h1, h2, h3⟩ := hs
    have hu := hu_of hr
    have nDx : D ≠ x := fun e => by
      rw [e, h1] at h2
      cases h2
    refine ⟨_, (gss_cons (gs_ps (ps_lock (ps_setDc (i := 2) (own := [("moment", 1), ("item", 4)]) (g := gTup K 2 (gCons (gName 1) (gCons (gName 4) gNil))) (tt := tYes) (by rfl) sc_Stream_rest.nd rfl rfl (sw_trueD rfl rfl rfl (by decide +kernel)) (pi_items (pe_fld (pv 0) rfl)) (blkOk_by (own := [("moment", 1), ("item", 4)]) (N := ["self", "moment", "leaving", "last", "item"]) (sc := defScope s_Stream_rest) (by decide +kernel)) (fun _ _ _ _ _ => (pg_tup (by rfl) (pgs_cons (pg_name (i := 1) sc_Stream_rest.nd rfl (Or.inl rfl)) (pgs_cons (pg_name (i := 4) sc_Stream_rest.nd rfl (Or.inl rfl)) pgs_nil)))) (fun _ _ _ _ _ => pts_nil) (fun _ _ _ _ _ => (pv 1)) (fun _ _ _ _ _ => (pv 4)))))
      (gss_cons (gs_ps (ps_set (i := 3) sc_Stream_rest.nd rfl (Or.inl rfl) (pe_callB (cr_max rfl) (by rfl) T.g_max (by decide +kernel) (pa_cons (pe_op op_cat (pe_lst (pa_cons (pe_op op_sub (pe_fld (pv 0) rfl) pe_int) pa_nil)) (pe_callTy (call_listD rfl) (by rfl) T.g_list (by decide +kernel) (pa_cons (pv 2) pa_nil))) pa_nil))))
      (gss_cons (gs_for owns_gcx (by rfl) (pi_range2 (by rfl) T.g_range (pa_cons (pe_fld (pv 0) rfl) (pa_cons (pe_op op_add (pv 3) pe_int) pa_nil))) (pg_name (i := 1) sc_Stream_rest.nd rfl (Or.inl rfl)) (gss_cons (gs_yield (pe_dget2 hu (pv 2) (pv 1) (pe_fld (pv 0) rfl) ⟨rfl, rfl, rfl, rfl⟩))
      gss_nil))
      gss_nil))), ?_⟩
    refine ⟨D, _, h2, trivial, fun od => ?_⟩
    have f2 : (upd H D (.frz od (.dK (KV kv)))) D = some (.frz od (.dK (KV kv))) := upd_same
    have f1 : (upd H D (.frz od (.dK (KV kv)))) x = some (.ins cS dx (flds pl gp n D)) := (upd_ne fun e => nDx e.symm).trans h1
    refine ⟨_, rfl, x, cS, dx, _, _, rfl, f1, T.clS, T.nS4, rfl, D, od, KV kv, rfl, f2, fun L hL => ?_⟩
    have nLD : L ≠ D := fun e => by
      rw [e, f2] at hL
      cases hL
    have hlk : (KV kv).length = kv.length := List.length_map ..
    refine dc_items (d := D) (o := od) (kvs := KV kv) (fun i H' => Same (upd H D (.frz od (.dK (KV kv)))) H' ∧ H' L = some (.dK (KV (kv.take i)))) ⟨Same.mut (Same.refl _) hL, upd_same⟩ (fun i H' q => q.1 _ _ f2) ?_ ?_
    · rintro i k0 v0 H' tt H'' hx ⟨sm, eL⟩ hT sm' eT
      obtain ⟨p, hp, e⟩ : ∃ p, kv[i]? = some p ∧ (Sum.inl p.1, p.2) = (k0, v0) := by
        unfold KV at hx
        rw [List.getElem?_map] at hx
        cases e : kv[i]? with
        | none =>
          rw [e] at hx
          cases hx
        | some p =>
          rw [e] at hx
          exact ⟨p, rfl, Option.some.inj hx⟩
      cases e
      refine ⟨tt, _, rfl, st_at eT, rfl, _, _, rfl, _, _, rfl, rfl, ?_⟩
      refine ⟨rfl, _, rfl, _, rfl, _, Sum.inl p.1, rfl, sm' _ _ eL, small_lt (by unfold KV; rw [List.length_map, List.length_take]; omega), Same.mut (sm.trans sm') hL, ?_⟩
      rw [putK_new _ (KV_none hnd hp)]
      have e : kv.take (i + 1) = kv.take i ++ [p] := by
        rw [List.take_succ, hp]
        rfl
      rw [e]
      unfold KV
      rw [List.map_append]
      exact upd_same
    · rintro H' ⟨sm, eL⟩
      rw [hlk, List.take_length] at eL
      refine ⟨sm _ _ f2, ?_⟩
      have sb : Same H (upd H' D (.dK (KV kv))) := fun a u ha => by
        by_cases e : a = D
        · rw [e, h2] at ha
          rw [e, upd_same]
          exact ha
        · rw [upd_ne e]
          exact sm _ _ ((upd_ne e).trans ha)
      have eL2 : (upd H' D (.dK (KV kv))) L = some (.dK (KV kv)) := (upd_ne nLD).trans eL
      generalize upd H' D (.dK (KV kv)) = Hb at *
      refine ⟨_, rfl, x, cS, dx, _, _, rfl, sb _ _ h1, T.clS, T.nS3, rfl, _, _, rfl, rfl, small_len (show 1 ≤ 1000000 by omega), fun l hl => ?_⟩
      generalize hg : upd _ _ _ = H1
      have s1 := newS hg hl
      have e1 := newE hg
      clear hg
      refine ⟨_, rfl, L, KV kv, rfl, .inl (s1 _ _ eL2), fun m hm => ?_⟩
      generalize hg : upd _ _ _ = H2
      have s2 := newS hg hm
      have e2 := newE hg
      clear hg
      refine ⟨l, m, _, _, rfl, rfl, s2 _ _ e1, e2, small_len (by rw [List.length_map, hlk]; show 1 + kv.length ≤ 1000000; omega), fun z hz => ?_⟩
      generalize hg : upd _ _ _ = H3
      have s3 := newS hg hz
      have e3 := newE hg
      clear hg
      have ez : [V.int (n - 1)] ++ (KV kv).map (fun kv => kV kv.1) = LI ((n - 1) :: kv.map (·.1)) := by
        unfold KV
        rw [List.map_map]
        show V.int (n - 1) :: _ = V.int (n - 1) :: (kv.map (·.1)).map V.int
        rw [List.map_map]
        rfl
      rw [ez] at e3
      refine ⟨z, (n - 1) :: kv.map (·.1), rfl, sq_at e3, Nat.zero_lt_succ _, fun last l1 l2 => ?_⟩
      have sa := sb.trans (s1.trans (s2.trans s3))
      have hL3 := (s1.trans (s2.trans s3)) _ _ eL2
      have lb : n - 1 ≤ last := l2 _ List.mem_cons_self
      have ub : last ≤ 900000 := by
        rcases List.mem_cons.mp l1 with e | e
        · omega
        · obtain ⟨p, hp, rfl⟩ := List.mem_map.mp e
          exact hkb p hp
      refine ⟨_, rfl, x, cS, dx, _, _, rfl, sa _ _ h1, T.clS, T.nS3, rfl, _, rfl, _, _, rfl, rfl, n, last + 1, rfl, ⟨by omega, by omega, by omega, by omega⟩, ?_⟩
      refine gfor_range (fun i ys σ H' => ys = ((List.range i).map fun (i : Nat) => (valV (KV kv) (.inl (n + (i : Int)))).getD gp) ∧ Same H3 H' ∧ ∃ v1 v2, σ = [some (.ref x), v1, some (.ref L), some (.int last), v2]) ⟨rfl, Same.refl _, none, none, rfl⟩ ?_ ?_
      · rintro i ys σ H' hi ⟨rfl, sm3, v1, v2, rfl⟩
        refine ⟨small_lt (by rw [List.length_map, List.length_range]; omega), _, rfl, L, rfl, .inl ⟨_, .inl (sm3 _ _ hL3)⟩, _, rfl, _, rfl, x, cS, dx, _, _, rfl, sm3 _ _ (sa _ _ h1), T.clS, T.nS2, rfl, _, DGet.k (k := Sum.inl (n + (i : Int))) (sm3 _ _ hL3), ?_⟩
        refine ⟨?_, sm3, _, _, rfl⟩
        rw [List.range_succ, List.map_append]
        rfl
      · rintro ys σ H' ⟨rfl, sm3, v1, v2, rfl⟩
        exact k last l1 l2 H' (sa.trans sm3)
end
end My

end
section
set_option linter.all false
set_option maxRecDepth 100000
set_option maxHeartbeats 1000000
namespace My
theorem map_getD {gs : List Int} {j : Nat} (h : j < gs.length) : gs.getD j 0 = gs[j] := by
  rw [List.getD_eq_getElem?_getD, List.getElem?_eq_getElem h]
  rfl
theorem ofNat_nodup (m : Nat) : ((List.range m).map Int.ofNat).Nodup :=
  List.pairwise_map.mpr (List.Pairwise.imp (R := fun a b => a ≠ b) (fun {a b} (h : a ≠ b) e => h (Int.ofNat.inj e)) List.nodup_range)
section
variable {m : Nat} {gs : List Int} (pm : gs.Perm ((List.range m).map Int.ofNat))
include pm
theorem gs_len : gs.length = m := by rw [pm.length_eq, List.length_map, List.length_range]
theorem gs_bnd {j : Nat} (h : j < m) : 0 ≤ gs.getD j 0 ∧ gs.getD j 0 < (m : Int) := by
  have hj : j < gs.length := by rw [gs_len pm]; exact h
  rw [map_getD hj]
  have := pm.mem_iff.mp (List.getElem_mem hj)
  obtain ⟨i, hi, e⟩ := List.mem_map.mp this
  have := List.mem_range.mp hi
  rw [← e]
  show 0 ≤ (i : Int) ∧ (i : Int) < m
  omega
theorem gs_inj {i j : Nat} (hi : i < m) (hj : j < m) (e : gs.getD i 0 = gs.getD j 0) : i = j := by
  have hi' : i < gs.length := by rw [gs_len pm]; exact hi
  have hj' : j < gs.length := by rw [gs_len pm]; exact hj
  rw [map_getD hi', map_getD hj'] at e
  exact (List.getElem_inj (h₀ := hi') (h₁ := hj') (pm.nodup_iff.mpr (ofNat_nodup m))).mp e
theorem gs_sur {r : Int} (h0 : 0 ≤ r) (h1 : r < m) : ∃ j, j < m ∧ gs.getD j 0 = r := by
  have : r ∈ gs := pm.mem_iff.mpr (List.mem_map.mpr ⟨r.toNat, List.mem_range.mpr (by omega), by show ((r.toNat : Nat) : Int) = r; omega⟩)
  obtain ⟨j, hj, e⟩ := List.getElem_of_mem this
  exact ⟨j, by rw [← gs_len pm]; exact hj, by rw [map_getD hj]; exact e⟩
end
end My

end
section
set_option linter.all false
set_option maxRecDepth 100000
set_option maxHeartbeats 1000000
namespace My
open PySem PySem.Spec PyProof.Rows L2 StX ClX
/-- a pot: a digit store and a seed -/
def PotAt (H : Hp) (p : Addr) : Prop := ∃ a b : Int, H p = some (.lst [.int a, .int b]) ∧ 0 ≤ a ∧ 0 ≤ b ∧ b ≤ 2147483629
/-- a thing of one's own changes, one that the start did not know -/
theorem KpP.mut {p q : Addr} {H H' : Hp} {o : HO} (h : KpP p H H') (hq : H q = none) : KpP p H (upd H' q o) := fun a u n e => (upd_ne (ne_of_none e hq)).trans (h a u n e)
theorem PotAt.same {H H' : Hp} {p : Addr} (h : PotAt H p) (g : Same H H') : PotAt H' p := by
  obtain ⟨a, b, h1, h2⟩ := h
  exact ⟨a, b, g _ _ h1, h2⟩
theorem PotAt.ne {H : Hp} {p q : Addr} (h : PotAt H p) (hq : H q = none) : q ≠ p := fun e => by
  obtain ⟨a, b, h1, h2⟩ := h
  rw [e, h1] at hq
  cases hq
theorem PotAt.put {H : Hp} {p q : Addr} {o : HO} (h : PotAt H p) (n : q ≠ p) : PotAt (upd H q o) p := by
  obtain ⟨a, b, h1, h2⟩ := h
  exact ⟨a, b, (upd_ne fun e => n e.symm).trans h1, h2⟩
theorem erase_map {α β : Type} (f : α → β) : ∀ (l : List α) (i : Nat), (l.map f).eraseIdx i = (l.eraseIdx i).map f
  | [], _ => rfl
  | _ :: _, 0 => rfl
  | x :: l, i + 1 => by
    rw [List.map_cons, List.eraseIdx_cons_succ, List.eraseIdx_cons_succ, List.map_cons, erase_map f l i]
theorem erase_perm' {α : Type} : ∀ (l : List α) (i : Nat) (y : α), l[i]? = some y → ([y] ++ l.eraseIdx i).Perm l
  | [], i, y, h => by cases h
  | x :: l, 0, y, h => by
    cases h
    exact List.Perm.refl _
  | x :: l, i + 1, y, h => (List.Perm.swap x y _).trans ((erase_perm' l i y h).cons x)
theorem rgV_LI (m : Nat) : rgV 0 (m : Int) = LI ((List.range m).map Int.ofNat) := by
  unfold rgV LI
  rw [List.map_map, Int.sub_zero, Int.toNat_natCast]
  refine List.map_congr_left fun i _ => ?_
  show V.int (0 + (i : Int)) = V.int (Int.ofNat i)
  rw [Int.zero_add]
  rfl
theorem tyl {K : PySem.W.Frag} {H : Hp} {p : Addr} {xs : List V} (h : SqL K H p xs) : tyV K "list" (.ref p) H := .inl ⟨rfl, xs, h⟩
def sp_draw : Sp := fun vs H Q _ => ∃ (p : Addr) (many : Int), vs = [.ref p, .int many] ∧ PotAt H p ∧ 0 < many ∧ many ≤ 1000000 ∧ ∀ d H', 0 ≤ d → d < many → KpP p H H' → PotAt H' p → Q (.int d) H'
def sp_shuffled : Sp := fun vs H Q _ => ∃ (p a : Addr) (xs : List Int), vs = [.ref p, .ref a] ∧ PotAt H p ∧ H a = some (.lst (LI xs)) ∧ xs.length ≤ 1000 ∧ ∀ q ys H', KpP p H H' → PotAt H' p → H q = none → H' q = some (.lst (LI ys)) → ys.Perm xs → Q (.ref q) H'
/-- a table made of a permutation -/
structure TabOf (m : Nat) (us : List Int) : Prop where
  len : us.length = m
  ex : ∃ gs : List Int, gs.Perm ((List.range m).map Int.ofNat) ∧ ∀ i, i < m → ∃ c : Int, us.getD i 0 = gs.getD i 0 - i + m * c
  sm : ∀ o ∈ us, -1001 ≤ o ∧ o ≤ 1001
def sp_table : Sp := fun vs H Q _ => ∃ (p : Addr) (m : Nat), vs = [.ref p, .int m] ∧ PotAt H p ∧ 0 < m ∧ m ≤ 60 ∧ ∀ q us H', KpP p H H' → PotAt H' p → H q = none → H' q = some (.lst (LI us)) → TabOf m us → Q (.ref q) H'
def sp_pot (K : PySem.W.Frag) : Sp := fun vs H Q _ => ∃ (a : Addr) (ns : List Int) (k : Nat), vs = [.ref a, .int k] ∧ SqL K H a (LI ns) ∧ ns.length ≤ 1000 ∧ k ≤ 1000 ∧ ∀ q H', Same H H' → H q = none → PotAt H' q → Q (.ref q) H'
section
variable {P : Program} {w : World} {K : PySem.W.Frag} {mg : Str → Option Value} {base : Heap} {cM cP cS : Addr} (T : Txt K mg cM cP cS)
include T
theorem c__law_draw : CalD P w K mg base 1 "_law_draw" sp_draw [] := by
  obtain ⟨f, fd, F, hm⟩ := T.d__law_draw
  refine CalD.of F hm (F.binds (ps := ["_law_pot_here", "_law_many"]) fun _ _ _ _ _ _ us hl => match us, hl with | [_, _], _ => rfl) (F.ok sc__law_draw (fun vs H Q E h => ?_) (fun cdv A outer s H vs Q E hr h => ?_))
  · obtain ⟨p, many, e, _⟩ := h
    rw [e]
    rfl
  · obtain ⟨p, many, rfl, hp, h0, h1, k⟩ := h
    obtain ⟨a, b, hl, ha, hb, hb2⟩ := hp
    refine ⟨_, (pss_cons (ps_if (pt_cmpR op_gt (pe_ix ix_list (pv 0) pe_int (fun _ _ => rfl)) pe_int (nomark _)) (pss_cons (ps_asg (pe_callB call_divmod (by rfl) T.g_divmod (by decide +kernel) (pa_cons (pe_ix ix_list (pv 0) pe_int (fun _ _ => rfl)) (pa_cons (pv 1) pa_nil))) (pg_tup (by rfl) (pgs_cons (pg_sub (pv 0) pe_int set_list) (pgs_cons (pg_name (i := 2) sc__law_draw.nd rfl (Or.inl rfl)) pgs_nil))))
      (pss_one (ps_ret (pv 2)))) pss_nil)
      (pss_cons (ps_asg (pe_op op_mod (pe_callTy call_int1 (by rfl) T.g_int (by decide +kernel) (pa_cons (pe_op op_add (pe_op op_mul (pe_ix ix_list (pv 0) pe_int (fun _ _ => rfl)) pe_int) pe_int) pa_nil)) pe_int) (pg_sub (pv 0) pe_int set_list))
      (pss_one (ps_ret (pe_op op_mod (pe_callTy call_int1 (by rfl) T.g_int (by decide +kernel) (pa_cons (pe_op op_fdiv (pe_op op_mod (pe_callTy call_int1 (by rfl) T.g_int (by decide +kernel) (pa_cons (pe_op op_mul (pe_ix ix_list (pv 0) pe_int (fun _ _ => rfl)) (pe_ix ix_list (pv 0) pe_int (fun _ _ => rfl))) pa_nil)) pe_int) pe_int) pa_nil)) (pv 1)))))), ?_⟩
    refine ⟨_, rfl, p, _, _, _, rfl, rfl, sq_at hl, rfl, ?_⟩
    refine ⟨_, _, rfl, rfl, _, rfl, ?_⟩
    by_cases hp : a > 0
    · rw [decide_eq_true hp]
      refine iteT ?_
      refine ⟨_, rfl, p, _, _, _, rfl, rfl, sq_at hl, rfl, _, rfl, a, many, rfl, ⟨h0, by omega⟩, fun t ht => ?_⟩
      have htp : t ≠ p := fun e => by
        rw [e, hl] at ht
        cases ht
      have hl1 : (upd H t (.tup [.int (a / many), .int (a % many)])) p = some (.lst [.int a, .int b]) := (upd_ne fun e => htp e.symm).trans hl
      refine ⟨t, _, rfl, st_at upd_same, rfl, _, _, rfl, ?_⟩
      refine ⟨_, rfl, p, _, 0, 0, rfl, rfl, hl1, rfl, ?_⟩
      refine ⟨_, _, rfl, rfl, ?_⟩
      refine ⟨_, rfl, ?_⟩
      refine k _ _ (Int.emod_nonneg _ (by omega)) (Int.emod_lt_of_pos _ h0) (KpP.trans (Same.kp (Same.new ht)) KpP.set) ⟨a / many, b, upd_same, Int.ediv_nonneg ha (by omega), hb, hb2⟩
    · rw [decide_eq_false hp]
      refine iteF ?_
      have m0 : 0 ≤ (b * 48271 + 30011) % 2147483629 := Int.emod_nonneg _ (by omega)
      have m1 : (b * 48271 + 30011) % 2147483629 < 2147483629 := Int.emod_lt_of_pos _ (by omega)
      refine ⟨_, rfl, p, _, _, .int b, rfl, rfl, sq_at hl, rfl, _, _, rfl, rfl, .inr ⟨by decide, by decide⟩, _, _, rfl, rfl, .inl ⟨_, rfl, _, _, rfl, rfl, (show (0:Int) < 2147483629 by omega), ?_⟩⟩
      refine ⟨_, rfl, p, _, 1, 1, rfl, rfl, hl, rfl, ?_⟩
      have e1 : (upd H p (.lst ([V.int a, V.int b].set 1 (V.int ((b * 48271 + 30011) % 2147483629))))) p = some (.lst [.int a, .int ((b * 48271 + 30011) % 2147483629)]) := upd_same
      refine ⟨_, rfl, p, _, _, _, rfl, rfl, sq_at e1, rfl, ?_⟩
      refine ⟨_, rfl, p, _, _, _, rfl, rfl, sq_at e1, rfl, _, _, rfl, rfl, .inr ⟨by omega, by omega⟩, .inl ⟨_, rfl, ?_⟩⟩
      refine ⟨_, _, rfl, rfl, (show (0:Int) < 2147483587 by omega), _, _, rfl, rfl, ⟨by omega, by omega⟩, .inl ⟨_, rfl, _, rfl, _, _, rfl, rfl, h0, ?_⟩⟩
      exact k _ _ (Int.emod_nonneg _ (by omega)) (Int.emod_lt_of_pos _ h0) KpP.set ⟨a, _, upd_same, ha, m0, by omega⟩
theorem c__law_shuffled : CalD P w K mg base 2 "_law_shuffled" sp_shuffled [] := by
  have c__law_draw := c__law_draw (P := P) (w := w) (base := base) T
  obtain ⟨f, fd, F, hm⟩ := T.d__law_shuffled
  refine CalD.of F hm (F.binds (ps := ["_law_pot_here", "_law_some"]) fun _ _ _ _ _ _ us hl => match us, hl with | [_, _], _ => rfl) (F.ok sc__law_shuffled (fun vs H Q E h => ?_) (fun cdv A outer s H vs Q E hr h => ?_))
  · obtain ⟨p, a, xs, e, _⟩ := h
    rw [e]
    rfl
  · obtain ⟨p, a, xs, rfl, hp, ha, hlen, k⟩ := h
    refine ⟨_, (pss_cons (ps_par (i := 2) (j := 3) (by rfl) sc__law_shuffled.nd rfl rfl (by decide) rfl rfl (pa_cons (pe_callTy call_list_of (by rfl) T.g_list (by decide +kernel) (pa_cons (pv 1) pa_nil)) (pa_cons (pe_lst pa_nil) pa_nil)) (by rfl))
      (pss_cons (ps_while PassesOwn.never (pt_cmpR (op_neD hr.units) (pv 2) (pe_lst pa_nil) (nomark _)) (pss_one (ps_expr (pe_bm PySem.F.plainAttrs_list PySem.F.slot_list_append PySem.F.type_list_append mt_append (pv 3) (pa_cons (pe_bm PySem.F.plainAttrs_list PySem.F.slot_list_pop PySem.F.type_list_pop mt_popAt (pv 2) (pa_cons (pe_d c__law_draw hr (by decide) rfl (pa_cons (pv 0) (pa_cons (pe_callB call_len (by rfl) T.g_len (by decide +kernel) (pa_cons (pv 2) pa_nil)) pa_nil))) pa_nil)) pa_nil)))))
      (pss_one (ps_ret (pv 3))))), ?_⟩
    refine ⟨_, rfl, a, LI xs, rfl, .inl (sq_at ha), fun l hl => ?_⟩
    have nl := PotAt.ne hp hl
    have hp1 := hp.same (Same.new (o := .lst (LI xs)) hl)
    have el : (upd H l (.lst (LI xs))) l = some (.lst (LI xs)) := upd_same
    have k1 : KpP p H (upd H l (.lst (LI xs))) := Same.kp (Same.new hl)
    generalize upd H l (.lst (LI xs)) = H1 at *
    refine ⟨small_len (show 0 ≤ 1000000 by omega), fun m hm => ?_⟩
    have nm := PotAt.ne hp1 hm
    have nml : m ≠ l := fun e => by
      rw [e, el] at hm
      cases hm
    have hm0 : H m = none := by
      cases e : H m with
      | none => rfl
      | some u =>
        have := k1 m u nm e
        rw [hm] at this
        cases this
    have hp2 := hp1.same (Same.new (o := .lst []) hm)
    refine ⟨_, _, rfl, ?_⟩
    refine while_by (fun σ H' => KpP p H H' ∧ PotAt H' p ∧ ∃ zs ws, H' l = some (.lst (LI zs)) ∧ H' m = some (.lst (LI ws)) ∧ (ws ++ zs).Perm xs ∧ σ = [some (.ref p), some (.ref a), some (.ref l), some (.ref m)]) (fun σ H' => match H' l with | some (.lst zs) => zs.length | _ => 0) ⟨KpP.same k1 (Same.new hm), hp2, xs, [], (upd_ne fun e => nml e.symm).trans el, upd_same, List.Perm.refl _, rfl⟩ ?_ ?_
    · rintro σ H' ⟨kp, hp', zs, ws, ez, ew, pm, rfl⟩
      refine ⟨_, rfl, small_len (show 0 ≤ 1000000 by omega), fun t ht => ?_⟩
      generalize hg : upd _ _ _ = H2
      have s2 := newS hg ht
      have e2 := newE hg
      clear hg
      refine ⟨_, _, dp_ints (sq_at (s2 _ _ ez)), dp_ints (ns := []) (sq_at e2), shaped_ints _, shaped_ints _, ?_⟩
      rw [eqv_ints]
      refine ⟨_, rfl, ?_⟩
      have lp := pm.length_eq
      rw [List.length_append] at lp
      by_cases hz : zs = []
      · subst hz
        refine iteNS rfl ?_
        refine ⟨_, rfl, ?_⟩
        rw [List.append_nil] at pm
        exact k m ws H2 (kp.same s2) (hp'.same s2) hm0 (s2 _ _ ew) pm
      · have hzl : 0 < zs.length := List.length_pos_iff.mpr hz
        rw [decide_eq_false hz]
        refine iteT ?_
        refine ⟨_, rfl, tyl (sq_at (s2 _ _ ew)), _, rfl, tyl (sq_at (s2 _ _ ez)), _, rfl, _, rfl, _, zs.length, rfl, .inl ⟨_, sq_at (s2 _ _ ez), (List.length_map ..).symm⟩, p, _, rfl, hp'.same s2, by omega, by omega, fun d H3 d0 d1 k3 hp3 => ?_⟩
        have e3 := k3 _ _ nl (s2 _ _ ez)
        have w3 := k3 _ _ nm (s2 _ _ ew)
        have hdl : d.toNat < zs.length := by omega
        refine ⟨l, _, d, d.toNat, .int zs[d.toNat], rfl, rfl, e3, by omega, by omega, ?_, ?_, ?_⟩
        · rw [List.length_map]
          show seqIndex? d zs.length = some d.toNat
          have h1 : ¬ d < 0 := by omega
          have h2 : d < (zs.length : Int) := d1
          unfold seqIndex?
          simp [h1, h2, d0]
        · show (zs.map V.int)[d.toNat]? = _
          rw [List.getElem?_map, List.getElem?_eq_getElem hdl]
          rfl
        · refine ⟨m, LI ws, _, rfl, rfl, (upd_ne nml).trans w3, small_lt (by rw [List.length_map]; omega), ?_⟩
          have er : (LI zs).eraseIdx d.toNat = LI (zs.eraseIdx d.toNat) := by
            show (zs.map V.int).eraseIdx d.toNat = (zs.eraseIdx d.toNat).map V.int
            exact erase_map V.int zs d.toNat
          rw [er]
          refine ⟨⟨?_, ?_, zs.eraseIdx d.toNat, ws ++ [zs[d.toNat]], (upd_ne fun e => nml e.symm).trans upd_same, ?_, ?_, rfl⟩, ?_⟩
          · exact KpP.mut (KpP.mut ((kp.same s2).trans k3) hl) hm0
          · exact PotAt.put (PotAt.put hp3 nl) nm
          · rw [upd_same]
            show some (HO.lst (ws.map V.int ++ [V.int zs[d.toNat]])) = some (HO.lst ((ws ++ [zs[d.toNat]]).map V.int))
            rw [List.map_append]
            rfl
          · refine List.Perm.trans ?_ pm
            rw [List.append_assoc]
            refine List.Perm.append_left ws ?_
            exact erase_perm' zs _ _ (List.getElem?_eq_getElem hdl)
          · rw [(upd_ne fun e => nml e.symm).trans upd_same, ez]
            show ((zs.eraseIdx d.toNat).map V.int).length < (zs.map V.int).length
            rw [List.length_map, List.length_map, List.length_eraseIdx_of_lt hdl]
            omega
    · rintro σ H' Q1 Q2 hq ⟨v, e1, h1, h2⟩
      exact ⟨v, e1, h1, fun t ht => by
        obtain ⟨dd, ee, q1, q2, q3, q4, b, q5, q6⟩ := h2 t ht
        exact ⟨dd, ee, q1, q2, q3, q4, b, q5, hq _ _ q6⟩⟩
theorem c__law_table : CalD P w K mg base 3 "_law_table" sp_table [] := by
  have c__law_draw := c__law_draw (P := P) (w := w) (base := base) T
  have c__law_shuffled := c__law_shuffled (P := P) (w := w) (base := base) T
  obtain ⟨f, fd, F, hm⟩ := T.d__law_table
  refine CalD.of F hm (F.binds (ps := ["_law_pot_here", "_law_many"]) fun _ _ _ _ _ _ us hl => match us, hl with | [_, _], _ => rfl) (F.ok sc__law_table (fun vs H Q E h => ?_) (fun cdv A outer s H vs Q E hr h => ?_))
  · obtain ⟨p, m, e, _⟩ := h
    rw [e]
    rfl
  · obtain ⟨p, m, rfl, hp, h0, h1, k⟩ := h
    refine ⟨_, (pss_cons (ps_par (i := 2) (j := 3) (by rfl) sc__law_table.nd rfl rfl (by decide) rfl rfl (pa_cons (pe_d c__law_shuffled hr (by decide) rfl (pa_cons (pv 0) (pa_cons (pe_listRg rfl (by rfl) T.g_list (prg_1 (by rfl) T.g_range (pv 1))) pa_nil))) (pa_cons (pe_lst pa_nil) pa_nil)) (by rfl))
      (pss_cons (ps_set (i := 4) sc__law_table.nd rfl (Or.inl rfl) (pe_d c__law_draw hr (by decide) rfl (pa_cons (pv 0) (pa_cons pe_int pa_nil))))
      (pss_cons (ps_for PassesOwn.never rfl (pi_range1 (by rfl) T.g_range (pa_cons (pv 1) pa_nil)) (pg_name (i := 5) sc__law_table.nd rfl (Or.inl rfl)) (pss_one (ps_expr (pe_bm PySem.F.plainAttrs_list PySem.F.slot_list_append PySem.F.type_list_append mt_append (pv 3) (pa_cons (pe_op op_add (pe_op op_sub (pe_ix ix_list (pv 2) (pv 5) (fun _ _ => rfl)) (pv 5)) (pe_op op_mul (pe_op op_mul (pv 1) (pe_op op_sub (pe_d c__law_draw hr (by decide) rfl (pa_cons (pv 0) (pa_cons pe_int pa_nil))) pe_int)) (pv 4))) pa_nil)))))
      (pss_one (ps_ret (pv 3)))))), ?_⟩
    refine ⟨_, rfl, _, rfl, m, rfl, ⟨by omega, by omega, by omega, by omega, by omega⟩, fun l hl => ?_⟩
    rw [rgV_LI]
    generalize hg : upd _ _ _ = H1
    have s1 := newS hg hl
    have e1 := newE hg
    clear hg
    refine ⟨p, l, _, rfl, hp.same s1, e1, by rw [List.length_map, List.length_range]; omega, fun q gs H2 k2 hp2 hq e2 pm => ?_⟩
    have gl : gs.length = m := by rw [pm.length_eq, List.length_map, List.length_range]
    refine ⟨small_len (show 0 ≤ 1000000 by omega), fun t ht => ?_⟩
    have nt := PotAt.ne hp2 ht
    have hq0 : H q = none := s1.free hq
    have ntq : t ≠ q := fun e => by
      rw [e, e2] at ht
      cases ht
    have ht0 : H t = none := by
      cases e : H t with
      | none => rfl
      | some u =>
        have := k2 t u nt (s1 _ _ e)
        rw [ht] at this
        cases this
    have kp2 : KpP p H H2 := (Same.kp s1).trans k2
    have nqp : q ≠ p := PotAt.ne (hp.same s1) hq
    generalize hg : upd _ _ _ = H3
    have s3 := newS hg ht
    have e3 := newE hg
    clear hg
    refine ⟨_, _, rfl, ?_⟩
    refine ⟨_, rfl, p, 2, rfl, hp2.same s3, by omega, by omega, fun near H4 n0 n1 k4 hp4 => ?_⟩
    refine ⟨_, rfl, m, rfl, by omega, by omega, ?_⟩
    have e4 := k4 _ _ nqp (s3 _ _ e2)
    have t4 := k4 _ _ nt e3
    refine for_range (fun i σ H' => KpP p H H' ∧ PotAt H' p ∧ H' q = some (.lst (LI gs)) ∧ ∃ us v, H' t = some (.lst (LI us)) ∧ us.length = i ∧ (∀ j, j < i → ∃ c : Int, -2 ≤ c ∧ c ≤ 2 ∧ us.getD j 0 = gs.getD j 0 - j + m * c) ∧ σ = [some (.ref p), some (.int m), some (.ref q), some (.ref t), some (.int near), v]) ⟨(kp2.same s3).trans k4, hp4, e4, [], none, t4, rfl, fun j hj => (Nat.not_lt_zero _ hj).elim, rfl⟩ ?_ ?_
    · rintro i σ H' hi ⟨kp, hp', eq, us, v, et, hlen, hus, rfl⟩
      have hig : i < gs.length := by omega
      refine ⟨_, rfl, tyl (sq_at et), ?_⟩
      refine ⟨_, rfl, _, rfl, q, _, _, .int gs[i], rfl, rfl, sq_at eq, ?_, _, rfl, _, _, rfl, rfl, ?_⟩
      · rw [Int.zero_add]
        exact atI_LI (List.getElem?_eq_getElem hig)
      refine ⟨_, rfl, _, rfl, p, 5, rfl, hp', by omega, by omega, fun c H5 c0 c1 k5 hp5 => ?_⟩
      have et5 := k5 _ _ nt et
      have eq5 := k5 _ _ nqp eq
      refine ⟨_, _, rfl, rfl, _, _, rfl, rfl, .inl ⟨by omega, by omega⟩, _, rfl, _, _, rfl, rfl, .inr ⟨by omega, by omega⟩, _, _, rfl, rfl, ?_⟩
      refine ⟨t, LI us, _, rfl, rfl, et5, small_lt (by rw [List.length_map]; omega), ?_⟩
      refine ⟨KpP.mut (kp.trans k5) ht0, PotAt.put hp5 nt, (upd_ne fun e => ntq e.symm).trans eq5, us ++ [gs[i] - (0 + (i : Int)) + m * (c - 2) * near], _, ?_, ?_, ?_, rfl⟩
      · rw [upd_same]
        show _ = some (HO.lst ((us ++ [gs[i] - (0 + (i : Int)) + m * (c - 2) * near]).map V.int))
        rw [List.map_append]
        rfl
      · rw [List.length_append, hlen]
        rfl
      · intro j hj
        by_cases hji : j < i
        · obtain ⟨c', h1, h2, h3⟩ := hus j hji
          refine ⟨c', h1, h2, ?_⟩
          rw [← h3, List.getD_eq_getElem?_getD, List.getD_eq_getElem?_getD, List.getElem?_append_left (by omega)]
        · obtain rfl : j = i := by omega
          refine ⟨(c - 2) * near, ?_, ?_, ?_⟩
          · rcases (show near = 0 ∨ near = 1 by omega) with rfl | rfl <;> omega
          · rcases (show near = 0 ∨ near = 1 by omega) with rfl | rfl <;> omega
          · rw [List.getD_eq_getElem?_getD, List.getElem?_append_right (by omega), hlen, Nat.sub_self, List.getD_eq_getElem?_getD, List.getElem?_eq_getElem hig]
            show gs[j] - (0 + (j : Int)) + m * (c - 2) * near = gs[j] - (j : Int) + m * ((c - 2) * near)
            rw [Int.mul_assoc, Int.zero_add]
    · rintro σ H' ⟨kp, hp', eq, us, v, et, hlen, hus, rfl⟩
      refine ⟨_, rfl, k t us H' kp hp' ht0 et ⟨by omega, ⟨gs, pm, fun i hi => (hus i (by omega)).imp fun c h => h.2.2⟩, fun o ho => ?_⟩⟩
      obtain ⟨j, hj, e⟩ := List.getElem_of_mem ho
      obtain ⟨c, c1, c2, ec⟩ := hus j (by omega)
      rw [map_getD hj, e] at ec
      have b := gs_bnd pm (j := j) (by omega)
      have h1 : (m : Int) * c ≤ m * 2 := Int.mul_le_mul_of_nonneg_left c2 (by omega)
      have h2 : (m : Int) * (-2) ≤ m * c := Int.mul_le_mul_of_nonneg_left c1 (by omega)
      omega
theorem c__law_pot : CalD P w K mg base 1 "_law_pot" (sp_pot K) [] := by
  obtain ⟨f, fd, F, hm⟩ := T.d__law_pot
  refine CalD.of F hm (F.binds (ps := ["_law_script", "_law_k"]) fun _ _ _ _ _ _ us hl => match us, hl with | [_, _], _ => rfl) (F.ok sc__law_pot (fun vs H Q E h => ?_) (fun cdv A outer s H vs Q E hr h => ?_))
  · obtain ⟨a, ns, i, e, _⟩ := h
    rw [e]
    rfl
  · obtain ⟨a, ns, i, rfl, ha, hl, hi, k⟩ := h
    refine ⟨_, (pss_cons (ps_set (i := 2) sc__law_pot.nd rfl (Or.inl rfl) (pe_op op_add (pe_op op_mul pe_int (pv 1)) pe_int))
      (pss_cons (ps_if (pt_cmpR op_lt (pv 1) (pe_callB call_len (by rfl) T.g_len (by decide +kernel) (pa_cons (pv 0) pa_nil)) (nomark _)) (pss_one (ps_set (i := 2) sc__law_pot.nd rfl (Or.inl rfl) (pe_callB call_abs (by rfl) T.g_abs (by decide +kernel) (pa_cons (pe_ix ix_list (pv 0) (pv 1) (fun _ _ => rfl)) pa_nil)))) pss_nil)
      (pss_one (ps_ret (pe_lst (pa_cons (pe_callB (call_max2 rfl) (by rfl) T.g_max (by decide +kernel) (pa_cons pe_int (pa_cons (pe_op op_sub (pv 2) (pe_op op_pow pe_int pe_int)) pa_nil))) (pa_cons (pe_op op_add (pe_op op_mod (pe_callTy call_int1 (by rfl) T.g_int (by decide +kernel) (pa_cons (pe_op op_add (pe_op op_add (pe_op op_mul (pe_op op_mod (pe_callTy call_int1 (by rfl) T.g_int (by decide +kernel) (pa_cons (pv 2) pa_nil)) pe_int) pe_int) (pe_op op_mul pe_int (pv 1))) pe_int) pa_nil)) pe_int) pe_int) pa_nil))))))), ?_⟩
    refine ⟨_, rfl, _, _, rfl, rfl, .inl ⟨by decide, by decide⟩, _, _, rfl, rfl, ?_⟩
    have hlen : (LI ns).length = ns.length := List.length_map ..
    refine ⟨_, rfl, _, rfl, _, ns.length, rfl, .inl ⟨_, ha, hlen.symm⟩, _, _, rfl, rfl, _, rfl, ?_⟩
    by_cases hk : (i : Int) < (ns.length : Int)
    · rw [decide_eq_true hk]
      refine iteT ?_
      have hik : i < ns.length := by omega
      refine ⟨_, rfl, _, rfl, a, _, _, _, rfl, rfl, ha, atI_LI (List.getElem?_eq_getElem hik), _, rfl, ?_⟩
      refine ⟨_, rfl, _, _, rfl, rfl, ⟨by decide, by decide, by decide⟩, _, _, rfl, rfl, _, _, rfl, ?_⟩
      refine ⟨_, rfl, .inl ⟨_, rfl, _, _, rfl, rfl, (show (0:Int) < 2147483587 by omega), _, _, rfl, rfl, .inr ⟨by decide, by decide⟩, _, rfl, _, _, rfl, rfl, .inl ⟨by decide, by decide⟩, _, _, rfl, rfl, _, _, rfl, rfl, .inl ⟨_, rfl, ?_⟩⟩⟩
      refine ⟨_, _, rfl, rfl, (show (0:Int) < 2147483629 by omega), _, _, rfl, rfl, small_len (show 2 ≤ 1000000 by omega), fun q hq => ?_⟩
      generalize hg : upd _ _ _ = H1
      have s1 := newS hg hq
      have e1 := newE hg
      clear hg
      exact k q H1 s1 hq ⟨_, _, e1, by split <;> omega, by omega, by omega⟩
    · rw [decide_eq_false hk]
      refine iteF ?_
      refine ⟨_, rfl, _, _, rfl, rfl, ⟨by decide, by decide, by decide⟩, _, _, rfl, rfl, _, _, rfl, ?_⟩
      refine ⟨_, rfl, .inl ⟨_, rfl, _, _, rfl, rfl, (show (0:Int) < 2147483587 by omega), _, _, rfl, rfl, .inr ⟨by decide, by decide⟩, _, rfl, _, _, rfl, rfl, .inl ⟨by decide, by decide⟩, _, _, rfl, rfl, _, _, rfl, rfl, .inl ⟨_, rfl, ?_⟩⟩⟩
      refine ⟨_, _, rfl, rfl, (show (0:Int) < 2147483629 by omega), _, _, rfl, rfl, small_len (show 2 ≤ 1000000 by omega), fun q hq => ?_⟩
      generalize hg : upd _ _ _ = H1
      have s1 := newS hg hq
      have e1 := newE hg
      clear hg
      exact k q H1 s1 hq ⟨_, _, e1, by split <;> omega, by omega, by omega⟩
end
end My

end
section
set_option linter.all false
set_option maxRecDepth 100000
set_option maxHeartbeats 1000000
/-! what a stream holds: plain laws -/
namespace My
open PySem PySem.Spec PyProof.Rows L2
/-- a table with its delay -/
structure Gd (vs : List Int) (far : Int) : Prop where
  pos : 0 < vs.length
  ge : ∀ x, x ≤ atT vs x
  le : ∀ x, atT vs x ≤ x + far
  inj : ∀ x y, atT vs x = atT vs y → x = y
  sur : ∀ y, ∃ x, atT vs x = y
def pr (vs : List Int) (G : Nat → V) (i : Nat) : Int × V := (atT vs (i : Int), G i)
def wt (vs : List Int) (n : Nat) : List Nat := (List.range n).filter fun (i : Nat) => decide ((n : Int) ≤ atT vs (i : Int))
def wtA (vs : List Int) (n : Nat) : List Nat := (List.range (n + 1)).filter fun (i : Nat) => decide ((n : Int) ≤ atT vs (i : Int))
def kvN (vs : List Int) (G : Nat → V) (n : Nat) : List (Int × V) := (wt vs n).map (pr vs G)
def srcN (vs : List Int) (n m : Nat) : Option Nat := (List.range n).find? fun (i : Nat) => decide (atT vs (i : Int) = (m : Int))
def oV (G : Nat → V) (gp : V) : Option Nat → V
  | none => gp
  | some i => G i
def hit (vs : List Int) (n : Nat) : Nat := if (srcN vs (n + 1) n).isSome then 1 else 0
section
variable {vs : List Int} {far : Int} {G : Nat → V} {gp : V} (g : Gd vs far)
include g
theorem wtA_eq (n : Nat) : wtA vs n = wt vs n ++ [n] := by
  unfold wtA wt
  rw [List.range_succ, List.filter_append]
  congr 1
  have h : decide ((n : Int) ≤ atT vs (n : Int)) = true := decide_eq_true (g.ge n)
  simp [List.filter_cons, h]
theorem wt_succ (n : Nat) : wt vs (n + 1) = (wtA vs n).filter fun (i : Nat) => decide (atT vs (i : Int) ≠ (n : Int)) := by
  unfold wtA wt
  rw [List.filter_filter]
  refine List.filter_congr fun i _ => ?_
  by_cases h1 : (n : Int) ≤ atT vs (i : Int) <;> by_cases h2 : atT vs (i : Int) = (n : Int) <;> simp [h1, h2] <;> omega
theorem step_put (n : Nat) : putK (KV (kvN vs G n)) (.inl (atT vs (n : Int))) (G n) = KV ((wtA vs n).map (pr vs G)) := by
  have hn : valV (KV (kvN vs G n)) (.inl (atT vs (n : Int))) = none := by
    refine valV_of_none fun p hp e => ?_
    obtain ⟨q, hq, rfl⟩ := List.mem_map.mp hp
    obtain ⟨i, hi, rfl⟩ := List.mem_map.mp hq
    have h1 := List.mem_range.mp (List.mem_filter.mp hi).1
    have := g.inj _ _ (Sum.inl.inj e)
    omega
  rw [putK_new _ hn, wtA_eq g]
  unfold KV kvN
  rw [List.map_append, List.map_append]
  rfl
theorem step_drop (n : Nat) : dropK (KV ((wtA vs n).map (pr vs G))) (.inl (n : Int)) = KV (kvN vs G (n + 1)) := by
  unfold dropK KV kvN
  rw [List.map_map, List.map_map, List.filter_map, wt_succ g]
  congr 1
  refine List.filter_congr fun i _ => ?_
  show decide ((Sum.inl (atT vs (i : Int)) : Key) ≠ Sum.inl (n : Int)) = decide (atT vs (i : Int) ≠ (n : Int))
  by_cases h : atT vs (i : Int) = (n : Int)
  · rw [decide_eq_false, decide_eq_false]
    · simpa using h
    · intro e
      exact e (congrArg Sum.inl h)
  · rw [decide_eq_true, decide_eq_true]
    · exact h
    · intro e
      exact h (Sum.inl.inj e)
omit g in
theorem val_src (A : List Nat) (n : Nat) : (valV (KV (A.map (pr vs G))) (.inl (n : Int))).getD gp = oV G gp (A.find? fun (i : Nat) => decide (atT vs (i : Int) = (n : Int))) := by
  induction A with
  | nil => rfl
  | cons i A ih =>
    by_cases h : atT vs (i : Int) = (n : Int)
    · rw [List.find?_cons, decide_eq_true h]
      have : valV (KV ((i :: A).map (pr vs G))) (.inl (n : Int)) = some (G i) := valV_pos (congrArg Sum.inl h)
      rw [this]
      rfl
    · rw [List.find?_cons, decide_eq_false h]
      show _ = oV G gp (A.find? _)
      rw [← ih]
      have : valV (KV ((i :: A).map (pr vs G))) (.inl (n : Int)) = valV (KV (A.map (pr vs G))) (.inl (n : Int)) := valV_neg fun e => h (Sum.inl.inj e)
      rw [this]
theorem step_val (n : Nat) : (valV (KV ((wtA vs n).map (pr vs G))) (.inl (n : Int))).getD gp = oV G gp (srcN vs (n + 1) n) := by
  rw [val_src]
  unfold wtA srcN
  rw [List.find?_filter]
  congr 2
  funext i
  by_cases h2 : atT vs (i : Int) = (n : Int)
  · have : (n : Int) ≤ atT vs (i : Int) := by omega
    simp [h2]
  · simp [h2]
theorem far0 : 0 ≤ far := by
  have h1 := g.ge 0
  have h2 := g.le 0
  omega
end
end My

end
section
set_option linter.all false
set_option maxRecDepth 100000
set_option maxHeartbeats 1000000
/-! what a stream holds, what it hands out: plain laws -/
namespace My
open PySem PySem.Spec PyProof.Rows L2
section
variable {vs : List Int} {far : Int} {G : Nat → V} {gp : V} (g : Gd vs far)
include g
theorem src_iff {n m i : Nat} : srcN vs n m = some i ↔ i < n ∧ atT vs (i : Int) = (m : Int) := by
  constructor
  · intro h
    exact ⟨List.mem_range.mp (List.mem_of_find?_eq_some h), of_decide_eq_true (List.find?_some (p := fun (i : Nat) => decide (atT vs (i : Int) = (m : Int))) h)⟩
  · rintro ⟨h1, h2⟩
    have : ((List.range n).find? fun (i : Nat) => decide (atT vs (i : Int) = (m : Int))).isSome = true := List.find?_isSome.mpr ⟨i, List.mem_range.mpr h1, decide_eq_true h2⟩
    obtain ⟨j, hj⟩ := Option.isSome_iff_exists.mp this
    have h3 := of_decide_eq_true (List.find?_some (p := fun (i : Nat) => decide (atT vs (i : Int) = (m : Int))) hj)
    have h4 := g.inj _ _ (h3.trans h2.symm)
    have : j = i := by omega
    rw [← this]
    exact hj
theorem src_ext {n n' m : Nat} (h : ∀ i : Nat, atT vs (i : Int) = (m : Int) → (i < n ↔ i < n')) : srcN vs n m = srcN vs n' m := by
  refine Option.ext fun i => ?_
  rw [src_iff g, src_iff g]
  constructor
  · rintro ⟨h1, h2⟩
    exact ⟨(h i h2).mp h1, h2⟩
  · rintro ⟨h1, h2⟩
    exact ⟨(h i h2).mpr h1, h2⟩
theorem src_low {N m : Nat} (h : m < N) : srcN vs (m + 1) m = srcN vs N m := src_ext g fun i hi => by
  have := g.ge (i : Int)
  omega
theorem val_rest {N m : Nat} (h : N ≤ m) : (valV (KV (kvN vs G N)) (.inl (m : Int))).getD gp = oV G gp (srcN vs N m) := by
  unfold kvN
  rw [val_src]
  congr 1
  unfold wt srcN
  rw [List.find?_filter]
  congr 1
  funext i
  by_cases h2 : atT vs (i : Int) = (m : Int)
  · have : (N : Int) ≤ atT vs (i : Int) := by omega
    simp [h2, h]
  · simp [h2]
/-- all that the stream hands out -/
def outN (vs : List Int) (N L : Nat) : List (Option Nat) := (List.range L).map fun m => srcN vs N m
theorem out_cat {N : Nat} {last : Int} (h : (N : Int) - 1 ≤ last) :
    ((List.range N).map fun (m : Nat) => oV G gp (srcN vs (m + 1) m)) ++ ((List.range (last + 1 - (N : Int)).toNat).map fun (i : Nat) => (valV (KV (kvN vs G N)) (.inl ((N : Int) + (i : Int)))).getD gp) = (outN vs N (last + 1).toNat).map (oV G gp) := by
  unfold outN
  rw [List.map_map]
  have e : (last + 1).toNat = N + (last + 1 - (N : Int)).toNat := by omega
  rw [e, List.range_add, List.map_append, List.map_map]
  congr 1
  · refine List.map_congr_left fun m hm => ?_
    rw [src_low g (List.mem_range.mp hm)]
    rfl
  · refine List.map_congr_left fun i _ => ?_
    have := val_rest (G := G) (gp := gp) g (N := N) (m := N + i) (by omega)
    rw [show ((N + i : Nat) : Int) = (N : Int) + (i : Int) by omega] at this
    rw [this]
    rfl
theorem kv_key {N : Nat} {y : Int} : y ∈ (kvN vs G N).map (·.1) ↔ ∃ i : Nat, i < N ∧ atT vs (i : Int) = y ∧ (N : Int) ≤ y := by
  unfold kvN wt
  rw [List.map_map, List.mem_map]
  constructor
  · rintro ⟨i, hi, rfl⟩
    obtain ⟨h1, h2⟩ := List.mem_filter.mp hi
    exact ⟨i, List.mem_range.mp h1, rfl, of_decide_eq_true h2⟩
  · rintro ⟨i, h1, rfl, h2⟩
    exact ⟨i, List.mem_filter.mpr ⟨List.mem_range.mpr h1, decide_eq_true h2⟩, rfl⟩
theorem kv_nodup (N : Nat) : ((kvN vs G N).map (·.1)).Nodup := by
  unfold kvN wt
  rw [List.map_map]
  refine List.pairwise_map.mpr ?_
  refine List.Pairwise.imp (R := fun a b => a ≠ b) (fun {a b} (h : a ≠ b) => ?_) (List.Pairwise.filter _ List.nodup_range)
  intro e
  have e2 : atT vs (a : Int) = atT vs (b : Int) := e
  have := g.inj _ _ e2
  omega
theorem last_far {N : Nat} {last : Int} (h1 : last ∈ ((N : Int) - 1) :: (kvN vs G N).map (·.1)) : last ≤ (N : Int) - 1 + far := by
  have := far0 g
  rcases List.mem_cons.mp h1 with e | e
  · omega
  · obtain ⟨i, hi, e2, h5⟩ := (kv_key g).mp e
    have := g.le (i : Int)
    omega
end
end My

end
section
set_option linter.all false
set_option maxRecDepth 100000
set_option maxHeartbeats 1000000
namespace My
section
variable {m : Nat} {us gs : List Int} (hm : 0 < m) (hl : us.length = m) (pm : gs.Perm ((List.range m).map Int.ofNat)) (hc : ∀ i, i < m → ∃ c : Int, us.getD i 0 = gs.getD i 0 - i + m * c)
include pm hm hl hc
theorem tab_mod (x : Int) : ∃ q, atT us x = m * q + gs.getD (x % (m : Int)).toNat 0 := by
  have m0 : 0 ≤ x % (m : Int) := Int.emod_nonneg _ (by omega)
  have m1 : x % (m : Int) < m := Int.emod_lt_of_pos _ (by omega)
  obtain ⟨c, e⟩ := hc (x % (m : Int)).toNat (by omega)
  refine ⟨x / m + c, ?_⟩
  unfold atT
  rw [hl, e, Int.mul_add]
  have := Int.mul_ediv_add_emod x m
  omega
theorem tab_inj (x y : Int) (e : atT us x = atT us y) : x = y := by
  obtain ⟨q, hq⟩ := tab_mod hm hl pm hc x
  obtain ⟨q', hq'⟩ := tab_mod hm hl pm hc y
  have hx0 : 0 ≤ x % (m : Int) := Int.emod_nonneg _ (by omega)
  have hx1 : x % (m : Int) < m := Int.emod_lt_of_pos _ (by omega)
  have hy0 : 0 ≤ y % (m : Int) := Int.emod_nonneg _ (by omega)
  have hy1 : y % (m : Int) < m := Int.emod_lt_of_pos _ (by omega)
  have b1 := gs_bnd pm (j := (x % (m : Int)).toNat) (by omega)
  have b2 := gs_bnd pm (j := (y % (m : Int)).toNat) (by omega)
  have e2 : gs.getD (x % (m : Int)).toNat 0 = gs.getD (y % (m : Int)).toNat 0 := by
    have h : ∀ (q g : Int), 0 ≤ g → g < m → ((m : Int) * q + g) % m = g := fun q g h0 h1 => by
      rw [Int.add_comm, Int.add_mul_emod_self_left, Int.emod_eq_of_lt h0 h1]
    rw [← h q _ b1.1 b1.2, ← h q' _ b2.1 b2.2, ← hq, ← hq', e]
  have e3 := gs_inj pm (by omega) (by omega) e2
  unfold atT at e
  rw [hl, e3] at e
  omega
theorem tab_sur (y : Int) : ∃ x, atT us x = y := by
  have hy0 : 0 ≤ y % (m : Int) := Int.emod_nonneg _ (by omega)
  have hy1 : y % (m : Int) < m := Int.emod_lt_of_pos _ (by omega)
  obtain ⟨j, hj, e⟩ := gs_sur pm hy0 hy1
  obtain ⟨c, ec⟩ := hc j hj
  refine ⟨(j : Int) + us.length * (y / m - c), ?_⟩
  rw [atT_shift, atT_nat us (by omega), ec, e, hl, Int.mul_sub]
  have := Int.mul_ediv_add_emod y m
  omega
end
theorem TabOf.vt {m : Nat} {us : List Int} (h : TabOf m us) (hm : 0 < m) (hm2 : m ≤ 1000) : VT us := by
  obtain ⟨gs, pm, hc⟩ := h.ex
  exact ⟨by rw [h.len]; exact hm, by rw [h.len]; omega, tab_inj hm h.len pm hc⟩
theorem at_mem {us : List Int} (h : 0 < us.length) (x : Int) : ∃ o ∈ us, atT us x = x + o := by
  have m0 : 0 ≤ x % (us.length : Int) := Int.emod_nonneg _ (by omega)
  have m1 : x % (us.length : Int) < us.length := Int.emod_lt_of_pos _ (by omega)
  have hi : (x % (us.length : Int)).toNat < us.length := by omega
  refine ⟨us[(x % (us.length : Int)).toNat], List.getElem_mem hi, ?_⟩
  unfold atT
  rw [map_getD hi]
/-- with its delay -/
theorem TabOf.gd {m : Nat} {us : List Int} {mx : Int} (h : TabOf m us) (hm : 0 < m) (hx : ∀ o ∈ us, o ≤ mx) : Gd (us.map (· + lateT us)) (mx + lateT us) := by
  obtain ⟨gs, pm, hc⟩ := h.ex
  have hp : 0 < us.length := by rw [h.len]; exact hm
  have e := fun x => atT_map us (lateT us) hp x
  refine ⟨by rw [List.length_map]; exact hp, fun x => ?_, fun x => ?_, fun x y he => ?_, fun y => ?_⟩
  · rw [e]
    obtain ⟨o, ho, eo⟩ := at_mem hp x
    have := late_ge ho
    omega
  · rw [e]
    obtain ⟨o, ho, eo⟩ := at_mem hp x
    have := hx o ho
    omega
  · rw [e, e] at he
    exact tab_inj hm h.len pm hc x y (by omega)
  · obtain ⟨x, hx⟩ := tab_sur hm h.len pm hc (y - lateT us)
    exact ⟨x, by rw [e, hx]; omega⟩
theorem late_small {us : List Int} {b : Int} (hb : 0 ≤ b) (h : ∀ o ∈ us, -b ≤ o) : lateT us ≤ b := by
  rcases (late_fold us 0).2.2 with e | ⟨o, ho, e⟩
  · unfold lateT
    omega
  · have := h o ho
    unfold lateT
    omega
end My

end
section
set_option linter.all false
set_option maxRecDepth 100000
set_option maxHeartbeats 1000000
/-! data: what is shown of a value -/
namespace My
open PySem PySem.Spec PyProof.Rows L2
theorem Same.sq {K : PySem.W.Frag} {H H' : Hp} {a : Addr} {xs : List V} (e : Same H H') (h : SqL K H a xs) : SqL K H' a xs := by
  rcases h with (h | ⟨o, h⟩) | h
  · exact .inl (.inl (e _ _ h))
  · exact .inl (.inr ⟨o, e _ _ h⟩)
  · exact .inr h
mutual
theorem Dp.same {K : PySem.W.Frag} {H H' : Hp} (e : Same H H') : ∀ {v : V} {d : PyData}, Dp K H v d → Dp K H' v d
  | _, _, .non => .non
  | _, _, .bl b => .bl b
  | _, _, .int i => .int i
  | _, _, .str x => .str x
  | _, _, .lst s a => .lst (Same.sq e s) (DpAll.same e a)
  | _, _, .tup s a => .tup (Same.tup e s) (DpAll.same e a)
theorem DpAll.same {K : PySem.W.Frag} {H H' : Hp} (e : Same H H') : ∀ {vs : List V} {ds : List PyData}, DpAll K H vs ds → DpAll K H' vs ds
  | _, _, .nil => .nil
  | _, _, .cons a b => .cons (Dp.same e a) (DpAll.same e b)
end
theorem dpAll_map {K : PySem.W.Frag} {H : Hp} {α : Type} (f : α → V) (g : α → PyData) : ∀ xs : List α, (∀ x ∈ xs, Dp K H (f x) (g x)) → DpAll K H (xs.map f) (xs.map g)
  | [], _ => .nil
  | x :: xs, h => .cons (h x List.mem_cons_self) (dpAll_map f g xs fun y hy => h y (List.mem_cons_of_mem _ hy))
/-- small enough to be shown -/
structure Shw (b k : Nat) (d : PyData) : Prop where
  sh : d.showable = true
  dp : d.depth ≤ k
  lv : d.leavesShort 30 = true
  bk : d.bulk ≤ b
theorem Shw.mono {b b' k k' : Nat} {d : PyData} (h : Shw b k d) (hb : b ≤ b') (hk : k ≤ k') : Shw b' k' d := ⟨h.sh, Nat.le_trans h.dp hk, h.lv, Nat.le_trans h.bk hb⟩
theorem shw_all {b k : Nat} : ∀ ds : List PyData, (∀ d ∈ ds, Shw b k d) → PyData.showableAll ds = true ∧ PyData.depthAll ds ≤ k ∧ PyData.leavesShortAll 30 ds = true ∧ PyData.bulkAll ds ≤ ds.length * (b + 1)
  | [], _ => ⟨by simp only [PyData.showableAll], by simp only [PyData.depthAll]; exact Nat.zero_le _, by simp only [PyData.leavesShortAll], by simp only [PyData.bulkAll]; exact Nat.zero_le _⟩
  | d :: ds, h => by
    obtain ⟨h1, h2, h3, h4⟩ := shw_all ds fun x hx => h x (List.mem_cons_of_mem _ hx)
    have g := h d List.mem_cons_self
    refine ⟨by simp only [PyData.showableAll, g.sh, h1, Bool.and_self], by simp only [PyData.depthAll]; exact Nat.max_le.mpr ⟨g.dp, h2⟩, by simp only [PyData.leavesShortAll, g.lv, h3, Bool.and_self], ?_⟩
    simp only [PyData.bulkAll, List.length_cons]
    have := g.bk
    rw [Nat.succ_mul]
    omega
theorem Shw.list {b k n : Nat} {ds : List PyData} (h : ∀ d ∈ ds, Shw b k d) (hn : ds.length ≤ n) : Shw (n * (b + 1)) (k + 1) (.list ds) := by
  obtain ⟨h1, h2, h3, h4⟩ := shw_all ds h
  refine ⟨by simp only [PyData.showable]; exact h1, by simp only [PyData.depth]; omega, by simp only [PyData.leavesShort]; exact h3, by simp only [PyData.bulk]; exact Nat.le_trans h4 (Nat.mul_le_mul_right _ hn)⟩
theorem Shw.tuple {b k n : Nat} {ds : List PyData} (h : ∀ d ∈ ds, Shw b k d) (hn : ds.length ≤ n) : Shw (n * (b + 1)) (k + 1) (.tuple ds) := by
  obtain ⟨h1, h2, h3, h4⟩ := shw_all ds h
  refine ⟨by simp only [PyData.showable]; exact h1, by simp only [PyData.depth]; omega, by simp only [PyData.leavesShort]; exact h3, by simp only [PyData.bulk]; exact Nat.le_trans h4 (Nat.mul_le_mul_right _ hn)⟩
theorem Shw.int {i : Int} (h : i.natAbs ≤ 100000000000000000000) : Shw 0 0 (.int i) := by
  refine ⟨?_, by simp only [PyData.depth]; exact Nat.le_refl _, ?_, by simp only [PyData.bulk]; exact Nat.le_refl _⟩
  · simp only [PyData.showable, decide_eq_true_eq]
    by_cases h0 : i.natAbs = 0
    · rw [h0]
      decide
    · exact (Nat.log2_lt h0).mpr (Nat.lt_of_le_of_lt h (Nat.lt_of_lt_of_le (m := 2 ^ 70) (by decide) (Nat.pow_le_pow_right (by decide) (by decide))))
  · simp only [PyData.leavesShort, decide_eq_true_eq]
    have e := int_text_length_le10 (a := i) (k := 21) (by decide) (by omega)
    show (Str.ofString (toString i)).length ≤ 30
    rw [PySem.ofString_length]
    omega
theorem Shw.non : Shw 0 0 .none := ⟨by simp only [PyData.showable], by simp only [PyData.depth]; exact Nat.le_refl _, by simp only [PyData.leavesShort], by simp only [PyData.bulk]; exact Nat.le_refl _⟩
theorem Shw.bool (b : Bool) : Shw 0 0 (.bool b) := ⟨by simp only [PyData.showable], by simp only [PyData.depth]; exact Nat.le_refl _, by simp only [PyData.leavesShort], by simp only [PyData.bulk]; exact Nat.le_refl _⟩
theorem Shw.str {x : Str} {b : Nat} (h1 : x.cps.toList.all (fun c => decide (c < 16 ^ 8)) = true) (h2 : x.cps.size ≤ b) : Shw b 0 (.str x) := ⟨by simp only [PyData.showable], by simp only [PyData.depth]; exact Nat.le_refl _, by simp only [PyData.leavesShort]; exact h1, by simp only [PyData.bulk]; exact h2⟩
theorem Shw.fits {b k : Nat} {d : PyData} (h : Shw b k d) (hb : b ≤ 400000) : d.shown.length ≤ sizeLine := by
  have e := PyData.shown_le_bulk 30 (by decide) d h.lv
  have := h.bk
  rw [sizeLine_eq]
  omega
end My

end
section
set_option linter.all false
set_option maxRecDepth 100000
set_option maxHeartbeats 1000000
namespace My
open PySem PySem.Spec PyProof.Rows L2 StX ClX
def sp_choice : Sp := fun vs H Q _ => ∃ (p a : Addr) (xs : List V), vs = [.ref p, .ref a] ∧ PotAt H p ∧ a ≠ p ∧ H a = some (.lst xs) ∧ 0 < xs.length ∧ xs.length ≤ 1000 ∧ ∀ (i : Nat) x H', xs[i]? = some x → KpP p H H' → PotAt H' p → Q x H'
def sp_period : Sp := fun vs H Q _ => ∃ p, vs = [.ref p] ∧ PotAt H p ∧ ∀ (n : Nat) H', 0 < n → n ≤ 60 → KpP p H H' → PotAt H' p → Q (.int (n : Nat)) H'
def sp_drawn : Sp := fun vs H Q _ => ∃ p, vs = [.ref p] ∧ PotAt H p ∧ ∀ t us m H', KpP p H H' → PotAt H' p → H t = none → t ≠ p → H' t = some (.lst (LI us)) → 0 < m → m ≤ 60 → TabOf m us → Q (.ref t) H'
def sp_item (K : PySem.W.Frag) : Sp := fun vs H Q _ => ∃ p, vs = [.ref p] ∧ PotAt H p ∧ ∀ v d H', KpP p H H' → PotAt H' p → (∀ H'', (∀ b u, H b = none → H' b = some u → H'' b = some u) → Dp K H'' v d) → Shw 30 5 d → Q v H'
def sp_leaves : Sp := fun vs H Q _ => ∃ (t : Addr) (us : List Int) (n : Int), vs = [.ref t, .int n] ∧ H t = some (.lst (LI us)) ∧ 0 < us.length ∧ us.length ≤ 2520 ∧ ∀ H', Same H H' → Q (.int (atT us n + lateT us)) H'
section
variable {P : Program} {w : World} {K : PySem.W.Frag} {mg : Str → Option Value} {base : Heap} {cM cP cS : Addr} (T : Txt K mg cM cP cS)
include T
theorem c__law_choice : CalD P w K mg base 2 "_law_choice" sp_choice [] := by
  have c__law_draw := c__law_draw (P := P) (w := w) (base := base) T
  obtain ⟨f, fd, F, hm⟩ := T.d__law_choice
  refine CalD.of F hm (F.binds (ps := ["_law_pot_here", "_law_some"]) fun _ _ _ _ _ _ us hl => match us, hl with | [_, _], _ => rfl) (F.ok sc__law_choice (fun vs H Q E h => ?_) (fun cdv A outer s H vs Q E hr h => ?_))
  · obtain ⟨p, a, xs, e, _⟩ := h
    rw [e]
    rfl
  · obtain ⟨p, a, xs, rfl, hp, hne, ha, h0, h1, k⟩ := h
    refine ⟨_, (pss_one (ps_ret (pe_ix ix_list (pv 1) (pe_d c__law_draw hr (by decide) rfl (pa_cons (pv 0) (pa_cons (pe_callB call_len (by rfl) T.g_len (by decide +kernel) (pa_cons (pv 1) pa_nil)) pa_nil))) (fun _ _ => rfl)))), ?_⟩
    refine ⟨_, rfl, _, rfl, _, rfl, _, xs.length, rfl, .inl ⟨_, sq_at ha, rfl⟩, p, _, rfl, hp, by omega, by omega, fun d H1 d0 d1 k1 hp1 => ?_⟩
    have hd : d.toNat < xs.length := by omega
    refine ⟨a, xs, d, xs[d.toNat], rfl, rfl, sq_at (k1 _ _ hne ha), ?_, k d.toNat _ H1 (List.getElem?_eq_getElem hd) k1 hp1⟩
    have h := atI_nat (List.getElem?_eq_getElem hd)
    rw [show ((d.toNat : Nat) : Int) = d by omega] at h
    exact h
theorem c__law_period : CalD P w K mg base 2 "_law_period" sp_period [] := by
  have c__law_draw := c__law_draw (P := P) (w := w) (base := base) T
  obtain ⟨f, fd, F, hm⟩ := T.d__law_period
  refine CalD.of F hm (F.binds (ps := ["_law_pot_here"]) fun _ _ _ _ _ _ us hl => match us, hl with | [_], _ => rfl) (F.ok sc__law_period (fun vs H Q E h => ?_) (fun cdv A outer s H vs Q E hr h => ?_))
  · obtain ⟨p, e, _⟩ := h
    rw [e]
    rfl
  · obtain ⟨p, rfl, hp, k⟩ := h
    refine ⟨_, (pss_one (ps_ret (pe_ifExp (pt_cmpR op_eq (pe_d c__law_draw hr (by decide) rfl (pa_cons (pv 0) (pa_cons pe_int pa_nil))) pe_int (nomark _)) pe_int (pe_op op_add pe_int (pe_d c__law_draw hr (by decide) rfl (pa_cons (pv 0) (pa_cons pe_int pa_nil))))))), ?_⟩
    refine ⟨_, rfl, p, 12, rfl, hp, by omega, by omega, fun d H1 d0 d1 k1 hp1 => ?_⟩
    refine ⟨rfl, _, rfl, ?_⟩
    refine ite2 (fun _ => ?_) (fun _ => ?_)
    · exact k 60 H1 (by omega) (by omega) k1 hp1
    · refine ⟨_, rfl, p, 10, rfl, hp1, by omega, by omega, fun c H2 c0 c1 k2 hp2 => ?_⟩
      refine ⟨_, _, rfl, rfl, ?_⟩
      have := k (1 + c).toNat H2 (by omega) (by omega) (k1.trans k2) hp2
      rw [show (((1 + c).toNat : Nat) : Int) = 1 + c by omega] at this
      exact this
theorem c__law_drawn : CalD P w K mg base 4 "_law_drawn" sp_drawn [] := by
  have c__law_draw := c__law_draw (P := P) (w := w) (base := base) T
  have c__law_choice := c__law_choice (P := P) (w := w) (base := base) T
  have c__law_period := c__law_period (P := P) (w := w) (base := base) T
  have c__law_table := c__law_table (P := P) (w := w) (base := base) T
  obtain ⟨f, fd, F, hm⟩ := T.d__law_drawn
  refine CalD.of F hm (F.binds (ps := ["_law_pot_here"]) fun _ _ _ _ _ _ us hl => match us, hl with | [_], _ => rfl) (F.ok sc__law_drawn (fun vs H Q E h => ?_) (fun cdv A outer s H vs Q E hr h => ?_))
  · obtain ⟨p, e, _⟩ := h
    rw [e]
    rfl
  · obtain ⟨p, rfl, hp, k⟩ := h
    refine ⟨_, (pss_cons (ps_if (pt_cmpR op_eq (pe_d c__law_draw hr (by decide) rfl (pa_cons (pv 0) (pa_cons pe_int pa_nil))) pe_int (nomark _)) (pss_cons (ps_set (i := 1) sc__law_drawn.nd rfl (Or.inl rfl) (pe_op op_add pe_int (pe_op op_mul pe_int (pe_d c__law_draw hr (by decide) rfl (pa_cons (pv 0) (pa_cons pe_int pa_nil))))))
      (pss_one (ps_ret (pe_d c__law_choice hr (by decide) rfl (pa_cons (pv 0) (pa_cons (pe_lst (pa_cons (pe_lst (pa_cons (pv 1) (pa_cons (pe_op op_sub pe_int (pv 1)) pa_nil))) (pa_cons (pe_lst (pa_cons (pe_op op_sub pe_int (pv 1)) (pa_cons (pv 1) pa_nil))) pa_nil))) pa_nil)))))) pss_nil)
      (pss_one (ps_ret (pe_d c__law_table hr (by decide) rfl (pa_cons (pv 0) (pa_cons (pe_d c__law_period hr (by decide) rfl (pa_cons (pv 0) pa_nil)) pa_nil)))))), ?_⟩
    refine ⟨_, rfl, p, 6, rfl, hp, by omega, by omega, fun d H1 d0 d1 k1 hp1 => ?_⟩
    refine ⟨rfl, _, rfl, ?_⟩
    refine ite2 (fun _ => ?_) (fun _ => ?_)
    · refine ⟨_, rfl, p, 500, rfl, hp1, by omega, by omega, fun c H2 c0 c1 k2 hp2 => ?_⟩
      refine ⟨_, _, rfl, rfl, .inl ⟨by decide, by decide⟩, _, _, rfl, rfl, ?_⟩
      refine ⟨_, rfl, _, rfl, _, rfl, _, _, rfl, rfl, small_len (show 2 ≤ 1000000 by omega), fun l1 hl1 => ?_⟩
      generalize hg : upd _ _ _ = H3
      have s3 := newS hg hl1
      have e3 := newE hg
      clear hg
      refine ⟨_, rfl, _, _, rfl, rfl, _, rfl, small_len (show 2 ≤ 1000000 by omega), fun l2 hl2 => ?_⟩
      generalize hg : upd _ _ _ = H4
      have s4 := newS hg hl2
      have e4 := newE hg
      clear hg
      refine ⟨small_len (show 2 ≤ 1000000 by omega), fun l3 hl3 => ?_⟩
      generalize hg : upd _ _ _ = H5
      have s5 := newS hg hl3
      have e5 := newE hg
      clear hg
      have s25 := s3.trans (s4.trans s5)
      have hp5 := hp2.same s25
      have e35 := (s4.trans s5) _ _ e3
      have e45 := s5 _ _ e4
      have f1 := PotAt.ne hp2 hl1
      have f2 := PotAt.ne (hp2.same s3) hl2
      have f3 := PotAt.ne (hp2.same (s3.trans s4)) hl3
      have fr : ∀ a, a ≠ p → H2 a = none → H a = none := fun a n h => by
        cases e : H a with
        | none => rfl
        | some u =>
          have := k2 a u n (k1 a u n e)
          rw [h] at this
          cases this
      have tab1 : TabOf 2 [1 + 2 * c, 0 - (1 + 2 * c)] := ⟨rfl, ⟨[1, 0], List.Perm.swap 0 1 [], fun i hi => by
        rcases (show i = 0 ∨ i = 1 by omega) with rfl | rfl
        · exact ⟨c, by show 1 + 2 * c = 1 - ((0 : Nat) : Int) + ((2 : Nat) : Int) * c; omega⟩
        · exact ⟨-c, by show 0 - (1 + 2 * c) = 0 - ((1 : Nat) : Int) + ((2 : Nat) : Int) * (-c); omega⟩⟩, fun o ho => by
        rcases List.mem_cons.mp ho with rfl | ho
        · omega
        · rw [List.mem_singleton.mp ho]
          omega⟩
      have tab2 : TabOf 2 [0 - (1 + 2 * c), 1 + 2 * c] := ⟨rfl, ⟨[1, 0], List.Perm.swap 0 1 [], fun i hi => by
        rcases (show i = 0 ∨ i = 1 by omega) with rfl | rfl
        · exact ⟨-c - 1, by show 0 - (1 + 2 * c) = 1 - ((0 : Nat) : Int) + ((2 : Nat) : Int) * (-c - 1); omega⟩
        · exact ⟨c + 1, by show 1 + 2 * c = 0 - ((1 : Nat) : Int) + ((2 : Nat) : Int) * (c + 1); omega⟩⟩, fun o ho => by
        rcases List.mem_cons.mp ho with rfl | ho
        · omega
        · rw [List.mem_singleton.mp ho]
          omega⟩
      refine ⟨p, l3, _, rfl, hp5, f3, e5, (show 0 < 2 by omega), (show 2 ≤ 1000 by omega), fun i x H6 hi k6 hp6 => ?_⟩
      have kall := (KpP.same (k1.trans k2) s25).trans k6
      match i, hi with
      | 0, hi =>
        cases hi
        exact k l1 [1 + 2 * c, 0 - (1 + 2 * c)] 2 H6 kall hp6 (fr l1 f1 hl1) f1 (k6 _ _ f1 e35) (by omega) (by omega) tab1
      | 1, hi =>
        cases hi
        exact k l2 [0 - (1 + 2 * c), 1 + 2 * c] 2 H6 kall hp6 (fr l2 f2 (s3.free hl2)) f2 (k6 _ _ f2 e45) (by omega) (by omega) tab2
    · refine ⟨_, rfl, _, rfl, p, rfl, hp1, fun n H2 n0 n1 k2 hp2 => ?_⟩
      refine ⟨p, n, rfl, hp2, n0, n1, fun q us H3 k3 hp3 hq e3 tab => ?_⟩
      have nq := PotAt.ne hp2 hq
      have hq0 : H q = none := by
        cases e : H q with
        | none => rfl
        | some u =>
          have := k2 q u nq (k1 q u nq e)
          rw [hq] at this
          cases this
      exact k q us n H3 ((k1.trans k2).trans k3) hp3 hq0 nq e3 n0 n1 tab
theorem c__law_leaves : CalD P w K mg base 1 "_law_leaves" sp_leaves [] := by
  obtain ⟨f, fd, F, hm⟩ := T.d__law_leaves
  refine CalD.of F hm (F.binds (ps := ["_law_table_here", "_law_moment"]) fun _ _ _ _ _ _ us hl => match us, hl with | [_, _], _ => rfl) (F.ok sc__law_leaves (fun vs H Q E h => ?_) (fun cdv A outer s H vs Q E hr h => ?_))
  · obtain ⟨t, us, n, e, _⟩ := h
    rw [e]
    rfl
  · obtain ⟨t, us, n, rfl, ht, h0, h1, k⟩ := h
    have hlu : (LI us).length = us.length := List.length_map ..
    refine ⟨_, (pss_cons (ps_set (i := 2) sc__law_leaves.nd rfl (Or.inl rfl) (pe_callB (cr_max rfl) (by rfl) T.g_max (by decide +kernel) (pa_cons (pe_op op_cat (pe_lst (pa_cons pe_int pa_nil)) (pe_lc (own := [("_law_offset", 3)]) (g := gName 3) (tt := tYes) (by rfl) sc__law_leaves.nd (pi_list (pv 0)) (blkOk_by (own := [("_law_offset", 3)]) (N := ["_law_table_here", "_law_moment", "_law_late", "_law_offset"]) (sc := defScope s__law_leaves) (by decide +kernel)) (fun _ _ _ _ _ => (pg_name (i := 3) sc__law_leaves.nd rfl (Or.inl rfl))) (fun _ _ _ _ _ => pts_nil) (fun _ _ _ _ _ => (pe_op op_sub pe_int (pv 3))))) pa_nil)))
      (pss_one (ps_ret (pe_op op_add (pe_op op_add (pv 1) (pe_ix ix_list (pv 0) (pe_op op_mod (pe_callTy call_int1 (by rfl) T.g_int (by decide +kernel) (pa_cons (pv 1) pa_nil)) (pe_callB call_len (by rfl) T.g_len (by decide +kernel) (pa_cons (pv 0) pa_nil))) (fun _ _ => rfl))) (pv 2))))), ?_⟩
    refine ⟨small_len (show 1 ≤ 1000000 by omega), fun l hl => ?_⟩
    generalize hg : upd _ _ _ = H1
    have s1 := newS hg hl
    have e1 := newE hg
    clear hg
    refine ⟨_, rfl, t, rfl, ⟨_, sq_at (s1 _ _ ht)⟩, fun D hD => ?_⟩
    refine lc_list (K := K) (a := t) (xs := LI us) (fun i H' => LC H1 D (LI (us.map fun o => -o)) i H') (lc_start (Same.refl H1) hD) (fun i H' _ q => sq_at (q.1 _ _ (s1 _ _ ht))) ?_ ?_
    · rintro i x H' hx q
      obtain ⟨o, ho, rfl⟩ := LI_get hx
      refine ⟨rfl, _, rfl, _, _, rfl, rfl, lc_step hD q ?_ (by rw [List.length_map, List.length_map]; omega)⟩
      show ((us.map fun o => -o).map V.int)[i]? = some (V.int (0 - o))
      rw [List.getElem?_map, List.getElem?_map, ho, Int.zero_sub]
      rfl
    rintro H2 q2
    obtain ⟨s2, e2⟩ := q2.done (by rw [List.length_map, List.length_map, List.length_map])
    refine ⟨l, D, [.int 0], _, rfl, rfl, s2 _ _ e1, e2, small_len (by rw [List.length_map, List.length_map]; show 1 + us.length ≤ 1000000; omega), fun z hz => ?_⟩
    generalize hg : upd _ _ _ = H3
    have s3 := newS hg hz
    have e3 := newE hg
    clear hg
    refine ⟨z, 0 :: us.map (fun o => -o), rfl, sq_at e3, Nat.zero_lt_succ _, fun late lt1 lt2 => ?_⟩
    obtain rfl := late_max (Rep.self us) h0 lt1 lt2
    have s13 := s1.trans (s2.trans s3)
    have m0 : 0 ≤ n % (us.length : Int) := Int.emod_nonneg _ (by omega)
    have m1 : n % (us.length : Int) < us.length := Int.emod_lt_of_pos _ (by omega)
    have hi : (n % (us.length : Int)).toNat < us.length := by omega
    refine ⟨_, rfl, _, rfl, _, rfl, .inl ⟨_, rfl, _, rfl, _, us.length, rfl, .inl ⟨_, sq_at (s13 _ _ ht), hlu.symm⟩, _, _, rfl, rfl, (show (0 : Int) < (us.length : Int) by omega), t, LI us, _, .int (us.getD (n % (us.length : Int)).toNat 0), rfl, rfl, sq_at (s13 _ _ ht), ?_, _, _, rfl, rfl, _, rfl, _, _, rfl, rfl, k H3 s13⟩⟩
    have e : n % (us.length : Int) = (((n % (us.length : Int)).toNat : Nat) : Int) := by omega
    have h2 := atI_LI (ns := us) (i := (n % (us.length : Int)).toNat) (n := us.getD (n % (us.length : Int)).toNat 0) (by rw [map_getD hi]; exact List.getElem?_eq_getElem hi)
    rw [← e] at h2
    exact h2
end
end My

end
section
set_option linter.all false
set_option maxRecDepth 100000
set_option maxHeartbeats 1000000
namespace My
open PySem PySem.Spec PyProof.Rows L2 StX ClX
theorem item_text : ∀ k : Fin 50, (("item " : Str) ++ (Str.ofString (toString (k.val : Int)))).cps.toList.all (fun c => decide (c < 16 ^ 8)) = true ∧ (("item " : Str) ++ (Str.ofString (toString (k.val : Int)))).cps.size ≤ 30 ∧ (Str.ofString (toString (k.val : Int))).length ≤ 30 := by decide +kernel
section
variable {P : Program} {w : World} {K : PySem.W.Frag} {mg : Str → Option Value} {base : Heap} {cM cP cS : Addr} (T : Txt K mg cM cP cS)
include T
theorem c__law_item : CalD P w K mg base 3 "_law_item" (sp_item K) [] := by
  have c__law_draw := c__law_draw (P := P) (w := w) (base := base) T
  have c__law_choice := c__law_choice (P := P) (w := w) (base := base) T
  obtain ⟨f, fd, F, hm⟩ := T.d__law_item
  refine CalD.of F hm (F.binds (ps := ["_law_pot_here"]) fun _ _ _ _ _ _ us hl => match us, hl with | [_], _ => rfl) (F.ok sc__law_item (fun vs H Q E h => ?_) (fun cdv A outer s H vs Q E hr h => ?_))
  · obtain ⟨p, e, _⟩ := h
    rw [e]
    rfl
  · obtain ⟨p, rfl, hp, k⟩ := h
    refine ⟨_, (pss_cons (ps_set (i := 1) sc__law_item.nd rfl (Or.inl rfl) (pe_d c__law_draw hr (by decide) rfl (pa_cons (pv 0) (pa_cons pe_int pa_nil))))
      (pss_cons (ps_if (pt_cmpR op_eq (pv 1) pe_int (nomark _)) (pss_one (ps_ret (pe_d c__law_choice hr (by decide) rfl (pa_cons (pv 0) (pa_cons (pe_lst (pa_cons pe_non (pa_cons pe_int (pa_cons pe_bl (pa_cons pe_bl (pa_cons pe_int (pa_cons (pe_un un_neg pe_int) (pa_cons pe_str (pa_cons pe_str (pa_cons pe_str (pa_cons (pe_tup pa_nil) (pa_cons (pe_tup (pa_cons pe_int pa_nil)) (pa_cons (pe_lst pa_nil) (pa_cons (pe_lst (pa_cons pe_str (pa_cons pe_non pa_nil))) (pa_cons (pe_op op_pow pe_int pe_int) pa_nil))))))))))))))) pa_nil))))) pss_nil)
      (pss_one (ps_ret (pe_ifExp (pt_cmpR op_eq (pv 1) pe_int (nomark _)) (pe_d c__law_draw hr (by decide) rfl (pa_cons (pv 0) (pa_cons pe_int pa_nil))) (pe_op op_add_str pe_str (pe_callTy call_str_int (by rfl) T.g_str (by decide +kernel) (pa_cons (pe_d c__law_draw hr (by decide) rfl (pa_cons (pv 0) (pa_cons pe_int pa_nil))) pa_nil)))))))), ?_⟩
    refine ⟨_, rfl, p, 3, rfl, hp, by omega, by omega, fun d H1 d0 d1 k1 hp1 => ?_⟩
    refine ⟨_, rfl, rfl, _, rfl, ?_⟩
    refine ite2 (fun _ => ?_) (fun _ => ?_)
    · refine ⟨_, rfl, _, rfl, small_len (show 0 ≤ 1000000 by omega), fun t0 ht0 => ?_⟩
      generalize hg : upd _ _ _ = H2
      have s2 := newS hg ht0
      have e2 := newE hg
      clear hg
      refine ⟨small_len (show 1 ≤ 1000000 by omega), fun t1 ht1 => ?_⟩
      generalize hg : upd _ _ _ = H3
      have s3 := newS hg ht1
      have e3 := newE hg
      clear hg
      refine ⟨small_len (show 0 ≤ 1000000 by omega), fun l0 hl0 => ?_⟩
      generalize hg : upd _ _ _ = H4
      have s4 := newS hg hl0
      have e4 := newE hg
      clear hg
      refine ⟨small_len (show 2 ≤ 1000000 by omega), fun l1 hl1 => ?_⟩
      generalize hg : upd _ _ _ = H5
      have s5 := newS hg hl1
      have e5 := newE hg
      clear hg
      refine ⟨_, _, rfl, rfl, ⟨by decide, by decide, by decide⟩, small_len (show 14 ≤ 1000000 by omega), fun l hl => ?_⟩
      generalize hg : upd _ _ _ = H6
      have s6 := newS hg hl
      have e6 := newE hg
      clear hg
      have s16 := s2.trans (s3.trans (s4.trans (s5.trans s6)))
      have hp6 := hp1.same s16
      have nl := PotAt.ne (hp1.same (s2.trans (s3.trans (s4.trans s5)))) hl
      have n0 := PotAt.ne hp1 ht0
      have n1 := PotAt.ne (hp1.same s2) ht1
      have n2 := PotAt.ne (hp1.same (s2.trans s3)) hl0
      have n3 := PotAt.ne (hp1.same (s2.trans (s3.trans s4))) hl1
      have g2 := (s3.trans (s4.trans (s5.trans s6))) _ _ e2
      have g3 := (s4.trans (s5.trans s6)) _ _ e3
      have g4 := (s5.trans s6) _ _ e4
      have g5 := s6 _ _ e5
      refine ⟨p, l, _, rfl, hp6, nl, e6, (show 0 < 14 by omega), (show 14 ≤ 1000 by omega), fun i x H7 hi k7 hp7 => ?_⟩
      have kall := (KpP.same k1 s16).trans k7
      have fr : ∀ b, b ≠ p → H1 b = none → H b = none := fun b n h => by
        cases e : H b with
        | none => rfl
        | some u =>
          have := k1 b u n e
          rw [h] at this
          cases this
      have z0 := fr _ n0 ht0
      have z1 := fr _ n1 (s2.free ht1)
      have z2 := fr _ n2 ((s2.trans s3).free hl0)
      have z3 := fr _ n3 ((s2.trans (s3.trans s4)).free hl1)
      match i, hi with
      | 0, hi => cases hi; exact k _ _ H7 kall hp7 (fun _ _ => .non) (Shw.non.mono (by omega) (by omega))
      | 1, hi => cases hi; exact k _ _ H7 kall hp7 (fun _ _ => .int _) ((Shw.int (by decide)).mono (by omega) (by omega))
      | 2, hi => cases hi; exact k _ _ H7 kall hp7 (fun _ _ => .bl _) ((Shw.bool _).mono (by omega) (by omega))
      | 3, hi => cases hi; exact k _ _ H7 kall hp7 (fun _ _ => .bl _) ((Shw.bool _).mono (by omega) (by omega))
      | 4, hi => cases hi; exact k _ _ H7 kall hp7 (fun _ _ => .int _) ((Shw.int (by decide)).mono (by omega) (by omega))
      | 5, hi => cases hi; exact k _ _ H7 kall hp7 (fun _ _ => .int _) ((Shw.int (by decide)).mono (by omega) (by omega))
      | 6, hi => cases hi; exact k _ _ H7 kall hp7 (fun _ _ => .str _) ((Shw.str (b := 30) (by decide +kernel) (by decide +kernel)).mono (by omega) (by omega))
      | 7, hi => cases hi; exact k _ _ H7 kall hp7 (fun _ _ => .str _) ((Shw.str (b := 30) (by decide +kernel) (by decide +kernel)).mono (by omega) (by omega))
      | 8, hi => cases hi; exact k _ _ H7 kall hp7 (fun _ _ => .str _) ((Shw.str (b := 30) (by decide +kernel) (by decide +kernel)).mono (by omega) (by omega))
      | 9, hi => cases hi; exact k _ (.tuple []) H7 kall hp7 (fun H8 k8 => .tup (st_at (k8 _ _ z0 (k7 _ _ n0 g2))) .nil) ((Shw.tuple (b := 0) (k := 0) (n := 0) (fun d hd => (List.not_mem_nil hd).elim) (Nat.le_refl _)).mono (by omega) (by omega))
      | 10, hi => cases hi; exact k _ (.tuple [.int 0]) H7 kall hp7 (fun H8 k8 => .tup (st_at (k8 _ _ z1 (k7 _ _ n1 g3))) (.cons (.int 0) .nil)) ((Shw.tuple (b := 0) (k := 0) (n := 1) (fun d hd => by rw [List.mem_singleton.mp hd]; exact Shw.int (by decide)) (Nat.le_refl _)).mono (by omega) (by omega))
      | 11, hi => cases hi; exact k _ (.list []) H7 kall hp7 (fun H8 k8 => .lst (sq_at (k8 _ _ z2 (k7 _ _ n2 g4))) .nil) ((Shw.list (b := 0) (k := 0) (n := 0) (fun d hd => (List.not_mem_nil hd).elim) (Nat.le_refl _)).mono (by omega) (by omega))
      | 12, hi => cases hi; exact k _ (.list [.str "a", .none]) H7 kall hp7 (fun H8 k8 => .lst (sq_at (k8 _ _ z3 (k7 _ _ n3 g5))) (.cons (.str _) (.cons .non .nil))) ((Shw.list (b := 5) (k := 0) (n := 2) (fun d hd => by
          rcases List.mem_cons.mp hd with rfl | hd
          · exact Shw.str (by decide +kernel) (by decide +kernel)
          · rw [List.mem_singleton.mp hd]
            exact Shw.non.mono (by omega) (by omega)) (Nat.le_refl _)).mono (by omega) (by omega))
      | 13, hi => cases hi; exact k _ _ H7 kall hp7 (fun _ _ => .int _) ((Shw.int (by decide)).mono (by omega) (by omega))
    · refine ⟨_, rfl, rfl, _, rfl, ?_⟩
      refine ite2 (fun _ => ?_) (fun _ => ?_)
      · refine ⟨_, rfl, p, 1000, rfl, hp1, by omega, by omega, fun c H2 c0 c1 k2 hp2 => ?_⟩
        exact k _ _ H2 (k1.trans k2) hp2 (fun _ _ => .int _) ((Shw.int (by omega)).mono (by omega) (by omega))
      · refine ⟨_, rfl, p, 50, rfl, hp1, by omega, by omega, fun c H2 c0 c1 k2 hp2 => ?_⟩
        have ht := item_text ⟨c.toNat, by omega⟩
        have ec : ((c.toNat : Nat) : Int) = c := by omega
        simp only [ec] at ht
        refine ⟨_, rfl, ?_, ?_⟩
        · by_cases h0 : c.natAbs = 0
          · rw [h0]
            decide
          · exact (Nat.log2_lt h0).mpr (Nat.lt_of_lt_of_le (m := 2 ^ 6) (by omega) (Nat.pow_le_pow_right (by decide) (by decide)))
        · refine ⟨_, _, rfl, rfl, ?_, ?_⟩
          · have := ht.2.2
            rw [sizeLine_eq]
            have e5 : ("item " : Str).length = 5 := by decide +kernel
            rw [e5]
            exact Nat.le_trans (Nat.add_le_add_left this 5) (by decide)
          · exact k _ _ H2 (k1.trans k2) hp2 (fun _ _ => .str _) ((Shw.str ht.1 ht.2.1).mono (by omega) (by omega))
end
end My

end
section
set_option linter.all false
set_option maxRecDepth 100000
set_option maxHeartbeats 1000000
namespace My
open PySem PySem.Spec PyProof.Rows L2 StX ClX
/-- a list of pairs -/
def Rows (H : Hp) (a : Addr) (kv : List (Int × V)) : Prop := ∃ rs : List Addr, H a = some (.lst (rs.map V.ref)) ∧ rs.length = kv.length ∧ ∀ (i : Nat) r p, rs[i]? = some r → kv[i]? = some p → H r = some (.tup [.int p.1, p.2])
theorem Rows.same {H H' : Hp} {a : Addr} {kv : List (Int × V)} (h : Rows H a kv) (e : Same H H') : Rows H' a kv := by
  obtain ⟨rs, h1, h2, h3⟩ := h
  exact ⟨rs, e _ _ h1, h2, fun i r p a b => e _ _ (h3 i r p a b)⟩
def sp_lrest : Sp := fun vs H Q _ => ∃ (a : Addr) (n : Int) (gp : V) (kv : List (Int × V)), vs = [.ref a, .int n, gp] ∧ Rows H a kv ∧ (kv.map (·.1)).Nodup ∧ kv.length ≤ 1000 ∧ 0 ≤ n ∧ n ≤ 900000 ∧ (∀ p ∈ kv, p.1 ≤ 900000) ∧
  ∀ last, last ∈ (n - 1) :: kv.map (·.1) → (∀ y ∈ (n - 1) :: kv.map (·.1), y ≤ last) → ∀ q H', Same H H' → H q = none → H' q = some (.lst ((List.range (last + 1 - n).toNat).map fun (i : Nat) => (valV (KV kv) (.inl (n + (i : Int)))).getD gp)) → Q (.ref q) H'
def lvs (us : List Int) (gs : List V) : List (Int × V) := (List.range gs.length).map fun (i : Nat) => (atT us (i : Int) + lateT us, gs.getD i .non)
def sp_delivered : Sp := fun vs H Q _ => ∃ (t a : Addr) (us : List Int) (gp : V) (gs : List V), vs = [.ref t, .ref a, gp] ∧ H t = some (.lst (LI us)) ∧ 0 < us.length ∧ us.length ≤ 2520 ∧ H a = some (.lst gs) ∧ gs.length ≤ 1000 ∧ ((lvs us gs).map (·.1)).Nodup ∧ (∀ p ∈ lvs us gs, p.1 ≤ 900000) ∧
  ∀ last, last ∈ (0 - 1 : Int) :: (lvs us gs).map (·.1) → (∀ y ∈ (0 - 1 : Int) :: (lvs us gs).map (·.1), y ≤ last) → ∀ q H', Same H H' → H q = none → H' q = some (.lst ((List.range (last + 1 - 0).toNat).map fun (i : Nat) => (valV (KV (lvs us gs)) (.inl (0 + (i : Int)))).getD gp)) → Q (.ref q) H'
def outF (ws : List Int) (G : Nat → V) (gp : V) (n : Nat) : List V := (List.range n).map fun (m : Nat) => oV G gp (srcN ws (m + 1) m)
theorem outF_succ (ws : List Int) (G : Nat → V) (gp : V) (n : Nat) : outF ws G gp (n + 1) = outF ws G gp n ++ [oV G gp (srcN ws (n + 1) n)] := by
  unfold outF
  rw [List.range_succ, List.map_append]
  rfl
theorem outF_len (ws : List Int) (G : Nat → V) (gp : V) (n : Nat) : (outF ws G gp n).length = n := by
  unfold outF
  rw [List.length_map, List.length_range]
theorem kvN_len (ws : List Int) (G : Nat → V) (n : Nat) : (KV (kvN ws G n)).length = (wt ws n).length := by
  unfold KV kvN
  rw [List.length_map, List.length_map]
theorem wt_le' (ws : List Int) (n : Nat) : (wt ws n).length ≤ n := by
  unfold wt
  exact Nat.le_trans (List.length_filter_le ..) (by rw [List.length_range]; omega)
section
variable {P : Program} {w : World} {K : PySem.W.Frag} {mg : Str → Option Value} {base : Heap} {cM cP cS : Addr} (T : Txt K mg cM cP cS)
include T
theorem c__law_rest : CalD P w K mg base 1 "_law_rest" sp_lrest [] := by
  obtain ⟨f, fd, F, hm⟩ := T.d__law_rest
  refine CalD.of F hm (F.binds (ps := ["_law_pending", "_law_moment", "_law_mark"]) fun _ _ _ _ _ _ us hl => match us, hl with | [_, _, _], _ => rfl) (F.ok sc__law_rest (fun vs H Q E h => ?_) (fun cdv A outer s H vs Q E hr h => ?_))
  · obtain ⟨a, n, gp, kv, e, _⟩ := h
    rw [e]
    rfl
  · obtain ⟨a, n, gp, kv, rfl, hrw, hnd, hkl, hn0, hn1, hkb, k⟩ := h
    obtain ⟨rs, ha, hl, hrs⟩ := hrw
    have hu := hu_of hr
    have hlk : (KV kv).length = kv.length := List.length_map ..
    refine ⟨_, (pss_cons (ps_set (i := 3) sc__law_rest.nd rfl (Or.inr rfl) pe_dnewK)
      (pss_cons (ps_for PassesOwn.never rfl (pi_list (pv 0)) (pg_tup (by rfl) (pgs_cons (pg_name (i := 4) sc__law_rest.nd rfl (Or.inl rfl)) (pgs_cons (pg_name (i := 5) sc__law_rest.nd rfl (Or.inl rfl)) pgs_nil))) (pss_one (ps_dput hu (pv 3) (pv 4) (pv 5) rfl)))
      (pss_one (ps_ret (pe_lc (own := [("_law_now", 6)]) (g := gName 6) (tt := tYes) (by rfl) sc__law_rest.nd (pi_range2 (by rfl) T.g_range (pa_cons (pv 1) (pa_cons (pe_op op_add (pe_callB (cr_max rfl) (by rfl) T.g_max (by decide +kernel) (pa_cons (pe_op op_cat (pe_lst (pa_cons (pe_op op_sub (pv 1) pe_int) pa_nil)) (pe_callTy (call_listD rfl) (by rfl) T.g_list (by decide +kernel) (pa_cons (pv 3) pa_nil))) pa_nil)) pe_int) pa_nil))) (blkOk_by (own := [("_law_now", 6)]) (N := ["_law_pending", "_law_moment", "_law_mark", "_law_known", "_law_when", "_law_one", "_law_now"]) (sc := defScope s__law_rest) (by decide +kernel)) (fun _ _ _ _ _ => (pg_name (i := 6) sc__law_rest.nd rfl (Or.inl rfl))) (fun _ _ _ _ _ => pts_nil) (fun _ _ _ _ _ => (pe_dget2 hu (pv 3) (pv 6) (pv 2) ⟨rfl, rfl, rfl, rfl⟩))))))), ?_⟩
    intro d hd
    generalize hg : upd _ _ _ = H1
    have s1 := newS hg hd
    have e1 := newE hg
    clear hg
    refine ⟨_, rfl, a, rfl, ⟨_, sq_at (s1 _ _ ha)⟩, for_list (K := K) (a := a) (xs := rs.map V.ref) (fun i σ H' => Same H H' ∧ H' d = some (.dK (KV (kv.take i))) ∧ ∃ v1 v2, σ = [some (.ref a), some (.int n), some gp, some (.ref d), v1, v2, none]) ⟨s1, e1, none, none, rfl⟩ (fun i σ H' _ q => sq_at (q.1 _ _ ha)) ?_ ?_⟩
    · rintro i x σ H' hx ⟨sm, ed, v1, v2, rfl⟩
      obtain ⟨r, hr', rfl⟩ : ∃ r, rs[i]? = some r ∧ x = .ref r := by
        rw [List.getElem?_map] at hx
        cases e : rs[i]? with
        | none =>
          rw [e] at hx
          cases hx
        | some r =>
          rw [e] at hx
          exact ⟨r, rfl, (Option.some.inj hx).symm⟩
      have hi : i < kv.length := by
        rw [← hl]
        exact (List.getElem?_eq_some_iff.mp hr').1
      have hp := List.getElem?_eq_getElem hi
      refine ⟨r, _, rfl, st_at (sm _ _ (hrs i r _ hr' hp)), rfl, _, _, rfl, _, _, rfl, rfl, ?_⟩
      refine ⟨_, rfl, _, rfl, _, rfl, d, _, rfl, DPut.k (k := Sum.inl kv[i].1) ed (small_lt (by unfold KV; rw [List.length_map, List.length_take]; omega)), ?_⟩
      refine ⟨Same.mut sm hd, ?_, _, _, rfl⟩
      rw [putK_new _ (KV_none hnd hp)]
      have e : kv.take (i + 1) = kv.take i ++ [kv[i]] := by
        rw [List.take_succ, hp]
        rfl
      rw [e]
      unfold KV
      rw [List.map_append]
      exact upd_same
    · rintro σ H' ⟨sm, ed, v1, v2, rfl⟩
      rw [List.length_map, hl, List.take_length] at ed
      refine ⟨_, rfl, _, rfl, _, _, rfl, rfl, small_len (show 1 ≤ 1000000 by omega), fun l hl' => ?_⟩
      generalize hg : upd _ _ _ = H2
      have s2 := newS hg hl'
      have e2 := newE hg
      clear hg
      refine ⟨_, rfl, d, KV kv, rfl, .inl (s2 _ _ ed), fun m hm => ?_⟩
      generalize hg : upd _ _ _ = H3
      have s3 := newS hg hm
      have e3 := newE hg
      clear hg
      refine ⟨l, m, _, _, rfl, rfl, s3 _ _ e2, e3, small_len (by rw [List.length_map, hlk]; show 1 + kv.length ≤ 1000000; omega), fun z hz => ?_⟩
      generalize hg : upd _ _ _ = H4
      have s4 := newS hg hz
      have e4 := newE hg
      clear hg
      have ez : [V.int (n - 1)] ++ (KV kv).map (fun kv => kV kv.1) = LI ((n - 1) :: kv.map (·.1)) := by
        unfold KV
        rw [List.map_map]
        show V.int (n - 1) :: _ = V.int (n - 1) :: (kv.map (·.1)).map V.int
        rw [List.map_map]
        rfl
      rw [ez] at e4
      refine ⟨z, (n - 1) :: kv.map (·.1), rfl, sq_at e4, Nat.zero_lt_succ _, fun last l1 l2 => ?_⟩
      have lb : n - 1 ≤ last := l2 _ List.mem_cons_self
      have ub : last ≤ 900000 := by
        rcases List.mem_cons.mp l1 with e | e
        · omega
        · obtain ⟨p, hp, rfl⟩ := List.mem_map.mp e
          exact hkb p hp
      have sa := sm.trans (s2.trans (s3.trans s4))
      have ed4 := (s2.trans (s3.trans s4)) _ _ ed
      refine ⟨_, _, rfl, rfl, n, last + 1, rfl, ⟨by omega, by omega, by omega, by omega⟩, fun D hD => ?_⟩
      refine lc_range (fun i H' => LC H4 D ((List.range (last + 1 - n).toNat).map fun (i : Nat) => (valV (KV kv) (.inl (n + (i : Int)))).getD gp) i H') (lc_start (Same.refl H4) hD) ?_ ?_
      · intro i H' hi q
        refine ⟨rfl, _, rfl, d, rfl, .inl ⟨_, .inl (q.1 _ _ ed4)⟩, _, rfl, _, rfl, _, DGet.k (k := Sum.inl (n + (i : Int))) (q.1 _ _ ed4), lc_step hD q ?_ (by rw [List.length_map, List.length_range]; omega)⟩
        rw [List.getElem?_map, List.getElem?_range hi]
        rfl
      · intro H' q
        obtain ⟨s5, e5⟩ := q.done (by rw [List.length_map, List.length_range])
        exact k last l1 l2 D H' (sa.trans s5) (sa.free hD) e5
theorem c__law_delivered : CalD P w K mg base 2 "_law_delivered" sp_delivered [] := by
  have c__law_rest := c__law_rest (P := P) (w := w) (base := base) T
  have c__law_leaves := c__law_leaves (P := P) (w := w) (base := base) T
  obtain ⟨f, fd, F, hm⟩ := T.d__law_delivered
  refine CalD.of F hm (F.binds (ps := ["_law_table_here", "_law_goods", "_law_mark"]) fun _ _ _ _ _ _ us hl => match us, hl with | [_, _, _], _ => rfl) (F.ok sc__law_delivered (fun vs H Q E h => ?_) (fun cdv A outer s H vs Q E hr h => ?_))
  · obtain ⟨t, a, us, gp, gs, e, _⟩ := h
    rw [e]
    rfl
  · obtain ⟨t, a, us, gp, gs, rfl, ht, h0, h1, ha, hgl, hnd, hb, k⟩ := h
    refine ⟨_, (pss_one (ps_ret (pe_d c__law_rest hr (by decide) rfl (pa_cons (pe_lc (own := [("_law_moment", 3), ("_law_one", 4)]) (g := gTup K 2 (gCons (gName 3) (gCons (gName 4) gNil))) (tt := tYes) (by rfl) sc__law_delivered.nd (pi_enum (by rfl) T.g_enumerate (pa_cons (pv 1) pa_nil)) (blkOk_by (own := [("_law_moment", 3), ("_law_one", 4)]) (N := ["_law_table_here", "_law_goods", "_law_mark", "_law_moment", "_law_one"]) (sc := defScope s__law_delivered) (by decide +kernel)) (fun _ _ _ _ _ => (pg_tup (by rfl) (pgs_cons (pg_name (i := 3) sc__law_delivered.nd rfl (Or.inl rfl)) (pgs_cons (pg_name (i := 4) sc__law_delivered.nd rfl (Or.inl rfl)) pgs_nil)))) (fun _ _ _ _ _ => pts_nil) (fun _ _ _ _ _ => (pe_tup (pa_cons (pe_d c__law_leaves hr (by decide) rfl (pa_cons (pv 0) (pa_cons (pv 3) pa_nil))) (pa_cons (pv 4) pa_nil))))) (pa_cons pe_int (pa_cons (pv 2) pa_nil)))))), ?_⟩
    refine ⟨_, rfl, a, gs, rfl, sq_at ha, fun D hD => ?_⟩
    refine lc_enum (K := K) (a := a) (xs := gs) (fun i H' => Same H H' ∧ ∃ rs : List Addr, H' D = some (.lst (rs.map V.ref)) ∧ rs.length = i ∧ ∀ (j : Nat) r p, rs[j]? = some r → (lvs us gs)[j]? = some p → H' r = some (.tup [.int p.1, p.2])) ⟨Same.new hD, [], upd_same, rfl, fun j r p h => by cases h⟩ (fun i H' _ q => sq_at (q.1 _ _ ha)) ?_ ?_
    · rintro i v H' tt H'' hv ⟨sm, rs, eD, hrl, hrs⟩ hT sm' eT
      have hi : i < gs.length := (List.getElem?_eq_some_iff.mp hv).1
      have st := sm.trans sm'
      refine ⟨tt, _, rfl, st_at eT, rfl, _, _, rfl, _, _, rfl, rfl, ?_⟩
      refine ⟨rfl, _, rfl, _, rfl, t, us, _, rfl, st _ _ ht, h0, h1, fun H2 s2 => ?_⟩
      refine ⟨_, rfl, small_len (show 2 ≤ 1000000 by omega), fun r hr' => ?_⟩
      generalize hg : upd _ _ _ = H3
      have s3 := newS hg hr'
      have e3 := newE hg
      clear hg
      have s'' := sm'.trans (s2.trans s3)
      have nrD : ∀ (j : Nat) r' p, rs[j]? = some r' → (lvs us gs)[j]? = some p → r' ≠ D := fun j r' p h1 h2 e => by
        have := hrs j r' p h1 h2
        rw [e, eD] at this
        cases this
      have nr : r ≠ D := fun e => by
        have := (sm'.trans s2) _ _ eD
        rw [← e, hr'] at this
        cases this
      refine ⟨_, s'' _ _ eD, small_lt (by rw [List.length_map]; omega), Same.mut (sm.trans s'') hD, rs ++ [r], ?_, ?_, ?_⟩
      · rw [upd_same, List.map_append]
        rfl
      · rw [List.length_append, hrl]
        rfl
      · intro j r' p hj hp
        by_cases hji : j < rs.length
        · rw [List.getElem?_append_left hji] at hj
          rw [upd_ne (nrD j r' p hj hp)]
          exact s'' _ _ (hrs j r' p hj hp)
        · rw [List.getElem?_append_right (by omega)] at hj
          have hj0 : j - rs.length = 0 := by
            have := (List.getElem?_eq_some_iff.mp hj).1
            rw [List.length_singleton] at this
            omega
          rw [hj0] at hj
          cases hj
          have hji2 : j = i := by omega
          subst hji2
          rw [upd_ne nr]
          unfold lvs at hp
          rw [List.getElem?_map, List.getElem?_range hi] at hp
          cases hp
          have hg : gs.getD j .non = v := by
            rw [List.getD_eq_getElem?_getD, hv]
            rfl
          show H3 r = some (.tup [.int (atT us (j : Int) + lateT us), gs.getD j .non])
          rw [hg]
          exact e3
    · rintro H' ⟨sm, rs, eD, hrl, hrs⟩
      have hll : (lvs us gs).length = gs.length := by
        unfold lvs
        rw [List.length_map, List.length_range]
      refine ⟨_, rfl, D, 0, gp, lvs us gs, rfl, ⟨rs, eD, by rw [hrl, hll], hrs⟩, hnd, by rw [hll]; exact hgl, by omega, by omega, hb, fun last l1 l2 q H2 s2 hq e2 => ?_⟩
      exact k last l1 l2 q H2 (sm.trans s2) (sm.free hq) e2
end
end My

end
section
set_option linter.all false
set_option maxRecDepth 100000
set_option maxHeartbeats 1000000
namespace My
open PySem PySem.Spec PyProof.Rows L2 StX ClX
theorem passG {X : Cx} : Passes (CX X.prog X.w) X E0 := fun pins σ H s e s' I c => by
  obtain ⟨a, B, H', cls, d, _, _, _, _, _, _, _, _, z⟩ := c
theorem noStop0 {K : PySem.W.Frag} : NoStop K E0 := fun _ _ _ h => h.elim
def g021 {α : Type} : List α → List α → List α
  | [a], [b, c] => [a, c, b]
  | _, _ => []
theorem g021_rel {vs zs : List V} {us ws : List Value} (r : Vals vs us) (z : Vals zs ws) : Vals (g021 vs zs) (g021 us ws) := by
  cases r with
  | nil => exact .nil
  | cons r1 r2 =>
    cases r2 with
    | cons _ _ => exact .nil
    | nil =>
      cases z with
      | nil => exact .nil
      | cons z1 z2 =>
        cases z2 with
        | nil => exact .nil
        | cons z3 z4 =>
          cases z4 with
          | nil => exact .cons r1 (.cons z3 (.cons z1 .nil))
          | cons _ _ => exact .nil
def gdl (us : List Int) : List Int := us.map (· + lateT us)
/-- what is known of a plan whose goods are handed out -/
def sp_deliver (K : PySem.W.Frag) (cP : Addr) (tup : Bool) : Sp := fun vs H Q _ => ∃ (p a : Addr) (gp : V) (us : List Int) (far : Int) (gs : List V), vs = [.ref p, .ref a, gp] ∧ PlanAt cP H p us ∧ Gd (gdl us) far ∧ far ≤ 100000 ∧ gs.length ≤ 1000 ∧ (if tup then SqT K H a gs else SqL K H a gs) ∧
  ∀ last, last ∈ ((gs.length : Int) - 1) :: (kvN (gdl us) (fun i => gs.getD i .non) gs.length).map (·.1) → (∀ y ∈ ((gs.length : Int) - 1) :: (kvN (gdl us) (fun i => gs.getD i .non) gs.length).map (·.1), y ≤ last) →
    ∀ q H', Same H H' → H q = none → H' q = some (.lst ((outN (gdl us) gs.length (last + 1).toNat).map (oV (fun i => gs.getD i .non) gp))) → Q (.ref q) H'
section
variable {P : Program} {w : World} {K : PySem.W.Frag} {mg : Str → Option Value} {base : Heap} {cM cP cS : Addr} (T : Txt K mg cM cP cS)
include T
theorem mk_S : ∃ f fd, Mk K cS f ∧ FnOk P w K mg base CX0 8 f fd ["self", "plan", "gap"] (sp_Stream_init cS cP) ∧ (∃ mv : List Value, KBn K fd ["self", "plan", "gap"] 2 ["gap"] (fun us ws => us ++ ws) (fun vs zs => vs ++ zs)) ∧ ∃ mv : List Value, KBn K fd ["self", "plan", "gap"] 1 ["gap", "plan"] (fun us ws => g021 us ws) (fun vs zs => g021 vs zs) := by
  obtain ⟨f, fd, M, F⟩ := T.i_Stream
  refine ⟨f, fd, M, ok_Stream T F, ?_, ?_⟩
  · exact F.kbinds0 2 ["gap"] [] (fun us mv ws => us ++ ws) (by simp) (fun q h => by cases h) (fun r _ z => r.append z) (fun D doc pm an cdv ct us mv ws h1 h2 h3 => match us, mv, ws, h1, h2, h3 with | [_, _], [], [_], _, _, _ => rfl)
  · exact F.kbinds0 1 ["gap", "plan"] [] (fun us mv ws => g021 us ws) (by simp) (fun q h => by cases h) (fun r _ z => g021_rel r z) (fun D doc pm an cdv ct us mv ws h1 h2 h3 => match us, mv, ws, h1, h2, h3 with | [_], [], [_, _], _, _, _ => rfl)
theorem m_Stream_push : MetD P w K mg base 4 cS "push" (sp_Stream_push cS cP) [] := by
  obtain ⟨f, fd, F, me, G⟩ := m_Stream_push_ok (P := P) (w := w) (base := base) T
  exact ⟨f, fd, _, [], T.clS, me, F, G.binds (ps := ["self", "item"]) fun _ _ _ _ _ _ us hl => match us, hl with | [_, _], _ => rfl, .nil⟩
theorem ok_deliveriesL {f : Addr} {fd : FuncData} (F : FunD K "deliveries" "deliveries" (defArgs s_deliveries) (defBody s_deliveries) (defScope s_deliveries) [] [("gap", V.non)] f fd) : FnOk P w K mg base CX0 10 f fd ["plan", "items", "gap"] (sp_deliver K cP false) := by
  have m_Stream_push := m_Stream_push (P := P) (w := w) (base := base) T
  obtain ⟨fS, fdS, MS, FS1, ⟨mv1, kS1⟩, ⟨mv0, kS0⟩⟩ := mk_S (P := P) (w := w) (base := base) T
  obtain ⟨fR, fdR, FR, meR, bR⟩ := g_Stream_rest (P := P) (w := w) (base := base) T
  refine F.ok sc_deliveries (fun vs H Q E h => ?_) (fun cdv A outer s H vs Q E hr h => ?_)
  · obtain ⟨p, a, gp, us, far, gs, e, _⟩ := h
    rw [e]
    rfl
  · obtain ⟨p, a, gp, us, far, gs, rfl, hp, g, hfar, hgl, ha, k⟩ := h
    refine ⟨_, PSs.nox (pss_cons (ps_set (i := 3) sc_deliveries.nd rfl (Or.inr rfl) (pe_makeK MS FS1 (hr.mono (by decide)) (by rfl) T.m_Stream kS1 pass0 (pa_cons (pv 0) pa_nil) (pk_cons (pv 2) pk_nil)))
      (pss_cons (ps_setLc (i := 4) (own := [("item", 5)]) (g := gName 5) (tt := tYes) (by rfl) sc_deliveries.nd rfl rfl (sw_true rfl rfl rfl (by decide +kernel)) (pi_list (pv 1)) (blkOk_by (own := [("item", 5)]) (N := ["plan", "items", "gap", "stream", "found", "item"]) (sc := defScope s_deliveries) (by decide +kernel)) (fun _ _ _ _ _ => (pg_name (i := 5) sc_deliveries.nd rfl (Or.inl rfl))) (fun _ _ _ _ _ => pts_nil) (fun _ _ _ _ _ => (pe_md m_Stream_push hr (by decide) (pv 3) (pa_cons (pv 5) pa_nil))))
      (pss_one (ps_ret (pe_op op_cat (pv 4) (pe_listG (pgen_meth0 (pv 3) T.clS meR FR (hr.mono (by decide)) bR .nil) passG noStop0 (hr.mono (by decide)) (by rfl) T.g_list rfl)))))), ?_⟩
    refine ⟨_, rfl, _, rfl, rfl, rfl, ?_⟩
    intro x dx hx hdx hne
    have s1a : Same H (upd (upd H dx (.own x)) x (.ins cS dx [])) := Same.mut (Same.new hdx) hx
    refine ⟨x, p, dx, gp, us, H, rfl, s1a, hx, upd_same, hp.same s1a, fun D pl H1 s1 hD nD hs _ => ⟨rfl, ?_⟩⟩
    refine ⟨_, rfl, a, rfl, ⟨gs, Same.sq s1 ha⟩, fun L hL => ?_⟩
    have hL0 : H L = none := s1.free hL
    have nLx : L ≠ x := fun e => by
      have := hs.1
      rw [← e, hL] at this
      cases this
    have nLD : L ≠ D := fun e => by
      have := hs.2.1
      rw [← e, hL] at this
      cases this
    generalize hG : (fun (i : Nat) => gs.getD i V.non) = G at *
    refine lc_list (K := K) (a := a) (xs := gs) (fun i H' => Same H H' ∧ Kp x D H1 H' ∧ StreamAt cS cP H' x D dx pl gp (gdl us) (i : Nat) (KV (kvN (gdl us) G i)) ∧ H' L = some (.lst (outF (gdl us) G gp i))) ⟨Same.mut s1 hL0, fun b o _ _ e => (upd_ne (ne_of_none e hL)).trans e, StreamAt.same hs (Same.new hL), upd_same⟩ (fun i H' _ q => Same.sq q.1 ha) ?_ ?_
    · rintro i v H' hv ⟨sm, kp, hs', eL⟩
      have hi : i < gs.length := (List.getElem?_eq_some_iff.mp hv).1
      have hGv : G i = v := by
        rw [← hG]
        show gs.getD i V.non = v
        rw [List.getD_eq_getElem?_getD, hv]
        rfl
      have hwl := wt_le' (gdl us) i
      refine ⟨rfl, _, rfl, x, dx, _, rfl, hs'.1, rfl, _, rfl, x, D, dx, pl, gp, gdl us, _, _, _, rfl, hs', by rw [kvN_len]; omega, fun H2 kp2 hs2 => ?_⟩
      have ev : (valV (putK (KV (kvN (gdl us) G i)) (.inl (atT (gdl us) (i : Int))) v) (.inl (i : Int))).getD gp = oV G gp (srcN (gdl us) (i + 1) i) := by
        rw [← hGv, step_put g, step_val g]
      rw [ev]
      rw [← hGv, step_put g, step_drop g] at hs2
      have eL2 := kp2 _ _ nLx nLD eL
      refine ⟨_, eL2, small_lt (by rw [outF_len]; omega), ?_⟩
      rw [← outF_succ]
      have kp3 : Kp x D H1 (upd H2 L (.lst (outF (gdl us) G gp (i + 1)))) := fun b o hb hd e => (upd_ne (ne_of_none e hL)).trans (kp2 _ _ hb hd (kp _ _ hb hd e))
      refine ⟨fun b o e => ?_, kp3, ?_, upd_same⟩
      · exact kp3 b o (ne_of_none e hx) (ne_of_none e hD) (s1 _ _ e)
      · rw [Int.natCast_add]
        exact StreamAt.kp hs kp3 ((upd_ne fun e => nLx e.symm).trans hs2.1) ((upd_ne fun e => nLD e.symm).trans hs2.2.1)
    rintro H3 ⟨sm, kp, hs', eL⟩
    refine ⟨_, rfl, _, rfl, x, dx, _, rfl, hs'.1, rfl, x, D, dx, pl, gp, _, _, kvN (gdl us) G gs.length, rfl, hs', kv_nodup g gs.length, ?_, by omega, by omega, ?_, fun last l1' l2' H14 s14 => fun rr hrr => ?_⟩
    · unfold kvN
      rw [List.length_map]
      have := wt_le' (gdl us) gs.length
      omega
    · intro pq hpq
      obtain ⟨i, hi, e, _⟩ := (kv_key g).mp (List.mem_map.mpr ⟨pq, hpq, rfl⟩)
      have := g.le (i : Int)
      omega
    have hla := l2' _ List.mem_cons_self
    have hlf := last_far g l1'
    generalize hg : upd _ _ _ = H15
    have s15 := newS hg hrr
    have e15 := newE hg
    clear hg
    refine ⟨L, rr, _, _, rfl, rfl, (s14.trans s15) _ _ eL, e15, small_len ?_, fun z hz => ?_⟩
    · rw [outF_len, List.length_map, List.length_range]
      omega
    have oc := out_cat (G := G) (gp := gp) g hla
    rw [show outF (gdl us) G gp gs.length = ((List.range gs.length).map fun (m : Nat) => oV G gp (srcN (gdl us) (m + 1) m)) from rfl, oc]
    exact k last l1' l2' z _ (sm.trans (s14.trans (s15.trans (Same.new hz)))) ((sm.trans (s14.trans s15)).free hz) upd_same
theorem ok_deliveriesT {f : Addr} {fd : FuncData} (F : FunD K "deliveries" "deliveries" (defArgs s_deliveries) (defBody s_deliveries) (defScope s_deliveries) [] [("gap", V.non)] f fd) : FnOk P w K mg base CX0 10 f fd ["plan", "items", "gap"] (sp_deliver K cP true) := by
  have m_Stream_push := m_Stream_push (P := P) (w := w) (base := base) T
  obtain ⟨fS, fdS, MS, FS1, ⟨mv1, kS1⟩, ⟨mv0, kS0⟩⟩ := mk_S (P := P) (w := w) (base := base) T
  obtain ⟨fR, fdR, FR, meR, bR⟩ := g_Stream_rest (P := P) (w := w) (base := base) T
  refine F.ok sc_deliveries (fun vs H Q E h => ?_) (fun cdv A outer s H vs Q E hr h => ?_)
  · obtain ⟨p, a, gp, us, far, gs, e, _⟩ := h
    rw [e]
    rfl
  · obtain ⟨p, a, gp, us, far, gs, rfl, hp, g, hfar, hgl, ha, k⟩ := h
    refine ⟨_, PSs.nox (pss_cons (ps_set (i := 3) sc_deliveries.nd rfl (Or.inr rfl) (pe_makeK MS FS1 (hr.mono (by decide)) (by rfl) T.m_Stream kS1 pass0 (pa_cons (pv 0) pa_nil) (pk_cons (pv 2) pk_nil)))
      (pss_cons (ps_setLc (i := 4) (own := [("item", 5)]) (g := gName 5) (tt := tYes) (by rfl) sc_deliveries.nd rfl rfl (sw_true rfl rfl rfl (by decide +kernel)) (pi_tup (pv 1)) (blkOk_by (own := [("item", 5)]) (N := ["plan", "items", "gap", "stream", "found", "item"]) (sc := defScope s_deliveries) (by decide +kernel)) (fun _ _ _ _ _ => (pg_name (i := 5) sc_deliveries.nd rfl (Or.inl rfl))) (fun _ _ _ _ _ => pts_nil) (fun _ _ _ _ _ => (pe_md m_Stream_push hr (by decide) (pv 3) (pa_cons (pv 5) pa_nil))))
      (pss_one (ps_ret (pe_op op_cat (pv 4) (pe_listG (pgen_meth0 (pv 3) T.clS meR FR (hr.mono (by decide)) bR .nil) passG noStop0 (hr.mono (by decide)) (by rfl) T.g_list rfl)))))), ?_⟩
    refine ⟨_, rfl, _, rfl, rfl, rfl, ?_⟩
    intro x dx hx hdx hne
    have s1a : Same H (upd (upd H dx (.own x)) x (.ins cS dx [])) := Same.mut (Same.new hdx) hx
    refine ⟨x, p, dx, gp, us, H, rfl, s1a, hx, upd_same, hp.same s1a, fun D pl H1 s1 hD nD hs _ => ⟨rfl, ?_⟩⟩
    refine ⟨_, rfl, a, rfl, ⟨gs, Same.tup s1 ha⟩, fun L hL => ?_⟩
    have hL0 : H L = none := s1.free hL
    have nLx : L ≠ x := fun e => by
      have := hs.1
      rw [← e, hL] at this
      cases this
    have nLD : L ≠ D := fun e => by
      have := hs.2.1
      rw [← e, hL] at this
      cases this
    generalize hG : (fun (i : Nat) => gs.getD i V.non) = G at *
    refine lc_tup (K := K) (a := a) (xs := gs) (fun i H' => Same H H' ∧ Kp x D H1 H' ∧ StreamAt cS cP H' x D dx pl gp (gdl us) (i : Nat) (KV (kvN (gdl us) G i)) ∧ H' L = some (.lst (outF (gdl us) G gp i))) ⟨Same.mut s1 hL0, fun b o _ _ e => (upd_ne (ne_of_none e hL)).trans e, StreamAt.same hs (Same.new hL), upd_same⟩ (fun i H' _ q => Same.tup q.1 ha) ?_ ?_
    · rintro i v H' hv ⟨sm, kp, hs', eL⟩
      have hi : i < gs.length := (List.getElem?_eq_some_iff.mp hv).1
      have hGv : G i = v := by
        rw [← hG]
        show gs.getD i V.non = v
        rw [List.getD_eq_getElem?_getD, hv]
        rfl
      have hwl := wt_le' (gdl us) i
      refine ⟨rfl, _, rfl, x, dx, _, rfl, hs'.1, rfl, _, rfl, x, D, dx, pl, gp, gdl us, _, _, _, rfl, hs', by rw [kvN_len]; omega, fun H2 kp2 hs2 => ?_⟩
      have ev : (valV (putK (KV (kvN (gdl us) G i)) (.inl (atT (gdl us) (i : Int))) v) (.inl (i : Int))).getD gp = oV G gp (srcN (gdl us) (i + 1) i) := by
        rw [← hGv, step_put g, step_val g]
      rw [ev]
      rw [← hGv, step_put g, step_drop g] at hs2
      have eL2 := kp2 _ _ nLx nLD eL
      refine ⟨_, eL2, small_lt (by rw [outF_len]; omega), ?_⟩
      rw [← outF_succ]
      have kp3 : Kp x D H1 (upd H2 L (.lst (outF (gdl us) G gp (i + 1)))) := fun b o hb hd e => (upd_ne (ne_of_none e hL)).trans (kp2 _ _ hb hd (kp _ _ hb hd e))
      refine ⟨fun b o e => ?_, kp3, ?_, upd_same⟩
      · exact kp3 b o (ne_of_none e hx) (ne_of_none e hD) (s1 _ _ e)
      · rw [Int.natCast_add]
        exact StreamAt.kp hs kp3 ((upd_ne fun e => nLx e.symm).trans hs2.1) ((upd_ne fun e => nLD e.symm).trans hs2.2.1)
    rintro H3 ⟨sm, kp, hs', eL⟩
    refine ⟨_, rfl, _, rfl, x, dx, _, rfl, hs'.1, rfl, x, D, dx, pl, gp, _, _, kvN (gdl us) G gs.length, rfl, hs', kv_nodup g gs.length, ?_, by omega, by omega, ?_, fun last l1' l2' H14 s14 => fun rr hrr => ?_⟩
    · unfold kvN
      rw [List.length_map]
      have := wt_le' (gdl us) gs.length
      omega
    · intro pq hpq
      obtain ⟨i, hi, e, _⟩ := (kv_key g).mp (List.mem_map.mpr ⟨pq, hpq, rfl⟩)
      have := g.le (i : Int)
      omega
    have hla := l2' _ List.mem_cons_self
    have hlf := last_far g l1'
    generalize hg : upd _ _ _ = H15
    have s15 := newS hg hrr
    have e15 := newE hg
    clear hg
    refine ⟨L, rr, _, _, rfl, rfl, (s14.trans s15) _ _ eL, e15, small_len ?_, fun z hz => ?_⟩
    · rw [outF_len, List.length_map, List.length_range]
      omega
    have oc := out_cat (G := G) (gp := gp) g hla
    rw [show outF (gdl us) G gp gs.length = ((List.range gs.length).map fun (m : Nat) => oV G gp (srcN (gdl us) (m + 1) m)) from rfl, oc]
    exact k last l1' l2' z _ (sm.trans (s14.trans (s15.trans (Same.new hz)))) ((sm.trans (s14.trans s15)).free hz) upd_same
end
end My

end
section
set_option linter.all false
set_option maxRecDepth 100000
set_option maxHeartbeats 1000000
namespace My
open PySem PySem.Spec PyProof.Rows L2 StX ClX
section
variable {X : Cx} {CX : CXT} {k : Nat} {C p g : Addr} {mc : Value} {sp : Sp} {E : XK} {o : Expr} {m : Str} {pos apos : Pos} {ta : TE} {pl : Sem Bool}
/-- C.m(), m a classmethod -/
theorem pe_cmeth0 (he : PE X o ta) (r : CRead X.K C mc) (c : CMet X.K C mc m p g) (F : FnR X.prog X.w X.K X.mg X.base CX k g sp) (hr : Room k X.A) (hx : Passes CX X E)
    (ht : eval (.Call (.Attribute o m apos) [] [] pos) X.env = (eval o X.env >>= fun ov => standAt apos.atName >>= fun _ => holding [ov] (getMethod ov m pl) >>= fun fx =>
      callWith pos fx.1 fx.2 (backTo pos (starEach [] X.env)) (backToKw pos (keywordEach [] X.env))) := by rfl) :
    PE X (.Call (.Attribute o m apos) [] [] pos) (tCMeth C sp E ta tNil) := by
  refine ⟨fun pins s σ H Q I h => ?_⟩
  refine PySem.W.methodCall_KW (pl := pl) (thn (he.run pins s σ H _ I h) fun u s1 z => ?_) ht
  obtain ⟨x, H1, I1, rx, ex, q⟩ := z
  subst ex
  obtain rfl : u = Value.ref C := rx
  refine getmethcm_ok I1 r c fun s2 I2 => ?_
  exact PySem.W.callWith_M0 (first := []) ⟨pin_at I2, I2.kIn⟩ c.fi (run_cm (us := []) (vs := []) F hr hx I2 .nil q)
end
section
variable {X : Cx} {CX : CXT} {k : Nat} {f : Addr} {fd : FuncData} {ps ks : List Str} {sp : Sp} {E : XK} {x : Str} {p pos : Pos} {kws : List Keyword} {tk : TA} {g : List Value → List Value → List Value} {gV : List V → List V → List V}
/-- f(k = v, ..) -/
theorem pe_callN0 (F : FnOk X.prog X.w X.K X.mg X.base CX k f fd ps sp) (hr : Room k X.A) (hg : Gl X x) (hm : X.mg x = some (.ref f)) (hk : PySem.W.keepIn X.K (.ref f) = true) (hb : KBn X.K fd ps 0 ks g gV) (hx : Passes CX X E)
    (hkw : PK X kws tk) (hall : (backToKw pos (keywordEach kws X.env)).all (·.1.isSome) = true := by rfl) (hks : (backToKw pos (keywordEach kws X.env)).filterMap (·.1) = ks := by rfl) (hdb : (x == ("__debug__" : Str)) = false := by decide)
    (hpl : ((backTo pos (starEach [] X.env)).any (·.1) || (backToKw pos (keywordEach kws X.env)).any (·.1.isNone)) = false := by rfl) :
    PE X (.Call (.Name x p) [] kws pos) (tCallN 0 ks.length sp gV E tNil tk) :=
  ⟨fun pins s σ H Q I h => by
    refine wpAny_Call_Name_kw (ld_glob I hg hm ?_ hdb)
    refine PySem.W.callWith_KW0 (first := []) (h₀ := X.base) I.ok.mod.kin hk hall (thn (hkw.run pos pins s σ H _ I h) fun ws s2 z => ?_) hpl
    obtain ⟨zs, H2, I2, rz, l1, l2, q2⟩ := z
    refine ⟨I2.kIn, ?_⟩
    rw [hks]
    exact run_fnN (us := []) (vs := []) F hr hb hx I2 .nil rz l1 l2 q2⟩
end
end My

end
section
set_option linter.all false
set_option maxRecDepth 100000
set_option maxHeartbeats 1000000
namespace My
open PySem PySem.Spec PyProof.Rows L2 StX ClX
/-! rows, data of what is handed out -/
def RwsL (H : Hp) : List Addr → List (Int × V) → Prop
  | [], [] => True
  | r :: rs, p :: kv => H r = some (.tup [.int p.1, p.2]) ∧ RwsL H rs kv
  | _, _ => False
theorem RwsL.get {H : Hp} : ∀ {rs : List Addr} {kv : List (Int × V)}, RwsL H rs kv → rs.length = kv.length ∧ ∀ (i : Nat) r p, rs[i]? = some r → kv[i]? = some p → H r = some (.tup [.int p.1, p.2])
  | [], [], _ => ⟨rfl, fun i r p h => by cases h⟩
  | r :: rs, p :: kv, h => by
    obtain ⟨h1, h2⟩ := RwsL.get h.2
    refine ⟨by rw [List.length_cons, List.length_cons, h1], fun i r' p' a b => ?_⟩
    cases i with
    | zero =>
      cases a
      cases b
      exact h.1
    | succ i => exact h2 i r' p' a b
  | [], _ :: _, h => h.elim
  | _ :: _, [], h => h.elim
theorem RwsL.rows {H : Hp} {a : Addr} {rs : List Addr} {kv : List (Int × V)} (h : RwsL H rs kv) (e : H a = some (.lst (rs.map V.ref))) : Rows H a kv := ⟨rs, e, h.get.1, h.get.2⟩
theorem RwsL.same {H H' : Hp} : ∀ {rs : List Addr} {kv : List (Int × V)}, (∀ r ∈ rs, ∀ o, H r = some o → H' r = some o) → RwsL H rs kv → RwsL H' rs kv
  | [], [], _, _ => trivial
  | r :: rs, p :: kv, k, h => ⟨k r List.mem_cons_self _ h.1, RwsL.same (fun x hx => k x (List.mem_cons_of_mem _ hx)) h.2⟩
  | [], _ :: _, _, h => h.elim
  | _ :: _, [], _, h => h.elim
theorem RwsL.snoc {H : Hp} {r : Addr} {p : Int × V} (e : H r = some (.tup [.int p.1, p.2])) : ∀ {rs : List Addr} {kv : List (Int × V)}, RwsL H rs kv → RwsL H (rs ++ [r]) (kv ++ [p])
  | [], [], _ => ⟨e, trivial⟩
  | _ :: _, _ :: _, h => ⟨h.1, RwsL.snoc e h.2⟩
  | [], _ :: _, h => h.elim
  | _ :: _, [], h => h.elim
theorem RwsL.mem {H : Hp} : ∀ {rs : List Addr} {kv : List (Int × V)}, RwsL H rs kv → ∀ r ∈ rs, ∃ p, H r = some (.tup p)
  | [], [], _, r, h => by cases h
  | r :: rs, p :: kv, h, x, hx => by
    rcases List.mem_cons.mp hx with rfl | hx
    · exact ⟨_, h.1⟩
    · exact RwsL.mem h.2 x hx
  | [], _ :: _, h, _, _ => h.elim
  | _ :: _, [], h, _, _ => h.elim
/-- tuples stay where only a pot, a stream, its dict and lists change -/
theorem RwsL.kp {H H' : Hp} {rs : List Addr} {kv : List (Int × V)} (h : RwsL H rs kv) (k : ∀ r xs, H r = some (.tup xs) → H' r = some (.tup xs)) : RwsL H' rs kv := by
  refine RwsL.same (fun r hr o e => ?_) h
  obtain ⟨p, hp⟩ := h.mem r hr
  have : o = .tup p := Option.some.inj (e.symm.trans hp)
  rw [this]
  exact k r p hp
theorem first_of (kv : List (Int × V)) (n : Int) (gp : V) : ((kv.filter fun p => decide (p.1 = n)).map (·.2) ++ [gp])[0]? = some ((valV (KV kv) (.inl n)).getD gp) := by
  induction kv with
  | nil => rfl
  | cons p kv ih =>
    by_cases h : p.1 = n
    · have e : valV (KV (p :: kv)) (.inl n) = some p.2 := valV_pos (congrArg Sum.inl h)
      rw [List.filter_cons_of_pos (by simpa using h), e]
      rfl
    · have e : valV (KV (p :: kv)) (.inl n) = valV (KV kv) (.inl n) := valV_neg fun e => h (Sum.inl.inj e)
      rw [List.filter_cons_of_neg (by simpa using h), e]
      exact ih
/-- all but the pot, the stream and its dict stays -/
def Kq (p x D : Addr) (H H' : Hp) : Prop := ∀ b o, b ≠ p → b ≠ x → b ≠ D → H b = some o → H' b = some o
theorem Kq.refl (p x D : Addr) (H : Hp) : Kq p x D H H := fun _ _ _ _ _ e => e
theorem Kq.same {p x D : Addr} {H H' H'' : Hp} (h : Kq p x D H H') (g : Same H' H'') : Kq p x D H H'' := fun b o n1 n2 n3 e => g b o (h b o n1 n2 n3 e)
theorem Kq.pot {p x D : Addr} {H H' H'' : Hp} (h : Kq p x D H H') (g : KpP p H' H'') : Kq p x D H H'' := fun b o n1 n2 n3 e => g b o n1 (h b o n1 n2 n3 e)
theorem Kq.str {p x D : Addr} {H H' H'' : Hp} (h : Kq p x D H H') (g : Kp x D H' H'') : Kq p x D H H'' := fun b o n1 n2 n3 e => g b o n2 n3 (h b o n1 n2 n3 e)
theorem Kq.mut {p x D q : Addr} {H H' : Hp} {o : HO} (h : Kq p x D H H') (hq : H q = none) : Kq p x D H (upd H' q o) := fun b u n1 n2 n3 e => (upd_ne (ne_of_none e hq)).trans (h b u n1 n2 n3 e)
theorem Kq.free {p x D q : Addr} {H H' : Hp} (h : Kq p x D H H') (n1 : q ≠ p) (n2 : q ≠ x) (n3 : q ≠ D) (e : H' q = none) : H q = none := by
  cases z : H q with
  | none => rfl
  | some u =>
    have := h q u n1 n2 n3 z
    rw [e] at this
    cases this
theorem StreamAt.kq {cS cP x D dx pl p : Addr} {H H' : Hp} {gp : V} {us : List Int} {n n' : Int} {kvs kvs' : List (Key × V)} (h : StreamAt cS cP H x D dx pl gp us n kvs) (hp : ∀ b o, b ≠ x → b ≠ D → H b = some o → (∃ C d f, o = .ins C d f) ∨ (∃ xs, o = .lst xs) → H' b = some o) (hx : H' x = some (.ins cS dx (flds pl gp n' D))) (hD : H' D = some (.dK kvs')) : StreamAt cS cP H' x D dx pl gp us n' kvs' := by
  obtain ⟨h1, h2, dx', q, r, ts, g1, g2, g3⟩ := h
  refine ⟨hx, hD, dx', q, r, ts, hp _ _ (fun e => ?_) (fun e => ?_) g1 (.inl ⟨_, _, _, rfl⟩), hp _ _ (fun e => ?_) (fun e => ?_) g2 (.inr ⟨_, rfl⟩), g3⟩
  · rw [e, h1] at g1
    cases g1
  · rw [e, h2] at g1
    cases g1
  · rw [e, h1] at g2
    cases g2
  · rw [e, h2] at g2
    cases g2
def oD (ds : Nat → PyData) (dg : PyData) : Option Nat → PyData
  | none => dg
  | some j => ds j
theorem dp_oV {K : PySem.W.Frag} {H : Hp} {G : Nat → V} {ds : Nat → PyData} {gp : V} {dg : PyData} {N : Nat} (h : ∀ j, j < N → Dp K H (G j) (ds j)) (hg : Dp K H gp dg) (o : Option Nat) (ho : ∀ j, o = some j → j < N) : Dp K H (oV G gp o) (oD ds dg o) := by
  cases o with
  | none => exact hg
  | some j => exact h j (ho j rfl)
theorem shw_oD {ds : Nat → PyData} {dg : PyData} {N b k : Nat} (h : ∀ j, j < N → Shw b k (ds j)) (hg : Shw b k dg) (o : Option Nat) (ho : ∀ j, o = some j → j < N) : Shw b k (oD ds dg o) := by
  cases o with
  | none => exact hg
  | some j => exact h j (ho j rfl)
theorem max_eq {xs : List Int} {a b : Int} (h1 : a ∈ xs) (h2 : ∀ y ∈ xs, y ≤ a) (g1 : b ∈ xs) (g2 : ∀ y ∈ xs, y ≤ b) : a = b := Int.le_antisymm (g2 a h1) (h2 b g1)
end My

end
section
set_option linter.all false
set_option maxRecDepth 100000
set_option maxHeartbeats 1000000
namespace My
open PySem PySem.Spec PyProof.Rows L2 StX ClX
def sp_pushed (K : PySem.W.Frag) (cS cP : Addr) : Sp := fun vs H Q _ => ∃ (p t x D dx pl a : Addr) (gp : V) (us ws : List Int) (far : Int) (gs : List V) (ds : Nat → PyData) (dg : PyData), vs = [.ref p, .ref t, .ref x, gp, .ref a] ∧ PotAt H p ∧ t ≠ p ∧ a ≠ p ∧
  H t = some (.lst (LI us)) ∧ 0 < us.length ∧ us.length ≤ 2520 ∧ StreamAt cS cP H x D dx pl gp ws 0 [] ∧
  (∀ H' n' kvs', Kq p x D H H' → H' x = some (.ins cS dx (flds pl gp n' D)) → H' D = some (.dK kvs') → StreamAt cS cP H' x D dx pl gp ws n' kvs') ∧
  (∀ z, atT ws z = atT us z + lateT us) ∧ Gd ws far ∧ far ≤ 100000 ∧ H a = some (.lst gs) ∧ gs.length ≤ 100 ∧
  (∀ j, j < gs.length → ∀ H'', Kq p x D H H'' → Dp K H'' (gs.getD j .non) (ds j)) ∧ (∀ H'', Kq p x D H H'' → Dp K H'' gp dg) ∧ (∀ j, j < gs.length → Shw 30 5 (ds j)) ∧ Shw 30 5 dg ∧ far ≤ 2500 ∧
  ∀ H', Kq p x D H H' → PotAt H' p → StreamAt cS cP H' x D dx pl gp ws (gs.length : Nat) (KV (kvN ws (fun i => gs.getD i .non) gs.length)) → Q (.bl true) H'
section
variable {vs : List Int} {far : Int} {G : Nat → V} {gp : V} (g : Gd vs far)
include g
theorem kvA_filter (n : Nat) : ((wtA vs n).map (pr vs G)).filter (fun p => decide ((n : Int) < p.1)) = kvN vs G (n + 1) := by
  unfold kvN
  rw [wt_succ g, List.filter_map]
  congr 1
  refine List.filter_congr fun i hi => ?_
  show decide ((n : Int) < atT vs (i : Int)) = decide (atT vs (i : Int) ≠ (n : Int))
  have h : (n : Int) ≤ atT vs (i : Int) := of_decide_eq_true (List.mem_filter.mp hi).2
  by_cases e : atT vs (i : Int) = (n : Int)
  · rw [decide_eq_false (by omega), decide_eq_false (by omega)]
  · rw [decide_eq_true (by omega), decide_eq_true (by omega)]
end
section
variable {P : Program} {w : World} {K : PySem.W.Frag} {mg : Str → Option Value} {base : Heap} {cM cP cS : Addr} (T : Txt K mg cM cP cS)
include T
set_option maxHeartbeats 0 in
theorem g__law_pushed_right : ∃ f, FnG P w K mg base 7 f (sp_pushed K cS cP) ∧ mg "_law_pushed_right" = some (.ref f) ∧ PySem.W.keepIn K (.ref f) = true := by
  have c__law_draw := c__law_draw (P := P) (w := w) (base := base) T
  have c__law_leaves := c__law_leaves (P := P) (w := w) (base := base) T
  have c__law_rest := c__law_rest (P := P) (w := w) (base := base) T
  have m_Stream_push := m_Stream_push (P := P) (w := w) (base := base) T
  have p_Stream_waiting := p_Stream_waiting (P := P) (w := w) (base := base) T
  have p_Stream_moment := p_Stream_moment (P := P) (w := w) (base := base) T
  obtain ⟨fP, fdP, FP, meP, kbP⟩ := mk_push (P := P) (w := w) (base := base) T
  obtain ⟨fR, fdR, FR, meR, bR⟩ := g_Stream_rest (P := P) (w := w) (base := base) T
  obtain ⟨f, fd, F, hm⟩ := T.d__law_pushed_right
  refine ⟨f, My.Fun.okG F sc__law_pushed_right (F.binds (ps := ["_law_pot_here", "_law_table_here", "_law_stream", "_law_mark", "_law_goods"]) fun _ _ _ _ _ _ us hl => match us, hl with | [_, _, _, _, _], _ => rfl) (fun vs H Q h => ?_) (fun cdv A outer s H vs Q hgu hr h => ?_), hm, F.kp⟩
  · obtain ⟨p, t, x, D, dx, pl, a, gp, us, ws, far, gs, ds, dg, e, _⟩ := h
    rw [e]
    rfl
  · obtain ⟨p, t, x, D, dx, pl, a, gp, us, ws, far, gs, ds, dg, rfl, hp, ntp, nap, ht, h0, h1, hs, hst, hat, g, hfar, ha, hgl, hdp, hdg, hsh, hshg, hf2, k⟩ := h
    have hx := hs.1
    have hD := hs.2.1
    have kne : ∀ {b c : Addr} {o o' : HO}, H b = some o → H c = some o' → o ≠ o' → b ≠ c := fun h1 h2 n e => by
      rw [e, h2] at h1
      exact n (Option.some.inj h1).symm
    have ntx : t ≠ x := kne ht hx (fun e => by cases e)
    have ntD : t ≠ D := kne ht hD (fun e => by cases e)
    have nax : a ≠ x := kne ha hx (fun e => by cases e)
    have naD : a ≠ D := kne ha hD (fun e => by cases e)
    have npx : p ≠ x := by
      obtain ⟨_, _, e, _⟩ := hp
      exact kne e hx (fun e => by cases e)
    have npD : p ≠ D := by
      obtain ⟨_, _, e, _⟩ := hp
      exact kne e hD (fun e => by cases e)
    have nxD : x ≠ D := fun e => StreamAt.ne hs e.symm
    generalize hG : (fun (i : Nat) => gs.getD i V.non) = G at *
    refine ⟨_, (pss_cons (ps_set (i := 5) sc__law_pushed_right.nd rfl (Or.inl rfl) (pe_lst pa_nil))
      (pss_cons (ps_for PassesOwn.never rfl (pi_enum (by rfl) T.g_enumerate (pa_cons (pv 4) pa_nil)) (pg_tup (by rfl) (pgs_cons (pg_name (i := 6) sc__law_pushed_right.nd rfl (Or.inr rfl)) (pgs_cons (pg_name (i := 7) sc__law_pushed_right.nd rfl (Or.inl rfl)) pgs_nil))) (pss_cons (ps_expr (pe_bm PySem.F.plainAttrs_list PySem.F.slot_list_append PySem.F.type_list_append mt_append (pv 5) (pa_cons (pe_tup (pa_cons (pe_d c__law_leaves hr (by decide) rfl (pa_cons (pv 1) (pa_cons (pv 6) pa_nil))) (pa_cons (pv 7) pa_nil))) pa_nil)))
      (pss_cons (ps_set (i := 8) sc__law_pushed_right.nd rfl (Or.inl rfl) (pe_ix ix_list (pe_op op_cat (pe_lc (own := [("_law_when", 11), ("_law_good", 12)]) (g := gTup K 2 (gCons (gName 11) (gCons (gName 12) gNil))) (tt := _) (by rfl) sc__law_pushed_right.nd (pi_list (pv 5)) (blkOk_by (own := [("_law_when", 11), ("_law_good", 12)]) (N := ["_law_pot_here", "_law_table_here", "_law_stream", "_law_mark", "_law_goods", "_law_pending", "_law_moment", "_law_one", "_law_due", "_law_told", "_law_row", "_law_when", "_law_good"]) (sc := defScope s__law_pushed_right) (by decide +kernel)) (fun _ _ _ _ _ => (pg_tup (by rfl) (pgs_cons (pg_name (i := 11) sc__law_pushed_right.nd rfl (Or.inl rfl)) (pgs_cons (pg_name (i := 12) sc__law_pushed_right.nd rfl (Or.inl rfl)) pgs_nil)))) (fun _ _ _ _ _ => (pts_one (pt_cmpR op_eq (pv 11) (pv 6) (nomark _)))) (fun _ _ _ _ _ => (pv 12))) (pe_lst (pa_cons (pv 3) pa_nil))) pe_int (fun _ _ => rfl)))
      (pss_cons (ps_setLc (i := 5) (own := [("_law_row", 10)]) (g := gName 10) (tt := _) (by rfl) sc__law_pushed_right.nd rfl rfl (sw_true rfl rfl rfl (by decide +kernel)) (pi_list (pv 5)) (blkOk_by (own := [("_law_row", 10)]) (N := ["_law_pot_here", "_law_table_here", "_law_stream", "_law_mark", "_law_goods", "_law_pending", "_law_moment", "_law_one", "_law_due", "_law_told", "_law_row", "_law_when", "_law_good"]) (sc := defScope s__law_pushed_right) (by decide +kernel)) (fun _ _ _ _ _ => (pg_name (i := 10) sc__law_pushed_right.nd rfl (Or.inl rfl))) (fun _ _ _ _ _ => (pts_one (pt_cmpR op_gt (pe_ix (r := rIxT K) ix_tup (pv 10) pe_int (fun _ _ => rfl)) (pv 6) (nomark _)))) (fun _ _ _ _ _ => (pv 10)))
      (pss_cons (ps_set (i := 9) sc__law_pushed_right.nd rfl (Or.inl rfl) (pe_ifExp (pt_cmpR op_eq (pe_d c__law_draw hr (by decide) rfl (pa_cons (pv 0) (pa_cons pe_int pa_nil))) pe_int (nomark _)) (pe_methK0 (pv 2) T.clS meP FP (hr.mono (by decide)) kbP pass0 (pk_cons (pv 7) pk_nil)) (pe_md m_Stream_push hr (by decide) (pv 2) (pa_cons (pv 7) pa_nil))))
      (pss_cons (ps_if (pt_cmpR op_ne (pe_callB (cr_reprD hgu hr.units) (by rfl) T.g_repr (by decide +kernel) (pa_cons (pe_lst (pa_cons (pv 9) (pa_cons (pe_prd p_Stream_moment hr (by decide) (pv 2)) (pa_cons (pe_prd p_Stream_waiting hr (by decide) (pv 2)) pa_nil)))) pa_nil)) (pe_callB (cr_reprD hgu hr.units) (by rfl) T.g_repr (by decide +kernel) (pa_cons (pe_lst (pa_cons (pv 8) (pa_cons (pe_op op_add (pv 6) pe_int) (pa_cons (pe_callB call_len (by rfl) T.g_len (by decide +kernel) (pa_cons (pv 5) pa_nil)) pa_nil)))) pa_nil)) (nomark _)) (pss_one (ps_ret pe_bl)) pss_nil)
      (pss_one (ps_if (pt_cmpR op_eq (pe_d c__law_draw hr (by decide) rfl (pa_cons (pv 0) (pa_cons pe_int pa_nil))) pe_int (nomark _)) (pss_cons (ps_set (i := 8) sc__law_pushed_right.nd rfl (Or.inl rfl) (pe_d c__law_rest hr (by decide) rfl (pa_cons (pv 5) (pa_cons (pe_op op_add (pv 6) pe_int) (pa_cons (pv 3) pa_nil)))))
      (pss_one (ps_if (pt_cmpR op_ne (pe_callB (cr_reprD hgu hr.units) (by rfl) T.g_repr (by decide +kernel) (pa_cons (pe_listG (pgen_meth0 (pv 2) T.clS meR FR (hr.mono (by decide)) bR .nil) passG noStop0 (hr.mono (by decide)) (by rfl) T.g_list rfl) pa_nil)) (pe_callB (cr_reprD hgu hr.units) (by rfl) T.g_repr (by decide +kernel) (pa_cons (pv 8) pa_nil)) (nomark _)) (pss_one (ps_ret pe_bl)) pss_nil))) pss_nil))))))))
      (pss_one (ps_ret pe_bl)))), ?_⟩
    refine ⟨small_len (show 0 ≤ 1000000 by omega), fun pa0 hpa0 => ?_⟩
    have f0 : pa0 ≠ p := PotAt.ne hp hpa0
    have f1 : pa0 ≠ x := fun e => by rw [e, hx] at hpa0; cases hpa0
    have f2 : pa0 ≠ D := fun e => by rw [e, hD] at hpa0; cases hpa0
    generalize hg : upd _ _ _ = H0
    have s0 := newS hg hpa0
    have e0 := newE hg
    clear hg
    refine ⟨_, rfl, a, gs, rfl, sq_at (s0 _ _ ha), for_enum (K := K) (a := a) (xs := gs) (fun i σ H' => Kq p x D H H' ∧ PotAt H' p ∧ StreamAt cS cP H' x D dx pl gp ws (i : Nat) (KV (kvN ws G i)) ∧ ∃ pa rs, H pa = none ∧ pa ≠ p ∧ pa ≠ x ∧ pa ≠ D ∧ H' pa = some (.lst (rs.map V.ref)) ∧ RwsL H' rs (kvN ws G i) ∧ ∃ v6 v7 v8 v9, σ = [some (.ref p), some (.ref t), some (.ref x), some gp, some (.ref a), some (.ref pa), v6, v7, v8, v9, none, none, none]) ⟨(Kq.refl p x D H).same s0, hp.same s0, StreamAt.same hs s0, pa0, [], hpa0, f0, f1, f2, e0, trivial, none, none, none, none, rfl⟩ (fun i σ H' _ q => sq_at (q.1 _ _ nap nax naD ha)) ?_ ?_⟩
    · rintro i v σ H' tt H'' hv ⟨kq, hp', hs', pa, rs, fpa, n1, n2, n3, epa, hrw, v6, v7, v8, v9, rfl⟩ hT sm' eT
      have hi : i < gs.length := (List.getElem?_eq_some_iff.mp hv).1
      have hGv : G i = v := by
        rw [← hG]
        show gs.getD i V.non = v
        rw [List.getD_eq_getElem?_getD, hv]
        rfl
      have kq1 := kq.same sm'
      have hp1 := hp'.same sm'
      have hs1 := StreamAt.same hs' sm'
      have epa1 := sm' _ _ epa
      have hrw1 := hrw.kp (fun r xs e => sm' _ _ e)
      have hwl := wt_le' ws i
      have hkl : (kvN ws G i).length ≤ i := by
        unfold kvN
        rw [List.length_map]
        exact hwl
      have hrl := hrw.get.1
      refine ⟨tt, _, rfl, st_at eT, rfl, _, _, rfl, _, _, rfl, rfl, ?_⟩
      refine ⟨_, rfl, tyl (sq_at epa1), _, rfl, _, rfl, t, us, _, rfl, kq1 _ _ ntp ntx ntD ht, h0, h1, fun H1 s1 => ?_⟩
      refine ⟨_, rfl, small_len (show 2 ≤ 1000000 by omega), fun r hr' => ?_⟩
      generalize hg : upd _ _ _ = H2
      have s2 := newS hg hr'
      have e2 := newE hg
      clear hg
      have s12 := s1.trans s2
      have epa2 := s12 _ _ epa1
      refine ⟨pa, rs.map V.ref, _, rfl, rfl, epa2, small_lt (by rw [List.length_map]; omega), ?_⟩
      have el : rs.map V.ref ++ [V.ref r] = (rs ++ [r]).map V.ref := by rw [List.map_append]; rfl
      rw [el]
      have kq3 : Kq p x D H (upd H2 pa (.lst ((rs ++ [r]).map V.ref))) := (kq1.same s12).mut fpa
      have hp3 : PotAt (upd H2 pa (.lst ((rs ++ [r]).map V.ref))) p := PotAt.put (hp1.same s12) n1
      have hs3 : StreamAt cS cP (upd H2 pa (.lst ((rs ++ [r]).map V.ref))) x D dx pl gp ws (i : Nat) (KV (kvN ws G i)) := hst _ _ _ kq3 ((upd_ne fun e => n2 e.symm).trans (s12 _ _ hs1.1)) ((upd_ne fun e => n3 e.symm).trans (s12 _ _ hs1.2.1))
      have epa3 : (upd H2 pa (.lst ((rs ++ [r]).map V.ref))) pa = some (.lst ((rs ++ [r]).map V.ref)) := upd_same
      have tst : ∀ r' xs, H2 r' = some (.tup xs) → (upd H2 pa (.lst ((rs ++ [r]).map V.ref))) r' = some (.tup xs) := fun r' xs e => (upd_ne (fun z => by rw [z, epa2] at e; cases e)).trans e
      have hrw3 : RwsL (upd H2 pa (.lst ((rs ++ [r]).map V.ref))) (rs ++ [r]) ((wtA ws i).map (pr ws G)) := by
        have ekv : (wtA ws i).map (pr ws G) = kvN ws G i ++ [pr ws G i] := by
          rw [wtA_eq g, List.map_append]
          rfl
        rw [ekv]
        refine RwsL.snoc (p := pr ws G i) ?_ ((hrw1.kp (fun r xs e => s12 _ _ e)).kp tst)
        refine tst _ _ ?_
        show H2 r = some (.tup [.int (atT ws (i : Int)), G i])
        rw [hat, hGv]
        exact e2
      generalize upd H2 pa (.lst ((rs ++ [r]).map V.ref)) = H3 at *
      generalize hrs2 : rs ++ [r] = rs2 at *
      have hkA : ((wtA ws i).map (pr ws G)).length = rs2.length := hrw3.get.1.symm
      generalize hkv : (wtA ws i).map (pr ws G) = kv at *
      have hrl2 : rs2.length ≤ 200 := by
        rw [← hrs2, List.length_append, hrl]
        show (kvN ws G i).length + 1 ≤ 200
        omega
      have rget : ∀ (j : Nat) (y : V), (rs2.map V.ref)[j]? = some y → ∃ r' q, y = .ref r' ∧ rs2[j]? = some r' ∧ kv[j]? = some q ∧ H3 r' = some (.tup [.int q.1, q.2]) := fun j y hy => by
        rw [List.getElem?_map] at hy
        cases e : rs2[j]? with
        | none =>
          rw [e] at hy
          cases hy
        | some r' =>
          rw [e] at hy
          have hj := (List.getElem?_eq_some_iff.mp e).1
          have hq := List.getElem?_eq_getElem (l := kv) (i := j) (by omega)
          exact ⟨r', _, (Option.some.inj hy).symm, rfl, hq, hrw3.get.2 j r' _ e hq⟩
      have tk : ∀ (j : Nat) q, kv[j]? = some q → kv.take (j + 1) = kv.take j ++ [q] := fun j q e => by
        rw [List.take_succ, e]
        rfl
      refine ⟨_, rfl, pa, rfl, ⟨_, sq_at epa3⟩, fun D1 hD1 => ?_⟩
      refine lc_list (K := K) (a := pa) (xs := rs2.map V.ref) (fun j H' => Same H3 H' ∧ H' D1 = some (.lst (((kv.take j).filter fun q => decide (q.1 = (i : Int))).map (·.2)))) ⟨Same.new hD1, upd_same⟩ (fun j H' _ q => sq_at (q.1 _ _ epa3)) ?_ ?_
      · rintro j y H4 hy ⟨sm4, eD⟩
        obtain ⟨r', q, rfl, hj, hq, er⟩ := rget j y hy
        refine ⟨r', _, rfl, st_at (sm4 _ _ er), rfl, _, _, rfl, _, _, rfl, rfl, ?_⟩
        refine ⟨rfl, _, rfl, _, rfl, rfl, _, rfl, ?_⟩
        by_cases hqi : q.1 = (i : Int)
        · rw [decide_eq_true (congrArg V.int hqi)]
          refine iteT ?_
          refine ⟨_, rfl, _, eD, small_lt ?_, Same.mut sm4 hD1, ?_⟩
          · rw [List.length_map]
            have := List.length_filter_le (fun q : Int × V => decide (q.1 = (i : Int))) (kv.take j)
            rw [List.length_take] at this
            omega
          · rw [upd_same, tk j q hq, List.filter_append, List.map_append, List.filter_cons_of_pos (by simpa using hqi)]
            rfl
        · rw [decide_eq_false (fun e => hqi (V.int.inj e))]
          refine iteF ?_
          refine ⟨sm4, ?_⟩
          rw [tk j q hq, List.filter_append, List.filter_cons_of_neg (by simpa using hqi), List.filter_nil, List.append_nil]
          exact eD
      rintro H4 ⟨s4, e4⟩
      rw [List.length_map, ← hkA, List.take_length] at e4
      refine ⟨_, rfl, small_len (show 1 ≤ 1000000 by omega), fun l hl => ?_⟩
      generalize hg : upd _ _ _ = H5
      have s5 := newS hg hl
      have e5 := newE hg
      clear hg
      refine ⟨D1, l, _, _, rfl, rfl, s5 _ _ e4, e5, small_len ?_, fun z hz => ?_⟩
      · rw [List.length_map]
        have := List.length_filter_le (fun q : Int × V => decide (q.1 = (i : Int))) kv
        show _ + 1 ≤ 1000000
        omega
      generalize hg : upd _ _ _ = H6
      have s6 := newS hg hz
      have e6 := newE hg
      clear hg
      refine ⟨z, _, _, _, rfl, rfl, sq_at e6, atI_nat (j := 0) (first_of kv (i : Int) gp), ?_⟩
      have s36 := s4.trans (s5.trans s6)
      refine ⟨_, rfl, pa, rfl, ⟨_, sq_at (s36 _ _ epa3)⟩, fun pb hpb => ?_⟩
      refine lc_list (K := K) (a := pa) (xs := rs2.map V.ref) (fun j H' => Same H6 H' ∧ ∃ rs', H' pb = some (.lst (rs'.map V.ref)) ∧ RwsL H' rs' ((kv.take j).filter fun q => decide ((i : Int) < q.1))) ⟨Same.new hpb, [], upd_same, trivial⟩ (fun j H' _ q => sq_at (q.1 _ _ (s36 _ _ epa3))) ?_ ?_
      · rintro j y H7 hy ⟨sm7, rs', eD, hrw'⟩
        obtain ⟨r', q, rfl, hj, hq, er⟩ := rget j y hy
        have er7 := sm7 _ _ (s36 _ _ er)
        refine ⟨rfl, _, rfl, r', _, _, _, rfl, rfl, st_at er7, rfl, _, rfl, _, _, rfl, rfl, _, rfl, ?_⟩
        by_cases hqi : (i : Int) < q.1
        · rw [decide_eq_true hqi]
          refine iteT ?_
          refine ⟨_, rfl, _, eD, small_lt ?_, Same.mut sm7 hpb, rs' ++ [r'], ?_, ?_⟩
          · rw [List.length_map, hrw'.get.1]
            have := List.length_filter_le (fun q : Int × V => decide ((i : Int) < q.1)) (kv.take j)
            rw [List.length_take] at this
            omega
          · rw [upd_same, List.map_append]
            rfl
          · rw [tk j q hq, List.filter_append, List.filter_cons_of_pos (by simpa using hqi), List.filter_nil]
            have tst' : ∀ r'' xs, H7 r'' = some (.tup xs) → (upd H7 pb (.lst (rs'.map V.ref ++ [V.ref r']))) r'' = some (.tup xs) := fun r'' xs e => (upd_ne (fun z => by rw [z, eD] at e; cases e)).trans e
            exact RwsL.snoc (tst' _ _ er7) (hrw'.kp tst')
        · rw [decide_eq_false hqi]
          refine iteF ?_
          refine ⟨sm7, rs', eD, ?_⟩
          rw [tk j q hq, List.filter_append, List.filter_cons_of_neg (by simpa using hqi), List.filter_nil, List.append_nil]
          exact hrw'
      rintro H7 ⟨s7, rsb, epb, hrwb⟩
      rw [List.length_map, ← hkA, List.take_length, ← hkv, kvA_filter g] at hrwb
      have s37 := s36.trans s7
      have kq7 := kq3.same s37
      have hp7 := hp3.same s37
      have hs7 := StreamAt.same hs3 s37
      have hpb3 : H3 pb = none := s36.free hpb
      have m1 : pb ≠ p := PotAt.ne hp3 hpb3
      have m2 : pb ≠ x := fun e => by rw [e, hs3.1] at hpb3; cases hpb3
      have m3 : pb ≠ D := fun e => by rw [e, hs3.2.1] at hpb3; cases hpb3
      have fpb : H pb = none := kq3.free m1 m2 m3 hpb3
      refine ⟨_, rfl, p, 2, rfl, hp7, by omega, by omega, fun c H8 c0 c1 k8 hp8 => ?_⟩
      have kq8 := kq7.pot k8
      have hs8 : StreamAt cS cP H8 x D dx pl gp ws (i : Nat) (KV (kvN ws G i)) := hst _ _ _ kq8 (k8 _ _ npx.symm hs7.1) (k8 _ _ npD.symm hs7.2.1)
      have epb8 := k8 _ _ m1 epb
      have pt8 : ∀ r' xs, H7 r' = some (.tup xs) → H8 r' = some (.tup xs) := fun r' xs e => k8 _ _ (fun z => by
        obtain ⟨_, _, e', _⟩ := hp7
        rw [z, e'] at e
        cases e) e
      have hrwb8 := hrwb.kp pt8
      have hGj : ∀ j : Nat, gs.getD j V.non = G j := fun j => congrFun hG j
      have ev : (valV (putK (KV (kvN ws G i)) (.inl (atT ws (i : Int))) v) (.inl (i : Int))).getD gp = oV G gp (srcN ws (i + 1) i) := by
        rw [← hGv, step_put g, step_val g]
      have evd : (valV (KV kv) (.inl (i : Int))).getD gp = oV G gp (srcN ws (i + 1) i) := by
        rw [← hkv, step_val g]
      have hdo : ∀ (n m : Nat) H'', n ≤ gs.length → Kq p x D H H'' → Dp K H'' (oV G gp (srcN ws n m)) (oD ds dg (srcN ws n m)) := fun n m H'' hn kk => dp_oV (N := gs.length) (fun j hj => by
        rw [← hGj]
        exact hdp j hj H'' kk) (hdg H'' kk) _ (fun j e => by
        have := ((src_iff g).mp e).1
        omega)
      have hso : ∀ (n m : Nat), n ≤ gs.length → Shw 30 5 (oD ds dg (srcN ws n m)) := fun n m hn => shw_oD (N := gs.length) hsh hshg _ (fun j e => by
        have := ((src_iff g).mp e).1
        omega)
      have hwl2 := wt_le' ws (i + 1)
      have hkl2 : (kvN ws G (i + 1)).length ≤ i + 1 := by
        unfold kvN
        rw [List.length_map]
        exact hwl2
      have hkey : ∀ q ∈ kvN ws G (i + 1), q.1 ≤ 900000 := fun q hq => by
        obtain ⟨j, hj, e, _⟩ := (kv_key g).mp (List.mem_map.mpr ⟨q, hq, rfl⟩)
        have := g.le (j : Int)
        omega
      have hsw3 : Shw (3 * 31) 6 (.list [oD ds dg (srcN ws (i + 1) i), .int ((i : Int) + 1), .int ((KV (kvN ws G (i + 1))).length : Nat)]) := Shw.list (b := 30) (k := 5) (n := 3) (fun d hd => by
        rcases List.mem_cons.mp hd with rfl | hd
        · exact hso _ _ (by omega)
        · rcases List.mem_cons.mp hd with rfl | hd
          · exact (Shw.int (by omega)).mono (by omega) (by omega)
          · rw [List.mem_singleton.mp hd]
            refine (Shw.int ?_).mono (by omega) (by omega)
            rw [kvN_len]
            omega) (Nat.le_refl _)
      have hlb : (KV (kvN ws G (i + 1))).length = (rsb.map V.ref).length := by
        unfold KV
        rw [List.length_map, List.length_map]
        exact hrwb.get.1.symm
      refine ⟨rfl, _, rfl, ?_⟩
      refine ite2 (fun _ => ?_) (fun _ => ?_)
      all_goals
        refine ⟨_, rfl, x, dx, _, rfl, hs8.1, rfl, _, rfl, x, D, dx, pl, gp, ws, _, _, _, rfl, hs8, by rw [kvN_len]; omega, fun H9 kp9 hs9 => ?_⟩
        rw [ev]
        rw [← hGv, step_put g, step_drop g] at hs9
        have kq9 := kq8.str kp9
        have epb9 := kp9 _ _ m2 m3 epb8
        have hp9 : PotAt H9 p := by
          obtain ⟨a', b', h1, h2⟩ := hp8
          exact ⟨a', b', kp9 _ _ npx npD h1, h2⟩
        have hrwb9 := hrwb8.kp (fun r' xs e => kp9 _ _ (fun z => by rw [z, hs8.1] at e; cases e) (fun z => by rw [z, hs8.2.1] at e; cases e) e)
        refine ⟨_, rfl, _, rfl, x, dx, _, rfl, hs9.1, x, D, dx, pl, gp, ws, _, _, rfl, hs9, _, rfl, x, dx, _, rfl, hs9.1, x, D, dx, pl, gp, ws, _, _, rfl, hs9, small_len (show 3 ≤ 1000000 by omega), fun l1 hl1 => ?_⟩
        generalize hg : upd _ _ _ = H10
        have s10 := newS hg hl1
        have e10 := newE hg
        clear hg
        have kq10 := kq9.same s10
        refine ⟨l1, _, rfl, .lst (sq_at e10) (.cons (hdo _ _ H10 (by omega) kq10) (.cons (.int _) (.cons (.int _) .nil))), hsw3.sh, Nat.le_trans hsw3.dp (by omega), hsw3.fits (by omega), ?_⟩
        refine ⟨_, rfl, _, rfl, _, _, rfl, rfl, _, rfl, _, (KV (kvN ws G (i + 1))).length, rfl, .inl ⟨_, sq_at (s10 _ _ epb9), hlb⟩, small_len (show 3 ≤ 1000000 by omega), fun l2 hl2 => ?_⟩
        rw [evd]
        generalize hg : upd _ _ _ = H11
        have s11 := newS hg hl2
        have e11 := newE hg
        clear hg
        have kq11 := kq10.same s11
        refine ⟨l2, _, rfl, .lst (sq_at e11) (.cons (hdo _ _ H11 (by omega) kq11) (.cons (.int _) (.cons (.int _) .nil))), hsw3.sh, Nat.le_trans hsw3.dp (by omega), hsw3.fits (by omega), ?_⟩
        refine ⟨rfl, _, rfl, ?_⟩
        refine iteNS rfl ?_
        have s911 := s10.trans s11
        have hp11 := hp9.same s911
        have hs11 := StreamAt.same hs9 s911
        have epb11 := s911 _ _ epb9
        have hrwb11 := hrwb9.kp (fun r' xs e => s911 _ _ e)
        refine ⟨_, rfl, p, 9, rfl, hp11, by omega, by omega, fun c2 H12 _ _ k12 hp12 => ?_⟩
        have kq12 := kq11.pot k12
        have hs12 : StreamAt cS cP H12 x D dx pl gp ws ((i : Int) + 1) (KV (kvN ws G (i + 1))) := hst _ _ _ kq12 (k12 _ _ npx.symm hs11.1) (k12 _ _ npD.symm hs11.2.1)
        have epb12 := k12 _ _ m1 epb11
        have hrwb12 := hrwb11.kp (fun r' xs e => k12 _ _ (fun z => by
          obtain ⟨_, _, e', _⟩ := hp11
          rw [z, e'] at e
          cases e) e)
        have hs12' : StreamAt cS cP H12 x D dx pl gp ws ((i + 1 : Nat) : Int) (KV (kvN ws G (i + 1))) := by
          rw [Int.natCast_add]
          exact hs12
        refine ⟨rfl, _, rfl, ?_⟩
        refine ite2 (fun _ => ?_) (fun _ => ?_)
        · refine ⟨_, rfl, _, rfl, _, _, rfl, rfl, _, rfl, pb, (i : Int) + 1, gp, kvN ws G (i + 1), rfl, hrwb12.rows epb12, kv_nodup g (i + 1), by omega, by omega, by omega, hkey, fun last la1 la2 q H13 s13 hq13 e13 => ?_⟩
          have hs13 := StreamAt.same hs12 s13
          refine ⟨_, rfl, x, dx, _, rfl, hs13.1, rfl, x, D, dx, pl, gp, ws, _, kvN ws G (i + 1), rfl, hs13, kv_nodup g (i + 1), by omega, by omega, by omega, hkey, fun last' lb1 lb2 H14 s14 => fun rr hrr => ?_⟩
          obtain rfl := max_eq la1 la2 lb1 lb2
          generalize hg : upd _ _ _ = H15
          have s15 := newS hg hrr
          have e15 := newE hg
          clear hg
          have s1315 := s14.trans s15
          have kq15 := ((kq12.same s13).same s14).same s15
          have hlast : last ≤ 900000 := by
            rcases List.mem_cons.mp la1 with e | e
            · omega
            · obtain ⟨q', hq', rfl⟩ := List.mem_map.mp e
              exact hkey q' hq'
          have hlast2 : last ≤ (i : Int) + 2500 := by
            rcases List.mem_cons.mp la1 with e | e
            · omega
            · obtain ⟨j, hj, e2, _⟩ := (kv_key g).mp e
              have := g.le (j : Int)
              omega
          have exs : ((List.range (last + 1 - ((i : Int) + 1)).toNat).map fun (n : Nat) => (valV (KV (kvN ws G (i + 1))) (.inl ((i : Int) + 1 + (n : Int)))).getD gp) = (List.range (last + 1 - ((i : Int) + 1)).toNat).map fun (n : Nat) => oV G gp (srcN ws (i + 1) (i + 1 + n)) := by
            refine List.map_congr_left fun n _ => ?_
            have := val_rest (G := G) (gp := gp) g (N := i + 1) (m := i + 1 + n) (by omega)
            rw [show ((i + 1 + n : Nat) : Int) = (i : Int) + 1 + (n : Int) by omega] at this
            exact this
          rw [exs] at e13 e15
          have hdl : ∀ H'', Kq p x D H H'' → DpAll K H'' ((List.range (last + 1 - ((i : Int) + 1)).toNat).map fun (n : Nat) => oV G gp (srcN ws (i + 1) (i + 1 + n))) ((List.range (last + 1 - ((i : Int) + 1)).toNat).map fun (n : Nat) => oD ds dg (srcN ws (i + 1) (i + 1 + n))) := fun H'' kk => dpAll_map _ _ _ fun n _ => hdo _ _ H'' (by omega) kk
          have hsl : Shw (3000 * 31) 6 (.list ((List.range (last + 1 - ((i : Int) + 1)).toNat).map fun (n : Nat) => oD ds dg (srcN ws (i + 1) (i + 1 + n)))) := Shw.list (b := 30) (k := 5) (n := 3000) (fun d hd => by
            obtain ⟨n, _, rfl⟩ := List.mem_map.mp hd
            exact hso _ _ (by omega)) (by rw [List.length_map, List.length_range]; omega)
          refine ⟨rr, _, rfl, .lst (sq_at e15) (hdl H15 kq15), hsl.sh, Nat.le_trans hsl.dp (by omega), hsl.fits (by omega), ?_⟩
          refine ⟨_, rfl, q, _, rfl, .lst (sq_at (s1315 _ _ e13)) (hdl H15 kq15), hsl.sh, Nat.le_trans hsl.dp (by omega), hsl.fits (by omega), ?_⟩
          refine ⟨rfl, _, rfl, ?_⟩
          refine iteNS rfl ?_
          have sf := s13.trans s1315
          exact ⟨kq15, hp12.same sf, StreamAt.same hs12' sf, pb, rsb, fpb, m1, m2, m3, sf _ _ epb12, hrwb12.kp (fun r' xs e => sf _ _ e), _, _, _, _, rfl⟩
        · exact ⟨kq12, hp12, hs12', pb, rsb, fpb, m1, m2, m3, epb12, hrwb12, _, _, _, _, rfl⟩
    · rintro σ H' ⟨kq, hp', hs', pa, rs, fpa, n1, n2, n3, epa, hrw, v6, v7, v8, v9, rfl⟩
      exact k H' kq hp' hs'
end
end My

end
section
set_option linter.all false
set_option maxRecDepth 100000
set_option maxHeartbeats 1000000
namespace My
open PySem PySem.Spec PyProof.Rows L2 StX ClX
def sp_itself : Sp := fun vs H Q _ => ∃ p, vs = [.ref p] ∧ PotAt H p ∧ ∀ H', KpP p H H' → Q (.bl true) H'
theorem late_pair {f : Int} (hf : 0 ≤ f) : lateT [f, -f] = f := by
  refine (late_is (.inr ⟨-f, by simp, by omega⟩) hf fun o ho => ?_).symm
  rcases List.mem_cons.mp ho with rfl | ho
  · omega
  · rw [List.mem_singleton.mp ho]
    omega
theorem tab_pair (c : Int) (h0 : 0 ≤ c) (h1 : c ≤ 499) : TabOf 2 [1 + 2 * c, -(1 + 2 * c)] := ⟨rfl, ⟨[1, 0], List.Perm.swap 0 1 [], fun i hi => by
    rcases (show i = 0 ∨ i = 1 by omega) with rfl | rfl
    · exact ⟨c, by show 1 + 2 * c = 1 - ((0 : Nat) : Int) + ((2 : Nat) : Int) * c; omega⟩
    · exact ⟨-c, by show -(1 + 2 * c) = 0 - ((1 : Nat) : Int) + ((2 : Nat) : Int) * (-c); omega⟩⟩, fun o ho => by
    rcases List.mem_cons.mp ho with rfl | ho
    · omega
    · rw [List.mem_singleton.mp ho]
      omega⟩
section
variable {P : Program} {w : World} {K : PySem.W.Frag} {mg : Str → Option Value} {base : Heap} {cM cP cS : Addr} (T : Txt K mg cM cP cS)
include T
set_option maxHeartbeats 0 in
theorem g__law_itself_right : ∃ f, FnG P w K mg base 10 f sp_itself ∧ mg "_law_itself_right" = some (.ref f) ∧ PySem.W.keepIn K (.ref f) = true := by
  have c__law_draw := c__law_draw (P := P) (w := w) (base := base) T
  have k_Plan := k_Plan (P := P) (w := w) (base := base) T
  have m_Stream_push := m_Stream_push (P := P) (w := w) (base := base) T
  obtain ⟨fS, fdS, MS, FS1, ⟨mv1, kS1⟩, ⟨mv0, kS0⟩⟩ := mk_S (P := P) (w := w) (base := base) T
  obtain ⟨fP, fdP, FP, meP, kbP⟩ := mk_push (P := P) (w := w) (base := base) T
  obtain ⟨fR, fdR, FR, meR, bR⟩ := g_Stream_rest (P := P) (w := w) (base := base) T
  obtain ⟨f, fd, F, hm⟩ := T.d__law_itself_right
  refine ⟨f, My.Fun.okG F sc__law_itself_right (F.binds (ps := ["_law_pot_here"]) fun _ _ _ _ _ _ us hl => match us, hl with | [_], _ => rfl) (fun vs H Q h => ?_) (fun cdv A outer s H vs Q hgu hr h => ?_), hm, F.kp⟩
  · obtain ⟨p, e, _⟩ := h
    rw [e]
    rfl
  · obtain ⟨p, rfl, hp, k⟩ := h
    refine ⟨_, (pss_cons (ps_par (i := 1) (j := 2) (by rfl) sc__law_itself_right.nd rfl rfl (by decide) rfl rfl (pa_cons (pe_op op_add pe_int (pe_op op_mul pe_int (pe_d c__law_draw hr (by decide) rfl (pa_cons (pv 0) (pa_cons pe_int pa_nil))))) (pa_cons (pe_lst (pa_cons pe_str pa_nil)) pa_nil)) (by rfl))
      (pss_cons (ps_set (i := 3) sc__law_itself_right.nd rfl (Or.inl rfl) (pe_makeK MS FS1 (hr.mono (by decide)) (by rfl) T.m_Stream kS1 pass0 (pa_cons (pe_mkd k_Plan hr (by decide) rfl (pa_cons (pe_lst (pa_cons (pv 1) (pa_cons (pe_op op_sub pe_int (pv 1)) pa_nil))) pa_nil)) pa_nil) (pk_cons pe_str pk_nil)))
      (pss_cons (ps_if (pt_cmpR op_ne (pe_md m_Stream_push hr (by decide) (pv 3) (pa_cons (pv 2) pa_nil)) pe_str (nomark _)) (pss_one (ps_ret pe_bl)) pss_nil)
      (pss_cons (ps_expr (pe_bm PySem.F.plainAttrs_list PySem.F.slot_list_append PySem.F.type_list_append mt_append (pv 2) (pa_cons pe_str pa_nil)))
      (pss_cons (ps_for PassesOwn.never rfl (pi_range2 (by rfl) T.g_range (pa_cons pe_int (pa_cons (pe_op op_mul pe_int (pv 1)) pa_nil))) (pg_name (i := 4) sc__law_itself_right.nd rfl (Or.inl rfl)) (pss_one (ps_expr (pe_methK0 (pv 3) T.clS meP FP (hr.mono (by decide)) kbP pass0 (pk_cons (pv 4) pk_nil)))))
      (pss_cons (ps_expr (pe_bm PySem.F.plainAttrs_list PySem.F.slot_list_append PySem.F.type_list_append mt_append (pv 2) (pa_cons pe_str pa_nil)))
      (pss_cons (ps_set (i := 5) sc__law_itself_right.nd rfl (Or.inl rfl) (pe_listG (pgen_meth0 (pv 3) T.clS meR FR (hr.mono (by decide)) bR .nil) passG noStop0 (hr.mono (by decide)) (by rfl) T.g_list rfl))
      (pss_cons (ps_if (pt_cmpR op_ne (pe_callB (cr_reprD hgu hr.units) (by rfl) T.g_repr (by decide +kernel) (pa_cons (pe_ix ix_list (pv 5) pe_int (fun _ _ => rfl)) pa_nil)) (pe_callB (cr_reprD hgu hr.units) (by rfl) T.g_repr (by decide +kernel) (pa_cons (pe_lst (pa_cons pe_str (pa_cons pe_str (pa_cons pe_str pa_nil)))) pa_nil)) (nomark _)) (pss_one (ps_ret pe_bl)) pss_nil)
      (pss_cons (ps_set (i := 6) sc__law_itself_right.nd rfl (Or.inl rfl) (pe_md m_Stream_push hr (by decide) (pv 3) (pa_cons pe_int pa_nil)))
      (pss_cons (ps_if (pt_cmpR op_ne (pe_callB (cr_reprD hgu hr.units) (by rfl) T.g_repr (by decide +kernel) (pa_cons (pv 6) pa_nil)) (pe_callB (cr_reprD hgu hr.units) (by rfl) T.g_repr (by decide +kernel) (pa_cons (pe_lst (pa_cons pe_str (pa_cons pe_str (pa_cons pe_str pa_nil)))) pa_nil)) (nomark _)) (pss_one (ps_ret pe_bl)) pss_nil)
      (pss_cons (ps_expr (pe_bm PySem.F.plainAttrs_list PySem.F.slot_list_append PySem.F.type_list_append mt_append (pv 6) (pa_cons pe_str pa_nil)))
      (pss_one (ps_ret (pe_cmpR (op_eqD hr.units) (pv 2) (pe_lst (pa_cons pe_str (pa_cons pe_str (pa_cons pe_str (pa_cons pe_str pa_nil))))) (nomark _))))))))))))))), ?_⟩
    refine ⟨_, rfl, p, 20, rfl, hp, by omega, by omega, fun c H1 c0 c1 k1 hp1 => ?_⟩
    refine ⟨_, _, rfl, rfl, .inl ⟨by decide, by decide⟩, _, _, rfl, rfl, ?_⟩
    refine ⟨small_len (show 1 ≤ 1000000 by omega), fun o ho => ?_⟩
    generalize hg : upd _ _ _ = H2
    have s2 := newS hg ho
    have e2 := newE hg
    clear hg
    refine ⟨_, _, rfl, ?_⟩
    refine ⟨_, rfl, _, rfl, _, _, rfl, rfl, small_len (show 2 ≤ 1000000 by omega), fun l hl => ?_⟩
    generalize hg : upd _ _ _ = H3
    have s3 := newS hg hl
    have e3 := newE hg
    clear hg
    have tab : TabOf 2 [1 + 2 * c, -(1 + 2 * c)] := tab_pair c c0 (by omega)
    have e3' : H3 l = some (.lst (LI [1 + 2 * c, -(1 + 2 * c)])) := by
      rw [e3]
      show some (HO.lst [V.int (1 + 2 * c), V.int (0 - (1 + 2 * c))]) = some (HO.lst [V.int (1 + 2 * c), V.int (-(1 + 2 * c))])
      rw [Int.zero_sub]
    have hlt := late_pair (f := 1 + 2 * c) (by omega)
    generalize hf : 1 + 2 * c = ff at *
    have vt : VT [ff, -ff] := tab.vt (by omega) (by omega)
    intro pl0 pdx hpl0 hpd hpn
    have s3a : Same H3 (upd (upd H3 pdx (.own pl0)) pl0 (.ins cP pdx [])) := Same.mut (Same.new hpd) hpl0
    refine ⟨pl0, l, pdx, [ff, -ff], H3, rfl, s3a, hpl0, upd_same, s3a _ _ e3', vt, fun H4 s4 hplan => ⟨rfl, ?_⟩⟩
    refine ⟨rfl, rfl, ?_⟩
    intro x dx hx hdx hne
    have s4a : Same H4 (upd (upd H4 dx (.own x)) x (.ins cS dx [])) := Same.mut (Same.new hdx) hx
    refine ⟨x, pl0, dx, _, _, H4, rfl, s4a, hx, upd_same, (PlanFr.at hplan).same s4a, fun D pl H5 s5 hD nD hs hst => ⟨rfl, ?_⟩⟩
    have g : Gd ([ff, -ff].map (· + lateT [ff, -ff])) (ff + lateT [ff, -ff]) := tab.gd (by omega) fun z hz => by
      rcases List.mem_cons.mp hz with rfl | hz
      · omega
      · rw [List.mem_singleton.mp hz]
        omega
    have hat0 : atT ([ff, -ff].map (· + lateT [ff, -ff])) ((0 : Nat) : Int) = 2 * ff := by
      rw [atT_map _ _ (by show 0 < 2; omega), hlt, atT_nat _ (by show 0 < 2; omega)]
      show ((0 : Nat) : Int) + ff + ff = 2 * ff
      omega
    generalize hws : [ff, -ff].map (· + lateT [ff, -ff]) = ws at *
    generalize hfar : ff + lateT [ff, -ff] = far at *
    have hfar2 : far ≤ 100 := by omega
    obtain ⟨G, hG0, hGm, hGe⟩ : ∃ G : Nat → V, G 0 = .ref o ∧ (∀ i : Nat, 0 < i → (i : Int) ≠ 2 * ff → G i = .int (i : Int)) ∧ (∀ i : Nat, (i : Int) = 2 * ff → G i = .int 0) := by
      refine ⟨fun i => if i = 0 then .ref o else if (i : Int) = 2 * ff then .int 0 else .int (i : Int), rfl, fun i h1 h2 => ?_, fun i h => ?_⟩
      · show (if i = 0 then V.ref o else if (i : Int) = 2 * ff then V.int 0 else V.int (i : Int)) = _
        rw [if_neg (by omega), if_neg h2]
      · show (if i = 0 then V.ref o else if (i : Int) = 2 * ff then V.int 0 else V.int (i : Int)) = _
        rw [if_neg (by omega), if_pos h]
    have s24 : Same H2 H4 := s3.trans s4
    have e4o := s24 _ _ e2
    have e5o := s5 _ _ e4o
    have nox : o ≠ x := fun e => by rw [e, hx] at e4o; cases e4o
    have noD : o ≠ D := fun e => by rw [e, hD] at e4o; cases e4o
    have hst2 : ∀ H' n' kvs', (∀ b u, b ≠ x → b ≠ D → b ≠ o → H5 b = some u → H' b = some u) → H' x = some (.ins cS dx (flds pl (.str "gap") n' D)) → H' D = some (.dK kvs') → StreamAt cS cP H' x D dx pl (.str "gap") ws n' kvs' := fun H' n' kvs' r ex eD => hst H' n' kvs' (fun b u h1 h2 h3 h4 => r b u h2 h3 (fun e => by rw [e, e4o] at h1; cases h1) h4) ex eD
    have hfree : H o = none := by
      have n := PotAt.ne hp1 ho
      cases e : H o with
      | none => rfl
      | some u =>
        have := k1 o u n e
        rw [ho] at this
        cases this
    have hfx : H x = none := by
      have nx : x ≠ p := fun e => by
        obtain ⟨_, _, e', _⟩ := (hp1.same s2).same s24
        rw [← e, hx] at e'
        cases e'
      cases e : H x with
      | none => rfl
      | some u =>
        have := s24 _ _ (s2 _ _ (k1 x u nx e))
        rw [hx] at this
        cases this
    have hfD : H D = none := by
      have nx : D ≠ p := fun e => by
        obtain ⟨_, _, e', _⟩ := (hp1.same s2).same s24
        rw [← e, hD] at e'
        cases e'
      cases e : H D with
      | none => rfl
      | some u =>
        have := s24 _ _ (s2 _ _ (k1 D u nx e))
        rw [hD] at this
        cases this
    have kfin : ∀ H', (∀ b u, b ≠ x → b ≠ D → b ≠ o → H5 b = some u → H' b = some u) → KpP p H H' := fun H' r b u n e => r b u (ne_of_none e hfx) (ne_of_none e hfD) (ne_of_none e hfree) (s5 _ _ (s24 _ _ (s2 _ _ (k1 b u n e))))
    have ev0 : (valV (putK ([] : List (Key × V)) (Sum.inl (atT ws 0)) (V.ref o)) (Sum.inl 0)).getD (V.str "gap") = V.str "gap" := by
      have h := step_put (G := G) g 0
      have h2 := step_val (G := G) (gp := V.str "gap") g 0
      rw [← h, hG0] at h2
      refine Eq.trans h2 ?_
      have : srcN ws (0 + 1) 0 = none := by
        cases e : srcN ws (0 + 1) 0 with
        | none => rfl
        | some j =>
          obtain ⟨h3, h4⟩ := (src_iff g).mp e
          have : j = 0 := by omega
          subst this
          rw [hat0] at h4
          omega
      rw [this]
      rfl
    refine ⟨_, rfl, x, dx, _, rfl, hs.1, rfl, _, rfl, x, D, dx, pl, _, ws, _, _, _, rfl, hs, (show 0 < 1000000 by omega), fun H6 kp6 hs6 => ?_⟩
    rw [ev0]
    refine ⟨rfl, _, rfl, ?_⟩
    refine iteNS rfl ?_
    have hs6' : StreamAt cS cP H6 x D dx pl (.str "gap") ws ((0 + 1 : Nat) : Int) (KV (kvN ws G (0 + 1))) := by
      have h := step_put (G := G) g 0
      have h2 := step_drop (G := G) g 0
      rw [← h, hG0] at h2
      rw [← h2]
      exact hs6
    have e6o := kp6 _ _ nox noD e5o
    refine ⟨_, rfl, tyl (sq_at e6o), o, _, _, rfl, rfl, e6o, small_lt (show 1 < 1000000 by omega), ?_⟩
    have r7 : ∀ b u, b ≠ x → b ≠ D → b ≠ o → H5 b = some u → (upd H6 o (.lst ([V.str "a"] ++ [V.str "b"]))) b = some u := fun b u h1 h2 h3 e => (upd_ne h3).trans (kp6 b u h1 h2 e)
    have hs7 := hst2 _ _ _ r7 ((upd_ne nox.symm).trans hs6'.1) ((upd_ne noD.symm).trans hs6'.2.1)
    have e7o : (upd H6 o (.lst ([V.str "a"] ++ [V.str "b"]))) o = some (.lst ([V.str "a"] ++ [V.str "b"])) := upd_same
    generalize upd H6 o (.lst ([V.str "a"] ++ [V.str "b"])) = H7 at *
    refine ⟨_, rfl, _, _, rfl, rfl, .inl ⟨by decide, by decide⟩, 1, 2 * ff, by rw [← hf], ⟨by decide, by decide, by omega, by omega⟩, ?_⟩
    have hn : (((2 * ff - 1).toNat + 1 : Nat) : Int) = 2 * ff := by omega
    have hnb : (2 * ff - 1).toNat ≤ 100 := by omega
    generalize (2 * ff - 1).toNat = n at *
    refine for_range (fun i σ H' => (∀ b u, b ≠ x → b ≠ D → b ≠ o → H5 b = some u → H' b = some u) ∧ H' o = some (.lst [V.str "a", V.str "b"]) ∧ StreamAt cS cP H' x D dx pl (.str "gap") ws ((i + 1 : Nat) : Int) (KV (kvN ws G (i + 1))) ∧ ∃ v4, σ = [some (.ref p), some (.int ff), some (.ref o), some (.ref x), v4, none, none]) ⟨r7, e7o, hs7, none, ?_⟩ ?_ ?_
    · rw [← hf]
      rfl
    · rintro i σ H' hi ⟨r', eo, hs', v4, rfl⟩
      have hGi : G (i + 1) = .int (1 + (i : Int)) := by
        rw [hGm (i + 1) (by omega) (by omega)]
        congr 1
        omega
      have hwl := wt_le' ws (i + 1)
      refine ⟨_, rfl, x, dx, _, rfl, hs'.1, rfl, _, rfl, x, D, dx, pl, _, ws, _, _, _, rfl, hs', by rw [kvN_len]; omega, fun H8 kp8 hs8 => ?_⟩
      rw [← hGi, step_put g, step_drop g] at hs8
      have r8 : ∀ b u, b ≠ x → b ≠ D → b ≠ o → H5 b = some u → H8 b = some u := fun b u h1 h2 h3 e => kp8 b u h1 h2 (r' b u h1 h2 h3 e)
      refine ⟨r8, kp8 _ _ nox noD eo, ?_, _, rfl⟩
      rw [Int.natCast_add]
      exact hs8
    rintro σ H8 ⟨r8, e8o, hs8, v4, rfl⟩
    refine ⟨_, rfl, tyl (sq_at e8o), o, _, _, rfl, rfl, e8o, small_lt (show 2 < 1000000 by omega), ?_⟩
    have r9 : ∀ b u, b ≠ x → b ≠ D → b ≠ o → H5 b = some u → (upd H8 o (.lst ([V.str "a", V.str "b"] ++ [V.str "c"]))) b = some u := fun b u h1 h2 h3 e => (upd_ne h3).trans (r8 b u h1 h2 h3 e)
    have hs9 := hst2 _ _ _ r9 ((upd_ne nox.symm).trans hs8.1) ((upd_ne noD.symm).trans hs8.2.1)
    have e9o : (upd H8 o (.lst ([V.str "a", V.str "b"] ++ [V.str "c"]))) o = some (.lst ([V.str "a", V.str "b"] ++ [V.str "c"])) := upd_same
    generalize upd H8 o (.lst ([V.str "a", V.str "b"] ++ [V.str "c"])) = H9 at *
    have hwl := wt_le' ws (n + 1)
    refine ⟨_, rfl, x, dx, _, rfl, hs9.1, rfl, x, D, dx, pl, _, ws, _, kvN ws G (n + 1), rfl, hs9, kv_nodup g (n + 1), ?_, by omega, by omega, ?_, fun last l1 l2 H10 s10 => fun rr hrr => ?_⟩
    · unfold kvN
      rw [List.length_map]
      omega
    · intro pq hpq
      obtain ⟨i, hi, e, _⟩ := (kv_key g).mp (List.mem_map.mpr ⟨pq, hpq, rfl⟩)
      have := g.le (i : Int)
      omega
    generalize hg : upd _ _ _ = H11
    have s11 := newS hg hrr
    have e11 := newE hg
    clear hg
    have s911 := s10.trans s11
    have src0 : ∀ N : Nat, n + 1 ≤ N → srcN ws N (n + 1) = some 0 := fun N hN => (src_iff g).mpr ⟨by omega, by rw [hat0, hn]⟩
    have hkey : (2 * ff) ∈ (kvN ws G (n + 1)).map (·.1) := (kv_key g).mpr ⟨0, by omega, hat0, by omega⟩
    have hlast := l2 _ (List.mem_cons_of_mem _ hkey)
    have first : ((List.range (last + 1 - ((n + 1 : Nat) : Int)).toNat).map fun (i : Nat) => (valV (KV (kvN ws G (n + 1))) (.inl (((n + 1 : Nat) : Int) + (i : Int)))).getD (V.str "gap"))[0]? = some (.ref o) := by
      rw [List.getElem?_map, List.getElem?_range (by omega)]
      have h := val_rest (G := G) (gp := V.str "gap") g (N := n + 1) (m := n + 1) (Nat.le_refl _)
      rw [src0 (n + 1) (Nat.le_refl _)] at h
      show some ((valV (KV (kvN ws G (n + 1))) (.inl (((n + 1 : Nat) : Int) + ((0 : Nat) : Int)))).getD (V.str "gap")) = _
      rw [show ((n + 1 : Nat) : Int) + ((0 : Nat) : Int) = ((n + 1 : Nat) : Int) by omega, h]
      show some (G 0) = _
      rw [hG0]
    refine ⟨_, rfl, rr, _, _, _, rfl, rfl, sq_at e11, atI_nat (j := 0) first, ?_⟩
    have sh3 : Shw 30 1 (.list [.str "a", .str "b", .str "c"]) := (Shw.list (b := 5) (k := 0) (n := 3) (fun d hd => by
      rcases List.mem_cons.mp hd with rfl | hd
      · exact Shw.str (by decide +kernel) (by decide +kernel)
      · rcases List.mem_cons.mp hd with rfl | hd
        · exact Shw.str (by decide +kernel) (by decide +kernel)
        · rw [List.mem_singleton.mp hd]
          exact Shw.str (by decide +kernel) (by decide +kernel)) (Nat.le_refl _)).mono (by omega) (by omega)
    refine ⟨o, _, rfl, .lst (sq_at (s911 _ _ e9o)) (.cons (.str _) (.cons (.str _) (.cons (.str _) .nil))), sh3.sh, Nat.le_trans sh3.dp (by omega), sh3.fits (by omega), ?_⟩
    refine ⟨small_len (show 3 ≤ 1000000 by omega), fun q1 hq1 => ?_⟩
    generalize hg : upd _ _ _ = H12
    have s12 := newS hg hq1
    have e12 := newE hg
    clear hg
    refine ⟨q1, _, rfl, .lst (sq_at e12) (.cons (.str _) (.cons (.str _) (.cons (.str _) .nil))), sh3.sh, Nat.le_trans sh3.dp (by omega), sh3.fits (by omega), ?_⟩
    refine ⟨rfl, _, rfl, ?_⟩
    refine iteNS rfl ?_
    have s912 := s911.trans s12
    have hs12 := StreamAt.same hs9 s912
    have e12o := s912 _ _ e9o
    have r12 : ∀ b u, b ≠ x → b ≠ D → b ≠ o → H5 b = some u → H12 b = some u := fun b u h1 h2 h3 e => s912 _ _ (r9 b u h1 h2 h3 e)
    refine ⟨_, rfl, x, dx, _, rfl, hs12.1, rfl, x, D, dx, pl, _, ws, _, _, _, rfl, hs12, by rw [kvN_len]; omega, fun H13 kp13 hs13 => ?_⟩
    have evt : (valV (putK (KV (kvN ws G (n + 1))) (.inl (atT ws ((n + 1 : Nat) : Int))) (.int 0)) (.inl ((n + 1 : Nat) : Int))).getD (V.str "gap") = .ref o := by
      rw [← hGe (n + 1) hn, step_put g, step_val g, src0 _ (by omega)]
      exact hG0
    rw [evt]
    have e13o := kp13 _ _ nox noD e12o
    refine ⟨_, rfl, o, _, rfl, .lst (sq_at e13o) (.cons (.str _) (.cons (.str _) (.cons (.str _) .nil))), sh3.sh, Nat.le_trans sh3.dp (by omega), sh3.fits (by omega), ?_⟩
    refine ⟨small_len (show 3 ≤ 1000000 by omega), fun q2 hq2 => ?_⟩
    generalize hg : upd _ _ _ = H14
    have s14 := newS hg hq2
    have e14 := newE hg
    clear hg
    refine ⟨q2, _, rfl, .lst (sq_at e14) (.cons (.str _) (.cons (.str _) (.cons (.str _) .nil))), sh3.sh, Nat.le_trans sh3.dp (by omega), sh3.fits (by omega), ?_⟩
    refine ⟨rfl, _, rfl, ?_⟩
    refine iteNS rfl ?_
    have e14o := s14 _ _ e13o
    refine ⟨_, rfl, tyl (sq_at e14o), o, _, _, rfl, rfl, e14o, small_lt (show 3 < 1000000 by omega), ?_⟩
    have r15 : ∀ b u, b ≠ x → b ≠ D → b ≠ o → H5 b = some u → (upd H14 o (.lst ([V.str "a", V.str "b"] ++ [V.str "c"] ++ [V.str "d"]))) b = some u := fun b u h1 h2 h3 e => (upd_ne h3).trans (s14 _ _ (kp13 b u h1 h2 (r12 b u h1 h2 h3 e)))
    have e15o : (upd H14 o (.lst ([V.str "a", V.str "b"] ++ [V.str "c"] ++ [V.str "d"]))) o = some (.lst ([V.str "a", V.str "b"] ++ [V.str "c"] ++ [V.str "d"])) := upd_same
    generalize upd H14 o (.lst ([V.str "a", V.str "b"] ++ [V.str "c"] ++ [V.str "d"])) = H15 at *
    refine ⟨_, rfl, small_len (show 4 ≤ 1000000 by omega), fun q3 hq3 => ?_⟩
    generalize hg : upd _ _ _ = H16
    have s16 := newS hg hq3
    have e16 := newE hg
    clear hg
    refine ⟨.list [.str "a", .str "b", .str "c", .str "d"], .list [.str "a", .str "b", .str "c", .str "d"], .lst (sq_at (s16 _ _ e15o)) (.cons (.str _) (.cons (.str _) (.cons (.str _) (.cons (.str _) .nil)))), .lst (sq_at e16) (.cons (.str _) (.cons (.str _) (.cons (.str _) (.cons (.str _) .nil)))), by decide +kernel, by decide +kernel, ?_⟩
    rw [show PyData.eqv (.list [.str "a", .str "b", .str "c", .str "d"]) (.list [.str "a", .str "b", .str "c", .str "d"]) = true by simp [PyData.eqv, PyData.eqvAll]]
    exact k H16 (kfin H16 fun b u h1 h2 h3 e => s16 _ _ (r15 b u h1 h2 h3 e))
end
end My

end
section
set_option linter.all false
set_option maxRecDepth 100000
set_option maxHeartbeats 1000000
namespace My
open PySem PySem.Spec PyProof.Rows L2 StX ClX
def Cond (us : List Int) (gs : List V) (last : Int) : Prop := last ∈ ((gs.length : Int) - 1) :: (kvN (gdl us) (fun i => gs.getD i .non) gs.length).map (·.1) ∧ ∀ y ∈ ((gs.length : Int) - 1) :: (kvN (gdl us) (fun i => gs.getD i .non) gs.length).map (·.1), y ≤ last
def outL (us : List Int) (gs : List V) (gp : V) (last : Int) : List V := (outN (gdl us) gs.length (last + 1).toNat).map (oV (fun i => gs.getD i .non) gp)
def outP (us : List Int) (gs : List V) (ds : Nat → PyData) (dg : PyData) (last : Int) : List PyData := (outN (gdl us) gs.length (last + 1).toNat).map (oD ds dg)
def Due (H : Hp) (du : Addr) (us : List Int) (gs : List V) (gp : V) : Prop := ∀ last, Cond us gs last → H du = some (.lst (outL us gs gp last))
/-- goods, a mark and their data -/
structure Dat (K : PySem.W.Frag) (H : Hp) (gs : List V) (gp : V) (ds : Nat → PyData) (dg : PyData) : Prop where
  g : ∀ j, j < gs.length → Dp K H (gs.getD j .non) (ds j)
  m : Dp K H gp dg
  sg : ∀ j, j < gs.length → Shw 30 5 (ds j)
  sm : Shw 30 5 dg
theorem Dat.same {K : PySem.W.Frag} {H H' : Hp} {gs : List V} {gp : V} {ds : Nat → PyData} {dg : PyData} (h : Dat K H gs gp ds dg) (e : Same H H') : Dat K H' gs gp ds dg := ⟨fun j hj => Dp.same e (h.g j hj), Dp.same e h.m, h.sg, h.sm⟩
theorem gs_map (gs : List V) : (List.range gs.length).map (fun i => gs.getD i .non) = gs := by
  refine List.ext_getElem (by rw [List.length_map, List.length_range]) fun i h1 h2 => ?_
  rw [List.getElem_map, List.getElem_range, List.getD_eq_getElem?_getD, List.getElem?_eq_getElem h2]
  rfl
theorem Dat.goods {K : PySem.W.Frag} {H : Hp} {gs : List V} {gp : V} {ds : Nat → PyData} {dg : PyData} (h : Dat K H gs gp ds dg) : DpAll K H gs ((List.range gs.length).map ds) := by
  have e := dpAll_map (K := K) (H := H) (fun i => gs.getD i .non) ds (List.range gs.length) fun j hj => h.g j (List.mem_range.mp hj)
  rw [gs_map] at e
  exact e
theorem Dat.shg {K : PySem.W.Frag} {H : Hp} {gs : List V} {gp : V} {ds : Nat → PyData} {dg : PyData} (h : Dat K H gs gp ds dg) (hl : gs.length ≤ 100) : Shw (100 * 31) 6 (.list ((List.range gs.length).map ds)) := Shw.list (b := 30) (k := 5) (n := 100) (fun d hd => by
  obtain ⟨j, hj, rfl⟩ := List.mem_map.mp hd
  exact h.sg j (List.mem_range.mp hj)) (by rw [List.length_map, List.length_range]; exact hl)
theorem out_src {us : List Int} {far : Int} (g : Gd (gdl us) far) {N L : Nat} {o : Option Nat} (h : o ∈ outN (gdl us) N L) (j : Nat) (e : o = some j) : j < N := by
  unfold outN at h
  obtain ⟨m, _, rfl⟩ := List.mem_map.mp h
  exact ((src_iff g).mp e).1
theorem Dat.out {K : PySem.W.Frag} {H : Hp} {gs : List V} {gp : V} {ds : Nat → PyData} {dg : PyData} {us : List Int} {far : Int} (h : Dat K H gs gp ds dg) (g : Gd (gdl us) far) (last : Int) : DpAll K H (outL us gs gp last) (outP us gs ds dg last) :=
  dpAll_map _ _ _ fun o ho => dp_oV (N := gs.length) h.g h.m o (out_src g ho)
theorem Dat.sho {K : PySem.W.Frag} {H : Hp} {gs : List V} {gp : V} {ds : Nat → PyData} {dg : PyData} {us : List Int} {far last : Int} (h : Dat K H gs gp ds dg) (g : Gd (gdl us) far) (hl : gs.length ≤ 100) (hf : far ≤ 2500) (hc : Cond us gs last) : Shw (3000 * 31) 6 (.list (outP us gs ds dg last)) := by
  refine Shw.list (b := 30) (k := 5) (n := 3000) (fun d hd => ?_) ?_
  · obtain ⟨o, ho, rfl⟩ := List.mem_map.mp hd
    exact shw_oD (N := gs.length) h.sg h.sm o (out_src g ho)
  · unfold outP outN
    rw [List.length_map, List.length_map, List.length_range]
    have := last_far g hc.1
    omega
/-- a plan that moves nothing hands out at once -/
theorem due_id {us : List Int} {far : Int} (g : Gd (gdl us) far) (h : ∀ z, atT (gdl us) z = z) (gs : List V) (gp : V) (last : Int) (hc : Cond us gs last) : outL us gs gp last = gs := by
  have e : last = (gs.length : Int) - 1 := by
    rcases List.mem_cons.mp hc.1 with e | e
    · exact e
    · obtain ⟨i, hi, e2, e3⟩ := (kv_key g).mp e
      rw [h] at e2
      omega
  unfold outL outN
  rw [e, show ((gs.length : Int) - 1 + 1).toNat = gs.length by omega, List.map_map]
  refine Eq.trans (List.map_congr_left fun m hm => ?_) (gs_map gs)
  have hm' := List.mem_range.mp hm
  show oV (fun i => gs.getD i .non) gp (srcN (gdl us) gs.length m) = gs.getD m .non
  rw [(src_iff g).mpr ⟨hm', h m⟩]
  rfl
theorem atT_zero (z : Int) : atT [0] z = z := by
  unfold atT
  rw [show (z % (([0] : List Int).length : Int)).toNat = 0 by
    show (z % 1).toNat = 0
    rw [Int.emod_one]
    rfl]
  show z + 0 = z
  omega
theorem gd_zero : Gd [0] 0 := ⟨by decide, fun x => by rw [atT_zero]; omega, fun x => by rw [atT_zero]; omega, fun x y e => by rw [atT_zero, atT_zero] at e; exact e, fun y => ⟨y, atT_zero y⟩⟩
theorem gdl_shift : gdl [-3] = [0] := by decide
theorem gdl_zero : gdl [0] = [0] := by decide
def sp_new (K : PySem.W.Frag) (cP : Addr) : Sp := fun vs H Q _ => ∃ (pm a du : Addr) (gp : V) (us : List Int) (far : Int) (gs : List V) (ds : Nat → PyData) (dg : PyData), vs = [.ref pm, .ref a, gp, .ref du] ∧ PlanAt cP H pm us ∧ Gd (gdl us) far ∧ far ≤ 2500 ∧ H a = some (.lst gs) ∧ gs.length ≤ 100 ∧ Due H du us gs gp ∧ Dat K H gs gp ds dg ∧ ∀ H', Same H H' → Q (.bl true) H'
section
variable {P : Program} {w : World} {K : PySem.W.Frag} {mg : Str → Option Value} {base : Heap} {cM cP cS : Addr} (T : Txt K mg cM cP cS)
include T
def g201 {α : Type} : List α → List α → List α
  | [], [a, b, c] => [b, a, c]
  | _, _ => []
omit T in
theorem g201_rel {vs zs : List V} {us ws : List Value} (r : Vals vs us) (z : Vals zs ws) : Vals (g201 vs zs) (g201 us ws) := by
  cases r with
  | cons r1 r2 => exact .nil
  | nil =>
    cases z with
    | nil => exact .nil
    | cons z1 z2 =>
      cases z2 with
      | nil => exact .nil
      | cons z3 z4 =>
        cases z4 with
        | nil => exact .nil
        | cons z5 z6 =>
          cases z6 with
          | nil => exact .cons z3 (.cons z1 (.cons z5 .nil))
          | cons _ _ => exact .nil
theorem mk_dlv : ∃ f fd, FnOk P w K mg base CX0 10 f fd ["plan", "items", "gap"] (sp_deliver K cP false) ∧ mg "deliveries" = some (.ref f) ∧ PySem.W.keepIn K (.ref f) = true ∧ (∃ mv : List Value, KBn K fd ["plan", "items", "gap"] 2 ["gap"] (fun us ws => us ++ ws) (fun vs zs => vs ++ zs)) := by
  obtain ⟨f, fd, F, hm⟩ := T.d_deliveries
  exact ⟨f, fd, ok_deliveriesL T F, hm, F.kp, F.kbinds0 2 ["gap"] [] (fun us mv ws => us ++ ws) (by simp) (fun q h => by cases h) (fun r _ z => r.append z) (fun D doc pm an cdv ct us mv ws h1 h2 h3 => match us, mv, ws, h1, h2, h3 with | [_, _], [], [_], _, _, _ => rfl)⟩
theorem mk_dlvT : ∃ f fd, FnOk P w K mg base CX0 10 f fd ["plan", "items", "gap"] (sp_deliver K cP true) ∧ mg "deliveries" = some (.ref f) ∧ PySem.W.keepIn K (.ref f) = true ∧ (∃ mv : List Value, KBn K fd ["plan", "items", "gap"] 0 ["items", "plan", "gap"] (fun us ws => g201 us ws) (fun vs zs => g201 vs zs)) := by
  obtain ⟨f, fd, F, hm⟩ := T.d_deliveries
  exact ⟨f, fd, ok_deliveriesT T F, hm, F.kp, F.kbinds0 0 ["items", "plan", "gap"] [] (fun us mv ws => g201 us ws) (by simp) (fun q h => by cases h) (fun r _ z => g201_rel r z) (fun D doc pm an cdv ct us mv ws h1 h2 h3 => match us, mv, ws, h1, h2, h3 with | [], [], [_, _, _], _, _, _ => rfl)⟩
theorem c_deliveries : CalD P w K mg base 10 "deliveries" (sp_deliver K cP false) [V.non] := by
  obtain ⟨f, fd, F, hm⟩ := T.d_deliveries
  obtain ⟨ds, d, b⟩ := F.binds0 (ps := ["plan", "items", "gap"]) 2 (by simp) rfl (fun D doc pm an cdv ct us ks h1 h2 => match us, ks, h1, h2 with | [_, _], [_], _, _ => ⟨_, _, _, _, _, _, rfl, rfl, rfl⟩)
  exact ⟨f, fd, _, ds, ok_deliveriesL T F, hm, F.kp, b, d⟩
set_option maxHeartbeats 0 in
theorem g__law_new_right : ∃ f, FnG P w K mg base 11 f (sp_new K cP) ∧ mg "_law_new_right" = some (.ref f) ∧ PySem.W.keepIn K (.ref f) = true := by
  obtain ⟨mcS, pS, gS, rdS, cmS, FS⟩ := c_Plan_shift (P := P) (w := w) (base := base) T
  obtain ⟨mcI, pI, gI, rdI, cmI, FI⟩ := c_Plan_identity (P := P) (w := w) (base := base) T
  obtain ⟨fD, fdD, FD, hmD, kpD, mvD, kD1⟩ := mk_dlv (P := P) (w := w) (base := base) T
  obtain ⟨f, fd, F, hm⟩ := T.d__law_new_right
  refine ⟨f, My.Fun.okG F sc__law_new_right (F.binds (ps := ["_law_made", "_law_goods", "_law_mark", "_law_due"]) fun _ _ _ _ _ _ us hl => match us, hl with | [_, _, _, _], _ => rfl) (fun vs H Q h => ?_) (fun cdv A outer s H vs Q hgu hr h => ?_), hm, F.kp⟩
  · obtain ⟨pm, a, du, gp, us, far, gs, ds, dg, e, _⟩ := h
    rw [e]
    rfl
  · obtain ⟨pm, a, du, gp, us, far, gs, ds, dg, rfl, hpl, g, hfar, ha, hgl, hdu, dat, k⟩ := h
    have shg := dat.shg hgl
    refine ⟨_, (pss_cons (ps_set (i := 4) sc__law_new_right.nd rfl (Or.inl rfl) (pe_callB (cr_reprD hgu hr.units) (by rfl) T.g_repr (by decide +kernel) (pa_cons (pv 1) pa_nil)))
      (pss_cons (ps_for PassesOwn.never rfl (pi_list (pe_lst (pa_cons (pe_tup (pa_cons (pv 0) (pa_cons (pv 3) pa_nil))) (pa_cons (pe_tup (pa_cons (pe_cmeth (pe_glob (v := .ref cP) rfl T.m_Plan rfl) rdS cmS FS (hr.mono (by decide)) pass0 (pa_cons (pe_un un_neg pe_int) pa_nil)) (pa_cons (pv 1) pa_nil))) (pa_cons (pe_tup (pa_cons (pe_cmeth0 (pe_glob (v := .ref cP) rfl T.m_Plan rfl) rdI cmI FI (hr.mono (by decide)) pass0) (pa_cons (pv 1) pa_nil))) pa_nil))))) (pg_tup (by rfl) (pgs_cons (pg_name (i := 5) sc__law_new_right.nd rfl (Or.inl rfl)) (pgs_cons (pg_name (i := 6) sc__law_new_right.nd rfl (Or.inl rfl)) pgs_nil))) (pss_one (ps_for PassesOwn.never rfl (pi_range1 (by rfl) T.g_range (pa_cons pe_int pa_nil)) (pg_name (i := 7) sc__law_new_right.nd rfl (Or.inl rfl)) (pss_cons (ps_set (i := 8) sc__law_new_right.nd rfl (Or.inl rfl) (pe_callN FD (hr.mono (by decide)) (by rfl) hmD kpD kD1 pass0 (pa_cons (pv 5) (pa_cons (pv 1) pa_nil)) (pk_cons (pv 2) pk_nil)))
      (pss_cons (ps_if (pt_cmpR op_ne (pe_callB (cr_reprD hgu hr.units) (by rfl) T.g_repr (by decide +kernel) (pa_cons (pv 8) pa_nil)) (pe_callB (cr_reprD hgu hr.units) (by rfl) T.g_repr (by decide +kernel) (pa_cons (pv 6) pa_nil)) (nomark _)) (pss_one (ps_ret pe_bl)) pss_nil)
      (pss_cons (ps_expr (pe_bm PySem.F.plainAttrs_list PySem.F.slot_list_append PySem.F.type_list_append mt_append (pv 8) (pa_cons pe_str pa_nil)))
      (pss_one (ps_if (pt_cmpR op_ne (pe_callB (cr_reprD hgu hr.units) (by rfl) T.g_repr (by decide +kernel) (pa_cons (pv 1) pa_nil)) (pv 4) (nomark _)) (pss_one (ps_ret pe_bl)) pss_nil))))))))
      (pss_one (ps_ret pe_bl)))), ?_⟩
    refine ⟨_, rfl, a, _, rfl, .lst (sq_at ha) dat.goods, shg.sh, Nat.le_trans shg.dp (by omega), shg.fits (by omega), ?_⟩
    refine ⟨_, rfl, _, rfl, small_len (show 2 ≤ 1000000 by omega), fun t1 ht1 => ?_⟩
    generalize hg : upd _ _ _ = H1
    have s1 := newS hg ht1
    have e1 := newE hg
    clear hg
    refine ⟨rfl, 3, rfl, -3, rfl, fun p2 H2 s2 hp2 => ?_⟩
    refine ⟨_, rfl, small_len (show 2 ≤ 1000000 by omega), fun t2 ht2 => ?_⟩
    generalize hg : upd _ _ _ = H3
    have s3 := newS hg ht2
    have e3 := newE hg
    clear hg
    refine ⟨rfl, rfl, fun p3 H4 s4 hp3 => ?_⟩
    refine ⟨_, rfl, small_len (show 2 ≤ 1000000 by omega), fun t3 ht3 => ?_⟩
    generalize hg : upd _ _ _ = H5
    have s5 := newS hg ht3
    have e5 := newE hg
    clear hg
    refine ⟨small_len (show 3 ≤ 1000000 by omega), fun l hl => ?_⟩
    generalize hg : upd _ _ _ = H6
    have s6 := newS hg hl
    have e6 := newE hg
    clear hg
    have s16 := s2.trans (s3.trans (s4.trans (s5.trans s6)))
    have sa := s1.trans s16
    have ha6 := sa _ _ ha
    have dat6 := dat.same sa
    have item : ∀ (i : Nat) x, [V.ref t1, V.ref t2, V.ref t3][i]? = some x → ∃ tm pk dk us' far', x = .ref tm ∧ H6 tm = some (.tup [.ref pk, .ref dk]) ∧ PlanAt cP H6 pk us' ∧ Gd (gdl us') far' ∧ far' ≤ 2500 ∧ Due H6 dk us' gs gp := fun i x hi => by
      match i, hi with
      | 0, hi =>
        cases hi
        exact ⟨t1, pm, du, us, far, rfl, s16 _ _ e1, hpl.same sa, g, hfar, fun last hc => sa _ _ (hdu last hc)⟩
      | 1, hi =>
        cases hi
        refine ⟨t2, p2, a, [-3], 0, rfl, (s4.trans (s5.trans s6)) _ _ e3, (PlanFr.at hp2).same (s3.trans (s4.trans (s5.trans s6))), by rw [gdl_shift]; exact gd_zero, by omega, fun last hc => ?_⟩
        rw [due_id (us := [-3]) (by rw [gdl_shift]; exact gd_zero) (by rw [gdl_shift]; exact atT_zero) gs gp last hc]
        exact ha6
      | 2, hi =>
        cases hi
        refine ⟨t3, p3, a, [0], 0, rfl, s6 _ _ e5, (PlanFr.at hp3).same (s5.trans s6), by rw [gdl_zero]; exact gd_zero, by omega, fun last hc => ?_⟩
        rw [due_id (us := [0]) (by rw [gdl_zero]; exact gd_zero) (by rw [gdl_zero]; exact atT_zero) gs gp last hc]
        exact ha6
    refine ⟨l, rfl, ⟨_, sq_at e6⟩, for_list (K := K) (a := l) (xs := [V.ref t1, V.ref t2, V.ref t3]) (fun i σ H' => Same H6 H' ∧ ∃ v5 v6 v7 v8, σ = [some (.ref pm), some (.ref a), some gp, some (.ref du), some (.str (PyData.shown (.list ((List.range gs.length).map ds)))), v5, v6, v7, v8]) ⟨Same.refl _, none, none, none, none, rfl⟩ (fun i σ H' _ q => sq_at (q.1 _ _ e6)) ?_ ?_⟩
    · rintro i y σ H' hy ⟨sm, v5, v6, v7, v8, rfl⟩
      obtain ⟨tm, pk, dk, us', far', rfl, etm, hpk, g', hfar', hdk⟩ := item i y hy
      refine ⟨tm, _, rfl, st_at (sm _ _ etm), rfl, _, _, rfl, _, _, rfl, rfl, ?_⟩
      refine ⟨2, rfl, by decide, by decide, ?_⟩
      refine for_range (fun j σ H' => Same H6 H' ∧ ∃ v7 v8, σ = [some (.ref pm), some (.ref a), some gp, some (.ref du), some (.str (PyData.shown (.list ((List.range gs.length).map ds)))), some (.ref pk), some (.ref dk), v7, v8]) ⟨sm, _, _, rfl⟩ ?_ ?_
      · rintro j σ H' hj ⟨sm, v7, v8, rfl⟩
        have dat' := dat6.same sm
        refine ⟨_, rfl, _, rfl, _, rfl, rfl, rfl, pk, a, gp, us', far', gs, rfl, hpk.same sm, g', by omega, by omega, sq_at (sm _ _ ha6), fun last l1 l2 q H7 s7 hq e7 => ?_⟩
        have hc : Cond us' gs last := ⟨l1, l2⟩
        have e7' : H7 q = some (.lst (outL us' gs gp last)) := e7
        have sm7 := sm.trans s7
        have dat7 := dat'.same s7
        have sho := dat7.sho g' hgl hfar' hc
        refine ⟨_, rfl, q, _, rfl, .lst (sq_at e7') (dat7.out g' last), sho.sh, Nat.le_trans sho.dp (by omega), sho.fits (by omega), ?_⟩
        refine ⟨_, rfl, dk, _, rfl, .lst (sq_at (sm7 _ _ (hdk last hc))) (dat7.out g' last), sho.sh, Nat.le_trans sho.dp (by omega), sho.fits (by omega), ?_⟩
        refine ⟨rfl, _, rfl, ?_⟩
        refine iteNS rfl ?_
        have hq6 : H6 q = none := sm.free hq
        refine ⟨_, rfl, tyl (sq_at e7'), q, _, _, rfl, rfl, e7', small_lt ?_, ?_⟩
        · unfold outL outN
          rw [List.length_map, List.length_map, List.length_range]
          have := last_far g' l1
          omega
        have sm8 : Same H6 (upd H7 q (.lst (outL us' gs gp last ++ [V.str "more"]))) := Same.mut sm7 hq6
        generalize upd H7 q (.lst (outL us' gs gp last ++ [V.str "more"])) = H8 at *
        refine ⟨_, rfl, a, _, rfl, .lst (sq_at (sm8 _ _ ha6)) (dat6.same sm8).goods, shg.sh, Nat.le_trans shg.dp (by omega), shg.fits (by omega), ?_⟩
        refine ⟨_, rfl, rfl, _, rfl, ?_⟩
        refine iteNS rfl ?_
        exact ⟨sm8, _, _, rfl⟩
      · rintro σ H' ⟨sm, v7, v8, rfl⟩
        exact ⟨sm, _, _, _, _, rfl⟩
    · rintro σ H' ⟨sm, v5, v6, v7, v8, rfl⟩
      exact k H' (sa.trans sm)
end
end My

end
section
set_option linter.all false
set_option maxRecDepth 100000
set_option maxHeartbeats 1000000
namespace My
open PySem PySem.Spec PyProof.Rows L2 StX ClX
theorem Gd.of_at {a b : List Int} {far : Int} (h : ∀ z, atT a z = atT b z) (h0 : 0 < a.length) (g : Gd b far) : Gd a far :=
  ⟨h0, fun x => by rw [h]; exact g.ge x, fun x => by rw [h]; exact g.le x, fun x y e => g.inj x y (by rw [← h, ← h]; exact e), fun y => (g.sur y).imp fun x e => by rw [h]; exact e⟩
theorem wt_congr {a b : List Int} (h : ∀ z, atT a z = atT b z) (n : Nat) : wt a n = wt b n := by
  unfold wt
  simp only [h]
theorem kvN_congr {a b : List Int} (h : ∀ z, atT a z = atT b z) (G : Nat → V) (n : Nat) : kvN a G n = kvN b G n := by
  unfold kvN pr
  rw [wt_congr h]
  simp only [h]
theorem lvs_eq (us : List Int) (h0 : 0 < us.length) (gs : List V) : lvs us gs = (List.range gs.length).map (pr (gdl us) (fun i => gs.getD i .non)) := by
  unfold lvs pr gdl
  refine List.map_congr_left fun i _ => ?_
  rw [atT_map us _ h0]
theorem lvs_key {us : List Int} (h0 : 0 < us.length) {gs : List V} {y : Int} : y ∈ (lvs us gs).map (·.1) ↔ ∃ i : Nat, i < gs.length ∧ atT (gdl us) (i : Int) = y := by
  rw [lvs_eq us h0, List.map_map, List.mem_map]
  constructor
  · rintro ⟨i, hi, rfl⟩
    exact ⟨i, List.mem_range.mp hi, rfl⟩
  · rintro ⟨i, hi, rfl⟩
    exact ⟨i, List.mem_range.mpr hi, rfl⟩
theorem lvs_nodup {us : List Int} {far : Int} (h0 : 0 < us.length) (g : Gd (gdl us) far) (gs : List V) : ((lvs us gs).map (·.1)).Nodup := by
  rw [lvs_eq us h0, List.map_map]
  refine List.pairwise_map.mpr ?_
  refine List.Pairwise.imp (R := fun a b => a ≠ b) (fun {a b} (h : a ≠ b) => ?_) List.nodup_range
  intro e
  have e2 : atT (gdl us) (a : Int) = atT (gdl us) (b : Int) := e
  have := g.inj _ _ e2
  omega
theorem delivered_eq {us : List Int} {far : Int} (h0 : 0 < us.length) (g : Gd (gdl us) far) {gs : List V} {gp : V} {last last' : Int} (l1 : last ∈ (0 - 1 : Int) :: (lvs us gs).map (·.1)) (l2 : ∀ y ∈ (0 - 1 : Int) :: (lvs us gs).map (·.1), y ≤ last) (hc : Cond us gs last') :
    ((List.range (last + 1 - 0).toNat).map fun (i : Nat) => (valV (KV (lvs us gs)) (.inl (0 + (i : Int)))).getD gp) = outL us gs gp last' := by
  have e : last = last' := by
    obtain ⟨c1, c2⟩ := hc
    have hN := c2 _ List.mem_cons_self
    have h1 : last ≤ last' := by
      rcases List.mem_cons.mp l1 with e | e
      · omega
      · obtain ⟨i, hi, e⟩ := (lvs_key h0).mp e
        by_cases hk : (gs.length : Int) ≤ last
        · exact c2 _ (List.mem_cons_of_mem _ ((kv_key g).mpr ⟨i, hi, e, hk⟩))
        · omega
    have h2 : last' ≤ last := by
      have hm := l2 _ List.mem_cons_self
      rcases List.mem_cons.mp c1 with e | e
      · by_cases hz : gs.length = 0
        · omega
        · have h3 := g.ge ((gs.length - 1 : Nat) : Int)
          have h4 := l2 _ (List.mem_cons_of_mem _ ((lvs_key h0).mpr ⟨gs.length - 1, by omega, rfl⟩))
          omega
      · obtain ⟨i, hi, e, _⟩ := (kv_key g).mp e
        exact l2 _ (List.mem_cons_of_mem _ ((lvs_key h0).mpr ⟨i, hi, e⟩))
    omega
  subst e
  unfold outL outN
  rw [List.map_map, show last + 1 - 0 = last + 1 by omega]
  refine List.map_congr_left fun i _ => ?_
  rw [Int.zero_add, lvs_eq us h0]
  exact val_src _ _
theorem rest_eq {us : List Int} {far : Int} (g : Gd (gdl us) far) {gs : List V} {gp : V} {last : Int} (hc : Cond us gs last) :
    ((List.range (last + 1 - (gs.length : Int)).toNat).map fun (i : Nat) => (valV (KV (kvN (gdl us) (fun i => gs.getD i .non) gs.length)) (.inl ((gs.length : Int) + (i : Int)))).getD gp) = (outL us gs gp last).drop gs.length := by
  have hN := hc.2 _ List.mem_cons_self
  unfold outL outN
  have e : (last + 1).toNat = gs.length + (last + 1 - (gs.length : Int)).toNat := by omega
  rw [e, List.range_add, List.map_append, List.map_append, List.drop_left' (by rw [List.length_map, List.length_map, List.length_range]), List.map_map, List.map_map]
  refine List.map_congr_left fun i _ => ?_
  have := val_rest (G := fun i => gs.getD i .non) (gp := gp) g (N := gs.length) (m := gs.length + i) (by omega)
  rw [show ((gs.length + i : Nat) : Int) = (gs.length : Int) + (i : Int) by omega] at this
  rw [this]
  rfl
theorem VT.twice {ts us : List Int} (h : Rep ts us) (v : VT ts) (h0 : 0 < us.length) (h1 : us.length ≤ 2520) : VT us := ⟨h0, h1, fun x y e => v.inj x y (by rw [h.at h0, h.at h0]; exact e)⟩
theorem late_rep {ts us : List Int} (h : Rep ts us) (h0 : 0 < us.length) : lateT us = lateT ts := by
  refine late_is ?_ (late_pos us) fun o ho => late_ge ((h.mem h0 o).mp ho)
  rcases (late_fold us 0).2.2 with e | ⟨o, ho, e⟩
  · exact .inl e
  · exact .inr ⟨o, (h.mem h0 o).mpr ho, e⟩
theorem Dp.drop {K : PySem.W.Frag} {H : Hp} : ∀ (n : Nat) {vs : List V} {ds : List PyData}, DpAll K H vs ds → DpAll K H (vs.drop n) (ds.drop n)
  | 0, _, _, h => h
  | n + 1, _, _, .nil => .nil
  | n + 1, _, _, .cons a b => Dp.drop n b
theorem Kq.kp {p x D : Addr} {H H' H'' : Hp} (h : KpP p H H') (g : Kq p x D H' H'') (hx : H x = none) (hD : H D = none) : KpP p H H'' := fun b u n e => g b u n (ne_of_none e hx) (ne_of_none e hD) (h b u n e)
theorem cut_drop {xs : List V} {n : Nat} (h : n ≤ xs.length) : cutV xs (some (n : Int)) none = xs.drop n := by
  unfold cutV
  rw [HT.sIx_nat, HT.sIx_none, Nat.min_eq_left h]
  exact List.take_of_length_le (by rw [List.length_drop]; omega)
end My

end
section
set_option linter.all false
set_option maxRecDepth 100000
set_option maxHeartbeats 1000000
namespace My
open PySem PySem.Spec PyProof.Rows L2 StX ClX
def sp_right : Sp := fun vs H Q _ => ∃ p, vs = [.ref p] ∧ PotAt H p ∧ ∀ H', KpP p H H' → Q (.bl true) H'
def setD (ds : Nat → PyData) (i : Nat) (d : PyData) (j : Nat) : PyData := if j = i then d else ds j
theorem setD_same (ds : Nat → PyData) (i : Nat) (d : PyData) : setD ds i d i = d := if_pos rfl
theorem setD_ne {ds : Nat → PyData} {i j : Nat} {d : PyData} (h : ¬ j = i) : setD ds i d j = ds j := if_neg h
theorem KpP.free {p q : Addr} {H H' : Hp} (h : KpP p H H') (n : q ≠ p) (e : H' q = none) : H q = none := by
  cases z : H q with
  | none => rfl
  | some u =>
    have := h q u n z
    rw [e] at this
    cases this
section
variable {P : Program} {w : World} {K : PySem.W.Frag} {mg : Str → Option Value} {base : Heap} {cM cP cS : Addr} (T : Txt K mg cM cP cS)
include T
set_option maxHeartbeats 0 in
theorem g__law_right : ∃ f, FnG P w K mg base 12 f sp_right ∧ mg "_law_right" = some (.ref f) ∧ PySem.W.keepIn K (.ref f) = true := by
  have c__law_draw := c__law_draw (P := P) (w := w) (base := base) T
  have c__law_drawn := c__law_drawn (P := P) (w := w) (base := base) T
  have c__law_choice := c__law_choice (P := P) (w := w) (base := base) T
  have c__law_item := c__law_item (P := P) (w := w) (base := base) T
  have c__law_delivered := c__law_delivered (P := P) (w := w) (base := base) T
  have c_deliveries := c_deliveries (P := P) (w := w) (base := base) T
  have k_Plan := k_Plan (P := P) (w := w) (base := base) T
  have p_Stream_waiting := p_Stream_waiting (P := P) (w := w) (base := base) T
  have p_Stream_moment := p_Stream_moment (P := P) (w := w) (base := base) T
  obtain ⟨fS, fdS, MS, FS1, ⟨mv1, kS1⟩, ⟨mv0, kS0⟩⟩ := mk_S (P := P) (w := w) (base := base) T
  obtain ⟨fR, fdR, FR, meR, bR⟩ := g_Stream_rest (P := P) (w := w) (base := base) T
  obtain ⟨fDt, fdDt, FDt, hmD, kpD, mvD, kD0⟩ := mk_dlvT (P := P) (w := w) (base := base) T
  obtain ⟨fpu, F_pu, hm_pu, kp_pu⟩ := g__law_pushed_right (P := P) (w := w) (base := base) T
  obtain ⟨fne, F_ne, hm_ne, kp_ne⟩ := g__law_new_right (P := P) (w := w) (base := base) T
  obtain ⟨fit, F_it, hm_it, kp_it⟩ := g__law_itself_right (P := P) (w := w) (base := base) T
  obtain ⟨f, fd, F, hm⟩ := T.d__law_right
  refine ⟨f, My.Fun.okG F sc__law_right (F.binds (ps := ["_law_pot_here"]) fun _ _ _ _ _ _ us hl => match us, hl with | [_], _ => rfl) (fun vs H Q h => ?_) (fun cdv A outer s H vs Q hgu hr h => ?_), hm, F.kp⟩
  · obtain ⟨p, e, _⟩ := h
    rw [e]
    rfl
  · obtain ⟨p, rfl, hp, k⟩ := h
    refine ⟨_, (pss_cons (ps_set (i := 1) sc__law_right.nd rfl (Or.inl rfl) (pe_d c__law_drawn hr (by decide) rfl (pa_cons (pv 0) pa_nil)))
      (pss_cons (ps_par (i := 2) (j := 3) (by rfl) sc__law_right.nd rfl rfl (by decide) rfl rfl (pa_cons (pe_mkd k_Plan hr (by decide) rfl (pa_cons (pv 1) pa_nil)) (pa_cons (pe_d c__law_choice hr (by decide) rfl (pa_cons (pv 0) (pa_cons (pe_lst (pa_cons pe_non (pa_cons pe_non (pa_cons pe_str (pa_cons pe_int (pa_cons pe_str (pa_cons (pe_tup pa_nil) (pa_cons pe_bl pa_nil)))))))) pa_nil))) pa_nil)) (by rfl))
      (pss_cons (ps_setLc (i := 4) (own := [("_law_turn", 11)]) (g := gName 11) (tt := tYes) (by rfl) sc__law_right.nd rfl rfl (sw_true rfl rfl rfl (by decide +kernel)) (pi_range1 (by rfl) T.g_range (pa_cons (pe_d c__law_draw hr (by decide) rfl (pa_cons (pv 0) (pa_cons pe_int pa_nil))) pa_nil)) (blkOk_by (own := [("_law_turn", 11)]) (N := ["_law_pot_here", "_law_table_here", "_law_made", "_law_mark", "_law_goods", "_law_stream", "_law_shown", "_law_twin", "_law_due", "_law_late", "_law_told", "_law_turn"]) (sc := defScope s__law_right) (by decide +kernel)) (fun _ _ _ _ _ => (pg_name (i := 11) sc__law_right.nd rfl (Or.inl rfl))) (fun _ _ _ _ _ => pts_nil) (fun _ _ _ _ _ => (pe_d c__law_item hr (by decide) rfl (pa_cons (pv 0) pa_nil))))
      (pss_cons (ps_par (i := 5) (j := 6) (by rfl) sc__law_right.nd rfl rfl (by decide) rfl rfl (pa_cons (pe_makeK MS FS1 (hr.mono (by decide)) (by rfl) T.m_Stream kS1 pass0 (pa_cons (pv 2) pa_nil) (pk_cons (pv 3) pk_nil)) (pa_cons (pe_callB (cr_reprD hgu hr.units) (by rfl) T.g_repr (by decide +kernel) (pa_cons (pv 4) pa_nil)) pa_nil)) (by rfl))
      (pss_cons (ps_if (pt_cmpR op_ne (pe_callB (cr_reprD hgu hr.units) (by rfl) T.g_repr (by decide +kernel) (pa_cons (pe_lst (pa_cons (pe_prd p_Stream_moment hr (by decide) (pv 5)) (pa_cons (pe_prd p_Stream_waiting hr (by decide) (pv 5)) (pa_cons (pe_listG (pgen_meth0 (pv 5) T.clS meR FR (hr.mono (by decide)) bR .nil) passG noStop0 (hr.mono (by decide)) (by rfl) T.g_list rfl) pa_nil)))) pa_nil)) (pe_callB (cr_reprD hgu hr.units) (by rfl) T.g_repr (by decide +kernel) (pa_cons (pe_lst (pa_cons pe_int (pa_cons pe_int (pa_cons (pe_lst pa_nil) pa_nil)))) pa_nil)) (nomark _)) (pss_one (ps_ret pe_bl)) pss_nil)
      (pss_cons (ps_par (i := 7) (j := 8) (by rfl) sc__law_right.nd rfl rfl (by decide) rfl rfl (pa_cons (pe_makeK0 MS FS1 (hr.mono (by decide)) (by rfl) T.m_Stream kS0 pass0 (pk_cons (pv 3) (pk_cons (pe_mkd k_Plan hr (by decide) rfl (pa_cons (pe_op op_rep (pv 1) pe_int) pa_nil)) pk_nil))) (pa_cons (pe_d c__law_delivered hr (by decide) rfl (pa_cons (pv 1) (pa_cons (pv 4) (pa_cons (pv 3) pa_nil)))) pa_nil)) (by rfl))
      (pss_cons (ps_if (pt_not (pt_val (pe_callG F_pu hgu (hr.mono (by decide)) (by rfl) hm_pu kp_pu (pa_cons (pv 0) (pa_cons (pv 1) (pa_cons (pv 5) (pa_cons (pv 3) (pa_cons (pv 4) pa_nil)))))))) (pss_one (ps_ret pe_bl)) pss_nil)
      (pss_cons (ps_if (pt_not (pt_val (pe_callG F_pu hgu (hr.mono (by decide)) (by rfl) hm_pu kp_pu (pa_cons (pv 0) (pa_cons (pv 1) (pa_cons (pv 7) (pa_cons (pv 3) (pa_cons (pv 4) pa_nil)))))))) (pss_one (ps_ret pe_bl)) pss_nil)
      (pss_cons (ps_set (i := 9) sc__law_right.nd rfl (Or.inl rfl) (pe_lst (pa_cons (pe_listG (pgen_meth0 (pv 5) T.clS meR FR (hr.mono (by decide)) bR .nil) passG noStop0 (hr.mono (by decide)) (by rfl) T.g_list rfl) (pa_cons (pe_listG (pgen_meth0 (pv 5) T.clS meR FR (hr.mono (by decide)) bR .nil) passG noStop0 (hr.mono (by decide)) (by rfl) T.g_list rfl) (pa_cons (pe_listG (pgen_meth0 (pv 7) T.clS meR FR (hr.mono (by decide)) bR .nil) passG noStop0 (hr.mono (by decide)) (by rfl) T.g_list rfl) pa_nil)))))
      (pss_cons (ps_if (PW.pt (pw_or (pt_cmpR op_ne (pe_callB (cr_reprD hgu hr.units) (by rfl) T.g_repr (by decide +kernel) (pa_cons (pv 9) pa_nil)) (pe_callB (cr_reprD hgu hr.units) (by rfl) T.g_repr (by decide +kernel) (pa_cons (pe_op op_rep (pe_lst (pa_cons (pe_slice sl_list (pv 8) (po_some (pe_callB call_len (by rfl) T.g_len (by decide +kernel) (pa_cons (pv 4) pa_nil))) po_none) pa_nil)) pe_int) pa_nil)) (nomark _)) (pw_or1 (pt_cmpR op_ne (pe_prd p_Stream_moment hr (by decide) (pv 5)) (pe_callB call_len (by rfl) T.g_len (by decide +kernel) (pa_cons (pv 4) pa_nil)) (nomark _))))) (pss_one (ps_ret pe_bl)) pss_nil)
      (pss_cons (ps_if (PW.pt (pw_or (pt_not (pt_val (pe_callG F_ne hgu (hr.mono (by decide)) (by rfl) hm_ne kp_ne (pa_cons (pv 2) (pa_cons (pv 4) (pa_cons (pv 3) (pa_cons (pv 8) pa_nil))))))) (pw_or1 (pt_cmpR op_ne (pe_callB (cr_reprD hgu hr.units) (by rfl) T.g_repr (by decide +kernel) (pa_cons (pv 4) pa_nil)) (pv 6) (nomark _))))) (pss_one (ps_ret pe_bl)) pss_nil)
      (pss_cons (ps_if (pt_cmpR op_ne (pe_callB (cr_reprD hgu hr.units) (by rfl) T.g_repr (by decide +kernel) (pa_cons (pe_d c_deliveries hr (by decide) rfl (pa_cons (pv 2) (pa_cons (pv 4) pa_nil))) pa_nil)) (pe_callB (cr_reprD hgu hr.units) (by rfl) T.g_repr (by decide +kernel) (pa_cons (pe_d c__law_delivered hr (by decide) rfl (pa_cons (pv 1) (pa_cons (pv 4) (pa_cons pe_non pa_nil)))) pa_nil)) (nomark _)) (pss_one (ps_ret pe_bl)) pss_nil)
      (pss_cons (ps_set (i := 10) sc__law_right.nd rfl (Or.inl rfl) (pe_callN0 FDt (hr.mono (by decide)) (by rfl) hmD kpD kD0 pass0 (pk_cons (pe_callTy call_tuple_of (by rfl) T.g_tuple (by decide +kernel) (pa_cons (pv 4) pa_nil)) (pk_cons (pv 2) (pk_cons (pv 3) pk_nil)))))
      (pss_one (ps_ret (pe_and (pe_cmpR op_eq (pe_callB (cr_reprD hgu hr.units) (by rfl) T.g_repr (by decide +kernel) (pa_cons (pv 10) pa_nil)) (pe_callB (cr_reprD hgu hr.units) (by rfl) T.g_repr (by decide +kernel) (pa_cons (pv 8) pa_nil)) (nomark _)) (pe_one (pe_callG F_it hgu (hr.mono (by decide)) (by rfl) hm_it kp_it (pa_cons (pv 0) pa_nil))))))))))))))))))), ?_⟩
    refine ⟨_, rfl, p, rfl, hp, fun t us m H1 k1 hp1 ht ntp e1 m0 m1 tab => ?_⟩
    have vt : VT us := tab.vt m0 (by omega)
    have hl0 := vt.pos
    have hl1 : us.length ≤ 60 := by rw [tab.len]; exact m1
    have z1 : H1 p ≠ none := fun e => by
      obtain ⟨a, b, h, _⟩ := hp1
      rw [e] at h
      cases h
    -- made, mark
    refine ⟨_, rfl, ?_⟩
    intro pl0 pdx hpl0 hpd hpn
    have s2a : Same H1 (upd (upd H1 pdx (.own pl0)) pl0 (.ins cP pdx [])) := Same.mut (Same.new hpd) hpl0
    refine ⟨pl0, t, pdx, us, H1, rfl, s2a, hpl0, upd_same, s2a _ _ e1, vt, fun H2 s2 hplan => ⟨rfl, ?_⟩⟩
    refine ⟨_, rfl, small_len (show 0 ≤ 1000000 by omega), fun t0 ht0 => ?_⟩
    generalize hg : upd _ _ _ = H3
    have s3 := newS hg ht0
    have e3 := newE hg
    clear hg
    refine ⟨small_len (show 7 ≤ 1000000 by omega), fun l0 hl0' => ?_⟩
    generalize hg : upd _ _ _ = H4
    have s4 := newS hg hl0'
    have e4 := newE hg
    clear hg
    have s14 := s2.trans (s3.trans s4)
    have hp4 := hp1.same s14
    have nl0 := PotAt.ne (hp1.same (s2.trans s3)) hl0'
    have nt0 := PotAt.ne (hp1.same s2) ht0
    refine ⟨p, l0, _, rfl, hp4, nl0, e4, (show 0 < 7 by omega), (show 7 ≤ 1000 by omega), fun ix gp H5 hix k5 hp5 => ?_⟩
    obtain ⟨dg, hdg, shdg⟩ : ∃ dg, (∀ H'', KpP p H5 H'' → Dp K H'' gp dg) ∧ Shw 30 5 dg := by
      match ix, hix with
      | 0, hix => cases hix; exact ⟨_, fun _ _ => .non, Shw.non.mono (by omega) (by omega)⟩
      | 1, hix => cases hix; exact ⟨_, fun _ _ => .non, Shw.non.mono (by omega) (by omega)⟩
      | 2, hix => cases hix; exact ⟨_, fun _ _ => .str _, (Shw.str (b := 30) (by decide +kernel) (by decide +kernel)).mono (by omega) (by omega)⟩
      | 3, hix => cases hix; exact ⟨_, fun _ _ => .int _, (Shw.int (by decide)).mono (by omega) (by omega)⟩
      | 4, hix => cases hix; exact ⟨_, fun _ _ => .str _, (Shw.str (b := 30) (by decide +kernel) (by decide +kernel)).mono (by omega) (by omega)⟩
      | 5, hix => cases hix; exact ⟨.tuple [], fun H8 k8 => .tup (st_at (k8 _ _ nt0 (k5 _ _ nt0 (s4 _ _ e3)))) .nil, (Shw.tuple (b := 0) (k := 0) (n := 0) (fun d hd => (List.not_mem_nil hd).elim) (Nat.le_refl _)).mono (by omega) (by omega)⟩
      | 6, hix => cases hix; exact ⟨_, fun _ _ => .bl _, (Shw.bool _).mono (by omega) (by omega)⟩
    refine ⟨_, _, rfl, ?_⟩
    have t5 := k5 _ _ ntp (s14 _ _ e1)
    have k15 : KpP p H1 H5 := (Same.kp s14).trans k5
    -- goods
    refine ⟨_, rfl, p, 61, rfl, hp5, by omega, by omega, fun n H6 n0 n1 k6 hp6 => ?_⟩
    refine ⟨n, rfl, by omega, by omega, fun A0 hA0 => ?_⟩
    have nA := PotAt.ne hp6 hA0
    refine lc_range (fun i H' => KpP p H6 H' ∧ PotAt H' p ∧ ∃ gs ds, H' A0 = some (.lst gs) ∧ gs.length = i ∧ ∀ j, j < i → (∀ H'', (∀ b u, b ≠ p → b ≠ A0 → H' b = some u → H'' b = some u) → Dp K H'' (gs.getD j .non) (ds j)) ∧ Shw 30 5 (ds j)) ⟨Same.kp (Same.new hA0), hp6.same (Same.new hA0), [], fun _ => .none, upd_same, rfl, fun j hj => (Nat.not_lt_zero _ hj).elim⟩ ?_ ?_
    · rintro i H' hi ⟨kp, hp', gs, ds, eA, hgl, hd⟩
      refine ⟨rfl, _, rfl, p, rfl, hp', fun v d H7 k7 hp7 hdv hsv => ?_⟩
      have eA7 := k7 _ _ nA eA
      refine ⟨gs, eA7, small_lt (by omega), KpP.mut (kp.trans k7) hA0, PotAt.put hp7 nA, gs ++ [v], setD ds i d, upd_same, ?_, fun j hj => ?_⟩
      · rw [List.length_append, hgl]
        rfl
      · by_cases hji : j = i
        · subst hji
          have e1 : (gs ++ [v]).getD j .non = v := by
            rw [List.getD_eq_getElem?_getD, List.getElem?_append_right (by omega), hgl, Nat.sub_self]
            rfl
          rw [e1, setD_same]
          refine ⟨fun H'' kk => hdv H'' fun b u h1 h2 => ?_, hsv⟩
          have nb : b ≠ p := fun e => by
            obtain ⟨_, _, e', _⟩ := hp'
            rw [e, e'] at h1
            cases h1
          have nb2 : b ≠ A0 := fun e => by
            rw [e, eA] at h1
            cases h1
          exact kk b u nb nb2 ((upd_ne nb2).trans h2)
        · have e1 : (gs ++ [v]).getD j .non = gs.getD j .non := by
            rw [List.getD_eq_getElem?_getD, List.getElem?_append_left (by omega), ← List.getD_eq_getElem?_getD]
          rw [e1, setD_ne hji]
          obtain ⟨h1, h2⟩ := hd j (by omega)
          exact ⟨fun H'' kk => h1 H'' fun b u n1 n2 e => kk b u n1 n2 ((upd_ne n2).trans (k7 b u n1 e)), h2⟩
    rintro H7 ⟨k7, hp7, gs, ds, eA, hgl, hd⟩
    have hgl2 : gs.length ≤ 60 := by omega
    have hdat : ∀ H'', KpP p H7 H'' → Dat K H'' gs gp ds dg := fun H'' kk => ⟨fun j hj => (hd j (by omega)).1 H'' fun b u n1 _ e => kk b u n1 e, hdg H'' (k6.trans (k7.trans kk)), fun j hj => (hd j (by omega)).2, shdg⟩
    have t7 := k7 _ _ ntp (k6 _ _ ntp t5)
    have k17 : KpP p H1 H7 := k15.trans (k6.trans k7)
    have hplan7 : PlanAt cP H7 pl0 us := PlanFr.at (hplan.stay fun b o h1 h2 => (KpP.trans (KpP.same (KpP.refl p H2) (s3.trans s4)) (k5.trans (k6.trans k7))) b o (fun e => z1 (e ▸ h1)) h2)
    have dat7 := hdat H7 (KpP.refl p H7)
    have shg := dat7.shg (by omega)
    -- the table with its delay
    obtain ⟨mx, hmx, hmx2⟩ : ∃ mx : Int, mx ≤ 1001 ∧ ∀ o ∈ us, o ≤ mx := ⟨1001, by omega, fun o ho => (tab.sm o ho).2⟩
    have g : Gd (gdl us) (mx + lateT us) := tab.gd m0 hmx2
    have bl : lateT us ≤ 1001 := late_small (by omega) fun o ho => (tab.sm o ho).1
    generalize hfar : mx + lateT us = far at g
    have hf2 : far ≤ 2500 := by omega
    have hat : ∀ z, atT (gdl us) z = atT us z + lateT us := fun z => atT_map us _ hl0 z
    -- stream, shown
    refine ⟨_, rfl, _, rfl, rfl, rfl, ?_⟩
    intro x dx hx hdx hne
    have s8a : Same H7 (upd (upd H7 dx (.own x)) x (.ins cS dx [])) := Same.mut (Same.new hdx) hx
    refine ⟨x, pl0, dx, gp, us, H7, rfl, s8a, hx, upd_same, hplan7.same s8a, fun D pl H8 s8 hD nD hs0 hst => ⟨rfl, ?_⟩⟩
    have hs : StreamAt cS cP H8 x D dx pl gp (gdl us) 0 (KV []) := hs0
    refine ⟨_, rfl, A0, _, rfl, .lst (sq_at (s8 _ _ eA)) (dat7.same s8).goods, shg.sh, Nat.le_trans shg.dp (by omega), shg.fits (by omega), ?_⟩
    refine ⟨_, _, rfl, ?_⟩
    -- the empty stream
    refine ⟨_, rfl, x, dx, _, rfl, hs.1, x, D, dx, pl, gp, gdl us, _, _, rfl, hs, _, rfl, x, dx, _, rfl, hs.1, x, D, dx, pl, gp, gdl us, _, _, rfl, hs, _, rfl, x, dx, _, rfl, hs.1, rfl, x, D, dx, pl, gp, gdl us, 0, [], rfl, hs, List.nodup_nil, Nat.zero_le _, by omega, by omega, (fun q hq => by cases hq), fun last l1 l2 H9 s9 => fun rr hrr => ?_⟩
    have el : (last + 1 - 0).toNat = 0 := by
      rcases List.mem_cons.mp l1 with e | e
      · omega
      · cases e
    rw [el]
    generalize hg : upd _ _ _ = H10
    have s10 := newS hg hrr
    have e10 := newE hg
    clear hg
    refine ⟨small_len (show 3 ≤ 1000000 by omega), fun la hla => ?_⟩
    generalize hg : upd _ _ _ = H11
    have s11 := newS hg hla
    have e11 := newE hg
    clear hg
    have sh0 : Shw 30 2 (.list [.int 0, .int 0, .list []]) := (Shw.list (b := 5) (k := 1) (n := 3) (fun d hd => by
      rcases List.mem_cons.mp hd with rfl | hd
      · exact (Shw.int (by decide)).mono (by omega) (by omega)
      · rcases List.mem_cons.mp hd with rfl | hd
        · exact (Shw.int (by decide)).mono (by omega) (by omega)
        · rw [List.mem_singleton.mp hd]
          exact (Shw.list (b := 0) (k := 0) (n := 0) (fun d hd => (List.not_mem_nil hd).elim) (Nat.le_refl _)).mono (by omega) (by omega)) (Nat.le_refl _)).mono (by omega) (by omega)
    refine ⟨la, .list [.int 0, .int 0, .list []], rfl, .lst (sq_at e11) (.cons (.int 0) (.cons (.int 0) (.cons (.lst (sq_at (s11 _ _ e10)) .nil) .nil))), sh0.sh, Nat.le_trans sh0.dp (by omega), sh0.fits (by omega), ?_⟩
    refine ⟨small_len (show 0 ≤ 1000000 by omega), fun lb hlb => ?_⟩
    generalize hg : upd _ _ _ = H12
    have s12 := newS hg hlb
    have e12 := newE hg
    clear hg
    refine ⟨small_len (show 3 ≤ 1000000 by omega), fun lc hlc => ?_⟩
    generalize hg : upd _ _ _ = H13
    have s13 := newS hg hlc
    have e13 := newE hg
    clear hg
    refine ⟨lc, .list [.int 0, .int 0, .list []], rfl, .lst (sq_at e13) (.cons (.int 0) (.cons (.int 0) (.cons (.lst (sq_at (s13 _ _ e12)) .nil) .nil))), sh0.sh, Nat.le_trans sh0.dp (by omega), sh0.fits (by omega), ?_⟩
    refine ⟨rfl, _, rfl, ?_⟩
    refine iteNS rfl ?_
    have s813 : Same H8 H13 := s9.trans (s10.trans (s11.trans (s12.trans s13)))
    have s713 : Same H7 H13 := s8.trans s813
    -- twin
    obtain ⟨us2, hus2⟩ : ∃ us2, us2 = (List.replicate 2 us).flatten := ⟨_, rfl⟩
    have rep2 : Rep us us2 := ⟨2, hus2⟩
    have len2 : us2.length = 2 * us.length := by rw [hus2, flat_len]
    have vt2 : VT us2 := VT.twice rep2 vt (by omega) (by omega)
    refine ⟨_, rfl, _, rfl, t, 2, LI us, rfl, rfl, s713 _ _ t7, by decide, by decide, small_len (by rw [List.length_map]; show us.length * 2 ≤ 1000000; omega), fun l4 hl4 => ?_⟩
    generalize hg : upd _ _ _ = H14
    have s14' := newS hg hl4
    have e14 := newE hg
    clear hg
    have e14' : H14 l4 = some (.lst (LI us2)) := by
      rw [e14, hus2]
      show some (HO.lst (List.replicate 2 (LI us)).flatten) = _
      rw [LI_flat]
    intro pl2 pdx2 hpl2 hpd2 hpn2
    have s15a : Same H14 (upd (upd H14 pdx2 (.own pl2)) pl2 (.ins cP pdx2 [])) := Same.mut (Same.new hpd2) hpl2
    refine ⟨pl2, l4, pdx2, us2, H14, rfl, s15a, hpl2, upd_same, s15a _ _ e14', vt2, fun H15 s15 hplan2 => ⟨rfl, ?_⟩⟩
    refine ⟨rfl, rfl, ?_⟩
    intro x2 dx2 hx2 hdx2 hne2
    have s16a : Same H15 (upd (upd H15 dx2 (.own x2)) x2 (.ins cS dx2 [])) := Same.mut (Same.new hdx2) hx2
    refine ⟨x2, pl2, dx2, gp, us2, H15, rfl, s16a, hx2, upd_same, (PlanFr.at hplan2).same s16a, fun D2 pl' H16 s16 hD2 nD2 hs2 hst2 => ⟨rfl, ?_⟩⟩
    have s815 : Same H8 H15 := s813.trans (s14'.trans s15)
    have s816 := s815.trans s16
    have s716 := s8.trans s816
    have hat2 : ∀ z, atT (gdl us2) z = atT us z + lateT us := fun z => by
      show atT (us2.map (· + lateT us2)) z = _
      rw [atT_map us2 _ vt2.pos, late_rep rep2 vt2.pos, ← rep2.at vt2.pos]
    have hat12 : ∀ z, atT (gdl us2) z = atT (gdl us) z := fun z => by rw [hat2, hat]
    have g2 : Gd (gdl us2) far := Gd.of_at hat12 (by show 0 < (us2.map _).length; rw [List.length_map]; exact vt2.pos) g
    have hkey : ∀ q ∈ lvs us gs, q.1 ≤ 900000 := fun q hq => by
      obtain ⟨i, hi, e⟩ := (lvs_key hl0).mp (List.mem_map.mpr ⟨q, hq, rfl⟩)
      have := g.le (i : Int)
      omega
    refine ⟨_, rfl, _, rfl, _, rfl, t, A0, us, gp, gs, rfl, s716 _ _ t7, hl0, by omega, s716 _ _ eA, by omega, lvs_nodup hl0 g gs, hkey, fun last' l1' l2' du H17 s17 hdu e17 => ?_⟩
    refine ⟨_, _, rfl, ?_⟩
    have due17 : Due H17 du us gs gp := fun l hc => by
      rw [← delivered_eq hl0 g l1' l2' hc]
      exact e17
    -- what stands from now on
    have s817 := s816.trans s17
    have s717 := s8.trans s817
    have hp7' := hp7
    have npx : x ≠ p := fun e => by
      obtain ⟨_, _, e', _⟩ := hp7
      rw [← e, hx] at e'
      cases e'
    have npD : D ≠ p := fun e => by
      obtain ⟨_, _, e', _⟩ := hp7
      rw [← e, hD] at e'
      cases e'
    have hs17 : StreamAt cS cP H17 x D dx pl gp (gdl us) 0 [] := StreamAt.same hs0 s817
    refine ⟨_, rfl, _, rfl, _, rfl, _, rfl, _, rfl, p, t, x, D, dx, pl, A0, gp, us, gdl us, far, gs, ds, dg, rfl, hp7.same s717, ntp, nA, s717 _ _ t7, hl0, by omega, hs17, ?_, hat, g, by omega, s717 _ _ eA, by omega, ?_, ?_, dat7.sg, shdg, hf2, fun H18 kq18 hp18 hs18 => ?_⟩
    · intro H' n' kvs' kk ex eD
      refine hst H' n' kvs' (fun b o h1 h2 h3 h4 => kk b o (fun e => ?_) h2 h3 (s817 _ _ h4)) ex eD
      obtain ⟨_, _, e', _⟩ := hp7
      rw [e, e'] at h1
      cases h1
    · exact fun j hj H'' kk => (hdat H'' (Kq.kp (Same.kp s717) kk hx hD)).g j hj
    · exact fun H'' kk => (hdat H'' (Kq.kp (Same.kp s717) kk hx hD)).m
    refine ⟨_, rfl, ?_⟩
    refine iteF ?_
    have h15x : H15 x ≠ none := fun e => by
      have := s815 _ _ hs.1
      rw [e] at this
      cases this
    have h15D : H15 D ≠ none := fun e => by
      have := s815 _ _ hs.2.1
      rw [e] at this
      cases this
    have h15p : H15 p ≠ none := fun e => by
      obtain ⟨_, _, e', _⟩ := hp7
      have := s815 _ _ (s8 _ _ e')
      rw [e] at this
      cases this
    have nx2x : x2 ≠ x := fun e => h15x (e ▸ hx2)
    have nx2D : x2 ≠ D := fun e => h15D (e ▸ hx2)
    have nx2p : x2 ≠ p := fun e => h15p (e ▸ hx2)
    have nD2x : D2 ≠ x := fun e => h15x (e ▸ hD2)
    have nD2D : D2 ≠ D := fun e => h15D (e ▸ hD2)
    have nD2p : D2 ≠ p := fun e => h15p (e ▸ hD2)
    have keep18 : ∀ b o, H15 b = none → H16 b = some o → H18 b = some o := fun b o h1 h2 => kq18 b o (fun e => h15p (e ▸ h1)) (fun e => h15x (e ▸ h1)) (fun e => h15D (e ▸ h1)) (s17 _ _ h2)
    have hs2_18 : StreamAt cS cP H18 x2 D2 dx2 pl' gp (gdl us2) 0 [] := hst2 H18 0 [] (fun b o h1 _ _ h4 => keep18 b o h1 h4) (keep18 _ _ hx2 hs2.1) (keep18 _ _ hD2 hs2.2.1)
    have base18 : ∀ b o, b ≠ p → H7 b = some o → H18 b = some o := fun b o n e => kq18 b o n (ne_of_none e hx) (ne_of_none e hD) (s717 _ _ e)
    have k718 : KpP p H7 H18 := base18
    have h18x2 : ∀ b o, H7 b = some o → b ≠ x2 ∧ b ≠ D2 := fun b o e => by
      have h := s815 _ _ (s8 _ _ e)
      constructor
      · intro z
        rw [z, hx2] at h
        cases h
      · intro z
        rw [z, hD2] at h
        cases h
    have base19 : ∀ H'', Kq p x2 D2 H18 H'' → KpP p H7 H'' := fun H'' kk b o n e => kk b o n (h18x2 b o e).1 (h18x2 b o e).2 (base18 b o n e)
    refine ⟨_, rfl, _, rfl, _, rfl, _, rfl, _, rfl, p, t, x2, D2, dx2, pl', A0, gp, us, gdl us2, far, gs, ds, dg, rfl, hp18, ntp, nA, base18 _ _ ntp t7, hl0, by omega, hs2_18, ?_, hat2, g2, by omega, base18 _ _ nA eA, by omega, ?_, ?_, dat7.sg, shdg, hf2, fun H19 kq19 hp19 hs2_19 => ?_⟩
    · intro H' n' kvs' kk ex eD
      exact hst2 H' n' kvs' (fun b o h1 h2 h3 h4 => kk b o (fun e => h15p (e ▸ h1)) h2 h3 (keep18 b o h1 h4)) ex eD
    · exact fun j hj H'' kk => (hdat H'' (base19 H'' kk)).g j hj
    · exact fun H'' kk => (hdat H'' (base19 H'' kk)).m
    refine ⟨_, rfl, ?_⟩
    refine iteF ?_
    have k719 : KpP p H7 H19 := base19 H19 kq19
    have dat19 := hdat H19 k719
    have hs19 : StreamAt cS cP H19 x D dx pl gp (gdl us) (gs.length : Nat) (KV (kvN (gdl us) (fun i => gs.getD i .non) gs.length)) := by
      refine hst H19 _ _ (fun b o h1 h2 h3 h4 => ?_) (kq19 _ _ npx nx2x.symm nD2x.symm hs18.1) (kq19 _ _ npD nx2D.symm nD2D.symm hs18.2.1)
      have h5 := s817 _ _ h4
      have h6 : b ≠ p := fun e => by
        obtain ⟨_, _, e', _⟩ := hp7
        rw [e, e'] at h1
        cases h1
      have h7 : b ≠ x2 := fun e => by
        have := s815 _ _ h4
        rw [e, hx2] at this
        cases this
      have h8 : b ≠ D2 := fun e => by
        have := s815 _ _ h4
        rw [e, hD2] at this
        cases this
      exact kq19 b o h6 h7 h8 (kq18 b o h6 h2 h3 h5)
    rw [kvN_congr hat12] at hs2_19
    have du19 : Due H19 du us gs gp := fun l hc => by
      have e := due17 l hc
      have f1 : du ≠ p := fun e' => by
        obtain ⟨_, _, e2, _⟩ := hp7
        have := s716 _ _ e2
        rw [← e', hdu] at this
        cases this
      have f2 : du ≠ x := fun e' => by
        have := s816 _ _ hs.1
        rw [← e', hdu] at this
        cases this
      have f3 : du ≠ D := fun e' => by
        have := s816 _ _ hs.2.1
        rw [← e', hdu] at this
        cases this
      have f4 : du ≠ x2 := fun e' => by
        have := hs2.1
        rw [← e', hdu] at this
        cases this
      have f5 : du ≠ D2 := fun e' => by
        have := hs2.2.1
        rw [← e', hdu] at this
        cases this
      exact kq19 _ _ f1 f4 f5 (kq18 _ _ f1 f2 f3 e)
    have hkN : (kvN (gdl us) (fun i => gs.getD i V.non) gs.length).length ≤ 1000 := by
      unfold kvN
      rw [List.length_map]
      have := wt_le' (gdl us) gs.length
      omega
    have hkk : ∀ q ∈ kvN (gdl us) (fun i => gs.getD i V.non) gs.length, q.1 ≤ 900000 := fun q hq => by
      obtain ⟨i, hi, e, _⟩ := (kv_key g).mp (List.mem_map.mpr ⟨q, hq, rfl⟩)
      have := g.le (i : Int)
      omega
    have hnd := kv_nodup (G := fun i => gs.getD i V.non) g gs.length
    -- late
    refine ⟨_, rfl, x, dx, _, rfl, hs19.1, rfl, x, D, dx, pl, gp, _, _, _, rfl, hs19, hnd, hkN, by omega, by omega, hkk, fun la1 ma1 mb1 H20 s20 => fun r1 hr1 => ?_⟩
    have hc1 : Cond us gs la1 := ⟨ma1, mb1⟩
    rw [rest_eq g hc1]
    generalize hg : upd _ _ _ = H21
    have s21 := newS hg hr1
    have e21 := newE hg
    clear hg
    have s1921 := s20.trans s21
    have hs21 := StreamAt.same hs19 s1921
    refine ⟨_, rfl, x, dx, _, rfl, hs21.1, rfl, x, D, dx, pl, gp, _, _, _, rfl, hs21, hnd, hkN, by omega, by omega, hkk, fun la2 ma2 mb2 H22 s22 => fun r2 hr2 => ?_⟩
    have hc2 : Cond us gs la2 := ⟨ma2, mb2⟩
    obtain rfl := max_eq ma1 mb1 ma2 mb2
    rw [rest_eq g hc2]
    generalize hg : upd _ _ _ = H23
    have s23 := newS hg hr2
    have e23 := newE hg
    clear hg
    have s1923 := s1921.trans (s22.trans s23)
    have hs2_23 := StreamAt.same hs2_19 s1923
    refine ⟨_, rfl, x2, dx2, _, rfl, hs2_23.1, rfl, x2, D2, dx2, pl', gp, _, _, _, rfl, hs2_23, hnd, hkN, by omega, by omega, hkk, fun la3 ma3 mb3 H24 s24 => fun r3 hr3 => ?_⟩
    have hc3 : Cond us gs la3 := ⟨ma3, mb3⟩
    obtain rfl := max_eq ma1 mb1 ma3 mb3
    rw [rest_eq g hc3]
    generalize hg : upd _ _ _ = H25
    have s25 := newS hg hr3
    have e25 := newE hg
    clear hg
    refine ⟨small_len (show 3 ≤ 1000000 by omega), fun ll hll => ?_⟩
    generalize hg : upd _ _ _ = H26
    have s26 := newS hg hll
    have e26 := newE hg
    clear hg
    have s1926 := s1923.trans (s24.trans (s25.trans s26))
    have dat26 := dat19.same s1926
    have sho := dat26.sho g (by omega) hf2 hc1
    have shd : Shw (3000 * 31) 6 (.list ((outP us gs ds dg la1).drop gs.length)) := Shw.list (b := 30) (k := 5) (n := 3000) (fun d hd => by
      obtain ⟨o, ho, rfl⟩ := List.mem_map.mp (List.mem_of_mem_drop hd)
      exact shw_oD (N := gs.length) dat26.sg dat26.sm o (out_src g ho)) (by
      unfold outP outN
      rw [List.length_drop, List.length_map, List.length_map, List.length_range]
      have := last_far g hc1.1
      omega)
    have sh3 : Shw (3 * (3000 * 31 + 1)) 7 (.list [.list ((outP us gs ds dg la1).drop gs.length), .list ((outP us gs ds dg la1).drop gs.length), .list ((outP us gs ds dg la1).drop gs.length)]) := Shw.list (b := 3000 * 31) (k := 6) (n := 3) (fun d hd => by
      rcases List.mem_cons.mp hd with rfl | hd
      · exact shd
      · rcases List.mem_cons.mp hd with rfl | hd
        · exact shd
        · rw [List.mem_singleton.mp hd]
          exact shd) (Nat.le_refl _)
    have dpd : ∀ H'', Dat K H'' gs gp ds dg → DpAll K H'' ((outL us gs gp la1).drop gs.length) ((outP us gs ds dg la1).drop gs.length) := fun H'' dd => Dp.drop _ (dd.out g la1)
    refine ⟨_, rfl, ll, _, rfl, .lst (sq_at e26) (.cons (.lst (sq_at ((s22.trans (s23.trans (s24.trans (s25.trans s26)))) _ _ e21)) (dpd H26 dat26)) (.cons (.lst (sq_at ((s24.trans (s25.trans s26)) _ _ e23)) (dpd H26 dat26)) (.cons (.lst (sq_at (s26 _ _ e25)) (dpd H26 dat26)) .nil))), sh3.sh, Nat.le_trans sh3.dp (by omega), sh3.fits (by omega), ?_⟩
    have base26 : ∀ b o, b ≠ p → H7 b = some o → H26 b = some o := fun b o n e => s1926 _ _ (k719 b o n e)
    have A26 := base26 _ _ nA eA
    have t26 := base26 _ _ ntp t7
    have du26 : Due H26 du us gs gp := fun l hc => s1926 _ _ (du19 l hc)
    have hNl : gs.length ≤ (outL us gs gp la1).length := by
      have := mb1 _ List.mem_cons_self
      unfold outL outN
      rw [List.length_map, List.length_map, List.length_range]
      omega
    refine ⟨_, rfl, _, rfl, _, gs.length, rfl, .inl ⟨_, sq_at A26, rfl⟩, _, rfl, du, _, rfl, sq_at (du26 la1 hc1), fun q1 hq1 => ?_⟩
    rw [cut_drop hNl]
    generalize hg : upd _ _ _ = H27
    have s27 := newS hg hq1
    have e27 := newE hg
    clear hg
    refine ⟨small_len (show 1 ≤ 1000000 by omega), fun lx hlx => ?_⟩
    generalize hg : upd _ _ _ = H28
    have s28 := newS hg hlx
    have e28 := newE hg
    clear hg
    refine ⟨lx, 3, _, rfl, rfl, e28, by decide, by decide, small_len (show 1 * 3 ≤ 1000000 by omega), fun ly hly => ?_⟩
    generalize hg : upd _ _ _ = H29
    have s29 := newS hg hly
    have e29 := newE hg
    clear hg
    have s2629 := s27.trans (s28.trans s29)
    have dat29 := dat26.same s2629
    have e27' := (s28.trans s29) _ _ e27
    have e29' : H29 ly = some (.lst [V.ref q1, V.ref q1, V.ref q1]) := e29
    refine ⟨ly, _, rfl, .lst (sq_at e29') (.cons (.lst (sq_at e27') (dpd H29 dat29)) (.cons (.lst (sq_at e27') (dpd H29 dat29)) (.cons (.lst (sq_at e27') (dpd H29 dat29)) .nil))), sh3.sh, Nat.le_trans sh3.dp (by omega), sh3.fits (by omega), ?_⟩
    refine ⟨rfl, _, rfl, ?_⟩
    refine iteNS rfl ?_
    have s1929 := s1926.trans s2629
    have hs29 := StreamAt.same hs19 s1929
    have A29 := s2629 _ _ A26
    refine ⟨_, rfl, x, dx, _, rfl, hs29.1, x, D, dx, pl, gp, _, _, _, rfl, hs29, _, rfl, _, gs.length, rfl, .inl ⟨_, sq_at A29, rfl⟩, rfl, _, rfl, ?_⟩
    refine iteNS rfl ?_
    -- handed out anew
    have planX : ∀ H'', KpP p H7 H'' → PlanAt cP H'' pl0 us := fun H'' kk => PlanFr.at (hplan.stay fun b o h1 h2 => (KpP.trans (KpP.same (KpP.refl p H2) (s3.trans s4)) (k5.trans (k6.trans (k7.trans kk)))) b o (fun e => z1 (e ▸ h1)) h2)
    have k729 : KpP p H7 H29 := k719.same s1929
    have du29 : Due H29 du us gs gp := fun l hc => s2629 _ _ (du26 l hc)
    refine ⟨_, rfl, _, rfl, _, rfl, _, rfl, pl0, A0, du, gp, us, far, gs, ds, dg, rfl, planX H29 k729, g, hf2, A29, by omega, du29, dat29, fun H30 s30 => ?_⟩
    refine ⟨_, rfl, ?_⟩
    refine iteF ?_
    have dat30 := dat29.same s30
    have A30 := s30 _ _ A29
    refine ⟨_, rfl, A0, _, rfl, .lst (sq_at A30) dat30.goods, shg.sh, Nat.le_trans shg.dp (by omega), shg.fits (by omega), ?_⟩
    refine ⟨_, rfl, rfl, _, rfl, ?_⟩
    refine iteNS rfl ?_
    -- without a mark
    have k730 := k729.same s30
    have datN : ∀ H'', Dat K H'' gs gp ds dg → Dat K H'' gs .non ds .none := fun H'' dd => ⟨dd.g, .non, dd.sg, Shw.non.mono (by omega) (by omega)⟩
    refine ⟨_, rfl, _, rfl, pl0, A0, .non, us, far, gs, rfl, planX H30 k730, g, by omega, by omega, sq_at A30, fun lb1 nb1 nb2 qa H31 s31 hqa e31 => ?_⟩
    have hcb : Cond us gs lb1 := ⟨nb1, nb2⟩
    have e31' : H31 qa = some (.lst (outL us gs .non lb1)) := e31
    have dat31 := datN H31 (dat30.same s31)
    have shn := dat31.sho g (by omega) hf2 hcb
    refine ⟨qa, _, rfl, .lst (sq_at e31') (dat31.out g lb1), shn.sh, Nat.le_trans shn.dp (by omega), shn.fits (by omega), ?_⟩
    have t31 := s31 _ _ (s30 _ _ (s2629 _ _ t26))
    have A31 := s31 _ _ A30
    refine ⟨_, rfl, _, rfl, t, A0, us, .non, gs, rfl, t31, hl0, by omega, A31, by omega, lvs_nodup hl0 g gs, hkey, fun lc1 nc1 nc2 qb H32 s32 hqb e32 => ?_⟩
    rw [delivered_eq hl0 g nc1 nc2 hcb] at e32
    have dat32 := dat31.same s32
    refine ⟨qb, _, rfl, .lst (sq_at e32) (dat32.out g lb1), shn.sh, Nat.le_trans shn.dp (by omega), shn.fits (by omega), ?_⟩
    refine ⟨rfl, _, rfl, ?_⟩
    refine iteNS rfl ?_
    -- of a tuple
    have s3032 := s31.trans s32
    have A32 := s32 _ _ A31
    refine ⟨_, rfl, A0, gs, rfl, .inl ⟨sq_at A32, fun lt hlt => ?_⟩⟩
    generalize hg : upd _ _ _ = H33
    have s33 := newS hg hlt
    have e33 := newE hg
    clear hg
    have k733 := k730.same (s3032.trans s33)
    refine ⟨_, rfl, _, rfl, rfl, rfl, pl0, lt, gp, us, far, gs, rfl, planX H33 k733, g, by omega, by omega, st_at e33, fun ld1 nd1 nd2 qc H34 s34 hqc e34 => ?_⟩
    have hcd : Cond us gs ld1 := ⟨nd1, nd2⟩
    have e34' : H34 qc = some (.lst (outL us gs gp ld1)) := e34
    have s3034 := s3032.trans (s33.trans s34)
    have dat34 := dat30.same s3034
    have shl := dat34.sho g (by omega) hf2 hcd
    refine ⟨_, rfl, qc, _, rfl, .lst (sq_at e34') (dat34.out g ld1), shl.sh, Nat.le_trans shl.dp (by omega), shl.fits (by omega), ?_⟩
    refine ⟨_, rfl, du, _, rfl, .lst (sq_at (s3034 _ _ (s30 _ _ (du29 ld1 hcd)))) (dat34.out g ld1), shl.sh, Nat.le_trans shl.dp (by omega), shl.fits (by omega), ?_⟩
    refine ⟨rfl, _, rfl, ?_⟩
    rw [decide_eq_true rfl]
    refine iteT ?_
    have s1934 := s1929.trans (s30.trans s3034)
    refine ⟨_, rfl, p, rfl, hp19.same s1934, fun H35 k35 => ?_⟩
    exact k H35 ((k1.trans (k17.trans (k719.same s1934))).trans k35)
end
end My

end
section
set_option linter.all false
set_option maxRecDepth 100000
set_option maxHeartbeats 1000000
namespace My
open PySem PySem.Spec PyProof.Rows L2 StX ClX
def sp_law (K : PySem.W.Frag) : Sp := fun vs H Q _ => ∃ (a : Addr) (ns : List Int), vs = [.ref a] ∧ SqL K H a (LI ns) ∧ ns.length ≤ 63 ∧ ∀ H', Q (.bl true) H'
section
variable {P : Program} {w : World} {K : PySem.W.Frag} {mg : Str → Option Value} {base : Heap} {cM cP cS : Addr} (T : Txt K mg cM cP cS)
include T
theorem g_law : ∃ f, FnG P w K mg base 13 f (sp_law K) ∧ mg "law" = some (.ref f) := by
  have c__law_pot := c__law_pot (P := P) (w := w) (base := base) T
  obtain ⟨fR, FR, hmR, kpR⟩ := g__law_right (P := P) (w := w) (base := base) T
  obtain ⟨f, fd, F, hm⟩ := T.d_law
  refine ⟨f, My.Fun.okG F sc_law (F.binds (ps := ["_law_script"]) fun _ _ _ _ _ _ us hl => match us, hl with | [_], _ => rfl) (fun vs H Q h => ?_) (fun cdv A outer s H vs Q hgu hr h => ?_), hm⟩
  · obtain ⟨a, ns, e, _⟩ := h
    rw [e]
    rfl
  · obtain ⟨a, ns, rfl, ha, hl, k⟩ := h
    have hlen : (LI ns).length = ns.length := List.length_map ..
    refine ⟨_, (pss_one (ps_ret (pe_callB (cr_all rfl) (by rfl) T.g_all (by decide +kernel) (pa_cons (pe_lc (own := [("_law_k", 1)]) (g := gName 1) (tt := tYes) (by rfl) sc_law.nd (pi_range1 (by rfl) T.g_range (pa_cons (pe_callB (call_max2 rfl) (by rfl) T.g_max (by decide +kernel) (pa_cons pe_int (pa_cons (pe_callB (call_min2 rfl) (by rfl) T.g_min (by decide +kernel) (pa_cons pe_int (pa_cons (pe_callB call_len (by rfl) T.g_len (by decide +kernel) (pa_cons (pv 0) pa_nil)) pa_nil))) pa_nil))) pa_nil)) (blkOk_by (own := [("_law_k", 1)]) (N := ["_law_script", "_law_k"]) (sc := defScope s_law) (by decide +kernel)) (fun _ _ _ _ _ => (pg_name (i := 1) sc_law.nd rfl (Or.inl rfl))) (fun _ _ _ _ _ => pts_nil) (fun _ _ _ _ _ => (pe_callG FR hgu (hr.mono (by decide)) (by rfl) hmR kpR (pa_cons (pe_d c__law_pot hr (by decide) rfl (pa_cons (pv 0) (pa_cons (pv 1) pa_nil))) pa_nil)))) pa_nil)))), ?_⟩
    refine ⟨_, rfl, _, ns.length, rfl, .inl ⟨_, ha, hlen.symm⟩, _, _, rfl, _, _, rfl, _, rfl, ?_, ?_, fun D hD => ?_⟩
    · split <;> split <;> omega
    · split <;> split <;> omega
    refine lc_range (fun i H' => ∃ n, LC H D (List.replicate n (V.bl true)) i H' ∧ n = 1000) ⟨1000, lc_start (Same.refl H) hD, rfl⟩ ?_ ?_
    · rintro i H' hi ⟨n, q, rfl⟩
      have hi3 : i < 4 := by
        split at hi <;> split at hi <;> omega
      rw [Int.zero_add]
      refine ⟨rfl, _, rfl, _, rfl, a, ns, i, rfl, Same.sq q.1 ha, by omega, by omega, fun p H1 s1 hp hpot => ?_⟩
      refine ⟨p, rfl, hpot, fun H2 k2 => ?_⟩
      have npD : D ≠ p := fun e => by
        have := q.2
        rw [e, hp] at this
        cases this
      have q2 : LC H D (List.replicate 1000 (V.bl true)) i H2 := ⟨fun b u e => k2 b u (ne_of_none (q.1 b u e) hp) (s1 _ _ (q.1 b u e)), k2 _ _ npD (s1 _ _ q.2)⟩
      obtain ⟨acc, h1, h2, h3⟩ := lc_step (y := V.bl true) hD q2 (by rw [List.getElem?_replicate, if_pos (by omega)]) (by rw [List.length_replicate]; omega)
      exact ⟨acc, h1, h2, _, h3, rfl⟩
    · rintro H' ⟨n, q, rfl⟩
      obtain ⟨m, em⟩ : ∃ m, H' D = some (.lst (List.replicate m (V.bl true))) := ⟨_, by rw [q.2, List.take_replicate]⟩
      refine ⟨D, List.replicate m true, rfl, sq_at (by rw [List.map_replicate]; exact em), ?_⟩
      rw [show (List.replicate m true).all id = true by simp]
      exact k H'
end
end My

end
section
set_option linter.all false
set_option maxRecDepth 100000
set_option maxHeartbeats 1000000
namespace My
open PySem PySem.Spec PyProof.Rows L2 StX ClX
theorem all_mk {K : PySem.W.Frag} {h : Heap} {mg : Str → Option Value} (X : K.In h) (G : h.Ns mainGlobals mg) {cM cP cS f0 f1 f2 f3 f4 f5 f6 f7 f8 f9 f10 f11 f12 f13 f14 f15 f16 f17 f18 f19 f20 f21 f22 f23 f24 f25 f26 f27 dT f28 f29 dK f30 pSh f31 pId f32 dL f33 f34 f35 f36 f37 f38 p38 f39 p39 : Addr}
    {oc0 kV0 dc0 pm0 cd0 ct0 oc1 kV1 dc1 pm1 cd1 ct1 oc2 kV2 dc2 pm2 cd2 ct2 oc3 kV3 dc3 pm3 cd3 ct3 oc4 kV4 dc4 pm4 cd4 ct4 oc5 kV5 dc5 pm5 cd5 ct5 oc6 kV6 dc6 pm6 cd6 ct6 oc7 kV7 dc7 pm7 cd7 ct7 oc8 kV8 dc8 pm8 cd8 ct8 oc9 kV9 dc9 pm9 cd9 ct9 oc10 kV10 dc10 pm10 cd10 ct10 oc11 kV11 dc11 pm11 cd11 ct11 oc12 kV12 dc12 pm12 cd12 ct12 oc13 kV13 dc13 pm13 cd13 ct13 oc14 kV14 dc14 pm14 cd14 ct14 oc15 kV15 dc15 pm15 cd15 ct15 oc16 kV16 dc16 pm16 cd16 ct16 oc17 kV17 dc17 pm17 cd17 ct17 oc18 kV18 dc18 pm18 cd18 ct18 oc19 kV19 dc19 pm19 cd19 ct19 oc20 kV20 dc20 pm20 cd20 ct20 oc21 kV21 dc21 pm21 cd21 ct21 oc22 kV22 dc22 pm22 cd22 ct22 oc23 kV23 dc23 pm23 cd23 ct23 oc24 kV24 dc24 pm24 cd24 ct24 oc25 kV25 dc25 pm25 cd25 ct25 oc26 kV26 dc26 pm26 cd26 ct26 oc27 kV27 dc27 pm27 cd27 ct27 ocT oc28 kV28 dc28 pm28 cd28 ct28 oc29 dc29 pm29 cd29 ct29 oc30 kV30 dc30 pm30 cd30 ct30 oc31 kV31 dc31 pm31 cd31 ct31 oc32 dc32 pm32 cd32 ct32 oc33 kV33 dc33 pm33 cd33 ct33 oc34 kV34 dc34 pm34 cd34 ct34 oc35 kV35 dc35 pm35 cd35 ct35 oc36 kV36 dc36 pm36 cd36 ct36 oc37 kV37 dc37 pm37 cd37 ct37 oc38 kV38 dc38 pm38 cd38 ct38 oc39 kV39 dc39 pm39 cd39 ct39 : Value} {od0 an0 od1 an1 od2 an2 od3 an3 od4 an4 od5 an5 od6 an6 od7 an7 od8 an8 od9 an9 od10 an10 od11 an11 od12 an12 od13 an13 od14 an14 od15 an15 od16 an16 od17 an17 od18 an18 od19 an19 od20 an20 od21 an21 od22 an22 od23 an23 od24 an24 od25 an25 od26 an26 od27 an27 odT od28 an28 od29 an29 od30 an30 od31 an31 od32 an32 od33 an33 od34 an34 od35 an35 od36 an36 od37 an37 od38 an38 od39 an39 : Option Addr}
    {sl0 sl1 sl2 sl3 sl4 sl5 sl6 sl7 sl8 sl9 sl10 sl11 sl12 sl13 sl14 sl15 sl16 sl17 sl18 sl19 sl20 sl21 sl22 sl23 sl24 sl25 sl26 sl27 slT sl28 sl29 sl30 sl31 sl32 sl33 sl34 sl35 sl36 sl37 sl38 sl39 : Array (Option Value)} {nT : Nat} {rSh rId r38 r39 : List Value} {tM tP : Tok}
    (z_isinstance : PySem.W.nsIn K mainGlobals "isinstance" = some none)
    (z_int : PySem.W.nsIn K mainGlobals "int" = some none)
    (z_bool : PySem.W.nsIn K mainGlobals "bool" = some none)
    (z_list : PySem.W.nsIn K mainGlobals "list" = some none)
    (z_tuple : PySem.W.nsIn K mainGlobals "tuple" = some none)
    (z_abs : PySem.W.nsIn K mainGlobals "abs" = some none)
    (z_len : PySem.W.nsIn K mainGlobals "len" = some none)
    (z_enumerate : PySem.W.nsIn K mainGlobals "enumerate" = some none)
    (z_range : PySem.W.nsIn K mainGlobals "range" = some none)
    (z_max : PySem.W.nsIn K mainGlobals "max" = some none)
    (z_min : PySem.W.nsIn K mainGlobals "min" = some none)
    (z_str : PySem.W.nsIn K mainGlobals "str" = some none)
    (z_all : PySem.W.nsIn K mainGlobals "all" = some none)
    (z_divmod : PySem.W.nsIn K mainGlobals "divmod" = some none)
    (z_repr : PySem.W.nsIn K mainGlobals "repr" = some none)
    (a_Move : PySem.W.nsIn K mainGlobals "Move" = some (some (.ref cM)))
    (a_Plan : PySem.W.nsIn K mainGlobals "Plan" = some (some (.ref cP)))
    (a_Stream : PySem.W.nsIn K mainGlobals "Stream" = some (some (.ref cS)))
    (a0 : PySem.W.nsIn K mainGlobals "is_integer" = some (some (.ref f0)))
    (l0 : K.lookup f0 = some ⟨oc0, od0, .func (PySem.W.fnOf "is_integer" "is_integer" (defArgs s_is_integer) (defBody s_is_integer) (defScope s_is_integer) .none kV0 dc0 pm0 an0 cd0 ct0), sl0⟩)
    (c0 : PySem.W.codeIn K cd0 "is_integer" = true)
    (k0 : PySem.W.keepIn K (.ref f0) = true)
    (a1 : PySem.W.nsIn K mainGlobals "divisor_of_two" = some (some (.ref f1)))
    (l1 : K.lookup f1 = some ⟨oc1, od1, .func (PySem.W.fnOf "divisor_of_two" "divisor_of_two" (defArgs s_divisor_of_two) (defBody s_divisor_of_two) (defScope s_divisor_of_two) .none kV1 dc1 pm1 an1 cd1 ct1), sl1⟩)
    (c1 : PySem.W.codeIn K cd1 "divisor_of_two" = true)
    (k1 : PySem.W.keepIn K (.ref f1) = true)
    (a2 : PySem.W.nsIn K mainGlobals "common_multiple" = some (some (.ref f2)))
    (l2 : K.lookup f2 = some ⟨oc2, od2, .func (PySem.W.fnOf "common_multiple" "common_multiple" (defArgs s_common_multiple) (defBody s_common_multiple) (defScope s_common_multiple) .none kV2 dc2 pm2 an2 cd2 ct2), sl2⟩)
    (c2 : PySem.W.codeIn K cd2 "common_multiple" = true)
    (k2 : PySem.W.keepIn K (.ref f2) = true)
    (a3 : PySem.W.nsIn K mainGlobals "checked_table" = some (some (.ref f3)))
    (l3 : K.lookup f3 = some ⟨oc3, od3, .func (PySem.W.fnOf "checked_table" "checked_table" (defArgs s_checked_table) (defBody s_checked_table) (defScope s_checked_table) .none kV3 dc3 pm3 an3 cd3 ct3), sl3⟩)
    (c3 : PySem.W.codeIn K cd3 "checked_table" = true)
    (k3 : PySem.W.keepIn K (.ref f3) = true)
    (a4 : PySem.W.nsIn K mainGlobals "least_table" = some (some (.ref f4)))
    (l4 : K.lookup f4 = some ⟨oc4, od4, .func (PySem.W.fnOf "least_table" "least_table" (defArgs s_least_table) (defBody s_least_table) (defScope s_least_table) .none kV4 dc4 pm4 an4 cd4 ct4), sl4⟩)
    (c4 : PySem.W.codeIn K cd4 "least_table" = true)
    (k4 : PySem.W.keepIn K (.ref f4) = true)
    (a5 : PySem.W.nsIn K mainGlobals "joint_multiple" = some (some (.ref f5)))
    (l5 : K.lookup f5 = some ⟨oc5, od5, .func (PySem.W.fnOf "joint_multiple" "joint_multiple" (defArgs s_joint_multiple) (defBody s_joint_multiple) (defScope s_joint_multiple) .none kV5 dc5 pm5 an5 cd5 ct5), sl5⟩)
    (c5 : PySem.W.codeIn K cd5 "joint_multiple" = true)
    (k5 : PySem.W.keepIn K (.ref f5) = true)
    (a6 : PySem.W.nsIn K mainGlobals "moved" = some (some (.ref f6)))
    (l6 : K.lookup f6 = some ⟨oc6, od6, .func (PySem.W.fnOf "moved" "moved" (defArgs s_moved) (defBody s_moved) (defScope s_moved) .none kV6 dc6 pm6 an6 cd6 ct6), sl6⟩)
    (c6 : PySem.W.codeIn K cd6 "moved" = true)
    (k6 : PySem.W.keepIn K (.ref f6) = true)
    (a7 : PySem.W.nsIn K mainGlobals "joined_table" = some (some (.ref f7)))
    (l7 : K.lookup f7 = some ⟨oc7, od7, .func (PySem.W.fnOf "joined_table" "joined_table" (defArgs s_joined_table) (defBody s_joined_table) (defScope s_joined_table) .none kV7 dc7 pm7 an7 cd7 ct7), sl7⟩)
    (c7 : PySem.W.codeIn K cd7 "joined_table" = true)
    (k7 : PySem.W.keepIn K (.ref f7) = true)
    (a8 : PySem.W.nsIn K mainGlobals "sources_of" = some (some (.ref f8)))
    (l8 : K.lookup f8 = some ⟨oc8, od8, .func (PySem.W.fnOf "sources_of" "sources_of" (defArgs s_sources_of) (defBody s_sources_of) (defScope s_sources_of) .none kV8 dc8 pm8 an8 cd8 ct8), sl8⟩)
    (c8 : PySem.W.codeIn K cd8 "sources_of" = true)
    (k8 : PySem.W.keepIn K (.ref f8) = true)
    (a9 : PySem.W.nsIn K mainGlobals "delay" = some (some (.ref f9)))
    (l9 : K.lookup f9 = some ⟨oc9, od9, .func (PySem.W.fnOf "delay" "delay" (defArgs s_delay) (defBody s_delay) (defScope s_delay) .none kV9 dc9 pm9 an9 cd9 ct9), sl9⟩)
    (c9 : PySem.W.codeIn K cd9 "delay" = true)
    (k9 : PySem.W.keepIn K (.ref f9) = true)
    (a10 : PySem.W.nsIn K mainGlobals "delayed" = some (some (.ref f10)))
    (l10 : K.lookup f10 = some ⟨oc10, od10, .func (PySem.W.fnOf "delayed" "delayed" (defArgs s_delayed) (defBody s_delayed) (defScope s_delayed) .none kV10 dc10 pm10 an10 cd10 ct10), sl10⟩)
    (c10 : PySem.W.codeIn K cd10 "delayed" = true)
    (k10 : PySem.W.keepIn K (.ref f10) = true)
    (a11 : PySem.W.nsIn K mainGlobals "_law_pot" = some (some (.ref f11)))
    (l11 : K.lookup f11 = some ⟨oc11, od11, .func (PySem.W.fnOf "_law_pot" "_law_pot" (defArgs s__law_pot) (defBody s__law_pot) (defScope s__law_pot) .none kV11 dc11 pm11 an11 cd11 ct11), sl11⟩)
    (c11 : PySem.W.codeIn K cd11 "_law_pot" = true)
    (k11 : PySem.W.keepIn K (.ref f11) = true)
    (a12 : PySem.W.nsIn K mainGlobals "_law_draw" = some (some (.ref f12)))
    (l12 : K.lookup f12 = some ⟨oc12, od12, .func (PySem.W.fnOf "_law_draw" "_law_draw" (defArgs s__law_draw) (defBody s__law_draw) (defScope s__law_draw) .none kV12 dc12 pm12 an12 cd12 ct12), sl12⟩)
    (c12 : PySem.W.codeIn K cd12 "_law_draw" = true)
    (k12 : PySem.W.keepIn K (.ref f12) = true)
    (a13 : PySem.W.nsIn K mainGlobals "_law_shuffled" = some (some (.ref f13)))
    (l13 : K.lookup f13 = some ⟨oc13, od13, .func (PySem.W.fnOf "_law_shuffled" "_law_shuffled" (defArgs s__law_shuffled) (defBody s__law_shuffled) (defScope s__law_shuffled) .none kV13 dc13 pm13 an13 cd13 ct13), sl13⟩)
    (c13 : PySem.W.codeIn K cd13 "_law_shuffled" = true)
    (k13 : PySem.W.keepIn K (.ref f13) = true)
    (a14 : PySem.W.nsIn K mainGlobals "_law_table" = some (some (.ref f14)))
    (l14 : K.lookup f14 = some ⟨oc14, od14, .func (PySem.W.fnOf "_law_table" "_law_table" (defArgs s__law_table) (defBody s__law_table) (defScope s__law_table) .none kV14 dc14 pm14 an14 cd14 ct14), sl14⟩)
    (c14 : PySem.W.codeIn K cd14 "_law_table" = true)
    (k14 : PySem.W.keepIn K (.ref f14) = true)
    (a15 : PySem.W.nsIn K mainGlobals "_law_choice" = some (some (.ref f15)))
    (l15 : K.lookup f15 = some ⟨oc15, od15, .func (PySem.W.fnOf "_law_choice" "_law_choice" (defArgs s__law_choice) (defBody s__law_choice) (defScope s__law_choice) .none kV15 dc15 pm15 an15 cd15 ct15), sl15⟩)
    (c15 : PySem.W.codeIn K cd15 "_law_choice" = true)
    (k15 : PySem.W.keepIn K (.ref f15) = true)
    (a16 : PySem.W.nsIn K mainGlobals "_law_period" = some (some (.ref f16)))
    (l16 : K.lookup f16 = some ⟨oc16, od16, .func (PySem.W.fnOf "_law_period" "_law_period" (defArgs s__law_period) (defBody s__law_period) (defScope s__law_period) .none kV16 dc16 pm16 an16 cd16 ct16), sl16⟩)
    (c16 : PySem.W.codeIn K cd16 "_law_period" = true)
    (k16 : PySem.W.keepIn K (.ref f16) = true)
    (a17 : PySem.W.nsIn K mainGlobals "_law_drawn" = some (some (.ref f17)))
    (l17 : K.lookup f17 = some ⟨oc17, od17, .func (PySem.W.fnOf "_law_drawn" "_law_drawn" (defArgs s__law_drawn) (defBody s__law_drawn) (defScope s__law_drawn) .none kV17 dc17 pm17 an17 cd17 ct17), sl17⟩)
    (c17 : PySem.W.codeIn K cd17 "_law_drawn" = true)
    (k17 : PySem.W.keepIn K (.ref f17) = true)
    (a18 : PySem.W.nsIn K mainGlobals "_law_item" = some (some (.ref f18)))
    (l18 : K.lookup f18 = some ⟨oc18, od18, .func (PySem.W.fnOf "_law_item" "_law_item" (defArgs s__law_item) (defBody s__law_item) (defScope s__law_item) .none kV18 dc18 pm18 an18 cd18 ct18), sl18⟩)
    (c18 : PySem.W.codeIn K cd18 "_law_item" = true)
    (k18 : PySem.W.keepIn K (.ref f18) = true)
    (a19 : PySem.W.nsIn K mainGlobals "_law_leaves" = some (some (.ref f19)))
    (l19 : K.lookup f19 = some ⟨oc19, od19, .func (PySem.W.fnOf "_law_leaves" "_law_leaves" (defArgs s__law_leaves) (defBody s__law_leaves) (defScope s__law_leaves) .none kV19 dc19 pm19 an19 cd19 ct19), sl19⟩)
    (c19 : PySem.W.codeIn K cd19 "_law_leaves" = true)
    (k19 : PySem.W.keepIn K (.ref f19) = true)
    (a20 : PySem.W.nsIn K mainGlobals "_law_rest" = some (some (.ref f20)))
    (l20 : K.lookup f20 = some ⟨oc20, od20, .func (PySem.W.fnOf "_law_rest" "_law_rest" (defArgs s__law_rest) (defBody s__law_rest) (defScope s__law_rest) .none kV20 dc20 pm20 an20 cd20 ct20), sl20⟩)
    (c20 : PySem.W.codeIn K cd20 "_law_rest" = true)
    (k20 : PySem.W.keepIn K (.ref f20) = true)
    (a21 : PySem.W.nsIn K mainGlobals "_law_delivered" = some (some (.ref f21)))
    (l21 : K.lookup f21 = some ⟨oc21, od21, .func (PySem.W.fnOf "_law_delivered" "_law_delivered" (defArgs s__law_delivered) (defBody s__law_delivered) (defScope s__law_delivered) .none kV21 dc21 pm21 an21 cd21 ct21), sl21⟩)
    (c21 : PySem.W.codeIn K cd21 "_law_delivered" = true)
    (k21 : PySem.W.keepIn K (.ref f21) = true)
    (a22 : PySem.W.nsIn K mainGlobals "_law_pushed_right" = some (some (.ref f22)))
    (l22 : K.lookup f22 = some ⟨oc22, od22, .func (PySem.W.fnOf "_law_pushed_right" "_law_pushed_right" (defArgs s__law_pushed_right) (defBody s__law_pushed_right) (defScope s__law_pushed_right) .none kV22 dc22 pm22 an22 cd22 ct22), sl22⟩)
    (c22 : PySem.W.codeIn K cd22 "_law_pushed_right" = true)
    (k22 : PySem.W.keepIn K (.ref f22) = true)
    (a23 : PySem.W.nsIn K mainGlobals "_law_itself_right" = some (some (.ref f23)))
    (l23 : K.lookup f23 = some ⟨oc23, od23, .func (PySem.W.fnOf "_law_itself_right" "_law_itself_right" (defArgs s__law_itself_right) (defBody s__law_itself_right) (defScope s__law_itself_right) .none kV23 dc23 pm23 an23 cd23 ct23), sl23⟩)
    (c23 : PySem.W.codeIn K cd23 "_law_itself_right" = true)
    (k23 : PySem.W.keepIn K (.ref f23) = true)
    (a24 : PySem.W.nsIn K mainGlobals "_law_new_right" = some (some (.ref f24)))
    (l24 : K.lookup f24 = some ⟨oc24, od24, .func (PySem.W.fnOf "_law_new_right" "_law_new_right" (defArgs s__law_new_right) (defBody s__law_new_right) (defScope s__law_new_right) .none kV24 dc24 pm24 an24 cd24 ct24), sl24⟩)
    (c24 : PySem.W.codeIn K cd24 "_law_new_right" = true)
    (k24 : PySem.W.keepIn K (.ref f24) = true)
    (a25 : PySem.W.nsIn K mainGlobals "_law_right" = some (some (.ref f25)))
    (l25 : K.lookup f25 = some ⟨oc25, od25, .func (PySem.W.fnOf "_law_right" "_law_right" (defArgs s__law_right) (defBody s__law_right) (defScope s__law_right) .none kV25 dc25 pm25 an25 cd25 ct25), sl25⟩)
    (c25 : PySem.W.codeIn K cd25 "_law_right" = true)
    (k25 : PySem.W.keepIn K (.ref f25) = true)
    (a26 : PySem.W.nsIn K mainGlobals "law" = some (some (.ref f26)))
    (l26 : K.lookup f26 = some ⟨oc26, od26, .func (PySem.W.fnOf "law" "law" (defArgs s_law) (defBody s_law) (defScope s_law) .none kV26 dc26 pm26 an26 cd26 ct26), sl26⟩)
    (c26 : PySem.W.codeIn K cd26 "law" = true)
    (k26 : PySem.W.keepIn K (.ref f26) = true)
    (a27 : PySem.W.nsIn K mainGlobals "require_integer" = some (some (.ref f27)))
    (l27 : K.lookup f27 = some ⟨oc27, od27, .func (PySem.W.fnOf "require_integer" "require_integer" (defArgs s_require_integer) (defBody s_require_integer) (defScope s_require_integer) (.ref dT) kV27 dc27 pm27 an27 cd27 ct27), sl27⟩)
    (c27 : PySem.W.codeIn K cd27 "require_integer" = true)
    (k27 : PySem.W.keepIn K (.ref f27) = true)
    (lT : K.lookup dT = some ⟨ocT, odT, .seq [Value.none].toArray nT, slT⟩)
    (pgP : PySem.W.plainGet K cP Str.empty = true)
    (hdP : PySem.W.hasDictIn K cP = true)
    (poP : PySem.W.plainOver K cP = true)
    (saP : PySem.W.findIn K (.ref cP) "__setattr__" = some (some (.builtin "object.__setattr__")))
    (mkP : PySem.W.makesIn K cP = true)
    (kcP : PySem.W.keepIn K (.ref cP) = true)
    (pgS : PySem.W.plainGet K cS Str.empty = true)
    (hdS : PySem.W.hasDictIn K cS = true)
    (poS : PySem.W.plainOver K cS = true)
    (saS : PySem.W.findIn K (.ref cS) "__setattr__" = some (some (.builtin "object.__setattr__")))
    (mkS : PySem.W.makesIn K cS = true)
    (kcS : PySem.W.keepIn K (.ref cS) = true)
    (nP1 : PySem.W.findIn K (.ref cP) "own_offsets" = some none)
    (nP2 : PySem.W.findIn K (.ref cP) "own_sources" = some none)
    (nS1 : PySem.W.findIn K (.ref cS) "own_delivery" = some none)
    (nS2 : PySem.W.findIn K (.ref cS) "own_gap" = some none)
    (nS3 : PySem.W.findIn K (.ref cS) "own_moment" = some none)
    (nS4 : PySem.W.findIn K (.ref cS) "own_leaving" = some none)
    (rdM : PySem.W.readsIn K cM (.type "type") = true)
    (gaM : PySem.W.specialIn K (.ref cM) "__getattribute__" = some (some (.builtin "type.__getattribute__")))
    (cvM : PySem.W.findCls K (.ref cM) (.type "type") "MAX_PERIOD" = some (.val (.int 2520 tM)))
    (rdP : PySem.W.readsIn K cP (.type "type") = true)
    (gaP : PySem.W.specialIn K (.ref cP) "__getattribute__" = some (some (.builtin "type.__getattribute__")))
    (cvP : PySem.W.findCls K (.ref cP) (.type "type") "SIGN" = some (.val (.int 1 tP)))
    (a28 : PySem.W.findIn K (.ref cP) "__init__" = some (some (.ref f28)))
    (i28 : PySem.W.isFn K (.ref f28) = true)
    (l28 : K.lookup f28 = some ⟨oc28, od28, .func (PySem.W.fnOf "__init__" "Plan.__init__" (defArgs s_Plan_init) (defBody s_Plan_init) (defScope s_Plan_init) .none kV28 dc28 pm28 an28 cd28 ct28), sl28⟩)
    (c28 : PySem.W.codeIn K cd28 "Plan.__init__" = true)
    (k28 : PySem.W.keepIn K (.ref f28) = true)
    (a29 : PySem.W.findIn K (.ref cS) "__init__" = some (some (.ref f29)))
    (i29 : PySem.W.isFn K (.ref f29) = true)
    (l29 : K.lookup f29 = some ⟨oc29, od29, .func (PySem.W.fnOf "__init__" "Stream.__init__" (defArgs s_Stream_init) (defBody s_Stream_init) (defScope s_Stream_init) .none (.ref dK) dc29 pm29 an29 cd29 ct29), sl29⟩)
    (c29 : PySem.W.codeIn K cd29 "Stream.__init__" = true)
    (k29 : PySem.W.keepIn K (.ref f29) = true)
    (nG : PySem.W.nsIn K dK "gap" = some (some Value.none))
    (aSh : PySem.W.findCls K (.ref cP) (.type "type") "shift" = some (.get (.builtin "classmethod.__get__") (.ref pSh) .none (.ref cP)))
    (rcSh : PySem.W.recIn K pSh "classmethod" = some (.ref f30 :: rSh))
    (fiSh : PySem.W.fnIn K f30 = true)
    (l30 : K.lookup f30 = some ⟨oc30, od30, .func (PySem.W.fnOf "shift" "Plan.shift" (defArgs s_Plan_shift) (defBody s_Plan_shift) (defScope s_Plan_shift) .none kV30 dc30 pm30 an30 cd30 ct30), sl30⟩)
    (c30 : PySem.W.codeIn K cd30 "Plan.shift" = true)
    (k30 : PySem.W.keepIn K (.ref f30) = true)
    (aId : PySem.W.findCls K (.ref cP) (.type "type") "identity" = some (.get (.builtin "classmethod.__get__") (.ref pId) .none (.ref cP)))
    (rcId : PySem.W.recIn K pId "classmethod" = some (.ref f31 :: rId))
    (fiId : PySem.W.fnIn K f31 = true)
    (l31 : K.lookup f31 = some ⟨oc31, od31, .func (PySem.W.fnOf "identity" "Plan.identity" (defArgs s_Plan_identity) (defBody s_Plan_identity) (defScope s_Plan_identity) .none kV31 dc31 pm31 an31 cd31 ct31), sl31⟩)
    (c31 : PySem.W.codeIn K cd31 "Plan.identity" = true)
    (k31 : PySem.W.keepIn K (.ref f31) = true)
    (a32 : PySem.W.nsIn K mainGlobals "deliveries" = some (some (.ref f32)))
    (l32 : K.lookup f32 = some ⟨oc32, od32, .func (PySem.W.fnOf "deliveries" "deliveries" (defArgs s_deliveries) (defBody s_deliveries) (defScope s_deliveries) .none (.ref dL) dc32 pm32 an32 cd32 ct32), sl32⟩)
    (c32 : PySem.W.codeIn K cd32 "deliveries" = true)
    (k32 : PySem.W.keepIn K (.ref f32) = true)
    (nL : PySem.W.nsIn K dL "gap" = some (some Value.none))
    (a33 : PySem.W.findIn K (.ref cP) "offsets" = some (some (.ref f33)))
    (i33 : PySem.W.isFn K (.ref f33) = true)
    (l33 : K.lookup f33 = some ⟨oc33, od33, .func (PySem.W.fnOf "offsets" "Plan.offsets" (defArgs s_Plan_offsets) (defBody s_Plan_offsets) (defScope s_Plan_offsets) .none kV33 dc33 pm33 an33 cd33 ct33), sl33⟩)
    (c33 : PySem.W.codeIn K cd33 "Plan.offsets" = true)
    (k33 : PySem.W.keepIn K (.ref f33) = true)
    (a34 : PySem.W.findIn K (.ref cP) "at" = some (some (.ref f34)))
    (i34 : PySem.W.isFn K (.ref f34) = true)
    (l34 : K.lookup f34 = some ⟨oc34, od34, .func (PySem.W.fnOf "at" "Plan.at" (defArgs s_Plan_at) (defBody s_Plan_at) (defScope s_Plan_at) .none kV34 dc34 pm34 an34 cd34 ct34), sl34⟩)
    (c34 : PySem.W.codeIn K cd34 "Plan.at" = true)
    (k34 : PySem.W.keepIn K (.ref f34) = true)
    (a35 : PySem.W.findIn K (.ref cP) "then" = some (some (.ref f35)))
    (i35 : PySem.W.isFn K (.ref f35) = true)
    (l35 : K.lookup f35 = some ⟨oc35, od35, .func (PySem.W.fnOf "then" "Plan.then" (defArgs s_Plan_then) (defBody s_Plan_then) (defScope s_Plan_then) .none kV35 dc35 pm35 an35 cd35 ct35), sl35⟩)
    (c35 : PySem.W.codeIn K cd35 "Plan.then" = true)
    (k35 : PySem.W.keepIn K (.ref f35) = true)
    (a36 : PySem.W.findIn K (.ref cS) "push" = some (some (.ref f36)))
    (i36 : PySem.W.isFn K (.ref f36) = true)
    (l36 : K.lookup f36 = some ⟨oc36, od36, .func (PySem.W.fnOf "push" "Stream.push" (defArgs s_Stream_push) (defBody s_Stream_push) (defScope s_Stream_push) .none kV36 dc36 pm36 an36 cd36 ct36), sl36⟩)
    (c36 : PySem.W.codeIn K cd36 "Stream.push" = true)
    (k36 : PySem.W.keepIn K (.ref f36) = true)
    (a37 : PySem.W.findIn K (.ref cS) "rest" = some (some (.ref f37)))
    (i37 : PySem.W.isFn K (.ref f37) = true)
    (l37 : K.lookup f37 = some ⟨oc37, od37, .func (PySem.W.fnOf "rest" "Stream.rest" (defArgs s_Stream_rest) (defBody s_Stream_rest) (defScope s_Stream_rest) .none kV37 dc37 pm37 an37 cd37 ct37), sl37⟩)
    (c37 : PySem.W.codeIn K cd37 "Stream.rest" = true)
    (k37 : PySem.W.keepIn K (.ref f37) = true)
    (a38 : PySem.W.findIn K (.ref cS) "moment" = some (some (.ref p38)))
    (g38 : PySem.W.specialIn K (.ref p38) "__get__" = some (some (.builtin "property.__get__")))
    (t38 : PySem.W.takesIn K (.ref p38) = some true)
    (r38c : PySem.W.recIn K p38 "property" = some (.ref f38 :: r38))
    (l38 : K.lookup f38 = some ⟨oc38, od38, .func (PySem.W.fnOf "moment" "Stream.moment" (defArgs s_Stream_moment) (defBody s_Stream_moment) (defScope s_Stream_moment) .none kV38 dc38 pm38 an38 cd38 ct38), sl38⟩)
    (c38 : PySem.W.codeIn K cd38 "Stream.moment" = true)
    (k38 : PySem.W.keepIn K (.ref f38) = true)
    (a39 : PySem.W.findIn K (.ref cS) "waiting" = some (some (.ref p39)))
    (g39 : PySem.W.specialIn K (.ref p39) "__get__" = some (some (.builtin "property.__get__")))
    (t39 : PySem.W.takesIn K (.ref p39) = some true)
    (r39c : PySem.W.recIn K p39 "property" = some (.ref f39 :: r39))
    (l39 : K.lookup f39 = some ⟨oc39, od39, .func (PySem.W.fnOf "waiting" "Stream.waiting" (defArgs s_Stream_waiting) (defBody s_Stream_waiting) (defScope s_Stream_waiting) .none kV39 dc39 pm39 an39 cd39 ct39), sl39⟩)
    (c39 : PySem.W.codeIn K cd39 "Stream.waiting" = true)
    (k39 : PySem.W.keepIn K (.ref f39) = true) : Txt K mg cM cP cS where
  g_isinstance := PySem.W.mg_none_of X G z_isinstance
  g_int := PySem.W.mg_none_of X G z_int
  g_bool := PySem.W.mg_none_of X G z_bool
  g_list := PySem.W.mg_none_of X G z_list
  g_tuple := PySem.W.mg_none_of X G z_tuple
  g_abs := PySem.W.mg_none_of X G z_abs
  g_len := PySem.W.mg_none_of X G z_len
  g_enumerate := PySem.W.mg_none_of X G z_enumerate
  g_range := PySem.W.mg_none_of X G z_range
  g_max := PySem.W.mg_none_of X G z_max
  g_min := PySem.W.mg_none_of X G z_min
  g_str := PySem.W.mg_none_of X G z_str
  g_all := PySem.W.mg_none_of X G z_all
  g_divmod := PySem.W.mg_none_of X G z_divmod
  g_repr := PySem.W.mg_none_of X G z_repr
  m_Move := PySem.W.mg_of X G a_Move
  m_Plan := PySem.W.mg_of X G a_Plan
  m_Stream := PySem.W.mg_of X G a_Stream
  d_is_integer := ⟨f0, _, fun_mk l0 c0 k0, PySem.W.mg_of X G a0⟩
  d_divisor_of_two := ⟨f1, _, fun_mk l1 c1 k1, PySem.W.mg_of X G a1⟩
  d_common_multiple := ⟨f2, _, fun_mk l2 c2 k2, PySem.W.mg_of X G a2⟩
  d_checked_table := ⟨f3, _, fun_mk l3 c3 k3, PySem.W.mg_of X G a3⟩
  d_least_table := ⟨f4, _, fun_mk l4 c4 k4, PySem.W.mg_of X G a4⟩
  d_joint_multiple := ⟨f5, _, fun_mk l5 c5 k5, PySem.W.mg_of X G a5⟩
  d_moved := ⟨f6, _, fun_mk l6 c6 k6, PySem.W.mg_of X G a6⟩
  d_joined_table := ⟨f7, _, fun_mk l7 c7 k7, PySem.W.mg_of X G a7⟩
  d_sources_of := ⟨f8, _, fun_mk l8 c8 k8, PySem.W.mg_of X G a8⟩
  d_delay := ⟨f9, _, fun_mk l9 c9 k9, PySem.W.mg_of X G a9⟩
  d_delayed := ⟨f10, _, fun_mk l10 c10 k10, PySem.W.mg_of X G a10⟩
  d__law_pot := ⟨f11, _, fun_mk l11 c11 k11, PySem.W.mg_of X G a11⟩
  d__law_draw := ⟨f12, _, fun_mk l12 c12 k12, PySem.W.mg_of X G a12⟩
  d__law_shuffled := ⟨f13, _, fun_mk l13 c13 k13, PySem.W.mg_of X G a13⟩
  d__law_table := ⟨f14, _, fun_mk l14 c14 k14, PySem.W.mg_of X G a14⟩
  d__law_choice := ⟨f15, _, fun_mk l15 c15 k15, PySem.W.mg_of X G a15⟩
  d__law_period := ⟨f16, _, fun_mk l16 c16 k16, PySem.W.mg_of X G a16⟩
  d__law_drawn := ⟨f17, _, fun_mk l17 c17 k17, PySem.W.mg_of X G a17⟩
  d__law_item := ⟨f18, _, fun_mk l18 c18 k18, PySem.W.mg_of X G a18⟩
  d__law_leaves := ⟨f19, _, fun_mk l19 c19 k19, PySem.W.mg_of X G a19⟩
  d__law_rest := ⟨f20, _, fun_mk l20 c20 k20, PySem.W.mg_of X G a20⟩
  d__law_delivered := ⟨f21, _, fun_mk l21 c21 k21, PySem.W.mg_of X G a21⟩
  d__law_pushed_right := ⟨f22, _, fun_mk l22 c22 k22, PySem.W.mg_of X G a22⟩
  d__law_itself_right := ⟨f23, _, fun_mk l23 c23 k23, PySem.W.mg_of X G a23⟩
  d__law_new_right := ⟨f24, _, fun_mk l24 c24 k24, PySem.W.mg_of X G a24⟩
  d__law_right := ⟨f25, _, fun_mk l25 c25 k25, PySem.W.mg_of X G a25⟩
  d_law := ⟨f26, _, fun_mk l26 c26 k26, PySem.W.mg_of X G a26⟩
  d_require_integer := ⟨f27, _, ⟨⟨oc27, od27, .ref dT, kV27, dc27, pm27, an27, cd27, ct27, sl27, rfl, l27, c27,   .inr ⟨(fun e => by cases e), dT, _, [Value.none], nT, rfl, lT, rfl, .cons rfl .nil⟩, .inl rfl⟩, k27⟩, PySem.W.mg_of X G a27⟩
  clP := ⟨pgP, hdP, poP, saP⟩
  clS := ⟨pgS, hdS, poS, saS⟩
  nP1 := nP1
  nP2 := nP2
  nS1 := nS1
  nS2 := nS2
  nS3 := nS3
  nS4 := nS4
  rdM := ⟨.type "type", _, ⟨rdM, gaM⟩, ⟨cvM, ⟨_, rfl⟩⟩⟩
  rdP := ⟨.type "type", _, ⟨rdP, gaP⟩, ⟨cvP, ⟨_, rfl⟩⟩⟩
  i_Plan := ⟨f28, _, ⟨mkP, a28, i28, kcP⟩, fun_mk l28 c28 k28⟩
  i_Stream := ⟨f29, _, ⟨mkS, a29, i29, kcS⟩, ⟨oc29, od29, .none, .ref dK, dc29, pm29, an29, cd29, ct29, sl29, rfl, l29, c29, .inl ⟨rfl, rfl⟩, .inr ⟨dK, rfl, fun q hq => by cases List.mem_singleton.mp hq; exact ⟨_, nG, rfl⟩⟩⟩, k29⟩
  me_Plan_shift := ⟨.type "type", pSh, f30, _, ⟨rdP, gaP⟩, ⟨aSh, ⟨rSh, rcSh⟩, fiSh⟩, fun_mk l30 c30 k30⟩
  me_Plan_identity := ⟨.type "type", pId, f31, _, ⟨rdP, gaP⟩, ⟨aId, ⟨rId, rcId⟩, fiId⟩, fun_mk l31 c31 k31⟩
  d_deliveries := ⟨f32, _, ⟨⟨oc32, od32, .none, .ref dL, dc32, pm32, an32, cd32, ct32, sl32, rfl, l32, c32, .inl ⟨rfl, rfl⟩, .inr ⟨dL, rfl, fun q hq => by cases List.mem_singleton.mp hq; exact ⟨_, nL, rfl⟩⟩⟩, k32⟩, PySem.W.mg_of X G a32⟩
  me_Plan_offsets := ⟨f33, _, fun_mk l33 c33 k33, ⟨a33, i33, k33⟩⟩
  me_Plan_at := ⟨f34, _, fun_mk l34 c34 k34, ⟨a34, i34, k34⟩⟩
  me_Plan_then := ⟨f35, _, fun_mk l35 c35 k35, ⟨a35, i35, k35⟩⟩
  me_Stream_push := ⟨f36, _, fun_mk l36 c36 k36, ⟨a36, i36, k36⟩⟩
  me_Stream_rest := ⟨f37, _, fun_mk l37 c37 k37, ⟨a37, i37, k37⟩⟩
  pr_Stream_moment := ⟨p38, f38, _, fun_mk l38 c38 k38, ⟨a38, g38, t38, ⟨r38, r38c⟩⟩⟩
  pr_Stream_waiting := ⟨p39, f39, _, fun_mk l39 c39 k39, ⟨a39, g39, t39, ⟨r39, r39c⟩⟩⟩
theorem g_law_at {P : Program} {w : World} {K : PySem.W.Frag} {mg : Str → Option Value} {base : Heap} {cM cP cS fa : Addr} (T : Txt K mg cM cP cS) (h : mg "law" = some (.ref fa)) : FnG P w K mg base 13 fa (sp_law K) := by
  obtain ⟨f, F, hm⟩ := g_law (P := P) (w := w) (base := base) T
  have e := h.symm.trans hm
  cases e
  exact F
end My

end
section
open PySem PySem.W PyProof.Rows
set_option linter.all false
set_option maxRecDepth 100000 in
set_option maxHeartbeats 0 in
theorem PySem.Challenge.cw_threeswaps_k35_whole_streams_by_own_mode_holds : PySem.Challenge.rw_threeswaps_k35_whole_streams_by_own_mode.Holds := by
  w_on; o_law; k_head; (case hw => w_witness2)
  k_fill
  refine My.walk_ofG (l := PySem.Challenge.rw_threeswaps_k35_whole_streams_by_own_mode) (n := 63) (k := 13) (sp := fun w => My.sp_law _) rfl (by decide) rfl ⟨rfl, by decide, by decide⟩ (fun w h Y => PySem.W.kIn_of Y) ?F (fun w H a ns hl hb _ hS => ⟨a, ns, rfl, hS, hl, fun _ => rfl⟩)
  case F =>
    intro w mg fa h KX G hmg base hb hn
    refine' My.g_law_at (base := base) (My.all_mk KX G ?z_isinstance ?z_int ?z_bool ?z_list ?z_tuple ?z_abs ?z_len ?z_enumerate ?z_range ?z_max ?z_min ?z_str ?z_all ?z_divmod ?z_repr ?a_Move ?a_Plan ?a_Stream ?a0 ?l0 ?c0 ?k0 ?a1 ?l1 ?c1 ?k1 ?a2 ?l2 ?c2 ?k2 ?a3 ?l3 ?c3 ?k3 ?a4 ?l4 ?c4 ?k4 ?a5 ?l5 ?c5 ?k5 ?a6 ?l6 ?c6 ?k6 ?a7 ?l7 ?c7 ?k7 ?a8 ?l8 ?c8 ?k8 ?a9 ?l9 ?c9 ?k9 ?a10 ?l10 ?c10 ?k10 ?a11 ?l11 ?c11 ?k11 ?a12 ?l12 ?c12 ?k12 ?a13 ?l13 ?c13 ?k13 ?a14 ?l14 ?c14 ?k14 ?a15 ?l15 ?c15 ?k15 ?a16 ?l16 ?c16 ?k16 ?a17 ?l17 ?c17 ?k17 ?a18 ?l18 ?c18 ?k18 ?a19 ?l19 ?c19 ?k19 ?a20 ?l20 ?c20 ?k20 ?a21 ?l21 ?c21 ?k21 ?a22 ?l22 ?c22 ?k22 ?a23 ?l23 ?c23 ?k23 ?a24 ?l24 ?c24 ?k24 ?a25 ?l25 ?c25 ?k25 ?a26 ?l26 ?c26 ?k26 ?a27 ?l27 ?c27 ?k27 ?lT ?pgP ?hdP ?poP ?saP ?mkP ?kcP ?pgS ?hdS ?poS ?saS ?mkS ?kcS ?nP1 ?nP2 ?nS1 ?nS2 ?nS3 ?nS4 ?rdM ?gaM ?cvM ?rdP ?gaP ?cvP ?a28 ?i28 ?l28 ?c28 ?k28 ?a29 ?i29 ?l29 ?c29 ?k29 ?nG ?aSh ?rcSh ?fiSh ?l30 ?c30 ?k30 ?aId ?rcId ?fiId ?l31 ?c31 ?k31 ?a32 ?l32 ?c32 ?k32 ?nL ?a33 ?i33 ?l33 ?c33 ?k33 ?a34 ?i34 ?l34 ?c34 ?k34 ?a35 ?i35 ?l35 ?c35 ?k35 ?a36 ?i36 ?l36 ?c36 ?k36 ?a37 ?i37 ?l37 ?c37 ?k37 ?a38 ?g38 ?t38 ?r38c ?l38 ?c38 ?k38 ?a39 ?g39 ?t39 ?r39c ?l39 ?c39 ?k39) hmg
    (case z_isinstance => k_is)
    (case z_int => k_is)
    (case z_bool => k_is)
    (case z_list => k_is)
    (case z_tuple => k_is)
    (case z_abs => k_is)
    (case z_len => k_is)
    (case z_enumerate => k_is)
    (case z_range => k_is)
    (case z_max => k_is)
    (case z_min => k_is)
    (case z_str => k_is)
    (case z_all => k_is)
    (case z_divmod => k_is)
    (case z_repr => k_is)
    (case a_Move => k_is)
    (case a_Plan => k_is)
    (case a_Stream => k_is)
    (case a0 => k_is)
    (case l0 => k_is)
    (case c0 => k_is)
    (case k0 => k_is)
    (case a1 => k_is)
    (case l1 => k_is)
    (case c1 => k_is)
    (case k1 => k_is)
    (case a2 => k_is)
    (case l2 => k_is)
    (case c2 => k_is)
    (case k2 => k_is)
    (case a3 => k_is)
    (case l3 => k_is)
    (case c3 => k_is)
    (case k3 => k_is)
    (case a4 => k_is)
    (case l4 => k_is)
    (case c4 => k_is)
    (case k4 => k_is)
    (case a5 => k_is)
    (case l5 => k_is)
    (case c5 => k_is)
    (case k5 => k_is)
    (case a6 => k_is)
    (case l6 => k_is)
    (case c6 => k_is)
    (case k6 => k_is)
    (case a7 => k_is)
    (case l7 => k_is)
    (case c7 => k_is)
    (case k7 => k_is)
    (case a8 => k_is)
    (case l8 => k_is)
    (case c8 => k_is)
    (case k8 => k_is)
    (case a9 => k_is)
    (case l9 => k_is)
    (case c9 => k_is)
    (case k9 => k_is)
    (case a10 => k_is)
    (case l10 => k_is)
    (case c10 => k_is)
    (case k10 => k_is)
    (case a11 => k_is)
    (case l11 => k_is)
    (case c11 => k_is)
    (case k11 => k_is)
    (case a12 => k_is)
    (case l12 => k_is)
    (case c12 => k_is)
    (case k12 => k_is)
    (case a13 => k_is)
    (case l13 => k_is)
    (case c13 => k_is)
    (case k13 => k_is)
    (case a14 => k_is)
    (case l14 => k_is)
    (case c14 => k_is)
    (case k14 => k_is)
    (case a15 => k_is)
    (case l15 => k_is)
    (case c15 => k_is)
    (case k15 => k_is)
    (case a16 => k_is)
    (case l16 => k_is)
    (case c16 => k_is)
    (case k16 => k_is)
    (case a17 => k_is)
    (case l17 => k_is)
    (case c17 => k_is)
    (case k17 => k_is)
    (case a18 => k_is)
    (case l18 => k_is)
    (case c18 => k_is)
    (case k18 => k_is)
    (case a19 => k_is)
    (case l19 => k_is)
    (case c19 => k_is)
    (case k19 => k_is)
    (case a20 => k_is)
    (case l20 => k_is)
    (case c20 => k_is)
    (case k20 => k_is)
    (case a21 => k_is)
    (case l21 => k_is)
    (case c21 => k_is)
    (case k21 => k_is)
    (case a22 => k_is)
    (case l22 => k_is)
    (case c22 => k_is)
    (case k22 => k_is)
    (case a23 => k_is)
    (case l23 => k_is)
    (case c23 => k_is)
    (case k23 => k_is)
    (case a24 => k_is)
    (case l24 => k_is)
    (case c24 => k_is)
    (case k24 => k_is)
    (case a25 => k_is)
    (case l25 => k_is)
    (case c25 => k_is)
    (case k25 => k_is)
    (case a26 => k_is)
    (case l26 => k_is)
    (case c26 => k_is)
    (case k26 => k_is)
    (case a27 => k_is)
    (case l27 => k_is)
    (case c27 => k_is)
    (case k27 => k_is)
    (case lT => k_is)
    (case pgP => k_is)
    (case hdP => k_is)
    (case poP => k_is)
    (case saP => k_is)
    (case mkP => k_is)
    (case kcP => k_is)
    (case pgS => k_is)
    (case hdS => k_is)
    (case poS => k_is)
    (case saS => k_is)
    (case mkS => k_is)
    (case kcS => k_is)
    (case nP1 => k_is)
    (case nP2 => k_is)
    (case nS1 => k_is)
    (case nS2 => k_is)
    (case nS3 => k_is)
    (case nS4 => k_is)
    (case rdM => k_is)
    (case gaM => k_is)
    (case cvM => k_is)
    (case rdP => k_is)
    (case gaP => k_is)
    (case cvP => k_is)
    (case a28 => k_is)
    (case i28 => k_is)
    (case l28 => k_is)
    (case c28 => k_is)
    (case k28 => k_is)
    (case a29 => k_is)
    (case i29 => k_is)
    (case l29 => k_is)
    (case c29 => k_is)
    (case k29 => k_is)
    (case nG => k_is)
    (case aSh => k_is)
    (case rcSh => k_is)
    (case fiSh => k_is)
    (case l30 => k_is)
    (case c30 => k_is)
    (case k30 => k_is)
    (case aId => k_is)
    (case rcId => k_is)
    (case fiId => k_is)
    (case l31 => k_is)
    (case c31 => k_is)
    (case k31 => k_is)
    (case a32 => k_is)
    (case l32 => k_is)
    (case c32 => k_is)
    (case k32 => k_is)
    (case nL => k_is)
    (case a33 => k_is)
    (case i33 => k_is)
    (case l33 => k_is)
    (case c33 => k_is)
    (case k33 => k_is)
    (case a34 => k_is)
    (case i34 => k_is)
    (case l34 => k_is)
    (case c34 => k_is)
    (case k34 => k_is)
    (case a35 => k_is)
    (case i35 => k_is)
    (case l35 => k_is)
    (case c35 => k_is)
    (case k35 => k_is)
    (case a36 => k_is)
    (case i36 => k_is)
    (case l36 => k_is)
    (case c36 => k_is)
    (case k36 => k_is)
    (case a37 => k_is)
    (case i37 => k_is)
    (case l37 => k_is)
    (case c37 => k_is)
    (case k37 => k_is)
    (case a38 => k_is)
    (case g38 => k_is)
    (case t38 => k_is)
    (case r38c => k_is)
    (case l38 => k_is)
    (case c38 => k_is)
    (case k38 => k_is)
    (case a39 => k_is)
    (case g39 => k_is)
    (case t39 => k_is)
    (case r39c => k_is)
    (case l39 => k_is)
    (case c39 => k_is)
    (case k39 => k_is)

end
