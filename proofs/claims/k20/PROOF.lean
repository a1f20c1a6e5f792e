import PyProof.Rows.All
import Wide.All
import OpenK.AllK
import Wide.FinOn
import HandS.ForMost
import HandS.ForExc
import HandS.Deep
import HandS.ExcIs
import HandS.IsInst
import HandS.GenList
import PyProof.ReprRoads
import PyProof.ReprLen
import PySem.Challenge.RW_legion_k20_whole_schedules_select_runs
/-! K20M: the mirror of machines and situations; plain laws about schedules. No Python here. -/
namespace K20
/-- a move: its state and place, the next ones, what it starts, its shifts -/
structure Mv where
  st : Nat
  pl : Nat
  ns : Nat
  np : Nat
  sd : Option Nat
  sh : List (Nat × Nat)
instance : Inhabited Mv := ⟨⟨0, 0, 0, 0, none, []⟩⟩
abbrev Sit := Nat × List Int
/-- one more or less at a place -/
def bump (c : List Int) (i : Nat) (d : Int) : List Int := c.set i (c.getD i 0 + d)
/-- all threads of a go to b -/
def shift1 (c : List Int) (p : Nat × Nat) : List Int := (c.set p.2 (c.getD p.2 0 + c.getD p.1 0)).set p.1 0
def shiftAll (c : List Int) : List (Nat × Nat) → List Int
  | [] => c
  | p :: r => shiftAll (shift1 c p) r
def startOne (c : List Int) : Option Nat → List Int
  | none => c
  | some k => bump c k 1
def afterC (m : Mv) (c : List Int) : List Int := startOne (bump (shiftAll (bump c m.pl (-1)) m.sh) m.np 1) m.sd
def after (m : Mv) (s : Sit) : Sit := (m.ns, afterC m s.2)
def poss (m : Mv) (s : Sit) : Bool := decide (m.st = s.1) && decide (0 < s.2.getD m.pl 0)
def at_ (ms : List Mv) (i : Nat) : Mv := ms.getD i default
def can (ms : List Mv) (s : Sit) : List Nat := (List.range ms.length).filter fun i => poss (at_ ms i) s
/-- the position that a number selects among n -/
def pick (n : Nat) (z : Int) : Nat := (z.fmod (n : Int)).toNat
/-- the run that a schedule selects -/
def run (ms : List Mv) : Sit → List Int → List Nat
  | _, [] => []
  | s, z :: r => if (can ms s).length = 0 then [] else
      (can ms s).getD (pick (can ms s).length z) 0 :: run ms (after (at_ ms ((can ms s).getD (pick (can ms s).length z) 0)) s) r
/-- where the law's own loop arrives: positions, run, situation -/
def walk (ms : List Mv) : Sit → List Int → List Nat × List Nat × Sit
  | s, [] => ([], [], s)
  | s, z :: r => if (can ms s).length = 0 then walk ms s r else
      let k := pick (can ms s).length z
      let i := (can ms s).getD k 0
      let q := walk ms (after (at_ ms i) s) r
      (k :: q.1, i :: q.2.1, q.2.2)
/-- the situations of a run -/
def sits (ms : List Mv) : Sit → List Nat → List Sit
  | s, [] => [s]
  | s, i :: r => s :: sits ms (after (at_ ms i) s) r
def fin (ms : List Mv) : Sit → List Nat → Sit
  | s, [] => s
  | s, i :: r => fin ms (after (at_ ms i) s) r
/-- each index is possible where it comes -/
def IsRun (ms : List Mv) : Sit → List Nat → Prop
  | _, [] => True
  | s, i :: r => i < ms.length ∧ poss (at_ ms i) s = true ∧ IsRun ms (after (at_ ms i) s) r

theorem can_lt {ms : List Mv} {s : Sit} {i : Nat} (h : i ∈ can ms s) : i < ms.length ∧ poss (at_ ms i) s = true := by
  have := List.mem_filter.mp h
  exact ⟨List.mem_range.mp this.1, this.2⟩
theorem pick_lt {n : Nat} (z : Int) (h : n ≠ 0) : pick n z < n := by
  unfold pick
  have h1 : (0 : Int) < (n : Int) := by omega
  have h2 := Int.fmod_lt_of_pos z h1
  have h3 := Int.fmod_nonneg_of_pos z h1
  omega
theorem pick_cast {n : Nat} (z : Int) (h : n ≠ 0) : ((pick n z : Nat) : Int) = z.fmod (n : Int) := by
  unfold pick
  have h1 : (0 : Int) < (n : Int) := by omega
  have h3 := Int.fmod_nonneg_of_pos z h1
  omega
theorem pick_self {n k : Nat} (h : k < n) : pick n (k : Int) = k := by
  unfold pick
  rw [Int.fmod_eq_of_lt (by omega) (by omega)]
  omega
theorem getD_mem {l : List Nat} {k : Nat} (h : k < l.length) : l.getD k 0 ∈ l := by
  rw [List.getD_eq_getElem?_getD, List.getElem?_eq_getElem h]
  exact List.getElem_mem h
theorem can_pick {ms : List Mv} {s : Sit} (z : Int) (h : (can ms s).length ≠ 0) : (can ms s).getD (pick (can ms s).length z) 0 ∈ can ms s := getD_mem (pick_lt z h)

theorem run_isRun (ms : List Mv) : ∀ (zs : List Int) (s : Sit), IsRun ms s (run ms s zs)
  | [], _ => trivial
  | z :: r, s => by
    unfold run
    by_cases h : (can ms s).length = 0
    · rw [if_pos h]
      trivial
    · rw [if_neg h]
      have := can_lt (can_pick z h)
      exact ⟨this.1, this.2, run_isRun ms r _⟩
theorem walk_stuck (ms : List Mv) (s : Sit) (h : (can ms s).length = 0) : ∀ zs : List Int, walk ms s zs = ([], [], s)
  | [] => rfl
  | z :: r => by
    unfold walk
    rw [if_pos h]
    exact walk_stuck ms s h r
/-- the law's loop finds the run -/
theorem walk_run (ms : List Mv) : ∀ (zs : List Int) (s : Sit), (walk ms s zs).2.1 = run ms s zs
  | [], _ => rfl
  | z :: r, s => by
    unfold walk run
    by_cases h : (can ms s).length = 0
    · rw [if_pos h, if_pos h, walk_stuck ms s h r]
    · rw [if_neg h, if_neg h]
      show _ :: _ = _ :: _
      rw [walk_run ms r]
/-- .. and where it leads -/
theorem walk_fin (ms : List Mv) : ∀ (zs : List Int) (s : Sit), (walk ms s zs).2.2 = fin ms s (run ms s zs)
  | [], _ => rfl
  | z :: r, s => by
    unfold walk run
    by_cases h : (can ms s).length = 0
    · rw [if_pos h, if_pos h, walk_stuck ms s h r]
      rfl
    · rw [if_neg h, if_neg h]
      show (walk ms _ r).2.2 = fin ms _ (run ms _ r)
      exact walk_fin ms r _
/-- natural numbers as whole numbers -/
def intsOf (l : List Nat) : List Int := l.map fun k : Nat => (k : Int)
/-- the positions select the run -/
theorem walk_places (ms : List Mv) : ∀ (zs : List Int) (s : Sit), run ms s (intsOf (walk ms s zs).1) = run ms s zs
  | [], _ => rfl
  | z :: r, s => by
    by_cases h : (can ms s).length = 0
    · rw [walk_stuck ms s h]
      unfold run
      rw [if_pos h]
      rfl
    · have e : (walk ms s (z :: r)).1 = pick (can ms s).length z :: (walk ms (after (at_ ms ((can ms s).getD (pick (can ms s).length z) 0)) s) r).1 := by
        rw [walk, if_neg h]
      rw [e, show intsOf (pick (can ms s).length z :: (walk ms (after (at_ ms ((can ms s).getD (pick (can ms s).length z) 0)) s) r).1) = (pick (can ms s).length z : Int) :: intsOf (walk ms (after (at_ ms ((can ms s).getD (pick (can ms s).length z) 0)) s) r).1 from rfl]
      unfold run
      rw [if_neg h, if_neg h, pick_self (pick_lt z h), walk_places ms r]
/-- it ends early only where no move is possible -/
theorem walk_ends (ms : List Mv) : ∀ (zs : List Int) (s : Sit), (run ms s zs).length < zs.length → (can ms (walk ms s zs).2.2).length = 0
  | [], _, h => absurd h (Nat.not_lt_zero _)
  | z :: r, s, h => by
    by_cases hc : (can ms s).length = 0
    · rw [walk_stuck ms s hc]
      exact hc
    · have e : (walk ms s (z :: r)).2.2 = (walk ms (after (at_ ms ((can ms s).getD (pick (can ms s).length z) 0)) s) r).2.2 := by
        rw [walk, if_neg hc]
      rw [e]
      refine walk_ends ms r _ ?_
      unfold run at h
      rw [if_neg hc, List.length_cons, List.length_cons] at h
      omega
theorem sits_ne (ms : List Mv) (s : Sit) : ∀ l : List Nat, sits ms s l ≠ []
  | [] => fun h => by cases h
  | _ :: _ => fun h => by cases h
theorem sits_last (ms : List Mv) : ∀ (l : List Nat) (s : Sit), (sits ms s l)[(sits ms s l).length - 1]? = some (fin ms s l)
  | [], _ => rfl
  | i :: r, s => by
    have ih := sits_last ms r (after (at_ ms i) s)
    have hne : 0 < (sits ms (after (at_ ms i) s) r).length := List.length_pos_iff.mpr (sits_ne ms _ r)
    unfold sits fin
    rw [List.length_cons, Nat.add_sub_cancel]
    rw [show (sits ms (after (at_ ms i) s) r).length = ((sits ms (after (at_ ms i) s) r).length - 1) + 1 by omega, List.getElem?_cons_succ]
    exact ih
theorem walk_len (ms : List Mv) : ∀ (zs : List Int) (s : Sit), (walk ms s zs).1.length = (walk ms s zs).2.1.length
  | [], _ => rfl
  | z :: r, s => by
    unfold walk
    by_cases h : (can ms s).length = 0
    · rw [if_pos h]
      exact walk_len ms r s
    · rw [if_neg h]
      show (_ :: _ : List Nat).length = (_ :: _ : List Nat).length
      rw [List.length_cons, List.length_cons, walk_len ms r]
theorem run_len (ms : List Mv) : ∀ (zs : List Int) (s : Sit), (run ms s zs).length ≤ zs.length
  | [], _ => Nat.le_refl _
  | z :: r, s => by
    unfold run
    by_cases h : (can ms s).length = 0
    · rw [if_pos h]
      exact Nat.zero_le _
    · rw [if_neg h, List.length_cons, List.length_cons]
      exact Nat.succ_le_succ (run_len ms r _)
theorem can_le (ms : List Mv) (s : Sit) : (can ms s).length ≤ ms.length := by
  have := List.length_filter_le (fun i => poss (at_ ms i) s) (List.range ms.length)
  rw [List.length_range] at this
  exact this

/-! ### places in range -/
def OkMv (P : Nat) (m : Mv) : Prop := m.pl < P ∧ m.np < P ∧ (∀ k, m.sd = some k → k < P) ∧ ∀ p ∈ m.sh, p.1 < P ∧ p.2 < P
def OkAll (P : Nat) (ms : List Mv) : Prop := ∀ m ∈ ms, OkMv P m
theorem bump_len (c : List Int) (i : Nat) (d : Int) : (bump c i d).length = c.length := List.length_set ..
theorem shift1_len (c : List Int) (p : Nat × Nat) : (shift1 c p).length = c.length := by
  unfold shift1
  rw [List.length_set, List.length_set]
theorem shiftAll_len : ∀ (l : List (Nat × Nat)) (c : List Int), (shiftAll c l).length = c.length
  | [], _ => rfl
  | p :: r, c => by
    unfold shiftAll
    rw [shiftAll_len r, shift1_len]
theorem afterC_len (m : Mv) (c : List Int) : (afterC m c).length = c.length := by
  unfold afterC startOne
  cases m.sd with
  | none => show (bump _ _ _).length = _; rw [bump_len, shiftAll_len, bump_len]
  | some k => show (bump _ _ _).length = _; rw [bump_len, bump_len, shiftAll_len, bump_len]
theorem at_get {ms : List Mv} {i : Nat} (h : i < ms.length) : ms[i]? = some (at_ ms i) := by
  unfold at_
  rw [List.getD_eq_getElem?_getD, List.getElem?_eq_getElem h]
  rfl
theorem at_mem {ms : List Mv} {i : Nat} (h : i < ms.length) : at_ ms i ∈ ms := List.mem_of_getElem? (at_get h)
theorem OkAll.at {P : Nat} {ms : List Mv} (o : OkAll P ms) {i : Nat} (h : i < ms.length) : OkMv P (at_ ms i) := o _ (at_mem h)
end K20

set_option Elab.async false
set_option linter.all false
set_option maxRecDepth 100000
set_option maxHeartbeats 1000000
/-! K20R: rules that this claim adds to the layer: an item of a list by values, repr of data, promises under no guard. -/
namespace K20
open PySem PySem.Spec PyProof.Rows L2
/-- xs[i] by values, i not negative -/
def rGet (K : PySem.W.Frag) : V → V → Hp → VK → Prop := fun o i H Q => ∃ (p : Addr) (xs : List V) (j : Nat) (v : V), o = .ref p ∧ i = .int (j : Nat) ∧ SqL K H p xs ∧ xs[j]? = some v ∧ Q v H
theorem get_list {X : Cx} : PGet X (rGet X.K) := by
  intro pins s σ H o i ov iv Q I ro ri h
  obtain ⟨p, xs, j, v, rfl, rfl, hq, hx, q⟩ := h
  obtain rfl : ov = Value.ref p := ro
  obtain ⟨tk, rfl⟩ := ri
  obtain ⟨its, rv, pl, hz⟩ := I.list hq
  obtain ⟨u, hu, ru⟩ := rv.get hx
  have hj : j < xs.length := (List.getElem?_eq_some_iff.mp hx).1
  have hs := sizeLine_eq
  have hfit : ((j : Nat) : Int) < 2 ^ 63 := by omega
  exact wpAny_getItem_list pl.isList (Int.natCast_nonneg j) hfit (x := u) (by simpa using hu) ⟨v, H, I, ru, q⟩

/-! ### repr of data -/
/-- repr(x): x data that reads as d -/
def rRepr (K : PySem.W.Frag) : List V → Hp → VK → Prop := fun xs H Q => ∃ (a : Addr) (d : PyData), xs = [.ref a] ∧ Dp K H (.ref a) d ∧ d.showable = true ∧ d.canLay0 = true ∧ d.depth ≤ 60 ∧ d.shown.length ≤ sizeLine ∧ Q (.str d.shown) H
theorem call_repr {X : Cx} (hg : X.A.guards = some []) (hu : X.A.units + 64 < cLine) : CallR X (.builtin "repr") (rRepr X.K) := by
  intro pins s σ H vs us Q I r h
  obtain ⟨a, d, rfl, hd, hs, hl, hdep, hz, q⟩ := h
  cases r with
  | cons r1 r2 =>
    cases r2
    rename_i u
    obtain rfl : u = Value.ref a := r1
    obtain ⟨bs, rd⟩ := Dp.reads I d _ _ hd rfl
    have hno : d.hasDict = false := PyData.hasDict_of_canLay d hl
    refine repr_of_reads' rd hs (fun z => by rw [hno] at z; cases z) hg (by omega) (fun _ _ e => e) (fun h' t tk hk => ?_) hz
    exact ⟨.str d.shown, H, I.kept (t' := tk) hk, ⟨t, rfl⟩, q⟩
theorem boot_repr : bootBuiltins "repr" = some (.builtin "repr") := by decide +kernel

/-! ### promises that hold where no repr is under way -/
structure FnG (P : Program) (w : World) (K : PySem.W.Frag) (mg : Str → Option Value) (base : Heap) (CX : CXT) (k : Nat) (f : Addr) (fd : FuncData) (ps : List Str) (sp : Sp) : Prop where
  len : ∀ vs H Q E, sp vs H Q E → vs.length = ps.length
  run : ∀ (A : Around) (outer : List Env) (s : Shared) (H : Hp) (args : Args) (us : List Value) (vs : List V) (Q : VK) (E : XK), A.guards = some [] → Room k A →
    Env0 P w K mg base A outer s H → BindsTo s fd args (ps.zip us) → Vals vs us → sp vs H Q E →
    codeAny (model P w) A (.call (.ref f) args) (CR CX outer P w H s Q E) s
theorem guards_deeper {A : Around} {env : Env} (h : A.guards = some []) : (A.deeper env).guards = some [] := by
  first | exact h | simpa [Around.deeper] using h
section
variable {P : Program} {w : World} {K : PySem.W.Frag} {mg : Str → Option Value} {base : Heap}
/-- a def's promise by its body, the guards known -/
theorem fnG_of {CX : CXT} {x qual : Str} {st : Stmt} {f : Addr} {fd : FuncData} {N ps : List Str} {k : Nat} {sp : Sp} (F : Fun K x qual st f fd) (S : FnScope N ps (defScope st)) (len : ∀ vs H Q E, sp vs H Q E → vs.length = ps.length)
    (body : ∀ (cd : Value) (A : Around) (outer : List Env) (s : Shared) (H : Hp) (vs : List V) (Q : VK) (E : XK), (A.deeper (envOfC qual (defScope st) s.heap.objs.size f cd)).guards = some [] →
      Room k (A.deeper (envOfC qual (defScope st) s.heap.objs.size f cd)) → sp vs H Q E →
      ∃ t, PSs (cxOf CX P w K mg base N qual (defScope st) f cd A outer s H E) (defBody st) t ∧ t { nx := fun _ H' => Q .non H', rt := Q } (start N vs) H) : FnG P w K mg base CX (k + 1) f fd ps sp := by
  refine ⟨len, fun A outer s H args us vs Q E hgd hr e0 hb r hsp => ?_⟩
  obtain ⟨oc, od, kV, doc, pm, an, cd, ct, osl, rfl, lk, hcd⟩ := F.ex
  have KX : K.In s.heap := e0.mod.kin.keeps fun b o e => (e0.bs b o e).1
  have kinds : ∀ y ∈ ps.zip us, (defScope st).names.lookup y.1 = some .local ∨ ((defScope st).names.lookup y.1 = some .cell ∧ ((cellsFrom (s.heap.objs.size + 1) (defScope st).names []).lookup y.1).isSome = true) := by
    intro y hy
    have hm : y.1 ∈ ps := (List.of_mem_zip (show (y.1, y.2) ∈ ps.zip us from hy)).1
    rcases S.par y.1 hm with c | c
    · exact .inl c
    · exact .inr ⟨c, PySem.W.cellsFrom_some _ _ _ (.inl c)⟩
  have hl : vs.length = ps.length := len _ _ _ _ hsp
  obtain ⟨t, ht, hq⟩ := body cd A outer s H vs Q E (guards_deeper hgd) (hr.deeper _) hsp
  refine codeAny_call_function hr.depth (KX _ _ lk) rfl S.co S.gen rfl (PySem.W.codeRec_of KX hcd)
    (hb _ _ _ _ (wpAny_newFunctionEnv_cells S.kind kinds fun env he s1 x => ?_))
  subst he
  have I := inv_start (CX := CX) (P := P) (w := w) (K := K) (mg := mg) (base := base) (E := E) (cd := cd) S hr.hd e0 hl r x
  have lim : s1.heap.NoLimit := (e0.mod.nolimit.keeps fun b o e => (e0.bs b o e).1).keeps x.toInCall.keep
  refine ⟨lim, codeAny_func (wpAny_mono (ht.run [] s1 (start N vs) H _ I hq) (fun fl s' hs => ?_) fun _ _ z => z)⟩
  match fl, hs with
  | .ret u, ⟨v, _, H', J, rv, q⟩ => exact ⟨v, H', J.os, J.bare, J.base, J.hok, rv, q⟩
  | .next, ⟨_, H', J, q⟩ => exact ⟨.non, H', J.os, J.bare, J.base, J.hok, rfl, q⟩
  | .brk, ⟨_, _, _, q⟩ => exact q.elim
  | .cont, ⟨_, _, _, q⟩ => exact q.elim
end
section
variable {X : Cx} {CX : CXT} {k : Nat} {f : Addr} {fd : FuncData} {ps : List Str} {sp : Sp} {E : XK} {x : Str} {p pos : Pos} {e : Expr} {es : List Expr} {t : TA}
/-- f(e, ..), f's promise under no guard, no defaults -/
theorem pe_callG (F : FnG X.prog X.w X.K X.mg X.base CX k f fd ps sp) (hgd : X.A.guards = some []) (hr : Room k X.A) (hg : Gl X x) (hm : X.mg x = some (.ref f)) (hk : PySem.W.keepIn X.K (.ref f) = true) (hb : Binds X.K fd ps []) (hx : Passes CX X E)
    (ha : PA X (e :: es) t) (hdb : (x == ("__debug__" : Str)) = false := by decide) (he : starEach (e :: es) X.env = (false, eval e X.env) :: starEach es X.env := by rfl) (hpl : (backTo pos (starEach es X.env)).any (·.1) = false := by rfl) :
    PE X (.Call (.Name x p) (e :: es) [] pos) (tCall sp [] E t) := by
  refine ⟨fun pins s σ H Q I h => wpAny_Call_Name_kw (ld_glob I hg hm ?_ hdb)⟩
  refine PySem.W.callWith_K (h₀ := X.base) I.ok.mod.kin hk (thn (ha.run pos pins s σ H _ I h) fun us s1 ⟨vs, H1, I1, r, q⟩ => ⟨I1.kIn, ?_⟩) he hpl
  have q' : sp vs H1 Q E := by
    have z : sp (vs ++ []) H1 Q E := q
    rw [List.append_nil] at z
    exact z
  have hl : us.length = ps.length := r.length.symm.trans (F.len _ _ _ _ q')
  have bd := hb s1 us I1.kIn (by rw [List.append_nil]; exact hl)
  rw [List.append_nil] at bd
  refine wpAny_call (codeAny_mono (F.run X.A X.stack s1 H1 ⟨us, []⟩ us vs Q E hgd hr I1.env0 bd r q') fun rr s' hq => ?_)
  match rr, hq with
  | .error e, hq => exact hx pins σ H1 s1 e s' I1 hq
  | .ok (.ret u), hq => exact I1.after hq
  | .ok .next, hq => exact hq.elim
  | .ok .brk, hq => exact hq.elim
  | .ok .cont, hq => exact hq.elim
end
end K20

set_option Elab.async false
set_option linter.all false
set_option maxRecDepth 100000
set_option maxHeartbeats 1000000
/-! K20D: the mirror's data as it lies in the heap. -/
namespace K20
open PySem PySem.Spec PyProof.Rows L2
structure Mach where
  S : Nat
  P : Nat
  s0 : Nat
  c0 : List Int
  crew : Nat
  ms : List Mv
def optD : Option Nat → PyData
  | none => .none
  | some k => .int (k : Int)
def optV : Option Nat → V
  | none => .non
  | some k => .int (k : Int)
def prD (p : Nat × Nat) : PyData := .tuple [.int p.1, .int p.2]
def mvD (m : Mv) : PyData := .tuple [.int m.st, .int m.pl, .int m.ns, .int m.np, optD m.sd, .list (m.sh.map prD)]
def sitD (s : Sit) : PyData := .tuple [.int s.1, .list (s.2.map .int)]
def machD (M : Mach) : PyData := .tuple [.int M.S, .int M.P, sitD (M.s0, M.c0), .int M.crew, .list (M.ms.map mvD)]

/-! ### heaps that keep what was -/
theorem seqT_same {K : PySem.W.Frag} {H H' : Hp} {a : Addr} {xs : List V} (e : Same H H') (h : SqT K H a xs) : SqT K H' a xs := by
  rcases h with (h | ⟨o, h⟩) | h
  · exact .inl (.inl (e _ _ h))
  · exact .inl (.inr ⟨o, e _ _ h⟩)
  · exact .inr h
mutual
theorem dp_same {K : PySem.W.Frag} {H H' : Hp} (e : Same H H') : ∀ (d : PyData) (v : V), Dp K H v d → Dp K H' v d
  | .none, _, h => by cases h; exact .non
  | .bool b, _, h => by cases h; exact .bl b
  | .int i, _, h => by cases h; exact .int i
  | .str x, _, h => by cases h; exact .str x
  | .list ds, _, h => by
    cases h with
    | lst a b => exact .lst (e.seq a) (dps_same e ds _ b)
  | .tuple ds, _, h => by
    cases h with
    | tup a b => exact .tup (seqT_same e a) (dps_same e ds _ b)
  | .dict _, _, h => by cases h
theorem dps_same {K : PySem.W.Frag} {H H' : Hp} (e : Same H H') : ∀ (ds : List PyData) (vs : List V), DpAll K H vs ds → DpAll K H' vs ds
  | [], _, h => by cases h; exact .nil
  | d :: ds, _, h => by
    cases h with
    | cons a b => exact .cons (dp_same e d _ a) (dps_same e ds _ b)
end
theorem same_new {H : Hp} {p : Addr} {o : HO} (h : H p = none) : Same H (upd H p o) := fun b x e => by
  rw [upd_ne (ne_of_none e h)]
  exact e
/-- a list that stands in no heap ahead is changed -/
theorem same_upd {H0 H : Hp} {p : Addr} {o : HO} (e : Same H0 H) (h : H0 p = none) : Same H0 (upd H p o) := fun b x z => by
  rw [upd_ne (ne_of_none z h)]
  exact e b x z

section
variable {K : PySem.W.Frag} {H : Hp}
theorem dps_append : ∀ {vs : List V} {ds : List PyData} {v : V} {d : PyData}, DpAll K H vs ds → Dp K H v d → DpAll K H (vs ++ [v]) (ds ++ [d])
  | _, _, _, _, .nil, h => .cons h .nil
  | _, _, _, _, .cons a b, h => .cons a (dps_append b h)
theorem dps_len : ∀ {vs : List V} {ds : List PyData}, DpAll K H vs ds → vs.length = ds.length
  | _, _, .nil => rfl
  | _, _, .cons _ b => congrArg (· + 1) (dps_len b)
theorem dps_get : ∀ {vs : List V} {ds : List PyData} {i : Nat} {d : PyData}, DpAll K H vs ds → ds[i]? = some d → ∃ v, vs[i]? = some v ∧ Dp K H v d
  | _, _, _, _, .nil, h => by cases h
  | v :: _, _, 0, _, .cons a _, h => ⟨v, rfl, by cases h; exact a⟩
  | _ :: vs, _, i + 1, _, .cons _ b, h => dps_get (i := i) b h
theorem dps_ints : ∀ ns : List Int, DpAll K H (ns.map V.int) (ns.map PyData.int)
  | [] => .nil
  | n :: ns => .cons (.int n) (dps_ints ns)
theorem ints_dps : ∀ {ns : List Int} {vs : List V}, DpAll K H vs (ns.map PyData.int) → vs = ns.map V.int
  | [], _, h => by cases h; rfl
  | n :: ns, _, h => by
    cases h with
    | cons a b =>
      cases a
      rw [ints_dps b]
      rfl
theorem dp_opt : ∀ o : Option Nat, Dp K H (optV o) (optD o)
  | none => .non
  | some k => .int k
theorem opt_dp {v : V} : ∀ {o : Option Nat}, Dp K H v (optD o) → v = optV o
  | none, h => by cases h; rfl
  | some k, h => by cases h; rfl
/-- a situation as it lies -/
theorem sit_at {v : V} {s : Sit} (h : Dp K H v (sitD s)) : ∃ a b, v = .ref a ∧ SqT K H a [.int s.1, .ref b] ∧ SqL K H b (s.2.map V.int) := by
  cases h with
  | tup h1 h2 =>
    cases h2 with
    | cons p q =>
      cases p
      cases q with
      | cons p q =>
        cases q
        cases p with
        | lst l1 l2 =>
          rw [ints_dps l2] at l1
          exact ⟨_, _, rfl, h1, l1⟩
theorem sit_mk {a b : Addr} {s : Sit} (h1 : SqT K H a [.int s.1, .ref b]) (h2 : SqL K H b (s.2.map V.int)) : Dp K H (.ref a) (sitD s) :=
  .tup h1 (.cons (.int _) (.cons (.lst h2 (dps_ints _)) .nil))
/-- a machine as it lies -/
theorem mach_at {v : V} {M : Mach} (h : Dp K H v (machD M)) : ∃ a vs b mvs, v = .ref a ∧ SqT K H a [.int M.S, .int M.P, vs, .int M.crew, .ref b] ∧ SqL K H b mvs ∧ DpAll K H mvs (M.ms.map mvD) := by
  cases h with
  | tup h1 h2 =>
    cases h2 with
    | cons p1 q =>
      cases p1
      cases q with
      | cons p2 q =>
        cases p2
        cases q with
        | cons p3 q =>
          cases q with
          | cons p4 q =>
            cases p4
            cases q with
            | cons p5 q =>
              cases q
              cases p5 with
              | lst l1 l2 => exact ⟨_, _, _, _, rfl, h1, l1, l2⟩
/-- a move as it lies -/
structure MvAt (K : PySem.W.Frag) (H : Hp) (a : Addr) (m : Mv) : Prop where
  sq : ∃ b, SqT K H a [.int m.st, .int m.pl, .int m.ns, .int m.np, optV m.sd, .ref b] ∧ ∃ prs, SqL K H b prs ∧ DpAll K H prs (m.sh.map prD)
theorem mv_at {v : V} {m : Mv} (h : Dp K H v (mvD m)) : ∃ a, v = .ref a ∧ MvAt K H a m := by
  cases h with
  | tup h1 h2 =>
    cases h2 with
    | cons p1 q =>
      cases p1
      cases q with
      | cons p2 q =>
        cases p2
        cases q with
        | cons p3 q =>
          cases p3
          cases q with
          | cons p4 q =>
            cases p4
            cases q with
            | cons p5 q =>
              have e := opt_dp p5
              subst e
              cases q with
              | cons p6 q =>
                cases q
                cases p6 with
                | lst l1 l2 => exact ⟨_, rfl, ⟨_, h1, _, l1, l2⟩⟩
theorem pr_at {v : V} {p : Nat × Nat} (h : Dp K H v (prD p)) : ∃ a, v = .ref a ∧ SqT K H a [.int p.1, .int p.2] := by
  cases h with
  | tup h1 h2 =>
    cases h2 with
    | cons p1 q =>
      cases p1
      cases q with
      | cons p2 q =>
        cases p2
        cases q
        exact ⟨_, rfl, h1⟩
/-- the i-th move of a machine -/
theorem move_at {mvs : List V} {ms : List Mv} {i : Nat} (h : DpAll K H mvs (ms.map mvD)) (hi : i < ms.length) : ∃ a, mvs[i]? = some (.ref a) ∧ MvAt K H a (at_ ms i) := by
  have e : (ms.map mvD)[i]? = some (mvD (at_ ms i)) := by rw [List.getElem?_map, at_get hi]; rfl
  obtain ⟨v, h1, h2⟩ := dps_get h e
  obtain ⟨a, rfl, h3⟩ := mv_at h2
  exact ⟨a, h1, h3⟩
theorem shift_at {prs : List V} {l : List (Nat × Nat)} {i : Nat} {v : V} (h : DpAll K H prs (l.map prD)) (hi : prs[i]? = some v) : ∃ p a, l[i]? = some p ∧ v = .ref a ∧ SqT K H a [.int p.1, .int p.2] := by
  have hl : i < l.length := by
    have h1 := (List.getElem?_eq_some_iff.mp hi).1
    have h2 := dps_len h
    rw [List.length_map] at h2
    omega
  have e : (l.map prD)[i]? = some (prD l[i]) := by rw [List.getElem?_map, List.getElem?_eq_getElem hl]; rfl
  obtain ⟨w, h1, h2⟩ := dps_get h e
  rw [hi] at h1
  cases h1
  obtain ⟨a, rfl, h3⟩ := pr_at h2
  exact ⟨l[i], a, List.getElem?_eq_getElem hl, rfl, h3⟩
end

/-! ### data that prints short -/
structure Sm (B d : Nat) (x : PyData) : Prop where
  sh : x.showable = true
  lay : x.canLay0 = true
  lv : x.leavesShort 8 = true
  wt : x.weight ≤ B
  dp : x.depth ≤ d
theorem Sm.mono {B B' d d' : Nat} {x : PyData} (h : Sm B d x) (hB : B ≤ B') (hd : d ≤ d') : Sm B' d' x := ⟨h.sh, h.lay, h.lv, Nat.le_trans h.wt hB, Nat.le_trans h.dp hd⟩
theorem sm_none {B d : Nat} : Sm B d .none := ⟨by simp only [PyData.showable], by simp only [PyData.canLay0], by simp only [PyData.leavesShort], by simp only [PyData.weight]; omega, by simp only [PyData.depth]; omega⟩
theorem log_small {n : Nat} (h : n < 100) : n.log2 < 7 := by
  by_cases z : n = 0
  · subst z; decide
  · exact (Nat.log2_lt z).mpr (by omega)
theorem sm_int {i : Int} (h : i.natAbs < 100) : Sm 7 0 (.int i) := by
  have hl := log_small h
  refine ⟨?_, by simp only [PyData.canLay0], ?_, ?_, by simp only [PyData.depth]; omega⟩
  · simp only [PyData.showable, decide_eq_true_eq]
    omega
  · simp only [PyData.leavesShort, decide_eq_true_eq]
    have e := int_text_length_le10 (a := i) (k := 2) (by decide) (by omega)
    rw [PyData.shown_int]
    show (Str.ofString (toString i)).length ≤ 8
    rw [PySem.ofString_length]
    omega
  · simp only [PyData.weight]
    split <;> omega
theorem sm_all {B d : Nat} : ∀ {xs : List PyData}, (∀ x ∈ xs, Sm B d x) → PyData.showableAll xs = true ∧ PyData.canLayAll0 xs = true ∧ PyData.leavesShortAll 8 xs = true ∧ PyData.weightAll xs ≤ xs.length * (B + 1) ∧ PyData.depthAll xs ≤ d
  | [], _ => ⟨by simp only [PyData.showableAll], by simp only [PyData.canLayAll0], by simp only [PyData.leavesShortAll], by simp only [PyData.weightAll]; omega, by simp only [PyData.depthAll]; omega⟩
  | x :: xs, h => by
    obtain ⟨h1, h2, h3, h4, h5⟩ := sm_all (xs := xs) fun y hy => h y (List.mem_cons_of_mem _ hy)
    obtain ⟨g1, g2, g3, g4, g5⟩ := h x List.mem_cons_self
    refine ⟨by simp only [PyData.showableAll, g1, h1, Bool.and_self], by simp only [PyData.canLayAll0, g2, h2, Bool.and_self], by simp only [PyData.leavesShortAll, g3, h3, Bool.and_self], ?_, ?_⟩
    · simp only [PyData.weightAll, List.length_cons, Nat.add_mul, Nat.one_mul]
      omega
    · simp only [PyData.depthAll]
      omega
theorem sm_lst {B d n : Nat} {xs : List PyData} (h : ∀ x ∈ xs, Sm B d x) (hn : xs.length ≤ n) : Sm (n * (B + 1)) (d + 1) (.list xs) := by
  obtain ⟨h1, h2, h3, h4, h5⟩ := sm_all h
  have h6 := Nat.mul_le_mul_right (B + 1) hn
  refine ⟨by simp only [PyData.showable, h1], by simp only [PyData.canLay0, h2], by simp only [PyData.leavesShort, h3], by simp only [PyData.weight]; omega, by simp only [PyData.depth]; omega⟩
theorem sm_tup {B d n : Nat} {xs : List PyData} (h : ∀ x ∈ xs, Sm B d x) (hn : xs.length ≤ n) : Sm (n * (B + 1)) (d + 1) (.tuple xs) := by
  obtain ⟨h1, h2, h3, h4, h5⟩ := sm_all h
  have h6 := Nat.mul_le_mul_right (B + 1) hn
  refine ⟨by simp only [PyData.showable, h1], by simp only [PyData.canLay0, h2], by simp only [PyData.leavesShort, h3], by simp only [PyData.weight]; omega, by simp only [PyData.depth]; omega⟩
theorem Sm.text {B d : Nat} {x : PyData} (h : Sm B d x) (hB : 10 * B + 8 ≤ 16777216) : x.shown.length ≤ sizeLine := by
  have e := PyData.shown_le 8 (Nat.le_refl _) x h.lv
  have e2 : (8 + 2) * x.weight ≤ 10 * B := Nat.mul_le_mul_left 10 h.wt
  rw [sizeLine_eq]
  omega
theorem Sm.shaped {B d : Nat} {x : PyData} (h : Sm B d x) (hd : d ≤ 64) : SeqAt.shaped x = true := by
  show (x.canLay0 && decide (x.depth ≤ 64)) = true
  rw [h.lay, decide_eq_true (Nat.le_trans h.dp hd)]
  rfl
theorem sm_nat {n : Nat} (h : n < 100) : Sm 7 0 (.int (n : Int)) := sm_int (by omega)
theorem sm_opt : ∀ {o : Option Nat}, (∀ k, o = some k → k < 100) → Sm 7 0 (optD o)
  | none, _ => sm_none
  | some k, h => sm_nat (h k rfl)
/-- small in every number -/
def SmallMv (m : Mv) : Prop := m.st < 100 ∧ m.ns < 100 ∧ m.sh.length ≤ 6
theorem sm_pr {p : Nat × Nat} (h1 : p.1 < 100) (h2 : p.2 < 100) : Sm 16 1 (prD p) :=
  sm_tup (B := 7) (d := 0) (n := 2) (fun x hx => by
    simp only [List.mem_cons, List.not_mem_nil, or_false] at hx
    rcases hx with rfl | rfl
    · exact sm_nat h1
    · exact sm_nat h2) (Nat.le_refl _)
theorem sm_mv {P : Nat} {m : Mv} (o : OkMv P m) (hP : P ≤ 6) (s : SmallMv m) : Sm 618 3 (mvD m) := by
  obtain ⟨o1, o2, o3, o4⟩ := o
  obtain ⟨s1, s2, s3⟩ := s
  refine sm_tup (B := 102) (d := 2) (n := 6) (fun x hx => ?_) (Nat.le_refl _)
  simp only [List.mem_cons, List.not_mem_nil, or_false] at hx
  rcases hx with rfl | rfl | rfl | rfl | rfl | rfl
  · exact (sm_nat s1).mono (by decide) (by decide)
  · exact (sm_nat (by omega)).mono (by decide) (by decide)
  · exact (sm_nat s2).mono (by decide) (by decide)
  · exact (sm_nat (by omega)).mono (by decide) (by decide)
  · exact (sm_opt fun k hk => by have := o3 k hk; omega).mono (by decide) (by decide)
  · refine sm_lst (B := 16) (d := 1) (n := 6) (fun y hy => ?_) (by rw [List.length_map]; exact s3)
    obtain ⟨p, hp, rfl⟩ := List.mem_map.mp hy
    have := o4 p hp
    exact sm_pr (by omega) (by omega)
def SmallC (c : List Int) : Prop := c.length ≤ 6 ∧ ∀ z ∈ c, z.natAbs < 100
theorem sm_sit {s : Sit} (h1 : s.1 < 100) (h2 : SmallC s.2) : Sm 98 2 (sitD s) := by
  refine sm_tup (B := 48) (d := 1) (n := 2) (fun x hx => ?_) (Nat.le_refl _)
  simp only [List.mem_cons, List.not_mem_nil, or_false] at hx
  rcases hx with rfl | rfl
  · exact (sm_nat h1).mono (by decide) (by decide)
  · refine sm_lst (B := 7) (d := 0) (n := 6) (fun y hy => ?_) (by rw [List.length_map]; exact h2.1)
    obtain ⟨z, hz, rfl⟩ := List.mem_map.mp hy
    exact sm_int (h2.2 z hz)
/-- a machine with places in range and small numbers -/
structure OkM (M : Mach) : Prop where
  pos : 0 < M.P
  P6 : M.P ≤ 6
  S : M.S < 100
  s0 : M.s0 < 100
  crew : M.crew < 100
  c0 : SmallC M.c0
  n : M.ms.length ≤ 12
  ok : OkAll M.P M.ms
  sm : ∀ m ∈ M.ms, SmallMv m
theorem sm_mach {M : Mach} (o : OkM M) : Sm 37145 5 (machD M) := by
  refine sm_tup (B := 7428) (d := 4) (n := 5) (fun x hx => ?_) (Nat.le_refl _)
  simp only [List.mem_cons, List.not_mem_nil, or_false] at hx
  rcases hx with rfl | rfl | rfl | rfl | rfl
  · exact (sm_nat o.S).mono (by decide) (by decide)
  · exact (sm_nat (by have := o.P6; omega)).mono (by decide) (by decide)
  · exact (sm_sit (s := (M.s0, M.c0)) o.s0 o.c0).mono (by decide) (by decide)
  · exact (sm_nat o.crew).mono (by decide) (by decide)
  · refine sm_lst (B := 618) (d := 3) (n := 12) (fun y hy => ?_) (by rw [List.length_map]; exact o.n)
    obtain ⟨m, hm, rfl⟩ := List.mem_map.mp hy
    exact sm_mv (o.ok m hm) o.P6 (o.sm m hm)
/-- what repr([machine, situation]) shows -/
def pairD (M : Mach) (s : Sit) : PyData := .list [machD M, sitD s]
theorem sm_pair {M : Mach} {s : Sit} (o : OkM M) (h1 : s.1 < 100) (h2 : SmallC s.2) : Sm 74292 6 (pairD M s) := by
  refine sm_lst (B := 37145) (d := 5) (n := 2) (fun x hx => ?_) (Nat.le_refl _)
  simp only [List.mem_cons, List.not_mem_nil, or_false] at hx
  rcases hx with rfl | rfl
  · exact sm_mach o
  · exact (sm_sit h1 h2).mono (by decide) (by decide)
/-! ### equal data -/
theorem sit_shaped (s : Sit) : SeqAt.shaped (sitD s) = true := by
  have h : ∀ ns : List Int, PyData.canLayAll0 (ns.map PyData.int) = true := PySem.W.ke_canLayAll0
  have h2 : ∀ ns : List Int, PyData.depthAll (ns.map PyData.int) = 0 := PySem.W.ke_depthAll
  simp [SeqAt.shaped, sitD, PyData.canLay0, PyData.canLayAll0, PyData.depth, PyData.depthAll, h, h2]
end K20
namespace K20
open PySem PySem.Spec PyProof.Rows L2
theorem ixN_nat {n j : Nat} (h : j < n) : ixN n (j : Int) = some j := by
  unfold ixN
  rw [if_pos (Int.natCast_nonneg j), if_pos (by omega)]
  rfl
theorem ints_get {c : List Int} {i : Nat} (h : i < c.length) : (c.map V.int)[i]? = some (.int (c.getD i 0)) := by
  rw [List.getElem?_map, List.getD_eq_getElem?_getD, List.getElem?_eq_getElem h]
  rfl
theorem ints_set (c : List Int) (i : Nat) (z : Int) : (c.map V.int).set i (.int z) = (c.set i z).map V.int := (List.map_set (f := V.int) (l := c) (i := i) (a := z)).symm
theorem shiftAll_snoc : ∀ (l : List (Nat × Nat)) (c : List Int) (p : Nat × Nat), shiftAll c (l ++ [p]) = shift1 (shiftAll c l) p
  | [], _, _ => rfl
  | q :: r, c, p => shiftAll_snoc r (shift1 c q) p
theorem take_snoc {α : Type} : ∀ {l : List α} {i : Nat} {x : α}, l[i]? = some x → l.take (i + 1) = l.take i ++ [x]
  | [], _, _, h => by cases h
  | a :: l, 0, x, h => by
    cases h
    rfl
  | a :: l, i + 1, x, h => by
    show a :: l.take (i + 1) = a :: l.take i ++ [x]
    rw [take_snoc (l := l) (i := i) h]
    rfl
theorem len_ints (c : List Int) : (c.map V.int).length = c.length := List.length_map ..
end K20
namespace K20
open PySem PySem.Spec PyProof.Rows L2
/-- the heap without what stands at ps -/
def hide (H : Hp) (ps : List Addr) : Hp := fun b => if b ∈ ps then none else H b
theorem hide_at {H : Hp} {ps : List Addr} {b : Addr} (h : b ∉ ps) : hide H ps b = H b := if_neg h
theorem hide_same {H : Hp} {ps : List Addr} : Same (hide H ps) H := fun b o e => by
  unfold hide at e
  split at e
  · cases e
  · exact e
theorem hide_mono {H H' : Hp} {ps : List Addr} (s : Same H H') : Same (hide H ps) (hide H' ps) := fun b o e => by
  unfold hide at e ⊢
  split at e
  · cases e
  · rename_i hn
    rw [if_neg hn]
    exact s _ _ e
theorem hide_upd {H : Hp} {ps : List Addr} {p : Addr} {o : HO} (h : p ∈ ps) : hide (upd H p o) ps = hide H ps := by
  funext b
  unfold hide
  by_cases hb : b ∈ ps
  · rw [if_pos hb, if_pos hb]
  · rw [if_neg hb, if_neg hb, upd_ne (fun e => hb (by rw [e]; exact h))]
theorem hide_new {H0 H : Hp} {ps : List Addr} (h : ∀ p ∈ ps, H0 p = none) (s : Same H0 H) : Same H0 (hide H ps) := fun b o e => by
  rw [hide_at (fun hb => by rw [h b hb] at e; cases e)]
  exact s _ _ e
/-- a situation just made: its tuple and its list are new -/
def SitNew (H H' : Hp) (r : Addr) (s : Sit) : Prop := ∃ c, H r = none ∧ H c = none ∧ H' r = some (.tup [.int s.1, .ref c]) ∧ H' c = some (.lst (s.2.map V.int))
theorem SitNew.dp {K : PySem.W.Frag} {H H' : Hp} {r : Addr} {s : Sit} (h : SitNew H H' r s) : Dp K H' (.ref r) (sitD s) := by
  obtain ⟨c, _, _, h1, h2⟩ := h
  exact sit_mk (SqT.of h1) (SqL.of h2)
/-- .. it lies apart from what stood before -/
theorem SitNew.hid {K : PySem.W.Frag} {H H' : Hp} {r : Addr} {s : Sit} {ps : List Addr} (h : SitNew H H' r s) (hp : ∀ p ∈ ps, ∃ o, H p = some o) : Dp K (hide H' ps) (.ref r) (sitD s) := by
  obtain ⟨c, h0, h00, h1, h2⟩ := h
  have nr : r ∉ ps := fun z => by obtain ⟨o, e⟩ := hp r z; rw [h0] at e; cases e
  have nc : c ∉ ps := fun z => by obtain ⟨o, e⟩ := hp c z; rw [h00] at e; cases e
  exact sit_mk (SqT.of (by rw [hide_at nr]; exact h1)) (SqL.of (by rw [hide_at nc]; exact h2))
end K20

set_option Elab.async false
set_option linter.all false
set_option maxRecDepth 100000
set_option maxHeartbeats 4000000
/-! K20P1: check_move, is_possible. -/
namespace K20
open PySem PySem.Spec PyProof.Rows L2
def topS (i : Nat) : Stmt := PySem.Challenge.pw_legion_k20_whole_schedules_select_runs.main.body.getD i (.Pass ⟨0, 0, 0, 0⟩)
/-- a def of the text where it stands -/
structure At (K : PySem.W.Frag) (mg : Str → Option Value) (x : Str) (st : Stmt) (ps : List Str) (f : Addr) (fd : FuncData) : Prop where
  F : Fun K x x st f fd
  g : mg x = some (.ref f)
  b : Binds K fd ps []
abbrev sCheck : Stmt := topS 5
abbrev sPoss : Stmt := topS 6
theorem scCheck : FnScope ["machine", "move"] ["machine", "move"] (defScope sCheck) := ⟨rfl, rfl, rfl, by decide +kernel, rfl, by decide +kernel, by decide +kernel⟩
theorem scPoss : FnScope ["machine", "situation", "move", "state", "counts"] ["machine", "situation", "move"] (defScope sPoss) := ⟨rfl, rfl, rfl, by decide +kernel, rfl, by decide +kernel, by decide +kernel⟩
section
variable {P : Program} {w : World} {K : PySem.W.Frag} {mg : Str → Option Value} {base : Heap}
def spCheck (K : PySem.W.Frag) : Sp := fun vs H Q _ => ∃ (m : V) (M : Mach) (i : Nat), vs = [m, .int (i : Int)] ∧ Dp K H m (machD M) ∧ i < M.ms.length ∧ Q .non H
theorem ok_check {f : Addr} {fd : FuncData} (F : At K mg "check_move" sCheck ["machine", "move"] f fd) (ml : mg "len" = none) : FnOk P w K mg base CX0 1 f fd ["machine", "move"] (spCheck K) := by
  refine F.F.ok scCheck (fun vs H Q E h => ?_) (fun cdv A outer s H vs Q E hr h => ?_)
  · obtain ⟨m, M, i, rfl, _⟩ := h
    rfl
  · obtain ⟨m, M, i, rfl, hm, hi, q⟩ := h
    obtain ⟨a, v3, b, mvs, rfl, h1, h2, h3⟩ := mach_at hm
    have hl : mvs.length = M.ms.length := by rw [dps_len h3, List.length_map]
    refine ⟨_, pss_one (ps_if (pt_not (pt_chain op_le op_lt pe_int (pv 1) (pe_callB call_len_seq (by rfl) ml PySem.boot_len (pa_cons (pe_ix ix_tup (pv 0) pe_int (fun _ _ => rfl)) pa_nil)))) pss_never pss_nil), ?_⟩
    refine ⟨_, rfl, 0, (i : Int), rfl, rfl, _, rfl, ?_⟩
    rw [decide_eq_true (Int.natCast_nonneg i)]
    refine iteT ⟨_, rfl, a, _, 4, _, rfl, rfl, h1, atI_nat (j := 4) rfl, b, mvs, rfl, .inl h2, (i : Int), _, rfl, rfl, _, rfl, ?_⟩
    rw [decide_eq_true (show (i : Int) < ((mvs.length : Nat) : Int) by omega)]
    exact iteF q
def spPoss (K : PySem.W.Frag) : Sp := fun vs H Q _ => ∃ (m v : V) (M : Mach) (s : Sit) (i : Nat), vs = [m, v, .int (i : Int)] ∧ Dp K H m (machD M) ∧ Dp K H v (sitD s) ∧ i < M.ms.length ∧ OkAll s.2.length M.ms ∧ Q (.bl (poss (at_ M.ms i) s)) H
theorem ok_poss {f fC : Addr} {fd fdC : FuncData} (F : At K mg "is_possible" sPoss ["machine", "situation", "move"] f fd) (FC : At K mg "check_move" sCheck ["machine", "move"] fC fdC) (ml : mg "len" = none) :
    FnOk P w K mg base CX0 2 f fd ["machine", "situation", "move"] (spPoss K) := by
  have GC : FnOk P w K mg base CX0 1 fC fdC ["machine", "move"] (spCheck K) := ok_check FC ml
  refine F.F.ok scPoss (fun vs H Q E h => ?_) (fun cdv A outer s H vs Q E hr h => ?_)
  · obtain ⟨m, v, M, st, i, rfl, _⟩ := h
    rfl
  · obtain ⟨m, v, M, st, i, rfl, hm, hv, hi, ho, q⟩ := h
    obtain ⟨a, v3, b, mvs, rfl, h1, h2, h3⟩ := mach_at hm
    obtain ⟨sa, sb, rfl, g1, g2⟩ := sit_at hv
    obtain ⟨am, e1, ⟨bm, q1, _⟩⟩ := move_at h3 hi
    have hp : (at_ M.ms i).pl < st.2.length := (ho.at hi).1
    refine ⟨_, pss_cons (ps_expr (pe_call GC hr (by rfl) FC.g FC.F.kp FC.b .nil pass0 (pa_cons (pv 0) (pa_cons (pv 2) pa_nil))))
      (pss_cons (ps_asg (pv 1) (pg_tup rfl (pgs_cons (pg_name (i := 3) scPoss.nd rfl (.inl rfl)) (pgs_cons (pg_name (i := 4) scPoss.nd rfl (.inl rfl)) pgs_nil))))
      (pss_one (ps_ret (pe_and (pe_cmpR op_eq (pe_ix ix_tup (pe_ix ix_list (pe_ix ix_tup (pv 0) pe_int (fun _ _ => rfl)) (pv 2) (fun _ _ => rfl)) pe_int (fun _ _ => rfl)) (pv 3) (nomark _))
        (pe_one (pe_cmpR op_gt (pe_ix ix_list (pv 4) (pe_ix ix_tup (pe_ix ix_list (pe_ix ix_tup (pv 0) pe_int (fun _ _ => rfl)) (pv 2) (fun _ _ => rfl)) pe_int (fun _ _ => rfl)) (fun _ _ => rfl)) pe_int (nomark _))))))), ?_⟩
    -- check_move(machine, move)
    refine ⟨_, rfl, _, rfl, _, M, i, rfl, hm, hi, ?_⟩
    -- state, counts = situation
    refine ⟨_, rfl, sa, _, rfl, g1, rfl, _, _, rfl, _, _, rfl, rfl, ?_⟩
    -- machine[4][move][0] == state
    refine ⟨_, rfl, a, _, 4, _, rfl, rfl, h1, atI_nat (j := 4) rfl, _, rfl, b, mvs, (i : Int), _, rfl, rfl, h2, atI_nat e1, am, _, 0, _, rfl, rfl, q1, atI_nat (j := 0) rfl, _, rfl, rfl, _, rfl, ?_⟩
    have ed : decide (V.int ((at_ M.ms i).st : Int) = V.int (st.1 : Int)) = decide ((at_ M.ms i).st = st.1) := by
      by_cases e : (at_ M.ms i).st = st.1
      · rw [decide_eq_true e, e, decide_eq_true rfl]
      · rw [decide_eq_false e]
        exact decide_eq_false fun z => e (by have := V.int.inj z; omega)
    have hget : (st.2.map V.int)[(at_ M.ms i).pl]? = some (.int (st.2.getD (at_ M.ms i).pl 0)) := by
      rw [List.getElem?_map, List.getD_eq_getElem?_getD, List.getElem?_eq_getElem hp]
      rfl
    by_cases e : (at_ M.ms i).st = st.1
    · refine (show _ from ?_)
      rw [ed, decide_eq_true e]
      refine iteT ⟨_, rfl, _, rfl, a, _, 4, _, rfl, rfl, h1, atI_nat (j := 4) rfl, _, rfl, b, mvs, (i : Int), _, rfl, rfl, h2, atI_nat e1, am, _, 1, _, rfl, rfl, q1, atI_nat (j := 1) rfl, sb, _, _, _, rfl, rfl, g2, atI_nat hget, _, _, rfl, rfl, ?_⟩
      unfold poss at q
      rw [decide_eq_true e, Bool.true_and] at q
      exact q
    · rw [ed, decide_eq_false e]
      refine iteF ?_
      unfold poss at q
      rw [decide_eq_false e, Bool.false_and] at q
      exact q
end
end K20

set_option Elab.async false
set_option linter.all false
set_option maxRecDepth 100000
set_option maxHeartbeats 4000000
/-! K20P2: after. -/
namespace K20
open PySem PySem.Spec PyProof.Rows L2
abbrev sAfter : Stmt := topS 7
abbrev nAfter : List Str := ["machine", "situation", "move", "_", "place", "next_state", "next_place", "started", "shifts", "counts", "source", "target"]
theorem scAfter : FnScope nAfter ["machine", "situation", "move"] (defScope sAfter) := ⟨rfl, rfl, rfl, by decide +kernel, rfl, by decide +kernel, by decide +kernel⟩
section
variable {P : Program} {w : World} {K : PySem.W.Frag} {mg : Str → Option Value} {base : Heap}
def spAfter (K : PySem.W.Frag) : Sp := fun vs H Q _ => ∃ (m v : V) (M : Mach) (s : Sit) (i : Nat), vs = [m, v, .int (i : Int)] ∧ Dp K H m (machD M) ∧ Dp K H v (sitD s) ∧ i < M.ms.length ∧ OkAll s.2.length M.ms ∧ poss (at_ M.ms i) s = true ∧
  ∀ H' r, Same H H' → SitNew H H' r (after (at_ M.ms i) s) → Q (.ref r) H'
theorem ok_after {f fP fC : Addr} {fd fdP fdC : FuncData} (F : At K mg "after" sAfter ["machine", "situation", "move"] f fd) (FP : At K mg "is_possible" sPoss ["machine", "situation", "move"] fP fdP) (FC : At K mg "check_move" sCheck ["machine", "move"] fC fdC)
    (ml : mg "len" = none) (mli : mg "list" = none) : FnOk P w K mg base CX0 3 f fd ["machine", "situation", "move"] (spAfter K) := by
  have GP : FnOk P w K mg base CX0 2 fP fdP ["machine", "situation", "move"] (spPoss K) := ok_poss FP FC ml
  refine F.F.ok scAfter (fun vs H Q E h => ?_) (fun cdv A outer s H vs Q E hr h => ?_)
  · obtain ⟨m, v, M, st, i, rfl, _⟩ := h
    rfl
  · obtain ⟨m, v, M, st, i, rfl, hm, hv, hi, ho, hps, q⟩ := h
    obtain ⟨a, v3, b, mvs, rfl, h1, h2, h3⟩ := mach_at hm
    obtain ⟨sa, sb, rfl, g1, g2⟩ := sit_at hv
    obtain ⟨am, e1, ⟨bm, q1, prs, q2, q3⟩⟩ := move_at h3 hi
    have omv := ho.at hi
    generalize hmv : at_ M.ms i = mv at *
    obtain ⟨o1, o2, o3, o4⟩ := omv
    have nd := scAfter.nd
    refine ⟨_, pss_cons (ps_if (pt_not (pt_val (pe_call GP hr (by rfl) FP.g FP.F.kp FP.b .nil pass0 (pa_cons (pv 0) (pa_cons (pv 1) (pa_cons (pv 2) pa_nil)))))) pss_never pss_nil)
      (pss_cons (ps_asg (pe_ix ix_list (pe_ix ix_tup (pv 0) pe_int (fun _ _ => rfl)) (pv 2) (fun _ _ => rfl)) (pg_tup rfl (pgs_cons (pg_name (i := 3) nd rfl (.inl rfl)) (pgs_cons (pg_name (i := 4) nd rfl (.inl rfl))
        (pgs_cons (pg_name (i := 5) nd rfl (.inl rfl)) (pgs_cons (pg_name (i := 6) nd rfl (.inl rfl)) (pgs_cons (pg_name (i := 7) nd rfl (.inl rfl)) (pgs_cons (pg_name (i := 8) nd rfl (.inl rfl)) pgs_nil))))))))
      (pss_cons (ps_set (i := 9) nd rfl (.inl rfl) (pe_callTy call_list_of (by rfl) mli (by decide +kernel) (pa_cons (pe_ix ix_tup (pv 1) pe_int (fun _ _ => rfl)) pa_nil)))
      (pss_cons (ps_augS (pv 9) (pv 4) get_list pe_int ip_sub set_list)
      (pss_cons (ps_for PassesOwn.never rfl (pi_list (pv 8)) (pg_tup rfl (pgs_cons (pg_name (i := 10) nd rfl (.inl rfl)) (pgs_cons (pg_name (i := 11) nd rfl (.inl rfl)) pgs_nil)))
        (pss_cons (ps_augS (pv 9) (pv 11) get_list (pe_ix ix_list (pv 9) (pv 10) (fun _ _ => rfl)) ip_add set_list)
          (pss_one (ps_asg pe_int (pg_sub (pv 9) (pv 10) set_list)))))
      (pss_cons (ps_augS (pv 9) (pv 6) get_list pe_int ip_add set_list)
      (pss_cons (ps_if (pt_cmpR op_notN (pv 7) pe_non (nomark _)) (pss_one (ps_augS (pv 9) (pv 7) get_list pe_int ip_add set_list)) pss_nil)
      (pss_one (ps_ret (pe_tup (pa_cons (pv 5) (pa_cons (pv 9) pa_nil))))))))))), ?_⟩
    -- if not is_possible(..)
    refine ⟨_, rfl, _, rfl, _, rfl, _, _, M, st, i, rfl, hm, hv, hi, ho, ?_⟩
    rw [hmv, hps]
    refine ⟨true, rfl, iteF ?_⟩
    -- the six names
    refine ⟨_, rfl, a, _, 4, _, rfl, rfl, h1, atI_nat (j := 4) rfl, _, rfl, b, mvs, (i : Int), _, rfl, rfl, h2, atI_nat e1, am, _, rfl, q1, rfl, ?_⟩
    refine ⟨_, _, rfl, _, _, rfl, _, _, rfl, _, _, rfl, _, _, rfl, _, _, rfl, rfl, ?_⟩
    -- counts = list(situation[1])
    refine ⟨_, rfl, sa, _, 1, _, rfl, rfl, g1, atI_nat (j := 1) rfl, sb, _, rfl, .inl g2, fun c hc => ?_⟩
    have len0 : (st.2.map V.int).length = st.2.length := len_ints _
    -- counts[place] -= 1
    refine ⟨_, rfl, _, rfl, c, _, mv.pl, _, rfl, rfl, SqL.of upd_same, ints_get o1, _, _, rfl, rfl, c, _, (mv.pl : Int), mv.pl, rfl, rfl, upd_same, ixN_nat (by rw [len0]; exact o1), ?_⟩
    have hS : ∀ {o1 o2 : HO}, Same H (upd (upd H c o1) c o2) := fun {o1 o2} => same_upd (same_new hc) hc
    -- the shifts
    refine ⟨_, rfl, bm, rfl, ⟨prs, hS.seq q2⟩, for_list (K := K) (a := bm) (xs := prs) (fun j σ H' => ∃ y z, σ = [some (.ref a), some (.ref sa), some (.int (i : Int)), some (.int mv.st), some (.int mv.pl), some (.int mv.ns), some (.int mv.np), some (optV mv.sd), some (.ref bm), some (.ref c), y, z] ∧
      Same H H' ∧ H' c = some (.lst ((shiftAll (bump st.2 mv.pl (-1)) (mv.sh.take j)).map V.int))) ⟨none, none, rfl, hS, ?_⟩ (fun j σ H' _ ⟨_, _, _, s1, _⟩ => s1.seq q2) ?_ ?_⟩
    · rw [upd_same, ints_set]
      rfl
    · rintro j x σ H' hx ⟨y, z, rfl, s1, hcl⟩
      obtain ⟨p, ap, hp, rfl, hpt⟩ := shift_at q3 hx
      have hpt' := seqT_same s1 hpt
      obtain ⟨r1, r2⟩ := o4 p (List.mem_of_getElem? hp)
      rw [take_snoc hp, shiftAll_snoc]
      have hlen : (shiftAll (bump st.2 mv.pl (-1)) (mv.sh.take j)).length = st.2.length := by rw [shiftAll_len, bump_len]
      generalize hcs : shiftAll (bump st.2 mv.pl (-1)) (mv.sh.take j) = cs at hcl hlen ⊢
      have e1 : p.1 < cs.length := by omega
      have e2 : p.2 < cs.length := by omega
      refine ⟨ap, _, rfl, hpt', rfl, _, _, rfl, _, _, rfl, rfl, ?_⟩
      -- counts[target] += counts[source]
      refine ⟨_, rfl, _, rfl, c, _, p.2, _, rfl, rfl, SqL.of hcl, ints_get e2, _, rfl, _, rfl, c, _, (p.1 : Int), _, rfl, rfl, SqL.of hcl, atI_nat (ints_get e1), _, _, rfl, rfl, c, _, (p.2 : Int), p.2, rfl, rfl, hcl, ixN_nat (by rw [len_ints]; exact e2), ?_⟩
      -- counts[source] = 0
      refine ⟨_, rfl, _, rfl, c, _, (p.1 : Int), p.1, rfl, rfl, upd_same, ixN_nat (by rw [List.length_set, len_ints]; exact e1), ?_⟩
      refine ⟨_, _, rfl, same_upd (same_upd s1 hc) hc, ?_⟩
      rw [upd_same, ints_set, ints_set]
      rfl
    · rintro σ H' ⟨y, z, rfl, s1, hcl⟩
      have hl : prs.length = mv.sh.length := by rw [dps_len q3, List.length_map]
      rw [hl, List.take_length] at hcl
      have hlen : (shiftAll (bump st.2 mv.pl (-1)) mv.sh).length = st.2.length := by rw [shiftAll_len, bump_len]
      generalize hcs : shiftAll (bump st.2 mv.pl (-1)) mv.sh = cs at hcl hlen
      have e1 : mv.np < cs.length := by omega
      -- counts[next_place] += 1
      refine ⟨_, rfl, _, rfl, c, _, mv.np, _, rfl, rfl, SqL.of hcl, ints_get e1, _, _, rfl, rfl, c, _, (mv.np : Int), mv.np, rfl, rfl, hcl, ixN_nat (by rw [len_ints]; exact e1), ?_⟩
      -- what is handed back
      have fin : ∀ (σ' : L2.St) (H2 : Hp) (cs' : List Int), σ'[5]? = some (some (.int (mv.ns : Int))) → σ'[9]? = some (some (.ref c)) → Same H H2 → H2 c = some (.lst (cs'.map V.int)) → cs' = afterC mv st.2 →
          tRet (tTup (tCons (tVar 5) (tCons (tVar 9) tNil))) { nx := fun _ H' => Q .non H', rt := Q } σ' H2 := by
        intro σ' H2 cs' f5 f9 s2 hc2 ec
        refine ⟨_, f5, _, f9, (by show 2 ≤ sizeLine; decide), fun t ht => ?_⟩
        have s3 : Same H2 (upd H2 t (.tup [.int (mv.ns : Int), .ref c])) := same_new ht
        refine q _ t (s2.trans s3) ?_
        subst ec
        exact ⟨c, s2.free ht, hc, upd_same, s3 _ _ hc2⟩
      have hb : upd H' c (.lst ((cs.map V.int).set mv.np (.int (cs.getD mv.np 0 + 1)))) c = some (.lst ((bump cs mv.np 1).map V.int)) := by
        rw [upd_same, ints_set]
        rfl
      have hbl : (bump cs mv.np 1).length = st.2.length := by rw [bump_len]; exact hlen
      have sb1 : Same H (upd H' c (.lst ((cs.map V.int).set mv.np (.int (cs.getD mv.np 0 + 1))))) := same_upd s1 hc
      have ea : afterC mv st.2 = startOne (bump cs mv.np 1) mv.sd := by
        unfold afterC
        rw [hcs]
      cases hsd : mv.sd with
      | none =>
        rw [hsd] at ea
        refine ⟨_, rfl, rfl, _, rfl, iteF ?_⟩
        exact fin _ _ _ rfl rfl sb1 hb ea.symm
      | some k =>
        rw [hsd] at ea
        have hk : k < (bump cs mv.np 1).length := by rw [hbl]; exact o3 k hsd
        refine ⟨_, rfl, rfl, _, rfl, iteT ?_⟩
        refine ⟨_, rfl, _, rfl, c, _, k, _, rfl, rfl, SqL.of hb, ints_get hk, _, _, rfl, rfl, c, _, (k : Int), k, rfl, rfl, hb, ixN_nat (by rw [len_ints]; exact hk), ?_⟩
        exact fin _ _ (bump (bump cs mv.np 1) k 1) rfl rfl (same_upd sb1 hc) (by rw [upd_same, ints_set]; rfl) ea.symm
end
end K20

set_option Elab.async false
set_option linter.all false
set_option maxRecDepth 100000
set_option maxHeartbeats 4000000
/-! K20P3: possible_moves; the law's own _law_can, _law_after. -/
namespace K20
open PySem PySem.Spec PyProof.Rows L2
abbrev sMoves : Stmt := topS 8
abbrev nMoves : List Str := ["machine", "situation", "move"]
theorem scMoves : FnScope nMoves ["machine", "situation"] (defScope sMoves) := ⟨rfl, rfl, rfl, by decide +kernel, rfl, by decide +kernel, by decide +kernel⟩
def natsV (l : List Nat) : List V := l.map fun k : Nat => V.int (k : Int)
theorem natsV_len (l : List Nat) : (natsV l).length = l.length := List.length_map ..
/-- the first i moves, filtered -/
def canTo (ms : List Mv) (s : Sit) (i : Nat) : List Nat := (List.range i).filter fun j => poss (at_ ms j) s
theorem canTo_all (ms : List Mv) (s : Sit) : canTo ms s ms.length = can ms s := rfl
theorem canTo_succ (ms : List Mv) (s : Sit) (i : Nat) : canTo ms s (i + 1) = if poss (at_ ms i) s = true then canTo ms s i ++ [i] else canTo ms s i := by
  unfold canTo
  rw [List.range_succ, List.filter_append]
  by_cases h : poss (at_ ms i) s = true
  · rw [if_pos h, show List.filter (fun j => poss (at_ ms j) s) [i] = [i] by simp [h]]
  · rw [if_neg h, show List.filter (fun j => poss (at_ ms j) s) [i] = [] by simp [h], List.append_nil]
theorem canTo_len (ms : List Mv) (s : Sit) (i : Nat) : (canTo ms s i).length ≤ i := by
  have := List.length_filter_le (fun j => poss (at_ ms j) s) (List.range i)
  rw [List.length_range] at this
  exact this
theorem natsV_snoc (l : List Nat) (i : Nat) : natsV (l ++ [i]) = natsV l ++ [.int (i : Int)] := by
  unfold natsV
  rw [List.map_append]
  rfl
section
variable {P : Program} {w : World} {K : PySem.W.Frag} {mg : Str → Option Value} {base : Heap}
def spMoves (K : PySem.W.Frag) : Sp := fun vs H Q _ => ∃ (m v : V) (M : Mach) (s : Sit), vs = [m, v] ∧ Dp K H m (machD M) ∧ Dp K H v (sitD s) ∧ OkAll s.2.length M.ms ∧ M.ms.length ≤ 1000 ∧
  ∀ H' p, Same H H' → H p = none → H' p = some (.lst (natsV (can M.ms s))) → Q (.ref p) H'
theorem ok_moves {f fP fC : Addr} {fd fdP fdC : FuncData} (F : At K mg "possible_moves" sMoves ["machine", "situation"] f fd) (FP : At K mg "is_possible" sPoss ["machine", "situation", "move"] fP fdP) (FC : At K mg "check_move" sCheck ["machine", "move"] fC fdC)
    (ml : mg "len" = none) (mr : mg "range" = none) : FnOk P w K mg base CX0 3 f fd ["machine", "situation"] (spMoves K) := by
  have GP : FnOk P w K mg base CX0 2 fP fdP ["machine", "situation", "move"] (spPoss K) := ok_poss FP FC ml
  refine F.F.ok scMoves (fun vs H Q E h => ?_) (fun cdv A outer s H vs Q E hr h => ?_)
  · obtain ⟨m, v, M, st, rfl, _⟩ := h
    rfl
  · obtain ⟨m, v, M, st, rfl, hm, hv, ho, hn, q⟩ := h
    obtain ⟨a, v3, b, mvs, rfl, h1, h2, h3⟩ := mach_at hm
    have hl : mvs.length = M.ms.length := by rw [dps_len h3, List.length_map]
    have nd := scMoves.nd
    refine ⟨_, pss_one (ps_ret (pe_lc (own := [("move", 2)]) (g := gName 2) rfl nd
      (pi_range1 (by rfl) mr (pa_cons (pe_callB call_len_seq (by rfl) ml PySem.boot_len (pa_cons (pe_ix ix_tup (pv 0) pe_int (fun _ _ => rfl)) pa_nil)) pa_nil))
      (blkOk_by (own := [("move", 2)]) (N := nMoves) (sc := defScope sMoves) (by decide +kernel)) (fun _ _ _ _ _ => pg_name (i := 2) nd rfl (Or.inl rfl))
      (fun _ _ _ _ _ => pts_one (pt_val (pe_call GP hr (by rfl) FP.g FP.F.kp FP.b .nil pass0 (pa_cons (pv 0) (pa_cons (pv 1) (pa_cons (pv 2) pa_nil))))))
      (fun _ _ _ _ _ => pv 2))), ?_⟩
    refine ⟨_, rfl, a, _, 4, _, rfl, rfl, h1, atI_nat (j := 4) rfl, b, mvs, rfl, .inl h2, _, rfl, by omega, by omega, fun D hD => lc_range (lo := 0) (fun i H' => Same H H' ∧ H' D = some (.lst (natsV (canTo M.ms st i)))) ⟨same_new hD, upd_same⟩ ?_ ?_⟩
    · rintro i H' hi ⟨s1, hd⟩
      have hi' : i < M.ms.length := by omega
      have e0 : (0 : Int) + (i : Int) = (i : Int) := Int.zero_add _
      rw [e0]
      refine ⟨rfl, _, rfl, _, rfl, _, rfl, _, v, M, st, i, rfl, dp_same s1 _ _ hm, dp_same s1 _ _ hv, hi', ho, ?_⟩
      refine ⟨_, rfl, ?_⟩
      rw [canTo_succ]
      by_cases hp : poss (at_ M.ms i) st = true
      · rw [hp, if_pos rfl]
        refine iteT ⟨_, rfl, _, hd, ?_, same_upd s1 hD, ?_⟩
        · rw [natsV_len]
          have := canTo_len M.ms st i
          exact small1000 (by omega)
        · rw [upd_same, natsV_snoc]
      · rw [if_neg hp, Bool.eq_false_iff.mpr hp]
        exact iteF ⟨s1, hd⟩
    · rintro H' ⟨s1, hd⟩
      have e : (((mvs.length : Nat) : Int)).toNat = M.ms.length := by omega
      rw [e, canTo_all] at hd
      exact q H' D s1 hD hd
end
end K20

set_option Elab.async false
set_option linter.all false
set_option maxRecDepth 100000
set_option maxHeartbeats 4000000
/-! K20P4: scheduled. -/
namespace K20
open PySem PySem.Spec PyProof.Rows L2
abbrev sSched : Stmt := topS 11
abbrev nSched : List Str := ["machine", "situation", "schedule", "number", "run", "possible", "move"]
theorem scSched : FnScope nSched ["machine", "situation", "schedule"] (defScope sSched) := ⟨rfl, rfl, rfl, by decide +kernel, rfl, by decide +kernel, by decide +kernel⟩
/-- what the top says of the class of the refusal -/
structure ExcTxt (K : PySem.W.Frag) (mg : Str → Option Value) (C : Addr) : Prop where
  gC : mg "OutOfRange" = some (.ref C)
  xC : PySem.W.excIn K C [.type "ValueError", .type "Exception", .type "BaseException", .type "object"] "ValueError.__new__" = true
  kC : PySem.W.keepIn K (.ref C) = true
  bC : PySem.W.subIn K (.ref C) (.type "BaseException") = some true
  tC : PySem.W.typeIn K (.ref C) = some (.type "type")
  te : PySem.W.exmOne K (.ref C) (.ref C) = some true
theorem drop_cons {α : Type} : ∀ {l : List α} {i : Nat} {x : α}, l[i]? = some x → l.drop i = x :: l.drop (i + 1)
  | [], _, _, h => by cases h
  | a :: l, 0, x, h => by
    cases h
    rfl
  | a :: l, i + 1, x, h => drop_cons (l := l) (i := i) h
theorem map_get {α β : Type} {f : α → β} {l : List α} {i : Nat} {y : β} (h : (l.map f)[i]? = some y) : ∃ x, l[i]? = some x ∧ y = f x := by
  rw [List.getElem?_map] at h
  cases e : l[i]? with
  | none => rw [e] at h; cases h
  | some x => rw [e] at h; exact ⟨x, rfl, (Option.some.inj h).symm⟩
theorem natsV_get {l : List Nat} {i : Nat} (h : i < l.length) : (natsV l)[i]? = some (.int (l.getD i 0 : Nat)) := by
  unfold natsV
  rw [List.getElem?_map, List.getD_eq_getElem?_getD, List.getElem?_eq_getElem h]
  rfl
theorem run_stuck {ms : List Mv} {s : Sit} (h : (can ms s).length = 0) : ∀ zs : List Int, run ms s zs = []
  | [] => rfl
  | z :: r => by
    unfold run
    rw [if_pos h]
theorem run_go {ms : List Mv} {s : Sit} {z : Int} {r : List Int} (h : ¬ (can ms s).length = 0) : run ms s (z :: r) =
    (can ms s).getD (pick (can ms s).length z) 0 :: run ms (after (at_ ms ((can ms s).getD (pick (can ms s).length z) 0)) s) r := by
  conv => lhs; unfold run
  rw [if_neg h]
section
variable {P : Program} {w : World} {K : PySem.W.Frag} {mg : Str → Option Value} {base : Heap}
def spSched (K : PySem.W.Frag) (C : Addr) : Sp := fun vs H Q E => ∃ (m v : V) (a : Addr) (M : Mach) (s : Sit) (ns : List Int), vs = [m, v, .ref a] ∧ Dp K H m (machD M) ∧ Dp K H v (sitD s) ∧ SqL K H a (ns.map V.int) ∧ OkAll s.2.length M.ms ∧ M.ms.length ≤ 1000 ∧ ns.length ≤ 1000 ∧
  ((∀ z ∈ ns, 0 ≤ z) → ∀ H' p, Same H H' → H p = none → H' p = some (.lst (natsV (run M.ms s ns))) → Q (.ref p) H') ∧
  ((∃ z ∈ ns, z < 0) → ∀ H', Same H H' → E (.ref C) none H')
theorem ok_sched {f fM fA fP fC C : Addr} {fd fdM fdA fdP fdC : FuncData} (F : At K mg "scheduled" sSched ["machine", "situation", "schedule"] f fd) (FM : At K mg "possible_moves" sMoves ["machine", "situation"] fM fdM) (FA : At K mg "after" sAfter ["machine", "situation", "move"] fA fdA)
    (FP : At K mg "is_possible" sPoss ["machine", "situation", "move"] fP fdP) (FC : At K mg "check_move" sCheck ["machine", "move"] fC fdC) (T : ExcTxt K mg C)
    (ml : mg "len" = none) (mr : mg "range" = none) (mli : mg "list" = none) (ma : mg "any" = none) : FnOk P w K mg base (L2.CX P w) 4 f fd ["machine", "situation", "schedule"] (spSched K C) := by
  have GM : FnOk P w K mg base CX0 3 fM fdM ["machine", "situation"] (spMoves K) := ok_moves FM FP FC ml mr
  have GA : FnOk P w K mg base CX0 3 fA fdA ["machine", "situation", "move"] (spAfter K) := ok_after FA FP FC ml mli
  refine F.F.okX scSched (fun vs H Q E h => ?_) (fun cdv A outer s H vs Q E hr h => ?_)
  · obtain ⟨m, v, a, M, st, ns, rfl, _⟩ := h
    rfl
  · obtain ⟨m, v, a, M, st, ns, rfl, hm, hv, hs, ho, hn, hns, qY, qN⟩ := h
    have nd := scSched.nd
    refine ⟨_, pss_cons (ps_if (pt_val (pe_callB (cr_any rfl) (by rfl) ma (by decide +kernel) (pa_cons
        (pe_lc (own := [("number", 3)]) (g := gName 3) rfl nd (pi_list (pv 2)) (blkOk_by (own := [("number", 3)]) (N := nSched) (sc := defScope sSched) (by decide +kernel)) (fun _ _ _ _ _ => pg_name (i := 3) nd rfl (Or.inl rfl))
          (fun _ _ _ _ _ => pts_nil) (fun _ _ _ _ _ => pe_cmpR op_lt (pv 3) pe_int (nomark _))) pa_nil)))
        (pss_one (ps_raise rfl (takes_of rfl rfl rfl rfl) (pmk_own PySem.F.excBase_ValueError T.xC T.gC T.kC (raises_own T.bC T.tC) rfl))) pss_nil)
      (PSs.nox (pss_cons (ps_set (i := 4) nd rfl (.inl rfl) (pe_lst pa_nil))
        (pss_cons (ps_for PassesOwn.never rfl (pi_list (pv 2)) (pg_name (i := 3) nd rfl (.inl rfl))
          (pss_cons (ps_set (i := 5) nd rfl (.inl rfl) (pe_call GM (hr.mono (by decide)) (by rfl) FM.g FM.F.kp FM.b .nil pass0 (pa_cons (pv 0) (pa_cons (pv 1) pa_nil))))
          (pss_cons (ps_if (pt_cmpR op_eq (pe_callB call_len_seq (by rfl) ml PySem.boot_len (pa_cons (pv 5) pa_nil)) pe_int (nomark _)) (pss_one ps_break) pss_nil)
          (pss_cons (ps_set (i := 6) nd rfl (.inl rfl) (pe_ix ix_list (pv 5) (pe_op op_modN (pv 3) (pe_callB call_len_seq (by rfl) ml PySem.boot_len (pa_cons (pv 5) pa_nil))) (fun _ _ => rfl)))
          (pss_cons (ps_expr (pe_bm PySem.F.plainAttrs_list PySem.F.slot_list_append PySem.F.type_list_append mt_append (pv 4) (pa_cons (pv 6) pa_nil)))
          (pss_one (ps_set (i := 1) nd rfl (.inl rfl) (pe_call GA (hr.mono (by decide)) (by rfl) FA.g FA.F.kp FA.b .nil pass0 (pa_cons (pv 0) (pa_cons (pv 1) (pa_cons (pv 6) pa_nil)))))))))))
        (pss_one (ps_ret (pv 4)))))), ?_⟩
    -- any([number < 0 for number in schedule])
    refine ⟨_, rfl, a, rfl, ⟨_, hs⟩, fun D hD => lc_list (K := K) (a := a) (xs := ns.map V.int) (fun i H' => Same H H' ∧ H' D = some (.lst (((ns.take i).map fun z => decide (z < 0)).map V.bl))) ⟨same_new hD, upd_same⟩ (fun i H' _ z => z.1.seq hs) ?_ ?_⟩
    · rintro i x H' hx ⟨s1, hd⟩
      obtain ⟨z, hz, rfl⟩ := map_get hx
      refine ⟨rfl, ?_⟩
      refine ⟨_, rfl, _, _, rfl, rfl, _, hd, ?_, same_upd s1 hD, ?_⟩
      · rw [List.length_map, List.length_map, List.length_take]
        exact small1000 (by omega)
      · rw [upd_same, take_snoc hz, List.map_append, List.map_append]
        rfl
    · rintro H1 ⟨s1, hd⟩
      rw [List.length_map, List.take_length] at hd
      refine ⟨D, _, rfl, SqL.of hd, ?_⟩
      have ex : ((ns.map fun z => decide (z < 0)).any id) = decide (∃ z ∈ ns, z < 0) := by
        by_cases c : ∃ z ∈ ns, z < 0
        · rw [decide_eq_true c]
          obtain ⟨z, h1, h2⟩ := c
          exact List.any_eq_true.mpr ⟨true, List.mem_map.mpr ⟨z, h1, decide_eq_true h2⟩, rfl⟩
        · rw [decide_eq_false c]
          refine List.any_eq_false.mpr fun x hx => ?_
          obtain ⟨z, h1, rfl⟩ := List.mem_map.mp hx
          intro h2
          exact c ⟨z, h1, of_decide_eq_true h2⟩
      rw [ex]
      refine ⟨_, rfl, ite2 (fun c => qN (of_decide_eq_true c) H1 s1) (fun c => ?_)⟩
      have nn : ∀ z ∈ ns, 0 ≤ z := fun z hz => by
        by_cases hlt : z < 0
        · exact absurd (decide_eq_true ⟨z, hz, hlt⟩) c
        · omega
      have qY := qY nn
      -- run = []
      refine ⟨Nat.zero_le _, fun p hp => ?_⟩
      have hpH : H p = none := s1.free hp
      have hps : ∀ b ∈ [p], H b = none := fun b hb => by rw [List.mem_singleton.mp hb]; exact hpH
      have s2 : Same H (upd H1 p (.lst [])) := s1.trans (same_new hp)
      have done : ∀ (σ' : L2.St) (H2 : Hp), σ'[4]? = some (some (.ref p)) → Same H H2 → H2 p = some (.lst (natsV (run M.ms st ns))) →
          tRet (tVar 4) { nx := fun _ H' => Q .non H', rt := Q } σ' H2 := fun σ' H2 f4 s3 h4 => ⟨_, f4, qY H2 p s3 hpH h4⟩
      refine ⟨_, rfl, a, rfl, ⟨_, s2.seq hs⟩, for_list (K := K) (a := a) (xs := ns.map V.int) (fun i σ H' => ∃ (v' : V) (y3 y5 y6 : Option V) (acc : List Nat) (si : Sit), σ = [some m, some v', some (.ref a), y3, some (.ref p), y5, y6] ∧
        Same H H' ∧ H' p = some (.lst (natsV acc)) ∧ Dp K (hide H' [p]) v' (sitD si) ∧ si.2.length = st.2.length ∧ acc.length ≤ i ∧ acc ++ run M.ms si (ns.drop i) = run M.ms st ns)
        ⟨v, none, none, none, [], st, rfl, s2, upd_same, dp_same (hide_new hps s2) _ _ hv, rfl, Nat.le_refl _, rfl⟩ (fun i σ H' _ ⟨_, _, _, _, _, _, _, s3, _⟩ => s3.seq hs) ?_ ?_⟩
      · rintro i x σ H' hx ⟨v', y3, y5, y6, acc, si, rfl, s3, hacc, hvi, hlen, hal, hrun⟩
        obtain ⟨z, hz, rfl⟩ := map_get hx
        have hilt : i < ns.length := (List.getElem?_eq_some_iff.mp hz).1
        have oi : OkAll si.2.length M.ms := by rw [hlen]; exact ho
        rw [drop_cons hz] at hrun
        -- possible = possible_moves(machine, situation)
        refine ⟨_, rfl, _, rfl, m, v', M, si, rfl, dp_same s3 _ _ hm, dp_same hide_same _ _ hvi, oi, hn, fun H2 p2 s4 hp2 h2 => ?_⟩
        have s34 := s3.trans s4
        have hacc2 := s4 _ _ hacc
        -- if len(possible) == 0
        refine ⟨_, rfl, p2, _, rfl, .inl (SqL.of h2), rfl, _, rfl, ?_⟩
        rw [natsV_len]
        by_cases hc : (can M.ms si).length = 0
        · rw [hc]
          refine iteT ?_
          refine done _ H2 rfl s34 ?_
          rw [run_stuck hc, List.append_nil] at hrun
          rw [← hrun]
          exact hacc2
        · rw [decide_eq_false (fun e => hc (by have := V.int.inj e; omega))]
          refine iteF ?_
          have hpk := pick_lt z hc
          have hpc := pick_cast z hc
          -- move = possible[number % len(possible)]
          refine ⟨_, rfl, _, rfl, _, rfl, p2, _, rfl, .inl (SqL.of h2), z, ((natsV (can M.ms si)).length : Int), rfl, rfl, by rw [natsV_len]; omega, p2, _, _, V.int (((can M.ms si).getD (pick (can M.ms si).length z) 0 : Nat) : Int), rfl, rfl, SqL.of h2, ?_, ?_⟩
          · rw [natsV_len, ← hpc]
            exact atI_nat (natsV_get hpk)
          -- run.append(move)
          refine ⟨_, rfl, .inl ⟨rfl, _, SqL.of hacc2⟩, _, rfl, p, _, _, rfl, rfl, hacc2, ?_, ?_⟩
          · rw [natsV_len]
            exact small1000 (by omega)
          have hmem := can_lt (can_pick z hc)
          generalize hj : (can M.ms si).getD (pick (can M.ms si).length z) 0 = j at *
          -- situation = after(..)
          have s5 : Same H (upd H2 p (.lst (natsV acc ++ [V.int (j : Int)]))) := same_upd s34 hpH
          have hv1 : Dp K (hide (upd H2 p (.lst (natsV acc ++ [V.int (j : Int)]))) [p]) v' (sitD si) := by
            rw [hide_upd (List.mem_singleton.mpr rfl)]
            exact dp_same (hide_mono s4) _ _ hvi
          have hv2 := dp_same hide_same _ _ hv1
          refine ⟨_, rfl, _, rfl, _, rfl, m, v', M, si, j, rfl, dp_same s5 _ _ hm, hv2, hmem.1, oi, hmem.2, fun H3 r s6 hr3 => ?_⟩
          refine ⟨_, _, _, _, acc ++ [j], _, rfl, s5.trans s6, ?_, hr3.hid (fun b hb => by rw [List.mem_singleton.mp hb]; exact ⟨_, upd_same⟩), ?_, ?_, ?_⟩
          · rw [natsV_snoc]
            exact s6 _ _ upd_same
          · show (afterC _ si.2).length = _
            rw [afterC_len]
            exact hlen
          · rw [List.length_append, List.length_singleton]
            omega
          · rw [run_go hc, hj] at hrun
            rw [List.append_assoc]
            exact hrun
      · rintro σ H' ⟨v', y3, y5, y6, acc, si, rfl, s3, hacc, hvi, hlen, hal, hrun⟩
        refine done _ H' rfl s3 ?_
        rw [List.length_map, List.drop_length] at hrun
        have hrun' : acc ++ [] = run M.ms st ns := hrun
        rw [List.append_nil] at hrun'
        rw [← hrun']
        exact hacc
end
end K20

set_option Elab.async false
set_option linter.all false
set_option maxRecDepth 100000
set_option maxHeartbeats 4000000
/-! K20L1: the law's _law_cell, _law_draws. -/
namespace K20
open PySem PySem.Spec PyProof.Rows L2
abbrev sCell : Stmt := topS 13
abbrev sDraws : Stmt := topS 14
abbrev nDraws : List Str := ["_law_cell_here", "_law_limits", "_law_found", "_law_rest", "_law_state", "_law_free", "_law_limit"]
theorem scCell : FnScope ["_law_script", "_law_k"] ["_law_script", "_law_k"] (defScope sCell) := ⟨rfl, rfl, rfl, by decide +kernel, rfl, by decide +kernel, by decide +kernel⟩
theorem scDraws : FnScope nDraws ["_law_cell_here", "_law_limits"] (defScope sDraws) := ⟨rfl, rfl, rfl, by decide +kernel, rfl, by decide +kernel, by decide +kernel⟩
/-- each number below its limit -/
def Bd (rs ls : List Int) : Prop := rs.length = ls.length ∧ ∀ (i : Nat) (l : Int), ls[i]? = some l → 0 ≤ rs.getD i 0 ∧ rs.getD i 0 < l
theorem Bd.nil : Bd [] [] := ⟨rfl, fun _ _ h => by cases h⟩
theorem Bd.snoc {rs ls : List Int} {r l : Int} (h : Bd rs ls) (h1 : 0 ≤ r) (h2 : r < l) : Bd (rs ++ [r]) (ls ++ [l]) := by
  obtain ⟨e, k⟩ := h
  refine ⟨by rw [List.length_append, List.length_append, e]; rfl, fun i x hx => ?_⟩
  rw [List.getD_eq_getElem?_getD]
  by_cases hi : i < ls.length
  · rw [List.getElem?_append_left (by omega)]
    rw [List.getElem?_append_left hi] at hx
    have := k i x hx
    rw [List.getD_eq_getElem?_getD] at this
    exact this
  · have hi2 : i = ls.length := by
      have := (List.getElem?_eq_some_iff.mp hx).1
      rw [List.length_append, List.length_singleton] at this
      omega
    rw [List.getElem?_append_right (by omega)] at hx ⊢
    rw [hi2, Nat.sub_self] at hx
    rw [hi2, e, Nat.sub_self]
    cases hx
    exact ⟨h1, h2⟩
section
variable {P : Program} {w : World} {K : PySem.W.Frag} {mg : Str → Option Value} {base : Heap}
def spCell (K : PySem.W.Frag) : Sp := fun vs H Q _ => ∃ (a : Addr) (ns : List Int) (k : Nat), vs = [.ref a, .int (k : Int)] ∧ SqL K H a (ns.map V.int) ∧ Q (.int (ns.getD k 0)) H
theorem ok_cell {f : Addr} {fd : FuncData} (F : At K mg "_law_cell" sCell ["_law_script", "_law_k"] f fd) (ml : mg "len" = none) (mi : mg "int" = none) : FnOk P w K mg base CX0 1 f fd ["_law_script", "_law_k"] (spCell K) := by
  refine F.F.ok scCell (fun vs H Q E h => ?_) (fun cdv A outer s H vs Q E hr h => ?_)
  · obtain ⟨a, ns, k, rfl, _⟩ := h
    rfl
  · obtain ⟨a, ns, k, rfl, hs, q⟩ := h
    refine ⟨_, pss_cons (ps_if (pt_cmpR op_lt (pv 1) (pe_callB call_len_seq (by rfl) ml PySem.boot_len (pa_cons (pv 0) pa_nil)) (nomark _))
      (pss_one (ps_ret (pe_callTy call_int1 (by rfl) mi (by decide +kernel) (pa_cons (pe_ix ix_list (pv 0) (pv 1) (fun _ _ => rfl)) pa_nil)))) pss_nil) (pss_one (ps_ret pe_int)), ?_⟩
    refine ⟨_, rfl, _, rfl, a, _, rfl, .inl hs, (k : Int), _, rfl, rfl, _, rfl, ?_⟩
    rw [len_ints]
    refine ite2 (fun c => ?_) (fun c => ?_)
    · have hk : k < ns.length := by have := of_decide_eq_true c; omega
      refine ⟨_, rfl, _, rfl, a, _, (k : Int), _, rfl, rfl, hs, atI_nat (ints_get hk), .inl ⟨_, rfl, q⟩⟩
    · have hk : ns.length ≤ k := by
        by_cases hk : k < ns.length
        · exact absurd (decide_eq_true (show (k : Int) < (ns.length : Int) by omega)) c
        · omega
      have e : ns.getD k 0 = 0 := by
        rw [List.getD_eq_getElem?_getD, List.getElem?_eq_none hk]
        rfl
      rw [e] at q
      exact q
def spDraws (K : PySem.W.Frag) : Sp := fun vs H Q _ => ∃ (z : Int) (a : Addr) (ls : List Int), vs = [.int z, .ref a] ∧ SqL K H a (ls.map V.int) ∧ (∀ l ∈ ls, 0 < l ∧ l < 1073741824) ∧ ls.length ≤ 1000 ∧
  ∀ H' p rs, Same H H' → H p = none → Bd rs ls → H' p = some (.lst (rs.map V.int)) → Q (.ref p) H'
theorem ok_draws {f : Addr} {fd : FuncData} (F : At K mg "_law_draws" sDraws ["_law_cell_here", "_law_limits"] f fd) (mi : mg "int" = none) (mab : mg "abs" = none) : FnOk P w K mg base CX0 1 f fd ["_law_cell_here", "_law_limits"] (spDraws K) := by
  refine F.F.ok scDraws (fun vs H Q E h => ?_) (fun cdv A outer s H vs Q E hr h => ?_)
  · obtain ⟨z, a, ls, rfl, _⟩ := h
    rfl
  · obtain ⟨z, a, ls, rfl, hs, hl, hn, q⟩ := h
    have nd := scDraws.nd
    refine ⟨_, pss_cons (ps_set (i := 2) nd rfl (.inl rfl) (pe_lst pa_nil))
      (pss_cons (ps_set (i := 3) nd rfl (.inl rfl) (pe_callB call_abs (by rfl) mab (by decide +kernel) (pa_cons (pe_callTy call_int1 (by rfl) mi (by decide +kernel) (pa_cons (pv 0) pa_nil)) pa_nil)))
      (pss_cons (ps_set (i := 4) nd rfl (.inl rfl) (pe_op op_modN (pe_callTy call_int1 (by rfl) mi (by decide +kernel) (pa_cons (pv 3) pa_nil)) pe_int))
      (pss_cons (ps_set (i := 5) nd rfl (.inl rfl) (pe_or (pe_cmpR op_lt (pv 0) pe_int (nomark _)) (pe_one (pe_cmpR op_ge (pv 0) (pe_op op_pow pe_int pe_int) (nomark _)))))
      (pss_cons (ps_for PassesOwn.never rfl (pi_list (pv 1)) (pg_name (i := 6) nd rfl (.inl rfl))
        (pss_one (ps_if (PW.pt (pw_and (pt_val (pv 5)) (pw_and1 (pt_cmpR op_gt (pv 3) pe_int (nomark _)))))
          (pss_cons (ps_expr (pe_bm PySem.F.plainAttrs_list PySem.F.slot_list_append PySem.F.type_list_append mt_append (pv 2) (pa_cons (pe_op op_modN (pe_callTy call_int1 (by rfl) mi (by decide +kernel) (pa_cons (pv 3) pa_nil)) (pv 6)) pa_nil)))
            (pss_one (ps_set (i := 3) nd rfl (.inl rfl) (pe_op op_fdivN (pv 3) (pv 6)))))
          (pss_cons (ps_set (i := 4) nd rfl (.inl rfl) (pe_op op_modN (pe_callTy call_int1 (by rfl) mi (by decide +kernel) (pa_cons (pe_op op_add (pe_op op_mul (pv 4) pe_int) pe_int) pa_nil)) pe_int))
            (pss_cons (ps_set (i := 4) nd rfl (.inl rfl) (pe_op op_modN (pe_callTy call_int1 (by rfl) mi (by decide +kernel) (pa_cons (pe_op op_add (pe_op op_mul (pv 4) pe_int) pe_int) pa_nil)) pe_int))
              (pss_one (ps_expr (pe_bm PySem.F.plainAttrs_list PySem.F.slot_list_append PySem.F.type_list_append mt_append (pv 2) (pa_cons (pe_op op_modN (pe_callTy call_int1 (by rfl) mi (by decide +kernel) (pa_cons (pe_op op_fdivN (pv 4) pe_int) pa_nil)) (pv 6)) pa_nil)))))))))
      (pss_one (ps_ret (pv 2))))))), ?_⟩
    -- _law_found = []; _law_rest = ..; _law_state = ..
    refine ⟨Nat.zero_le _, fun p hp => ?_⟩
    refine ⟨_, rfl, .inl ⟨_, rfl, ?_⟩⟩
    refine ⟨_, rfl, ?_⟩
    refine ⟨_, rfl, .inl ⟨_, rfl, _, _, rfl, rfl, (by show (2147483647 : Int) ≠ 0; decide), ?_⟩⟩
    -- _law_free: whichever it is
    refine ⟨_, rfl, _, _, rfl, rfl, _, rfl, ite2 (fun _ => ?_) (fun _ => ⟨_, rfl, _, _, rfl, rfl, ⟨by decide, by decide, by decide⟩, _, _, rfl, rfl, ?_⟩)⟩
    all_goals
      refine ⟨_, rfl, a, rfl, ⟨_, (same_new hp).seq hs⟩, for_list (K := K) (a := a) (xs := ls.map V.int) (fun i σ H' => ∃ (r t : Int) (b : Bool) (y : Option V) (rs : List Int), σ = [some (.int z), some (.ref a), some (.ref p), some (.int r), some (.int t), some (.bl b), y] ∧
        Same H H' ∧ H' p = some (.lst (rs.map V.int)) ∧ Bd rs (ls.take i)) ⟨_, _, _, none, [], rfl, same_new hp, upd_same, Bd.nil⟩ (fun i σ H' _ ⟨_, _, _, _, _, _, s1, _⟩ => s1.seq hs) ?_ ?_⟩
      · rintro i x σ H' hx ⟨r, t, b, y, rs, rfl, s1, hpl, hb⟩
        obtain ⟨l, hli, rfl⟩ := map_get hx
        obtain ⟨l0, l1⟩ := hl l (List.mem_of_getElem? hli)
        have il : i < ls.length := (List.getElem?_eq_some_iff.mp hli).1
        rw [take_snoc hli]
        have small : (rs.map V.int).length < sizeLine := by
          rw [len_ints, hb.1, List.length_take]
          exact small1000 (by omega)
        have app : ∀ u : Int, rs.map V.int ++ [V.int u] = (rs ++ [u]).map V.int := fun u => by rw [List.map_append]; rfl
        have lo : ∀ u : Int, 0 ≤ u.fmod l := fun u => Int.fmod_nonneg_of_pos u l0
        have up : ∀ u : Int, u.fmod l < l := fun u => Int.fmod_lt_of_pos u l0
        refine ⟨_, rfl, b, rfl, ?_⟩
        cases b with
        | true =>
          refine iteT ⟨_, rfl, _, _, rfl, rfl, _, rfl, ite2 (fun _ => ?_) (fun _ => ?_)⟩
          · refine ⟨_, rfl, .inl ⟨rfl, _, SqL.of hpl⟩, _, rfl, .inl ⟨_, rfl, _, rfl, _, _, rfl, rfl, by omega, p, _, _, rfl, rfl, hpl, small, ?_⟩⟩
            refine ⟨_, rfl, _, rfl, _, _, rfl, rfl, ⟨by omega, by omega⟩, ?_⟩
            exact ⟨_, _, _, _, rs ++ [r.fmod l], rfl, same_upd s1 hp, by rw [upd_same, app], hb.snoc (lo _) (up _)⟩
          · refine ⟨_, rfl, _, _, rfl, rfl, .inr (by decide), _, _, rfl, rfl, .inl ⟨_, rfl, _, _, rfl, rfl, (by show (2147483647 : Int) ≠ 0; decide), ?_⟩⟩
            refine ⟨_, rfl, _, _, rfl, rfl, .inr (by decide), _, _, rfl, rfl, .inl ⟨_, rfl, _, _, rfl, rfl, (by show (2147483647 : Int) ≠ 0; decide), ?_⟩⟩
            refine ⟨_, rfl, .inl ⟨rfl, _, SqL.of hpl⟩, _, rfl, _, _, rfl, rfl, ⟨by decide, by decide⟩, .inl ⟨_, rfl, _, rfl, _, _, rfl, rfl, by omega, p, _, _, rfl, rfl, hpl, small, ?_⟩⟩
            exact ⟨_, _, _, _, rs ++ [_], rfl, same_upd s1 hp, by rw [upd_same, app], hb.snoc (lo _) (up _)⟩
        | false =>
          refine iteF ?_
          refine ⟨_, rfl, _, _, rfl, rfl, .inr (by decide), _, _, rfl, rfl, .inl ⟨_, rfl, _, _, rfl, rfl, (by show (2147483647 : Int) ≠ 0; decide), ?_⟩⟩
          refine ⟨_, rfl, _, _, rfl, rfl, .inr (by decide), _, _, rfl, rfl, .inl ⟨_, rfl, _, _, rfl, rfl, (by show (2147483647 : Int) ≠ 0; decide), ?_⟩⟩
          refine ⟨_, rfl, .inl ⟨rfl, _, SqL.of hpl⟩, _, rfl, _, _, rfl, rfl, ⟨by decide, by decide⟩, .inl ⟨_, rfl, _, rfl, _, _, rfl, rfl, by omega, p, _, _, rfl, rfl, hpl, small, ?_⟩⟩
          exact ⟨_, _, _, _, rs ++ [_], rfl, same_upd s1 hp, by rw [upd_same, app], hb.snoc (lo _) (up _)⟩
      · rintro σ H' ⟨r, t, b, y, rs, rfl, s1, hpl, hb⟩
        rw [List.length_map, List.take_length] at hb
        exact ⟨_, rfl, q H' p rs s1 hp hb hpl⟩
end
end K20

set_option Elab.async false
set_option linter.all false
set_option maxRecDepth 100000
set_option maxHeartbeats 4000000
/-! K20L2: the law's _law_after, _law_can. -/
namespace K20
open PySem PySem.Spec PyProof.Rows L2
abbrev sLAfter : Stmt := topS 17
abbrev sLCan : Stmt := topS 18
abbrev nLAfter : List Str := ["_law_move", "_law_counts", "_law_pair"]
abbrev nLCan : List Str := ["_law_machine_here", "_law_situation", "_law_moves", "_law_k"]
theorem scLAfter : FnScope nLAfter ["_law_move", "_law_counts"] (defScope sLAfter) := ⟨rfl, rfl, rfl, by decide +kernel, rfl, by decide +kernel, by decide +kernel⟩
theorem scLCan : FnScope nLCan ["_law_machine_here", "_law_situation"] (defScope sLCan) := ⟨rfl, rfl, rfl, by decide +kernel, rfl, by decide +kernel, by decide +kernel⟩
theorem ixL {X : Cx} {K : PySem.W.Frag} (h : X.K = K) : IxR X (rIxL K) := h ▸ ix_list
theorem ixT {X : Cx} {K : PySem.W.Frag} (h : X.K = K) : IxR X (rIxT K) := h ▸ ix_tup
section
variable {P : Program} {w : World} {K : PySem.W.Frag} {mg : Str → Option Value} {base : Heap}
def spLAfter (K : PySem.W.Frag) : Sp := fun vs H Q _ => ∃ (am b : Addr) (m : Mv) (c : List Int), vs = [.ref am, .ref b] ∧ MvAt K H am m ∧ SqL K H b (c.map V.int) ∧ OkMv c.length m ∧
  ∀ H' r, Same H H' → SitNew H H' r (m.ns, afterC m c) → Q (.ref r) H'
theorem ok_lafter {f : Addr} {fd : FuncData} (F : At K mg "_law_after" sLAfter ["_law_move", "_law_counts"] f fd) (mli : mg "list" = none) : FnOk P w K mg base CX0 1 f fd ["_law_move", "_law_counts"] (spLAfter K) := by
  refine F.F.ok scLAfter (fun vs H Q E h => ?_) (fun cdv A outer s H vs Q E hr h => ?_)
  · obtain ⟨am, b, m, c, rfl, _⟩ := h
    rfl
  · obtain ⟨am, b, m, c0, rfl, ⟨bm, q1, prs, q2, q3⟩, hb, ⟨o1, o2, o3, o4⟩, q⟩ := h
    have nd := scLAfter.nd
    refine ⟨_, pss_cons (ps_set (i := 1) nd rfl (.inl rfl) (pe_callTy call_list_of (by rfl) mli (by decide +kernel) (pa_cons (pv 1) pa_nil)))
      (pss_cons (ps_asg (pe_op op_sub (pe_ix ix_list (pv 1) (pe_ix ix_tup (pv 0) pe_int (fun _ _ => rfl)) (fun _ _ => rfl)) pe_int) (pg_sub (pv 1) (pe_ix ix_tup (pv 0) pe_int (fun _ _ => rfl)) set_list))
      (pss_cons (ps_for PassesOwn.never rfl (pi_list (pe_ix ix_tup (pv 0) pe_int (fun _ _ => rfl))) (pg_name (i := 2) nd rfl (.inl rfl))
        (pss_cons (ps_asg (pe_op op_add (pe_ix ix_list (pv 1) (pe_ix ix_tup (pv 2) pe_int (fun _ _ => rfl)) (fun _ _ => rfl)) (pe_ix ix_list (pv 1) (pe_ix ix_tup (pv 2) pe_int (fun _ _ => rfl)) (fun _ _ => rfl))) (pg_sub (pv 1) (pe_ix ix_tup (pv 2) pe_int (fun _ _ => rfl)) set_list))
          (pss_one (ps_asg pe_int (pg_sub (pv 1) (pe_ix ix_tup (pv 2) pe_int (fun _ _ => rfl)) set_list)))))
      (pss_cons (ps_asg (pe_op op_add (pe_ix ix_list (pv 1) (pe_ix ix_tup (pv 0) pe_int (fun _ _ => rfl)) (fun _ _ => rfl)) pe_int) (pg_sub (pv 1) (pe_ix ix_tup (pv 0) pe_int (fun _ _ => rfl)) set_list))
      (pss_cons (ps_if (pt_cmpR op_notN (pe_ix ix_tup (pv 0) pe_int (fun _ _ => rfl)) pe_non (nomark _))
        (pss_one (ps_asg (pe_op op_add (pe_ix ix_list (pv 1) (pe_ix ix_tup (pv 0) pe_int (fun _ _ => rfl)) (fun _ _ => rfl)) pe_int) (pg_sub (pv 1) (pe_ix ix_tup (pv 0) pe_int (fun _ _ => rfl)) set_list))) pss_nil)
      (pss_one (ps_ret (pe_tup (pa_cons (pe_ix ix_tup (pv 0) pe_int (fun _ _ => rfl)) (pa_cons (pv 1) pa_nil))))))))), ?_⟩
    -- _law_counts = list(_law_counts)
    refine ⟨_, rfl, b, _, rfl, .inl hb, fun c hc => ?_⟩
    have len0 : (c0.map V.int).length = c0.length := len_ints _
    have q1a := seqT_same (same_new (o := .lst (c0.map V.int)) hc) q1
    -- counts[move[1]] = counts[move[1]] - 1
    refine ⟨_, rfl, _, rfl, am, _, 1, _, rfl, rfl, q1a, atI_nat (j := 1) rfl, c, _, _, _, rfl, rfl, SqL.of upd_same, atI_nat (ints_get o1), _, _, rfl, rfl, _, rfl, _, rfl, am, _, 1, _, rfl, rfl, q1a, atI_nat (j := 1) rfl, c, _, (m.pl : Int), m.pl, rfl, rfl, upd_same, ixN_nat (by rw [len0]; exact o1), ?_⟩
    have hS : ∀ {o1 o2 : HO}, Same H (upd (upd H c o1) c o2) := fun {o1 o2} => same_upd (same_new hc) hc
    -- the pairs
    refine ⟨_, rfl, am, _, 5, _, rfl, rfl, seqT_same hS q1, atI_nat (j := 5) rfl, bm, rfl, ⟨prs, hS.seq q2⟩, for_list (K := K) (a := bm) (xs := prs) (fun j σ H' => ∃ y, σ = [some (.ref am), some (.ref c), y] ∧
      Same H H' ∧ H' c = some (.lst ((shiftAll (bump c0 m.pl (-1)) (m.sh.take j)).map V.int))) ⟨none, rfl, hS, ?_⟩ (fun j σ H' _ ⟨_, _, s1, _⟩ => s1.seq q2) ?_ ?_⟩
    · rw [upd_same, ints_set]
      rfl
    · rintro j x σ H' hx ⟨y, rfl, s1, hcl⟩
      obtain ⟨p, ap, hp, rfl, hpt⟩ := shift_at q3 hx
      obtain ⟨r1, r2⟩ := o4 p (List.mem_of_getElem? hp)
      rw [take_snoc hp, shiftAll_snoc]
      have hlen : (shiftAll (bump c0 m.pl (-1)) (m.sh.take j)).length = c0.length := by rw [shiftAll_len, bump_len]
      generalize hcs : shiftAll (bump c0 m.pl (-1)) (m.sh.take j) = cs at hcl hlen ⊢
      have e1 : p.1 < cs.length := by omega
      have e2 : p.2 < cs.length := by omega
      have pt := seqT_same s1 hpt
      -- counts[pair[1]] = counts[pair[1]] + counts[pair[0]]
      refine ⟨_, rfl, _, rfl, ap, _, 1, _, rfl, rfl, pt, atI_nat (j := 1) rfl, c, _, _, _, rfl, rfl, SqL.of hcl, atI_nat (ints_get e2), _, rfl, _, rfl, ap, _, 0, _, rfl, rfl, pt, atI_nat (j := 0) rfl, c, _, _, _, rfl, rfl, SqL.of hcl, atI_nat (ints_get e1), _, _, rfl, rfl, ?_⟩
      refine ⟨_, rfl, _, rfl, ap, _, 1, _, rfl, rfl, pt, atI_nat (j := 1) rfl, c, _, (p.2 : Int), p.2, rfl, rfl, hcl, ixN_nat (by rw [len_ints]; exact e2), ?_⟩
      have s2 : Same H (upd H' c (.lst ((cs.map V.int).set p.2 (.int (cs.getD p.2 0 + cs.getD p.1 0))))) := same_upd s1 hc
      -- counts[pair[0]] = 0
      refine ⟨_, rfl, _, rfl, ap, _, 0, _, rfl, rfl, seqT_same s2 hpt, atI_nat (j := 0) rfl, c, _, (p.1 : Int), p.1, rfl, rfl, upd_same, ixN_nat (by rw [List.length_set, len_ints]; exact e1), ?_⟩
      refine ⟨_, rfl, same_upd s2 hc, ?_⟩
      rw [upd_same, ints_set, ints_set]
      rfl
    · rintro σ H' ⟨y, rfl, s1, hcl⟩
      have hl : prs.length = m.sh.length := by rw [dps_len q3, List.length_map]
      rw [hl, List.take_length] at hcl
      have hlen : (shiftAll (bump c0 m.pl (-1)) m.sh).length = c0.length := by rw [shiftAll_len, bump_len]
      generalize hcs : shiftAll (bump c0 m.pl (-1)) m.sh = cs at hcl hlen
      have e1 : m.np < cs.length := by omega
      have q1b := seqT_same s1 q1
      -- counts[move[3]] = counts[move[3]] + 1
      refine ⟨_, rfl, _, rfl, am, _, 3, _, rfl, rfl, q1b, atI_nat (j := 3) rfl, c, _, _, _, rfl, rfl, SqL.of hcl, atI_nat (ints_get e1), _, _, rfl, rfl, _, rfl, _, rfl, am, _, 3, _, rfl, rfl, q1b, atI_nat (j := 3) rfl, c, _, (m.np : Int), m.np, rfl, rfl, hcl, ixN_nat (by rw [len_ints]; exact e1), ?_⟩
      have hb2 : upd H' c (.lst ((cs.map V.int).set m.np (.int (cs.getD m.np 0 + 1)))) c = some (.lst ((bump cs m.np 1).map V.int)) := by
        rw [upd_same, ints_set]
        rfl
      have hbl : (bump cs m.np 1).length = c0.length := by rw [bump_len]; exact hlen
      have s2 : Same H (upd H' c (.lst ((cs.map V.int).set m.np (.int (cs.getD m.np 0 + 1))))) := same_upd s1 hc
      have ea : afterC m c0 = startOne (bump cs m.np 1) m.sd := by
        unfold afterC
        rw [hcs]
      have fin : ∀ (σ' : L2.St) (H2 : Hp) (cs' : List Int), σ'[0]? = some (some (.ref am)) → σ'[1]? = some (some (.ref c)) → Same H H2 → H2 c = some (.lst (cs'.map V.int)) → cs' = afterC m c0 →
          tRet (tTup (tCons (tOp (rIxT K) (tVar 0) (tC (.int 2))) (tCons (tVar 1) tNil))) { nx := fun _ H' => Q .non H', rt := Q } σ' H2 := by
        intro σ' H2 cs' f0 f1 s3 hc2 ec
        refine ⟨_, f0, am, _, 2, _, rfl, rfl, seqT_same s3 q1, atI_nat (j := 2) rfl, _, f1, (by show 2 ≤ sizeLine; decide), fun t ht => ?_⟩
        have s4 : Same H2 (upd H2 t (.tup [.int (m.ns : Int), .ref c])) := same_new ht
        subst ec
        exact q _ t (s3.trans s4) ⟨c, s3.free ht, hc, upd_same, s4 _ _ hc2⟩
      have q1c := seqT_same s2 q1
      refine ⟨_, rfl, am, _, 4, _, rfl, rfl, q1c, atI_nat (j := 4) rfl, ?_⟩
      cases hsd : m.sd with
      | none =>
        rw [hsd] at ea
        refine ⟨rfl, _, rfl, iteF ?_⟩
        exact fin _ _ _ rfl rfl s2 hb2 ea.symm
      | some k =>
        rw [hsd] at ea
        have hk : k < (bump cs m.np 1).length := by rw [hbl]; exact o3 k hsd
        have q1d : SqT K (upd H' c (.lst ((cs.map V.int).set m.np (.int (cs.getD m.np 0 + 1))))) am [.int m.st, .int m.pl, .int m.ns, .int m.np, .int (k : Int), .ref bm] := by
          rw [hsd] at q1c
          exact q1c
        refine ⟨rfl, _, rfl, iteT ?_⟩
        refine ⟨_, rfl, _, rfl, am, _, 4, _, rfl, rfl, q1d, atI_nat (j := 4) rfl, c, _, _, _, rfl, rfl, SqL.of hb2, atI_nat (ints_get hk), _, _, rfl, rfl, _, rfl, _, rfl, am, _, 4, _, rfl, rfl, q1d, atI_nat (j := 4) rfl, c, _, (k : Int), k, rfl, rfl, hb2, ixN_nat (by rw [len_ints]; exact hk), ?_⟩
        exact fin _ _ (bump (bump cs m.np 1) k 1) rfl rfl (same_upd s2 hc) (by rw [upd_same, ints_set]; rfl) ea.symm
def spLCan (K : PySem.W.Frag) : Sp := fun vs H Q _ => ∃ (m v : V) (M : Mach) (s : Sit), vs = [m, v] ∧ Dp K H m (machD M) ∧ Dp K H v (sitD s) ∧ OkAll s.2.length M.ms ∧ M.ms.length ≤ 1000 ∧
  ∀ H' p, Same H H' → H p = none → H' p = some (.lst (natsV (can M.ms s))) → Q (.ref p) H'
theorem ok_lcan {f : Addr} {fd : FuncData} (F : At K mg "_law_can" sLCan ["_law_machine_here", "_law_situation"] f fd) (ml : mg "len" = none) (mr : mg "range" = none) : FnOk P w K mg base CX0 1 f fd ["_law_machine_here", "_law_situation"] (spLCan K) := by
  refine F.F.ok scLCan (fun vs H Q E h => ?_) (fun cdv A outer s H vs Q E hr h => ?_)
  · obtain ⟨m, v, M, st, rfl, _⟩ := h
    rfl
  · obtain ⟨m, v, M, st, rfl, hm, hv, ho, hn, q⟩ := h
    obtain ⟨a, v3, b, mvs, rfl, h1, h2, h3⟩ := mach_at hm
    obtain ⟨sa, sb, rfl, g1, g2⟩ := sit_at hv
    have hl : mvs.length = M.ms.length := by rw [dps_len h3, List.length_map]
    have nd := scLCan.nd
    refine ⟨_, pss_cons (ps_set (i := 2) nd rfl (.inr rfl) (pe_ix ix_tup (pv 0) pe_int (fun _ _ => rfl)))
      (pss_one (ps_ret (pe_lc (own := [("_law_k", 3)]) (g := gName 3) rfl nd
      (pi_range1 (by rfl) mr (pa_cons (pe_callB call_len_seq (by rfl) ml PySem.boot_len (pa_cons (pv 2) pa_nil)) pa_nil))
      (blkOk_by (own := [("_law_k", 3)]) (N := nLCan) (sc := defScope sLCan) (by decide +kernel)) (fun _ _ _ _ _ => pg_name (i := 3) nd rfl (Or.inl rfl))
      (fun _ _ _ _ _ => pts_one (PW.pt (pw_and (pt_cmpR op_eq (pe_ix (ixT (K := K) rfl) (pe_ix (ixL (K := K) rfl) (pv 2) (pv 3) (fun _ _ => rfl)) pe_int (fun _ _ => rfl)) (pe_ix (ixT (K := K) rfl) (pv 1) pe_int (fun _ _ => rfl)) (nomark _))
        (pw_and1 (pt_cmpR op_gt (pe_ix (ixL (K := K) rfl) (pe_ix (ixT (K := K) rfl) (pv 1) pe_int (fun _ _ => rfl)) (pe_ix (ixT (K := K) rfl) (pe_ix (ixL (K := K) rfl) (pv 2) (pv 3) (fun _ _ => rfl)) pe_int (fun _ _ => rfl)) (fun _ _ => rfl)) pe_int (nomark _))))))
      (fun _ _ _ _ _ => pv 3)))), ?_⟩
    refine ⟨_, rfl, a, _, 4, _, rfl, rfl, h1, atI_nat (j := 4) rfl, ?_⟩
    refine ⟨_, rfl, b, mvs, rfl, .inl h2, _, rfl, by omega, by omega, fun D hD => lc_range (lo := 0) (fun i H' => Same H H' ∧ H' D = some (.lst (natsV (canTo M.ms st i)))) ⟨same_new hD, upd_same⟩ ?_ ?_⟩
    · rintro i H' hi ⟨s1, hd⟩
      have hi' : i < M.ms.length := by omega
      have e0 : (0 : Int) + (i : Int) = (i : Int) := Int.zero_add _
      rw [e0]
      obtain ⟨am, e1, ⟨bm, q1, _⟩⟩ := move_at h3 hi'
      have hp : (at_ M.ms i).pl < st.2.length := (ho.at hi').1
      have h2' := s1.seq h2
      have q1' := seqT_same s1 q1
      have g1' := seqT_same s1 g1
      have g2' := s1.seq g2
      rw [canTo_succ]
      refine ⟨rfl, _, rfl, _, rfl, b, mvs, (i : Int), _, rfl, rfl, h2', atI_nat e1, am, _, 0, _, rfl, rfl, q1', atI_nat (j := 0) rfl, _, rfl, sa, _, 0, _, rfl, rfl, g1', atI_nat (j := 0) rfl, rfl, _, rfl, ?_⟩
      have yes : poss (at_ M.ms i) st = true → ∃ acc, H' D = some (.lst acc) ∧ acc.length < sizeLine ∧ Same H (upd H' D (.lst (acc ++ [V.int (i : Int)]))) ∧
          upd H' D (.lst (acc ++ [V.int (i : Int)])) D = some (.lst (natsV (if poss (at_ M.ms i) st = true then canTo M.ms st i ++ [i] else canTo M.ms st i))) := fun hps => by
        refine ⟨_, hd, ?_, same_upd s1 hD, ?_⟩
        · rw [natsV_len]
          have := canTo_len M.ms st i
          exact small1000 (by omega)
        · rw [upd_same, if_pos hps, natsV_snoc]
      have no : ¬ poss (at_ M.ms i) st = true → Same H H' ∧ H' D = some (.lst (natsV (if poss (at_ M.ms i) st = true then canTo M.ms st i ++ [i] else canTo M.ms st i))) := fun hps => by
        rw [if_neg hps]
        exact ⟨s1, hd⟩
      refine ite2 (fun c => ?_) (fun c => ?_)
      · have e : (at_ M.ms i).st = st.1 := by have := V.int.inj (of_decide_eq_true c); omega
        refine ⟨_, rfl, sa, _, 1, _, rfl, rfl, g1', atI_nat (j := 1) rfl, _, rfl, _, rfl, b, mvs, (i : Int), _, rfl, rfl, h2', atI_nat e1, am, _, 1, _, rfl, rfl, q1', atI_nat (j := 1) rfl, sb, _, _, _, rfl, rfl, g2', atI_nat (ints_get hp), _, _, rfl, rfl, _, rfl, ite2 (fun c2 => ?_) (fun c2 => ?_)⟩
        · refine ⟨_, rfl, yes ?_⟩
          unfold poss
          rw [decide_eq_true e, Bool.true_and]
          exact c2
        · refine no fun hps => c2 ?_
          unfold poss at hps
          rw [decide_eq_true e, Bool.true_and] at hps
          exact hps
      · refine iteF (no fun hps => ?_)
        unfold poss at hps
        rw [Bool.and_eq_true] at hps
        exact c (decide_eq_true (by rw [of_decide_eq_true hps.1]))
    · rintro H' ⟨s1, hd⟩
      have e : (((mvs.length : Nat) : Int)).toNat = M.ms.length := by omega
      rw [e, canTo_all] at hd
      exact q H' D s1 hD hd
end
end K20

set_option Elab.async false
set_option linter.all false
set_option maxRecDepth 100000
set_option maxHeartbeats 4000000
/-! K20L3: the law's _law_pairs. -/
namespace K20
open PySem PySem.Spec PyProof.Rows L2
abbrev sPairs : Stmt := topS 15
abbrev nPairs : List Str := ["_law_cell_here", "_law_places", "_law_draws_here", "_law_first", "_law_second", "_law_place"]
theorem scPairs : FnScope nPairs ["_law_cell_here", "_law_places"] (defScope sPairs) := ⟨rfl, rfl, rfl, by decide +kernel, rfl, by decide +kernel, by decide +kernel⟩
/-- a part of a list of ints -/
def cutI (ns : List Int) (lo hi : Option Int) : List Int := (ns.drop (HT.sIx ns.length 0 lo)).take (HT.sIx ns.length ns.length hi - HT.sIx ns.length 0 lo)
theorem cutV_ints (ns : List Int) (lo hi : Option Int) : cutV (ns.map V.int) lo hi = (cutI ns lo hi).map V.int := by
  unfold cutV cutI
  rw [len_ints, List.map_take, List.map_drop]
theorem cutI_mem {ns : List Int} {lo hi : Option Int} {z : Int} (h : z ∈ cutI ns lo hi) : z ∈ ns := List.mem_of_mem_drop (List.mem_of_mem_take h)
theorem cutI_len (ns : List Int) (lo hi : Option Int) : (cutI ns lo hi).length ≤ ns.length := by
  unfold cutI
  rw [List.length_take, List.length_drop]
  omega
theorem rep_flat (n : Nat) (x : V) : (List.replicate n [x]).flatten = List.replicate n x := by
  first | exact List.flatten_replicate_singleton .. | simp
/-- the limits of _law_pairs -/
def limP (P : Nat) : List Int := [3] ++ List.replicate P 2 ++ List.replicate P (P : Int)
theorem limP_len (P : Nat) : (limP P).length = 1 + P + P := by
  unfold limP
  rw [List.length_append, List.length_append, List.length_replicate, List.length_replicate]
  rfl
theorem limP_V (P : Nat) : [V.int 3] ++ (List.replicate P [V.int 2]).flatten ++ (List.replicate P [V.int (P : Int)]).flatten = (limP P).map V.int := by
  rw [rep_flat, rep_flat]
  unfold limP
  rw [List.map_append, List.map_append, List.map_replicate, List.map_replicate]
  rfl
theorem limP_2 {P i : Nat} (h : i < P) : (limP P)[1 + P + i]? = some (P : Int) := by
  unfold limP
  have e : ([3] ++ List.replicate P (2 : Int)).length = 1 + P := by rw [List.length_append, List.length_replicate]; rfl
  rw [List.getElem?_append_right (by omega), e, List.getElem?_replicate, if_pos (by omega)]
theorem limP_pos {P : Nat} (hP : 0 < P) (h6 : P ≤ 6) : ∀ l ∈ limP P, 0 < l ∧ l < 1073741824 := by
  intro l hl
  unfold limP at hl
  rcases List.mem_append.mp hl with hl | hl
  · rcases List.mem_append.mp hl with hl | hl
    · rw [List.mem_singleton.mp hl]
      decide
    · rw [(List.mem_replicate.mp hl).2]
      decide
  · rw [(List.mem_replicate.mp hl).2]
    omega
/-- len of a list or tuple that is read -/
def rLen (K : PySem.W.Frag) : List V → Hp → VK → Prop := fun xs H Q => ∃ p ys, xs = [.ref p] ∧ (SqL K H p ys ∨ SqT K H p ys) ∧ Q (.int ys.length) H
theorem callLen {X : Cx} {K : PySem.W.Frag} (h : X.K = K) : CallR X (.builtin "len") (rLen K) := h ▸ call_len_seq
section
variable {P : Program} {w : World} {K : PySem.W.Frag} {mg : Str → Option Value} {base : Heap}
def spPairs (K : PySem.W.Frag) : Sp := fun vs H Q _ => ∃ (z : Int) (P : Nat), vs = [.int z, .int (P : Int)] ∧ 0 < P ∧ P ≤ 6 ∧
  ∀ (H' : Hp) (p : Addr) (prs : List V) (sh : List (Nat × Nat)), Same H H' → H p = none → H' p = some (.lst prs) → DpAll K H' prs (sh.map prD) → sh.length ≤ P → (∀ x ∈ sh, x.1 < P ∧ x.2 < P) → Q (.ref p) H'
theorem ok_pairs {f fD : Addr} {fd fdD : FuncData} (F : At K mg "_law_pairs" sPairs ["_law_cell_here", "_law_places"] f fd) (FD : At K mg "_law_draws" sDraws ["_law_cell_here", "_law_limits"] fD fdD)
    (ml : mg "len" = none) (mr : mg "range" = none) (mi : mg "int" = none) (mab : mg "abs" = none) : FnOk P w K mg base CX0 2 f fd ["_law_cell_here", "_law_places"] (spPairs K) := by
  have GD : FnOk P w K mg base CX0 1 fD fdD ["_law_cell_here", "_law_limits"] (spDraws K) := ok_draws FD mi mab
  refine F.F.ok scPairs (fun vs H Q E h => ?_) (fun cdv A outer s H vs Q E hr h => ?_)
  · obtain ⟨z, P, rfl, _⟩ := h
    rfl
  · obtain ⟨z, P, rfl, hP, h6, q⟩ := h
    have nd := scPairs.nd
    refine ⟨_, pss_cons (ps_set (i := 2) nd rfl (.inr rfl) (pe_call GD hr (by rfl) FD.g FD.F.kp FD.b .nil pass0 (pa_cons (pv 0) (pa_cons
        (pe_op op_cat (pe_op op_cat (pe_lst (pa_cons pe_int pa_nil)) (pe_op op_rep (pe_lst (pa_cons pe_int pa_nil)) (pv 1))) (pe_op op_rep (pe_lst (pa_cons (pv 1) pa_nil)) (pv 1))) pa_nil))))
      (pss_cons (ps_setLc (i := 3) (own := [("_law_place", 5)]) (g := gName 5) rfl nd rfl rfl (sw_true rfl rfl rfl (by decide +kernel)) (pi_range1 (by rfl) mr (pa_cons (pv 1) pa_nil)) (blkOk_by (own := [("_law_place", 5)]) (N := nPairs) (sc := defScope sPairs) (by decide +kernel))
        (fun _ _ _ _ _ => pg_name (i := 5) nd rfl (Or.inl rfl)) (fun _ _ _ _ _ => pts_one (pt_cmpR op_eq (pe_ix (ixL (K := K) rfl) (pv 2) (pe_op op_add pe_int (pv 5)) (fun _ _ => rfl)) pe_int (nomark _))) (fun _ _ _ _ _ => pv 5))
      (pss_cons (ps_set (i := 4) nd rfl (.inr rfl) (pe_lc (own := [("_law_place", 5)]) (g := gName 5) rfl nd (pi_range1 (by rfl) mr (pa_cons (pv 1) pa_nil)) (blkOk_by (own := [("_law_place", 5)]) (N := nPairs) (sc := defScope sPairs) (by decide +kernel))
        (fun _ _ _ _ _ => pg_name (i := 5) nd rfl (Or.inl rfl)) (fun _ _ _ _ _ => pts_one (pt_cmpR op_eq (pe_ix (ixL (K := K) rfl) (pv 2) (pe_op op_add pe_int (pv 5)) (fun _ _ => rfl)) pe_int (nomark _))) (fun _ _ _ _ _ => pv 5)))
      (pss_cons (ps_if (PW.pt (pw_or (pt_cmpR op_gt (pe_ix ix_list (pv 2) pe_int (fun _ _ => rfl)) pe_int (nomark _))
          (pw_or (pt_cmpR op_eq (pe_callB call_len_seq (by rfl) ml PySem.boot_len (pa_cons (pv 3) pa_nil)) pe_int (nomark _)) (pw_or1 (pt_cmpR op_eq (pe_callB call_len_seq (by rfl) ml PySem.boot_len (pa_cons (pv 4) pa_nil)) pe_int (nomark _))))))
        (pss_one (ps_ret (pe_lst pa_nil))) pss_nil)
      (pss_one (ps_ret (pe_lc (own := [("_law_place", 5)]) (g := gName 5) rfl nd (pi_list (pv 3)) (blkOk_by (own := [("_law_place", 5)]) (N := nPairs) (sc := defScope sPairs) (by decide +kernel))
        (fun _ _ _ _ _ => pg_name (i := 5) nd rfl (Or.inl rfl)) (fun _ _ _ _ _ => pts_nil)
        (fun _ _ _ _ _ => pe_tup (pa_cons (pv 5) (pa_cons (pe_ix (ixL (K := K) rfl) (pv 4) (pe_op op_modN (pe_callTy call_int1 (by rfl) mi (by decide +kernel) (pa_cons (pe_ix (ixL (K := K) rfl) (pv 2) (pe_op op_add (pe_op op_add pe_int (pv 1)) (pv 5)) (fun _ _ => rfl)) pa_nil))
          (pe_callB (callLen (K := K) rfl) (by rfl) ml PySem.boot_len (pa_cons (pv 4) pa_nil))) (fun _ _ => rfl)) pa_nil))))))))), ?_⟩
    -- the limits
    have hsl := sizeLine_eq
    refine ⟨_, rfl, (by show 1 ≤ sizeLine; decide), fun l1 n1 => ⟨(by show 1 ≤ sizeLine; decide), fun l2 n2 => ?_⟩⟩
    have f1 : upd (upd H l1 (.lst [V.int 3])) l2 (.lst [V.int 2]) l1 = some (.lst [V.int 3]) := by rw [upd_ne (fun e => by rw [e, upd_same] at n2; cases n2), upd_same]
    have s2 : Same H (upd (upd H l1 (.lst [V.int 3])) l2 (.lst [V.int 2])) := (same_new n1).trans (same_new n2)
    have f2 : upd (upd H l1 (.lst [V.int 3])) l2 (.lst [V.int 2]) l2 = some (.lst [V.int 2]) := upd_same
    generalize hH2 : upd (upd H l1 (.lst [V.int 3])) l2 (.lst [V.int 2]) = H2 at f1 f2 s2 ⊢
    have hPn : ((P : Nat) : Int).toNat = P := Int.toNat_natCast P
    refine ⟨_, rfl, l2, (P : Int), _, rfl, rfl, f2, by omega, by omega, (by rw [hPn]; show 1 * P ≤ sizeLine; omega), fun l3 n3 => ?_⟩
    rw [hPn]
    have s3 : Same H2 (upd H2 l3 (.lst (List.replicate P [V.int 2]).flatten)) := same_new n3
    refine ⟨l1, l3, _, _, rfl, rfl, s3 _ _ f1, upd_same, (by rw [rep_flat, List.length_replicate]; show 1 + P ≤ sizeLine; omega), fun l4 n4 => ?_⟩
    have s4 := s3.trans (same_new (o := .lst ([V.int 3] ++ (List.replicate P [V.int 2]).flatten)) n4)
    have f4 : upd (upd H2 l3 (.lst (List.replicate P [V.int 2]).flatten)) l4 (.lst ([V.int 3] ++ (List.replicate P [V.int 2]).flatten)) l4 = some (.lst ([V.int 3] ++ (List.replicate P [V.int 2]).flatten)) := upd_same
    generalize hH4 : upd (upd H2 l3 (.lst (List.replicate P [V.int 2]).flatten)) l4 (.lst ([V.int 3] ++ (List.replicate P [V.int 2]).flatten)) = H4 at s4 f4 ⊢
    refine ⟨_, rfl, (by show 1 ≤ sizeLine; decide), fun l5 n5 => ?_⟩
    refine ⟨_, rfl, l5, (P : Int), _, rfl, rfl, upd_same, by omega, by omega, (by rw [hPn]; show 1 * P ≤ sizeLine; omega), fun l6 n6 => ?_⟩
    rw [hPn]
    have s6 : Same H4 (upd (upd H4 l5 (.lst [V.int (P : Int)])) l6 (.lst (List.replicate P [V.int (P : Int)]).flatten)) := (same_new n5).trans (same_new n6)
    refine ⟨l4, l6, _, _, rfl, rfl, s6 _ _ f4, upd_same, ?_, fun l7 n7 => ?_⟩
    · rw [List.length_append, rep_flat, rep_flat, List.length_replicate, List.length_replicate]
      show 1 + P + P ≤ sizeLine
      omega
    rw [limP_V]
    have s7 := (s2.trans s4).trans (s6.trans (same_new (o := .lst ((limP P).map V.int)) n7))
    -- _law_draws(..)
    refine ⟨z, l7, limP P, rfl, SqL.of upd_same, limP_pos hP h6, (by rw [limP_len]; omega), fun H8 d rs s8 nd8 hb hd => ?_⟩
    have sA : Same H H8 := s7.trans s8
    have rlen : rs.length = 1 + P + P := by rw [hb.1, limP_len]
    -- what the places' draws are
    have two : ∀ i, i < P → ∃ x : Int, (rs.map V.int)[1 + i]? = some (.int x) := fun i hi => ⟨_, ints_get (by omega)⟩
    -- the two comprehensions: some places, each in range
    have turn : ∀ (c : Int) (H0 : Hp) (D1 : Addr) (i : Nat) (H' : Hp), Same H8 H0 → H0 D1 = none → i < P → (Same H0 H' ∧ ∃ fs : List Nat, H' D1 = some (.lst (natsV fs)) ∧ (∀ x ∈ fs, x < P) ∧ fs.length ≤ i) →
        ∃ x : Int, (rs.map V.int)[1 + i]? = some (.int x) ∧ SqL K H' d (rs.map V.int) ∧
        (if decide (V.int x = V.int c) = true then ∃ acc, H' D1 = some (.lst acc) ∧ acc.length < sizeLine ∧ (Same H0 (upd H' D1 (.lst (acc ++ [V.int (i : Int)]))) ∧ ∃ fs : List Nat, upd H' D1 (.lst (acc ++ [V.int (i : Int)])) D1 = some (.lst (natsV fs)) ∧ (∀ x ∈ fs, x < P) ∧ fs.length ≤ i + 1)
          else Same H0 H' ∧ ∃ fs : List Nat, H' D1 = some (.lst (natsV fs)) ∧ (∀ x ∈ fs, x < P) ∧ fs.length ≤ i + 1) := by
      rintro c H0 D1 i H' s0 hD1 hi ⟨s1, fs, hfs, hlt, hle⟩
      obtain ⟨x, hx⟩ := two i hi
      refine ⟨x, hx, (s0.trans s1).seq (SqL.of hd), ite2 (fun _ => ⟨_, hfs, ?_, same_upd s1 hD1, fs ++ [i], ?_, fun y hy => ?_, ?_⟩) (fun _ => ⟨s1, fs, hfs, hlt, by omega⟩)⟩
      · rw [natsV_len]
        exact small1000 (by omega)
      · rw [upd_same, natsV_snoc]
      · rcases List.mem_append.mp hy with hy | hy
        · exact hlt y hy
        · rw [List.mem_singleton.mp hy]
          exact hi
      · rw [List.length_append, List.length_singleton]
        omega
    have nilOk : ∀ (H0 : Hp) (D1 : Addr), H0 D1 = none → Same H0 (upd H0 D1 (.lst [])) ∧ ∃ fs : List Nat, upd H0 D1 (.lst []) D1 = some (.lst (natsV fs)) ∧ (∀ x ∈ fs, x < P) ∧ fs.length ≤ 0 :=
      fun H0 D1 h => ⟨same_new h, [], upd_same, fun x hx => absurd hx List.not_mem_nil, Nat.le_refl _⟩
    have e0 : ∀ i : Nat, (0 : Int) + (i : Int) = (i : Int) := fun i => Int.zero_add _
    have e1 : ∀ i : Nat, (1 : Int) + (i : Int) = ((1 + i : Nat) : Int) := fun i => by omega
    refine ⟨_, rfl, _, rfl, by omega, by omega, fun D1 hD1 => lc_range (lo := 0) (fun i H' => Same H8 H' ∧ ∃ fs : List Nat, H' D1 = some (.lst (natsV fs)) ∧ (∀ x ∈ fs, x < P) ∧ fs.length ≤ i) (nilOk _ _ hD1) ?_ ?_⟩
    · intro i H' hi hI
      rw [hPn] at hi
      rw [e0]
      obtain ⟨x, hx, hsq, step⟩ := turn 1 H8 D1 i H' (Same.refl _) hD1 hi hI
      refine ⟨rfl, _, rfl, _, rfl, _, _, rfl, rfl, d, _, _, V.int x, rfl, rfl, hsq, (by rw [e1]; exact atI_nat hx), rfl, _, rfl, ?_⟩
      by_cases c : decide (V.int x = V.int 1) = true
      · rw [if_pos c] at step ⊢
        exact ⟨_, rfl, step⟩
      · rw [if_neg c] at step ⊢
        exact step
    rintro H9 ⟨s9, fs, hfs, hflt, hfle⟩
    rw [hPn] at hfle
    refine ⟨_, rfl, _, rfl, by omega, by omega, fun D2 hD2 => lc_range (lo := 0) (fun i H' => Same H9 H' ∧ ∃ fs : List Nat, H' D2 = some (.lst (natsV fs)) ∧ (∀ x ∈ fs, x < P) ∧ fs.length ≤ i) (nilOk _ _ hD2) ?_ ?_⟩
    · intro i H' hi hI
      rw [hPn] at hi
      rw [e0]
      obtain ⟨x, hx, hsq, step⟩ := turn 0 H9 D2 i H' s9 hD2 hi hI
      refine ⟨rfl, _, rfl, _, rfl, _, _, rfl, rfl, d, _, _, V.int x, rfl, rfl, hsq, (by rw [e1]; exact atI_nat hx), rfl, _, rfl, ?_⟩
      by_cases c : decide (V.int x = V.int 0) = true
      · rw [if_pos c] at step ⊢
        exact ⟨_, rfl, step⟩
      · rw [if_neg c] at step ⊢
        exact step
    rintro H10 ⟨s10, gs, hgs, hglt, hgle⟩
    have sB : Same H H10 := sA.trans (s9.trans s10)
    have hfs' := s10 _ _ hfs
    have hd' := (s9.trans s10) _ _ hd
    -- nothing is handed back, or the pairs
    have none_ : ∀ σ' : L2.St, tRet (tLst tNil) { nx := fun _ H' => Q .non H', rt := Q } σ' H10 := fun σ' =>
      ⟨Nat.zero_le _, fun l hl => q _ l [] [] (sB.trans (same_new hl)) (sB.free hl) upd_same .nil (Nat.zero_le _) fun x hx => absurd hx List.not_mem_nil⟩
    refine ⟨_, rfl, d, _, 0, _, rfl, rfl, SqL.of hd', atI_nat (j := 0) (ints_get (by omega)), _, _, rfl, rfl, _, rfl, ite2 (fun _ => none_ _) (fun _ => ?_)⟩
    refine ⟨_, rfl, D1, _, rfl, .inl (SqL.of hfs'), rfl, _, rfl, ite2 (fun _ => none_ _) (fun _ => ?_)⟩
    refine ⟨_, rfl, D2, _, rfl, .inl (SqL.of hgs), rfl, _, rfl, ite2 (fun _ => none_ _) (fun c3 => ?_)⟩
    have hg0 : gs.length ≠ 0 := fun e => c3 (decide_eq_true (by rw [natsV_len, e]; rfl))
    refine ⟨_, rfl, D1, rfl, ⟨_, SqL.of hfs'⟩, fun D hD => lc_list (K := K) (a := D1) (xs := natsV fs) (fun i H' => Same H10 H' ∧ ∃ (prs : List V) (sh : List (Nat × Nat)), H' D = some (.lst prs) ∧ DpAll K (hide H' [D]) prs (sh.map prD) ∧ sh.length ≤ i ∧ ∀ x ∈ sh, x.1 < P ∧ x.2 < P)
      ⟨same_new hD, [], [], upd_same, .nil, Nat.le_refl _, fun x hx => absurd hx List.not_mem_nil⟩ (fun i H' _ z => z.1.seq (SqL.of hfs')) ?_ ?_⟩
    · rintro i x H' hx ⟨s1, prs, sh, hD', hdp, hle, hlt⟩
      obtain ⟨k, hk, rfl⟩ := map_get hx
      have hkP : k < P := hflt k (List.mem_of_getElem? hk)
      have hif : i < fs.length := (List.getElem?_eq_some_iff.mp hk).1
      have hd2 := s1 _ _ hd'
      have hg2 := s1 _ _ hgs
      have hix : 1 + P + k < rs.length := by omega
      have ei : (1 : Int) + (P : Int) + (k : Int) = ((1 + P + k : Nat) : Int) := by omega
      have hpos : (0 : Int) < (gs.length : Int) := by omega
      -- the second of the pair
      have hj := pick_lt (rs.getD (1 + P + k) 0) hg0
      have hjc := pick_cast (rs.getD (1 + P + k) 0) hg0
      have hsm := hglt _ (getD_mem hj)
      refine ⟨rfl, ?_⟩
      refine ⟨_, rfl, _, rfl, _, rfl, _, rfl, _, _, rfl, rfl, _, rfl, _, _, rfl, rfl, d, _, _, _, rfl, rfl, SqL.of hd2, (by rw [ei]; exact atI_nat (ints_get hix)), .inl ⟨_, rfl, ?_⟩⟩
      refine ⟨_, rfl, D2, _, rfl, .inl (SqL.of hg2), _, _, rfl, rfl, (by rw [natsV_len]; omega), D2, _, _, _, rfl, rfl, SqL.of hg2, (by rw [natsV_len, ← hjc]; exact atI_nat (natsV_get hj)), (by show 2 ≤ sizeLine; decide), fun t ht => ?_⟩
      have nDt : D ≠ t := ne_of_none hD' ht
      refine ⟨prs, (by rw [upd_ne nDt]; exact hD'), ?_, same_upd (s1.trans (same_new ht)) hD, prs ++ [.ref t], sh ++ [(k, gs.getD (pick gs.length (rs.getD (1 + P + k) 0)) 0)], upd_same, ?_, ?_, fun y hy => ?_⟩
      · have := dps_len hdp
        rw [List.length_map] at this
        have h3 : fs.length ≤ P := hfle
        exact small1000 (by omega)
      · rw [List.map_append, hide_upd (List.mem_singleton.mpr rfl)]
        have sh1 : Same (hide H' [D]) (hide (upd H' t (.tup [V.int (k : Int), V.int ((gs.getD (pick gs.length (rs.getD (1 + P + k) 0)) 0 : Nat) : Int)])) [D]) := hide_mono (same_new ht)
        refine dps_append (dps_same sh1 _ _ hdp) (.tup (SqT.of ?_) (.cons (.int _) (.cons (.int _) .nil)))
        rw [hide_at (fun hm => nDt (List.mem_singleton.mp hm).symm), upd_same]
      · rw [List.length_append, List.length_singleton]
        omega
      · rcases List.mem_append.mp hy with hy | hy
        · exact hlt y hy
        · rw [List.mem_singleton.mp hy]
          exact ⟨hkP, hsm⟩
    · rintro H' ⟨s1, prs, sh, hD', hdp, hle, hlt⟩
      rw [natsV_len] at hle
      exact q H' D prs sh (sB.trans s1) (sB.free hD) hD' (dps_same hide_same _ _ hdp) (by omega) hlt
end
end K20

set_option Elab.async false
set_option linter.all false
set_option maxRecDepth 100000
set_option maxHeartbeats 4000000
/-! K20L4: the law's _law_machine. -/
namespace K20
open PySem PySem.Spec PyProof.Rows L2
abbrev sMach : Stmt := topS 16
abbrev nMach : List Str := ["_law_cell_here", "_law_cells", "_law_shifting", "_law_draws_here", "_law_states", "_law_places", "_law_moves", "_law_k", "_law_part", "_law_started", "_law_shifts", "_law_move"]
theorem scMach : FnScope nMach ["_law_cell_here", "_law_cells", "_law_shifting"] (defScope sMach) := ⟨rfl, rfl, rfl, by decide +kernel, rfl, by decide +kernel, by decide +kernel⟩
/-- a drawn number as a natural one -/
theorem Bd.nat {rs ls : List Int} (h : Bd rs ls) (i : Nat) (l : Int) (e : ls[i]? = some l) : ∃ n : Nat, rs[i]? = some (n : Int) ∧ (n : Int) < l := by
  have hi : i < rs.length := by rw [h.1]; exact (List.getElem?_eq_some_iff.mp e).1
  have hb := h.2 i l e
  refine ⟨(rs.getD i 0).toNat, ?_, by omega⟩
  rw [List.getD_eq_getElem?_getD, List.getElem?_eq_getElem hi] at hb ⊢
  have hb' : 0 ≤ rs[i] ∧ rs[i] < l := hb
  show some rs[i] = some ((rs[i].toNat : Nat) : Int)
  congr 1
  omega
theorem nat_get {rs : List Int} {i : Nat} {n : Nat} (h : rs[i]? = some (n : Int)) : (rs.map V.int)[i]? = some (.int (n : Int)) := by
  rw [List.getElem?_map, h]
  rfl
theorem q_at {R : V → Prop} {a b : V} (h : a = b) (q : R b) : R a := by
  rw [h]
  exact q
theorem room65 {k : Nat} {A : Around} (r : Room k A) : A.units + 65 < cLine := by
  have := r.un
  omega
theorem seqT_hide {K : PySem.W.Frag} {H : Hp} {p t : Addr} {l xs : List V} (hp : H p = some (.lst l)) (h : SqT K H t xs) : SqT K (hide H [p]) t xs := by
  have nt : ∀ o, H t = some o → (∀ l', o ≠ .lst l') → hide H [p] t = some o := fun o e k => by
    rw [hide_at (fun hm => ?_)]
    · exact e
    · rw [List.mem_singleton.mp hm, hp] at e
      exact k l (Option.some.inj e).symm
  rcases h with (h | ⟨o, h⟩) | h
  · exact .inl (.inl (nt _ h fun l' z => by cases z))
  · exact .inl (.inr ⟨o, nt _ h fun l' z => by cases z⟩)
  · exact .inr h
theorem prs_hide {K : PySem.W.Frag} {H : Hp} {p : Addr} {l : List V} (hp : H p = some (.lst l)) : ∀ {sh : List (Nat × Nat)} {prs : List V}, DpAll K H prs (sh.map prD) → DpAll K (hide H [p]) prs (sh.map prD)
  | [], _, h => by cases h; exact .nil
  | x :: sh, _, h => by
    cases h with
    | cons h1 h2 =>
      obtain ⟨a, rfl, hq⟩ := pr_at h1
      exact .cons (.tup (seqT_hide hp hq) (.cons (.int _) (.cons (.int _) .nil))) (prs_hide hp h2)
theorem Bd.mem {rs ls : List Int} (h : Bd rs ls) {B : Int} (hB : ∀ l ∈ ls, l ≤ B) : ∀ z ∈ rs, 0 ≤ z ∧ z < B := by
  intro z hz
  obtain ⟨i, hi, rfl⟩ := List.mem_iff_getElem.mp hz
  have hl : i < ls.length := by rw [← h.1]; exact hi
  have hb := h.2 i ls[i] (List.getElem?_eq_getElem hl)
  rw [List.getD_eq_getElem?_getD, List.getElem?_eq_getElem hi] at hb
  have hb' : 0 ≤ rs[i] ∧ rs[i] < ls[i] := hb
  have := hB ls[i] (List.getElem_mem hl)
  omega
/-- the limits of _law_machine -/
def limM : List Int := [4, 6, 6, 4, 3, 3, 3, 3, 3, 3]
def limV : List Int := [4, 6, 4, 6, 9, 1000000000]
theorem fmod_nat (n p : Nat) : ((n : Int).fmod (p : Int)) = ((n % p : Nat) : Int) := by
  rw [Int.fmod_eq_emod_of_nonneg _ (Int.natCast_nonneg p)]
  rfl
section
variable {P : Program} {w : World} {K : PySem.W.Frag} {mg : Str → Option Value} {base : Heap}
def spMach (K : PySem.W.Frag) : Sp := fun vs H Q _ => ∃ (z : Int) (a : Addr) (ns : List Int), vs = [.int z, .ref a, .bl true] ∧ SqL K H a (ns.map V.int) ∧ ns.length ≤ 63 ∧
  ∀ (H' : Hp) (r : Addr) (M : Mach), Same H H' → OkM M → M.c0.length = M.P → M.S ≤ 4 → 0 < M.S → Dp K H' (.ref r) (machD M) → Q (.ref r) H'
theorem ok_mach {f fD fP : Addr} {fd fdD fdP : FuncData} (F : At K mg "_law_machine" sMach ["_law_cell_here", "_law_cells", "_law_shifting"] f fd) (FD : At K mg "_law_draws" sDraws ["_law_cell_here", "_law_limits"] fD fdD)
    (FP : At K mg "_law_pairs" sPairs ["_law_cell_here", "_law_places"] fP fdP) (ml : mg "len" = none) (mr : mg "range" = none) (mi : mg "int" = none) (mab : mg "abs" = none) (mmi : mg "min" = none) :
    FnOk P w K mg base CX0 3 f fd ["_law_cell_here", "_law_cells", "_law_shifting"] (spMach K) := by
  have GD : FnOk P w K mg base CX0 1 fD fdD ["_law_cell_here", "_law_limits"] (spDraws K) := ok_draws FD mi mab
  have GP : FnOk P w K mg base CX0 2 fP fdP ["_law_cell_here", "_law_places"] (spPairs K) := ok_pairs FP FD ml mr mi mab
  refine F.F.ok scMach (fun vs H Q E h => ?_) (fun cdv A outer s H vs Q E hr h => ?_)
  · obtain ⟨z, a, ns, rfl, _⟩ := h
    rfl
  · obtain ⟨z, a, ns, rfl, hs, hns, q⟩ := h
    have nd := scMach.nd
    have hr1 : Room 1 _ := hr.mono (by decide)
    refine ⟨_, pss_cons (ps_set (i := 3) nd rfl (.inl rfl) (pe_call GD hr1 (by rfl) FD.g FD.F.kp FD.b .nil pass0 (pa_cons (pv 0) (pa_cons (pe_op op_cat (pe_lst (pa_cons (pe_int) (pa_cons (pe_int) (pa_cons (pe_int) (pa_cons (pe_int) pa_nil))))) (pe_op op_rep (pe_lst (pa_cons (pe_int) pa_nil)) (pe_int))) pa_nil))))
      (pss_cons (ps_set (i := 4) nd rfl (.inl rfl) (pe_op op_add (pe_int) (pe_ix ix_list (pv 3) (pe_int) (fun _ _ => rfl))))
      (pss_cons (ps_set (i := 5) nd rfl (.inl rfl) (pe_op op_add (pe_int) (pe_ix ix_list (pv 3) (pe_int) (fun _ _ => rfl))))
      (pss_cons (ps_set (i := 6) nd rfl (.inl rfl) (pe_lst (pa_nil)))
      (pss_cons (ps_for PassesOwn.never rfl (pi_range1 (by rfl) mr (pa_cons (pe_callB (call_min2 rfl) (by rfl) mmi (by decide +kernel) (pa_cons (pe_int) (pa_cons (pe_callB call_len_seq (by rfl) ml PySem.boot_len (pa_cons (pv 1) pa_nil)) pa_nil))) pa_nil)) (pg_name (i := 7) nd rfl (.inl rfl)) (pss_cons (ps_set (i := 8) nd rfl (.inl rfl) (pe_call GD hr1 (by rfl) FD.g FD.F.kp FD.b .nil pass0 (pa_cons (pe_ix ix_list (pv 1) (pv 7) (fun _ _ => rfl)) (pa_cons (pe_lst (pa_cons (pe_int) (pa_cons (pe_int) (pa_cons (pe_int) (pa_cons (pe_int) (pa_cons (pe_int) (pa_cons (pe_op op_pow pe_int pe_int) pa_nil))))))) pa_nil))))
      (pss_cons (ps_set (i := 9) nd rfl (.inl rfl) (pe_non))
      (pss_cons (ps_if (pt_cmpR op_lt (pe_ix ix_list (pv 8) (pe_int) (fun _ _ => rfl)) (pe_int) (nomark _)) (pss_one (ps_set (i := 9) nd rfl (.inl rfl) (pe_op op_modN (pe_callTy call_int1 (by rfl) mi (by decide +kernel) (pa_cons (pe_op op_add (pe_ix ix_list (pv 8) (pe_int) (fun _ _ => rfl)) (pe_ix ix_list (pv 8) (pe_int) (fun _ _ => rfl))) pa_nil)) (pv 5)))) (pss_nil))
      (pss_cons (ps_set (i := 10) nd rfl (.inl rfl) (pe_lst (pa_nil)))
      (pss_cons (ps_if (pt_val (pv 2)) (pss_one (ps_set (i := 10) nd rfl (.inl rfl) (pe_call GP hr (by rfl) FP.g FP.F.kp FP.b .nil pass0 (pa_cons (pe_ix ix_list (pv 8) (pe_int) (fun _ _ => rfl)) (pa_cons (pv 5) pa_nil))))) (pss_nil))
      (pss_cons (ps_set (i := 11) nd rfl (.inl rfl) (pe_tup (pa_cons (pe_op op_modN (pe_callTy call_int1 (by rfl) mi (by decide +kernel) (pa_cons (pe_ix ix_list (pv 8) (pe_int) (fun _ _ => rfl)) pa_nil)) (pv 4)) (pa_cons (pe_op op_modN (pe_callTy call_int1 (by rfl) mi (by decide +kernel) (pa_cons (pe_ix ix_list (pv 8) (pe_int) (fun _ _ => rfl)) pa_nil)) (pv 5)) (pa_cons (pe_op op_modN (pe_callTy call_int1 (by rfl) mi (by decide +kernel) (pa_cons (pe_ix ix_list (pv 8) (pe_int) (fun _ _ => rfl)) pa_nil)) (pv 4)) (pa_cons (pe_op op_modN (pe_callTy call_int1 (by rfl) mi (by decide +kernel) (pa_cons (pe_ix ix_list (pv 8) (pe_int) (fun _ _ => rfl)) pa_nil)) (pv 5)) (pa_cons (pv 9) (pa_cons (pv 10) pa_nil))))))))
      (pss_one (ps_if (pt_cmpR (op_notInD (room65 hr)) (pv 11) (pv 6) (by rfl)) (pss_one (ps_expr (pe_bm PySem.F.plainAttrs_list PySem.F.slot_list_append PySem.F.type_list_append mt_append (pv 6) (pa_cons (pv 11) pa_nil)))) (pss_nil))))))))))
      (pss_one (ps_ret (pe_tup (pa_cons (pv 4) (pa_cons (pv 5) (pa_cons (pe_tup (pa_cons (pe_op op_modN (pe_callTy call_int1 (by rfl) mi (by decide +kernel) (pa_cons (pe_ix ix_list (pv 3) (pe_int) (fun _ _ => rfl)) pa_nil)) (pv 4)) (pa_cons (pe_slice sl_list (pv 3) (po_some (pe_int)) (po_some (pe_op op_add (pe_int) (pv 5)))) pa_nil))) (pa_cons (pe_op op_modN (pe_callTy call_int1 (by rfl) mi (by decide +kernel) (pa_cons (pe_ix ix_list (pv 3) (pe_int) (fun _ _ => rfl)) pa_nil)) (pv 5)) (pa_cons (pv 6) pa_nil)))))))))))), ?_⟩
    have hsl := sizeLine_eq
    have small : ∀ n : Nat, n ≤ 100 → n ≤ sizeLine := fun n hn => by omega
    -- the first draws
    refine ⟨_, rfl, small 4 (by decide), fun l1 n1 => ⟨small 1 (by decide), fun l2 n2 => ?_⟩⟩
    have f1 : upd (upd H l1 (.lst [V.int 4, V.int 6, V.int 6, V.int 4])) l2 (.lst [V.int 3]) l1 = some (.lst [V.int 4, V.int 6, V.int 6, V.int 4]) := by rw [upd_ne (fun e => by rw [e, upd_same] at n2; cases n2), upd_same]
    have s2 : Same H (upd (upd H l1 (.lst [V.int 4, V.int 6, V.int 6, V.int 4])) l2 (.lst [V.int 3])) := (same_new n1).trans (same_new n2)
    refine ⟨l2, 6, _, rfl, rfl, upd_same, by decide, by decide, small 6 (by decide), fun l3 n3 => ?_⟩
    refine ⟨l1, l3, _, _, rfl, rfl, same_new n3 _ _ f1, upd_same, small 10 (by decide), fun l4 n4 => ?_⟩
    have s4 := (s2.trans (same_new (o := .lst (List.replicate (6 : Int).toNat [V.int 3]).flatten) n3)).trans (same_new (o := .lst (limM.map V.int)) n4)
    refine ⟨z, l4, limM, rfl, SqL.of upd_same, (by decide), (by decide), fun H5 d rs s5 nd5 hb hd => ?_⟩
    have sA : Same H H5 := s4.trans s5
    obtain ⟨x0, g0, b0⟩ := hb.nat 0 4 rfl
    obtain ⟨x1, g1, b1⟩ := hb.nat 1 6 rfl
    obtain ⟨x2, g2, b2⟩ := hb.nat 2 6 rfl
    obtain ⟨x3, g3, b3⟩ := hb.nat 3 4 rfl
    have eS : (1 : Int) + (x0 : Int) = ((1 + x0 : Nat) : Int) := by omega
    have eP : (1 : Int) + (x1 : Int) = ((1 + x1 : Nat) : Int) := by omega
    generalize hS : 1 + x0 = S at eS
    generalize hP : 1 + x1 = PP at eP
    -- states, places
    refine ⟨_, rfl, d, _, 0, _, rfl, rfl, SqL.of hd, atI_nat (j := 0) (nat_get g0), _, _, rfl, rfl, ?_⟩
    refine q_at (R := fun x => gName 4 x _ _ _) (show V.int (1 + (x0 : Int)) = V.int (S : Int) by rw [eS]) ?_
    refine ⟨_, rfl, d, _, 1, _, rfl, rfl, SqL.of hd, atI_nat (j := 1) (nat_get g1), _, _, rfl, rfl, ?_⟩
    refine q_at (R := fun x => gName 5 x _ _ _) (show V.int (1 + (x1 : Int)) = V.int (PP : Int) by rw [eP]) ?_
    -- moves = []
    refine ⟨Nat.zero_le _, fun p hp => ?_⟩
    have hpH : H p = none := sA.free hp
    have s6 : Same H5 (upd H5 p (.lst [])) := same_new hp
    have hPP : 0 < PP ∧ PP ≤ 6 := by omega
    have hSS : 0 < S ∧ S ≤ 4 := by omega
    -- range(min(12, len(cells)))
    refine ⟨_, rfl, a, _, rfl, .inl ((sA.trans s6).seq hs), 12, _, rfl, _, rfl, (by split <;> omega), (by split <;> omega), for_range (lo := 0) (fun i σ H' => ∃ (y7 y8 y9 y10 y11 : Option V) (mvs : List V) (ms : List Mv),
      σ = [some (.int z), some (.ref a), some (.bl true), some (.ref d), some (.int (S : Int)), some (.int (PP : Int)), some (.ref p), y7, y8, y9, y10, y11] ∧ Same H5 H' ∧ H' p = some (.lst mvs) ∧ DpAll K (hide H' [p]) mvs (ms.map mvD) ∧ ms.length ≤ i ∧ OkAll PP ms ∧ ∀ m ∈ ms, SmallMv m)
      ⟨none, none, none, none, none, [], [], rfl, s6, upd_same, .nil, Nat.le_refl _, fun m hm => absurd hm List.not_mem_nil, fun m hm => absurd hm List.not_mem_nil⟩ ?_ ?_⟩
    · rintro i σ H' hi ⟨y7, y8, y9, y10, y11, mvs, ms, rfl, s7, hmp, hmd, hle, hok, hsmall⟩
      have hi12 : i < 12 ∧ i < ns.length := by
        rw [len_ints] at hi
        split at hi <;> omega
      have e0 : (0 : Int) + (i : Int) = (i : Int) := Int.zero_add _
      rw [e0]
      -- part
      refine ⟨_, rfl, _, rfl, a, _, _, _, rfl, rfl, (sA.trans s7).seq hs, atI_nat (ints_get hi12.2), _, _, rfl, rfl, ⟨by decide, by decide, by decide⟩, small 6 (by decide), fun lv nv => ?_⟩
      refine ⟨_, lv, limV, rfl, SqL.of upd_same, (by decide), (by decide), fun H8 dp rp s8 nd8 hb8 hd8 => ?_⟩
      have s8' : Same H' H8 := (same_new nv).trans s8
      obtain ⟨y0, j0, c0⟩ := hb8.nat 0 4 rfl
      obtain ⟨y1, j1, c1⟩ := hb8.nat 1 6 rfl
      obtain ⟨y2, j2, c2⟩ := hb8.nat 2 4 rfl
      obtain ⟨y3, j3, c3⟩ := hb8.nat 3 6 rfl
      obtain ⟨y4, j4, c4⟩ := hb8.nat 4 9 rfl
      obtain ⟨y5, j5, c5⟩ := hb8.nat 5 1000000000 rfl
      have hSne : (S : Int) ≠ 0 := by omega
      have hPne : (PP : Int) ≠ 0 := by omega
      -- started
      have opt : ∀ v : V, (v = .non ∨ v = .int (((y4 : Int) + (y3 : Int)).fmod (PP : Int))) → ∃ sd : Option Nat, v = optV sd ∧ ∀ k, sd = some k → k < PP := by
        rintro v (rfl | rfl)
        · exact ⟨none, rfl, fun k hk => by cases hk⟩
        · refine ⟨some ((y4 + y3) % PP), ?_, fun k hk => ?_⟩
          · have e : (y4 : Int) + (y3 : Int) = ((y4 + y3 : Nat) : Int) := by omega
            rw [e, fmod_nat]
            rfl
          · cases hk
            exact Nat.mod_lt _ hPP.1
      have sq8 : SqL K H8 dp (rp.map V.int) := SqL.of hd8
      refine ⟨_, rfl, dp, _, 4, _, rfl, rfl, sq8, atI_nat (j := 4) (nat_get j4), _, _, rfl, rfl, _, rfl, ite2 (fun _ => ?_) (fun _ => ?_)⟩
      refine ⟨_, rfl, dp, _, 4, _, rfl, rfl, sq8, atI_nat (j := 4) (nat_get j4), _, rfl, dp, _, 3, _, rfl, rfl, sq8, atI_nat (j := 3) (nat_get j3), _, _, rfl, rfl, .inl ⟨_, rfl, _, rfl, _, _, rfl, rfl, hPne, ?_⟩⟩
      obtain ⟨sd, esd, hsd⟩ := opt _ (.inr rfl)
      rotate_left
      obtain ⟨sd, esd, hsd⟩ := opt _ (.inl rfl)
      all_goals
        -- shifts
        refine ⟨Nat.zero_le _, fun lz nz => ?_⟩
        have s9 : Same H' (upd H8 lz (.lst [])) := s8'.trans (same_new nz)
        refine ⟨_, rfl, true, rfl, iteT ⟨_, rfl, dp, _, 5, _, rfl, rfl, (same_new nz).seq sq8, atI_nat (j := 5) (nat_get j5), _, rfl, _, PP, rfl, hPP.1, hPP.2, fun H9 ps prs sh s9b n9 h9 hdp hlen hlt => ?_⟩⟩
        have sq9 : SqL K H9 dp (rp.map V.int) := s9b.seq ((same_new nz).seq sq8)
        have s10 : Same H' H9 := s9.trans s9b
        have hp9 : H9 p = some (.lst mvs) := s10 _ _ hmp
        -- the move
        refine ⟨_, rfl, dp, _, 0, _, rfl, rfl, sq9, atI_nat (j := 0) (nat_get j0), .inl ⟨_, rfl, _, rfl, _, _, rfl, rfl, hSne, ?_⟩⟩
        refine ⟨_, rfl, dp, _, 1, _, rfl, rfl, sq9, atI_nat (j := 1) (nat_get j1), .inl ⟨_, rfl, _, rfl, _, _, rfl, rfl, hPne, ?_⟩⟩
        refine ⟨_, rfl, dp, _, 2, _, rfl, rfl, sq9, atI_nat (j := 2) (nat_get j2), .inl ⟨_, rfl, _, rfl, _, _, rfl, rfl, hSne, ?_⟩⟩
        refine ⟨_, rfl, dp, _, 3, _, rfl, rfl, sq9, atI_nat (j := 3) (nat_get j3), .inl ⟨_, rfl, _, rfl, _, _, rfl, rfl, hPne, ?_⟩⟩
        refine ⟨_, rfl, _, rfl, small 6 (by decide), fun t nt => ?_⟩
        have npt : p ≠ t := ne_of_none hp9 nt
        have s11 : ∀ o, Same H9 (upd H9 t o) := fun o => same_new nt
        have ht : ∀ o, hide (upd H9 t o) [p] t = some o := fun o => by rw [hide_at (fun hm => npt (List.mem_singleton.mp hm).symm), upd_same]
        have hpp : ∀ o, upd H9 t o p = some (.lst mvs) := fun o => (s11 o) _ _ hp9
        have nps : ps ≠ p := fun e => by
          have q1 := s9 _ _ hmp
          rw [← e, n9] at q1
          cases q1
        have hps : ∀ o, hide (upd H9 t o) [p] ps = some (.lst prs) := fun o => by
          rw [hide_at (fun hm => nps (List.mem_singleton.mp hm))]
          exact (s11 o) _ _ h9
        have hdp2 : ∀ o, DpAll K (hide (upd H9 t o) [p]) prs (sh.map prD) := fun o => dps_same (hide_mono (s11 o)) _ _ (prs_hide hp9 hdp)
        have hmd2 : ∀ o, DpAll K (hide (upd H9 t o) [p]) mvs (ms.map mvD) := fun o => dps_same (hide_mono (s10.trans (s11 o))) _ _ hmd
        have hnew : ∀ o, o = HO.tup [V.int (((y0 : Int)).fmod (S : Int)), V.int (((y1 : Int)).fmod (PP : Int)), V.int (((y2 : Int)).fmod (S : Int)), V.int (((y3 : Int)).fmod (PP : Int)), optV sd, .ref ps] →
            Dp K (hide (upd H9 t o) [p]) (.ref t) (mvD ⟨y0 % S, y1 % PP, y2 % S, y3 % PP, sd, sh⟩) := fun o eo => by
          have ht' := ht o
          rw [eo, fmod_nat, fmod_nat, fmod_nat, fmod_nat] at ht'
          rw [eo, fmod_nat, fmod_nat, fmod_nat, fmod_nat]
          refine .tup (SqT.of ht') (.cons (.int _) (.cons (.int _) (.cons (.int _) (.cons (.int _) (.cons (dp_opt sd) (.cons (.lst (xs := prs) (SqL.of ?_) ?_) .nil))))))
          · exact hps _
          · exact hdp2 _
        have okNew : OkMv PP ⟨y0 % S, y1 % PP, y2 % S, y3 % PP, sd, sh⟩ := ⟨Nat.mod_lt _ hPP.1, Nat.mod_lt _ hPP.1, hsd, hlt⟩
        have smNew : SmallMv ⟨y0 % S, y1 % PP, y2 % S, y3 % PP, sd, sh⟩ := ⟨by have := Nat.mod_lt y0 hSS.1; show y0 % S < 100; omega, by have := Nat.mod_lt y2 hSS.1; show y2 % S < 100; omega, by show sh.length ≤ 6; omega⟩
        have shp1 : SeqAt.shaped (mvD ⟨y0 % S, y1 % PP, y2 % S, y3 % PP, sd, sh⟩) = true := (sm_mv okNew hPP.2 smNew).shaped (by decide)
        have shp2 : SeqAt.shaped (.list (ms.map mvD)) = true := (sm_lst (B := 618) (d := 3) (n := 12) (xs := ms.map mvD) (fun y hy => by
          obtain ⟨m, hm, rfl⟩ := List.mem_map.mp hy
          exact sm_mv (hok m hm) hPP.2 (hsmall m hm)) (by rw [List.length_map]; omega)).shaped (by decide)
        -- if move not in moves
        refine ⟨_, rfl, _, rfl, _, ms.map mvD, dp_same hide_same _ _ (hnew _ (by rw [← esd])), .lst (SqL.of (hpp _)) (dps_same hide_same _ _ (hmd2 _)), shp1, shp2, _, rfl, ite2 (fun _ => ?_) (fun _ => ?_)⟩
        · refine ⟨_, rfl, .inl ⟨rfl, _, SqL.of (hpp _)⟩, _, rfl, p, _, _, rfl, rfl, hpp _, ?_, ?_⟩
          · have := dps_len hmd
            rw [List.length_map] at this
            exact small1000 (by omega)
          · refine ⟨_, _, _, _, _, mvs ++ [.ref t], ms ++ [⟨y0 % S, y1 % PP, y2 % S, y3 % PP, sd, sh⟩], rfl, same_upd ((s7.trans s10).trans (s11 _)) hp, upd_same, ?_, ?_, ?_, ?_⟩
            · rw [hide_upd (List.mem_singleton.mpr rfl), List.map_append]
              exact dps_append (hmd2 _) (hnew _ (by rw [← esd]))
            · rw [List.length_append, List.length_singleton]
              omega
            · intro m hm
              rcases List.mem_append.mp hm with hm | hm
              · exact hok m hm
              · rw [List.mem_singleton.mp hm]
                exact okNew
            · intro m hm
              rcases List.mem_append.mp hm with hm | hm
              · exact hsmall m hm
              · rw [List.mem_singleton.mp hm]
                exact smNew
        · exact ⟨_, _, _, _, _, mvs, ms, rfl, (s7.trans s10).trans (s11 _), hpp _, hmd2 _, by omega, hok, hsmall⟩
    · rintro σ H' ⟨y7, y8, y9, y10, y11, mvs, ms, rfl, s7, hmp, hmd, hle, hok, hsmall⟩
      have hle12 : ms.length ≤ 12 := by
        refine Nat.le_trans hle ?_
        rw [len_ints]
        split <;> omega
      have hSne : (S : Int) ≠ 0 := by omega
      have hPne : (PP : Int) ≠ 0 := by omega
      have sqd : SqL K H' d (rs.map V.int) := s7.seq (SqL.of hd)
      have e4 : (4 : Int) + (PP : Int) = ((4 + PP : Nat) : Int) := by omega
      have hrl : rs.length = 10 := hb.1
      -- the start
      refine ⟨_, rfl, _, rfl, _, rfl, d, _, 3, _, rfl, rfl, sqd, atI_nat (j := 3) (nat_get g3), .inl ⟨_, rfl, _, rfl, _, _, rfl, rfl, hSne, ?_⟩⟩
      refine ⟨_, rfl, 4, rfl, _, rfl, _, _, rfl, rfl, _, rfl, d, _, rfl, sqd, fun lc nc => ⟨small 2 (by decide), fun t1 nt1 => ?_⟩⟩
      have sC : ∀ o, Same H' (upd H' lc o) := fun o => same_new nc
      refine ⟨_, rfl, d, _, 2, _, rfl, rfl, ((sC _).trans (same_new nt1)).seq sqd, atI_nat (j := 2) (nat_get g2), .inl ⟨_, rfl, _, rfl, _, _, rfl, rfl, hPne, _, rfl, small 5 (by decide), fun t2 nt2 => ?_⟩⟩
      have s12 : ∀ o1 o2 o3, (upd H' lc o1) t1 = none → (upd (upd H' lc o1) t1 o2) t2 = none → Same H' (upd (upd (upd H' lc o1) t1 o2) t2 o3) := fun o1 o2 o3 h1 h2 => ((sC o1).trans (same_new h1)).trans (same_new h2)
      have hcl : (cutI rs (some 4) (some ((4 : Int) + (PP : Int)))).length = PP := by
        rw [e4]
        unfold cutI
        rw [show HT.sIx rs.length 0 (some 4) = min 4 rs.length from HT.sIx_nat _ _ 4, HT.sIx_nat, hrl, List.length_take, List.length_drop, hrl]
        omega
      refine q _ t2 ⟨S, PP, x3 % S, cutI rs (some 4) (some ((4 : Int) + (PP : Int))), x2 % PP, ms⟩ ((sA.trans s7).trans (s12 _ _ _ nt1 nt2)) ?_ hcl hSS.2 hSS.1 ?_
      · refine ⟨hPP.1, hPP.2, by show S < 100; omega, by have := Nat.mod_lt x3 hSS.1; show x3 % S < 100; omega, by have := Nat.mod_lt x2 hPP.1; show x2 % PP < 100; omega, ⟨?_, fun y hy => ?_⟩, hle12, hok, hsmall⟩
        · show (cutI rs (some 4) (some ((4 : Int) + (PP : Int)))).length ≤ 6
          rw [hcl]
          exact hPP.2
        · have := hb.mem (B := 6) (by decide) y (cutI_mem hy)
          omega
      · have n21 : t1 ≠ t2 := fun e => by rw [← e, upd_same] at nt2; cases nt2
        have nl1 : lc ≠ t1 := fun e => by rw [← e, upd_same] at nt1; cases nt1
        have nl2 : lc ≠ t2 := fun e => by
          rw [← e, upd_ne nl1, upd_same] at nt2
          cases nt2
        refine .tup (SqT.of upd_same) (.cons (.int _) (.cons (.int _) (.cons ?_ (.cons ?_ (.cons (.lst (xs := mvs) (SqL.of ?_) ?_) .nil)))))
        · refine .tup (xs := [.int (((x3 : Int)).fmod (S : Int)), .ref lc]) (SqT.of ?_) (.cons ?_ (.cons (.lst (SqL.of ?_) (dps_ints _)) .nil))
          · rw [upd_ne n21, upd_same]
          · rw [fmod_nat]
            exact .int _
          · rw [upd_ne nl2, upd_ne nl1, upd_same, cutV_ints]
        · show Dp K _ (V.int ((x2 : Int).fmod (PP : Int))) _
          rw [fmod_nat]
          exact .int _
        · exact s12 _ _ _ nt1 nt2 _ _ hmp
        · exact dps_same (hide_same.trans (s12 _ _ _ nt1 nt2)) _ _ hmd
end
end K20

set_option Elab.async false
set_option linter.all false
set_option maxRecDepth 100000
set_option maxHeartbeats 1000000
/-! K20G1: a generator whose items a list comprehension takes: the turns of a for in its body. -/
namespace K20
open PySem PySem.Spec PyProof.Rows L2 GenW

section
variable {M : Model} {A : Around} {R : GenEnd} {Y : Protocol} {n : Nat} {s₀ s : Shared} {c : Code} {fs : List Frame} {env : Env}
/-- for target in iter: body, within a generator: iter is asked, its iterator made; then the loop's own code over one more frame. Nothing is raised -/
theorem segFor {target iter : Expr} {body : List Stmt} {pos : Pos} {K : Flow → Sem PySem.Fin} {J : Value → Sem PySem.Fin} {gd : Bool → Bool} {lv : List Value → List Value}
    (hs : ∀ x, foldedSetIterable iter env x = pure x)
    (h : wpAny M (A.over c fs) (eval iter env) (fun x s1 => wpAny M (A.over c fs) (pyIter x) (fun it s2 => ∀ p,
      Seg M A R Y n s₀ (.forLoop target it body [] env) (M.den (.forLoop target it body [] env))
        (.ret (fun r => ((match r with | .ok f => (.pure f : Sem Flow) | .error e => .raise e).onRaise (cameBack env)).wrap K J gd lv) none (gd false) (lv []) c p [] :: fs) s2) (fun _ _ => False) s1) (fun _ _ => False) s) :
    Seg M A R Y n s₀ c ((exec (.For target iter body [] pos) env).wrap K J gd lv) fs s := by
  rw [exec_For]
  refine seg_bind_wrap (wpAny_standAt ?_)
  refine seg_bind_wrap (wpAny_mono h (fun x s1 h1 => ?_) fun _ _ z => z.elim)
  refine seg_bind_wrap (wpAny_of_eq (hs x) ?_)
  refine seg_bind_wrap (wpAny_standAt ?_)
  refine seg_bind_wrap (wpAny_holding (wpAny_mono h1 (fun it s2 h2 => ?_) fun _ _ z => z.elim))
  exact seg_call h2
end

section
variable {prog : Program} {w : World} {A : Around} {R : GenEnd} {Y : Protocol} {n : Nat} {s₀ s : Shared} {fs : List Frame} {env : Env}
/-- what the loop's code does with an exception (it has none here) -/
abbrev wayOut (env : Env) : Value → Sem PySem.Fin := fun e => (do noteFrame e env; theTreesLotGoes e : Sem Unit).bind fun _ => .raise e
/-- one turn of that loop -/
theorem segTurn {target : Expr} {it : Value} {body : List Stmt}
    (h : wpAny (model prog w) (A.over (.forLoop target it body [] env) fs) (pyNext it) (fun r s1 => match r with
      | none => Seg (model prog w) A R Y n s₀ (.block [] env) (.pure (.done .next)) fs s1
      | some v => wpAny (model prog w) (A.over (.forLoop target it body [] env) fs) (letOwnedTupleGo target it v) (fun _ s2 => wpAny (model prog w) (A.over (.forLoop target it body [] env) fs) (assign target env v) (fun _ s3 =>
          Seg (model prog w) A R Y n s₀ (.forLoop target it body [] env) ((execs body env).wrap (fun f => match f with
            | .next | .cont => .pure (.again (.forLoop target it body [] env))
            | .brk => .pure (.done .next)
            | .ret v => .pure (.done (.ret v))) (wayOut env) id id) fs s3) (fun _ _ => False) s2) (fun _ _ => False) s1) (fun _ _ => False) s) :
    Seg (model prog w) A R Y n s₀ (.forLoop target it body [] env) ((model prog w).den (.forLoop target it body [] env)) fs s := by
  show Seg _ A R Y n s₀ _ ((forTurn target it body [] env).onRaise (fun x => do noteFrame x env; theTreesLotGoes x)) fs s
  rw [Sem.onRaise_eq_wrap]
  unfold forTurn
  refine seg_bind_wrap (wpAny_standAt ?_)
  refine seg_bind_wrap (wpAny_onRaise (wpAny_mono h (fun r s1 h1 => ?_) fun _ _ z => z.elim))
  cases r with
  | none =>
    show Seg _ A R Y n s₀ _ (.pure (.again (.block [] env))) fs s1
    refine seg_again rfl ?_
    show Seg _ A R Y n s₀ _ ((do return Fin.done (← (execs [] env).onRaise (fun x => do noteFrame x env; theTreesLotGoes x))) : Sem PySem.Fin) fs s1
    exact h1
  | some v =>
    refine seg_bind_wrap (wpAny_mono h1 (fun _ s2 h2 => ?_) fun _ _ z => z.elim)
    refine seg_bind_wrap (wpAny_mono h2 (fun _ s3 h3 => ?_) fun _ _ z => z.elim)
    rw [Sem.bind_eq_wrap', Sem.wrap_wrap]
    exact Eq.mp (congrArg (fun t => Seg (model prog w) A R Y n s₀ (.forLoop target it body [] env) t fs s3) (Sem.wrap_congr (execs body env) id id (fun f => by cases f <;> rfl) (fun e => rfl))) h3
end
end K20

set_option Elab.async false
set_option linter.all false
set_option maxRecDepth 100000
set_option maxHeartbeats 1000000
/-! K20G2: a generator's body between its sleeps: what holds, and triples over its statements. S: the list that the comprehension fills; L: the namespace of the comprehension. -/
namespace K20
open PySem PySem.Spec PyProof.Rows L2 GenW

/-- while it sleeps the comprehension writes its own name (at L) and puts v behind the list (at S) -/
structure Nap (S L : Addr) (v : Value) (s s' : Shared) : Prop where
  os : s'.os = s.os
  bare : AllBare s'.gens
  keep : ∀ b o, b ≠ S → b ≠ L → s.heap.get? b = some o → s'.heap.get? b = some o
  own : ∀ acc c, s.heap.get? S = some (lstObj acc c) → ∃ c', s'.heap.get? S = some (lstObj (acc.push v) c')
  frm : ∀ o, s.heap.get? L = some o → ∃ o', s'.heap.get? L = some o' ∧ ∀ x, o'.data ≠ .cell x
/-- the two addresses lie apart from what the generator has -/
structure Far (X : Cx) (S L : Addr) : Prop where
  pn : ∀ p ∈ X.pn, p.1 ≠ S ∧ p.1 ≠ L
  s : Apart X S
  l : Apart X L
  ne : S ≠ L
def IpOk (S L : Addr) (ip : List (Addr × Obj)) : Prop := ∀ p ∈ ip, p.1 ≠ S ∧ p.1 ≠ L
/-- the generator runs: ys is out; s₀ the state at its last waking; ip its own iterators -/
def Gr (X : Cx) (S L : Addr) (ip : List (Addr × Obj)) (ys : List V) (σ : L2.St) (H : Hp) (s₀ s : Shared) : Prop :=
  ∃ (acc : Array Value) (c : Nat) (oL : Obj), Vals ys acc.toList ∧ s₀.heap.get? L = some oL ∧ (∀ x, oL.data ≠ .cell x) ∧ Inv X ((S, lstObj acc c) :: (L, oL) :: ip) σ H s
theorem Gr.ats {X : Cx} {S L : Addr} {ip : List (Addr × Obj)} {ys : List V} {σ : L2.St} {H : Hp} {s₀ s : Shared} (h : Gr X S L ip ys σ H s₀ s) :
    (H S = none ∧ H L = none) ∧ (∃ acc c, s.heap.get? S = some (lstObj acc c) ∧ Vals ys acc.toList) ∧ ∀ o, s₀.heap.get? L = some o → s.heap.get? L = some o := by
  obtain ⟨acc, c, oL, r, e0, hc, I⟩ := h
  obtain ⟨p1, p2, _⟩ := I.pin (S, lstObj acc c) (List.mem_append_right _ List.mem_cons_self)
  obtain ⟨q1, q2, _⟩ := I.pin (L, oL) (List.mem_append_right _ (List.mem_cons_of_mem _ List.mem_cons_self))
  refine ⟨⟨p2, q2⟩, ⟨acc, c, p1, r⟩, fun o e => ?_⟩
  rw [e0] at e
  cases e
  exact q1
/-- it wakes again -/
theorem Gr.wakes {X : Cx} {S L : Addr} {ip : List (Addr × Obj)} {ys : List V} {x : V} {v : Value} {σ : L2.St} {H : Hp} {s₀ s s' : Shared} (F : Far X S L) (hip : IpOk S L ip) (h : Gr X S L ip ys σ H s₀ s) (rv : RelV x v) (z : Nap S L v s s') :
    Gr X S L ip (ys ++ [x]) σ H s' s' := by
  obtain ⟨acc, c, oL, r, e0, hcell, I⟩ := h
  obtain ⟨p1, p2, p3, p4, p5⟩ := I.pin (S, lstObj acc c) (List.mem_append_right _ List.mem_cons_self)
  obtain ⟨q1, q2, q3, q4, q5⟩ := I.pin (L, oL) (List.mem_append_right _ (List.mem_cons_of_mem _ List.mem_cons_self))
  have I0 : Inv X ip σ H s := I.pins_of fun p hp => I.pin p (List.mem_append_right _ (List.mem_cons_of_mem _ (List.mem_cons_of_mem _ hp)))
  obtain ⟨z1, z2, z3, z4, z5⟩ := z
  obtain ⟨c', eS⟩ := z4 acc c p1
  obtain ⟨o', eL, hc'⟩ := z5 oL q1
  have notS : ∀ b u, H b = some u → b ≠ S ∧ b ≠ L := fun b u e => by
    refine ⟨fun k => ?_, fun k => ?_⟩
    · rw [k, show H S = none from p2] at e
      cases e
    · rw [k, show H L = none from q2] at e
      cases e
  have two : ∀ b, b ∉ [S, L] → b ≠ S ∧ b ≠ L := fun b hb => ⟨fun k => hb (by rw [k]; exact List.mem_cons_self), fun k => hb (by rw [k]; exact List.mem_cons_of_mem _ List.mem_cons_self)⟩
  obtain ⟨hp', g', d', t', o''⟩ := s'
  have eos : o'' = s.os := z1
  subst eos
  have J : Inv X ip σ H { s with heap := hp', gens := g', drawn := d', toks := t' } := by
    refine I0.step (ch := [S, L]) (fun b hb => ?_) (fun b o _ _ hc e _ => z3 b o (two b hc).1 (two b hc).2 e) (fun b o _ _ hc e _ => ⟨o.slots, z3 b o (two b hc).1 (two b hc).2 e⟩)
      (fun _ _ _ _ k => k) (fun b o hc e => ⟨o, z3 b o (two b hc).1 (two b hc).2 e⟩) (fun _ _ k => k) (fun _ _ _ k => k) (fun b ps k => ⟨#[], by rw [k]; simp⟩) (fun m hm => ?_) (fun b u e => ?_) z2
    · have hb' : b = S ∨ b = L := by simpa using hb
      rcases hb' with rfl | rfl
      · exact ⟨.inr F.s.1, F.s.2.1, F.s.2.2, fun p hp => (List.mem_append.mp hp).elim (fun k => (F.pn p k).1) fun k => (hip p k).1⟩
      · exact ⟨.inr F.l.1, F.l.2.1, F.l.2.2, fun p hp => (List.mem_append.mp hp).elim (fun k => (F.pn p k).2) fun k => (hip p k).2⟩
    · obtain ⟨o, es, ep, ho, rr⟩ := hm
      exact ⟨o, es, ep, z3 _ o (Ne.symm p3) (Ne.symm q3) ho, rr⟩
    · refine (I0.hok b u e).stay (fun d w hd k => ?_) (fun _ k => k) fun _ _ k => k
      have nd : d ≠ S ∧ d ≠ L := by
        rcases hd with rfl | hd
        · exact notS _ _ e
        · exact notS _ _ hd
      exact z3 d w nd.1 nd.2 k
  refine ⟨acc.push v, c', o', ?_, eL, hc', J.pins_of fun p hp => ?_⟩
  · rw [Array.toList_push]
    exact r.append (.cons rv .nil)
  · rcases List.mem_cons.mp hp with rfl | hp
    · exact ⟨eS, p2, p3, p4, fun x k => by cases k⟩
    · rcases List.mem_cons.mp hp with rfl | hp
      · exact ⟨eL, q2, q3, q4, hc'⟩
      · exact J.pin p (List.mem_append_right _ hp)

/-- an item goes out -/
def Yp (X : Cx) (S L : Addr) : Protocol := fun n s₀ v s kap =>
  ∃ ys x ip σ H, n + 1 + ys.length = sizeLine ∧ RelV x v ∧ Gr X S L ip ys σ H s₀ s ∧ ∀ s', Nap S L v s s' → kap (.send .none) s'
/-- where its code stands -/
structure Gat (X : Cx) (A : Around) (c : Code) (fs : List Frame) (gd : Bool → Bool) : Prop where
  over : A.over c fs = X.A
  split : splitAtGen fs = none
  guard : fs.any Frame.guarded = false
  gd : gd false = false
/-- triples: one statement, a block -/
def G1 (X : Cx) (S L : Addr) (st : Stmt) (pre post : List V → L2.St → Hp → Prop) : Prop :=
  ∀ (A : Around) (R : GenEnd) (n : Nat) (ys : List V) (s₀ s : Shared) (c : Code) (fs : List Frame) (K : Flow → Sem PySem.Fin) (J : Value → Sem PySem.Fin) (gd : Bool → Bool) (lv : List Value → List Value) (ip : List (Addr × Obj)) (σ : L2.St) (H : Hp),
    Gat X A c fs gd → IpOk S L ip → n + ys.length = sizeLine → Gr X S L ip ys σ H s₀ s → pre ys σ H →
    (∀ n' ys' s₀' s' σ' H', n' + ys'.length = sizeLine → Gr X S L ip ys' σ' H' s₀' s' → post ys' σ' H' → Seg (model X.prog X.w) A R (Yp X S L) n' s₀' c (K .next) fs s') →
    Seg (model X.prog X.w) A R (Yp X S L) n s₀ c ((exec st X.env).wrap K J gd lv) fs s
def Gs (X : Cx) (S L : Addr) (sts : List Stmt) (pre post : List V → L2.St → Hp → Prop) : Prop :=
  ∀ (A : Around) (R : GenEnd) (n : Nat) (ys : List V) (s₀ s : Shared) (c : Code) (fs : List Frame) (K : Flow → Sem PySem.Fin) (J : Value → Sem PySem.Fin) (gd : Bool → Bool) (lv : List Value → List Value) (ip : List (Addr × Obj)) (σ : L2.St) (H : Hp),
    Gat X A c fs gd → IpOk S L ip → n + ys.length = sizeLine → Gr X S L ip ys σ H s₀ s → pre ys σ H →
    (∀ n' ys' s₀' s' σ' H', n' + ys'.length = sizeLine → Gr X S L ip ys' σ' H' s₀' s' → post ys' σ' H' → Seg (model X.prog X.w) A R (Yp X S L) n' s₀' c (K .next) fs s') →
    Seg (model X.prog X.w) A R (Yp X S L) n s₀ c ((execs sts X.env).wrap K J gd lv) fs s
section
variable {X : Cx} {S L : Addr} {st : Stmt} {sts : List Stmt} {pre mid post : List V → L2.St → Hp → Prop}
theorem Gs.nil : Gs X S L [] pre pre := fun A R n ys s₀ s c fs K J gd lv ip σ H g hip hn hI hp k => seg_execs_nil (k n ys s₀ s σ H hn hI hp)
theorem Gs.cons (a : G1 X S L st pre mid) (b : Gs X S L sts mid post) : Gs X S L (st :: sts) pre post := by
  intro A R n ys s₀ s c fs K J gd lv ip σ H g hip hn hI hp k
  refine seg_execs_cons (a A R n ys s₀ s c fs _ J gd lv ip σ H g hip hn hI hp fun n' ys' s₀' s' σ' H' hn' hI' hp' => ?_)
  exact b A R n' ys' s₀' s' c fs K J gd lv ip σ' H' g hip hn' hI' hp' k
/-- a statement that hands out nothing -/
theorem G1.plain {t : TS} (hx : ∀ e s, ¬ X.xe e s) (h : PS X st t) (ht : ∀ ys σ H, pre ys σ H → t { nx := post ys, rt := fun _ _ => False } σ H) : G1 X S L st pre post := by
  intro A R n ys s₀ s c fs K J gd lv ip σ H g hip hn hI hp k
  obtain ⟨acc, cc, oL, r, e0, hc, I⟩ := hI
  refine seg_wrap ?_
  rw [g.over]
  refine wpAny_mono (h.run _ s σ H _ I (ht ys σ H hp)) (fun f s' q => ?_) fun e s' q => (hx e s' q).elim
  cases f with
  | next =>
    obtain ⟨σ', H', I', q'⟩ := q
    exact k n ys s₀ s' σ' H' hn ⟨acc, cc, oL, r, e0, hc, I'⟩ q'
  | brk => obtain ⟨_, _, _, q'⟩ := q; exact q'.elim
  | cont => obtain ⟨_, _, _, q'⟩ := q; exact q'.elim
  | ret u => obtain ⟨_, _, _, _, _, q'⟩ := q; exact q'.elim
/-- yield e -/
theorem G1.yields {e : Expr} {te : TE} {yp pos : Pos} (F : Far X S L) (hx : ∀ e s, ¬ X.xe e s) (he : PE X e te) (ht : ∀ ys σ H, pre ys σ H → ys.length < sizeLine ∧ te σ H fun x H1 => post (ys ++ [x]) σ H1)
    (hco : X.env.scope.isCoroutine = false := by rfl) (hi : interactive X.env = false := by rfl) : G1 X S L (.Expr (.Yield (some e) yp) pos) pre post := by
  intro A R n ys s₀ s c fs K J gd lv ip σ H g hip hn hI hp k
  obtain ⟨hlt, hq⟩ := ht ys σ H hp
  obtain ⟨m, rfl⟩ : ∃ m, n = m + 1 := ⟨n - 1, by omega⟩
  obtain ⟨acc, cc, oL, r, e0, hc, I⟩ := hI
  refine seg_Expr_Yield g.split g.gd g.guard ?_ hco hi
  rw [g.over]
  refine wpAny_mono (he.run _ s σ H _ I hq) (fun v s' q => ?_) fun e s' q => (hx e s' q).elim
  obtain ⟨x, H1, I1, rv, q'⟩ := q
  have G : Gr X S L ip ys σ H1 s₀ s' := ⟨acc, cc, oL, r, e0, hc, I1⟩
  intro kap hk
  refine ⟨ys, x, ip, σ, H1, hn, rv, G, fun s2 z => hk .none s2 ?_⟩
  refine k m (ys ++ [x]) s2 s2 σ H1 ?_ (G.wakes F hip rv z) q'
  rw [List.length_append, List.length_singleton]
  omega
end
end K20
namespace K20
open PySem PySem.Spec PyProof.Rows L2 GenW
section
variable {X : Cx} {S L : Addr}
theorem Gat.loop {A : Around} {c c' : Code} {fs : List Frame} {gd : Bool → Bool} {k : Result → Sem PySem.Fin} {l kp : List Value} {p : Pos} (g : Gat X A c fs gd) (hw : c'.weight = 0) (hu : c'.cUnits = 0) :
    Gat X A c' (.ret k none (gd false) l c p kp :: fs) id := by
  refine ⟨(over_loop hw hu).trans g.over, ?_, ?_, rfl⟩
  · show (splitAtGen fs).map _ = none
    rw [g.split]
    rfl
  · show (gd false || fs.any Frame.guarded) = false
    rw [g.gd, g.guard]
    rfl
/-- for x in a list, within the generator: W by the turn -/
theorem G1.loops {i : Nat} {x : Str} {px pos : Pos} {iter : Expr} {tl : TE} {body : List Stmt} {pre post : List V → L2.St → Hp → Prop} (W : Addr → List V → Nat → List V → L2.St → Hp → Prop)
    (F : Far X S L) (hx : ∀ e s, ¬ X.xe e s) (hc : X.calm = true) (hN : X.N.Nodup) (hi : X.N[i]? = some x) (hloc : Loc X.env.scope x) (hfn : X.fn x = true ∨ X.env.scope.names.lookup x = some .local) (hl : PE X iter tl)
    (ht : ∀ ys σ H, pre ys σ H → tl σ H fun v H1 => ∃ a, v = .ref a ∧ (∃ xs, SqL X.K H1 a xs) ∧ ∃ a' xs, Itl X.K a = Itl X.K a' ∧ SqL X.K H1 a' xs ∧ W a' xs 0 ys σ H1)
    (stays : ∀ a xs j ys σ H, W a xs j ys σ H → SqL X.K H a xs)
    (hb : ∀ a xs j v, xs[j]? = some v → Gs X S L body (fun ys σ H => ∃ σ0, W a xs j ys σ0 H ∧ σ = σ0.set i (some v)) (W a xs (j + 1)))
    (done : ∀ a xs ys σ H, W a xs xs.length ys σ H → post ys σ H)
    (hs : ∀ x, foldedSetIterable iter X.env x = pure x := by intro _; rfl) : G1 X S L (.For (.Name x px) iter body [] pos) pre post := by
  intro A R n ys s₀ s c fs K J gd lv ip σ H g hip hn hI hp k
  obtain ⟨acc, cc, oL, r, e0, hcell, I⟩ := hI
  refine segFor hs ?_
  rw [g.over]
  refine wpAny_mono ((pi_list (tg := .Name x px) hl).run _ s σ H (fun J H1 => ∃ a' xs, J = Itl X.K a' ∧ SqL X.K H1 a' xs ∧ W a' xs 0 ys σ H1) I (ht ys σ H hp)) (fun v s1 h1 => ?_) fun e s' q => (hx e s' q).elim
  refine wpAny_mono h1 (fun itv s2 h2 => ?_) fun e s' q => (hx e s' q).elim
  obtain ⟨it, fp, tn, J', H2, eit, I2, T, st2, f2, a, xs, eJ, hsq, w0⟩ := h2
  subst eit
  subst eJ
  intro p
  have gl := g.loop (c' := .forLoop (.Name x px) (.ref it) body [] X.env) (k := fun r => ((match r with | .ok f => (.pure f : Sem Flow) | .error e => .raise e).onRaise (cameBack X.env)).wrap K J gd lv) (l := lv []) (kp := []) (p := p) rfl rfl
  -- what stays true of the iterator's objects
  have fix : ∀ b ∈ fp, b ≠ X.env.locals ∧ b ∉ X.fs ∧ (b ∈ X.ex ∨ X.s_0.heap.objs.size ≤ b) ∧ (∀ y c', X.env.cells.lookup y = some c' → c' ≠ b) ∧ b ≠ S ∧ b ≠ L ∧ (∀ q ∈ X.pn ++ ip, q.1 ≠ b) := fun b hb => by
    obtain ⟨_, f1, f3, f4, f5, f6⟩ := f2 b hb
    refine ⟨f1, f3, f4, f5, fun e => ?_, fun e => ?_, fun q hq => ?_⟩
    · exact f6 (S, lstObj acc cc) (List.mem_append_right _ List.mem_cons_self) e.symm
    · exact f6 (L, oL) (List.mem_append_right _ (List.mem_cons_of_mem _ List.mem_cons_self)) e.symm
    · rcases List.mem_append.mp hq with hq | hq
      · exact f6 q (List.mem_append_left _ hq)
      · exact f6 q (List.mem_append_right _ (List.mem_cons_of_mem _ (List.mem_cons_of_mem _ hq)))
  have fpok : ∀ {q1 q2 : Obj} {H' : Hp}, (∀ b ∈ fp, H' b = none) → ∀ b ∈ fp, FpOk X ((S, q1) :: (L, q2) :: ip) H' b := fun {q1 q2 H'} hn0 b hb => by
    obtain ⟨f1, f3, f4, f5, f6, f7, f8⟩ := fix b hb
    refine ⟨hn0 b hb, f1, f3, f4, f5, fun q hq => ?_⟩
    rcases List.mem_append.mp hq with hq | hq
    · exact f8 q (List.mem_append_left _ hq)
    · rcases List.mem_cons.mp hq with rfl | hq
      · exact f6.symm
      · rcases List.mem_cons.mp hq with rfl | hq
        · exact f7.symm
        · exact f8 q (List.mem_append_right _ hq)
  have loop : ∀ (m j n : Nat) (ys : List V) (s₀ s3 : Shared) (σ3 : L2.St) (H3 : Hp), m + j = xs.length → n + ys.length = sizeLine → Gr X S L ip ys σ3 H3 s₀ s3 → tn j s3.heap → (∀ b ∈ fp, H3 b = none) → W a xs j ys σ3 H3 →
      Seg (model X.prog X.w) A R (Yp X S L) n s₀ (.forLoop (.Name x px) (.ref it) body [] X.env) ((model X.prog X.w).den (.forLoop (.Name x px) (.ref it) body [] X.env))
        (.ret (fun r => ((match r with | .ok f => (.pure f : Sem Flow) | .error e => .raise e).onRaise (cameBack X.env)).wrap K J gd lv) none (gd false) (lv []) c p [] :: fs) s3 := by
    intro m
    induction m with
    | zero =>
      intro j n ys s₀ s3 σ3 H3 hj hn' hI st3 fr w3
      have ej : j = xs.length := by omega
      obtain ⟨acc, cc, oL, r, e0, hcell, I3⟩ := hI
      refine segTurn ?_
      rw [gl.over]
      refine wpAny_mono (T.done X rfl rfl rfl hc j _ s3 σ3 H3 (fun _ _ => False) I3 (fpok fr) st3 ⟨xs, stays a xs j ys σ3 H3 w3, Nat.le_of_eq ej.symm⟩) (fun r1 s4 q => ?_) fun _ _ q => q
      obtain ⟨rfl, I4⟩ := q
      subst ej
      exact seg_leaf (.ok .next) (k n ys s₀ s4 σ3 H3 hn' ⟨acc, cc, oL, r, e0, hcell, I4⟩ (done a xs ys σ3 H3 w3))
    | succ m ih =>
      intro j n ys s₀ s3 σ3 H3 hj hn' hI st3 fr w3
      have hlt : j < xs.length := by omega
      obtain ⟨acc, cc, oL, r, e0, hcell, I3⟩ := hI
      refine segTurn ?_
      rw [gl.over]
      refine wpAny_mono (T.item X rfl rfl rfl hc j _ s3 σ3 H3 (fun _ _ => False) I3 (fpok fr) st3 ⟨xs, xs[j], stays a xs j ys σ3 H3 w3, List.getElem?_eq_getElem hlt⟩) (fun r1 s4 q => ?_) fun _ _ q => q
      obtain ⟨u, rfl, q⟩ := q
      refine wpAny_mono q (fun _ s5 q5 => ?_) fun _ _ q => q
      obtain ⟨v, H5, I5, rv, ⟨eH, hv⟩, st5, fr5⟩ := q5
      subst eH
      have hxv : xs[j]? = some v := hv xs (stays a xs j ys σ3 H5 w3)
      have I5' := I5.pinned (fpok fr5) (T.obj _ _ st5)
      refine wpAny_mono ((pg_name (pos := px) hN hi hloc hfn).run _ s5 σ3 H5 v u (fun σ' H' => σ' = σ3.set i (some v) ∧ H' = H5) I5' rv ⟨rfl, rfl⟩) (fun _ s6 q6 => ?_) fun e s' q => (hx e s' q).elim
      obtain ⟨σ6, H6, I6, eσ, eH6⟩ := q6
      subst eσ
      subst eH6
      have hip' : IpOk S L (ip ++ pinsAt fp s5.heap) := fun q hq => by
        rcases List.mem_append.mp hq with hq | hq
        · exact hip q hq
        · obtain ⟨hb, _⟩ := of_pinsAt hq
          obtain ⟨_, _, _, _, f6, f7, _⟩ := fix q.1 hb
          exact ⟨f6, f7⟩
      refine hb a xs j v hxv A R n ys s₀ s6 _ _ _ _ id id (ip ++ pinsAt fp s5.heap) _ H6 gl hip' hn' ⟨acc, cc, oL, r, e0, hcell, I6⟩ ⟨σ3, w3, rfl⟩ fun n' ys' s₀' s7 σ7 H7 hn7 hI7 hw7 => ?_
      obtain ⟨acc7, cc7, oL7, r7, e7, hc7, I7⟩ := hI7
      have pin7 : ∀ b ∈ fp, ∀ o, s5.heap.get? b = some o → s7.heap.get? b = some o ∧ H7 b = none := fun b hb o e => by
        obtain ⟨z1, z2, _⟩ := I7.pin (b, o) (List.mem_append_right _ (List.mem_cons_of_mem _ (List.mem_cons_of_mem _ (List.mem_append_right _ (mem_pinsAt hb e)))))
        exact ⟨z1, z2⟩
      refine seg_again rfl (ih (j + 1) n' ys' s₀' s7 σ7 H7 (by omega) hn7 ⟨acc7, cc7, oL7, r7, e7, hc7, ?_⟩ (T.keep _ _ _ st5 fun b hb o e => (pin7 b hb o e).1) (fun b hb => ?_) hw7)
      · exact Inv.unpinned (pins := (S, lstObj acc7 cc7) :: (L, oL7) :: ip) (pl := pinsAt fp s5.heap) I7
      · obtain ⟨o, e, _⟩ := T.obj _ _ st5 b hb
        exact (pin7 b hb o e).2
  exact loop xs.length 0 n ys s₀ s2 σ H2 (Nat.add_zero _) hn ⟨acc, cc, oL, r, e0, hcell, I2⟩ st2 (fun b hb => (f2 b hb).1) w0
end
end K20

set_option Elab.async false
set_option linter.all false
set_option maxRecDepth 100000
set_option maxHeartbeats 1000000
/-! K20G3: a generator def's promise, by its body; a list comprehension that takes all its items. -/
namespace K20
open PySem PySem.Spec PyProof.Rows L2 GenW

/-- a generator def's promise: the arguments, the heap, what is wanted of the items and the heap at the end -/
abbrev SpGen := List V → Hp → (List V → Hp → Prop) → Prop
/-- the end of its run -/
def Fend (P : Program) (w : World) (outer : List Env) (H : Hp) (s : Shared) (S L : Addr) (Q : List V → Hp → Prop) : Nat → Shared → Shared → Prop := fun _ s₀ s1 =>
  ∃ H' ys acc c, s1.os = s.os ∧ AllBare s1.gens ∧ Un (frs outer) [] H H' s.heap s1.heap ∧ HOk P w H' s1.heap ∧ (H' S = none ∧ H' L = none) ∧ s1.heap.get? S = some (lstObj acc c) ∧ Vals ys acc.toList ∧ ys.length ≤ sizeLine ∧
    (∀ o, s₀.heap.get? L = some o → s1.heap.get? L = some o) ∧ Q ys H'
abbrev Rend (P : Program) (w : World) (outer : List Env) (H : Hp) (s : Shared) (S L : Addr) (Q : List V → Hp → Prop) : GenEnd := fun n s₀ r s1 =>
  ((r = .ok (.ret .none) ∨ r = .ok .next) ∧ Fend P w outer H s S L Q n s₀ s1) ∨ ∃ e, r = .error e ∧ (fun (_ : Value) (_ : Shared) => False) e s1
/-- an item of its run -/
def Yout (s : Shared) (S L a : Addr) (g : Nat) : Protocol := fun n s₀ v s1 kap =>
  s1.os = s.os ∧ AllBare s1.gens ∧ s1.heap.NoLimit ∧ s1.heap.IsGen a g ∧ (∃ (acc : Array Value) (c : Nat), s1.heap.get? S = some (lstObj acc c) ∧ n + 1 + acc.size = sizeLine) ∧
    (∀ o, s₀.heap.get? L = some o → s1.heap.get? L = some o) ∧ ∀ s', Nap S L v s1 s' → kap (.send .none) s'
/-- a generator that has not begun -/
def GMk (P : Program) (w : World) (k : Nat) (outer : List Env) (H : Hp) (s : Shared) (Q : List V → Hp → Prop) (u : Value) (s' : Shared) : Prop :=
  ∃ (a : Addr) (g : Nat) (c : Code), u = .ref a ∧ s.heap.objs.size ≤ a ∧ a < s'.heap.objs.size ∧ s'.heap.IsGen a g ∧ s'.gens[g]? = some (.fresh c) ∧ s'.os = s.os ∧ AllBare s'.gens ∧ s'.heap.NoLimit ∧ (∀ b o, s.heap.get? b = some o → s'.heap.get? b = some o) ∧
    ∀ (A : Around) (S L : Addr) (s2 : Shared), Room k A → A.frames = some outer → s'.heap.objs.size ≤ S → s'.heap.objs.size ≤ L → S ≠ L → (∀ b o, s'.heap.get? b = some o → s2.heap.get? b = some o) → (∃ c, s2.heap.get? S = some (lstObj #[] c)) →
      (∃ o, s2.heap.get? L = some o ∧ ∀ x, o.data ≠ .cell x) → s2.os = s.os → AllBare s2.gens →
      Seg (model P w) A (Rend P w outer H s S L Q) (Yout s S L a g) sizeLine s2 c ((model P w).den c) [] s2
structure GenFn (P : Program) (w : World) (K : PySem.W.Frag) (mg : Str → Option Value) (base : Heap) (k : Nat) (f : Addr) (fd : FuncData) (ps : List Str) (sp : SpGen) : Prop where
  len : ∀ vs H Q, sp vs H Q → vs.length = ps.length
  run : ∀ (A : Around) (outer : List Env) (s : Shared) (H : Hp) (args : Args) (us : List Value) (vs : List V) (Q : List V → Hp → Prop), Room k A → Env0 P w K mg base A outer s H → BindsTo s fd args (ps.zip us) → Vals vs us → sp vs H Q →
    codeAny (model P w) A (.call (.ref f) args) (fun r s' => match r with | .ok (.ret u) => GMk P w k outer H s Q u s' | _ => False) s
section
variable {P : Program} {w : World} {K : PySem.W.Frag} {mg : Str → Option Value} {base : Heap}
/-- by its body -/
theorem gen_of {x qual : Str} {st : Stmt} {f : Addr} {fd : FuncData} {N ps : List Str} {k : Nat} {sp : SpGen} (F : Fun K x qual st f fd) (G : GScope N ps (defScope st)) (len : ∀ vs H Q, sp vs H Q → vs.length = ps.length)
    (body : ∀ (cd : Value) (A : Around) (outer : List Env) (s : Shared) (H : Hp) (vs : List V) (Q : List V → Hp → Prop) (pn : List (Addr × Obj)) (S L : Addr), Room k (A.deeper (envOfC qual (defScope st) s.heap.objs.size f cd)) → sp vs H Q →
      Far (gcxOf P w K mg base N qual (defScope st) f cd A outer s H E0 pn).nox S L →
      Gs (gcxOf P w K mg base N qual (defScope st) f cd A outer s H E0 pn).nox S L (defBody st) (fun ys σ H' => ys = [] ∧ σ = start N vs ∧ H' = H) (fun ys _ H' => Q ys H')) : GenFn P w K mg base (k + 1) f fd ps sp := by
  obtain ⟨oc, od, kV, doc, pm, an, cd, ct, osl, rfl, lk, hcd⟩ := F.ex
  refine ⟨len, fun A outer s H args us vs Q hr e0 hb r hsp => ?_⟩
  have hl : vs.length = ps.length := len _ _ _ hsp
  have KX : K.In s.heap := e0.mod.kin.keeps fun b o e => (e0.bs b o e).1
  have kinds : ∀ y ∈ ps.zip us, (defScope st).names.lookup y.1 = some .local ∨ ((defScope st).names.lookup y.1 = some .cell ∧ ((cellsFrom (s.heap.objs.size + 1) (defScope st).names []).lookup y.1).isSome = true) := by
    intro y hy
    have hm : y.1 ∈ ps := (List.of_mem_zip (show (y.1, y.2) ∈ ps.zip us from hy)).1
    rcases G.par y.1 hm with c | c
    · exact .inl c
    · exact .inr ⟨c, PySem.W.cellsFrom_some _ _ _ (.inl c)⟩
  refine codeAny_call_generator hr.depth (KX _ _ lk) rfl G.co G.gen rfl (PySem.W.codeRec_of KX hcd)
    (hb _ _ _ _ (wpAny_newFunctionEnv_cells G.kind kinds fun env he s1 x => ?_))
  subst he
  have lim1 : s1.heap.NoLimit := (e0.mod.nolimit.keeps fun b o e => (e0.bs b o e).1).keeps x.toInCall.keep
  refine ⟨lim1, ?_⟩
  have made : s1.os = s.os ∧ s1.gens = s.gens := by
    obtain ⟨h1, tk, es, _⟩ := x.done
    rw [es]
    exact ⟨rfl, rfl⟩
  have kp : ∀ b o, s.heap.get? b = some o → s1.heap.get? b = some o := x.toInCall.keep
  have lt1 : s.heap.objs.size < s1.heap.objs.size := x.toInCall.ns.lt
  have le1 := Nat.le_of_lt lt1
  have main : ∀ (go : Obj) (nm qn : Value) (tk : Nat), go.cls = .type "generator" → go.data = .fields #[.int s1.gens.size 0, nm, qn] → go.slots = #[] → (∀ h : Heap, (h.push go).get? h.objs.size = some go) →
      GMk P w (k + 1) outer H s Q (.ref s1.heap.objs.size) { s1 with gens := s1.gens.push (.fresh (.func (defBody st) (envOfC qual (defScope st) s.heap.objs.size f cd))), toks := tk, heap := s1.heap.push go } := by
    intro go nm qn tk hgc hgd hgs hgp
    have isg : ∀ h : Heap, h.get? s1.heap.objs.size = some go → h.IsGen s1.heap.objs.size s1.gens.size := fun h e => ⟨go, nm, qn, e, hgc, hgd, hgs⟩
    have hgo := hgp s1.heap
    refine ⟨s1.heap.objs.size, s1.gens.size, _, rfl, le1, ?_, isg _ hgo, Array.getElem?_push_size .., made.1, AllBare.push (by rw [made.2]; exact e0.bare) rfl, lim1.keeps fun b o e => Heap.get?_push_of_some _ e, fun b o e => Heap.get?_push_of_some _ (kp b o e), ?_⟩
    · show _ < (s1.heap.push _).objs.size
      rw [Heap.size_push]
      exact Nat.lt_succ_self _
    intro Aw S L s2 hrw hfr hS hL hSL hk2 hS0 hL0 hos hba
    have hS' : s1.heap.objs.size + 1 ≤ S := by
      have q : (s1.heap.push go).objs.size ≤ S := hS
      rw [Heap.size_push] at q
      exact q
    have hL' : s1.heap.objs.size + 1 ≤ L := by
      have q : (s1.heap.push go).objs.size ≤ L := hL
      rw [Heap.size_push] at q
      exact q
    obtain ⟨cS, eS⟩ := hS0
    obtain ⟨oL, eL, hcell⟩ := hL0
    have e0w : Env0 P w K mg base Aw outer s H := ⟨hfr, e0.mod, e0.bs, e0.bsz, e0.funs, e0.frf, e0.hok, e0.bare⟩
    have I1 : Inv (gcxOf P w K mg base N qual (defScope st) f cd Aw outer s H E0 []) [] (start N vs) H s1 := inv_startG G hrw.hd e0w hl r x
    have kp2 : ∀ b o, s1.heap.get? b = some o → s2.heap.get? b = some o := fun b o e => hk2 b o (Heap.get?_push_of_some _ e)
    have I2 : Inv (gcxOf P w K mg base N qual (defScope st) f cd Aw outer s H E0 []) [] (start N vs) H s2 :=
      I1.call' (ch := []) (hos.trans made.1.symm) (Un.kept kp2) (I1.hok.kept kp2) hba fun b z => absurd z List.not_mem_nil
    -- what is younger than the frame lies apart from it
    have young : ∀ b, s1.heap.objs.size ≤ b → H b = none ∧ b ≠ s.heap.objs.size ∧ b ∉ frs outer ∧ s.heap.objs.size ≤ b ∧ ∀ y c, (cellsFrom (s.heap.objs.size + 1) (defScope st).names []).lookup y = some c → c ≠ b := by
      intro b hb
      refine ⟨I1.hok.fresh hb, Nat.ne_of_gt (Nat.lt_of_lt_of_le lt1 hb), I1.nofs hb, Nat.le_trans le1 hb, fun y c e z => ?_⟩
      obtain ⟨v, ob, ho, _⟩ := I1.cell y c e
      have q := Heap.lt_size ho
      rw [z] at q
      exact absurd (Nat.lt_of_lt_of_le q hb) (Nat.lt_irrefl _)
    have ego : s2.heap.get? s1.heap.objs.size = some go := hk2 _ _ hgo
    have ngo : ∀ v, go.data ≠ .cell v := fun v q => by rw [hgd] at q; cases q
    have Y0 := young s1.heap.objs.size (Nat.le_refl _)
    have YS := young S (by omega)
    have YL := young L (by omega)
    generalize hpn : [(s1.heap.objs.size, go)] = pn
    have memPn : ∀ p ∈ pn, p = (s1.heap.objs.size, go) := fun p hp => by rw [← hpn] at hp; exact List.mem_singleton.mp hp
    have inPn : (s1.heap.objs.size, go) ∈ pn := by rw [← hpn]; exact List.mem_singleton.mpr rfl
    have J0 : Inv (gcxOf P w K mg base N qual (defScope st) f cd Aw outer s H E0 pn) ((S, lstObj #[] cS) :: (L, oL) :: []) (start N vs) H s2 := Inv.pinnedG I2 fun p hp => by
      rcases List.mem_append.mp hp with z | z
      · rw [memPn p z]
        exact ⟨ego, Y0.1, Y0.2.1, Y0.2.2.1, ngo⟩
      · rcases List.mem_cons.mp z with rfl | z
        · exact ⟨eS, YS.1, YS.2.1, YS.2.2.1, fun v q => by cases q⟩
        · rw [List.mem_singleton.mp z]
          exact ⟨eL, YL.1, YL.2.1, YL.2.2.1, hcell⟩
    generalize hX : (gcxOf P w K mg base N qual (defScope st) f cd Aw outer s H E0 pn).nox = X at *
    have hfar : Far X S L := by
      rw [← hX]
      refine ⟨fun p hp => ?_, ⟨YS.2.2.2.1, YS.2.1, YS.2.2.2.2⟩, ⟨YL.2.2.2.1, YL.2.1, YL.2.2.2.2⟩, hSL⟩
      rw [memPn p hp]
      exact ⟨by show s1.heap.objs.size ≠ S; omega, by show s1.heap.objs.size ≠ L; omega⟩
    have hG : Gr X S L [] [] (start N vs) H s2 s2 := by
      refine ⟨#[], cS, oL, .nil, eL, hcell, ?_⟩
      rw [← hX]
      exact J0.wish _
    have hgs := body cd Aw outer s H vs Q pn S L (hrw.deeper _) hsp
    rw [hX] at hgs
    have hgs := hgs hfar
    have xp : X.prog = P := by rw [← hX]; rfl
    have xw : X.w = w := by rw [← hX]; rfl
    have xo : X.s_0 = s := by rw [← hX]; rfl
    have xh : X.H_0 = H := by rw [← hX]; rfl
    have xf : X.fs = frs outer := by rw [← hX]; rfl
    have xe : X.ex = [] := by rw [← hX]; rfl
    have xpn : X.pn = pn := by rw [← hX]; rfl
    have xenv : X.env = envOfC qual (defScope st) s.heap.objs.size f cd := by rw [← hX]; rfl
    have xA : X.A = Aw.deeper (envOfC qual (defScope st) s.heap.objs.size f cd) := by rw [← hX]; rfl
    -- what its invariant says to the one who waits
    have tell : ∀ {ip : List (Addr × Obj)} {ys : List V} {σ : L2.St} {H' : Hp} {s₀ s3 : Shared}, Gr X S L ip ys σ H' s₀ s3 → s3.os = s.os ∧ AllBare s3.gens ∧ s3.heap.NoLimit ∧ s3.heap.IsGen s1.heap.objs.size s1.gens.size ∧ Un (frs outer) [] H H' s.heap s3.heap ∧ HOk P w H' s3.heap := by
      intro ip ys σ H' s₀ s3 hI
      obtain ⟨acc, c, oL', _, _, _, I⟩ := hI
      have hp := (I.pin (s1.heap.objs.size, go) (List.mem_append_left _ (by rw [xpn]; exact inPn))).1
      have b := I.base
      have hk := I.hok
      rw [xf, xe, xh, xo] at b
      rw [xp, xw] at hk
      exact ⟨by have := I.os; rw [xo] at this; exact this, I.bare, I.nolimit, isg _ hp, b, hk⟩
    refine seg_func ?_
    refine seg_imp (R := fun n s₀ r s3 => r = .ok (.ret .none) ∧ ∃ ip ys σ H', n + ys.length = sizeLine ∧ Gr X S L ip ys σ H' s₀ s3 ∧ Q ys H') (Y := Yp X S L) (fun n s₀ r' s3 q => ?_) (fun n s₀ v s3 kap kap' hkk q => ?_) sizeLine ?_
    · obtain ⟨er, ip, ys, σ, H', hn, hI, hQ⟩ := q
      obtain ⟨t1, t2, t3, t4, t5, t6⟩ := tell hI
      obtain ⟨u1, ⟨acc, c, u2, u3⟩, u4⟩ := hI.ats
      exact .inl ⟨.inl er, H', ys, acc, c, t1, t2, t5, t6, u1, u2, u3, by omega, u4, hQ⟩
    · obtain ⟨ys, xx, ip, σ, H', hn, rv, hI, hk⟩ := q
      obtain ⟨t1, t2, t3, t4, t5, t6⟩ := tell hI
      obtain ⟨u1, ⟨acc, c, u2, u3⟩, u4⟩ := hI.ats
      refine ⟨t1, t2, t3, t4, ⟨acc, c, u2, ?_⟩, u4, fun s' z => hkk _ _ (hk s' z)⟩
      have e1 : ys.length = acc.size := u3.length.trans (by simp)
      show n + 1 + acc.size = sizeLine
      rw [← e1]
      exact hn
    · have goal := hgs Aw (fun n s₀ r s3 => r = .ok (.ret .none) ∧ ∃ ip ys σ H', n + ys.length = sizeLine ∧ Gr X S L ip ys σ H' s₀ s3 ∧ Q ys H') sizeLine [] s2 s2 (.func (defBody st) X.env) []
        (fun f => .pure (.done (.ret (match f with | .ret v => v | _ => .none)))) (fun e => (leaving X.env e).wrap (fun _ => .raise e) .raise id id) id id [] (start N vs) H
        ⟨by rw [over_func, xA, xenv], rfl, rfl, rfl⟩ (fun p hp => absurd hp List.not_mem_nil) (Nat.add_zero _) hG ⟨rfl, rfl, rfl⟩ (fun n' ys' s₀' s' σ' H' hn' hI' hQ' => seg_end (.ok (.ret .none)) ⟨rfl, [], ys', σ', H', hn', hI', hQ'⟩)
      rw [xp, xw, xenv] at goal
      exact goal
  exact main _ _ _ _ rfl rfl rfl fun h => Heap.get?_push_size _ rfl
end
end K20

set_option Elab.async false
set_option linter.all false
set_option maxRecDepth 100000
set_option maxHeartbeats 1000000
/-! K20G4: [x for x in g(..)], g a generator def. -/
namespace K20
open PySem PySem.Spec PyProof.Rows L2 GenW

/-- an expression whose value is a generator that has not begun -/
structure PGenE (X : Cx) (k : Nat) (e : Expr) (tg : L2.St → Hp → (List V → Hp → Prop) → Prop) : Prop where
  run : ∀ (pins : List (Addr × Obj)) (s : Shared) (σ : L2.St) (H : Hp) (cont : List V → Hp → Prop), Inv X pins σ H s → tg σ H cont → wpAny (model X.prog X.w) X.A (eval e X.env)
    (fun u s' => ∃ H1 sc, Inv X pins σ H1 sc ∧ GMk X.prog X.w k X.stack H1 sc cont u s') X.xe s
section
variable {X : Cx} {k : Nat} {f : Addr} {fd : FuncData} {ps : List Str} {sp : SpGen}
theorem pgenE_call {x : Str} {p pos : Pos} {e : Expr} {es : List Expr} {t : TA} (F : GenFn X.prog X.w X.K X.mg X.base k f fd ps sp) (hr : Room k X.A) (hg : Gl X x) (hm : X.mg x = some (.ref f)) (hk : PySem.W.keepIn X.K (.ref f) = true) (hb : Binds X.K fd ps [])
    (ha : PA X (e :: es) t) (hdb : (x == ("__debug__" : Str)) = false := by decide) (he : starEach (e :: es) X.env = (false, eval e X.env) :: starEach es X.env := by rfl) (hpl : (backTo pos (starEach es X.env)).any (·.1) = false := by rfl) :
    PGenE X k (.Call (.Name x p) (e :: es) [] pos) (fun σ H cont => t σ H fun vs H1 => sp vs H1 cont) := by
  refine ⟨fun pins s σ H cont I h => wpAny_Call_Name_kw (ld_glob I hg hm ?_ hdb)⟩
  refine PySem.W.callWith_K (h₀ := X.base) I.ok.mod.kin hk (thn (ha.run pos pins s σ H _ I h) fun us s1 ⟨vs, H1, I1, r, q⟩ => ⟨I1.kIn, ?_⟩) he hpl
  have hl : us.length = ps.length := r.length.symm.trans (F.len _ _ _ q)
  have bd := hb s1 us I1.kIn (by rw [List.append_nil]; exact hl)
  rw [List.append_nil] at bd
  refine wpAny_call (codeAny_mono (F.run X.A X.stack s1 H1 ⟨us, []⟩ us vs cont hr I1.env0 bd r q) fun rr s' hq => ?_)
  match rr, hq with
  | .error _, hq => exact hq.elim
  | .ok (.ret u), hq => exact ⟨H1, s1, I1, hq⟩
  | .ok .next, hq => exact hq.elim
  | .ok .brk, hq => exact hq.elim
  | .ok .cont, hq => exact hq.elim

def tLcG (tg : L2.St → Hp → (List V → Hp → Prop) → Prop) : TE := fun σ H Q => tg σ H fun ys H2 => ∀ D, H2 D = none → Q (.ref D) (upd H2 D (.lst ys))
theorem pe_lcG {x : Str} {p1 p2 pos : Pos} {iter : Expr} {scope : Scope} {tg : L2.St → Hp → (List V → Hp → Prop) → Prop} {own : List (Str × Nat)} (hr : Room (k + 1) X.A) (hi : PGenE X k iter tg) (ok : BlkOk X.N X.env.scope scope own)
    (hx : scope.names.lookup x = some .local) (hs : ∀ v, foldedSetIterable iter X.env v = pure v := by intro _; rfl) (hdb : (x == ("__debug__" : Str)) = false := by decide) :
    PE X (.ListComp (.Name x p1) [⟨.Name x p2, iter, [], 0⟩] scope pos) (tLcG tg) := by
  refine ⟨fun pins s σ H Q I h => ?_⟩
  rw [eval_ListComp]
  have hfree : ∀ y ∈ scope.names, y.2 = .free → ∃ c, X.env.cells.lookup y.1 = some c := fun y hy e => by
    rcases ok.free y hy e with z | z
    · exact I.ok.has _ (.inl z)
    · exact I.ok.has _ (.inr z)
  refine wpAny_comprehension_free (use := none) rfl hs (closure_ok hfree) ok.kind (fun y hy e => by rw [ok.uniq y hy, e]) (thn (hi.run pins s σ H _ I h) fun u s1 ⟨H1, sc, I1, hG⟩ => ?_)
  obtain ⟨a, g, c0, rfl, ha1, ha2, hgen, hgs, hos, hbare, hlim, hkp, wake⟩ := hG
  refine wpAny_pyIter_gen hgen ?_
  refine wpAny_newObj_type (newEnv_comp ?_) (by show 0 ≤ sizeLine; decide)
  generalize hs3 : ({ s1 with heap := s1.heap.push { cls := .type "list", data := .seq ([] : List Value).toArray } } : Shared) = s3
  show codeAny (model X.prog X.w) X.A (.compStart (.ListComp (.Name x p1) [⟨.Name x p2, iter, [], 0⟩] scope pos) 0 (.ref a) (.ref s1.heap.objs.size) (compEnvC scope (cellsFrom (s3.heap.objs.size + 1) scope.names (cloFrom X.env.cells scope.names [])) s3.heap.objs.size X.env))
    (compPost (model X.prog X.w) X.A X.xe none (EP X pins σ Q) (.ref s1.heap.objs.size) s3.heap.objs.size) { s3 with heap := pushCells (s3.heap.push { cls := .type "dict", data := .dict #[] }) scope.names }
  generalize hS : s1.heap.objs.size = S
  have h3 : s3.heap = s1.heap.push { cls := .type "list", data := .seq ([] : List Value).toArray } := by rw [← hs3]
  have g3 : s3.gens = s1.gens := by rw [← hs3]
  have o3 : s3.os = s1.os := by rw [← hs3]
  have k3 : ∀ b o, s1.heap.get? b = some o → s3.heap.get? b = some o := fun b o e => by rw [h3]; exact Heap.get?_push_of_some _ e
  have eS3 : s3.heap.get? S = some (lstObj #[] 0) := by
    rw [h3, ← hS]
    exact Heap.get?_push_size _ rfl
  generalize hL : s3.heap.objs.size = L
  have eL : L = S + 1 := by rw [← hL, h3, Heap.size_push, hS]
  generalize hs4 : ({ s3 with heap := pushCells (s3.heap.push { cls := .type "dict", data := .dict #[] }) scope.names } : Shared) = s4
  have h4 : s4.heap = pushCells (s3.heap.push { cls := .type "dict", data := .dict #[] }) scope.names := by rw [← hs4]
  have g4 : s4.gens = s1.gens := by rw [← hs4]; exact g3
  have o4 : s4.os = s1.os := by rw [← hs4]; exact o3
  have k4 : ∀ b o, s3.heap.get? b = some o → s4.heap.get? b = some o := fun b o e => by rw [h4]; exact pushCells_keeps _ _ _ _ (Heap.get?_push_of_some _ e)
  have nsL : s4.heap.Ns L (fun _ => none) := by
    rw [h4, ← hL]
    exact Heap.Ns.keeps (Heap.Ns.new ..) fun b o e => pushCells_keeps _ _ _ _ e
  generalize hce : compEnvC scope (cellsFrom (L + 1) scope.names (cloFrom X.env.cells scope.names [])) L X.env = ce
  have cL : ce.locals = L := by rw [← hce]; rfl
  have cS : ce.scope = relS scope X.env.scope := by rw [← hce]; rfl
  have ck : ce.scope.kind = .function := by rw [cS]; exact ok.kind
  have cx : ce.kindOf x = some .local := by
    show ce.scope.names.lookup x = some .local
    rw [cS]
    exact lookup_relS_keep (by decide) hx
  have ccls : (ce.scope.kind == .class || (ce.scope.kind == .module && ce.locals != ce.globals)) = false := by rw [ck]; rfl
  have hlimC : cStatics < s1.heap.objs.size := let ⟨_, hn, _⟩ := hlim; hn.lt
  have ltSL : S < L := by rw [eL]; exact Nat.lt_succ_self S
  have apart : ∀ b, b < s1.heap.objs.size → b ≠ S ∧ b ≠ L := fun b hb => by
    rw [hS] at hb
    exact ⟨Nat.ne_of_lt hb, Nat.ne_of_lt (Nat.lt_trans hb ltSL)⟩
  have ltL : ∀ b o, s1.heap.get? b = some o → b ≠ S ∧ b ≠ L := fun b o e => apart b (Heap.lt_size e)
  have naS : a ≠ S ∧ a ≠ L := apart a ha2
  have ncS : cStatics ≠ S ∧ cStatics ≠ L := apart _ hlimC
  have hSz : sc.heap.objs.size ≤ S := by
    rw [← hS]
    exact Nat.le_trans ha1 (Nat.le_of_lt ha2)
  have hLz : sc.heap.objs.size ≤ L := Nat.le_trans hSz (Nat.le_of_lt ltSL)
  -- the items, one by one
  have loop : codeAny (model X.prog X.w) X.A (.compLoop (.ListComp (.Name x p1) [⟨.Name x p2, iter, [], 0⟩] scope pos) 0 (.ref a) (.ref S) ce) (compPost (model X.prog X.w) X.A X.xe none (EP X pins σ Q) (.ref S) L) s4 := by
    refine compLoop_any (fun n s' => s'.heap.IsGen a g ∧ s'.heap.NoLimit ∧ (∃ m, s'.heap.Ns L m) ∧ ∃ gs, s'.gens[g]? = some gs ∧
      gs.Goes (model X.prog X.w) X.A.in1 (Rend X.prog X.w X.stack H1 sc S L (fun ys H2 => ∀ D, H2 D = none → Q (.ref D) (upd H2 D (.lst ys)))) (Yout sc S L a g) n (.send .none) (s'.setGen g .running)) ?_ sizeLine ?_
    · rintro n s5 ⟨q1, q2, ⟨m5, q3⟩, gs, q4, q5⟩
      have hgl : g < s5.gens.size := (Array.getElem?_eq_some_iff.mp q4).1
      refine wpAny_gsz (n := g + 1) hgl (next_genG (A := X.A) hr.hd q2 hr.depth q1 q4 q5 (fun v s6 gs' hbr hv => ?_) (fun s6 hp h' hk => ?_) fun e s6 he => he.elim)
      · -- an item: it is stored under the comprehension's name, read back, and put behind the list
        obtain ⟨os6, b6, l6, g6, ⟨acc, c6, e6, n6⟩, f6, kap⟩ := hv
        intro hsz
        have nsL6 : (s6.setGen g gs').heap.Ns ce.locals m5 := by
          rw [cL]
          exact q3.at fun o e => f6 o e
        refine wpAny_pure ?_
        refine wpAny_assign_Name (wpAny_storeName_local cx nsL6 (fun h7 hn7 sb7 => ?_) ccls)
        refine wpAny_tests_nil ?_
        refine iteT ?_
        refine wpAny_Name (wpAny_loadName_local ck cx hn7 (m := fun y => if y = x then some v else m5 y) (if_pos rfl) ?_) hdb
        rw [cL] at sb7 hn7
        have e7 : h7.get? S = some (lstObj acc c6) := (sb7.2 S (Nat.ne_of_lt ltSL)).trans e6
        have z6 : acc.size ≤ sizeLine := by omega
        refine append_at (hsz := z6) e7 fun h8 sb8 e8 => ?_
        have keep8 : ∀ b o, b ≠ S → b ≠ L → s6.heap.get? b = some o → h8.get? b = some o := fun b o n1 n2 e => (sb8.2 b n1).trans ((sb7.2 b n2).trans e)
        have ns8 : h8.Ns L (fun y => if y = x then some v else m5 y) := hn7.at fun o e => (sb8.2 L (Nat.ne_of_gt ltSL)).trans e
        have hgl6 : g < s6.gens.size := by
          have e := setGen_size s6 g gs'
          have hsz' : g + 1 ≤ (s6.setGen g gs').gens.size := hsz
          omega
        have nap : ∀ tk, Nap S L v s6 (({ s6.setGen g gs' with heap := h8, toks := tk } : Shared).setGen g .running) := fun tk => by
          refine ⟨rfl, allBare_setGen (s := { s6.setGen g gs' with heap := h8, toks := tk }) (allBare_setGen b6 hbr) rfl, keep8, fun acc' c' e => ?_, fun o e => ?_⟩
          · rw [e6] at e
            cases e
            exact ⟨c6 + 1, e8⟩
          · obtain ⟨o', es, ep, ho, hd, _⟩ := ns8
            exact ⟨o', ho, fun y k => by rw [hd] at k; cases k⟩
        have go := kap _ (nap (s6.toks + 1))
        obtain ⟨m, rfl⟩ : ∃ m, n = m + 1 := by
          cases n with
          | zero => exact go.elim
          | succ m => exact ⟨m, rfl⟩
        refine ⟨m, Nat.lt_succ_self m, ?_, ?_, ⟨_, ns8⟩, gs', setGen_at hgl6, go⟩
        · obtain ⟨o, nm, qn, ho, rr⟩ := g6
          exact ⟨o, nm, qn, keep8 a o naS.1 naS.2 ho, rr⟩
        · obtain ⟨mc, hns, hnn⟩ := l6
          exact ⟨mc, hns.at fun o e => keep8 _ o ncS.1 ncS.2 e, hnn⟩
      · -- no more
        obtain ⟨H2, ys, acc, c6, os6, b6, un6, hok6, ⟨hn1, hn2⟩, e6, r6, z6, f6, hQ⟩ := hp
        intro hsz
        have nsL6 : h'.Ns L m5 := q3.at fun o e => hk _ _ (f6 o e)
        refine ⟨m5, nsL6, fun h'' sb => ?_⟩
        have J : Inv X pins σ (upd H2 S (.lst ys)) { s6.setGen g .finished with heap := h' } :=
          I1.drained (s' := { s6.setGen g .finished with heap := h' }) hSz z6 (hk _ _ e6) r6 ExOk.nil os6 (allBare_setGen (s := { s6 with heap := h' }) b6 rfl) (un6.trans (Un.kept hk)) (hok6.kept hk) hn1
        obtain ⟨f0, f1, f2, f3, f4, f5⟩ := I1.fpOk (H' := upd H2 S (.lst ys)) hLz (by rw [upd_ne (Nat.ne_of_gt ltSL)]; exact hn2)
        exact ⟨.ref S, upd H2 S (.lst ys), J.turned (it := L) (t' := s6.toks) (fun b o hb e => (sb.2 b hb).trans e) f0 f1 f3 f4 f5, rfl, hQ S hn1⟩
    · refine ⟨hgen.keeps fun b o e => k4 b o (k3 b o e), hlim.keeps fun b o e => k4 b o (k3 b o e), ⟨_, nsL⟩, .fresh c0, by rw [g4]; exact hgs, rfl, ?_⟩
      refine wake X.A.in1 S L _ hr.in1 I1.ok.frames (Nat.le_of_eq hS) ?_ (Nat.ne_of_lt ltSL) (fun b o e => k4 b o (k3 b o e)) ⟨0, k4 _ _ eS3⟩ ?_ (o4.trans hos) (allBare_setGen (by rw [g4]; exact hbare) rfl)
      · rw [hS]
        exact Nat.le_of_lt ltSL
      · obtain ⟨o', es, ep, ho, hd, _⟩ := nsL
        exact ⟨o', ho, fun y k => by rw [hd] at k; cases k⟩
  exact codeAny_compStart_list loop (wpAny_pyIter_gen (g := g) (hgen.keeps fun b o e => k4 b o (k3 b o e)) loop)
end
end K20

set_option Elab.async false
set_option linter.all false
set_option maxRecDepth 100000
set_option maxHeartbeats 4000000
/-! K20P5: situations, follow. -/
namespace K20
open PySem PySem.Spec PyProof.Rows L2 GenW
abbrev sSits : Stmt := topS 9
abbrev sFollow : Stmt := topS 10
abbrev nSits : List Str := ["machine", "situation", "run", "move"]
abbrev nFollow : List Str := ["machine", "situation", "run", "one"]
theorem scSits : GScope nSits ["machine", "situation", "run"] (defScope sSits) := ⟨rfl, rfl, rfl, by decide +kernel, rfl, by decide +kernel, by decide +kernel⟩
theorem scFollow : FnScope nFollow ["machine", "situation", "run"] (defScope sFollow) := ⟨rfl, rfl, rfl, by decide +kernel, rfl, by decide +kernel, by decide +kernel⟩
/-- the situations behind the first -/
def later (ms : List Mv) (s : Sit) : List Nat → List Sit
  | [] => []
  | i :: r => sits ms (after (at_ ms i) s) r
theorem sits_later (ms : List Mv) (s : Sit) : ∀ l : List Nat, sits ms s l = s :: later ms s l
  | [] => rfl
  | _ :: _ => rfl
theorem sits_len (ms : List Mv) : ∀ (l : List Nat) (s : Sit), (sits ms s l).length = l.length + 1
  | [], _ => rfl
  | i :: r, s => by
    show (sits ms _ r).length + 1 = _
    rw [sits_len ms r]
    rfl
section
variable {P : Program} {w : World} {K : PySem.W.Frag} {mg : Str → Option Value} {base : Heap}
def spSits (K : PySem.W.Frag) : SpGen := fun vs H Q => ∃ (m v : V) (a : Addr) (M : Mach) (s : Sit) (rn : List Nat), vs = [m, v, .ref a] ∧ Dp K H m (machD M) ∧ Dp K H v (sitD s) ∧ SqL K H a (natsV rn) ∧ OkAll s.2.length M.ms ∧ rn.length ≤ 1000 ∧ IsRun M.ms s rn ∧
  ∀ H' ys, Same H H' → DpAll K H' ys ((sits M.ms s rn).map sitD) → Q ys H'
theorem ok_sits {f fA fP fC : Addr} {fd fdA fdP fdC : FuncData} (F : At K mg "situations" sSits ["machine", "situation", "run"] f fd) (FA : At K mg "after" sAfter ["machine", "situation", "move"] fA fdA)
    (FP : At K mg "is_possible" sPoss ["machine", "situation", "move"] fP fdP) (FC : At K mg "check_move" sCheck ["machine", "move"] fC fdC) (ml : mg "len" = none) (mli : mg "list" = none) :
    GenFn P w K mg base 4 f fd ["machine", "situation", "run"] (spSits K) := by
  have GA : FnOk P w K mg base CX0 3 fA fdA ["machine", "situation", "move"] (spAfter K) := ok_after FA FP FC ml mli
  refine gen_of F.F scSits (fun vs H Q h => ?_) (fun cd A outer s H vs Q pn S L hr h hfar => ?_)
  · obtain ⟨m, v, a, M, st, rn, rfl, _⟩ := h
    rfl
  · obtain ⟨m, v, a, M, st, rn, rfl, hm, hv, hs, ho, hn, hrun, q⟩ := h
    have nd := scSits.nd
    have hsl := sizeLine_eq
    -- what yield hands out: a copy of the situation in slot 1
    have copy : ∀ (v' : V) (sj : Sit) (H1 : Hp) (y3 : Option V) (R : V → Hp → Prop), Dp K H1 v' (sitD sj) → (∀ y H2, Same H1 H2 → Dp K H2 y (sitD sj) → R y H2) →
        tTup (tCons (tOp (rIxT K) (tVar 1) (tC (.int 0))) (tCons (tCB (fun xs H Q => ∃ p ys, xs = [V.ref p] ∧ (SqL K H p ys ∨ SqT K H p ys) ∧ ∀ l, H l = none → Q (.ref l) (upd H l (.lst ys))) (tCons (tOp (rIxT K) (tVar 1) (tC (.int 1))) tNil)) tNil))
          [some m, some v', some (.ref a), y3] H1 R := by
      intro v' sj H1 y3 R hvj hR
      obtain ⟨sa, sb, rfl, g1, g2⟩ := sit_at hvj
      refine ⟨_, rfl, sa, _, 0, _, rfl, rfl, g1, atI_nat (j := 0) rfl, _, rfl, sa, _, 1, _, rfl, rfl, g1, atI_nat (j := 1) rfl, sb, _, rfl, .inl g2, fun l hl => ⟨by show 2 ≤ sizeLine; omega, fun t ht => ?_⟩⟩
      have s1 : Same H1 (upd H1 l (.lst (sj.2.map V.int))) := same_new hl
      have s2 : Same (upd H1 l (.lst (sj.2.map V.int))) (upd (upd H1 l (.lst (sj.2.map V.int))) t (.tup [.int (sj.1 : Int), .ref l])) := same_new ht
      exact hR _ _ (s1.trans s2) (sit_mk (SqT.of upd_same) (SqL.of (s2 _ _ upd_same)))
    refine Gs.cons (G1.yields (post := fun ys σ H' => ∃ y, ys = [y] ∧ σ = [some m, some v, some (.ref a), none] ∧ Same H H' ∧ Dp K H' y (sitD st)) hfar (fun _ _ z => z)
        (pe_tup (pa_cons (pe_ix ix_tup (pv 1) pe_int (fun _ _ => rfl)) (pa_cons (pe_callTy call_list_of (by rfl) mli (by decide +kernel) (pa_cons (pe_ix ix_tup (pv 1) pe_int (fun _ _ => rfl)) pa_nil)) pa_nil))) ?_)
      (Gs.cons (G1.loops (i := 3) (fun a' xs j ys σ H' => a' = a ∧ xs = natsV rn ∧ ∃ (v' : V) (y3 : Option V) (sj : Sit) (ds : List Sit), σ = [some m, some v', some (.ref a), y3] ∧ Same H H' ∧ Dp K H' v' (sitD sj) ∧ sj.2.length = st.2.length ∧
          DpAll K H' ys (ds.map sitD) ∧ IsRun M.ms sj (rn.drop j) ∧ ds ++ later M.ms sj (rn.drop j) = sits M.ms st rn ∧ ds.length = j + 1) hfar (fun _ _ z => z) rfl nd rfl (.inl rfl) (.inl rfl) (pv 2) ?_ ?_ ?_ ?_) Gs.nil)
    · rintro ys σ H' ⟨rfl, rfl, rfl⟩
      exact ⟨by show 0 < sizeLine; omega, copy v st H' none _ hv fun y H2 s2 hy => ⟨y, rfl, rfl, s2, hy⟩⟩
    · rintro ys σ H' ⟨y, rfl, rfl, s1, hy⟩
      exact ⟨_, rfl, a, rfl, ⟨_, s1.seq hs⟩, a, natsV rn, rfl, s1.seq hs, rfl, rfl, v, none, st, [st], rfl, s1, dp_same s1 _ _ hv, rfl, .cons hy .nil, hrun, (sits_later M.ms st rn).symm, rfl⟩
    · rintro a' xs j ys σ H' ⟨rfl, rfl, v', y3, sj, ds, rfl, s1, _⟩
      exact s1.seq hs
    · rintro a' xs j x hx
      refine Gs.cons (G1.plain (post := fun ys σ H' => a' = a ∧ xs = natsV rn ∧ ∃ (v' : V) (y3 : Option V) (sj : Sit) (ds : List Sit), σ = [some m, some v', some (.ref a), y3] ∧ Same H H' ∧ Dp K H' v' (sitD sj) ∧ sj.2.length = st.2.length ∧
          DpAll K H' ys (ds.map sitD) ∧ IsRun M.ms sj (rn.drop (j + 1)) ∧ ds ++ sj :: later M.ms sj (rn.drop (j + 1)) = sits M.ms st rn ∧ ds.length = j + 1) (fun _ _ z => z) (ps_set (i := 1) nd rfl (.inl rfl) (pe_call GA hr (by rfl) FA.g FA.F.kp FA.b .nil pass0 (pa_cons (pv 0) (pa_cons (pv 1) (pa_cons (pv 3) pa_nil))))) ?_)
        (Gs.cons (G1.yields hfar (fun _ _ z => z) (pe_tup (pa_cons (pe_ix ix_tup (pv 1) pe_int (fun _ _ => rfl)) (pa_cons (pe_callTy call_list_of (by rfl) mli (by decide +kernel) (pa_cons (pe_ix ix_tup (pv 1) pe_int (fun _ _ => rfl)) pa_nil)) pa_nil))) ?_) Gs.nil)
      · rintro ys σ H' ⟨σ0, ⟨rfl, rfl, v', y3, sj, ds, rfl, s1, hvj, hlen, hds, hir, hcat, hdl⟩, rfl⟩
        obtain ⟨i, hi, rfl⟩ := map_get hx
        have hd := drop_cons hi
        rw [hd] at hir hcat
        obtain ⟨i1, i2, i3⟩ := hir
        have hlen2 : (after (at_ M.ms i) sj).2.length = st.2.length := by
          show (afterC _ sj.2).length = _
          rw [afterC_len]
          exact hlen
        refine ⟨_, rfl, _, rfl, _, rfl, m, v', M, sj, i, rfl, dp_same s1 _ _ hm, hvj, i1, by rw [hlen]; exact ho, i2, fun H2 r s2 hr2 => ?_⟩
        refine ⟨rfl, rfl, .ref r, _, after (at_ M.ms i) sj, ds, rfl, s1.trans s2, hr2.dp, hlen2, dps_same s2 _ _ hds, i3, ?_, hdl⟩
        rw [← sits_later]
        exact hcat
      · rintro ys σ H' ⟨rfl, rfl, v', y3, sj, ds, rfl, s1, hvj, hlen, hds, hir, hcat, hdl⟩
        have hyl : ys.length = ds.length := by rw [dps_len hds, List.length_map]
        have hjl : j < (natsV rn).length := (List.getElem?_eq_some_iff.mp hx).1
        rw [natsV_len] at hjl
        refine ⟨by omega, copy v' sj H' y3 _ hvj fun y H2 s2 hy => ⟨rfl, rfl, v', y3, sj, ds ++ [sj], rfl, s1.trans s2, dp_same s2 _ _ hvj, hlen, ?_, hir, ?_, ?_⟩⟩
        · rw [List.map_append]
          exact dps_append (dps_same s2 _ _ hds) hy
        · rw [List.append_assoc]
          exact hcat
        · rw [List.length_append, List.length_singleton]
          omega
    · rintro a' xs ys σ H' ⟨rfl, rfl, v', y3, sj, ds, rfl, s1, hvj, hlen, hds, hir, hcat, hdl⟩
      rw [natsV_len, List.drop_length] at hcat
      have e : ds = sits M.ms st rn := by
        rw [← hcat]
        exact (List.append_nil ds).symm
      rw [e] at hds
      exact q H' ys s1 hds
def spFollow (K : PySem.W.Frag) : Sp := fun vs H Q _ => ∃ (m v : V) (a : Addr) (M : Mach) (s : Sit) (rn : List Nat), vs = [m, v, .ref a] ∧ Dp K H m (machD M) ∧ Dp K H v (sitD s) ∧ SqL K H a (natsV rn) ∧ OkAll s.2.length M.ms ∧ rn.length ≤ 1000 ∧ IsRun M.ms s rn ∧
  ∀ (H' : Hp) (p : Addr) (ys : List V), Same H H' → H p = none → H' p = some (.lst ys) → DpAll K H' ys ((sits M.ms s rn).map sitD) → Q (.ref p) H'
theorem ok_follow {f fS fA fP fC : Addr} {fd fdS fdA fdP fdC : FuncData} (F : At K mg "follow" sFollow ["machine", "situation", "run"] f fd) (FS : At K mg "situations" sSits ["machine", "situation", "run"] fS fdS) (FA : At K mg "after" sAfter ["machine", "situation", "move"] fA fdA)
    (FP : At K mg "is_possible" sPoss ["machine", "situation", "move"] fP fdP) (FC : At K mg "check_move" sCheck ["machine", "move"] fC fdC) (ml : mg "len" = none) (mli : mg "list" = none) :
    FnOk P w K mg base CX0 6 f fd ["machine", "situation", "run"] (spFollow K) := by
  have GS : GenFn P w K mg base 4 fS fdS ["machine", "situation", "run"] (spSits K) := ok_sits FS FA FP FC ml mli
  refine F.F.ok scFollow (fun vs H Q E h => ?_) (fun cdv A outer s H vs Q E hr h => ?_)
  · obtain ⟨m, v, a, M, st, rn, rfl, _⟩ := h
    rfl
  · obtain ⟨m, v, a, M, st, rn, rfl, hm, hv, hs, ho, hn, hrun, q⟩ := h
    refine ⟨_, pss_one (ps_ret (pe_lcG (k := 4) (own := [("one", 3)]) hr (pgenE_call GS (hr.mono (by decide)) (by rfl) FS.g FS.F.kp FS.b (pa_cons (pv 0) (pa_cons (pv 1) (pa_cons (pv 2) pa_nil))))
      (blkOk_by (own := [("one", 3)]) (N := nFollow) (sc := defScope sFollow) (by decide +kernel)) rfl)), ?_⟩
    refine ⟨_, rfl, _, rfl, _, rfl, m, v, a, M, st, rn, rfl, hm, hv, hs, ho, hn, hrun, fun H' ys s1 hys D hD => ?_⟩
    exact q _ D ys (s1.trans (same_new hD)) (s1.free hD) upd_same (dps_same (same_new hD) _ _ hys)
end
end K20

set_option Elab.async false
set_option linter.all false
set_option maxRecDepth 100000
set_option maxHeartbeats 4000000
/-! K20L5: the law's _law_refused. -/
namespace K20
open PySem PySem.Spec PyProof.Rows L2
abbrev sRef : Stmt := topS 19
abbrev nRef : List Str := ["_law_machine_here", "_law_situation", "_law_schedule", "_law_before", "_law_kept", "e"]
theorem scRef : FnScope nRef ["_law_machine_here", "_law_situation", "_law_schedule"] (defScope sRef) := ⟨rfl, rfl, rfl, by decide +kernel, rfl, by decide +kernel, by decide +kernel⟩
/-- isinstance(e, c), e the exception that the suite holds: its class is told by the reading -/
def rIsA (K : PySem.W.Frag) (cls : Value) (d : Option Addr) (D a : Addr) : List V → Hp → VK → Prop := fun xs H Q => (cls = .ref D ∧ d = none) ∧ rIsE K D a xs H Q
theorem call_isA {X : Cx} {a D : Addr} {cls : Value} {d : Option Addr} {oe : Obj} {pn : List (Addr × Obj)} {K : PySem.W.Frag} (hK : X.K = K) (C : ExcC K D) (hz : Zc cls d oe) (hf : ∃ vs, oe.data = .fields vs) :
    CallR (X.suite a ((a, oe) :: pn)) (.builtin "isinstance") (rIsA K cls d D a) := by
  subst hK
  intro pins s σ H xs us Q I r h
  obtain ⟨⟨rfl, rfl⟩, h⟩ := h
  exact call_isE C hz hf pins s σ H xs us Q I r h
/-- repr under a known K -/
theorem callRepr {X : Cx} {K : PySem.W.Frag} (hK : X.K = K) (hg : X.A.guards = some []) (hu : X.A.units + 64 < cLine) : CallR X (.builtin "repr") (rRepr K) := by
  subst hK
  exact call_repr hg hu
theorem opEqD {X : Cx} {K : PySem.W.Frag} (hK : X.K = K) (hu : X.A.units + 64 < cLine) : OpR X (compareOp .Eq) (rEqD K) := by
  subst hK
  exact op_eqD hu
theorem boot_isinstance : bootBuiltins "isinstance" = some (.builtin "isinstance") := by decide +kernel
/-- what the top says of the classes -/
structure ClsTxt (K : PySem.W.Frag) (mg : Str → Option Value) (C CL CN : Addr) : Prop where
  gL : mg "LegionError" = some (.ref CL)
  gN : mg "NotPossible" = some (.ref CN)
  gV : mg "ValueError" = none
  gI : mg "isinstance" = none
  ex : ExcC K C
  kL : PySem.W.kitOne K (.ref C) (.ref CL) = some true
  kV : PySem.W.kitOne K (.ref C) (.type "ValueError") = some true
  kN : PySem.W.kitOne K (.ref C) (.ref CN) = some false
theorem eq_refl_ints (ns : List Int) : PyData.eqv (.list (ns.map PyData.int)) (.list (ns.map PyData.int)) = true :=
  SeqAt.eqv_refl _ (by simp only [PyData.canLay0]; exact PySem.W.ke_canLayAll0 ns)
section
variable {P : Program} {w : World} {K : PySem.W.Frag} {mg : Str → Option Value} {base : Heap}
def spRef (K : PySem.W.Frag) : Sp := fun vs H Q _ => ∃ (m v : V) (a : Addr) (M : Mach) (s : Sit) (ns : List Int), vs = [m, v, .ref a] ∧ Dp K H m (machD M) ∧ Dp K H v (sitD s) ∧ SqL K H a (ns.map V.int) ∧ OkM M ∧ s.1 < 100 ∧ SmallC s.2 ∧ OkAll s.2.length M.ms ∧ ns.length ≤ 1000 ∧
  (∃ z ∈ ns, z < 0) ∧ ∀ H', Same H H' → Q (.bl true) H'
/-- the list [machine, situation] as data that shows -/
theorem repr_ok {M : Mach} {s : Sit} {m v : V} {H : Hp} {l : Addr} (hm : Dp K H m (machD M)) (hv : Dp K H v (sitD s)) (o : OkM M) (h1 : s.1 < 100) (h2 : SmallC s.2) (hl : H l = none) :
    Dp K (upd H l (.lst [m, v])) (.ref l) (pairD M s) ∧ (pairD M s).showable = true ∧ (pairD M s).canLay0 = true ∧ (pairD M s).depth ≤ 60 ∧ (pairD M s).shown.length ≤ sizeLine := by
  have S := sm_pair o h1 h2
  have e := same_new (o := .lst [m, v]) hl
  exact ⟨.lst (SqL.of upd_same) (.cons (dp_same e _ _ hm) (.cons (dp_same e _ _ hv) .nil)), S.sh, S.lay, Nat.le_trans S.dp (by decide), S.text (by decide)⟩
theorem ok_ref {f fS fM fA fP fC C CL CN : Addr} {fd fdS fdM fdA fdP fdC : FuncData} (F : At K mg "_law_refused" sRef ["_law_machine_here", "_law_situation", "_law_schedule"] f fd) (FS : At K mg "scheduled" sSched ["machine", "situation", "schedule"] fS fdS)
    (FM : At K mg "possible_moves" sMoves ["machine", "situation"] fM fdM) (FA : At K mg "after" sAfter ["machine", "situation", "move"] fA fdA)
    (FP : At K mg "is_possible" sPoss ["machine", "situation", "move"] fP fdP) (FC : At K mg "check_move" sCheck ["machine", "move"] fC fdC) (T : ExcTxt K mg C) (U : ClsTxt K mg C CL CN)
    (ml : mg "len" = none) (mr : mg "range" = none) (mli : mg "list" = none) (ma : mg "any" = none) (mre : mg "repr" = none) : FnG P w K mg base CX0 5 f fd ["_law_machine_here", "_law_situation", "_law_schedule"] (spRef K) := by
  have GS : FnOk P w K mg base (L2.CX P w) 4 fS fdS ["machine", "situation", "schedule"] (spSched K C) := ok_sched FS FM FA FP FC T ml mr mli ma
  refine fnG_of F.F scRef (fun vs H Q E h => ?_) (fun cdv A outer s H vs Q E hgd hr h => ?_)
  · obtain ⟨m, v, a, M, st, ns, rfl, _⟩ := h
    rfl
  · obtain ⟨m, v, a, M, st, ns, rfl, hm, hv, hs, hM, hst1, hst2, ho, hn, hneg, q⟩ := h
    have nd := scRef.nd
    have hu := hr.units
    refine ⟨_, PSs.nox (pss_cons (ps_set (i := 3) nd rfl (.inl rfl) (pe_callB (callRepr (K := K) rfl hgd hu) (by rfl) mre boot_repr (pa_cons (pe_lst (pa_cons (pv 0) (pa_cons (pv 1) pa_nil))) pa_nil)))
      (pss_cons (ps_set (i := 4) nd rfl (.inl rfl) (pe_callTy call_list_of (by rfl) mli (by decide +kernel) (pa_cons (pv 2) pa_nil)))
      (pss_cons (ps_try_as (i := 5) (tb := fun W => tDrop (tCallS (spSched K C) (WE W) (tCons (tVar 0) (tCons (tVar 1) (tCons (tVar 2) tNil))))) (Wout := fun _ _ _ _ => False) rfl rfl nd rfl rfl ⟨rfl, by decide, .inl T.gC⟩ takes0
        (fun W pn xe tk _ => pss_one (ps_expr (by exact (pe_callS GS hr rfl FS.g FS.F.kp FS.b (fun σ => passAt tk σ) (by exact (pa_cons (pv 0) (pa_cons (pv 1) (pa_cons (pv 2) pa_nil))))))))
        (fun a' oe cls d pn hz hf => pss_one (ps_ret
          (pe_and (pe_callB (call_isA (D := C) (K := K) rfl U.ex hz hf) (by rfl) U.gI boot_isinstance (pa_cons (pv 5) (pa_cons (pe_glob (v := .ref CL) (by rfl) U.gL rfl) pa_nil)))
          (pe_and (pe_callB (call_isA (D := C) (K := K) rfl U.ex hz hf) (by rfl) U.gI boot_isinstance (pa_cons (pv 5) (pa_cons (pe_bltn (v := .ty "ValueError") (by rfl) U.gV (by decide +kernel) rfl) pa_nil)))
          (pe_and (pe_not (pe_callB (call_isA (D := C) (K := K) rfl U.ex hz hf) (by rfl) U.gI boot_isinstance (pa_cons (pv 5) (pa_cons (pe_glob (v := .ref CN) (by rfl) U.gN rfl) pa_nil))))
          (pe_and (pe_cmpR op_eq (pe_callB (callRepr (K := K) rfl hgd hu) (by rfl) mre boot_repr (pa_cons (pe_lst (pa_cons (pv 0) (pa_cons (pv 1) pa_nil))) pa_nil)) (pv 3) (nomark _))
          (pe_one (pe_cmpR (opEqD (K := K) rfl hu) (pv 2) (pv 4) (nomark _))))))))))
      (pss_one (ps_ret pe_bl))))), ?_⟩
    -- before, kept
    refine ⟨_, rfl, _, rfl, (by show 2 ≤ sizeLine; decide), fun l1 n1 => ?_⟩
    obtain ⟨r1, r2, r3, r4, r5⟩ := repr_ok hm hv hM hst1 hst2 n1
    refine ⟨l1, pairD M st, rfl, r1, r2, r3, r4, r5, ?_⟩
    have s1 : Same H (upd H l1 (.lst [m, v])) := same_new n1
    refine ⟨_, rfl, a, _, rfl, .inl (s1.seq hs), fun l2 n2 => ?_⟩
    have s2 : Same H (upd (upd H l1 (.lst [m, v])) l2 (.lst (ns.map V.int))) := s1.trans (same_new n2)
    have hk : upd (upd H l1 (.lst [m, v])) l2 (.lst (ns.map V.int)) l2 = some (.lst (ns.map V.int)) := upd_same
    generalize upd (upd H l1 (.lst [m, v])) l2 (.lst (ns.map V.int)) = H2 at s2 hk ⊢
    -- scheduled(..)
    refine ⟨_, rfl, _, rfl, _, rfl, m, v, a, M, st, ns, rfl, dp_same s2 _ _ hm, dp_same s2 _ _ hv, s2.seq hs, ho, Nat.le_trans hM.n (by decide), hn, fun pos => ?_, fun _ H3 s3 => ?_⟩
    · obtain ⟨z, h1, h2⟩ := hneg
      have := pos z h1
      omega
    · have sA := s2.trans s3
      refine ⟨true, T.te, fun _ a0 h0 => ?_, fun k => Bool.noConfusion k⟩
      refine ⟨_, rfl, ⟨rfl, rfl⟩, .ref CL, .ref CL, true, rfl, (fun u e => e), U.kL, true, rfl, iteT ?_⟩
      refine ⟨_, rfl, ⟨rfl, rfl⟩, .ty "ValueError", .type "ValueError", true, rfl, (fun u e => e), U.kV, true, rfl, iteT ?_⟩
      refine ⟨_, rfl, ⟨rfl, rfl⟩, .ref CN, .ref CN, false, rfl, (fun u e => e), U.kN, false, rfl, true, rfl, iteT ?_⟩
      refine ⟨_, rfl, _, rfl, (by show 2 ≤ sizeLine; decide), fun l3 n3 => ?_⟩
      obtain ⟨t1, t2, t3, t4, t5⟩ := repr_ok (dp_same sA _ _ hm) (dp_same sA _ _ hv) hM hst1 hst2 n3
      refine ⟨l3, pairD M st, rfl, t1, t2, t3, t4, t5, ?_⟩
      have s4 : Same H3 (upd H3 l3 (.lst [m, v])) := same_new n3
      refine ⟨_, rfl, rfl, true, ?_, iteT ⟨_, rfl, _, rfl, _, _, .lst ((sA.trans s4).seq hs) (dps_ints ns), .lst (SqL.of (s4 _ _ (s3 _ _ hk))) (dps_ints ns), PySem.W.ke_shaped_ints ns, PySem.W.ke_shaped_ints ns, ?_⟩⟩
      · exact congrArg V.bl (decide_eq_true rfl)
      · rw [eq_refl_ints]
        exact q _ (sA.trans s4)
end
end K20

set_option Elab.async false
set_option linter.all false
set_option maxRecDepth 100000
set_option maxHeartbeats 8000000
/-! K20L6: law. -/
namespace K20
open PySem PySem.Spec PyProof.Rows L2
abbrev sLaw : Stmt := topS 20
abbrev nLaw : List Str := ["_law_script", "_law_machine_here", "_law_draws_here", "_law_situation", "_law_schedule", "_law_before", "_law_kept", "_law_run", "_law_places", "_law_now", "_law_number", "_law_can_here", "_law_actual", "_law_again", "_law_at", "_law_bad", "_law_cell_here"]
theorem scLaw : FnScope nLaw ["_law_script"] (defScope sLaw) := ⟨rfl, rfl, rfl, by decide +kernel, rfl, by decide +kernel, by decide +kernel⟩
theorem natsV_ints (l : List Nat) : natsV l = (intsOf l).map V.int := by
  unfold natsV intsOf
  rw [List.map_map]
  rfl
theorem ints_len (l : List Nat) : (intsOf l).length = l.length := List.length_map ..
theorem ints_pos (l : List Nat) : ∀ z ∈ intsOf l, 0 ≤ z := by
  intro z hz
  obtain ⟨k, _, rfl⟩ := List.mem_map.mp hz
  exact Int.natCast_nonneg k
theorem last_form {ys : List V} {y : V} (h : ys[ys.length - 1]? = some y) : ys = ys.dropLast ++ [y] := by
  have hn : ys ≠ [] := fun e => by rw [e] at h; cases h
  have e := List.dropLast_concat_getLast hn
  have e2 : ys.getLast hn = y := by
    have h2 : ys[ys.length - 1]? = some (ys.getLast hn) := by rw [← List.getLast?_eq_getElem?, List.getLast?_eq_some_getLast hn]
    rw [h] at h2
    exact (Option.some.inj h2).symm
  rw [e2] at e
  exact e.symm
theorem walk_skip {ms : List Mv} {s : Sit} {z : Int} {r : List Int} (h : (can ms s).length = 0) : walk ms s (z :: r) = walk ms s r := by
  conv => lhs; unfold walk
  rw [if_pos h]
theorem walk_go {ms : List Mv} {s : Sit} {z : Int} {r : List Int} {j : Nat} (h : ¬ (can ms s).length = 0) (hj : (can ms s).getD (pick (can ms s).length z) 0 = j) :
    walk ms s (z :: r) = (pick (can ms s).length z :: (walk ms (after (at_ ms j) s) r).1, j :: (walk ms (after (at_ ms j) s) r).2.1, (walk ms (after (at_ ms j) s) r).2.2) := by
  subst hj
  conv => lhs; unfold walk
  rw [if_neg h]
theorem ite_to {c : Prop} [Decidable c] {A : Prop} {R : Hp → Prop} {H : Hp} (h1 : c → (∀ H', Same H H' → R H') → A) (h2 : ∀ H', Same H H' → R H') : if c then A else R H := by
  by_cases h : c
  · rw [if_pos h]
    exact h1 h h2
  · rw [if_neg h]
    exact h2 H fun _ _ e => e
theorem dp_nats {K : PySem.W.Frag} {H : Hp} {p : Addr} {l : List Nat} (h : H p = some (.lst (natsV l))) : Dp K H (.ref p) (.list ((intsOf l).map PyData.int)) := by
  rw [natsV_ints] at h
  exact .lst (SqL.of h) (dps_ints _)
theorem dp_ints {K : PySem.W.Frag} {H : Hp} {p : Addr} {l : List Int} (h : H p = some (.lst (l.map V.int))) : Dp K H (.ref p) (.list (l.map PyData.int)) := .lst (SqL.of h) (dps_ints _)
theorem dp_lastOf {K : PySem.W.Frag} {H : Hp} {ys : List V} {ms : List Mv} {s : Sit} {l : List Nat} (h : DpAll K H ys ((sits ms s l).map sitD)) : ∃ zs y, ys = zs ++ [y] ∧ Dp K H y (sitD (fin ms s l)) := by
  have hl := dps_len h
  rw [List.length_map] at hl
  obtain ⟨y, h1, h2⟩ := dps_get (i := (sits ms s l).length - 1) h (by rw [List.getElem?_map, sits_last]; rfl)
  rw [← hl] at h1
  exact ⟨_, y, last_form h1, h2⟩
theorem if_no {t : TT} {a b u : TS} {D : Ends} {e1 e2 e3} {σ : L2.St} {H : Hp} (ht : ∀ Q : Bool → Hp → Prop, (∀ H', Same H H' → Q false H') → t σ H Q) (hb : ∀ H', Same H H' → b { D with nx := u D } σ H') :
    tNext (Ends.mk (tSeq (tIfS t a b) u D) e1 e2 e3) σ H :=
  ht _ fun H' s => iteF (hb H' s)
/-- a number without its sign -/
def absI (z : Int) : Int := if z < 0 then -z else z
theorem absI_pos (z : Int) : 0 ≤ absI z := by
  unfold absI
  split <;> omega
section
variable {P : Program} {w : World} {K : PySem.W.Frag} {mg : Str → Option Value} {base : Heap}
def spLaw (K : PySem.W.Frag) : Sp := fun vs H Q _ => ∃ (a : Addr) (ns : List Int), vs = [.ref a] ∧ SqL K H a (ns.map V.int) ∧ ns.length ≤ 63 ∧ ∀ H', Q (.bl true) H'
/-- all that stands at the top -/
structure AllTxt (K : PySem.W.Frag) (mg : Str → Option Value) : Prop where
  len : mg "len" = none
  range : mg "range" = none
  list : mg "list" = none
  any : mg "any" = none
  int : mg "int" = none
  abs : mg "abs" = none
  min : mg "min" = none
  repr : mg "repr" = none
theorem ok_law {f f1 f2 f3 f4 f5 f6 f7 g1 g2 g3 g4 g5 g6 g7 C CL CN : Addr} {fd d1 d2 d3 d4 d5 d6 d7 e1 e2 e3 e4 e5 e6 e7 : FuncData} (F : At K mg "law" sLaw ["_law_script"] f fd)
    (FC : At K mg "check_move" sCheck ["machine", "move"] f1 d1) (FP : At K mg "is_possible" sPoss ["machine", "situation", "move"] f2 d2) (FA : At K mg "after" sAfter ["machine", "situation", "move"] f3 d3)
    (FM : At K mg "possible_moves" sMoves ["machine", "situation"] f4 d4) (FSi : At K mg "situations" sSits ["machine", "situation", "run"] f5 d5) (FF : At K mg "follow" sFollow ["machine", "situation", "run"] f6 d6)
    (FS : At K mg "scheduled" sSched ["machine", "situation", "schedule"] f7 d7)
    (FCe : At K mg "_law_cell" sCell ["_law_script", "_law_k"] g1 e1) (FD : At K mg "_law_draws" sDraws ["_law_cell_here", "_law_limits"] g2 e2) (FPa : At K mg "_law_pairs" sPairs ["_law_cell_here", "_law_places"] g3 e3)
    (FMa : At K mg "_law_machine" sMach ["_law_cell_here", "_law_cells", "_law_shifting"] g4 e4) (FLA : At K mg "_law_after" sLAfter ["_law_move", "_law_counts"] g5 e5) (FCan : At K mg "_law_can" sLCan ["_law_machine_here", "_law_situation"] g6 e6)
    (FR : At K mg "_law_refused" sRef ["_law_machine_here", "_law_situation", "_law_schedule"] g7 e7) (T : ExcTxt K mg C) (U : ClsTxt K mg C CL CN) (A0 : AllTxt K mg) : FnG P w K mg base CX0 7 f fd ["_law_script"] (spLaw K) := by
  have ml := A0.len
  have mr := A0.range
  have mli := A0.list
  have ma := A0.any
  have mi := A0.int
  have mab := A0.abs
  have mmi := A0.min
  have mre := A0.repr
  have mis := U.gI
  have GCe : FnOk P w K mg base CX0 1 g1 e1 ["_law_script", "_law_k"] (spCell K) := ok_cell FCe ml mi
  have GD : FnOk P w K mg base CX0 1 g2 e2 ["_law_cell_here", "_law_limits"] (spDraws K) := ok_draws FD mi mab
  have GMa : FnOk P w K mg base CX0 3 g4 e4 ["_law_cell_here", "_law_cells", "_law_shifting"] (spMach K) := ok_mach FMa FD FPa ml mr mi mab mmi
  have GLA : FnOk P w K mg base CX0 1 g5 e5 ["_law_move", "_law_counts"] (spLAfter K) := ok_lafter FLA mli
  have GCan : FnOk P w K mg base CX0 1 g6 e6 ["_law_machine_here", "_law_situation"] (spLCan K) := ok_lcan FCan ml mr
  have GS : FnOk P w K mg base (L2.CX P w) 4 f7 d7 ["machine", "situation", "schedule"] (spSched K C) := ok_sched FS FM FA FP FC T ml mr mli ma
  have GF : FnOk P w K mg base CX0 6 f6 d6 ["machine", "situation", "run"] (spFollow K) := ok_follow FF FSi FA FP FC ml mli
  have GR : FnG P w K mg base CX0 5 g7 e7 ["_law_machine_here", "_law_situation", "_law_schedule"] (spRef K) := ok_ref FR FS FM FA FP FC T U ml mr mli ma mre
  refine fnG_of F.F scLaw (fun vs H Q E h => ?_) (fun cdv A outer s H vs Q E hgd hr h => ?_)
  · obtain ⟨a, ns, rfl, _⟩ := h
    rfl
  · obtain ⟨a, ns, rfl, hs, hns, q⟩ := h
    have nd := scLaw.nd
    have hu := hr.units
    refine ⟨_, PSs.nox (pss_cons (ps_set (i := 1) nd rfl (.inl rfl) (pe_call GMa (hr.mono (by decide)) (by rfl) FMa.g FMa.F.kp FMa.b .nil pass0 (pa_cons (pe_call GCe (hr.mono (by decide)) (by rfl) FCe.g FCe.F.kp FCe.b .nil pass0 (pa_cons (pv 0) (pa_cons (pe_int) pa_nil))) (pa_cons (pe_slice sl_list (pv 0) (po_some (pe_int)) (po_some (pe_int))) (pa_cons (pe_bl) pa_nil)))))
      (pss_cons (ps_set (i := 2) nd rfl (.inl rfl) (pe_call GD (hr.mono (by decide)) (by rfl) FD.g FD.F.kp FD.b .nil pass0 (pa_cons (pe_call GCe (hr.mono (by decide)) (by rfl) FCe.g FCe.F.kp FCe.b .nil pass0 (pa_cons (pv 0) (pa_cons (pe_int) pa_nil))) (pa_cons (pe_op op_cat (pe_lst (pa_cons (pe_int) pa_nil)) (pe_op op_rep (pe_lst (pa_cons (pe_int) pa_nil)) (pe_int))) pa_nil))))
      (pss_cons (ps_set (i := 3) nd rfl (.inl rfl) (pe_tup (pa_cons (pe_op op_modN (pe_callTy call_int1 (by rfl) mi (by decide +kernel) (pa_cons (pe_ix ix_list (pv 2) (pe_int) (fun _ _ => rfl)) pa_nil)) (pe_ix ix_tup (pv 1) (pe_int) (fun _ _ => rfl))) (pa_cons (pe_slice sl_list (pv 2) (po_some (pe_int)) (po_some (pe_op op_add (pe_int) (pe_ix ix_tup (pv 1) (pe_int) (fun _ _ => rfl))))) pa_nil))))
      (pss_cons (ps_setLc (i := 4) (own := [("_law_cell_here", 16)]) (g := gName 16) rfl nd rfl rfl (sw_true rfl rfl rfl (by decide +kernel)) (pi_list (pe_slice sl_list (pv 0) (po_some (pe_int)) po_none)) (blkOk_by (own := [("_law_cell_here", 16)]) (N := nLaw) (sc := defScope sLaw) (by decide +kernel))
        (fun _ _ _ _ _ => pg_name (i := 16) nd rfl (Or.inl rfl)) (fun _ _ _ _ _ => pts_nil) (fun _ _ _ _ _ => pe_callB call_abs (by rfl) mab (by decide +kernel) (pa_cons (pe_callTy call_int1 (by rfl) mi (by decide +kernel) (pa_cons (pv 16) pa_nil)) pa_nil)))
      (pss_cons (ps_set (i := 5) nd rfl (.inl rfl) (pe_callB (callRepr (K := K) rfl hgd hu) (by rfl) mre boot_repr (pa_cons (pe_lst (pa_cons (pv 1) (pa_cons (pv 3) pa_nil))) pa_nil)))
      (pss_cons (ps_set (i := 6) nd rfl (.inl rfl) (pe_callTy call_list_of (by rfl) mli (by decide +kernel) (pa_cons (pv 4) pa_nil)))
      (pss_cons (ps_set (i := 7) nd rfl (.inl rfl) (pe_lst (pa_nil)))
      (pss_cons (ps_set (i := 8) nd rfl (.inl rfl) (pe_lst (pa_nil)))
      (pss_cons (ps_set (i := 9) nd rfl (.inl rfl) (pv 3))
      (pss_cons (ps_for PassesOwn.never rfl (pi_list (pv 4)) (pg_name (i := 10) nd rfl (.inl rfl)) (pss_cons (ps_set (i := 11) nd rfl (.inl rfl) (pe_call GCan (hr.mono (by decide)) (by rfl) FCan.g FCan.F.kp FCan.b .nil pass0 (pa_cons (pv 1) (pa_cons (pv 9) pa_nil))))
      (pss_one (ps_if (pt_cmpR op_gt (pe_callB call_len_seq (by rfl) ml PySem.boot_len (pa_cons (pv 11) pa_nil)) (pe_int) (nomark _)) (pss_cons (ps_expr (pe_bm PySem.F.plainAttrs_list PySem.F.slot_list_append PySem.F.type_list_append mt_append (pv 8) (pa_cons (pe_op op_modN (pe_callTy call_int1 (by rfl) mi (by decide +kernel) (pa_cons (pv 10) pa_nil)) (pe_callB call_len_seq (by rfl) ml PySem.boot_len (pa_cons (pv 11) pa_nil))) pa_nil)))
      (pss_cons (ps_expr (pe_bm PySem.F.plainAttrs_list PySem.F.slot_list_append PySem.F.type_list_append mt_append (pv 7) (pa_cons (pe_ix ix_list (pv 11) (pe_op op_modN (pe_callTy call_int1 (by rfl) mi (by decide +kernel) (pa_cons (pv 10) pa_nil)) (pe_callB call_len_seq (by rfl) ml PySem.boot_len (pa_cons (pv 11) pa_nil))) (fun _ _ => rfl)) pa_nil)))
      (pss_one (ps_set (i := 9) nd rfl (.inl rfl) (pe_call GLA (hr.mono (by decide)) (by rfl) FLA.g FLA.F.kp FLA.b .nil pass0 (pa_cons (pe_ix ix_list (pe_ix ix_tup (pv 1) (pe_int) (fun _ _ => rfl)) (pe_ix ix_list (pv 7) (pe_un un_neg pe_int) (fun _ _ => rfl)) (fun _ _ => rfl)) (pa_cons (pe_ix ix_tup (pv 9) (pe_int) (fun _ _ => rfl)) pa_nil))))))) (pss_nil)))))
      (pss_cons (ps_set (i := 12) nd rfl (.inl rfl) (pe_call GS (hr.mono (by decide)) (by rfl) FS.g FS.F.kp FS.b .nil passL (pa_cons (pv 1) (pa_cons (pv 3) (pa_cons (pv 4) pa_nil)))))
      (pss_cons (ps_if (PW.pt (pw_or (pt_not (pt_val (pe_callB call_isi (by rfl) mis boot_isinstance (pa_cons (pv 12) (pa_cons (pe_bltn (v := .ty "list") (by rfl) mli (by decide +kernel) rfl) pa_nil))))) (pw_or (pt_cmpR (op_neD hu) (pv 12) (pv 7) (nomark _)) (pw_or (pt_cmpR op_ne (pe_callB (callRepr (K := K) rfl hgd hu) (by rfl) mre boot_repr (pa_cons (pe_lst (pa_cons (pv 1) (pa_cons (pv 3) pa_nil))) pa_nil)) (pv 5) (nomark _)) (pw_or1 (pt_cmpR (op_neD hu) (pv 4) (pv 6) (nomark _))))))) (pss_one (ps_ret (pe_bl))) (pss_nil))
      (pss_cons (ps_if (PW.pt (pw_or (pt_cmpR (op_neD hu) (pe_ix ix_list (pe_call GF hr (by rfl) FF.g FF.F.kp FF.b .nil pass0 (pa_cons (pv 1) (pa_cons (pv 3) (pa_cons (pv 12) pa_nil)))) (pe_un un_neg pe_int) (fun _ _ => rfl)) (pv 9) (nomark _)) (pw_or1 (pt_cmpR (op_neD hu) (pe_call GS (hr.mono (by decide)) (by rfl) FS.g FS.F.kp FS.b .nil passL (pa_cons (pv 1) (pa_cons (pv 3) (pa_cons (pv 8) pa_nil)))) (pv 7) (nomark _))))) (pss_one (ps_ret (pe_bl))) (pss_nil))
      (pss_cons (ps_if (PW.pt (pw_and (pt_cmpR op_lt (pe_callB call_len_seq (by rfl) ml PySem.boot_len (pa_cons (pv 7) pa_nil)) (pe_callB call_len_seq (by rfl) ml PySem.boot_len (pa_cons (pv 4) pa_nil)) (nomark _)) (pw_and1 (pt_cmpR op_gt (pe_callB call_len_seq (by rfl) ml PySem.boot_len (pa_cons (pe_call GCan (hr.mono (by decide)) (by rfl) FCan.g FCan.F.kp FCan.b .nil pass0 (pa_cons (pv 1) (pa_cons (pv 9) pa_nil))) pa_nil)) (pe_int) (nomark _))))) (pss_one (ps_ret (pe_bl))) (pss_nil))
      (pss_cons (ps_set (i := 13) nd rfl (.inl rfl) (pe_call GS (hr.mono (by decide)) (by rfl) FS.g FS.F.kp FS.b .nil passL (pa_cons (pv 1) (pa_cons (pv 3) (pa_cons (pv 4) pa_nil)))))
      (pss_cons (ps_expr (pe_bm PySem.F.plainAttrs_list PySem.F.slot_list_append PySem.F.type_list_append mt_append (pv 12) (pa_cons (pe_un un_neg pe_int) pa_nil)))
      (pss_cons (ps_if (pt_cmpR (op_neD hu) (pv 13) (pv 7) (nomark _)) (pss_one (ps_ret (pe_bl))) (pss_nil))
      (pss_cons (ps_set (i := 14) nd rfl (.inl rfl) (pe_op op_modN (pe_callTy call_int1 (by rfl) mi (by decide +kernel) (pa_cons (pe_call GCe (hr.mono (by decide)) (by rfl) FCe.g FCe.F.kp FCe.b .nil pass0 (pa_cons (pv 0) (pa_cons (pe_int) pa_nil))) pa_nil)) (pe_op op_add (pe_callB call_len_seq (by rfl) ml PySem.boot_len (pa_cons (pv 4) pa_nil)) (pe_int))))
      (pss_cons (ps_set (i := 15) nd rfl (.inl rfl) (pe_op op_cat (pe_op op_cat (pe_slice sl_list (pv 4) po_none (po_some (pv 14))) (pe_lst (pa_cons (pe_op op_sub (pe_un un_neg pe_int) (pe_op op_modN (pe_callTy call_int1 (by rfl) mi (by decide +kernel) (pa_cons (pe_callB call_abs (by rfl) mab (by decide +kernel) (pa_cons (pe_callTy call_int1 (by rfl) mi (by decide +kernel) (pa_cons (pe_call GCe (hr.mono (by decide)) (by rfl) FCe.g FCe.F.kp FCe.b .nil pass0 (pa_cons (pv 0) (pa_cons (pe_int) pa_nil))) pa_nil)) pa_nil)) pa_nil)) (pe_int))) pa_nil))) (pe_slice sl_list (pv 4) (po_some (pv 14)) po_none)))
      (pss_one (ps_ret (pe_and (pe_callG GR hgd (hr.mono (by decide)) (by rfl) FR.g FR.F.kp FR.b pass0 (pa_cons (pv 1) (pa_cons (pv 3) (pa_cons (pv 15) pa_nil)))) (pe_one (pe_cmpR (op_eqD hu) (pe_call GS (hr.mono (by decide)) (by rfl) FS.g FS.F.kp FS.b .nil passL (pa_cons (pv 1) (pa_cons (pv 3) (pa_cons (pe_lst (pa_nil)) pa_nil)))) (pe_lst (pa_nil)) (nomark _))))))))))))))))))))))))), ?_⟩
    have hsl := sizeLine_eq
    have small : ∀ n : Nat, n ≤ 1000 → n ≤ sizeLine := fun n hn => by omega
    -- _law_machine(_law_cell(script, 0), script[1:13], True)
    refine ⟨_, rfl, a, ns, 0, rfl, hs, _, rfl, 1, rfl, 13, rfl, a, _, rfl, hs, fun lc nc => ?_⟩
    rw [cutV_ints]
    have sc1 : Same H (upd H lc (.lst ((cutI ns (some 1) (some 13)).map V.int))) := same_new nc
    refine ⟨_, lc, cutI ns (some 1) (some 13), rfl, SqL.of upd_same, Nat.le_trans (cutI_len _ _ _) hns, fun H1 r1 M s1' hM hMc hS4 hS0 hMd => ?_⟩
    have s1 : Same H H1 := sc1.trans s1'
    -- _law_draws(_law_cell(script, 13), [4] + [4] * 6)
    refine ⟨_, rfl, a, ns, 13, rfl, s1.seq hs, small 1 (by decide), fun l1 n1 => ⟨small 1 (by decide), fun l2 n2 => ?_⟩⟩
    have fl1 : upd (upd H1 l1 (.lst [V.int 4])) l2 (.lst [V.int 4]) l1 = some (.lst [V.int 4]) := by rw [upd_ne (fun e => by rw [e, upd_same] at n2; cases n2), upd_same]
    have s2 : Same H1 (upd (upd H1 l1 (.lst [V.int 4])) l2 (.lst [V.int 4])) := (same_new n1).trans (same_new n2)
    refine ⟨l2, 6, _, rfl, rfl, upd_same, by decide, by decide, small 6 (by decide), fun l3 n3 => ?_⟩
    refine ⟨l1, l3, _, _, rfl, rfl, same_new n3 _ _ fl1, upd_same, small 7 (by decide), fun l4 n4 => ?_⟩
    have s4 := (s2.trans (same_new (o := .lst (List.replicate (6 : Int).toNat [V.int 4]).flatten) n3)).trans (same_new (o := .lst (([4, 4, 4, 4, 4, 4, 4] : List Int).map V.int)) n4)
    refine ⟨_, l4, [4, 4, 4, 4, 4, 4, 4], rfl, SqL.of upd_same, (by decide), (by decide), fun H2 d rs s5 nd2 hb hd => ?_⟩
    have s12 : Same H1 H2 := s4.trans s5
    have hMd2 := dp_same s12 _ _ hMd
    obtain ⟨am, vst, bm, mvs, eam, hq1, hq2, hq3⟩ := mach_at hMd2
    cases eam
    obtain ⟨x0, g0, b0⟩ := hb.nat 0 4 rfl
    have hSne : (M.S : Int) ≠ 0 := by omega
    have eP : (1 : Int) + (M.P : Int) = ((1 + M.P : Nat) : Int) := by omega
    have hrl : rs.length = 7 := hb.1
    have hP6 := hM.P6
    -- the situation
    refine ⟨_, rfl, d, _, 0, _, rfl, rfl, SqL.of hd, atI_nat (j := 0) (nat_get g0), .inl ⟨_, rfl, _, rfl, r1, _, 0, _, rfl, rfl, hq1, atI_nat (j := 0) rfl, _, _, rfl, rfl, hSne, ?_⟩⟩
    refine ⟨_, rfl, 1, rfl, _, rfl, r1, _, 1, _, rfl, rfl, hq1, atI_nat (j := 1) rfl, _, _, rfl, rfl, _, rfl, d, _, rfl, SqL.of hd, fun lb nb => ⟨small 2 (by decide), fun ts nts => ?_⟩⟩
    generalize hc0 : cutI rs (some 1) (some ((1 : Int) + (M.P : Int))) = c0
    have hc0l : c0.length = M.P := by
      rw [← hc0, eP]
      unfold cutI
      rw [show HT.sIx rs.length 0 (some 1) = min 1 rs.length from HT.sIx_nat _ _ 1, HT.sIx_nat, hrl, List.length_take, List.length_drop, hrl]
      omega
    have hc0s : SmallC c0 := ⟨by omega, fun y hy => by
      rw [← hc0] at hy
      have := hb.mem (B := 4) (by decide) y (cutI_mem hy)
      omega⟩
    generalize hs0 : ((x0 % M.S, c0) : Sit) = s0
    have hs01 : s0.1 < 100 := by
      rw [← hs0]
      have := Nat.mod_lt x0 hS0
      show x0 % M.S < 100
      omega
    have hs02 : SmallC s0.2 := by rw [← hs0]; exact hc0s
    have hs0l : s0.2.length = M.P := by rw [← hs0]; exact hc0l
    have okAll : OkAll s0.2.length M.ms := by rw [hs0l]; exact hM.ok
    have nlt : lb ≠ ts := fun e => by rw [← e, upd_same] at nts; cases nts
    have sS : ∀ o1 o2, (upd H2 lb o1) ts = none → Same H2 (upd (upd H2 lb o1) ts o2) := fun o1 o2 k => (same_new nb).trans (same_new k)
    have hsit : Dp K (upd (upd H2 lb (.lst (cutV (rs.map V.int) (some 1) (some ((1 : Int) + (M.P : Int)))))) ts (.tup [.int ((x0 : Int).fmod (M.S : Int)), .ref lb])) (.ref ts) (sitD s0) := by
      rw [← hs0]
      refine sit_mk (b := lb) (SqT.of ?_) (SqL.of ?_)
      · rw [upd_same, fmod_nat]
      · rw [upd_ne nlt, upd_same, cutV_ints, hc0]
    have s3 := sS _ (.tup [.int ((x0 : Int).fmod (M.S : Int)), .ref lb]) nts
    have s23 : Same H (upd (upd H2 lb (.lst (cutV (rs.map V.int) (some 1) (some ((1 : Int) + (M.P : Int)))))) ts (.tup [.int ((x0 : Int).fmod (M.S : Int)), .ref lb])) := (s1.trans s12).trans s3
    have hMd3 := dp_same s3 _ _ hMd2
    generalize upd (upd H2 lb (.lst (cutV (rs.map V.int) (some 1) (some ((1 : Int) + (M.P : Int)))))) ts (.tup [.int ((x0 : Int).fmod (M.S : Int)), .ref lb]) = H3 at s23 hMd3 hsit ⊢
    -- the schedule
    refine ⟨_, rfl, 14, rfl, a, _, rfl, s23.seq hs, fun lsl nsl => ?_⟩
    rw [cutV_ints]
    have hc14 : (cutI ns (some 14) none).length ≤ 63 := Nat.le_trans (cutI_len _ _ _) hns
    generalize cutI ns (some 14) none = cs at hc14 ⊢
    refine ⟨lsl, rfl, ⟨_, SqL.of upd_same⟩, fun D hD => ?_⟩
    have sL : Same H3 (upd H3 lsl (.lst (cs.map V.int))) := same_new nsl
    have hlsl : upd H3 lsl (.lst (cs.map V.int)) lsl = some (.lst (cs.map V.int)) := upd_same
    generalize upd H3 lsl (.lst (cs.map V.int)) = H4 at sL hlsl hD ⊢
    refine lc_list (K := K) (a := lsl) (xs := cs.map V.int) (fun i H' => Same H4 H' ∧ H' D = some (.lst (((cs.take i).map absI).map V.int))) ⟨same_new hD, upd_same⟩ (fun i H' _ p => p.1.seq (SqL.of hlsl)) ?_ ?_
    · rintro i x H' hx ⟨s5, hd5⟩
      rw [List.getElem?_map] at hx
      obtain ⟨z, hz, rfl⟩ := Option.map_eq_some_iff.mp hx
      refine ⟨rfl, ?_⟩
      refine ⟨_, rfl, .inl ⟨_, rfl, _, rfl, _, hd5, ?_, same_upd s5 hD, ?_⟩⟩
      · rw [List.length_map, List.length_map, List.length_take]
        exact Nat.lt_of_lt_of_le (show min i cs.length < 64 by omega) (by omega)
      · rw [upd_same, take_snoc hz, List.map_append, List.map_append]
        rfl
    · rintro H5 ⟨s5, hd5⟩
      rw [len_ints, List.take_length] at hd5
      have pos : ∀ z ∈ cs.map absI, 0 ≤ z := fun z hz => by
        obtain ⟨y, _, rfl⟩ := List.mem_map.mp hz
        exact absI_pos y
      have hzl : (cs.map absI).length ≤ 63 := by rw [List.length_map]; exact hc14
      generalize cs.map absI = zs at hd5 pos hzl
      have s25 : Same H H5 := (s23.trans sL).trans s5
      have hMd5 := dp_same (sL.trans s5) _ _ hMd3
      have hsit5 := dp_same (sL.trans s5) _ _ hsit
      clear hsit hMd3 s23 sL hlsl hD s3 hMd2 hMd s5
      -- before
      refine ⟨_, rfl, _, rfl, small 2 (by decide), fun lp np => ?_⟩
      obtain ⟨t1, t2, t3, t4, t5⟩ := repr_ok hMd5 hsit5 hM hs01 hs02 np
      refine ⟨lp, pairD M s0, rfl, t1, t2, t3, t4, t5, ?_⟩
      have s6 : Same H5 (upd H5 lp (.lst [.ref r1, .ref ts])) := same_new np
      -- kept
      refine ⟨_, rfl, D, _, rfl, .inl (SqL.of (s6 _ _ hd5)), fun lk nk => ?_⟩
      have s7 := s6.trans (same_new (o := .lst (zs.map V.int)) nk)
      have hlk : upd (upd H5 lp (.lst [.ref r1, .ref ts])) lk (.lst (zs.map V.int)) lk = some (.lst (zs.map V.int)) := upd_same
      generalize upd (upd H5 lp (.lst [.ref r1, .ref ts])) lk (.lst (zs.map V.int)) = H7 at s7 hlk ⊢
      have hd7 := s7 _ _ hd5
      have s27 := s25.trans s7
      have hMd7 := dp_same s7 _ _ hMd5
      have hsit7 := dp_same s7 _ _ hsit5
      clear hMd5 hsit5 t1 t2 t3 t4 t5 s6 s7
      -- run, places, now
      refine ⟨Nat.zero_le _, fun p7 hp7 => ⟨Nat.zero_le _, fun p8 hp8 => ⟨_, rfl, ?_⟩⟩⟩
      have n78 : p7 ≠ p8 := fun e => by rw [e, upd_same] at hp8; cases hp8
      have hp8' : H7 p8 = none := by rw [upd_ne (Ne.symm n78)] at hp8; exact hp8
      have hps : ∀ b ∈ [p7, p8], H7 b = none := fun b hb => by
        simp only [List.mem_cons, List.not_mem_nil, or_false] at hb
        rcases hb with rfl | rfl
        · exact hp7
        · exact hp8'
      have sI : Same H7 (upd (upd H7 p7 (.lst [])) p8 (.lst [])) := (same_new hp7).trans (same_new hp8)
      have hM0 : M.ms.length ≤ 1000 := Nat.le_trans hM.n (by decide)
      refine ⟨_, rfl, D, rfl, ⟨_, SqL.of (sI _ _ hd7)⟩, for_list (K := K) (a := D) (xs := zs.map V.int) (fun i σ H' => ∃ (nv : V) (y10 y11 : Option V) (acc pls : List Nat) (si : Sit),
        σ = [some (.ref a), some (.ref r1), some (.ref d), some (.ref ts), some (.ref D), some (.str (pairD M s0).shown), some (.ref lk), some (.ref p7), some (.ref p8), some nv, y10, y11, none, none, none, none, none] ∧
        Same H7 H' ∧ H' p7 = some (.lst (natsV acc)) ∧ H' p8 = some (.lst (natsV pls)) ∧ Dp K (hide H' [p7, p8]) nv (sitD si) ∧ si.2.length = M.P ∧ acc.length ≤ i ∧ pls.length ≤ i ∧
        acc ++ (walk M.ms si (zs.drop i)).2.1 = (walk M.ms s0 zs).2.1 ∧ pls ++ (walk M.ms si (zs.drop i)).1 = (walk M.ms s0 zs).1 ∧ (walk M.ms si (zs.drop i)).2.2 = (walk M.ms s0 zs).2.2)
        ⟨.ref ts, none, none, [], [], s0, rfl, sI, by rw [upd_ne n78, upd_same]; rfl, upd_same, dp_same (hide_new hps sI) _ _ hsit7, hs0l, Nat.le_refl _, Nat.le_refl _, rfl, rfl, rfl⟩ (fun i σ H' _ ⟨_, _, _, _, _, _, _, s3, _⟩ => s3.seq (SqL.of hd7)) ?_ ?_⟩
      · rintro i x σ H' hx ⟨nv, y10, y11, acc, pls, si, rfl, s8, h7, h8, hnv, hlen, hal, hpl, hw1, hw2, hw3⟩
        obtain ⟨z, hz, rfl⟩ := map_get hx
        have hilt : i < zs.length := (List.getElem?_eq_some_iff.mp hz).1
        have oi : OkAll si.2.length M.ms := by rw [hlen]; exact hM.ok
        rw [drop_cons hz] at hw1 hw2 hw3
        -- can_here
        refine ⟨_, rfl, _, rfl, .ref r1, nv, M, si, rfl, dp_same s8 _ _ hMd7, dp_same hide_same _ _ hnv, oi, hM0, fun H9 pc s9 hpc h9 => ?_⟩
        have s89 := s8.trans s9
        have h79 := s9 _ _ h7
        have h89 := s9 _ _ h8
        refine ⟨_, rfl, pc, _, rfl, .inl (SqL.of h9), _, _, rfl, rfl, _, rfl, ?_⟩
        rw [natsV_len]
        by_cases hc : (can M.ms si).length = 0
        · rw [hc]
          refine iteF ?_
          rw [walk_skip hc] at hw1 hw2 hw3
          exact ⟨nv, _, _, acc, pls, si, rfl, s89, h79, h89, dp_same (hide_mono s9) _ _ hnv, hlen, by omega, by omega, hw1, hw2, hw3⟩
        · rw [decide_eq_true (show (0 : Int) < ((can M.ms si).length : Int) by omega)]
          refine iteT ?_
          have hpk := pick_lt z hc
          have hpcz := pick_cast z hc
          have hcz : ((natsV (can M.ms si)).length : Int) ≠ 0 := by rw [natsV_len]; omega
          -- places.append(..)
          refine ⟨_, rfl, .inl ⟨rfl, _, SqL.of h89⟩, _, rfl, .inl ⟨_, rfl, _, rfl, pc, _, rfl, .inl (SqL.of h9), _, _, rfl, rfl, hcz, p8, _, _, rfl, rfl, h89, ?_, ?_⟩⟩
          · rw [natsV_len]
            exact small1000 (by omega)
          have n7p : p7 ≠ pc := fun e => by rw [e] at h7; rw [h7] at hpc; cases hpc
          have n8p : p8 ≠ pc := fun e => by rw [e] at h8; rw [h8] at hpc; cases hpc
          have h9a : ∀ o, upd H9 p8 o pc = some (.lst (natsV (can M.ms si))) := fun o => by rw [upd_ne (Ne.symm n8p)]; exact h9
          have h7a : ∀ o, upd H9 p8 o p7 = some (.lst (natsV acc)) := fun o => by rw [upd_ne n78]; exact h79
          -- run.append(..)
          refine ⟨_, rfl, .inl ⟨rfl, _, SqL.of (h7a _)⟩, _, rfl, _, rfl, .inl ⟨_, rfl, _, rfl, pc, _, rfl, .inl (SqL.of (h9a _)), _, _, rfl, rfl, hcz, pc, _, _, V.int (((can M.ms si).getD (pick (can M.ms si).length z) 0 : Nat) : Int), rfl, rfl, SqL.of (h9a _), ?_, p7, _, _, rfl, rfl, h7a _, ?_, ?_⟩⟩
          · rw [natsV_len, ← hpcz]
            exact atI_nat (natsV_get hpk)
          · rw [natsV_len]
            exact small1000 (by omega)
          have hmem := can_lt (can_pick z hc)
          have ez : z.fmod ((natsV (can M.ms si)).length : Int) = ((pick (can M.ms si).length z : Nat) : Int) := by rw [natsV_len, ← hpcz]
          generalize hj : (can M.ms si).getD (pick (can M.ms si).length z) 0 = j at *
          rw [walk_go hc hj] at hw1 hw2 hw3
          have sB : ∀ o1 o2, Same H7 (upd (upd H9 p8 o1) p7 o2) := fun o1 o2 => same_upd (same_upd s89 hp8') hp7
          have hnvB : ∀ o1 o2, Dp K (hide (upd (upd H9 p8 o1) p7 o2) [p7, p8]) nv (sitD si) := fun o1 o2 => by
            rw [hide_upd (List.mem_cons_self ..), hide_upd (List.mem_cons_of_mem _ (List.mem_singleton.mpr rfl))]
            exact dp_same (hide_mono s9) _ _ hnv
          have hm' : ∀ o1 o2, Dp K (upd (upd H9 p8 o1) p7 o2) (.ref r1) (machD M) := fun o1 o2 => dp_same (sB o1 o2) _ _ hMd7
          obtain ⟨am, vst, bm, mvs, eam, hq1, hq2, hq3⟩ := mach_at (hm' (.lst (natsV pls ++ [V.int (z.fmod ((natsV (can M.ms si)).length : Int))])) (.lst (natsV acc ++ [V.int (j : Int)])))
          cases eam
          obtain ⟨aj, e1, mva⟩ := move_at hq3 hmem.1
          obtain ⟨sa, sb, rfl, u1, u2⟩ := sit_at (dp_same hide_same _ _ (hnvB (.lst (natsV pls ++ [V.int (z.fmod ((natsV (can M.ms si)).length : Int))])) (.lst (natsV acc ++ [V.int (j : Int)]))))
          refine ⟨_, rfl, _, _, 4, _, rfl, rfl, hq1, atI_nat (j := 4) rfl, _, rfl, _, rfl, p7, _, _, _, rfl, rfl, SqL.of upd_same, atI_last _ _, bm, mvs, (j : Int), _, rfl, rfl, hq2, atI_nat e1, _, rfl, sa, _, 1, _, rfl, rfl, u1, atI_nat (j := 1) rfl, ?_⟩
          refine ⟨aj, sb, at_ M.ms j, si.2, rfl, mva, u2, oi.at hmem.1, fun H10 r s10 hr10 => ?_⟩
          refine ⟨.ref r, _, _, acc ++ [j], pls ++ [pick (can M.ms si).length z], after (at_ M.ms j) si, rfl, (sB _ _).trans s10, ?_, ?_, hr10.hid ?_, ?_, ?_, ?_, ?_, ?_, hw3⟩
          · rw [natsV_snoc]
            exact s10 _ _ upd_same
          · rw [natsV_snoc, ← ez]
            refine s10 _ _ ?_
            rw [upd_ne (Ne.symm n78), upd_same]
          · intro b hb
            simp only [List.mem_cons, List.not_mem_nil, or_false] at hb
            rcases hb with rfl | rfl
            · exact ⟨_, upd_same⟩
            · exact ⟨_, by rw [upd_ne (Ne.symm n78), upd_same]⟩
          · show (afterC _ si.2).length = _
            rw [afterC_len]
            exact hlen
          · rw [List.length_append, List.length_singleton]
            omega
          · rw [List.length_append, List.length_singleton]
            omega
          · rw [List.append_assoc]
            exact hw1
          · rw [List.append_assoc]
            exact hw2
      · rintro σ H9 ⟨nv, y10, y11, acc, pls, si, rfl, s8, h7, h8, hnv, hlen, hal, hpl, hw1, hw2, hw3⟩
        rw [len_ints] at hal hpl
        rw [len_ints, List.drop_length] at hw1 hw2 hw3
        have hw1' : acc ++ [] = (walk M.ms s0 zs).2.1 := hw1
        have hw2' : pls ++ [] = (walk M.ms s0 zs).1 := hw2
        rw [List.append_nil] at hw1' hw2'
        have hsi : si = (walk M.ms s0 zs).2.2 := hw3
        have hfin := walk_fin M.ms zs s0
        have hends := walk_ends M.ms zs s0
        rw [← hsi] at hfin hends
        have hrun : run M.ms s0 zs = acc := by rw [hw1']; exact (walk_run M.ms zs s0).symm
        have hpls : run M.ms s0 (intsOf pls) = acc := by rw [hw2', walk_places]; exact hrun
        have hisr : IsRun M.ms s0 acc := by rw [← hrun]; exact run_isRun M.ms zs s0
        rw [hrun] at hfin hends
        have s29 : Same H H9 := s27.trans s8
        have pos' : ∀ {B : Prop}, (∃ z ∈ zs, z < 0) → B := fun ⟨z, h1, h2⟩ => by
          have := pos z h1
          omega
        -- actual
        refine ⟨_, rfl, _, rfl, _, rfl, .ref r1, .ref ts, D, M, s0, zs, rfl, dp_same s8 _ _ hMd7, dp_same s8 _ _ hsit7, s8.seq (SqL.of hd7), okAll, hM0, Nat.le_trans hzl (by decide), fun _ H10 p12 s10 hp12 h12 => ?_, fun e => pos' e⟩
        rw [hrun] at h12
        have s80 := s8.trans s10
        have h70 := s10 _ _ h7
        have h80 := s10 _ _ h8
        have hnv0 := dp_same (hide_mono (ps := [p7, p8]) s10) _ _ hnv
        have n712 : p7 ≠ p12 := fun e => by rw [e] at h7; rw [h7] at hp12; cases hp12
        have n812 : p8 ≠ p12 := fun e => by rw [e] at h8; rw [h8] at hp12; cases hp12
        -- isinstance(actual, list)
        refine ⟨_, rfl, .ref p12, .ty "list", .type "list", .type "list", true, rfl, ClsV.ty _, TyX.base (TyOf.lst h12), ?_, true, rfl, ?_⟩
        · unfold PySem.W.kitOne
          rw [if_pos (beq_self_eq_true _)]
        refine iteF ?_
        -- actual != run
        refine ⟨_, rfl, _, rfl, _, _, dp_nats h12, dp_nats h70, PySem.W.ke_shaped_ints _, PySem.W.ke_shaped_ints _, ?_⟩
        rw [eq_refl_ints]
        refine ⟨_, rfl, iteF ?_⟩
        -- repr([machine, situation]) != before
        refine ⟨_, rfl, _, rfl, small 2 (by decide), fun lp np => ?_⟩
        obtain ⟨t1, t2, t3, t4, t5⟩ := repr_ok (dp_same s80 _ _ hMd7) (dp_same s80 _ _ hsit7) hM hs01 hs02 np
        refine ⟨lp, pairD M s0, rfl, t1, t2, t3, t4, t5, ?_⟩
        have s11 : Same H10 (upd H10 lp (.lst [.ref r1, .ref ts])) := same_new np
        generalize upd H10 lp (.lst [.ref r1, .ref ts]) = H11 at s11 ⊢
        refine ⟨_, rfl, rfl, false, ?_, iteF ?_⟩
        · exact congrArg V.bl (by rw [decide_eq_true rfl]; rfl)
        -- schedule != kept
        refine ⟨_, rfl, _, rfl, _, _, dp_ints (s11 _ _ (s80 _ _ hd7)), dp_ints (s11 _ _ (s80 _ _ hlk)), PySem.W.ke_shaped_ints _, PySem.W.ke_shaped_ints _, ?_⟩
        rw [eq_refl_ints]
        refine ⟨_, rfl, iteF ?_⟩
        have sA := s10.trans s11
        -- follow(..)[-1] != now
        have hal' : acc.length ≤ 1000 := Nat.le_trans hal (Nat.le_trans hzl (by decide))
        have hpl' : pls.length ≤ 1000 := Nat.le_trans hpl (Nat.le_trans hzl (by decide))
        refine ⟨_, rfl, _, rfl, _, rfl, .ref r1, .ref ts, p12, M, s0, acc, rfl, dp_same sA _ _ (dp_same s8 _ _ hMd7), dp_same sA _ _ (dp_same s8 _ _ hsit7), SqL.of (s11 _ _ h12), okAll, hal', hisr, fun H12 pf ys s12 hpf hf hys => ?_⟩
        obtain ⟨ys', y, eys, hy⟩ := dp_lastOf hys
        have sB := sA.trans s12
        have hnvB := dp_same (hide_same.trans sB) _ _ hnv
        rw [hfin] at hnvB
        rw [eys] at hf
        refine ⟨_, rfl, pf, _, _, _, rfl, rfl, SqL.of hf, atI_last _ _, _, rfl, _, _, hy, hnvB, sit_shaped _, sit_shaped _, ?_⟩
        rw [SeqAt.eqv_refl _ (SeqAt.canLay_of_shaped (sit_shaped _))]
        refine ⟨_, rfl, iteF ?_⟩
        -- scheduled(machine, situation, places) != run
        refine ⟨_, rfl, _, rfl, _, rfl, .ref r1, .ref ts, p8, M, s0, intsOf pls, rfl, dp_same sB _ _ (dp_same s8 _ _ hMd7), dp_same sB _ _ (dp_same s8 _ _ hsit7), ?_, okAll, hM0, by rw [ints_len]; exact hpl', fun _ H13 p13 s13 hp13 h13 => ?_, fun ⟨z, h1, h2⟩ => absurd (ints_pos _ z h1) (by omega)⟩
        · rw [← natsV_ints]
          exact SqL.of (sB _ _ h8)
        rw [hpls] at h13
        have sC := sB.trans s13
        refine ⟨_, rfl, _, _, dp_nats h13, dp_nats (sC _ _ h7), PySem.W.ke_shaped_ints _, PySem.W.ke_shaped_ints _, ?_⟩
        rw [eq_refl_ints]
        refine ⟨_, rfl, iteF ?_⟩
        -- an early end: no move is possible
        refine if_no (fun Q' hQ => ?_) (fun H14 s14 => ?_)
        · refine ⟨_, rfl, p7, _, rfl, .inl (SqL.of (sC _ _ h7)), _, rfl, D, _, rfl, .inl (SqL.of (sC _ _ (s8 _ _ hd7))), _, _, rfl, rfl, _, rfl, ite2 (fun c => ?_) (fun c => hQ _ fun _ _ e => e)⟩
          have c' := of_decide_eq_true c
          rw [natsV_len, len_ints] at c'
          have c0 : (can M.ms si).length = 0 := hends (by omega)
          refine ⟨_, rfl, _, rfl, .ref r1, nv, M, si, rfl, dp_same sC _ _ (dp_same s8 _ _ hMd7), dp_same (hide_same.trans sC) _ _ hnv, by rw [hlen]; exact hM.ok, hM0, fun H14 p14 s14 hp14 h14 => ?_⟩
          refine ⟨p14, _, rfl, .inl (SqL.of h14), _, _, rfl, rfl, _, rfl, ?_⟩
          rw [natsV_len, c0]
          exact hQ _ s14
        have sD := sC.trans s14
        -- again
        refine ⟨_, rfl, _, rfl, _, rfl, .ref r1, .ref ts, D, M, s0, zs, rfl, dp_same sD _ _ (dp_same s8 _ _ hMd7), dp_same sD _ _ (dp_same s8 _ _ hsit7), SqL.of (sD _ _ (s8 _ _ hd7)), okAll, hM0, Nat.le_trans hzl (by decide), fun _ H15 p15 s15 hp15 h15 => ?_, fun e => pos' e⟩
        rw [hrun] at h15
        have sE := sD.trans s15
        have h12E : H15 p12 = some (.lst (natsV acc)) := s15 _ _ (s14 _ _ (s13 _ _ (s12 _ _ (s11 _ _ h12))))
        -- actual.append(-1)
        have hN : H9 p12 = none := hp12
        have n1512 : p15 ≠ p12 := fun e => by
          rw [e] at hp15
          have := s14 _ _ (s13 _ _ (s12 _ _ (s11 _ _ h12)))
          rw [this] at hp15
          cases hp15
        refine ⟨_, rfl, .inl ⟨rfl, _, SqL.of h12E⟩, _, rfl, p12, _, _, rfl, rfl, h12E, ?_, ?_⟩
        · rw [natsV_len]
          exact small1000 (by omega)
        have sF : Same H9 (upd H15 p12 (.lst (natsV acc ++ [V.int (-1)]))) := same_upd sE hN
        have h15F : upd H15 p12 (.lst (natsV acc ++ [V.int (-1)])) p15 = some (.lst (natsV acc)) := by rw [upd_ne n1512]; exact h15
        generalize upd H15 p12 (.lst (natsV acc ++ [V.int (-1)])) = H16 at sF h15F ⊢
        -- again != run
        refine ⟨_, rfl, _, rfl, _, _, dp_nats h15F, dp_nats (sF _ _ h7), PySem.W.ke_shaped_ints _, PySem.W.ke_shaped_ints _, ?_⟩
        rw [eq_refl_ints]
        refine ⟨_, rfl, iteF ?_⟩
        have s7F := s8.trans sF
        have s0F := s29.trans sF
        have hD := s7F _ _ hd7
        -- at
        refine ⟨_, rfl, a, ns, 13, rfl, s0F.seq hs, .inl ⟨_, rfl, _, rfl, D, _, rfl, .inl (SqL.of hD), _, _, rfl, rfl, _, _, rfl, rfl, ?_, ?_⟩⟩
        · show ((zs.map V.int).length : Int) + 1 ≠ 0
          omega
        refine q_at (R := fun x => gName 14 x _ _ _) (rfl : V.int (Int.fmod _ (((zs.map V.int).length : Int) + 1)) = _) ?_
        generalize Int.fmod _ (((zs.map V.int).length : Int) + 1) = at'
        -- bad
        refine ⟨_, rfl, _, rfl, _, rfl, D, _, rfl, SqL.of hD, fun c1 nc1 => ?_⟩
        have u1 : Same H9 (upd H16 c1 (.lst (cutV (zs.map V.int) none (some at')))) := sF.trans (same_new nc1)
        have g1 : upd H16 c1 (.lst (cutV (zs.map V.int) none (some at'))) c1 = some (.lst ((cutI zs none (some at')).map V.int)) := by rw [upd_same, cutV_ints]
        generalize upd H16 c1 (.lst (cutV (zs.map V.int) none (some at'))) = H17 at u1 g1 ⊢
        refine ⟨_, rfl, _, rfl, a, ns, 1, rfl, (s29.trans u1).seq hs, .inl ⟨_, rfl, _, rfl, .inl ⟨_, rfl, _, _, rfl, rfl, (by show (1000 : Int) ≠ 0; decide), _, _, rfl, rfl, small 1 (by decide), fun c2 nc2 => ?_⟩⟩⟩
        obtain ⟨nb, enb⟩ : ∃ nb : Int, nb = -1 - Int.fmod (if ns.getD 1 0 < 0 then -ns.getD 1 0 else ns.getD 1 0) 1000 := ⟨_, rfl⟩
        have hnb : nb < 0 := by
          have := Int.fmod_nonneg_of_pos (if ns.getD 1 0 < 0 then -ns.getD 1 0 else ns.getD 1 0) (show (0 : Int) < 1000 by decide)
          omega
        have u2 : Same H9 (upd H17 c2 (.lst [V.int (-1 - Int.fmod (if ns.getD 1 0 < 0 then -ns.getD 1 0 else ns.getD 1 0) 1000)])) := u1.trans (same_new nc2)
        have g1b : upd H17 c2 (.lst [V.int (-1 - Int.fmod (if ns.getD 1 0 < 0 then -ns.getD 1 0 else ns.getD 1 0) 1000)]) c1 = some (.lst ((cutI zs none (some at')).map V.int)) := same_new nc2 _ _ g1
        have g2b : upd H17 c2 (.lst [V.int (-1 - Int.fmod (if ns.getD 1 0 < 0 then -ns.getD 1 0 else ns.getD 1 0) 1000)]) c2 = some (.lst ([nb].map V.int)) := by rw [upd_same, ← enb]; rfl
        have hl1 : (cutI zs none (some at')).length ≤ 63 := Nat.le_trans (cutI_len _ _ _) hzl
        have hl2 : (cutI zs (some at') none).length ≤ 63 := Nat.le_trans (cutI_len _ _ _) hzl
        generalize upd H17 c2 (.lst [V.int (-1 - Int.fmod (if ns.getD 1 0 < 0 then -ns.getD 1 0 else ns.getD 1 0) 1000)]) = H18 at u2 g1b g2b ⊢
        refine ⟨c1, c2, _, _, rfl, rfl, g1b, g2b, ?_, fun c3 nc3 => ?_⟩
        · rw [len_ints, len_ints]
          exact small _ (by show (cutI zs none (some at')).length + 1 ≤ 1000; omega)
        have u3 := u2.trans (same_new (o := .lst ((cutI zs none (some at')).map V.int ++ [nb].map V.int)) nc3)
        have g3 : upd H18 c3 (.lst ((cutI zs none (some at')).map V.int ++ [nb].map V.int)) c3 = some (.lst ((cutI zs none (some at') ++ [nb]).map V.int)) := by rw [upd_same, List.map_append]
        generalize upd H18 c3 (.lst ((cutI zs none (some at')).map V.int ++ [nb].map V.int)) = H19 at u3 g3 ⊢
        refine ⟨_, rfl, _, rfl, _, rfl, D, _, rfl, SqL.of (u3 _ _ (s8 _ _ hd7)), fun c4 nc4 => ?_⟩
        have u4 : Same H9 (upd H19 c4 (.lst (cutV (zs.map V.int) (some at') none))) := u3.trans (same_new nc4)
        have g3b : upd H19 c4 (.lst (cutV (zs.map V.int) (some at') none)) c3 = some (.lst ((cutI zs none (some at') ++ [nb]).map V.int)) := same_new nc4 _ _ g3
        have g4 : upd H19 c4 (.lst (cutV (zs.map V.int) (some at') none)) c4 = some (.lst ((cutI zs (some at') none).map V.int)) := by rw [upd_same, cutV_ints]
        generalize upd H19 c4 (.lst (cutV (zs.map V.int) (some at') none)) = H20 at u4 g3b g4 ⊢
        refine ⟨c3, c4, _, _, rfl, rfl, g3b, g4, ?_, fun c5 nc5 => ?_⟩
        · rw [len_ints, len_ints, List.length_append, List.length_singleton]
          exact small _ (by omega)
        have u5 := u4.trans (same_new (o := .lst ((cutI zs none (some at') ++ [nb]).map V.int ++ (cutI zs (some at') none).map V.int)) nc5)
        have g5 : upd H20 c5 (.lst ((cutI zs none (some at') ++ [nb]).map V.int ++ (cutI zs (some at') none).map V.int)) c5 = some (.lst ((cutI zs none (some at') ++ [nb] ++ cutI zs (some at') none).map V.int)) := by rw [upd_same, ← List.map_append]
        generalize upd H20 c5 (.lst ((cutI zs none (some at') ++ [nb]).map V.int ++ (cutI zs (some at') none).map V.int)) = H21 at u5 g5 ⊢
        have s7G := s8.trans u5
        -- _law_refused(..)
        refine ⟨_, rfl, _, rfl, _, rfl, .ref r1, .ref ts, c5, M, s0, cutI zs none (some at') ++ [nb] ++ cutI zs (some at') none, rfl, dp_same s7G _ _ hMd7, dp_same s7G _ _ hsit7, SqL.of g5, hM, hs01, hs02, okAll, ?_, ⟨nb, List.mem_append_left _ (List.mem_append_right _ (List.mem_singleton.mpr rfl)), hnb⟩, fun H22 s22 => ?_⟩
        · rw [List.length_append, List.length_append, List.length_singleton]
          omega
        have s7H := s7G.trans s22
        -- scheduled(machine, situation, []) == []
        refine ⟨true, rfl, iteT ?_⟩
        refine ⟨_, rfl, _, rfl, Nat.zero_le _, fun e1 ne1 => ?_⟩
        have s7I := s7H.trans (same_new (o := .lst []) ne1)
        refine ⟨.ref r1, .ref ts, e1, M, s0, [], rfl, dp_same s7I _ _ hMd7, dp_same s7I _ _ hsit7, SqL.of upd_same, okAll, hM0, Nat.zero_le _, fun _ H23 e2 s23 ne2 h23 => ?_, fun ⟨z, h1, _⟩ => absurd h1 List.not_mem_nil⟩
        refine ⟨Nat.zero_le _, fun e3 ne3 => ?_⟩
        refine ⟨_, _, dp_nats (l := run M.ms s0 []) (same_new ne3 _ _ h23), dp_nats (l := []) upd_same, PySem.W.ke_shaped_ints _, PySem.W.ke_shaped_ints _, ?_⟩
        rw [show run M.ms s0 [] = [] from rfl, eq_refl_ints]
        exact q _
end
end K20

set_option Elab.async false
set_option linter.all false
set_option maxRecDepth 100000
set_option maxHeartbeats 4000000
/-! K20E: the law's call at the top, from a promise that holds under no guard. -/
namespace K20
open PySem PySem.Spec PyProof.Rows L2
/-- what is told of the script: it is a list of ints, fixed; nothing is told of it where it is an object of the module -/
def scrH (K : PySem.W.Frag) (a : Addr) (o : Obj) (xs : List V) : Hp := fun b => if b = a ∧ K.lookup a = none then some (.frz o (.lst xs)) else none
section
variable {K : PySem.W.Frag} {a b : Addr} {o : Obj} {xs : List V} {u : HO}
theorem scr_some (h : scrH K a o xs b = some u) : b = a ∧ K.lookup a = none ∧ u = .frz o (.lst xs) := by
  unfold scrH at h
  by_cases c : b = a ∧ K.lookup a = none
  · rw [if_pos c] at h
    exact ⟨c.1, c.2, (Option.some.inj h).symm⟩
  · rw [if_neg c] at h
    cases h
theorem scr_none (h : b = a → K.lookup a ≠ none) : scrH K a o xs b = none := if_neg fun c => h c.1 c.2
theorem scr_at (h : K.lookup a = none) : scrH K a o xs a = some (.frz o (.lst xs)) := if_pos ⟨rfl, h⟩
end
theorem callG {P : Program} {w : World} {K : PySem.W.Frag} {mg mb : Str → Option Value} {k : Nat} {fa a : Addr} {fd : FuncData} {x : Str} {sp : Sp} {s : Shared} {us : List Value} {ns : List Int}
    (KX : K.In s.heap) (hmg : s.heap.Ns mainGlobals mg) (hmb : s.heap.Ns builtinsNs mb) (hbb : ∀ x : Str, x ≠ "__name__" → mb x = bootBuiltins x) (hlim : s.heap.NoLimit) (hg : s.gens = #[])
    (ha : s.heap.get? a = some { cls := .type "list", data := .seq us.toArray }) (hi : IntsAre us ns) (hl : ns.length ≤ sizeLine) (hr : Room k callerA)
    (F : ∀ base : Heap, K.In base → base.Ns mainGlobals mg → FnG P w K mg base CX0 k fa fd [x] sp) (hbind : ∀ (s : Shared) (u : Value), BindsTo s fd ⟨[u], []⟩ [(x, u)])
    (hsp : ∀ H : Hp, SqL K H a (ns.map V.int) → sp [.ref a] H (fun v _ => v = .bl true) fun _ _ _ => False) :
    codeAny (model P w) callerA (.call (.ref fa) ⟨[.ref a], []⟩) (fun r s' => r = .ok (.ret (.bool true)) ∧ OldK s.heap s'.heap ∧ s'.os = s.os ∧ AllBare s'.gens) s := by
  obtain ⟨ob, eob⟩ : ∃ ob : Obj, ob = { cls := .type "list", data := .seq us.toArray } := ⟨_, rfl⟩
  obtain ⟨H, eH⟩ : ∃ H, H = scrH K a ob (ns.map V.int) := ⟨_, rfl⟩
  have rv : Vals (ns.map V.int) us := vals_ints hi
  have hz : (ns.map V.int).length ≤ sizeLine := by rw [List.length_map]; exact hl
  have told : ∀ {b u}, H b = some u → b = a ∧ K.lookup a = none ∧ u = .frz ob (.lst (ns.map V.int)) := fun h => scr_some (eH ▸ h)
  -- what stands in the base
  have free : ∀ {b : Addr} {o : Obj}, s.heap.get? b = some o → H b = none → (hidT s.heap H).get? b = some o := hidT_get
  have noDict : ∀ {b : Addr} {m : Str → Option Value}, s.heap.Ns b m → (hidT s.heap H).Ns b m := by
    rintro b m ⟨o, es, ep, h1, h2, h3⟩
    refine ⟨o, es, ep, free h1 ?_, h2, h3⟩
    cases e : H b with
    | none => rfl
    | some u =>
      obtain ⟨rfl, _, _⟩ := told e
      rw [ha] at h1
      cases h1
      exact Data.noConfusion h2
  have KB : K.In (hidT s.heap H) := fun b o h => free (KX b o h) (by
    cases e : H b with
    | none => rfl
    | some u =>
      obtain ⟨rfl, n, _⟩ := told e
      rw [n] at h
      cases h)
  have limB : (hidT s.heap H).NoLimit := by
    obtain ⟨mc, h1, h2⟩ := hlim
    exact ⟨mc, noDict h1, h2⟩
  -- the script
  have ok : HOk P w H s.heap := fun b u h => by
    obtain ⟨rfl, _, rfl⟩ := told h
    exact ⟨by rw [eob]; exact ha, hz, us, _, rv, ha⟩
  have read : SqL K H a (ns.map V.int) := by
    cases e : K.lookup a with
    | none => exact .inl (.inr ⟨ob, by rw [eH]; exact scr_at e⟩)
    | some o =>
      have h1 := KX a o e
      rw [ha] at h1
      cases h1
      refine .inr ⟨_, us.toArray, _, e, rfl, rfl, rfl, ?_, by simpa using rv⟩
      rw [List.size_toArray, hi.length]
      exact hl
  have e0 : Env0 P w K mg (hidT s.heap H) callerA [] s H :=
    { frames := rfl, mod := ⟨KB, noDict hmg, ⟨mb, noDict hmb, hbb⟩, limB⟩, bs := fun b o h => of_hidT h, bsz := Nat.le_of_eq (hidT_size _ _), funs := trivial,
      frf := fun b h => (nomatch (show b ∈ ([] : List Addr) from h)), hok := ok, bare := .of_eq hg }
  refine codeAny_mono ((F _ KB (noDict hmg)).run callerA [] s H ⟨[.ref a], []⟩ [.ref a] [.ref a] _ _ rfl hr e0 (hbind s (.ref a)) (.cons rfl .nil) (hsp H read)) fun r s' h => ?_
  match r, h with
  | .error _, h => exact h.elim
  | .ok .next, h => exact h.elim
  | .ok .brk, h => exact h.elim
  | .ok .cont, h => exact h.elim
  | .ok (.ret u), ⟨v, H', h1, h2, un, h3, r1, (q : v = .bl true)⟩ =>
    subst q
    obtain rfl : u = Value.bool true := r1
    refine ⟨rfl, OldK.of_keep fun b o g => ?_, h1, h2⟩
    cases e : H b with
    | none => exact un.keep b o g e (fun z => (nomatch (show b ∈ ([] : List Addr) from z))) (fun z => (nomatch z))
    | some y =>
      obtain ⟨_, _, rfl⟩ := told e
      have g1 := (ok b _ e).1
      have g2 := (h3 b _ (un.frzs b ob _ e)).1
      rw [g] at g1
      cases g1
      exact g2
/-- the row's walk, from the law's promise -/
theorem walkG {l : PySem.W.OpenLaw} {n k : Nat} {q : Program} {loose : List Str} {XP : (Str → Option Value) → Heap → Prop} {YP : World → Heap → Prop} {d : DefRec} {K : Params → PySem.W.Frag} {x : Str}
    (hn : l.most = some n) (hn2 : n ≤ 63) (hdf : d.params.defaults = []) (hr : Room k callerA) (hY : ∀ (w : World) (h : Heap), YP w h → (K w.params).In h)
    (F : ∀ (w : World) (mg : Str → Option Value) (fa : Addr) (h : Heap), (K w.params).In h → h.Ns mainGlobals mg → mg d.name = some (.ref fa) →
      ∃ fd : FuncData, (∀ (s : Shared) (u : Value), BindsTo s fd ⟨[u], []⟩ [(x, u)]) ∧
        ∀ base : Heap, (K w.params).In base → base.Ns mainGlobals mg → FnG l.prog w (K w.params) mg base CX0 k fa fd [x] (spLaw (K w.params))) :
    PySem.W.WalkO q loose XP YP l.row.toRowW d [] (fun f vs => PySem.call f vs) := by
  refine Att.attach_call hn hdf fun w s₀ s₁ mg mb fa o pm cd doc a vs ns G Y ho hd hcd hmg hobj hints hlen hg => ?_
  obtain ⟨fd, hb, hF⟩ := F w mg fa _ (hY w _ Y) G.T.g hmg
  have hl : ns.length ≤ 63 := Nat.le_trans hlen hn2
  exact callG (hY w _ Y) G.T.g G.T.b G.T.builtins G.T.nolimit hg hobj hints (Nat.le_trans hl (by decide)) hr hF hb fun H hS => ⟨a, ns, rfl, hS, hl, fun _ => rfl⟩
end K20

set_option Elab.async false
set_option linter.all false
set_option maxRecDepth 100000
set_option maxHeartbeats 4000000
/-! K20F: the top, from facts of the written part. -/
namespace K20
open PySem PySem.Spec PyProof.Rows L2
theorem all_mk {P : Program} {w : World} {K : PySem.W.Frag} {h : Heap} {mg : Str → Option Value} {fa C CL CN f1 f2 f3 f4 f5 f6 f7 f8 f9 f10 f11 f12 f13 f14 f15 : Addr} (X : K.In h) (G : h.Ns mainGlobals mg) (hfa : mg "law" = some (.ref fa))
    {od1 an1 od2 an2 od3 an3 od4 an4 od5 an5 od6 an6 od7 an7 od8 an8 od9 an9 od10 an10 od11 an11 od12 an12 od13 an13 od14 an14 od15 an15 : Option Addr} {sl1 sl2 sl3 sl4 sl5 sl6 sl7 sl8 sl9 sl10 sl11 sl12 sl13 sl14 sl15 : Array (Option Value)} {oc1 kV1 dc1 pm1 cd1 ct1 oc2 kV2 dc2 pm2 cd2 ct2 oc3 kV3 dc3 pm3 cd3 ct3 oc4 kV4 dc4 pm4 cd4 ct4 oc5 kV5 dc5 pm5 cd5 ct5 oc6 kV6 dc6 pm6 cd6 ct6 oc7 kV7 dc7 pm7 cd7 ct7 oc8 kV8 dc8 pm8 cd8 ct8 oc9 kV9 dc9 pm9 cd9 ct9 oc10 kV10 dc10 pm10 cd10 ct10 oc11 kV11 dc11 pm11 cd11 ct11 oc12 kV12 dc12 pm12 cd12 ct12 oc13 kV13 dc13 pm13 cd13 ct13 oc14 kV14 dc14 pm14 cd14 ct14 oc15 kV15 dc15 pm15 cd15 ct15 : Value}
    (a1 : PySem.W.nsIn K mainGlobals "check_move" = some (some (.ref f1))) (l1 : K.lookup f1 = some ⟨oc1, od1, .func (PySem.W.fnOf "check_move" "check_move" (defArgs sCheck) (defBody sCheck) (defScope sCheck) .none kV1 dc1 pm1 an1 cd1 ct1), sl1⟩) (c1 : PySem.W.codeIn K cd1 "check_move" = true) (k1 : PySem.W.keepIn K (.ref f1) = true)
    (a2 : PySem.W.nsIn K mainGlobals "is_possible" = some (some (.ref f2))) (l2 : K.lookup f2 = some ⟨oc2, od2, .func (PySem.W.fnOf "is_possible" "is_possible" (defArgs sPoss) (defBody sPoss) (defScope sPoss) .none kV2 dc2 pm2 an2 cd2 ct2), sl2⟩) (c2 : PySem.W.codeIn K cd2 "is_possible" = true) (k2 : PySem.W.keepIn K (.ref f2) = true)
    (a3 : PySem.W.nsIn K mainGlobals "after" = some (some (.ref f3))) (l3 : K.lookup f3 = some ⟨oc3, od3, .func (PySem.W.fnOf "after" "after" (defArgs sAfter) (defBody sAfter) (defScope sAfter) .none kV3 dc3 pm3 an3 cd3 ct3), sl3⟩) (c3 : PySem.W.codeIn K cd3 "after" = true) (k3 : PySem.W.keepIn K (.ref f3) = true)
    (a4 : PySem.W.nsIn K mainGlobals "possible_moves" = some (some (.ref f4))) (l4 : K.lookup f4 = some ⟨oc4, od4, .func (PySem.W.fnOf "possible_moves" "possible_moves" (defArgs sMoves) (defBody sMoves) (defScope sMoves) .none kV4 dc4 pm4 an4 cd4 ct4), sl4⟩) (c4 : PySem.W.codeIn K cd4 "possible_moves" = true) (k4 : PySem.W.keepIn K (.ref f4) = true)
    (a5 : PySem.W.nsIn K mainGlobals "situations" = some (some (.ref f5))) (l5 : K.lookup f5 = some ⟨oc5, od5, .func (PySem.W.fnOf "situations" "situations" (defArgs sSits) (defBody sSits) (defScope sSits) .none kV5 dc5 pm5 an5 cd5 ct5), sl5⟩) (c5 : PySem.W.codeIn K cd5 "situations" = true) (k5 : PySem.W.keepIn K (.ref f5) = true)
    (a6 : PySem.W.nsIn K mainGlobals "follow" = some (some (.ref f6))) (l6 : K.lookup f6 = some ⟨oc6, od6, .func (PySem.W.fnOf "follow" "follow" (defArgs sFollow) (defBody sFollow) (defScope sFollow) .none kV6 dc6 pm6 an6 cd6 ct6), sl6⟩) (c6 : PySem.W.codeIn K cd6 "follow" = true) (k6 : PySem.W.keepIn K (.ref f6) = true)
    (a7 : PySem.W.nsIn K mainGlobals "scheduled" = some (some (.ref f7))) (l7 : K.lookup f7 = some ⟨oc7, od7, .func (PySem.W.fnOf "scheduled" "scheduled" (defArgs sSched) (defBody sSched) (defScope sSched) .none kV7 dc7 pm7 an7 cd7 ct7), sl7⟩) (c7 : PySem.W.codeIn K cd7 "scheduled" = true) (k7 : PySem.W.keepIn K (.ref f7) = true)
    (a8 : PySem.W.nsIn K mainGlobals "_law_cell" = some (some (.ref f8))) (l8 : K.lookup f8 = some ⟨oc8, od8, .func (PySem.W.fnOf "_law_cell" "_law_cell" (defArgs sCell) (defBody sCell) (defScope sCell) .none kV8 dc8 pm8 an8 cd8 ct8), sl8⟩) (c8 : PySem.W.codeIn K cd8 "_law_cell" = true) (k8 : PySem.W.keepIn K (.ref f8) = true)
    (a9 : PySem.W.nsIn K mainGlobals "_law_draws" = some (some (.ref f9))) (l9 : K.lookup f9 = some ⟨oc9, od9, .func (PySem.W.fnOf "_law_draws" "_law_draws" (defArgs sDraws) (defBody sDraws) (defScope sDraws) .none kV9 dc9 pm9 an9 cd9 ct9), sl9⟩) (c9 : PySem.W.codeIn K cd9 "_law_draws" = true) (k9 : PySem.W.keepIn K (.ref f9) = true)
    (a10 : PySem.W.nsIn K mainGlobals "_law_pairs" = some (some (.ref f10))) (l10 : K.lookup f10 = some ⟨oc10, od10, .func (PySem.W.fnOf "_law_pairs" "_law_pairs" (defArgs sPairs) (defBody sPairs) (defScope sPairs) .none kV10 dc10 pm10 an10 cd10 ct10), sl10⟩) (c10 : PySem.W.codeIn K cd10 "_law_pairs" = true) (k10 : PySem.W.keepIn K (.ref f10) = true)
    (a11 : PySem.W.nsIn K mainGlobals "_law_machine" = some (some (.ref f11))) (l11 : K.lookup f11 = some ⟨oc11, od11, .func (PySem.W.fnOf "_law_machine" "_law_machine" (defArgs sMach) (defBody sMach) (defScope sMach) .none kV11 dc11 pm11 an11 cd11 ct11), sl11⟩) (c11 : PySem.W.codeIn K cd11 "_law_machine" = true) (k11 : PySem.W.keepIn K (.ref f11) = true)
    (a12 : PySem.W.nsIn K mainGlobals "_law_after" = some (some (.ref f12))) (l12 : K.lookup f12 = some ⟨oc12, od12, .func (PySem.W.fnOf "_law_after" "_law_after" (defArgs sLAfter) (defBody sLAfter) (defScope sLAfter) .none kV12 dc12 pm12 an12 cd12 ct12), sl12⟩) (c12 : PySem.W.codeIn K cd12 "_law_after" = true) (k12 : PySem.W.keepIn K (.ref f12) = true)
    (a13 : PySem.W.nsIn K mainGlobals "_law_can" = some (some (.ref f13))) (l13 : K.lookup f13 = some ⟨oc13, od13, .func (PySem.W.fnOf "_law_can" "_law_can" (defArgs sLCan) (defBody sLCan) (defScope sLCan) .none kV13 dc13 pm13 an13 cd13 ct13), sl13⟩) (c13 : PySem.W.codeIn K cd13 "_law_can" = true) (k13 : PySem.W.keepIn K (.ref f13) = true)
    (a14 : PySem.W.nsIn K mainGlobals "_law_refused" = some (some (.ref f14))) (l14 : K.lookup f14 = some ⟨oc14, od14, .func (PySem.W.fnOf "_law_refused" "_law_refused" (defArgs sRef) (defBody sRef) (defScope sRef) .none kV14 dc14 pm14 an14 cd14 ct14), sl14⟩) (c14 : PySem.W.codeIn K cd14 "_law_refused" = true) (k14 : PySem.W.keepIn K (.ref f14) = true)
    (a15 : PySem.W.nsIn K mainGlobals "law" = some (some (.ref f15))) (l15 : K.lookup f15 = some ⟨oc15, od15, .func (PySem.W.fnOf "law" "law" (defArgs sLaw) (defBody sLaw) (defScope sLaw) .none kV15 dc15 pm15 an15 cd15 ct15), sl15⟩) (c15 : PySem.W.codeIn K cd15 "law" = true) (k15 : PySem.W.keepIn K (.ref f15) = true)
    (z_len : PySem.W.nsIn K mainGlobals "len" = some none)
    (z_range : PySem.W.nsIn K mainGlobals "range" = some none)
    (z_list : PySem.W.nsIn K mainGlobals "list" = some none)
    (z_any : PySem.W.nsIn K mainGlobals "any" = some none)
    (z_int : PySem.W.nsIn K mainGlobals "int" = some none)
    (z_abs : PySem.W.nsIn K mainGlobals "abs" = some none)
    (z_min : PySem.W.nsIn K mainGlobals "min" = some none)
    (z_repr : PySem.W.nsIn K mainGlobals "repr" = some none)
    (z_isinstance : PySem.W.nsIn K mainGlobals "isinstance" = some none)
    (z_ValueError : PySem.W.nsIn K mainGlobals "ValueError" = some none)
    (gC : PySem.W.nsIn K mainGlobals "OutOfRange" = some (some (.ref C))) (gL : PySem.W.nsIn K mainGlobals "LegionError" = some (some (.ref CL))) (gN : PySem.W.nsIn K mainGlobals "NotPossible" = some (some (.ref CN)))
    (xC : PySem.W.excIn K C [.type "ValueError", .type "Exception", .type "BaseException", .type "object"] "ValueError.__new__" = true) (kC : PySem.W.keepIn K (.ref C) = true) (bC : PySem.W.subIn K (.ref C) (.type "BaseException") = some true)
    (tC : PySem.W.typeIn K (.ref C) = some (.type "type")) (hC : PySem.W.hasDictIn K C = true) (sC : PySem.W.subIn K (.ref C) (.ref C) = some true)
    (e1 : PySem.W.findIn K (.ref C) "__getattribute__" = some (some (.builtin "BaseException.__getattribute__"))) (e2 : PySem.W.findIn K (.ref C) "__getattr__" = some none) (e3 : PySem.W.findIn K (.ref C) "__class__" = some (some (.builtin "object.__class__")))
    (e4 : PySem.W.specialIn K (.builtin "object.__class__") "__get__" = some (some (.builtin "getset_descriptor.__get__"))) (e5 : PySem.W.takesIn K (.builtin "object.__class__") = some true) (e6 : PySem.W.mroIn K C (.type "object") = some true)
    (iL : PySem.W.kitOne K (.ref C) (.ref CL) = some true) (iV : PySem.W.kitOne K (.ref C) (.type "ValueError") = some true) (iN : PySem.W.kitOne K (.ref C) (.ref CN) = some false) :
    ∃ fd : FuncData, (∀ (s : Shared) (u : Value), BindsTo s fd ⟨[u], []⟩ [("_law_script", u)]) ∧ ∀ base : Heap, K.In base → base.Ns mainGlobals mg → FnG P w K mg base CX0 7 fa fd ["_law_script"] (spLaw K) := by
  have e := hfa.symm.trans (PySem.W.mg_of X G a15)
  cases e
  have F1 := fun_mk (st := sCheck) l1 c1 k1
  have A1 : At K mg "check_move" sCheck ["machine", "move"] _ _ := ⟨F1, PySem.W.mg_of X G a1, F1.binds (ps := ["machine", "move"]) fun _ _ _ _ _ _ us hl => match us, hl with | [_, _], _ => rfl⟩
  have F2 := fun_mk (st := sPoss) l2 c2 k2
  have A2 : At K mg "is_possible" sPoss ["machine", "situation", "move"] _ _ := ⟨F2, PySem.W.mg_of X G a2, F2.binds (ps := ["machine", "situation", "move"]) fun _ _ _ _ _ _ us hl => match us, hl with | [_, _, _], _ => rfl⟩
  have F3 := fun_mk (st := sAfter) l3 c3 k3
  have A3 : At K mg "after" sAfter ["machine", "situation", "move"] _ _ := ⟨F3, PySem.W.mg_of X G a3, F3.binds (ps := ["machine", "situation", "move"]) fun _ _ _ _ _ _ us hl => match us, hl with | [_, _, _], _ => rfl⟩
  have F4 := fun_mk (st := sMoves) l4 c4 k4
  have A4 : At K mg "possible_moves" sMoves ["machine", "situation"] _ _ := ⟨F4, PySem.W.mg_of X G a4, F4.binds (ps := ["machine", "situation"]) fun _ _ _ _ _ _ us hl => match us, hl with | [_, _], _ => rfl⟩
  have F5 := fun_mk (st := sSits) l5 c5 k5
  have A5 : At K mg "situations" sSits ["machine", "situation", "run"] _ _ := ⟨F5, PySem.W.mg_of X G a5, F5.binds (ps := ["machine", "situation", "run"]) fun _ _ _ _ _ _ us hl => match us, hl with | [_, _, _], _ => rfl⟩
  have F6 := fun_mk (st := sFollow) l6 c6 k6
  have A6 : At K mg "follow" sFollow ["machine", "situation", "run"] _ _ := ⟨F6, PySem.W.mg_of X G a6, F6.binds (ps := ["machine", "situation", "run"]) fun _ _ _ _ _ _ us hl => match us, hl with | [_, _, _], _ => rfl⟩
  have F7 := fun_mk (st := sSched) l7 c7 k7
  have A7 : At K mg "scheduled" sSched ["machine", "situation", "schedule"] _ _ := ⟨F7, PySem.W.mg_of X G a7, F7.binds (ps := ["machine", "situation", "schedule"]) fun _ _ _ _ _ _ us hl => match us, hl with | [_, _, _], _ => rfl⟩
  have F8 := fun_mk (st := sCell) l8 c8 k8
  have A8 : At K mg "_law_cell" sCell ["_law_script", "_law_k"] _ _ := ⟨F8, PySem.W.mg_of X G a8, F8.binds (ps := ["_law_script", "_law_k"]) fun _ _ _ _ _ _ us hl => match us, hl with | [_, _], _ => rfl⟩
  have F9 := fun_mk (st := sDraws) l9 c9 k9
  have A9 : At K mg "_law_draws" sDraws ["_law_cell_here", "_law_limits"] _ _ := ⟨F9, PySem.W.mg_of X G a9, F9.binds (ps := ["_law_cell_here", "_law_limits"]) fun _ _ _ _ _ _ us hl => match us, hl with | [_, _], _ => rfl⟩
  have F10 := fun_mk (st := sPairs) l10 c10 k10
  have A10 : At K mg "_law_pairs" sPairs ["_law_cell_here", "_law_places"] _ _ := ⟨F10, PySem.W.mg_of X G a10, F10.binds (ps := ["_law_cell_here", "_law_places"]) fun _ _ _ _ _ _ us hl => match us, hl with | [_, _], _ => rfl⟩
  have F11 := fun_mk (st := sMach) l11 c11 k11
  have A11 : At K mg "_law_machine" sMach ["_law_cell_here", "_law_cells", "_law_shifting"] _ _ := ⟨F11, PySem.W.mg_of X G a11, F11.binds (ps := ["_law_cell_here", "_law_cells", "_law_shifting"]) fun _ _ _ _ _ _ us hl => match us, hl with | [_, _, _], _ => rfl⟩
  have F12 := fun_mk (st := sLAfter) l12 c12 k12
  have A12 : At K mg "_law_after" sLAfter ["_law_move", "_law_counts"] _ _ := ⟨F12, PySem.W.mg_of X G a12, F12.binds (ps := ["_law_move", "_law_counts"]) fun _ _ _ _ _ _ us hl => match us, hl with | [_, _], _ => rfl⟩
  have F13 := fun_mk (st := sLCan) l13 c13 k13
  have A13 : At K mg "_law_can" sLCan ["_law_machine_here", "_law_situation"] _ _ := ⟨F13, PySem.W.mg_of X G a13, F13.binds (ps := ["_law_machine_here", "_law_situation"]) fun _ _ _ _ _ _ us hl => match us, hl with | [_, _], _ => rfl⟩
  have F14 := fun_mk (st := sRef) l14 c14 k14
  have A14 : At K mg "_law_refused" sRef ["_law_machine_here", "_law_situation", "_law_schedule"] _ _ := ⟨F14, PySem.W.mg_of X G a14, F14.binds (ps := ["_law_machine_here", "_law_situation", "_law_schedule"]) fun _ _ _ _ _ _ us hl => match us, hl with | [_, _, _], _ => rfl⟩
  have F15 := fun_mk (st := sLaw) l15 c15 k15
  have A15 : At K mg "law" sLaw ["_law_script"] _ _ := ⟨F15, PySem.W.mg_of X G a15, F15.binds (ps := ["_law_script"]) fun _ _ _ _ _ _ us hl => match us, hl with | [_], _ => rfl⟩
  have T : ExcTxt K mg C := ⟨PySem.W.mg_of X G gC, xC, kC, bC, tC, PySem.W.exm_ref bC hC tC sC⟩
  have U : ClsTxt K mg C CL CN := ⟨PySem.W.mg_of X G gL, PySem.W.mg_of X G gN, PySem.W.mg_none_of X G z_ValueError, PySem.W.mg_none_of X G z_isinstance, ⟨e1, e2, bC, hC, e3, e4, e5, e6⟩, iL, iV, iN⟩
  have W : AllTxt K mg := ⟨PySem.W.mg_none_of X G z_len, PySem.W.mg_none_of X G z_range, PySem.W.mg_none_of X G z_list, PySem.W.mg_none_of X G z_any, PySem.W.mg_none_of X G z_int, PySem.W.mg_none_of X G z_abs, PySem.W.mg_none_of X G z_min, PySem.W.mg_none_of X G z_repr⟩
  exact ⟨_, fun s u => .of_eq rfl, fun base _ _ => ok_law A15 A1 A2 A3 A4 A5 A6 A7 A8 A9 A10 A11 A12 A13 A14 T U W⟩
end K20

set_option linter.all false
open PySem PySem.W PyProof.Rows in
set_option maxRecDepth 100000 in
set_option maxHeartbeats 0 in
theorem PySem.Challenge.cw_legion_k20_whole_schedules_select_runs_holds : PySem.Challenge.rw_legion_k20_whole_schedules_select_runs.Holds := by
  w_on; o_law; k_head; (case hw => w_witness2)
  k_fill
  refine K20.walkG (l := PySem.Challenge.rw_legion_k20_whole_schedules_select_runs) (n := 63) (k := 7) (x := "_law_script") rfl (by decide) rfl ⟨rfl, by decide, by decide⟩ (fun w h Y => PySem.W.kIn_of Y) ?F
  case F =>
    intro w mg fa h KX G hmg
    refine' K20.all_mk KX G hmg ?a1 ?l1 ?c1 ?k1 ?a2 ?l2 ?c2 ?k2 ?a3 ?l3 ?c3 ?k3 ?a4 ?l4 ?c4 ?k4 ?a5 ?l5 ?c5 ?k5 ?a6 ?l6 ?c6 ?k6 ?a7 ?l7 ?c7 ?k7 ?a8 ?l8 ?c8 ?k8 ?a9 ?l9 ?c9 ?k9 ?a10 ?l10 ?c10 ?k10 ?a11 ?l11 ?c11 ?k11 ?a12 ?l12 ?c12 ?k12 ?a13 ?l13 ?c13 ?k13 ?a14 ?l14 ?c14 ?k14 ?a15 ?l15 ?c15 ?k15 ?z_len ?z_range ?z_list ?z_any ?z_int ?z_abs ?z_min ?z_repr ?z_isinstance ?z_ValueError ?gC ?gL ?gN ?xC ?kC ?bC ?tC ?hC ?sC ?e1 ?e2 ?e3 ?e4 ?e5 ?e6 ?iL ?iV ?iN
    (case a1 => first | k_is | rfl | decide +kernel)
    (case l1 => first | k_is | rfl | decide +kernel)
    (case c1 => first | k_is | rfl | decide +kernel)
    (case k1 => first | k_is | rfl | decide +kernel)
    (case a2 => first | k_is | rfl | decide +kernel)
    (case l2 => first | k_is | rfl | decide +kernel)
    (case c2 => first | k_is | rfl | decide +kernel)
    (case k2 => first | k_is | rfl | decide +kernel)
    (case a3 => first | k_is | rfl | decide +kernel)
    (case l3 => first | k_is | rfl | decide +kernel)
    (case c3 => first | k_is | rfl | decide +kernel)
    (case k3 => first | k_is | rfl | decide +kernel)
    (case a4 => first | k_is | rfl | decide +kernel)
    (case l4 => first | k_is | rfl | decide +kernel)
    (case c4 => first | k_is | rfl | decide +kernel)
    (case k4 => first | k_is | rfl | decide +kernel)
    (case a5 => first | k_is | rfl | decide +kernel)
    (case l5 => first | k_is | rfl | decide +kernel)
    (case c5 => first | k_is | rfl | decide +kernel)
    (case k5 => first | k_is | rfl | decide +kernel)
    (case a6 => first | k_is | rfl | decide +kernel)
    (case l6 => first | k_is | rfl | decide +kernel)
    (case c6 => first | k_is | rfl | decide +kernel)
    (case k6 => first | k_is | rfl | decide +kernel)
    (case a7 => first | k_is | rfl | decide +kernel)
    (case l7 => first | k_is | rfl | decide +kernel)
    (case c7 => first | k_is | rfl | decide +kernel)
    (case k7 => first | k_is | rfl | decide +kernel)
    (case a8 => first | k_is | rfl | decide +kernel)
    (case l8 => first | k_is | rfl | decide +kernel)
    (case c8 => first | k_is | rfl | decide +kernel)
    (case k8 => first | k_is | rfl | decide +kernel)
    (case a9 => first | k_is | rfl | decide +kernel)
    (case l9 => first | k_is | rfl | decide +kernel)
    (case c9 => first | k_is | rfl | decide +kernel)
    (case k9 => first | k_is | rfl | decide +kernel)
    (case a10 => first | k_is | rfl | decide +kernel)
    (case l10 => first | k_is | rfl | decide +kernel)
    (case c10 => first | k_is | rfl | decide +kernel)
    (case k10 => first | k_is | rfl | decide +kernel)
    (case a11 => first | k_is | rfl | decide +kernel)
    (case l11 => first | k_is | rfl | decide +kernel)
    (case c11 => first | k_is | rfl | decide +kernel)
    (case k11 => first | k_is | rfl | decide +kernel)
    (case a12 => first | k_is | rfl | decide +kernel)
    (case l12 => first | k_is | rfl | decide +kernel)
    (case c12 => first | k_is | rfl | decide +kernel)
    (case k12 => first | k_is | rfl | decide +kernel)
    (case a13 => first | k_is | rfl | decide +kernel)
    (case l13 => first | k_is | rfl | decide +kernel)
    (case c13 => first | k_is | rfl | decide +kernel)
    (case k13 => first | k_is | rfl | decide +kernel)
    (case a14 => first | k_is | rfl | decide +kernel)
    (case l14 => first | k_is | rfl | decide +kernel)
    (case c14 => first | k_is | rfl | decide +kernel)
    (case k14 => first | k_is | rfl | decide +kernel)
    (case a15 => first | k_is | rfl | decide +kernel)
    (case l15 => first | k_is | rfl | decide +kernel)
    (case c15 => first | k_is | rfl | decide +kernel)
    (case k15 => first | k_is | rfl | decide +kernel)
    (case z_len => first | k_is | rfl | decide +kernel)
    (case z_range => first | k_is | rfl | decide +kernel)
    (case z_list => first | k_is | rfl | decide +kernel)
    (case z_any => first | k_is | rfl | decide +kernel)
    (case z_int => first | k_is | rfl | decide +kernel)
    (case z_abs => first | k_is | rfl | decide +kernel)
    (case z_min => first | k_is | rfl | decide +kernel)
    (case z_repr => first | k_is | rfl | decide +kernel)
    (case z_isinstance => first | k_is | rfl | decide +kernel)
    (case z_ValueError => first | k_is | rfl | decide +kernel)
    (case gC => first | k_is | rfl | decide +kernel)
    (case gL => first | k_is | rfl | decide +kernel)
    (case gN => first | k_is | rfl | decide +kernel)
    (case xC => k_exc)
    (case kC => first | k_is | rfl | decide +kernel)
    (case bC => first | k_is | rfl | decide +kernel)
    (case tC => first | k_is | rfl | decide +kernel)
    (case hC => first | k_is | rfl | decide +kernel)
    (case sC => first | k_is | rfl | decide +kernel)
    (case e1 => first | k_is | rfl | decide +kernel)
    (case e2 => first | k_is | rfl | decide +kernel)
    (case e3 => first | k_is | rfl | decide +kernel)
    (case e4 => first | k_is | rfl | decide +kernel)
    (case e5 => first | k_is | rfl | decide +kernel)
    (case e6 => first | k_is | rfl | decide +kernel)
    (case iL => first | k_is | rfl | decide +kernel)
    (case iV => first | k_is | rfl | decide +kernel)
    (case iN => first | k_is | rfl | decide +kernel)
