import PyProof.Rows.All
import Wide.All
import OpenK.AllK
import Wide.FinOn
import HandS.ForMost
import HandS.DictComp
import HandS.Star
import HandS.MethStar
import HandS.Nested
import HandS.ExcInit
import KE.KSuper
import KE.KExcSuper
import HandS.ExcOwn
import HandS.ExcIs
import HandS.ExcField
import HandS.TryMany
import KE.KExcIs
import KE.KExcPX
import HandS.IsInst
import HandS.CallSlots
import HandS.NoneIn
import HandS.WordsExc
import HandS.Zip
import HandS.Small
import HandS.Style
import HandS.Flow
import HandS.Iter
import HandS.Conv
import KE.SortData
import PySem.Challenge.RW_everybowl_k26_whole_bowl_rows
import KE.HD3
import HandS.HeadHook1
import PyProof.TupleOfSeq
import HandS.HeadEnd
section
set_option Elab.async false
set_option linter.all false
set_option maxRecDepth 100000
set_option maxHeartbeats 4000000
/-! comprehensions of several clauses, of any accumulator: one lemma (walk_loop) for a clause's loop in whatever context it stands -/
namespace KB
open PySem PySem.Spec PyProof.Rows L2
abbrev WB : Type := (Shared → Prop) → (Value → Shared → Prop) → Shared → Prop
abbrev TB : Type := L2.St → Hp → (Hp → Prop) → Prop
/-- an `if` of a clause after the ones ahead of it -/
abbrev oneTest (env : Env) (c : Expr) (r : Bool) : Sem (ForInStep Bool) := if r = true then do let ok ← isTrue c env (eval c env); pure (ForInStep.yield ok) else pure (ForInStep.yield r)
abbrev tests (ifs : List Expr) (env : Env) : Sem Bool := forIn ifs true (oneTest env)
section
variable (prog : Program) (w : World) (A : Around)
/-- an error of a turn, as the loop's result -/
abbrev Bad (env : Env) (R : Result → Shared → Prop) : Value → Shared → Prop := notedBy (model prog w) A env fun x s' => R (.error x) s'
/-- what a clause's kept turn does: the next clause -/
def bClause (e : Expr) (k : Nat) (iter : Expr) (acc : Value) (env : Env) : WB := fun P E s =>
  wpAny (model prog w) A (eval iter env) (fun x s4 => wpAny (model prog w) A (pyIter x) (fun it1 s5 =>
    codeAny (model prog w) A (.compStart e k it1 acc env) (fun r s' => match r with
      | .ok _ => P s'
      | .error _ => False) s5) E s4) E s
def bList (elt : Expr) (acc : Value) (env : Env) : WB := fun P E s =>
  wpAny (model prog w) A (eval elt env) (fun x s4 => wpAny (model prog w) A (call (.builtin "list.append") [acc, x]) (fun _ s5 => P s5) E s4) E s
def bDict (kx vx : Expr) (D : Addr) (env : Env) : WB := fun P E s =>
  wpAny (model prog w) A (eval kx env) (fun kv s4 => wpAny (model prog w) A (eval vx env) (fun vv s5 => wpAny (model prog w) A (dictSet D kv vv) (fun _ s6 => P s6) E s5) E s4) E s
/-- one turn: the item, its target, the tests; b where they hold -/
def turnW (tg : Expr) (ifs : List Expr) (env : Env) (b : WB) (it : Value) (stop next : Shared → Prop) (E : Value → Shared → Prop) (s : Shared) : Prop :=
  wpAny (model prog w) A (pyNext it) (fun r s1 => match r with
    | none => stop s1
    | some v => wpAny (model prog w) A (letOwnedTupleGo tg it v) (fun _ s2 => wpAny (model prog w) A (assign tg env v) (fun _ s3 =>
        wpAny (model prog w) A (tests ifs env) (fun ok s4 => match ok with
          | true => b next E s4
          | false => next s4) E s3) E s2) E s1) E s
/-- the loop of a clause, by its turn and a measure -/
def LoopOk (e : Expr) (k : Nat) (tg : Expr) (ifs : List Expr) (acc : Value) (env : Env) (b : WB) : Prop :=
  ∀ (R : Result → Shared → Prop) (it : Value) (I : Nat → Shared → Prop),
    (∀ n s, I n s → turnW prog w A tg ifs env b it (R (.ok .next)) (fun s' => ∃ m, m < n ∧ I m s') (Bad prog w A env R) s) →
    ∀ n s, I n s → codeAny (model prog w) A (.compLoop e k it acc env) R s
def StartOk (e : Expr) (k : Nat) (acc : Value) (env : Env) : Prop :=
  ∀ (R : Result → Shared → Prop) (s : Shared) (it : Value), codeAny (model prog w) A (.compLoop e k it acc env) R s →
    wpAny (model prog w) A (pyIter it) (fun it' s' => codeAny (model prog w) A (.compLoop e k it' acc env) R s') (Bad prog w A env R) s →
    codeAny (model prog w) A (.compStart e k it acc env) R s
end
/-- behind a turn's body: the slots at vs may be changed -/
structure PBd (X : Cx) (vs : List Nat) (b : WB) (t : TB) : Prop where
  run : ∀ (pins : List (Addr × Obj)) (s : Shared) (σ : L2.St) (H : Hp) (Q : Hp → Prop) (E : Value → Shared → Prop), Inv X pins σ H s → t σ H Q → b (fun s' => ∃ H', Inv X pins (wipe σ vs) H' s' ∧ Q H') E s
/-- the body's post may be weakened -/
structure Mono (b : WB) : Prop where
  mono : ∀ {P P' : Shared → Prop} {E : Value → Shared → Prop} {s : Shared}, b P E s → (∀ s', P s' → P' s') → b P' E s
section
variable {A : Around} {prog : Program} {w : World}
theorem mono_clause {e : Expr} {k : Nat} {iter : Expr} {acc : Value} {env : Env} : Mono (bClause prog w A e k iter acc env) := ⟨fun {P P' E s} h hp =>
  thn h fun x s4 h4 => thn h4 fun it s5 h5 => codeAny_mono h5 fun r s' hr => by
    cases r with
    | ok f => exact hp s' hr
    | error e => exact hr⟩
theorem mono_list {elt : Expr} {acc : Value} {env : Env} : Mono (bList prog w A elt acc env) := ⟨fun {P P' E s} h hp => thn h fun x s4 h4 => thn h4 fun _ s5 h5 => hp s5 h5⟩
theorem mono_dict {kx vx : Expr} {D : Addr} {env : Env} : Mono (bDict prog w A kx vx D env) := ⟨fun {P P' E s} h hp => thn h fun x s4 h4 => thn h4 fun _ s5 h5 => thn h5 fun _ s6 h6 => hp s6 h6⟩
end
section
variable {X : Cx}
/-- the last: an item appended -/
abbrev tApp (te : TE) (D : Addr) : TB := fun σ H Q => te σ H fun y H1 => ∃ acc, H1 D = some (.lst acc) ∧ acc.length < sizeLine ∧ Q (upd H1 D (.lst (acc ++ [y])))
theorem pbd_list {elt : Expr} {te : TE} {D : Addr} (hx : X.xe = fun _ _ => False) (he : PE X elt te) : PBd X [] (bList X.prog X.w X.A elt (.ref D) X.env) (tApp te D) := by
  refine ⟨fun pins s σ H Q E I h => ?_⟩
  have z := he.run pins s σ H _ I h
  rw [hx] at z
  refine thnF z fun x s4 ⟨y, H1, I1, r1, acc, hD, hz, q⟩ => ?_
  exact app_ok I1 hD hz r1 fun s' I' => ⟨_, I', q⟩
/-- d[k] = v by a comprehension, the key a tuple -/
theorem d_dictSetT {pins : List (Addr × Obj)} {σ : L2.St} {H : Hp} {s : Shared} {E : Value → Shared → Prop} {D b : Addr} {kvs : List (List Key × V)} {k : List Key} {v : V} {r : Value} {Q : Unit → Shared → Prop} (hu : X.A.units + 1 < cLine) (I : Inv X pins σ H s) (hD : H D = some (.dT kvs)) (hz : kvs.length < sizeLine)
    (eb : H b = some (.tup (k.map kV))) (rv : RelV v r) (h : ∀ s', Inv X pins σ (upd H D (.dT (putK kvs k v))) s' → Q () s') : wpAny (model X.prog X.w) X.A (dictSet D (.ref b) r) Q E s := by
  obtain ⟨z, hd, xs, rel, old⟩ := dt_of I.hok hD
  have short : xs.length ≤ sizeLine := Nat.le_trans (Nat.le_of_eq (Paired.length rel).symm) z
  refine wpAny_dictSet_heap (hsz := short) (Nat.lt_of_succ_lt hu) (key_of I.hok eb) old fun h' new hs => h _ ?_
  obtain ⟨o, es, ep, ho, n1, n2, n3, n4, n5⟩ := new
  have put : ∀ {c : Addr} {ys : List V}, H c = some (.tup ys) → upd H D (.dT (putK kvs k v)) c = some (.tup ys) := fun ec => (upd_ne (ne_of ec hD (fun z => nomatch z))).trans ec
  exact d_write I (by rw [hD]; exact True.intro) hs ⟨o, ho⟩ ⟨Nat.le_trans (length_putK kvs k v) hz, hd, _, (rel.put k eb rv).keeps fun c ys ec => put ec, o, es, ep, ho, n1, n2, n3, n5⟩
end
section
variable {X : Cx}
def tDpT (tk tv : TE) (D : Addr) : TB := fun σ H Q => tk σ H fun y H1 => tv σ H1 fun z H2 => ∃ b kvs ks, y = .ref b ∧ H2 b = some (.tup (List.map kV ks)) ∧ H2 D = some (.dT kvs) ∧ kvs.length < sizeLine ∧ Q (upd H2 D (.dT (putK kvs ks z)))
theorem pbd_dict {kx vx : Expr} {tk tv : TE} {D : Addr} (hx : X.xe = fun _ _ => False) (hu : X.A.units + 1 < cLine) (hk : PE X kx tk) (hv : PE X vx tv) : PBd X [] (bDict X.prog X.w X.A kx vx D X.env) (tDpT tk tv D) := by
  refine ⟨fun pins s σ H Q E I h => ?_⟩
  have z := hk.run pins s σ H _ I h
  rw [hx] at z
  refine thnF z fun kv s4 ⟨y, H1, I1, r1, q1⟩ => ?_
  have z := hv.run pins s4 σ H1 _ I1 q1
  rw [hx] at z
  refine thnF z fun vv s5 ⟨v, H2, I2, r2, b, kvs, ks, ey, eb, hD, hz, q⟩ => ?_
  subst ey
  obtain rfl : kv = Value.ref b := r1
  exact d_dictSetT hu I2 hD hz eb r2 fun s' I' => ⟨_, I', q⟩
theorem wipe_len2 {σ σ2 : L2.St} {vs vs1 : List Nat} (e : wipe σ2 vs = wipe σ vs) : (wipe σ vs).length = (wipe σ2 vs1).length := by
  rw [← e, wipe_length, wipe_length]
theorem wipe_weak {σ σ2 : L2.St} {vs vs1 : List Nat} (e : wipe σ2 vs = wipe σ vs) (hv : ∀ i ∈ vs1, i ∈ vs) (j : Nat) (v : V) (h : (wipe σ vs)[j]? = some (some v)) : (wipe σ2 vs1)[j]? = some (some v) := by
  rw [← e] at h
  have in_ := wipe_some h
  rw [wipe_out fun z => in_.2 (hv j z)]
  exact in_.1
/-- what is wanted of a clause's walk from a heap on: W by turn and measure, Nx what a turn is to reach, Z the end -/
abbrev Rnd (g : TG) (tt : TT) (tb : TB) (vs : List Nat) (σ : L2.St) (J : It) (Z : Hp → Prop) (H0 : Hp) : Prop := ∃ W : Nat → Nat → Hp → Prop, (∃ m, W 0 m H0) ∧ ∀ i m H, W i m H →
  (J.stop i H ∧ Z H) ∨ (J.go i H ∧ ∃ Nx : Hp → Prop, (∀ H', Nx H' → ∃ m', m' < m ∧ W (i + 1) m' H') ∧
    ∀ x H', J.yld i H x H' → g x (wipe σ vs) H' fun σ2 H2 => wipe σ2 vs = wipe σ vs ∧ tt σ2 H2 fun b H3 => if b = true then tb σ2 H3 Nx else Nx H3)
/-- what holds between two turns -/
def Betw (Y : Cx) (pins : List (Addr × Obj)) (τ : L2.St) (fp : List Addr) (tn : Nat → Heap → Prop) (W : Nat → Nat → Hp → Prop) (n : Nat) (s : Shared) : Prop :=
  ∃ j H, Inv Y pins τ H s ∧ tn j s.heap ∧ (∀ b ∈ fp, H b = none) ∧ W j n H
/-- the turn is over: what the walk holds was pinned at st, so it stands as it stood -/
theorem betw_end {Y : Cx} {pins : List (Addr × Obj)} {τ σ9 : L2.St} {fp : List Addr} {it : Addr} {tg : Expr} {J : It} {tn : Nat → Heap → Prop} {W : Nat → Nat → Hp → Prop} {j m' : Nat} {h : Heap} {H' : Hp} {s' : Shared}
    (T : Turn Y.prog Y.w Y.K tg J fp it tn) (st : tn j h) (I : Inv Y (pins ++ pinsAt fp h) σ9 H' s') (hl : τ.length = σ9.length) (hk : ∀ (i : Nat) v, τ[i]? = some (some v) → σ9[i]? = some (some v)) (hw : W j m' H') : Betw Y pins τ fp tn W m' s' := by
  have stood : ∀ b ∈ fp, ∀ o, h.get? b = some o → s'.heap.get? b = some o ∧ H' b = none := fun b hb o eo => by
    have p := I.pin (b, o) (List.mem_append_right _ (List.mem_append_right _ (mem_pinsAt hb eo)))
    exact ⟨p.1, p.2.1⟩
  refine ⟨j, H', I.unpinned.weak hl hk, T.keep _ _ _ st fun b hb o eo => (stood b hb o eo).1, fun b hb => ?_, hw⟩
  have ⟨o, eo, _⟩ := T.obj _ _ st b hb
  exact (stood b hb o eo).2
/-- a clause's loop, in any context in which errors are not awaited -/
theorem walk_loop {Y : Cx} {pins : List (Addr × Obj)} {σ : L2.St} {H0 : Hp} {s : Shared} {e tg : Expr} {k : Nat} {ifs : List Expr} {acc : Value} {b : WB} {g : TG} {tt : TT} {tb : TB} {vs vs1 : List Nat} {fp : List Addr} {it : Addr} {J : It} {tn : Nat → Heap → Prop} {Z : Hp → Prop} {R : Result → Shared → Prop}
    (hx : Y.xe = fun _ _ => False) (hc : Y.calm = true) (T : Turn Y.prog Y.w Y.K tg J fp it tn) (lo : LoopOk Y.prog Y.w Y.A e k tg ifs acc Y.env b) (mo : Mono b) (hg : PG Y tg g) (ht : PTs Y ifs tt) (hb : PBd Y vs1 b tb) (hv : ∀ i ∈ vs1, i ∈ vs)
    (still : ∀ {σ' : L2.St} {H' : Hp} {s' : Shared}, Inv Y pins σ' H' s' → (∀ b ∈ fp, H' b = none) → ∀ b ∈ fp, FpOk Y pins H' b)
    (hR : Rnd g tt tb vs σ J Z H0) (I : Inv Y pins (wipe σ vs) H0 s) (st : tn 0 s.heap) (nf : ∀ b ∈ fp, H0 b = none) (out : ∀ H s, Inv Y pins (wipe σ vs) H s → Z H → R (.ok .next) s) :
    codeAny (model Y.prog Y.w) Y.A (.compLoop e k (.ref it) acc Y.env) R s := by
  obtain ⟨W, ⟨m0, w0⟩, turn⟩ := hR
  refine lo R _ (Betw Y pins (wipe σ vs) fp tn W) (fun n s1 q => ?_) m0 s ⟨0, H0, I, st, nf, w0⟩
  obtain ⟨j, H1, I1, t1, n1, w1⟩ := q
  have fok := still I1 n1
  unfold turnW
  rcases turn j n H1 w1 with ⟨hstop, z⟩ | ⟨hgo, Nx, less, step⟩
  · refine thnF (T.done Y rfl rfl rfl hc j pins s1 _ H1 (fun _ _ => False) I1 fok t1 hstop) fun r s2 d => ?_
    rw [d.1]
    exact out H1 s2 d.2 z
  · refine thnF (T.item Y rfl rfl rfl hc j pins s1 _ H1 (fun _ _ => False) I1 fok t1 hgo) fun r s2 d => ?_
    obtain ⟨u, ur, d⟩ := d
    rw [ur]
    refine thnF d fun _ s3 ⟨x, H3, I3, r3, y3, t3, n3⟩ => ?_
    have P3 := I3.pinned (still I3 n3) (T.obj _ _ t3)
    have a := hg.run _ s3 _ H3 x u _ P3 r3 (step x H3 y3)
    rw [hx] at a
    refine thnF a fun _ s4 ⟨σ4, H4, I4, ew, q4⟩ => ?_
    have c := ht.run _ s4 σ4 H4 _ I4 q4
    rw [hx] at c
    refine thnF c fun ok s5 d5 => ?_
    obtain ⟨H5, I5, q5⟩ := d5
    cases ok with
    | false =>
      have ⟨m', lt, w'⟩ := less H5 (by simpa using q5)
      refine ⟨m', lt, betw_end T t3 I5 (by rw [← ew, wipe_length]) (fun i v ei => ?_) w'⟩
      rw [← ew] at ei
      exact (wipe_some ei).1
    | true =>
      refine mo.mono (hb.run _ s5 σ4 H5 Nx _ I5 (by simpa using q5)) fun s6 d6 => ?_
      obtain ⟨H6, I6, q6⟩ := d6
      have ⟨m', lt, w'⟩ := less H6 q6
      exact ⟨m', lt, betw_end T t3 I6 (wipe_len2 ew) (wipe_weak ew hv) w'⟩
/-- a clause behind the first: its walk, its store, its tests, its body -/
def tCl (wi : TI) (g : TG) (tt : TT) (tb : TB) (vs : List Nat) : TB := fun σ H Q => wi σ H fun J H1 => Rnd g tt tb vs σ J Q H1
theorem pbd_clause {e : Expr} {k : Nat} {tg iter : Expr} {ifs : List Expr} {acc : Value} {b : WB} {wi : TI} {g : TG} {tt : TT} {tb : TB} {vs vs1 : List Nat} (hx : X.xe = fun _ _ => False) (hc : X.calm = true)
    (lo : LoopOk X.prog X.w X.A e k tg ifs acc X.env b) (st : StartOk X.prog X.w X.A e k acc X.env) (mo : Mono b) (hi : PI X tg iter wi) (hg : PG X tg g) (ht : PTs X ifs tt) (hb : PBd X vs1 b tb) (hv : ∀ i ∈ vs1, i ∈ vs) :
    PBd X vs (bClause X.prog X.w X.A e k iter acc X.env) (tCl wi g tt tb vs) := by
  refine ⟨fun pins s σ H Q E I h => ?_⟩
  have z := hi.run pins s σ H _ I h
  rw [hx] at z
  refine thnF z fun xv s1 hv1 => thnF hv1 fun itv s2 come => ?_
  obtain ⟨it, fp, tn, J, H2, rfl, I2, T, t0, f0, hR⟩ := come
  have I2w : Inv X pins (wipe σ vs) H2 s2 := I2.weak (wipe_length _ _) fun j v ej => (wipe_some ej).1
  have go := walk_loop (acc := acc) (R := fun r s' => match r with
      | .ok _ => ∃ H', Inv X pins (wipe σ vs) H' s' ∧ Q H'
      | .error _ => False) hx hc T lo mo hg ht hb hv (fun _ nn b hb => ⟨nn b hb, (f0 b hb).2⟩) hR I2w t0 (fun b hb => (f0 b hb).1) fun H' s' I' q => ⟨H', I', q⟩
  exact st _ _ _ go (T.self X.A 0 _ _ _ t0 go)
/-- the first clause: the walk outside, the rest in the block; o0 the new object -/
def tC0 (wi : TI) (o0 : HO) (g : TG) (tt : TT) (tb : Addr → TB) (vs : List Nat) : TE := fun σ H Q => wi σ H fun J H1 => ∀ D, H1 D = none → Rnd g tt (tb D) vs σ J (Q (.ref D)) (upd H1 D o0)
/-- what the walk holds is older than the new object -/
theorem fp_new {pins : List (Addr × Obj)} {H2 : Hp} {s2 s3 : Shared} {tg : Expr} {J : It} {fp : List Addr} {it : Addr} {tn : Nat → Heap → Prop} (o0 : HO) (T : Turn X.prog X.w X.K tg J fp it tn) (t2 : tn 0 s2.heap) (f2 : ∀ b ∈ fp, FpOk X pins H2 b) (more : s3.heap.objs.size = s2.heap.objs.size + 1) (b : Addr) (hb : b ∈ fp) :
    FpOk X pins (upd H2 s2.heap.objs.size o0) b ∧ b < s3.heap.objs.size := by
  have ⟨o, eo, _⟩ := T.obj _ _ t2 b hb
  have lt := Heap.lt_size eo
  have ⟨n2, rest⟩ := f2 b hb
  exact ⟨⟨(upd_ne (Nat.ne_of_lt lt)).trans n2, rest⟩, by rw [more]; exact Nat.lt_succ_of_lt lt⟩
section
variable {pins : List (Addr × Obj)} {σ σ6 : L2.St} {H3 H6 : Hp} {s3 s6 : Shared} {scope : Scope} {ce : Env} {fp : List Addr}
theorem blk_still (I : Inv (X.blk s3 H3 scope ce fp) [] σ6 H6 s6) (nn : ∀ b ∈ fp, H6 b = none) (b : Addr) (hb : b ∈ fp) : FpOk (X.blk s3 H3 scope ce fp) [] H6 b := by
  have f := I.ok.exf b hb
  exact ⟨nn b hb, f.1, I.ok.exfs b hb, .inl hb, f.2, fun p hp => nomatch hp⟩
/-- out of the block -/
theorem blk_out (I3 : Inv X pins σ H3 s3) (f3 : ∀ b ∈ fp, FpOk X pins H3 b ∧ b < s3.heap.objs.size) (cL : ce.locals = s3.heap.objs.size) (I : Inv (X.blk s3 H3 scope ce fp) [] σ6 H6 s6) :
    Inv X pins σ H6 s6 ∧ (∃ m, s6.heap.Ns s3.heap.objs.size m) ∧ FpOk X pins H6 s3.heap.objs.size := by
  have own : H6 ce.locals = none ∧ ∃ m, s6.heap.Ns ce.locals m := ⟨I.free, let ⟨m, ns, _⟩ := I.loc; ⟨m, ns⟩⟩
  rw [cL] at own
  refine ⟨I3.call' (ch := fp) I.os I.base I.hok I.bare fun b hb => ?_, own.2, I3.fpOk (Nat.le_refl _) own.1⟩
  have ⟨_, a1, _, a2, a3, a4⟩ := (f3 b hb).1
  exact ⟨a2, a1, a3, a4⟩
end
theorem c0_core {pins : List (Addr × Obj)} {s : Shared} {σ : L2.St} {H : Hp} {Q : VK} {e tg iter : Expr} {gs : List Comprehension} {ifs : List Expr} {scope : Scope} {own : List (Str × Nat)} {vs1 : List Nat} {pos' : Pos} {wi : TI} {g : TG} {tt : TT} {tb : Addr → TB} {o0 : HO} {newAcc : Sem Value} {b : Value → Env → WB}
    {use : Option (Value → Sem Unit)} {Qf : Value → Shared → Prop}
    (hc : X.calm = true) (hN : X.N.Nodup) (I : Inv X pins σ H s) (hcl : clausesOf e = ⟨tg, iter, ifs, 0⟩ :: gs) (hi : PI X tg iter wi) (ok : BlkOk X.N X.env.scope scope own) (hv : ∀ i ∈ vs1, i ∈ own.map (·.2))
    (hacc : ∀ (s2 : Shared) (H2 : Hp) (R : Value → Shared → Prop), Inv X pins σ H2 s2 → (∀ s3 : Shared, Inv X pins σ (upd H2 s2.heap.objs.size o0) s3 → s3.heap.objs.size = s2.heap.objs.size + 1 → (∀ b o, s2.heap.get? b = some o → s3.heap.get? b = some o) → R (.ref s2.heap.objs.size) s3) →
      wpAny (model X.prog X.w) X.A newAcc R X.xe s2)
    (hg : ∀ s H C cl fp, PG (X.blk s H scope (compEnvC scope cl C X.env) fp) tg g) (ht : ∀ s H C cl fp, PTs (X.blk s H scope (compEnvC scope cl C X.env) fp) ifs tt)
    (hb : ∀ s H C cl fp D, PBd (X.blk s H scope (compEnvC scope cl C X.env) fp) vs1 (b (.ref D) (compEnvC scope cl C X.env)) (tb D))
    (mo : ∀ (D : Addr) (env : Env), Mono (b (.ref D) env)) (lo : ∀ (D : Addr) (env : Env), LoopOk X.prog X.w X.A e 0 tg ifs (.ref D) env (b (.ref D) env)) (st : ∀ (D : Addr) (env : Env), StartOk X.prog X.w X.A e 0 (.ref D) env) (hs : ∀ x, foldedSetIterable iter X.env x = pure x)
    (h : tC0 wi o0 g tt tb (own.map (·.2)) σ H Q)
    (fin : ∀ D C s' m H', Inv X pins σ H' s' → Q (.ref D) H' → s'.heap.Ns C m → FpOk X pins H' C → compPost (model X.prog X.w) X.A X.xe use Qf (.ref D) C (.ok .next) s') :
    wpAny (model X.prog X.w) X.A (comprehension e scope X.env pos' newAcc false (eval iter X.env) use) Qf X.xe s := by
  have clo := closure_ok (scope := scope) (env := X.env) fun y hy ey => (ok.free y hy ey).elim (fun k => I.ok.has _ (.inl k)) fun k => I.ok.has _ (.inr k)
  have ev := hi.run pins s σ H _ I h
  refine wpAny_comprehension_free (use := use) hcl hs clo ok.kind (fun y hy ey => (ok.uniq y hy).trans (congrArg some ey)) (thn ev fun xv s1 q1 => thn q1 fun itv s2 come => ?_)
  obtain ⟨it, fp, tn, J, H2, rfl, I2, T, t2, f2, q⟩ := come
  refine hacc s2 H2 _ I2 fun s3 I3 more kept => newEnv_comp ?_
  have f3 := fp_new o0 T t2 f2 more
  have hR := q s2.heap.objs.size (I2.hok.fresh (Nat.le_refl _))
  have inside := block_start I3 ok hN f3
  have t4 := T.keep _ _ _ t2 fun b _ o eo => pushCells_keeps scope.names _ _ _ (Heap.get?_push_of_some { cls := .type "dict", data := .dict #[] } (kept b o eo))
  have go := walk_loop (Y := X.blk s3 (upd H2 s2.heap.objs.size o0) scope (compEnvC scope (cellsFrom (s3.heap.objs.size + 1) scope.names (cloFrom X.env.cells scope.names [])) s3.heap.objs.size X.env) fp) (R := compPost (model X.prog X.w) X.A X.xe use Qf (.ref s2.heap.objs.size) s3.heap.objs.size) rfl hc T (lo s2.heap.objs.size _) (mo _ _) (hg s3 _ _ _ fp) (ht s3 _ _ _ fp) (hb s3 _ _ _ fp _) hv blk_still hR inside t4 (fun b hb => (f3 b hb).1.1) fun H' s' I' z => by
    have ⟨I6, ⟨m, ns⟩, fC⟩ := blk_out I3 f3 rfl I'
    exact fin _ _ s' m H' I6 z ns fC
  exact st _ _ _ _ _ go (T.self X.A 0 _ _ _ t4 go)
end
end KB
end

section
set_option Elab.async false
set_option linter.all false
set_option maxRecDepth 100000
set_option maxHeartbeats 4000000
/-! the clauses' loops and starts, at any depth: list and dict comprehensions -/
namespace KB
open PySem PySem.Spec PyProof.Rows L2
section
variable {prog : Program} {w : World} {A : Around} {elt kx vx tg i tg1 i1 : Expr} {ifs ifs1 : List Expr} {gens : List Comprehension} {scope : Scope} {pos : Pos} {k : Nat} {acc : Value} {D : Addr} {env : Env}
/-- a turn of e's clause k -/
def TurnOk (prog : Program) (w : World) (A : Around) (e : Expr) (k : Nat) (tg : Expr) (ifs : List Expr) (acc : Value) (env : Env) (b : WB) : Prop :=
  ∀ (it : Value) (stop next : Shared → Prop) (E : Value → Shared → Prop) (P : Fin → Shared → Prop) (s : Shared), turnW prog w A tg ifs env b it stop next E s →
    (∀ s', stop s' → P (.done .next) s') → (∀ s', next s' → P (.again (.compLoop e k it acc env)) s') → wpAny (model prog w) A (compTurn e k it acc env) P E s
theorem loopL {b : WB} (h : TurnOk prog w A (.ListComp elt gens scope pos) k tg ifs acc env b) : LoopOk prog w A (.ListComp elt gens scope pos) k tg ifs acc env b :=
  fun R it I turn n s hs => codeAny_loop rfl I (fun m s1 q => wpAny_noted (h it _ _ _ _ s1 (turn m s1 q) (fun _ z => z) fun _ z => ⟨rfl, z⟩)) n hs
theorem loopD {b : WB} (h : TurnOk prog w A (.DictComp kx vx gens scope pos) k tg ifs acc env b) : LoopOk prog w A (.DictComp kx vx gens scope pos) k tg ifs acc env b :=
  fun R it I turn n s hs => codeAny_loop rfl I (fun m s1 q => wpAny_noted (h it _ _ _ _ s1 (turn m s1 q) (fun _ z => z) fun _ z => ⟨rfl, z⟩)) n hs
theorem turnL_last (h0 : gens[k]? = some ⟨tg, i, ifs, 0⟩) (h1 : gens[k + 1]? = none) : TurnOk prog w A (.ListComp elt gens scope pos) k tg ifs acc env (bList prog w A elt acc env) := by
  intro it stop next E P s h hstop hnext
  unfold compTurn
  simp only [h0, h1, bne_self_eq_false, Bool.false_eq_true, ite_false]
  refine wpAny_bind (wpAny_standAt (wpAny_bind (thn h fun r s1 q1 => ?_)))
  match r, q1 with
  | none, q1 => exact wpAny_pure (hstop s1 q1)
  | some v, q1 =>
    refine wpAny_bind (thn q1 fun _ s2 q2 => wpAny_bind (thn q2 fun _ s3 q3 => wpAny_bind (thn q3 fun yes s4 q4 => ?_)))
    match yes, q4 with
    | false, q4 => exact wpAny_pure (hnext s4 q4)
    | true, q4 =>
      have back : ∀ s', next s' → wpAny (model prog w) A (again (.compLoop (.ListComp elt gens scope pos) k it acc env)) P E s' := fun s' z => wpAny_pure (hnext s' z)
      exact wpAny_bind (wpAny_bind (thn q4 fun x s5 q5 => wpAny_bind (thn q5 fun _ s6 q6 => wpAny_pure (back s6 q6))))
theorem turnL_inner (h0 : gens[k]? = some ⟨tg, i, ifs, 0⟩) (h1 : gens[k + 1]? = some ⟨tg1, i1, ifs1, 0⟩) (hs : ∀ x, foldedSetIterable i1 env x = pure x) : TurnOk prog w A (.ListComp elt gens scope pos) k tg ifs acc env (bClause prog w A (.ListComp elt gens scope pos) (k + 1) i1 acc env) := by
  intro it stop next E P s h hstop hnext
  unfold compTurn
  simp only [h0, h1, bne_self_eq_false, Bool.false_eq_true, ite_false]
  refine wpAny_bind (wpAny_standAt (wpAny_bind (thn h fun r s1 q1 => ?_)))
  match r, q1 with
  | none, q1 => exact wpAny_pure (hstop s1 q1)
  | some v, q1 =>
    refine wpAny_bind (thn q1 fun _ s2 q2 => wpAny_bind (thn q2 fun _ s3 q3 => wpAny_bind (thn q3 fun yes s4 q4 => ?_)))
    match yes, q4 with
    | false, q4 => exact wpAny_pure (hnext s4 q4)
    | true, q4 =>
      have back : ∀ s', next s' → wpAny (model prog w) A (again (.compLoop (.ListComp elt gens scope pos) k it acc env)) P E s' := fun s' z => wpAny_pure (hnext s' z)
      refine wpAny_bind (thn q4 fun x s5 q5 => wpAny_bind (wpAny_standAt ?_))
      refine wpAny_bind (wpAny_of_eq (hs x) (wpAny_bind (wpAny_holding ?_)))
      refine thn q5 fun it1 s6 q6 => wpAny_bind (wpAny_runOwn ?_)
      rw [Around.mark_none]
      refine codeAny_mono q6 fun res s7 q7 => ?_
      match res, q7 with
      | .ok _, q7 => exact back s7 q7
theorem turnD_last (h0 : gens[k]? = some ⟨tg, i, ifs, 0⟩) (h1 : gens[k + 1]? = none) : TurnOk prog w A (.DictComp kx vx gens scope pos) k tg ifs (.ref D) env (bDict prog w A kx vx D env) := by
  intro it stop next E P s h hstop hnext
  unfold compTurn
  simp only [h0, h1, bne_self_eq_false, Bool.false_eq_true, ite_false]
  refine wpAny_bind (wpAny_standAt (wpAny_bind (thn h fun r s1 q1 => ?_)))
  match r, q1 with
  | none, q1 => exact wpAny_pure (hstop s1 q1)
  | some v, q1 =>
    refine wpAny_bind (thn q1 fun _ s2 q2 => wpAny_bind (thn q2 fun _ s3 q3 => wpAny_bind (thn q3 fun yes s4 q4 => ?_)))
    match yes, q4 with
    | false, q4 => exact wpAny_pure (hnext s4 q4)
    | true, q4 =>
      have back : ∀ s', next s' → wpAny (model prog w) A (again (.compLoop (.DictComp kx vx gens scope pos) k it (.ref D) env)) P E s' := fun s' z => wpAny_pure (hnext s' z)
      exact wpAny_bind (wpAny_bind (thn q4 fun kv s5 q5 => wpAny_bind (wpAny_holding (thn q5 fun vv s6 q6 => wpAny_bind (wpAny_standAt (wpAny_holding (thn q6 fun _ s7 q7 => back s7 q7)))))))
theorem turnD_inner (h0 : gens[k]? = some ⟨tg, i, ifs, 0⟩) (h1 : gens[k + 1]? = some ⟨tg1, i1, ifs1, 0⟩) (hs : ∀ x, foldedSetIterable i1 env x = pure x) : TurnOk prog w A (.DictComp kx vx gens scope pos) k tg ifs (.ref D) env (bClause prog w A (.DictComp kx vx gens scope pos) (k + 1) i1 (.ref D) env) := by
  intro it stop next E P s h hstop hnext
  unfold compTurn
  simp only [h0, h1, bne_self_eq_false, Bool.false_eq_true, ite_false]
  refine wpAny_bind (wpAny_standAt (wpAny_bind (thn h fun r s1 q1 => ?_)))
  match r, q1 with
  | none, q1 => exact wpAny_pure (hstop s1 q1)
  | some v, q1 =>
    refine wpAny_bind (thn q1 fun _ s2 q2 => wpAny_bind (thn q2 fun _ s3 q3 => wpAny_bind (thn q3 fun yes s4 q4 => ?_)))
    match yes, q4 with
    | false, q4 => exact wpAny_pure (hnext s4 q4)
    | true, q4 =>
      have back : ∀ s', next s' → wpAny (model prog w) A (again (.compLoop (.DictComp kx vx gens scope pos) k it (.ref D) env)) P E s' := fun s' z => wpAny_pure (hnext s' z)
      refine wpAny_bind (thn q4 fun x s5 q5 => wpAny_bind (wpAny_standAt ?_))
      refine wpAny_bind (wpAny_of_eq (hs x) (wpAny_bind (wpAny_holding ?_)))
      refine thn q5 fun it1 s6 q6 => wpAny_bind (wpAny_runOwn ?_)
      rw [Around.mark_none]
      refine codeAny_mono q6 fun res s7 q7 => ?_
      match res, q7 with
      | .ok _, q7 => exact back s7 q7
theorem startL (h0 : gens[k]? = some ⟨tg, i, ifs, 0⟩) : StartOk prog w A (.ListComp elt gens scope pos) k acc env := by
  intro R s it h h'
  refine codeAny_of_tree ?_
  have cl : clausesOf (.ListComp elt gens scope pos) = gens := rfl
  show wpAny _ _ ((compStart (.ListComp elt gens scope pos) k it acc env).onRaise (fun x => do noteFrame x env; standAt theWindowsPlace)) _ _ s
  refine wpAny_notedAt ?_
  unfold compStart
  simp only [cl, h0, bne_self_eq_false, Bool.false_eq_true, ite_false, Option.elim]
  refine wpAny_bind (wpAny_askSetting ?_)
  split
  · exact wpAny_pure ⟨rfl, h⟩
  · exact wpAny_bind (wpAny_rule (wpAny_bind (wpAny_standAt (wpAny_bind (thn h' fun _ s1 q => wpAny_pure ⟨rfl, q⟩)))))
theorem startD (h0 : gens[k]? = some ⟨tg, i, ifs, 0⟩) : StartOk prog w A (.DictComp kx vx gens scope pos) k acc env := by
  intro R s it h h'
  refine codeAny_of_tree ?_
  have cl : clausesOf (.DictComp kx vx gens scope pos) = gens := rfl
  show wpAny _ _ ((compStart (.DictComp kx vx gens scope pos) k it acc env).onRaise (fun x => do noteFrame x env; standAt theWindowsPlace)) _ _ s
  refine wpAny_notedAt ?_
  unfold compStart
  simp only [cl, h0, bne_self_eq_false, Bool.false_eq_true, ite_false, Option.elim]
  refine wpAny_bind (wpAny_askSetting ?_)
  split
  · exact wpAny_pure ⟨rfl, h⟩
  · exact wpAny_bind (wpAny_rule (wpAny_bind (wpAny_standAt (wpAny_bind (thn h' fun _ s1 q => wpAny_pure ⟨rfl, q⟩)))))
end
end KB
end

section
set_option Elab.async false
set_option linter.all false
set_option maxRecDepth 100000
set_option maxHeartbeats 4000000
namespace KB
open PySem PySem.Spec PyProof.Rows L2
section
variable {X : Cx} {pins : List (Addr × Obj)} {σ : L2.St}
theorem acc_list (s2 : Shared) (H2 : Hp) (R : Value → Shared → Prop) (I : Inv X pins σ H2 s2) (h : ∀ s3 : Shared, Inv X pins σ (upd H2 s2.heap.objs.size (.lst [])) s3 → s3.heap.objs.size = s2.heap.objs.size + 1 → (∀ b o, s2.heap.get? b = some o → s3.heap.get? b = some o) → R (.ref s2.heap.objs.size) s3) :
    wpAny (model X.prog X.w) X.A (newList []) R X.xe s2 := by
  refine wpAny_newObj_type ?_ (by show 0 ≤ sizeLine; decide)
  refine h _ (I.laid (t' := s2.toks) (fun b o e => Heap.get?_push_of_some _ e) (Nat.le_refl _) ⟨Nat.zero_le _, [], 0, .nil, Heap.get?_push_size _ rfl⟩) (Heap.size_push _ _) fun b o e => Heap.get?_push_of_some _ e
theorem acc_dict (s2 : Shared) (H2 : Hp) (R : Value → Shared → Prop) (I : Inv X pins σ H2 s2) (h : ∀ s3 : Shared, Inv X pins σ (upd H2 s2.heap.objs.size (.dT [])) s3 → s3.heap.objs.size = s2.heap.objs.size + 1 → (∀ b o, s2.heap.get? b = some o → s3.heap.get? b = some o) → R (.ref s2.heap.objs.size) s3) :
    wpAny (model X.prog X.w) X.A newDict R X.xe s2 := by
  refine wpAny_newObj_type ?_
  exact h _ (I.laid (t' := s2.toks) (fun b o e => Heap.get?_push_of_some _ e) (Nat.le_refl _) (dt_empty s2.heap I.big)) (Heap.size_push _ _) fun b o e => Heap.get?_push_of_some _ e
end
section
variable {X : Cx}
/-- the block's names are let go: the new object stays -/
theorem let_go {pins : List (Addr × Obj)} {σ : L2.St} {H' : Hp} {s' : Shared} {D C : Addr} {Q : VK} {h'' : Heap} (f : FpOk X pins H' C) (sb : Heap.SameBut C s'.heap h'') (I' : Inv X pins σ H' s') (q : Q (.ref D) H') :
    ∃ v H2, Inv X pins σ H2 { s' with heap := h'' } ∧ RelV v (.ref D) ∧ Q v H2 := by
  have J := I'.turned (t' := s'.toks) (fun b o hb eo => (sb.2 b hb).trans eo) f.1 f.2.1 f.2.2.2.1 f.2.2.2.2.1 f.2.2.2.2.2
  exact ⟨V.ref D, H', J, rfl, q⟩
abbrev Blk (X : Cx) (scope : Scope) (s : Shared) (H : Hp) (C : Addr) (cl : List (Str × Addr)) (fp : List Addr) : Cx := X.blk s H scope (compEnvC scope cl C X.env) fp
/-- [elt for t0 in i0 if .. for t1 in i1 if .. for t2 in i2 if ..] -/
theorem pe_lc3 {elt t0 i0 t1 i1 t2 i2 : Expr} {ifs0 ifs1 ifs2 : List Expr} {scope : Scope} {own : List (Str × Nat)} {vs1 vs2 : List Nat} {pos : Pos} {wi0 wi1 wi2 : TI} {g0 g1 g2 : TG} {tt0 tt1 tt2 : TT} {te : TE}
    (hc : X.calm = true) (hN : X.N.Nodup) (h0 : PI X t0 i0 wi0) (ok : BlkOk X.N X.env.scope scope own) (hv1 : ∀ i ∈ vs1, i ∈ own.map (·.2)) (hv2 : ∀ i ∈ vs2, i ∈ vs1)
    (hg0 : ∀ s H C cl fp, PG (Blk X scope s H C cl fp) t0 g0) (ht0 : ∀ s H C cl fp, PTs (Blk X scope s H C cl fp) ifs0 tt0)
    (h1 : ∀ s H C cl fp, PI (Blk X scope s H C cl fp) t1 i1 wi1) (hg1 : ∀ s H C cl fp, PG (Blk X scope s H C cl fp) t1 g1) (ht1 : ∀ s H C cl fp, PTs (Blk X scope s H C cl fp) ifs1 tt1)
    (h2 : ∀ s H C cl fp, PI (Blk X scope s H C cl fp) t2 i2 wi2) (hg2 : ∀ s H C cl fp, PG (Blk X scope s H C cl fp) t2 g2) (ht2 : ∀ s H C cl fp, PTs (Blk X scope s H C cl fp) ifs2 tt2)
    (he : ∀ s H C cl fp, PE (Blk X scope s H C cl fp) elt te)
    (hs0 : ∀ x, foldedSetIterable i0 X.env x = pure x := by intro _; rfl) (hs1 : ∀ env x, foldedSetIterable i1 env x = pure x := by intro _ _; rfl) (hs2 : ∀ env x, foldedSetIterable i2 env x = pure x := by intro _ _; rfl) :
    PE X (.ListComp elt [⟨t0, i0, ifs0, 0⟩, ⟨t1, i1, ifs1, 0⟩, ⟨t2, i2, ifs2, 0⟩] scope pos) (tC0 wi0 (.lst []) g0 tt0 (fun D => tCl wi1 g1 tt1 (tCl wi2 g2 tt2 (tApp te D) vs2) vs1) (own.map (·.2))) := by
  constructor
  intro pins s σ H Q I h
  rw [eval_ListComp]
  refine c0_core (vs1 := vs1) (b := fun acc env => bClause X.prog X.w X.A (.ListComp elt [⟨t0, i0, ifs0, 0⟩, ⟨t1, i1, ifs1, 0⟩, ⟨t2, i2, ifs2, 0⟩] scope pos) 1 i1 acc env) hc hN I rfl h0 ok hv1 (fun s2 H2 R => acc_list s2 H2 R) hg0 ht0 (fun s H C cl fp D => ?_) (fun D env => mono_clause)
    (fun D env => loopL (turnL_inner rfl rfl (hs1 env))) (fun D env => startL rfl) hs0 h fun D C s' m H' I' q hn f => ⟨m, hn, fun h'' sb => ?_⟩
  · exact pbd_clause rfl hc (loopL (turnL_inner rfl rfl (hs2 _))) (startL rfl) mono_clause (h1 s H C cl fp) (hg1 s H C cl fp) (ht1 s H C cl fp)
      (pbd_clause rfl hc (loopL (turnL_last rfl rfl)) (startL rfl) mono_list (h2 s H C cl fp) (hg2 s H C cl fp) (ht2 s H C cl fp) (pbd_list rfl (he s H C cl fp)) (fun _ z => nomatch z)) hv2
  · exact let_go f sb I' q
/-- {k: v for t0 in i0 if ..}, the keys tuples -/
theorem pe_dcT1 {kx vx t0 i0 : Expr} {ifs0 : List Expr} {scope : Scope} {own : List (Str × Nat)} {pos : Pos} {wi0 : TI} {g0 : TG} {tt0 : TT} {tk tv : TE}
    (hc : X.calm = true) (hu : X.A.units + 1 < cLine) (hN : X.N.Nodup) (h0 : PI X t0 i0 wi0) (ok : BlkOk X.N X.env.scope scope own)
    (hg0 : ∀ s H C cl fp, PG (Blk X scope s H C cl fp) t0 g0) (ht0 : ∀ s H C cl fp, PTs (Blk X scope s H C cl fp) ifs0 tt0)
    (hk : ∀ s H C cl fp, PE (Blk X scope s H C cl fp) kx tk) (hv : ∀ s H C cl fp, PE (Blk X scope s H C cl fp) vx tv)
    (hs0 : ∀ x, foldedSetIterable i0 X.env x = pure x := by intro _; rfl) :
    PE X (.DictComp kx vx [⟨t0, i0, ifs0, 0⟩] scope pos) (tC0 wi0 (.dT []) g0 tt0 (fun D => tDpT tk tv D) (own.map (·.2))) := by
  constructor
  intro pins s σ H Q I h
  rw [arm_eval_DictComp]
  refine c0_core (vs1 := []) (b := fun acc env => match acc with | .ref D => bDict X.prog X.w X.A kx vx D env | _ => fun _ _ _ => False) hc hN I rfl h0 ok (fun _ z => nomatch z) (fun s2 H2 R => acc_dict s2 H2 R) hg0 ht0 (fun s H C cl fp D => ?_) (fun D env => mono_dict)
    (fun D env => loopD (turnD_last rfl rfl)) (fun D env => startD rfl) hs0 h fun D C s' m H' I' q hn f => ⟨m, hn, fun h'' sb => ?_⟩
  · exact pbd_dict rfl hu (hk s H C cl fp) (hv s H C cl fp)
  · exact let_go f sb I' q
/-- {k: v for t0 in i0 if .. for t1 in i1 if ..}, the keys tuples -/
theorem pe_dcT2 {kx vx t0 i0 t1 i1 : Expr} {ifs0 ifs1 : List Expr} {scope : Scope} {own : List (Str × Nat)} {vs1 : List Nat} {pos : Pos} {wi0 wi1 : TI} {g0 g1 : TG} {tt0 tt1 : TT} {tk tv : TE}
    (hc : X.calm = true) (hu : X.A.units + 1 < cLine) (hN : X.N.Nodup) (h0 : PI X t0 i0 wi0) (ok : BlkOk X.N X.env.scope scope own) (hv1 : ∀ i ∈ vs1, i ∈ own.map (·.2))
    (hg0 : ∀ s H C cl fp, PG (Blk X scope s H C cl fp) t0 g0) (ht0 : ∀ s H C cl fp, PTs (Blk X scope s H C cl fp) ifs0 tt0)
    (h1 : ∀ s H C cl fp, PI (Blk X scope s H C cl fp) t1 i1 wi1) (hg1 : ∀ s H C cl fp, PG (Blk X scope s H C cl fp) t1 g1) (ht1 : ∀ s H C cl fp, PTs (Blk X scope s H C cl fp) ifs1 tt1)
    (hk : ∀ s H C cl fp, PE (Blk X scope s H C cl fp) kx tk) (hv : ∀ s H C cl fp, PE (Blk X scope s H C cl fp) vx tv)
    (hs0 : ∀ x, foldedSetIterable i0 X.env x = pure x := by intro _; rfl) (hs1 : ∀ env x, foldedSetIterable i1 env x = pure x := by intro _ _; rfl) :
    PE X (.DictComp kx vx [⟨t0, i0, ifs0, 0⟩, ⟨t1, i1, ifs1, 0⟩] scope pos) (tC0 wi0 (.dT []) g0 tt0 (fun D => tCl wi1 g1 tt1 (tDpT tk tv D) vs1) (own.map (·.2))) := by
  constructor
  intro pins s σ H Q I h
  rw [arm_eval_DictComp]
  refine c0_core (vs1 := vs1) (b := fun acc env => match acc with | .ref D => bClause X.prog X.w X.A (.DictComp kx vx [⟨t0, i0, ifs0, 0⟩, ⟨t1, i1, ifs1, 0⟩] scope pos) 1 i1 (.ref D) env | _ => fun _ _ _ => False) hc hN I rfl h0 ok hv1 (fun s2 H2 R => acc_dict s2 H2 R) hg0 ht0 (fun s H C cl fp D => ?_) (fun D env => mono_clause)
    (fun D env => loopD (turnD_inner rfl rfl (hs1 env))) (fun D env => startD rfl) hs0 h fun D C s' m H' I' q hn f => ⟨m, hn, fun h'' sb => ?_⟩
  · exact pbd_clause rfl hc (loopD (turnD_last rfl rfl)) (startD rfl) mono_dict (h1 s H C cl fp) (hg1 s H C cl fp) (ht1 s H C cl fp) (pbd_dict rfl hu (hk s H C cl fp) (hv s H C cl fp)) (fun _ z => nomatch z)
  · exact let_go f sb I' q
end
end KB
end

section
set_option Elab.async false
set_option linter.all false
set_option maxRecDepth 100000
set_option maxHeartbeats 4000000
namespace KB
open PySem PySem.Spec PyProof.Rows L2
/-! readings of clauses -/
section
variable {g : TG} {tt : TT} {tb : TB} {vs : List Nat} {σ : L2.St} {Hs : Hp} {Qd : Hp → Prop}
/-- a walk of n turns -/
theorem rnd_of {J : It} {n : Nat} (Pv : Nat → Hp → Prop) (h0 : Pv 0 Hs) (hgo : ∀ i H, i < n → Pv i H → J.go i H)
    (hs : ∀ i x H H', i < n → Pv i H → J.yld i H x H' → g x (wipe σ vs) H' fun σ2 H2 => wipe σ2 vs = wipe σ vs ∧ tt σ2 H2 fun b H3 => if b = true then tb σ2 H3 (Pv (i + 1)) else Pv (i + 1) H3) (hd : ∀ H, Pv n H → J.stop n H ∧ Qd H) : Rnd g tt tb vs σ J Qd Hs := by
  refine ⟨fun i m H => m + i = n ∧ Pv i H, ⟨n, rfl, h0⟩, fun i m H ⟨em, p⟩ => ?_⟩
  cases m with
  | zero =>
    have ei : i = n := by omega
    rw [ei] at p ⊢
    exact .inl (hd H p)
  | succ m =>
    have lt : i < n := by omega
    exact .inr ⟨hgo i H lt p, Pv (i + 1), fun H' p' => ⟨m, by omega, by omega, p'⟩, fun x H' y => hs i x H H' lt p y⟩
theorem cl_range {lo : Int} {n : Nat} (Pv : Nat → Hp → Prop) (h0 : Pv 0 Hs)
    (hs : ∀ i H, i < n → Pv i H → g (.int (lo + i)) (wipe σ vs) H fun σ2 H2 => wipe σ2 vs = wipe σ vs ∧ tt σ2 H2 fun b H3 => if b = true then tb σ2 H3 (Pv (i + 1)) else Pv (i + 1) H3) (hd : ∀ H, Pv n H → Qd H) : Rnd g tt tb vs σ (Itr lo n) Qd Hs :=
  rnd_of Pv h0 (fun i _ lt _ => lt) (fun i x H H' lt p y => by rw [y.1, y.2]; exact hs i H lt p) fun H p => ⟨Nat.le_refl n, hd H p⟩
theorem cl_list {K : PySem.W.Frag} {a : Addr} {xs : List V} (Pv : Nat → Hp → Prop) (h0 : Pv 0 Hs) (hl : ∀ i H, i ≤ xs.length → Pv i H → SqL K H a xs)
    (hs : ∀ i x H, xs[i]? = some x → Pv i H → g x (wipe σ vs) H fun σ2 H2 => wipe σ2 vs = wipe σ vs ∧ tt σ2 H2 fun b H3 => if b = true then tb σ2 H3 (Pv (i + 1)) else Pv (i + 1) H3) (hd : ∀ H, Pv xs.length H → Qd H) : Rnd g tt tb vs σ (Itl K a) Qd Hs :=
  rnd_of Pv h0 (fun i H lt p => ⟨xs, _, hl i H (Nat.le_of_lt lt) p, List.getElem?_eq_getElem lt⟩) (fun i x H H' lt p y => by rw [y.1]; exact hs i x H (y.2 xs (hl i H (Nat.le_of_lt lt) p)) p)
    fun H p => ⟨⟨xs, hl _ H (Nat.le_refl _) p, Nat.le_refl _⟩, hd H p⟩
end
end KB
end

section
set_option Elab.async false
set_option linter.all false
set_option maxRecDepth 100000
set_option maxHeartbeats 4000000
namespace KB
open PySem PySem.Spec PyProof.Rows L2
section
variable {X : Cx} {CX : CXT} {k : Nat} {f C : Addr} {fd : FuncData} {ps : List Str} {sp : Sp} {E : XK}
/-- what a def hands back, to its caller -/
theorem handed {pins : List (Addr × Obj)} {σ : L2.St} {H : Hp} {s : Shared} {Q : VK} (hx : Passes CX X E) (I : Inv X pins σ H s) : ∀ (r : Result) (s' : Shared), CR CX X.stack X.prog X.w H s Q E r s' → (match r with
    | .ok (.ret v) => EP X pins σ Q v s'
    | .ok _ => False
    | .error e => X.xe e s')
  | .error _, _, q => hx _ _ _ _ _ _ I q
  | .ok (.ret _), _, q => I.after q
  | .ok .next, _, q => q
  | .ok .brk, _, q => q
  | .ok .cont, _, q => q
/-- the callee runs below a built-in -/
theorem run_fn1 {pins : List (Addr × Obj)} {σ : L2.St} {H : Hp} {s : Shared} {Q : VK} {us : List Value} {vs : List V} (F : FnOk X.prog X.w X.K X.mg X.base CX k f fd ps sp) (hr : Room (k + 1) X.A) (hb : Binds X.K fd ps []) (hx : Passes CX X E)
    (I : Inv X pins σ H s) (r : Vals vs us) (h : sp vs H Q E) : wpAny (model X.prog X.w) X.A.in1 (call (.ref f) us) (EP X pins σ Q) X.xe s := by
  have r2 : Vals vs (us ++ []) := by rw [List.append_nil]; exact r
  have hl : (us ++ []).length = ps.length := by rw [← r2.length]; exact F.len _ _ _ _ h
  exact wpAny_call (codeAny_mono (F.run X.A.in1 X.stack s H ⟨us, []⟩ (us ++ []) vs Q E hr.in1 (I.env0.in1) (hb s us I.kIn hl) r2 h) (handed hx I))
/-- a class's own __len__ -/
structure LenC (K : PySem.W.Frag) (C f : Addr) : Prop where
  fi : PySem.W.findIn K (.ref C) "__len__" = some (some (.ref f))
  fn : PySem.W.isFn K (.ref f) = true
def rLenO (C : Addr) (sp : Sp) (E : XK) : List V → Hp → VK → Prop := fun xs H Q => ∃ (a dx : Addr) (fs : List (Str × V)), xs = [.ref a] ∧ H a = some (.ins C dx fs) ∧ sp [.ref a] H (fun v H' => ∃ n : Int, v = .int n ∧ (0 ≤ n ∧ n < 2 ^ 63) ∧ Q (.int n) H') E
theorem call_lenO (L : LenC X.K C f) (F : FnOk X.prog X.w X.K X.mg X.base CX k f fd ps sp) (hr : Room (k + 1) X.A) (hb : Binds X.K fd ps []) (hx : Passes CX X E) : CallR X (.builtin "len") (rLenO C sp E) := by
  intro pins s σ H xs us Q I r h
  obtain ⟨a, dx, fs, rfl, ha, hq⟩ := h
  obtain ⟨u, rfl, ru⟩ := vals1 r
  obtain rfl : u = Value.ref a := ru
  obtain ⟨m, fr⟩ := I.fr
  obtain ⟨mA, O, _⟩ := ins_get I.hok ha
  obtain ⟨od, at_, _⟩ := O.look
  refine PySem.W.len_K fr I.ok.mod.kin at_ L.fi L.fn (thn (run_fn1 (us := [Value.ref a]) (vs := [V.ref a]) F hr hb hx I (.cons rfl .nil) hq) fun v s' ⟨x, H', I', rx, n, ex, hn, q⟩ => ?_)
  subst ex
  obtain ⟨t, rfl⟩ := rx
  exact ⟨hn, ⟨.int n, H', I'.tok _, ⟨_, rfl⟩, q⟩⟩
end
/-! o.m(*y, e) -/
theorem starcall1_of {M : Model} {A : Around} {E : Value → Shared → Prop} {s : Shared} {env : Env} {o e1 e2 : Expr} {m : Str} {p apos pos : Pos} {Q : Value → Shared → Prop} (hbase : attributeBase o m env (eval o env) = eval o env)
    (hst : starEach [.Starred e1 p, e2] env = [(true, eval e1 env), (false, eval e2 env)])
    (h : wpAny M A (eval o env) (fun ov s₁ => wpAny M A (getAttr ov m true) (fun f s₂ => wpAny M A (callWith pos f [] (backTo pos [(true, eval e1 env), (false, eval e2 env)]) []) Q E s₂) E s₁) E s) :
    wpAny M A (eval (.Call (.Attribute o m apos) [.Starred e1 p, e2] [] pos) env) Q E s := by
  have noform : methodCallForm ([Expr.Starred e1 p, e2].length + ([] : List Keyword).length) (backTo pos [(true, eval e1 env), (false, eval e2 env)]) [] = false := rfl
  have callee : ∀ ov, calleeOf false o env ov m = (getAttr ov m true >>= fun v => pure (v, [])) := fun _ => rfl
  rw [arm_eval_Call, hbase, hst, show backToKw pos (keywordEach [] env) = [] from rfl]
  refine wpAny_bind (thn h fun ov s1 q1 => wpAny_bind (wpAny_standAt ?_))
  unfold methodCall
  rw [noform, callee, show methodCallPos false o env apos pos = pure pos from rfl]
  exact wpAny_bind (wpAny_holding (wpAny_bind (thn q1 fun f s2 q2 => wpAny_pure (wpAny_bind (wpAny_pure q2)))))
theorem evalArgs_two {M : Model} {A : Around} {E : Value → Shared → Prop} {s : Shared} {f : Value} {x : Sem Value} {y : Bool × Sem Value} {rest : List (Bool × Sem Value)} {Q : Args → Shared → Prop}
    (h : wpAny M A (spliced ((true, x) :: y :: rest)) (fun vs s' => Q ⟨vs, []⟩ s') E s) : wpAny M A (evalArgs f true ((true, x) :: y :: rest) []) Q E s := by
  unfold evalArgs
  show wpAny M A (spliced ((true, x) :: y :: rest) >>= _) Q E s
  exact wpAny_bind (thn h fun vs s1 q1 => wpAny_holding (wpAny_bind (wpAny_pure (wpAny_bind (wpAny_pure (wpAny_pure q1))))))
def tMethBS (K : PySem.W.Frag) (C : Addr) (m : Str) (g : Addr) (sp : Sp) (E : XK) (ta t1 t2 : TE) : TE := fun σ H Q => ta σ H fun x H1 => ∃ a dx fs, x = .ref a ∧ H1 a = some (.ins C dx fs) ∧ fs.lookup m = none ∧
  ∀ q, H1 q = none → t1 σ (upd H1 q (.met g a)) fun y1 H2 => ∃ b vs, y1 = .ref b ∧ (SqT K H2 b vs ∨ SqL K H2 b vs) ∧ t2 σ H2 fun y2 H3 => H3 q = some (.met g a) ∧ sp (.ref a :: (vs ++ [y2])) H3 Q E
theorem pe_methBS {X : Cx} {CX : CXT} {k : Nat} {C g : Addr} {fd : FuncData} {ps : List Str} {m : Str} {sp : Sp} {E : XK} {o e1 e2 : Expr} {ta t1 t2 : TE} {p apos pos : Pos} (he : PE X o ta) (c : Cls X.K C) (b : BMeth X.K C m g) (F : FnOk X.prog X.w X.K X.mg X.base CX k g fd ps sp) (hr : Room k X.A)
    (hb : Binds X.K fd ps []) (hx : Passes CX X E) (h1 : PE X e1 t1) (h2 : PE X e2 t2) (hbase : attributeBase o m X.env (eval o X.env) = eval o X.env := by rfl)
    (hst : starEach [.Starred e1 p, e2] X.env = [(true, eval e1 X.env), (false, eval e2 X.env)] := by rfl) : PE X (.Call (.Attribute o m apos) [.Starred e1 p, e2] [] pos) (tMethBS X.K C m g sp E ta t1 t2) := by
  refine ⟨fun pins s σ H Q I h => ?_⟩
  refine starcall1_of hbase hst (thn (he.run pins s σ H _ I h) fun u s1 ⟨x, H1, I1, rx, a, dx, fs, ex, ea, l, q⟩ => ?_)
  subst ex
  obtain rfl : u = Value.ref a := rx
  refine getbound_ok I1 ea c b l fun q1 s2 hq1 I2 => ?_
  refine PySem.W.ks_call (P := PySem.W.MethP X.K q1 g (.ref a)) rfl (PySem.W.keeps_M b.fi) (evalArgs_two (PySem.W.ks_spliced (thn (h1.run pins s2 σ _ _ I2 (q q1 hq1)) fun v1 s3 ⟨y1, H2, I3, ry1, t, vs, ey, ht, q2⟩ => ?_)))
  subst ey
  obtain rfl : v1 = Value.ref t := ry1
  refine StX.star_any I3 ht fun us s4 I4 rv => Calls.spliced_cons (thn (h2.run pins s4 σ H2 _ I4 q2) fun v2 s5 ⟨y2, H3, I5, ry2, hm, hsp⟩ => Calls.spliced_nil ?_)
  show PySem.W.MethP X.K q1 g (.ref a) s5.heap ∧ wpAny (model X.prog X.w) X.A (call (.ref q1) (us ++ [v2]) []) (EP X pins σ Q) X.xe s5
  refine ⟨met_P I5 hm, wpAny_call (PySem.W.method_call (met_P I5 hm).1 ?_)⟩
  have rr : Vals (V.ref a :: (vs ++ [y2])) (Value.ref a :: (us ++ [v2])) := .cons rfl (rv.append (.cons ry2 .nil))
  have r2 : Vals (V.ref a :: (vs ++ [y2])) ((Value.ref a :: (us ++ [v2])) ++ []) := by rw [List.append_nil]; exact rr
  have hl : ((Value.ref a :: (us ++ [v2])) ++ []).length = ps.length := by rw [← r2.length]; exact F.len _ _ _ _ hsp
  exact codeAny_mono (F.run X.A X.stack s5 H3 ⟨Value.ref a :: (us ++ [v2]), []⟩ _ _ Q E hr I5.env0 (hb s5 (Value.ref a :: (us ++ [v2])) I5.kIn hl) r2 hsp) (handed hx I5)
end KB
end

section
set_option Elab.async false
set_option linter.all false
set_option maxRecDepth 100000
set_option maxHeartbeats 4000000
namespace KB
open PySem PySem.Spec PyProof.Rows L2 NdefX
/-- a method of the class at D that says super(): its words, its code, its cell -/
structure SupF (P : Program) (K : PySem.W.Frag) (mg : Str → Option Value) (F : NF) (f D : Addr) (sn : Str) : Prop where
  lk : ∃ (oc : Value) (od : Option Addr) (sl : Array (Option Value)) (doc pm ctv : Value), K.lookup f = some (⟨oc, od, .func (F.fd doc pm ctv), sl⟩ : Obj)
  code : PySem.W.codeIn K (.ref F.c) F.qual = true
  cobj : ∃ (ccl : Value) (cdd : Option Addr) (vs : Array Value) (ccs : Array (Option Value)) (file : Str) (tf : Tok), K.lookup F.c = some ⟨ccl, cdd, .fields vs, ccs⟩ ∧ vs[2]? = some (.str file tf) ∧ ((P.main.file : Str) == file) = true
  cell : ∃ (cc : Addr) (cl : Value) (cld : Option Addr) (csl : Array (Option Value)), F.cl = [(("__class__" : Str), cc)] ∧ K.lookup cc = some ⟨cl, cld, .cell (some (.ref D)), csl⟩
  cls : ∃ cd, PySem.W.clsIn K D = some cd
  par : ∃ ar : Arg, (F.params.posonlyargs ++ F.params.args).head? = some ar ∧ ar.arg = sn
  sup : mg "super" = none
  top : (P.main.scope.names.lookup ("super" : Str)).isSome = false
  ks : F.scope.names.lookup ("super" : Str) = some .globalImplicit
  kc : F.scope.names.lookup ("__class__" : Str) = some .free
  ka : F.scope.names.lookup sn = some .local
theorem cls_obj {K : PySem.W.Frag} {D : Addr} {cd : ClassData} {h : Heap} (X : K.In h) (hD : PySem.W.clsIn K D = some cd) : ∃ oD, h.get? D = some oD ∧ oD.data = .cls cd := by
  unfold PySem.W.clsIn at hD
  split at hD
  · rename_i c d cd' sl ho
    cases hD
    exact ⟨_, X _ _ ho, rfl⟩
  · cases hD
/-- super() in such a method's first statement -/
theorem sup_base {CX : CXT} {P : Program} {w : World} {K : PySem.W.Frag} {mg : Str → Option Value} {base : Heap} {N : List Str} {F : NF} {f D x C : Addr} {A A' : Around} {outer : List Env} {s : Shared} {H : Hp} {E : XK} {sn : Str}
    {σ : L2.St} {H1 : Hp} {s1 : Shared} {p0 p1 : Pos} {attr : Str} {whole : Sem Value} {Q : Value → Shared → Prop} {Ex : Value → Shared → Prop} {ox : Obj} {od : Option Obj}
    (U : SupF P K mg F f D sn) (kind : F.scope.kind = .function) {pins : List (Addr × Obj)} (I : Inv (ncx CX P w K mg base N F f A outer s H E) pins σ H1 s1) (hN : N[0]? = some sn) (h0 : σ[0]? = some (some (.ref x))) (at_ : PySem.W.InstAt s1.heap x ox C od) (hsub : PySem.W.mroIn K C (.ref D) = some true)
    (hat : (attr == ("__class__" : Str)) = false)
    (h : ∀ so (h' : Heap), s1.heap.objs.size ≤ so → h'.get? so = some (PySem.W.ks_superObj D x C) → (∀ b o, s1.heap.get? b = some o → h'.get? b = some o) → Q (.ref so) { s1 with heap := h' }) :
    _root_.PySem.wpAt (model P w) A' (.func F.body (envF F f s.heap.objs.size)) (attributeBase (.Call (.Name "super" p0) [] [] p1) attr (envF F f s.heap.objs.size) whole) Q Ex s1 := by
  have KX : K.In s1.heap := I.kIn
  obtain ⟨oc, ofd, sl, doc, pm, ctv, lk⟩ := U.lk
  obtain ⟨ccl, cdd, vs, ccs, file, tf, lc, hvs, hfile⟩ := U.cobj
  obtain ⟨cc, cl, cld, csl, ecl, lcc⟩ := U.cell
  obtain ⟨cd, hD⟩ := U.cls
  obtain ⟨ar, har, ear⟩ := U.par
  obtain ⟨oD, hD1, hD2⟩ := cls_obj KX hD
  obtain ⟨m, hn, hl⟩ := I.loc
  obtain ⟨u, ru, lu⟩ := hl 0 sn (.ref x) hN h0 (.inl U.ka)
  obtain rfl : u = Value.ref x := ru
  have hm : m sn = some (.ref x) := by
    rcases lu with ⟨_, e⟩ | ⟨k, _⟩
    · exact e
    · have k : F.scope.names.lookup sn = some .cell ∨ F.scope.names.lookup sn = some .free := k
      rw [U.ka] at k
      rcases k with k | k <;> cases k
  have hcl : (envF F f s.heap.objs.size).cells.lookup ("__class__" : Str) = some cc := by
    show F.cl.lookup ("__class__" : Str) = some cc
    rw [ecl]
    rfl
  obtain ⟨mb, hb1, hb2⟩ := I.mod.blt
  obtain ⟨hh, g, d, t, os⟩ := s1
  refine ks_wpAt_super_base (env := envF F f s.heap.objs.size) U.ks U.kc hat rfl (KX _ _ lk) rfl har rfl (KX _ _ lc) rfl hvs hfile U.top ?_
  refine PySem.W.ks_loadName_global kind U.ks (Calls.loadGlobal_builtin (env := envF F f s.heap.objs.size) (I.mod.glob.keeps I.bk) U.sup (hb1.keeps I.bk) ((hb2 "super" (by decide +kernel)).trans (by first | boot_by_name | rfl | kernel_rfl)) ⟨rfl, ?_⟩)
  refine wpAny_loadName_free kind U.kc hcl ⟨_, KX _ _ lcc, rfl⟩ ?_
  rw [ear]
  refine wpAny_loadName_local kind U.ka hn hm ?_
  refine ks_wpAny_isType_cls hD1 hD2 ⟨rfl, ?_⟩
  refine ks_wpAny_call_super hD1 hD2 at_.at_ at_.cls (fun c e => ?_) (PySem.W.looks_mroIn KX hsub) (fun h' e k => ?_)
  · have := at_.no
    unfold PySem.W.notCls at this
    rw [e] at this
    exact Bool.noConfusion this
  · exact h _ h' (Nat.le_refl _) e k
end KB
end

section
set_option Elab.async false
set_option linter.all false
set_option maxRecDepth 100000
set_option maxHeartbeats 4000000
namespace KB
open PySem PySem.Spec PyProof.Rows L2 NdefX
/-- a statement that looks at its own activation -/
structure PSA (X : Cx) (c : Code) (st : Stmt) (t : TS) : Prop where
  run : ∀ (pins : List (Addr × Obj)) (s : Shared) (σ : L2.St) (H : Hp) (D : Ends), Inv X pins σ H s → t D σ H → _root_.PySem.wpAt (model X.prog X.w) X.A c (exec st X.env) (SP X pins D) X.xe s
theorem lookup_one {k y : Str} {c c' : Addr} (e : [(k, c)].lookup y = some c') : y = k ∧ c' = c := by
  rw [List.lookup_cons] at e
  cases h : y == k with
  | true =>
    rw [h] at e
    exact ⟨eq_of_beq h, (Option.some.inj e).symm⟩
  | false =>
    rw [h] at e
    cases e
abbrev wsup (D : Addr) : List (Option V) := [some (.ref D)]
theorem cells_sup {P : Program} {K : PySem.W.Frag} {mg : Str → Option Value} {F : NF} {f D : Addr} {sn : Str} {base : Heap} {s : Shared} {H : Hp} (U : SupF P K mg F f D sn) (kin : K.In base) (bs : ∀ b o, base.get? b = some o → s.heap.get? b = some o ∧ H b = none) :
    CellsAt F.cl ["__class__"] (wsup D) s.heap H := by
  obtain ⟨cc, cl, cld, csl, ecl, lcc⟩ := U.cell
  have hb := bs _ _ (kin _ _ lcc)
  refine ⟨rfl, fun y c e => ?_, fun x y c e1 e2 => ?_, fun i y e => ?_⟩
  · rw [ecl] at e
    obtain ⟨_, rfl⟩ := lookup_one e
    exact ⟨hb.2, _, _, hb.1, rfl⟩
  · rw [ecl] at e1 e2
    rw [(lookup_one e1).1, (lookup_one e2).1]
  · cases i with
    | zero =>
      have e : ("__class__" : Str) = y := Option.some.inj e
      subst e
      refine ⟨cc, by rw [ecl]; rfl, fun v ev => ?_⟩
      have ev : some (some (V.ref D)) = some (some v) := ev
      cases ev
      exact ⟨.ref D, rfl, _, hb.1, rfl⟩
    | succ i => simp at e
/-- THE RULE: a def whose first statement says super() -/
theorem fn_sup {CX : CXT} {P : Program} {w : World} {K : PySem.W.Frag} {mg : Str → Option Value} {base : Heap} {N ps : List Str} {F : NF} {f D : Addr} {sn : Str} {k : Nat} {sp : Sp} {fd : FuncData} {st1 : Stmt} {rest : List Stmt} {oc : Value} {od : Option Addr} {sl : Array (Option Value)} {doc pm ctv : Value}
    (lk : K.lookup f = some (⟨oc, od, .func (F.fd doc pm ctv), sl⟩ : Obj)) (hfd : fd = F.fd doc pm ctv) (U : SupF P K mg F f D sn) (S : NScope N ps ["__class__"] F.scope) (len : ∀ vs H Q E, sp vs H Q E → vs.length = ps.length) (hbod : F.body = st1 :: rest)
    (hbody : ∀ (A : Around) (outer : List Env) (s : Shared) (H : Hp) (vs : List V) (Q : VK) (E : XK), Room k (A.deeper (envF F f s.heap.objs.size)) → sp vs H Q E →
      ∃ t1 t2, PSA (ncx CX P w K mg base N F f A outer s H E) (.func F.body (envF F f s.heap.objs.size)) st1 t1 ∧ PSs (ncx CX P w K mg base N F f A outer s H E) rest t2 ∧ tSeq t1 t2 { nx := fun _ H' => Q .non H', rt := Q } (startF N vs (wsup D)) H) :
    FnOk P w K mg base CX (k + 1) f fd ps sp := by
  subst hfd
  constructor
  · exact len
  intro A outer s H args us vs Q E hr e0 hb r hsp
  have hl := len _ _ _ _ hsp
  have old : ∀ b o, base.get? b = some o → s.heap.get? b = some o := fun b o e => (e0.bs b o e).1
  have KX := e0.mod.kin.keeps old
  have lim := e0.mod.nolimit.keeps old
  refine ks_codeAny_call_defAt (fd := F.fd doc pm ctv) (body := F.body) (binds := ps.zip us) hr.depth (KX _ _ lk) rfl lim (PySem.W.codeRec_of KX U.code) rfl hb S.nocell (fun ⟨n, _⟩ hy => S.par n (List.of_mem_zip hy).1) (fun h₁ hns kp => ?_) S.co S.gen S.kind
  show _root_.PySem.wpAt (model P w) (A.deeper (envF F f s.heap.objs.size)) (.func F.body (envF F f s.heap.objs.size)) (execs F.body (envF F f s.heap.objs.size)) _ _ _
  obtain ⟨t1, t2, ht1, ht2, hq⟩ := hbody A outer s H vs Q E (hr.deeper _) hsp
  have I : Inv (ncx CX P w K mg base N F f A outer s H E) [] (startF N vs (wsup D)) H { s with heap := h₁, toks := s.toks + (ps.zip us).length } := inv_startN S hr.hd e0 hl r (cells_sup U e0.mod.kin e0.bs) hns kp
  have hex : execs F.body (envF F f s.heap.objs.size) = execs (st1 :: rest) (envF F f s.heap.objs.size) := by rw [hbod]
  rw [hex]
  refine ks_wpAt_execs_cons (ks_wpAt_mono (ht1.run [] _ (startF N vs (wsup D)) H { nx := t2 { nx := fun _ H' => Q .non H', rt := Q }, rt := Q } I hq) (fun fl s' hs => ?_) fun e s' hs => hs)
  have ends : ∀ (fl : Flow) (s' : Shared), SP (ncx CX P w K mg base N F f A outer s H E) [] { nx := fun _ H' => Q .non H', rt := Q } fl s' → CR CX outer P w H s Q E (.ok (.ret (match fl with | .ret v => v | _ => .none))) s' := fun fl s' hs => match fl, hs with
    | .ret _, ⟨v, _, H', J, rv, q⟩ => ⟨v, H', J.os, J.bare, J.base, J.hok, rv, q⟩
    | .next, ⟨_, H', J, q⟩ => ⟨.non, H', J.os, J.bare, J.base, J.hok, rfl, q⟩
    | .brk, ⟨_, _, _, q⟩ => q.elim
    | .cont, ⟨_, _, _, q⟩ => q.elim
  cases fl with
  | next =>
    obtain ⟨σ', H', J, q⟩ := hs
    exact _root_.PySem.wpAt_of_wpAny (wpAny_mono (ht2.run [] s' σ' H' _ J q) (fun fl s'' hs' => ends fl s'' hs') fun e s'' z => z)
  | ret u => exact ends (.ret u) s' hs
  | brk => exact ends .brk s' hs
  | cont => exact ends .cont s' hs
/-- super().__init__(..), the base's own def -/
def tSupM (C : Addr) (i : Nat) (sp2 : Sp) (E : XK) (t : TA) : TS := fun D σ H => ∃ x dx fs, σ[i]? = some (some (.ref x)) ∧ H x = some (.ins C dx fs) ∧ t σ H fun ws H1 => sp2 (.ref x :: ws) H1 (fun _ H2 => D.nx σ H2) E
theorem psa_supM {CX : CXT} {P : Program} {w : World} {K : PySem.W.Frag} {mg : Str → Option Value} {base : Heap} {N : List Str} {F : NF} {f D C f2 : Addr} {sn : Str} {A : Around} {outer : List Env} {s : Shared} {H : Hp} {E E2 : XK} {k2 : Nat} {fd2 : FuncData} {ps2 : List Str} {sp2 : Sp} {t : TA}
    {p0 p1 ap cp ep : Pos} {e : Expr} {es : List Expr} (U : SupF P K mg F f D sn) (kind : F.scope.kind = .function) (hN : N[0]? = some sn) (hsub : PySem.W.mroIn K C (.ref D) = some true) (ho : PySem.W.nsIn K cStatics "thirdparty.any" = some none)
    (hm : PySem.W.ks_superIn K C D "__init__" = some (some (.ref f2))) (hty : PySem.W.typeIn K (.ref f2) = some (.type "function")) (hfn : PySem.W.fnIn K f2 = true)
    (F2 : FnOk P w K mg base CX k2 f2 fd2 ps2 sp2) (hr : Room k2 (A.deeper (envF F f s.heap.objs.size))) (hb : Binds K fd2 ps2 []) (hx : Passes CX (ncx CX P w K mg base N F f A outer s H E) E2) (ha : PA (ncx CX P w K mg base N F f A outer s H E) (e :: es) t)
    {pl : Sem Bool} (he : starEach (e :: es) (envF F f s.heap.objs.size) = (false, eval e (envF F f s.heap.objs.size)) :: starEach es (envF F f s.heap.objs.size) := by rfl) (hpl : (backTo cp (starEach es (envF F f s.heap.objs.size))).any (·.1) = false := by rfl)
    (hc : eval (.Call (.Attribute (.Call (.Name "super" p0) [] [] p1) "__init__" ap) (e :: es) [] cp) (envF F f s.heap.objs.size) = (do
      let ov ← attributeBase (.Call (.Name "super" p0) [] [] p1) "__init__" (envF F f s.heap.objs.size) (eval (.Call (.Name "super" p0) [] [] p1) (envF F f s.heap.objs.size))
      standAt ap.atName
      let (g, first) ← holding [ov] (getMethod ov "__init__" pl)
      callWith cp g first (backTo cp (starEach (e :: es) (envF F f s.heap.objs.size))) []) := by rfl)
    (hs : swapsWith (.Call (.Attribute (.Call (.Name "super" p0) [] [] p1) "__init__" ap) (e :: es) [] cp) none ep.line (envF F f s.heap.objs.size) = pure false := by rfl) :
    PSA (ncx CX P w K mg base N F f A outer s H E) (.func F.body (envF F f s.heap.objs.size)) (.Expr (.Call (.Attribute (.Call (.Name "super" p0) [] [] p1) "__init__" ap) (e :: es) [] cp) ep) (tSupM C 0 sp2 E2 t) := by
  refine ⟨fun pins s1 σ H1 DD I h => ?_⟩
  obtain ⟨x, dx, fs, h0, hx1, h⟩ := h
  have KX : K.In s1.heap := I.kIn
  obtain ⟨mA, O, _⟩ := ins_get I.hok hx1
  obtain ⟨od, at_, _⟩ := O.look
  refine ks_wpAt_Expr_any ?_ I.quiet hs
  refine ks_wpAt_MethodCall (pl := pl) ?_ hc
  refine sup_base (C := C) (x := x) U kind I hN h0 at_ hsub (by decide +kernel) fun so h' hso eso kp => ?_
  have I1 : Inv (ncx CX P w K mg base N F f A outer s H E) pins σ H1 { s1 with heap := h' } := I.kept (t' := s1.toks) kp
  have KX1 : K.In h' := I1.kIn
  obtain ⟨hh, g, d, tk, os⟩ := s1
  cases hcd : PySem.W.clsIn K C with
  | none =>
    unfold PySem.W.ks_superIn at hm
    rw [hcd] at hm
    cases hm
  | some cd =>
    unfold PySem.W.ks_superIn at hm
    rw [hcd] at hm
    obtain ⟨of, hof, hofc⟩ : ∃ of, h'.get? f2 = some of ∧ of.cls = .type "function" := by
      have ht' : (K.lookup f2).map (·.cls) = some (.type "function") := hty
      cases z : K.lookup f2 with
      | none => rw [z] at ht'; cases ht'
      | some of => rw [z] at ht'; exact ⟨of, KX1 _ _ z, Option.some.inj ht'⟩
    have at1 : PySem.W.InstAt h' x (PySem.W.instObj C dx) C (some od) := ⟨kp _ _ at_.1, at_.2, at_.3, by
      have := at_.4
      revert this
      cases (PySem.W.instObj C dx).dict with
      | none => exact fun z => z
      | some q => exact fun z => kp _ _ z⟩
    refine ks_wpAny_getMethod_super eso (PySem.W.looks_opaque KX1 ho) (l₀ := cd.mro) ?_ rfl KX1 hm hof hofc (PySem.W.ks_ne KX1 at1 hcd) (by decide +kernel) ?_
    · exact fun A Q E s k q => wpAny_bind ((PySem.W.looks_clsIn KX1 hcd) A _ E s k (wpAny_pure q))
    · have hq0 : h'.objs.size ≤ h'.objs.size := Nat.le_refl _
      have kp2 : ∀ b o, h'.get? b = some o → (h'.push { cls := .type "method", data := .fields #[.ref f2, .ref x] }).get? b = some o := fun b o e => Heap.get?_push_of_some _ e
      have I2 : Inv (ncx CX P w K mg base N F f A outer s H E) pins σ H1 ⟨h'.push { cls := .type "method", data := .fields #[.ref f2, .ref x] }, g, d, tk + 1, os⟩ := I1.kept (t' := tk + 1) kp2
      have hq : (h'.push { cls := .type "method", data := .fields #[.ref f2, .ref x] }).get? h'.objs.size = some (PySem.W.methodObj (.ref f2) (.ref x)) := Heap.get?_push_at rfl rfl
      have I3 : Inv (ncx CX P w K mg base N F f A outer s H E) (pins ++ [(h'.objs.size, PySem.W.methodObj (.ref f2) (.ref x))]) σ H1 ⟨h'.push { cls := .type "method", data := .fields #[.ref f2, .ref x] }, g, d, tk + 1, os⟩ := I2.pins_of fun p hp => by
        rcases List.mem_append.mp hp with z | z
        · exact I2.pin p (List.mem_append_right _ z)
        · have ep : p = (h'.objs.size, PySem.W.methodObj (.ref f2) (.ref x)) := by simpa using z
          subst ep
          exact ⟨hq, I1.hok.fresh hq0, Nat.ne_of_gt I1.lt, I1.nofs hq0, fun v z => by cases z⟩
      show wpAny (model P w) (A.deeper (envF F f s.heap.objs.size)) (callWith cp (Value.ref h'.objs.size) [] (backTo cp (starEach (e :: es) (envF F f s.heap.objs.size))) []) _ _ _
      rw [he]
      refine PySem.W.callWith_of (P := PySem.W.MethP K h'.objs.size f2 (.ref x)) (by show ((false || (backTo cp (starEach es (envF F f s.heap.objs.size))).any (·.1)) || false) = false; rw [hpl]; rfl) (PySem.W.keeps_M hfn) (Calls.evalArgs_plain ?_)
      have za := ha.run cp (pins ++ [(h'.objs.size, PySem.W.methodObj (.ref f2) (.ref x))]) _ σ H1 _ I3 h
      have za : wpAny (model P w) (A.deeper (envF F f s.heap.objs.size)) (spliced (backTo cp (starEach (e :: es) (envF F f s.heap.objs.size)))) _ _ _ := za
      rw [he] at za
      refine thn za fun us s4 ⟨ws, H4, I4, rw4, q4⟩ => ?_
      have hm4 := I4.pin (h'.objs.size, PySem.W.methodObj (.ref f2) (.ref x)) (List.mem_append_right _ (List.mem_append_right _ (by simp)))
      refine ⟨⟨hm4.1, I4.kIn⟩, ?_⟩
      show wpAny _ _ (call (.ref h'.objs.size) ([] ++ us) []) _ _ _
      refine wpAny_call (PySem.W.method_call hm4.1 ?_)
      have rr : Vals (V.ref x :: ws) ((Value.ref x :: us) ++ []) := by rw [List.append_nil]; exact .cons rfl rw4
      have hl : ((Value.ref x :: us) ++ []).length = ps2.length := by rw [← rr.length]; exact F2.len _ _ _ _ q4
      refine codeAny_mono (F2.run _ _ s4 H4 ⟨Value.ref x :: us, []⟩ _ _ _ E2 hr I4.env0 (hb s4 (Value.ref x :: us) I4.kIn hl) rr q4) fun res s' z => match res, z with
        | .error er, z => hx _ σ H4 s4 er s' I4 z
        | .ok (.ret _), z => let ⟨_, H5, I5, _, q5⟩ := I4.after z
          ⟨σ, H5, I5.unpinned, q5⟩
end KB
end

section
set_option Elab.async false
set_option linter.all false
set_option maxRecDepth 100000
set_option maxHeartbeats 4000000
namespace KB
open PySem PySem.Spec PyProof.Rows L2 NdefX
/-- ValueError.__init__, bound to an exception that is being made, called -/
theorem call_mwV {X : Cx} {pins : List (Addr × Obj)} {σ : L2.St} {H : Hp} {s : Shared} {a C u : Addr} {A : Around} {E : Value → Shared → Prop} {us : List Value} {Q : Value → Shared → Prop} (T : OexC X.K C) (I : Inv X pins σ H s) (e : H a = some (exo a C none))
    (hu : s.heap.get? u = some (PySem.W.kxs_mw "ValueError.__init__" a)) (hl : us.length ≤ sizeLine) (h : ∀ s', Inv X pins σ H s' → Q .none s') : wpAny (model X.prog X.w) A (call (.ref u) us) Q E s := by
  have ⟨_, _, _, _, _, _, _, _, _, _, _, _, _, _, _, hC, _⟩ := T.cls
  have ⟨_, ho⟩ := exo_at I.hok e
  have cls := I.kIn _ _ hC
  -- the exception's own fields change, what is tracked of it not
  have kept : ∀ (h' : Heap) (t2 : Addr), (∀ b o, b ≠ a → s.heap.get? b = some o → h'.get? b = some o) → h'.get? a = some (PySem.HandSPX.excO C t2) → Q .none { s with heap := h' } := fun h' t2 k hx => by
    have same : upd H a (exo a C none) = H := funext fun b => by
      by_cases hb : b = a
      · rw [hb, upd_same, e]
      · rw [upd_ne hb]
    have J := I.write (t' := s.toks) (o := exo a C none) (e ▸ True.intro) (.inl rfl) k ⟨_, hx⟩ (exo_ok hx)
    rw [same] at J
    exact h _ J
  obtain ⟨hp, g, d, t, os⟩ := s
  refine wpAny_runValue (codeAny_of_tree ?_)
  show wpAny _ A.in1 (callAny (.ref u) ⟨us, []⟩) _ _ _
  simp only [callAny]
  refine wpAny_bind (wpAny_load hu (?_ : wpAny _ _ _ _ _ _))
  simp only [PySem.W.kxs_mw, show (Value.type "method-wrapper" == Value.type "method" || Value.type "method-wrapper" == Value.type "builtin_function_or_method" || Value.type "method-wrapper" == Value.type "method-wrapper") = true by decide, if_true]
  refine PySem.W.KFB.if_so (by decide) (wpAny_bind (PySem.W.check_bound_init F.excBase_ValueError.toExcCallFacts cls ho rfl (wpAny_bind (wpAny_pure (wpAny_pure ⟨plainId_quiet F.excBase_ValueError.init.plain _, codeAny_builtin F.excBase_ValueError.initEntry ?_⟩)))))
  rw [Around.under_plainId F.excBase_ValueError.init.plain _]
  wp_walk
  refine kept _ hp.objs.size (fun b o hb hbo => ?_) ?_
  · exact (Heap.get?_update_other _ _ (Ne.symm hb)).trans (Heap.get?_push_of_some _ hbo)
  · exact Heap.get?_update_self _ (Heap.get?_push_of_some _ ho) rfl
/-- super().__init__(..) in an own exception's __init__ -/
def tSupE (C : Addr) (i : Nat) (t : TA) : TS := fun D σ H => ∃ x, σ[i]? = some (some (.ref x)) ∧ H x = some (exo x C none) ∧ t σ H fun ws H1 => ws.length ≤ 1000 ∧ H1 x = some (exo x C none) ∧ D.nx σ H1
theorem psa_supE {CX : CXT} {P : Program} {w : World} {K : PySem.W.Frag} {mg : Str → Option Value} {base : Heap} {N : List Str} {F : NF} {f C : Addr} {sn : Str} {A : Around} {outer : List Env} {s : Shared} {H : Hp} {E : XK} {t : TA}
    {p0 p1 ap cp ep : Pos} {e : Expr} {es : List Expr} (U : SupF P K mg F f C sn) (T : OexC K C) (kind : F.scope.kind = .function) (hN : N[0]? = some sn) (hsub : PySem.W.mroIn K C (.ref C) = some true) (ho : PySem.W.nsIn K cStatics "thirdparty.any" = some none)
    (hm : PySem.W.ks_superIn K C C "__init__" = some (some (.builtin "ValueError.__init__"))) (hB : PySem.W.subIn K (.ref C) (.type "ValueError") = some true)
    (ha : PA (ncx CX P w K mg base N F f A outer s H E) (e :: es) t)
    {pl : Sem Bool} (he : starEach (e :: es) (envF F f s.heap.objs.size) = (false, eval e (envF F f s.heap.objs.size)) :: starEach es (envF F f s.heap.objs.size) := by rfl) (hpl : (backTo cp (starEach es (envF F f s.heap.objs.size))).any (·.1) = false := by rfl)
    (hc : eval (.Call (.Attribute (.Call (.Name "super" p0) [] [] p1) "__init__" ap) (e :: es) [] cp) (envF F f s.heap.objs.size) = (do
      let ov ← attributeBase (.Call (.Name "super" p0) [] [] p1) "__init__" (envF F f s.heap.objs.size) (eval (.Call (.Name "super" p0) [] [] p1) (envF F f s.heap.objs.size))
      standAt ap.atName
      let (g, first) ← holding [ov] (getMethod ov "__init__" pl)
      callWith cp g first (backTo cp (starEach (e :: es) (envF F f s.heap.objs.size))) []) := by rfl)
    (hs : swapsWith (.Call (.Attribute (.Call (.Name "super" p0) [] [] p1) "__init__" ap) (e :: es) [] cp) none ep.line (envF F f s.heap.objs.size) = pure false := by rfl) :
    PSA (ncx CX P w K mg base N F f A outer s H E) (.func F.body (envF F f s.heap.objs.size)) (.Expr (.Call (.Attribute (.Call (.Name "super" p0) [] [] p1) "__init__" ap) (e :: es) [] cp) ep) (tSupE C 0 t) := by
  refine ⟨fun pins s1 σ H1 DD I h => ?_⟩
  obtain ⟨x, h0, hx1, h⟩ := h
  have KX : K.In s1.heap := I.kIn
  obtain ⟨t1, hox⟩ := exo_at I.hok hx1
  have at_ : PySem.W.InstAt s1.heap x ({ cls := .ref C, dict := none, data := .fields #[.ref t1, .none, .none, .none, .bool false, .none] } : Obj) C none := ⟨hox, rfl, rfl, trivial⟩
  refine ks_wpAt_Expr_any ?_ I.quiet hs
  refine ks_wpAt_MethodCall (pl := pl) ?_ hc
  refine sup_base (C := C) (x := x) U kind I hN h0 at_ hsub (by decide +kernel) fun so h' hso eso kp => ?_
  have I1 : Inv (ncx CX P w K mg base N F f A outer s H E) pins σ H1 { s1 with heap := h' } := I.kept (t' := s1.toks) kp
  have KX1 : K.In h' := I1.kIn
  obtain ⟨hh, g, d, tk, os⟩ := s1
  cases hcd : PySem.W.clsIn K C with
  | none =>
    unfold PySem.W.ks_superIn at hm
    rw [hcd] at hm
    cases hm
  | some cd =>
    unfold PySem.W.ks_superIn at hm
    rw [hcd] at hm
    have at1 : PySem.W.InstAt h' x ({ cls := .ref C, dict := none, data := .fields #[.ref t1, .none, .none, .none, .bool false, .none] } : Obj) C none := ⟨kp _ _ hox, rfl, rfl, trivial⟩
    have hI : PySem.W.Looks (model P w) h' (isInstance (.ref x) (.type "ValueError")) true := at1.type.andThen (PySem.W.looks_subIn KX1 hB)
    refine PySem.W.kxs_getMethod PySem.W.kxs_ValueError eso (PySem.W.looks_opaque KX1 ho) (l₀ := cd.mro) ?_ rfl KX1 hm hI (PySem.W.ks_ne KX1 at1 hcd) (by decide +kernel) ?_
    · exact fun A Q E s k q => wpAny_bind ((PySem.W.looks_clsIn KX1 hcd) A _ E s k (wpAny_pure q))
    · have hq0 : h'.objs.size ≤ h'.objs.size := Nat.le_refl _
      have kp2 : ∀ b o, h'.get? b = some o → (h'.push (PySem.W.kxs_mw "ValueError.__init__" x)).get? b = some o := fun b o e => Heap.get?_push_of_some _ e
      have I2 : Inv (ncx CX P w K mg base N F f A outer s H E) pins σ H1 ⟨h'.push (PySem.W.kxs_mw "ValueError.__init__" x), g, d, tk + 1, os⟩ := I1.kept (t' := tk + 1) kp2
      have hq : (h'.push (PySem.W.kxs_mw "ValueError.__init__" x)).get? h'.objs.size = some (PySem.W.kxs_mw "ValueError.__init__" x) := Heap.get?_push_at rfl rfl
      have I3 : Inv (ncx CX P w K mg base N F f A outer s H E) (pins ++ [(h'.objs.size, PySem.W.kxs_mw "ValueError.__init__" x)]) σ H1 ⟨h'.push (PySem.W.kxs_mw "ValueError.__init__" x), g, d, tk + 1, os⟩ := I2.pins_of fun p hp => by
        rcases List.mem_append.mp hp with z | z
        · exact I2.pin p (List.mem_append_right _ z)
        · have ep : p = (h'.objs.size, PySem.W.kxs_mw "ValueError.__init__" x) := by simpa using z
          subst ep
          exact ⟨hq, I1.hok.fresh hq0, Nat.ne_of_gt I1.lt, I1.nofs hq0, fun v z => by cases z⟩
      show wpAny (model P w) (A.deeper (envF F f s.heap.objs.size)) (callWith cp (Value.ref h'.objs.size) [] (backTo cp (starEach (e :: es) (envF F f s.heap.objs.size))) []) _ _ _
      rw [he]
      refine PySem.W.kxs_callWith (i := "ValueError.__init__") (x := x) (by show (false || (backTo cp (starEach es (envF F f s.heap.objs.size))).any (·.1)) = false; rw [hpl]; rfl) (Calls.evalArgs_plain ?_)
      have za := ha.run cp (pins ++ [(h'.objs.size, PySem.W.kxs_mw "ValueError.__init__" x)]) _ σ H1 _ I3 h
      have za : wpAny (model P w) (A.deeper (envF F f s.heap.objs.size)) (spliced (backTo cp (starEach (e :: es) (envF F f s.heap.objs.size)))) _ _ _ := za
      rw [he] at za
      refine thn za fun us s4 ⟨ws, H4, I4, rw4, hl4, hx4, q4⟩ => ?_
      have hm4 := I4.pin (h'.objs.size, PySem.W.kxs_mw "ValueError.__init__" x) (List.mem_append_right _ (List.mem_append_right _ (by simp)))
      refine ⟨hm4.1, ?_⟩
      show wpAny _ _ (call (.ref h'.objs.size) ([] ++ us) []) _ _ _
      have hlen : us.length ≤ sizeLine := by
        rw [← rw4.length, sizeLine_eq]
        omega
      exact call_mwV T I4 hx4 hm4.1 hlen fun s' J => ⟨σ, H4, J.unpinned, q4⟩
end KB
end

section
set_option Elab.async false
set_option linter.all false
set_option maxRecDepth 100000
set_option maxHeartbeats 4000000
namespace KB
open PySem PySem.Spec PySem.Calls PyProof.Rows PySem.W
/-! isinstance of a caught error that has its own dict: KE.KExcIs serves it -/
theorem kitx_excD {K : Frag} {x D : Addr} {ox od : Obj} (c : L2.ExcC K D) : KitX K (.ref x) (.ref D) (fun h => InstAt h x ox D (some od)) :=
  kitx_exc (let ⟨_, e, _⟩ := any_some c.hd; by rw [e]; rfl) c.hg c.hk c.hs c.ha c.hn c.ht c.hm
end KB
namespace KB
open PySem PySem.Spec PyProof.Rows L2 NdefX
/-- the exception that a suite holds, its class D, its dict dd -/
theorem inst_exc {X : Cx} {a D dd : Addr} {oe : Obj} {pn pins : List (Addr × Obj)} {σ : L2.St} {H : Hp} {s : Shared} {fs : List (Str × V)} (I : Inv (X.suite a ((a, oe) :: pn)) pins σ H s) (hz : Zc (.ref D) (some dd) oe) (hf : ∃ vs, oe.data = .fields vs) (hd : H dd = some (.xd fs)) :
    ∃ od, PySem.W.InstAt s.heap a oe D (some od) := by
  obtain ⟨ha, _⟩ := I.pin (a, oe) (List.mem_append_left _ List.mem_cons_self)
  obtain ⟨vs, hv⟩ := hf
  have hx : ObjOk X.prog X.w H s.heap dd (.xd fs) := I.hok dd _ hd
  obtain ⟨mA, hns, hr⟩ := hx
  have ⟨od, ho, _⟩ := lookIn_ns hns
  exact ⟨od, ha, hz.1, by unfold PySem.W.notCls; rw [hv] <;> rfl, by rw [hz.2]; exact ho⟩
/-- isinstance(e, c), isinstance(e, (c1, c2)): e the caught one -/
def rIsX (K : PySem.W.Frag) (D dd a : Addr) : List V → Hp → VK → Prop := fun xs H Q => (∃ fs, H dd = some (.xd fs)) ∧
  ((∃ (c : V) (u : Value) (b : Bool), xs = [.ref a, c] ∧ ClsV c u ∧ PySem.W.kitOne K (.ref D) u = some b ∧ Q (.bl b) H) ∨
    ∃ (tp : Addr) (cs : List V) (us : List Value) (b : Bool), xs = [.ref a, .ref tp] ∧ H tp = some (.tup cs) ∧ Paired ClsV cs us ∧ PySem.W.kitAny K (.ref D) us = some b ∧ Q (.bl b) H)
theorem call_isX {X : Cx} {a D dd : Addr} {oe : Obj} {pn : List (Addr × Obj)} (C : ExcC X.K D) (hz : Zc (.ref D) (some dd) oe) (hf : ∃ vs, oe.data = .fields vs) : CallR (X.suite a ((a, oe) :: pn)) (.builtin "isinstance") (rIsX X.K D dd a) := by
  intro pins s σ H xs us Q I r h
  obtain ⟨⟨fs, hd⟩, h⟩ := h
  obtain ⟨od, J⟩ := inst_exc I hz hf hd
  have KX : X.K.In s.heap := I.kIn
  rcases h with ⟨c, u, b, rfl, k, e, q⟩ | ⟨tp, cs, ws, b, rfl, hT, k, e, q⟩
  · obtain ⟨u1, u2, rfl, r1, r2⟩ := vals2 r
    obtain rfl : u1 = Value.ref a := r1
    rw [k.eq r2]
    exact PySem.W.kia_one (kitx_excD C) KX J e (fun z => nomatch z) fun tk => ⟨.bl b, H, I.tok tk, rfl, q⟩
  · have tup : ObjOk X.prog X.w H s.heap tp (.tup cs) := I.hok tp _ hT
    obtain ⟨_, its, rv, ⟨oc, odt, dt, sl⟩, at_, hc, n, hd⟩ := tup
    obtain rfl : oc = _ := hc
    obtain rfl : dt = _ := hd
    obtain ⟨u1, u2, rfl, r1, r2⟩ := vals2 r
    obtain ⟨rfl, rfl⟩ : u1 = Value.ref a ∧ u2 = Value.ref tp := ⟨r1, r2⟩
    rw [← ClsV.all k rv] at e
    exact PySem.W.kia_tup (kitx_excD C) KX J at_ e (fun z => nomatch z) fun tk => ⟨.bl b, H, I.tok tk, rfl, q⟩
/-- C(e, ..) where what is raised is wished for at the caller's slots -/
def tMakeSD (C : Addr) (sp : Sp) (E : L2.St → XK) (t : TA) : TE := fun σ H Q => t σ H fun vs H1 => ∀ x dx, H1 x = none → H1 dx = none → dx ≠ x →
  sp (.ref x :: vs) (upd (upd H1 dx (.own x)) x (.ins C dx [])) (fun v H2 => v = .non ∧ Q (.ref x) H2) (E σ)
theorem run_makeSD {X : Cx} {CX : CXT} {k : Nat} {f C : Addr} {fd : FuncData} {ps : List Str} {sp : Sp} {E : XK} {pins : List (Addr × Obj)} {σ : L2.St} {H : Hp} {s : Shared} {Q : VK} {us : List Value} {vs : List V} (M : Mk X.K C f) (F : FnOk X.prog X.w X.K X.mg X.base CX k f fd ps sp) (hr : Room (k + 1) X.A) (hb : Binds X.K fd ps [])
    (hx : PassesAt CX X σ E) (I : Inv X pins σ H s) (r : Vals vs us)
    (h : ∀ x dx, H x = none → H dx = none → dx ≠ x → sp (.ref x :: vs) (upd (upd H dx (.own x)) x (.ins C dx [])) (fun v H2 => v = .non ∧ Q (.ref x) H2) E) :
    wpAny (model X.prog X.w) X.A (call (.ref C) us [])
      (EP X pins σ Q) X.xe s := by
  have fresh : ∀ b, s.heap.objs.size ≤ b → H b = none := fun _ le => I.hok.fresh le
  have wish := h _ _ (fresh _ (Nat.le_succ _)) (fresh _ (Nat.le_refl _)) (Nat.ne_of_lt (Nat.lt_succ_self _))
  have J := Inv.made (C := C) I
  have rv : Vals (V.ref (s.heap.objs.size + 1) :: vs) ((Value.ref (s.heap.objs.size + 1) :: us) ++ []) := by
    rw [List.append_nil]
    exact .cons rfl r
  have many := rv.length.symm.trans (F.len _ _ _ _ wish)
  have run := F.run _ X.stack _ _ ⟨Value.ref (s.heap.objs.size + 1) :: us, []⟩ _ _ _ E (hr.make C us []) (J.env0.make C us []) (hb _ (Value.ref (s.heap.objs.size + 1) :: us) J.kIn many) rv wish
  refine wpAny_call (make_map (f := f) I.kIn M.makes M.init (beq_iff_eq.mp M.fn) (codeAny_mono run fun res s' q => ?_))
  match res, q with
  | .error e, q => exact hx pins _ _ e s' J q
  | .ok (.ret u), q =>
    obtain ⟨v, H2, J2, ru, rfl, q2⟩ := J.after q
    exact ⟨ru, V.ref (s.heap.objs.size + 1), H2, J2, rfl, q2⟩
theorem pe_makeSD {X : Cx} {CX : CXT} {k : Nat} {f C : Addr} {fd : FuncData} {ps : List Str} {sp : Sp} {E : L2.St → XK} {x : Str} {p pos : Pos} {e : Expr} {es : List Expr} {t : TA} (M : Mk X.K C f) (F : FnOk X.prog X.w X.K X.mg X.base CX k f fd ps sp) (hr : Room (k + 1) X.A) (hg : Gl X x) (hm : X.mg x = some (.ref C)) (hb : Binds X.K fd ps [])
    (hx : ∀ σ, PassesAt CX X σ (E σ)) (ha : PA X (e :: es) t) (hdb : (x == ("__debug__" : Str)) = false := by decide) (he : starEach (e :: es) X.env = (false, eval e X.env) :: starEach es X.env := by rfl) (hpl : (backTo pos (starEach es X.env)).any (·.1) = false := by rfl) :
    PE X (.Call (.Name x p) (e :: es) [] pos) (tMakeSD C sp E t) := by
  constructor
  intro pins s σ H Q I h
  have args := thn (ha.run pos pins s σ H _ I h) fun us s1 ⟨vs, H1, I1, r, q⟩ => And.intro I1.kIn (run_makeSD M F hr hb (hx σ) I1 r q)
  exact wpAny_Call_Name_kw (ld_glob I hg hm (PySem.W.callWith_K (h₀ := X.base) I.ok.mod.kin M.kp args he hpl) hdb)
end KB
end

section
set_option Elab.async false
set_option linter.all false
set_option maxRecDepth 100000
set_option maxHeartbeats 4000000
/-! several clauses, each with the same name; the clauses' own walk is KE.KExcPX's (clause_asZ, clause_passZ, no_clauseZ), the rest after HandS.TryMany -/
namespace KB
open PySem PySem.Spec PyProof.Rows L2 NdefX
/-- a suite's reading -/
abbrev SuT : Type := Addr → Value → Option Addr → TS
/-- behind a suite the name is gone -/
def gone (i : Nat) (D : Ends) : Ends := { nx := fun τ H => D.nx (τ.set i none) H, rt := D.rt, bk := fun τ H => D.bk (τ.set i none) H, ct := fun τ H => D.ct (τ.set i none) H }
def wManyA (K : PySem.W.Frag) (i : Nat) (Wout : WX) (D : Ends) : List (Value × SuT) → WX
  | [] => Wout
  | (c, ts) :: r => fun cls d σ H => ∃ b, PySem.W.exmOne K cls c = some b ∧ match b with
    | true => ∀ a, H a = none → ts a cls d (gone i D) (σ.set i (some (.ref a))) H
    | false => wManyA K i Wout D r cls d σ H
inductive HdsA (X : Cx) (n : Str) : List ExceptHandler → List (Value × SuT) → Prop
  | nil : HdsA X n [] []
  | cons {x : Str} {b₀ : Stmt} {suite : List Stmt} {np q : Pos} {hds : List ExceptHandler} {c : Value} {ts : SuT} {l : List (Value × SuT)} (hc : Names X x c)
      (hsu : ∀ a oe cls d pn, Zc cls d oe → (∃ vs, oe.data = .fields vs) → PSs (X.suite a ((a, oe) :: pn)) (b₀ :: suite) (ts a cls d)) (r : HdsA X n hds l) : HdsA X n (.ExceptHandler (some (.Name x np)) (some n) (b₀ :: suite) q :: hds) ((c, ts) :: l)
section
variable {X : Cx} {B : Heap} {a : Addr} {cls : Value} {d : Option Addr} {sI s' : Shared} {pins : List (Addr × Obj)} {τ : L2.St} {H' : Hp}
/-- a record is no frame -/
theorem off_frames {h : Heap} {l : List Env} {o : Obj} {vs : Array Value} (ff : h.FunFrames B l) (e : h.get? a = some o) (dd : o.data = .fields vs) : a ∉ frs l := fun hm => by
  have ⟨_, o2, e2, nf⟩ := ff.mem hm
  have eo : o2 = o := Option.some.inj (e2.symm.trans e)
  exact nf vs (by rw [eo]; exact dd)
/-- the exception has come to the ground: the suite's state -/
theorem on_ground (hf : X.env.frame = some X.env.locals) (J : Inv X pins τ H' sI) (nb : ∀ b o, sI.heap.get? b = some o → b ∉ frs X.stack → B.get? b = some o) (os : s'.os = sI.os) (ag : AllBare s'.gens) (na : H' a = none) {h : Heap} (fl : HandSPX.FlyingZ B (X.env :: X.outer) a (Zc cls d) h) (up : sI.heap.UpToSlots h) :
    ∃ oe, Zc cls d oe ∧ (∃ vs, oe.data = .fields vs) ∧ Inv (X.suite a ((a, oe) :: (X.pn ++ pins))) [] τ H' { s' with heap := h } := by
  have ⟨oe, vs, he, hz, hd⟩ := fl.there
  have off := off_frames fl.2.2.1 he hd
  have J1 : Inv X pins τ H' { s' with heap := h } := J.landed nb fl.1 up os ag
  refine ⟨oe, hz, ⟨vs, hd⟩, J1.suite he hd na (fun z => off (List.mem_filterMap.mpr ⟨_, .head _, ?_⟩)) fun hm => ?_⟩
  · rw [hf, z]
  · have ⟨f, hm2, ef⟩ := List.mem_filterMap.mp hm
    exact off (List.mem_filterMap.mpr ⟨f, .tail _ hm2, ef⟩)
end
section
variable {X : Cx} {body : List Stmt} {h₀ : ExceptHandler} {hds : List ExceptHandler} {l : List (Value × SuT)} {pos : Pos} {tb : WX → TS} {Wout : WX} {i : Nat} {n : Str}
/-- the end of a suite, and the name's -/
theorem suite_end {a : Addr} {p : Addr × Obj} {pins : List (Addr × Obj)} {D : Ends} {q : Pos} (ok : X.Ok) (hN : X.N.Nodup) (hi : X.N[i]? = some n) (hln : X.env.kindOf n = some .local) : ∀ (f : Flow) (s : Shared), SP (X.suite a (p :: (X.pn ++ pins))) [] (gone i D) f s →
    wpAny (model X.prog X.w) X.A (do bindName X.env n .none; unbindBehindTheSuite X.env n q) (fun _ s2 => SP X pins D f s2) X.xe s
  | .next, _, ⟨_, _, S, w⟩ => gone_ok (S.unsuite ok) hN hi hln fun _ J => ⟨_, _, J, w⟩
  | .brk, _, ⟨_, _, S, w⟩ => gone_ok (S.unsuite ok) hN hi hln fun _ J => ⟨_, _, J, w⟩
  | .cont, _, ⟨_, _, S, w⟩ => gone_ok (S.unsuite ok) hN hi hln fun _ J => ⟨_, _, J, w⟩
  | .ret _, _, ⟨_, _, _, S, r, w⟩ => gone_ok (S.unsuite ok) hN hi hln fun _ J => ⟨_, _, _, J, r, w⟩
/-- out of the try's context -/
theorem try_end {pins : List (Addr × Obj)} {xe : Value → Shared → Prop} {D : Ends} (ok : X.Ok) : ∀ (f : Flow) (s : Shared), SP (X.tr (X.pn ++ pins) xe) [] D f s → SP X pins D f s
  | .next, _, ⟨_, _, J, w⟩ => ⟨_, _, J.ofTry ok, w⟩
  | .brk, _, ⟨_, _, J, w⟩ => ⟨_, _, J.ofTry ok, w⟩
  | .cont, _, ⟨_, _, J, w⟩ => ⟨_, _, J.ofTry ok, w⟩
  | .ret _, _, ⟨_, _, _, J, r, w⟩ => ⟨_, _, _, J.ofTry ok, r, w⟩
/-- from the catch on -/
def Catch (X : Cx) (pins : List (Addr × Obj)) (D : Ends) (hs : List ExceptHandler) (u : Value) : Shared → Prop :=
  wpAny (model X.prog X.w) X.A (noteFrame u X.env) (fun _ => wpAny (model X.prog X.w) X.A (setFlight u none) (fun _ => wpAny (model X.prog X.w) X.A (handleBy u X.env hs) (SP X pins D) X.xe) X.xe) X.xe
theorem takes_clauses {pins : List (Addr × Obj)} {D : Ends} (hs : X.stack = X.env :: X.outer) (hf : X.env.frame = some X.env.locals) (hN : X.N.Nodup) (hi : X.N[i]? = some n) (hln : X.env.kindOf n = some .local) (tk : Takes X Wout) (ok : X.Ok) (hh : HdsA X n hds l) :
    Takes (X.tr (X.pn ++ pins) (Catch X pins D hds)) (wManyA X.K i Wout D l) := by
  rintro u s' ⟨a, B, sI, pins', τ, H', cls, d, rfl, J', nb, up, sky, na, os, ag, wish⟩
  have J : Inv X pins τ H' sI := J'.ofTry ok
  replace nb : ∀ b o, sI.heap.get? b = some o → b ∉ frs X.stack → B.get? b = some o := nb
  have sky2 : Sky B (X.env :: X.outer) a (Zc cls d) X.env.locals s'.heap := hs ▸ sky
  refine Sky.land Zc.steady (ok.frames.trans (congrArg some hs)) hf sky2 fun h3 fl up3 => ?_
  have ⟨oe3, hz3, hd3, S3⟩ := on_ground (s' := s') hf J nb os ag na fl (up.trans up3)
  clear J' sky
  induction hh with
  | nil => exact PX.no_clauseZ hf fl fun h4 held up4 => tk _ _ ⟨a, B, sI, pins, τ, H', cls, d, rfl, J, nb, (up.trans up3).trans up4, .inr (.inr (by rw [hs]; exact held)), na, os, ag, wish⟩
  | @cons x b₀ suite np q hds2 c ts l2 hc hsu r ih =>
    obtain ⟨b, hm, wish⟩ := wish
    have test : ∀ {Q' : Value → Shared → Prop} {E' : Value → Shared → Prop}, Q' c { s' with heap := h3 } → wpAny (model X.prog X.w) (X.A.mark (some (.ref a))) (eval (.Name x np) X.env) Q' E' { s' with heap := h3 } := fun w => by
      rcases hc.2.2 with g | ⟨g, hv, hn⟩
      · exact ld_glob S3 hc.1 g w hc.2.1
      · exact ld_blt S3 hc.1 g hv w hn hc.2.1
    match b, wish with
    | false, wish => exact PX.clause_passZ S3.kIn (fun _ z => z.1) fl hm test (ih wish)
    | true, wish =>
      refine PX.clause_asZ S3.kIn (fun _ z => z.1) fl hm test fun h4 fl4 up4 => ?_
      have ⟨oe4, hz4, hd4, S4⟩ := on_ground (s' := s') hf J nb os ag na fl4 ((up.trans up3).trans up4)
      refine store_ok (X := X.suite a ((a, oe4) :: (X.pn ++ pins))) (v := .ref a) S4 hN hi (.inl hln) rfl (fun s5 S5 => ?_) (.inr hln)
      exact wpAny_mono ((hsu a oe4 cls d (X.pn ++ pins) hz4 hd4).run [] s5 _ H' _ S5 (wish a na)) (suite_end ok hN hi hln) fun _ _ z => z.elim
theorem ps_try_manyA (hs : X.stack = X.env :: X.outer) (hf : X.env.frame = some X.env.locals) (hN : X.N.Nodup) (hi : X.N[i]? = some n) (hln : X.env.kindOf n = some .local) (tk : Takes X Wout)
    (hb : ∀ W pn xe, Takes (X.tr pn xe) W → PassesOwn (model X.prog X.w) X.A X.env xe → PSs (X.tr pn xe) body (tb W)) (hh : HdsA X n (h₀ :: hds) l) : PS X (.Try body (h₀ :: hds) [] [] pos) (fun D σ H => tb (wManyA X.K i Wout D l) D σ H) := by
  constructor
  intro pins s σ H D I h
  have run := (hb (wManyA X.K i Wout D l) (X.pn ++ pins) (Catch X pins D (h₀ :: hds)) (takes_clauses hs hf hN hi hln tk I.ok hh) PassesOwn.looking).run [] s σ H D (I.toTry _) h
  refine wpAny_Try_except (wpAny_mono run (fun f s1 e => ?_) fun _ _ e => e)
  match f, try_end I.ok f s1 e with
  | .next, z => exact wpAny_execs_nil z
  | .brk, z => exact z
  | .cont, z => exact z
  | .ret _, z => exact z
end
end KB
end

section
set_option Elab.async false
set_option linter.all false
set_option maxRecDepth 100000
set_option maxHeartbeats 4000000
namespace KB
open PySem PySem.Spec PyProof.Rows L2
def stN : Stmt := .Pass ⟨0, 0, 0, 0⟩
def topS (i : Nat) : Stmt := PySem.Challenge.pw_everybowl_k26_whole_bowl_rows.main.body.getD i stN
def clsS (i j : Nat) : Stmt := match topS i with
  | .ClassDef _ _ _ b _ _ _ _ _ _ _ => b.getD j stN
  | _ => stN
/-- a global def: its text, its name -/
structure Gd (K : PySem.W.Frag) (mg : Str → Option Value) (x : Str) (st : Stmt) (f : Addr) (fd : FuncData) : Prop where
  F : Fun K x x st f fd
  g : mg x = some (.ref f)
theorem itD {c A B : Prop} [Decidable c] (h1 : c → A) (h2 : ¬ c → B) : if decide c = true then A else B := by
  by_cases h : c
  · rw [decide_eq_true h]
    exact iteT (h1 h)
  · rw [decide_eq_false h]
    exact iteF (h2 h)
theorem itB {b : Bool} {A B : Prop} (h1 : b = true → A) (h2 : b = false → B) : if b = true then A else B := by
  cases b
  · exact iteF (h2 rfl)
  · exact iteT (h1 rfl)
/-- an expression that gives v and leaves the heap -/
def Gv (t : TE) (σ : L2.St) (H : Hp) (v : V) : Prop := ∀ Q : VK, Q v H → t σ H Q
section
variable {K : PySem.W.Frag} {σ : L2.St} {H : Hp} {ta tb : TE} {i j : Int} {v : V}
theorem gVar {n : Nat} (h : σ[n]? = some (some v)) : Gv (tVar n) σ H v := fun _ q => ⟨v, h, q⟩
theorem gC : Gv (tC v) σ H v := fun _ q => q
theorem gIx {a : Addr} {xs : List V} (h1 : Gv ta σ H (.ref a)) (h2 : Gv tb σ H (.int i)) (hH : H a = some (.tup xs)) (e : atI xs i = some v) : Gv (tOp (rIxT K) ta tb) σ H v := fun Q q => h1 _ (h2 _ ⟨a, xs, i, v, rfl, rfl, SqT.of hH, e, q⟩)
theorem gIxL {a : Addr} {xs : List V} (h1 : Gv ta σ H (.ref a)) (h2 : Gv tb σ H (.int i)) (hH : SqL K H a xs) (e : atI xs i = some v) : Gv (tOp (rIxL K) ta tb) σ H v := fun Q q => h1 _ (h2 _ ⟨a, xs, i, v, rfl, rfl, hH, e, q⟩)
theorem gI0 {g : Int → Int → V} (h1 : Gv ta σ H (.int i)) (h2 : Gv tb σ H (.int j)) : Gv (tOp (rI0 g) ta tb) σ H (g i j) := fun Q q => h1 _ (h2 _ ⟨i, j, rfl, rfl, q⟩)
theorem gI {C : Int → Int → Prop} {g : Int → Int → V} (h1 : Gv ta σ H (.int i)) (h2 : Gv tb σ H (.int j)) (hc : C i j) : Gv (tOp (rI C g) ta tb) σ H (g i j) := fun Q q => h1 _ (h2 _ ⟨i, j, rfl, rfl, hc, q⟩)
theorem gSub (h1 : Gv ta σ H (.int i)) (h2 : Gv tb σ H (.int j)) : Gv (tOp (rI0 fun i j => .int (i - j)) ta tb) σ H (.int (i - j)) := gI0 h1 h2
theorem gAdd (h1 : Gv ta σ H (.int i)) (h2 : Gv tb σ H (.int j)) : Gv (tOp (rI0 fun i j => .int (i + j)) ta tb) σ H (.int (i + j)) := gI0 h1 h2
theorem gMul (h1 : Gv ta σ H (.int i)) (h2 : Gv tb σ H (.int j)) (hc : CMul i j) : Gv (tOp (rI CMul fun i j => .int (i * j)) ta tb) σ H (.int (i * j)) := gI h1 h2 hc
end
/-- the sign of a number -/
def sg (i : Int) : Int := if i > 0 then 1 else if i < 0 then -1 else 0
def spSign : Sp := fun vs H Q _ => ∃ i : Int, vs = [.int i] ∧ Q (.int (sg i)) H
theorem scSign : FnScope ["value"] ["value"] (defScope (topS 38)) := ⟨rfl, rfl, rfl, by decide +kernel, rfl, by decide +kernel, by decide +kernel⟩
section
variable {P : Program} {w : World} {K : PySem.W.Frag} {mg : Str → Option Value} {base : Heap}
theorem ok_sign {f : Addr} {fd : FuncData} (F : Fun K "sign_of" "sign_of" (topS 38) f fd) : FnOk P w K mg base CX0 1 f fd ["value"] spSign := by
  refine F.ok scSign (fun vs H Q E h => ?_) (fun cdv A outer s H vs Q E hr h => ⟨_, pss_cons (ps_if (pt_cmpR op_gt (pv 0) pe_int (nomark _)) (pss_one (ps_ret pe_int)) pss_nil)
    (pss_cons (ps_if (pt_cmpR op_lt (pv 0) pe_int (nomark _)) (pss_one (ps_ret (pe_un un_neg pe_int))) pss_nil) (pss_one (ps_ret pe_int))), ?_⟩)
  · obtain ⟨i, rfl, _⟩ := h
    rfl
  · obtain ⟨i, rfl, k⟩ := h
    refine ⟨_, rfl, _, _, rfl, rfl, _, rfl, itD (fun c => ?_) fun c => ⟨_, rfl, _, _, rfl, rfl, _, rfl, itD (fun c2 => ⟨_, rfl, ?_⟩) fun c2 => ?_⟩⟩
    · rw [sg, if_pos c] at k
      exact k
    · rw [sg, if_neg c, if_pos c2] at k
      exact k
    · rw [sg, if_neg c, if_neg c2] at k
      exact k
end
end KB
end

section
set_option Elab.async false
set_option linter.all false
set_option maxRecDepth 100000
set_option maxHeartbeats 0
noncomputable section
namespace KB
open PySem PySem.W PySem.Calls PyProof.Rows HeadRun
abbrev R : PySem.W.OpenRow := PySem.W.OpenLaw.row PySem.Challenge.rw_everybowl_k26_whole_bowl_rows
def l1 : List Str := ["gcd", "_wall", "BowlError", "WrongCount", "TooFar", "ZeroBottom", "NoPoint", "Repeated", "OnLine", "OnPlane", "NotBowl", "OtherFloor", "WrongLine", "DIGITS", "check_range", "check_count", "check_number", "check_numbers", "in_order", "read_integer", "all_threes", "all_fours", "quick_split", "quick_inner", "pair_of", "inner_pairs"]
def l2 : List Str := ["TOO_LONG", "check_figures", "lowest_terms", "parts_of", "result_of", "Ratio", "sign_of", "quick_area", "quick_volume", "over_table", "plane_through", "beyond", "Raised", "plane_counts", "tally", "plane_row", "line_counts", "left_count", "line_row", "high_pairs", "first_high", "GREATEST_FACTOR", "check_floors", "Bowl", "turn_table", "Floor"]
def l3 : List Str := ["_law_cell", "_law_signed", "_law_points", "_law_bent", "_law_height", "_law_heights", "_law_changed", "_law_area", "_law_threes", "_law_side", "_law_within", "_law_first_flat", "_law_first_level", "_law_first_high", "_law_lines", "_law_same", "_law_spoil", "_law_floor", "_law_bowl", "_law_floor_of", "_law_due_bowl", "_law_bowl_of", "_law_rows"]
def loose : List Str := l1 ++ l2 ++ l3
end KB
end
end

section
set_option Elab.async false
set_option linter.all false
set_option maxRecDepth 100000
set_option maxHeartbeats 400000
/-! the facts of the head, over a part of the heap -/
namespace KB
open PySem PySem.Spec PyProof.Rows L2
structure Fd where
  a : Addr
  name : Str
  qual : Str
  st : Stmt
  cl : List (Str × Addr)
def Fd.val (d : Fd) : He.FnV := some (d.name, d.qual, defArgs d.st, .stmts (defBody d.st), defScope d.st, mainGlobals, d.cl, .none, builtinsNs)
def fob (K : PySem.W.Frag) (a : Addr) : He.FnV := (K.lookup a).bind fun o => match o.data with
  | .func d => some (d.name, d.qualname, d.params, d.body, d.scope, d.globals, d.closure, d.defaults, d.builtins)
  | _ => none
/-- the rest of a function's object -/
def codB (K : PySem.W.Frag) (d : Fd) : Bool := (match K.lookup d.a with
  | some ⟨_, _, .func fd, _⟩ => PySem.W.codeIn K (.ref (d.a - 1)) d.qual && (decide (fd.code = .ref (d.a - 1)) && (decide (fd.kwdefaults = .none) && decide (fd.annotations = none)))
  | _ => false) && PySem.W.keepIn K (.ref d.a)
theorem fd_of {K : PySem.W.Frag} {d : Fd} (e : fob K d.a = d.val) (c : codB K d = true) :
    ∃ (oc : Value) (od : Option Addr) (sl : Array (Option Value)) (doc pm ctv : Value), K.lookup d.a = some (⟨oc, od, .func (PySem.W.fnX d.name d.qual (defArgs d.st) (defBody d.st) (defScope d.st) d.cl .none .none doc pm none (.ref (d.a - 1)) ctv), sl⟩ : Obj) ∧ PySem.W.codeIn K (.ref (d.a - 1)) d.qual = true ∧ PySem.W.keepIn K (.ref d.a) = true := by
  have ⟨c1, ck⟩ := Bool.and_eq_true_iff.mp c
  unfold fob at e
  cases q : K.lookup d.a with
  | none =>
    rw [q] at e
    cases e
  | some o =>
    rw [q] at e c1
    cases o with
    | mk oc od dt osl =>
      cases dt with
      | func g =>
        cases g with
        | mk nm ql ps bd sc gl cl df kd doc pm an cd ct bi =>
          injection e with e
          simp only [Prod.mk.injEq] at e
          obtain ⟨rfl, rfl, rfl, rfl, rfl, rfl, rfl, rfl, rfl⟩ := e
          simp only [Bool.and_eq_true, decide_eq_true_eq] at c1
          obtain ⟨ci, rfl, rfl, rfl⟩ := c1
          exact ⟨oc, od, osl, doc, pm, ct, rfl, ci, ck⟩
      | _ => cases e
theorem fun_of {K : PySem.W.Frag} {d : Fd} (e : fob K d.a = d.val) (c : codB K d = true) (hc : d.cl = []) : ∃ fd, Fun K d.name d.qual d.st d.a fd := by
  obtain ⟨oc, od, sl, doc, pm, ctv, l, h1, h2⟩ := fd_of e c
  rw [hc] at l
  exact ⟨_, ⟨⟨oc, od, _, doc, pm, _, _, ctv, sl, rfl, l, h1⟩, h2⟩⟩
end KB
end

section
set_option Elab.async false
set_option linter.all false
set_option maxRecDepth 100000
set_option maxHeartbeats 400000
/-! the facts of the head (printed by gen_h2.py) -/
namespace KB
open PySem PySem.Spec PyProof.Rows L2
def fns : List Fd := [⟨279, "check_range", "check_range", topS 16, []⟩,
  ⟨286, "check_count", "check_count", topS 17, []⟩,
  ⟨319, "all_threes", "all_threes", topS 23, []⟩,
  ⟨324, "all_fours", "all_fours", topS 24, []⟩,
  ⟨329, "quick_split", "quick_split", topS 26, []⟩,
  ⟨336, "quick_inner", "quick_inner", topS 27, []⟩,
  ⟨341, "pair_of", "pair_of", topS 28, []⟩,
  ⟨346, "inner_pairs", "inner_pairs", topS 29, []⟩,
  ⟨504, "sign_of", "sign_of", topS 38, []⟩,
  ⟨511, "quick_area", "quick_area", topS 39, []⟩,
  ⟨518, "quick_volume", "quick_volume", topS 40, []⟩,
  ⟨523, "over_table", "over_table", topS 42, []⟩,
  ⟨535, "beyond", "beyond", topS 44, []⟩,
  ⟨637, "plane_counts", "plane_counts", topS 47, []⟩,
  ⟨642, "tally", "tally", topS 48, []⟩,
  ⟨647, "plane_row", "plane_row", topS 49, []⟩,
  ⟨652, "line_counts", "line_counts", topS 51, []⟩,
  ⟨657, "left_count", "left_count", topS 52, []⟩,
  ⟨662, "line_row", "line_row", topS 53, []⟩,
  ⟨667, "high_pairs", "high_pairs", topS 55, []⟩,
  ⟨674, "first_high", "first_high", topS 56, []⟩,
  ⟨764, "turn_table", "turn_table", topS 62, []⟩,
  ⟨882, "_law_cell", "_law_cell", topS 65, []⟩,
  ⟨889, "_law_signed", "_law_signed", topS 66, []⟩,
  ⟨896, "_law_points", "_law_points", topS 67, []⟩,
  ⟨901, "_law_bent", "_law_bent", topS 68, []⟩,
  ⟨908, "_law_height", "_law_height", topS 69, []⟩,
  ⟨915, "_law_heights", "_law_heights", topS 70, []⟩,
  ⟨922, "_law_changed", "_law_changed", topS 71, []⟩,
  ⟨929, "_law_area", "_law_area", topS 72, []⟩,
  ⟨934, "_law_threes", "_law_threes", topS 73, []⟩,
  ⟨941, "_law_side", "_law_side", topS 74, []⟩,
  ⟨948, "_law_within", "_law_within", topS 75, []⟩,
  ⟨955, "_law_first_flat", "_law_first_flat", topS 76, []⟩,
  ⟨962, "_law_first_level", "_law_first_level", topS 77, []⟩,
  ⟨967, "_law_first_high", "_law_first_high", topS 78, []⟩,
  ⟨972, "_law_lines", "_law_lines", topS 79, []⟩,
  ⟨977, "_law_same", "_law_same", topS 80, []⟩,
  ⟨984, "_law_spoil", "_law_spoil", topS 81, []⟩,
  ⟨991, "_law_floor", "_law_floor", topS 82, []⟩,
  ⟨998, "_law_bowl", "_law_bowl", topS 83, []⟩,
  ⟨1005, "_law_floor_of", "_law_floor_of", topS 84, []⟩,
  ⟨1012, "_law_due_bowl", "_law_due_bowl", topS 85, []⟩,
  ⟨1019, "_law_bowl_of", "_law_bowl_of", topS 86, []⟩,
  ⟨1026, "_law_rows", "_law_rows", topS 87, []⟩,
  ⟨1031, "law", "law", topS 88, []⟩,
  ⟨778, "__init__", "Floor.__init__", clsS 63 3, []⟩,
  ⟨795, "__len__", "Floor.__len__", clsS 63 5, []⟩,
  ⟨844, "quick_turn", "Floor.quick_turn", clsS 63 12, []⟩,
  ⟨549, "__init__", "Raised.__init__", clsS 45 1, []⟩,
  ⟨556, "__len__", "Raised.__len__", clsS 45 2, []⟩,
  ⟨575, "quick_over", "Raised.quick_over", clsS 45 5, []⟩,
  ⟨183, "__init__", "OnLine.__init__", clsS 9 0, [(("__class__" : Str), 171)]⟩,
  ⟨204, "__init__", "OnPlane.__init__", clsS 10 0, [(("__class__" : Str), 192)]⟩,
  ⟨225, "__init__", "NotBowl.__init__", clsS 11 0, [(("__class__" : Str), 213)]⟩,
  ⟨697, "__init__", "Bowl.__init__", clsS 60 0, [(("__class__" : Str), 685)]⟩]
def glos : List (Str × Addr) := [(("check_range" : Str), (279 : Addr)), (("check_count" : Str), (286 : Addr)), (("all_threes" : Str), (319 : Addr)), (("all_fours" : Str), (324 : Addr)), (("quick_split" : Str), (329 : Addr)), (("quick_inner" : Str), (336 : Addr)), (("pair_of" : Str), (341 : Addr)), (("inner_pairs" : Str), (346 : Addr)), (("sign_of" : Str), (504 : Addr)), (("quick_area" : Str), (511 : Addr)), (("quick_volume" : Str), (518 : Addr)), (("over_table" : Str), (523 : Addr)), (("beyond" : Str), (535 : Addr)), (("plane_counts" : Str), (637 : Addr)), (("tally" : Str), (642 : Addr)), (("plane_row" : Str), (647 : Addr)), (("line_counts" : Str), (652 : Addr)), (("left_count" : Str), (657 : Addr)), (("line_row" : Str), (662 : Addr)), (("high_pairs" : Str), (667 : Addr)), (("first_high" : Str), (674 : Addr)), (("turn_table" : Str), (764 : Addr)), (("_law_cell" : Str), (882 : Addr)), (("_law_signed" : Str), (889 : Addr)), (("_law_points" : Str), (896 : Addr)), (("_law_bent" : Str), (901 : Addr)), (("_law_height" : Str), (908 : Addr)), (("_law_heights" : Str), (915 : Addr)), (("_law_changed" : Str), (922 : Addr)), (("_law_area" : Str), (929 : Addr)), (("_law_threes" : Str), (934 : Addr)), (("_law_side" : Str), (941 : Addr)), (("_law_within" : Str), (948 : Addr)), (("_law_first_flat" : Str), (955 : Addr)), (("_law_first_level" : Str), (962 : Addr)), (("_law_first_high" : Str), (967 : Addr)), (("_law_lines" : Str), (972 : Addr)), (("_law_same" : Str), (977 : Addr)), (("_law_spoil" : Str), (984 : Addr)), (("_law_floor" : Str), (991 : Addr)), (("_law_bowl" : Str), (998 : Addr)), (("_law_floor_of" : Str), (1005 : Addr)), (("_law_due_bowl" : Str), (1012 : Addr)), (("_law_bowl_of" : Str), (1019 : Addr)), (("_law_rows" : Str), (1026 : Addr)), (("law" : Str), (1031 : Addr)), (("BowlError" : Str), (59 : Addr)), (("OnLine" : Str), (186 : Addr)), (("OnPlane" : Str), (207 : Addr)), (("NotBowl" : Str), (228 : Addr)), (("Bowl" : Str), (755 : Addr)), (("Floor" : Str), (871 : Addr))]
def frees : List Str := ["len", "range", "sorted", "tuple", "zip", "list", "int", "abs", "max", "sum", "all", "isinstance", "bool", "str", "super", "ValueError"]
def addrs : List Addr := [3, 2, 279, 286, 319, 324, 329, 336, 341, 346, 504, 511, 518, 523, 535, 637, 642, 647, 652, 657, 662, 667, 674, 764, 882, 889, 896, 901, 908, 915, 922, 929, 934, 941, 948, 955, 962, 967, 972, 977, 984, 991, 998, 1005, 1012, 1019, 1026, 1031, 778, 795, 844, 549, 556, 575, 183, 204, 225, 697, 59, 58, 186, 185, 207, 206, 228, 227, 755, 754, 871, 870, 628, 627, 171, 192, 213, 685, 278, 285, 318, 323, 328, 335, 340, 345, 503, 510, 517, 522, 534, 636, 641, 646, 651, 656, 661, 666, 673, 763, 881, 888, 895, 900, 907, 914, 921, 928, 933, 940, 947, 954, 961, 966, 971, 976, 983, 990, 997, 1004, 1011, 1018, 1025, 1030, 777, 794, 843, 548, 555, 574, 182, 203, 224, 696]
def clsB (K : PySem.W.Frag) (C : Addr) : Bool := PySem.W.plainGet K C Str.empty && (PySem.W.hasDictIn K C && (PySem.W.plainOver K C && He.eqO (PySem.W.findIn K (.ref C) "__setattr__") (some (some (.builtin "object.__setattr__")))))
def noB (K : PySem.W.Frag) (C : Addr) (f : Str) : Bool := He.eqO (PySem.W.findIn K (.ref C) f) (some none)
def methB (K : PySem.W.Frag) (C : Addr) (m : Str) (f : Addr) : Bool := He.eqO (PySem.W.findIn K (.ref C) m) (some (some (.ref f))) && (PySem.W.isFn K (.ref f) && PySem.W.keepIn K (.ref f))
def bmB (K : PySem.W.Frag) (g : Addr) : Bool := He.eqO (PySem.W.specialIn K (.ref g) "__get__") (some (some (.builtin "function.__get__"))) && (decide (PySem.W.takesIn K (.ref g) = some false) && PySem.W.fnIn K g)
def lenB (K : PySem.W.Frag) (C f : Addr) : Bool := He.eqO (PySem.W.findIn K (.ref C) "__len__") (some (some (.ref f))) && PySem.W.isFn K (.ref f)
def conB (K : PySem.W.Frag) (C : Addr) (f : Str) (i : Int) : Bool := match PySem.W.findIn K (.ref C) f with
  | some (some u) => (match u with
    | .int j _ => decide (j = i)
    | _ => false) && He.eqO (PySem.W.specialIn K u "__get__") (some none)
  | _ => false
def mkB (K : PySem.W.Frag) (C f : Addr) : Bool := PySem.W.makesIn K C && (He.eqO (PySem.W.findIn K (.ref C) "__init__") (some (some (.ref f))) && (PySem.W.isFn K (.ref f) && PySem.W.keepIn K (.ref C)))
abbrev PR : Program := PySem.Challenge.pw_everybowl_k26_whole_bowl_rows
def supB (K : PySem.W.Frag) (f cc D : Addr) : Bool := (match K.lookup (f - 1) with
  | some ⟨_, _, .fields vs, _⟩ => (match (vs[2]? : Option Value) with
    | some (.str file _) => ((PR.main.file : Str) == file)
    | _ => false)
  | _ => false) && ((match K.lookup cc with
  | some ⟨_, _, .cell (some (.ref x)), _⟩ => decide (x = D)
  | _ => false) && (PySem.W.clsIn K D).isSome)
def oexB (K : PySem.W.Frag) (C : Addr) : Bool := (match K.lookup C with
  | some ⟨.type "type", _, .cls cd, sl⟩ => (match cd.mro, sl.toList with
    | .ref C' :: bm, [_, _, _, _, some (.builtin n), _] => C' == C && n == "ValueError.__new__" && !cd.hasDel && cd.hasDict && PySem.HandSPX.refsVE bm
    | _, _ => false)
  | _ => false) && (He.eqO (PySem.W.findIn K (.ref C) "__setattr__") (some (some (.builtin "object.__setattr__"))) && (decide (PySem.W.subIn K (.ref C) (.type "BaseException") = some true) && (decide (PySem.W.typeIn K (.ref C) = some (.type "type")) && PySem.W.keepIn K (.ref C))))
def exkB (K : PySem.W.Frag) (C fI : Addr) : Bool := oexB K C && (He.eqO (PySem.W.findIn K (.ref C) "__init__") (some (some (.ref fI))) && (decide (PySem.W.typeIn K (.ref fI) = some (.type "function")) && (decide (PySem.W.mroIn K C (.ref C) = some true) &&
  (decide (PySem.W.ks_superIn K C C "__init__" = some (some (.builtin "ValueError.__init__"))) && (decide (PySem.W.subIn K (.ref C) (.type "ValueError") = some true) && decide (PySem.W.exmOne K (.ref C) (.ref C) = some true))))))
def excB (K : PySem.W.Frag) (D : Addr) : Bool := He.eqO (PySem.W.findIn K (.ref D) "__getattribute__") (some (some (.builtin "BaseException.__getattribute__"))) && (He.eqO (PySem.W.findIn K (.ref D) "__getattr__") (some none) && (decide (PySem.W.subIn K (.ref D) (.type "BaseException") = some true) && (PySem.W.hasDictIn K D &&
  (He.eqO (PySem.W.findIn K (.ref D) "__class__") (some (some (.builtin "object.__class__"))) && (He.eqO (PySem.W.specialIn K (.builtin "object.__class__") "__get__") (some (some (.builtin "getset_descriptor.__get__"))) && (decide (PySem.W.takesIn K (.builtin "object.__class__") = some true) && decide (PySem.W.mroIn K D (.type "object") = some true)))))))
def exfB (K : PySem.W.Frag) (C BE : Addr) : Bool := excB K C && (decide (PySem.W.kitOne K (.ref C) (.ref BE) = some true) && decide (PySem.W.kitOne K (.ref C) (.type "ValueError") = some true))
def misc (K : PySem.W.Frag) : List Bool := [
  clsB K 871, noB K 871 "points", noB K 871 "_turns", methB K 871 "quick_turn" 844, lenB K 871 795, conB K 871 "LEAST" 3, conB K 871 "MOST" 10, conB K 871 "FAR" 1000000,
  clsB K 755, noB K 755 "floor", noB K 755 "heights", noB K 755 "_overs", methB K 755 "quick_over" 575, bmB K 575, lenB K 755 556, conB K 755 "HIGH" 1000000000000000,
  mkB K 871 778, mkB K 755 697, supB K 183 171 186, supB K 204 192 207, supB K 225 213 228, supB K 697 685 755,
  exkB K 186 183, exkB K 207 204, exkB K 228 225, exfB K 186 59, exfB K 207 59, exfB K 228 59,
  noB K 186 "numbers", noB K 207 "numbers", noB K 228 "triangle", noB K 228 "number",
  decide (PySem.W.mroIn K 755 (.ref 755) = some true), decide (PySem.W.ks_superIn K 755 755 "__init__" = some (some (.ref 549))), decide (PySem.W.typeIn K (.ref 549) = some (.type "function")), PySem.W.fnIn K 549,
  decide (PySem.W.kitAny K (.ref 186) [.ref 207, .ref 228] = some false), decide (PySem.W.kitAny K (.ref 207) [.ref 186, .ref 228] = some false), decide (PySem.W.kitAny K (.ref 228) [.ref 186, .ref 207] = some false), decide (PySem.W.exmOne K (.ref 228) (.ref 207) = some false),
  He.eqO (PySem.W.nsIn K cStatics "thirdparty.any") (some none)]
def facsB (K : PySem.W.Frag) : Bool := fns.all (codB K) && (glos.all (fun p => He.eqO (PySem.W.nsIn K mainGlobals p.1) (some (some (.ref p.2)))) && (frees.all (fun x => He.eqO (PySem.W.nsIn K mainGlobals x) (some none)) && (misc K).all id))
structure Says (K : PySem.W.Frag) : Prop where
  e : fns.map (fun d => fob K d.a) = fns.map Fd.val
  b : facsB K = true
section
variable {K : PySem.W.Frag} {h : Heap} {mg : Str → Option Value}
theorem Says.fn_ (c : Says K) (i : Nat) {d : Fd} (hd : fns[i]? = some d := by rfl) : fob K d.a = d.val ∧ codB K d = true := by
  have e2 : (fns.map fun d => fob K d.a)[i]? = (fns.map Fd.val)[i]? := by rw [c.e]
  rw [List.getElem?_map, List.getElem?_map, hd] at e2
  exact ⟨Option.some.inj e2, List.all_eq_true.mp (Bool.and_eq_true_iff.mp c.b).1 d (List.mem_of_getElem? hd)⟩
theorem Says.glo (c : Says K) (X : K.In h) (G : h.Ns mainGlobals mg) (i : Nat) {p : Str × Addr} (hd : glos[i]? = some p := by rfl) : mg p.1 = some (.ref p.2) :=
  PySem.W.mg_of X G (He.eqO_ok (List.all_eq_true.mp (Bool.and_eq_true_iff.mp (Bool.and_eq_true_iff.mp c.b).2).1 p (List.mem_of_getElem? hd)))
theorem Says.free (c : Says K) (X : K.In h) (G : h.Ns mainGlobals mg) (i : Nat) {x : Str} (hd : frees[i]? = some x := by rfl) : mg x = none :=
  PySem.W.mg_none_of X G (He.eqO_ok (List.all_eq_true.mp (Bool.and_eq_true_iff.mp (Bool.and_eq_true_iff.mp (Bool.and_eq_true_iff.mp c.b).2).2).1 x (List.mem_of_getElem? hd)))
theorem Says.mi (c : Says K) (i : Nat) {b : Bool} (hd : (misc K)[i]? = some b := by rfl) : b = true :=
  List.all_eq_true.mp (Bool.and_eq_true_iff.mp (Bool.and_eq_true_iff.mp (Bool.and_eq_true_iff.mp c.b).2).2).2 b (List.mem_of_getElem? hd)
end
end KB
end

section
set_option Elab.async false
set_option linter.all false
set_option maxRecDepth 100000
set_option maxHeartbeats 0
noncomputable section
namespace KB
open PySem PySem.W PySem.Calls PyProof.Rows HeadRun
abbrev Al : Type := Bool × List He.FnV
def obK (g : Addr → Option Obj) : Al := (facsB (He.frG g addrs), fns.map fun d => fob (He.frG g addrs) d.a)
def valK : Al := (true, fns.map Fd.val)
theorem says_of {g : Addr → Option Obj} (e : obK g = valK) : Says (He.frG g addrs) := ⟨congrArg (fun z : Al => z.2) e, congrArg (fun z : Al => z.1) e⟩
def hk : PySem.W.Hook where
  α := Al
  obs := fun s => obK s.heap.get?
  val := fun _ => valK
  says := fun _ h => ∃ K : PySem.W.Frag, K.In h ∧ Says K
  of := fun _ _ e => ⟨_, He.frG_in, says_of e⟩
  keeps := fun _ _ _ y k => ⟨y.choose, y.choose_spec.1.keeps k, y.choose_spec.2⟩
def ob (s : SharedT) : Al := obK (getT s)
theorem ob_eq (s : SharedT) : ob s = hk.obs s.abs := by
  have e : getT s = s.abs.heap.get? := funext (getT_eq s)
  show obK (getT s) = obK s.abs.heap.get?
  rw [e]
end KB
end
end

section
set_option Elab.async false
set_option linter.all false
set_option maxRecDepth 100000
set_option maxHeartbeats 0
noncomputable section
namespace KB
open PySem PySem.W PySem.Calls PyProof.Rows HeadRun
theorem runC (w : World) : (wholeF (fun p => stepQ (denQ tabQ) p w) fenceQ 8000 R.prog).map (fun x => ob x.2) = some valK := by
  kernel_rfl
end KB
end
end

section
set_option Elab.async false
set_option linter.all false
set_option maxRecDepth 100000
set_option maxHeartbeats 0
noncomputable section
namespace KB
open PySem PySem.W PySem.Calls PyProof.Rows HeadRun
theorem runA (w : World) : (wholeF (fun p => stepQ (denQ tabQ) p w) fenceQ 8000 R.prog).map (fun x => looksF R.prog x.1.heap x.2.abs) = some true := by
  kernel_rfl
end KB
end
end

section
set_option Elab.async false
set_option linter.all false
set_option maxRecDepth 100000
set_option maxHeartbeats 0
noncomputable section
namespace KB
open PySem PySem.W PySem.Calls PyProof.Rows HeadRun
theorem runB (w : World) : (wholeF (fun p => stepQ (denQ tabQ) p w) fenceQ 8000 R.prog).map (fun x => seenQ (PySem.W.view R.prog [88]) loose (importedModules R.prog.main.body) (fun s => xlAt (PySem.W.view R.prog [88]) [] s && recOk R.toRowW.records s) x.2.abs) = some (openGood (PySem.W.view R.prog [88]) loose) := by
  kernel_rfl
end KB
end
end

section
set_option Elab.async false
set_option linter.all false
set_option maxRecDepth 100000
set_option maxHeartbeats 400000
namespace KB
open PySem PySem.Spec PyProof.Rows L2
/-- the doubled area -/
def ar (a b c d e f : Int) : Int := (c - a) * (f - b) - (d - b) * (e - a)
def P2 (a b : Int) (l : List V) : List V := .int a :: .int b :: l
def sml (i : Int) : Prop := -2000000000000000 ≤ i ∧ i ≤ 2000000000000000
/-- area(p, q, r): of three tuples that begin with two numbers -/
def spArea : Sp := fun vs H Q _ => ∃ (p q r : Addr) (a b c d e f : Int) (l1 l2 l3 : List V), vs = [.ref p, .ref q, .ref r] ∧ H p = some (.tup (.int a :: .int b :: l1)) ∧ H q = some (.tup (.int c :: .int d :: l2)) ∧ H r = some (.tup (.int e :: .int f :: l3)) ∧
  sml a ∧ sml b ∧ sml c ∧ sml d ∧ Q (.int (ar a b c d e f)) H
theorem at0 {v : V} {l : List V} : atI (v :: l) 0 = some v := atI_nat (j := 0) rfl
theorem at1 {u v : V} {l : List V} : atI (u :: v :: l) 1 = some v := atI_nat (j := 1) rfl
theorem at2 {u v z : V} {l : List V} : atI (u :: v :: z :: l) 2 = some z := atI_nat (j := 2) rfl
theorem sml_sub {a c : Int} (h1 : sml a) (h2 : sml c) : CMul (c - a) d := by
  unfold sml at h1 h2
  exact .inl ⟨by omega, by omega⟩
theorem scArea : FnScope ["p", "q", "r"] ["p", "q", "r"] (defScope (topS 39)) := ⟨rfl, rfl, rfl, by decide +kernel, rfl, by decide +kernel, by decide +kernel⟩
theorem scLArea : FnScope ["_law_p", "_law_q", "_law_r"] ["_law_p", "_law_q", "_law_r"] (defScope (topS 72)) := ⟨rfl, rfl, rfl, by decide +kernel, rfl, by decide +kernel, by decide +kernel⟩
section
variable {P : Program} {w : World} {K : PySem.W.Frag} {mg : Str → Option Value} {base : Heap}
theorem gArea {H : Hp} {σ : L2.St} {p q r : Addr} {a b c d e f : Int} {l1 l2 l3 : List V} (s0 : σ[0]? = some (some (.ref p))) (s1 : σ[1]? = some (some (.ref q))) (s2 : σ[2]? = some (some (.ref r))) (hp : H p = some (.tup (.int a :: .int b :: l1))) (hq : H q = some (.tup (.int c :: .int d :: l2)))
    (hr : H r = some (.tup (.int e :: .int f :: l3))) (ba : sml a) (bb : sml b) (bc : sml c) (bd : sml d) :
    Gv (tOp (rI0 fun i j => .int (i - j)) (tOp (rI CMul fun i j => .int (i * j)) (tOp (rI0 fun i j => .int (i - j)) (tOp (rIxT K) (tVar 1) (tC (.int 0))) (tOp (rIxT K) (tVar 0) (tC (.int 0)))) (tOp (rI0 fun i j => .int (i - j)) (tOp (rIxT K) (tVar 2) (tC (.int 1))) (tOp (rIxT K) (tVar 0) (tC (.int 1)))))
      (tOp (rI CMul fun i j => .int (i * j)) (tOp (rI0 fun i j => .int (i - j)) (tOp (rIxT K) (tVar 1) (tC (.int 1))) (tOp (rIxT K) (tVar 0) (tC (.int 1)))) (tOp (rI0 fun i j => .int (i - j)) (tOp (rIxT K) (tVar 2) (tC (.int 0))) (tOp (rIxT K) (tVar 0) (tC (.int 0)))))) σ H (.int (ar a b c d e f)) :=
  gSub (gMul (gSub (gIx (gVar s1) gC hq at0) (gIx (gVar s0) gC hp at0)) (gSub (gIx (gVar s2) gC hr at1) (gIx (gVar s0) gC hp at1)) (sml_sub ba bc))
    (gMul (gSub (gIx (gVar s1) gC hq at1) (gIx (gVar s0) gC hp at1)) (gSub (gIx (gVar s2) gC hr at0) (gIx (gVar s0) gC hp at0)) (sml_sub bb bd))
theorem ok_area {f : Addr} {fd : FuncData} (F : Fun K "quick_area" "quick_area" (topS 39) f fd) : FnOk P w K mg base CX0 1 f fd ["p", "q", "r"] spArea := by
  refine F.ok scArea (fun vs H Q E h => ?_) (fun cdv A outer s H vs Q E hr h => ⟨_, pss_one (ps_ret (pe_op op_sub (pe_op op_mul (pe_op op_sub (pe_ix ix_tup (pv 1) pe_int (fun _ _ => rfl)) (pe_ix ix_tup (pv 0) pe_int (fun _ _ => rfl))) (pe_op op_sub (pe_ix ix_tup (pv 2) pe_int (fun _ _ => rfl)) (pe_ix ix_tup (pv 0) pe_int (fun _ _ => rfl))))
    (pe_op op_mul (pe_op op_sub (pe_ix ix_tup (pv 1) pe_int (fun _ _ => rfl)) (pe_ix ix_tup (pv 0) pe_int (fun _ _ => rfl))) (pe_op op_sub (pe_ix ix_tup (pv 2) pe_int (fun _ _ => rfl)) (pe_ix ix_tup (pv 0) pe_int (fun _ _ => rfl)))))), ?_⟩)
  · obtain ⟨p, q, r, _, _, _, _, _, _, _, _, _, rfl, _⟩ := h
    rfl
  · obtain ⟨p, q, r, a, b, c, d, e, f, l1, l2, l3, rfl, hp, hq, hr, ba, bb, bc, bd, k⟩ := h
    exact gArea rfl rfl rfl hp hq hr ba bb bc bd _ k
theorem ok_larea {f : Addr} {fd : FuncData} (F : Fun K "_law_area" "_law_area" (topS 72) f fd) : FnOk P w K mg base CX0 1 f fd ["_law_p", "_law_q", "_law_r"] spArea := by
  refine F.ok scLArea (fun vs H Q E h => ?_) (fun cdv A outer s H vs Q E hr h => ⟨_, pss_one (ps_ret (pe_op op_sub (pe_op op_mul (pe_op op_sub (pe_ix ix_tup (pv 1) pe_int (fun _ _ => rfl)) (pe_ix ix_tup (pv 0) pe_int (fun _ _ => rfl))) (pe_op op_sub (pe_ix ix_tup (pv 2) pe_int (fun _ _ => rfl)) (pe_ix ix_tup (pv 0) pe_int (fun _ _ => rfl))))
    (pe_op op_mul (pe_op op_sub (pe_ix ix_tup (pv 1) pe_int (fun _ _ => rfl)) (pe_ix ix_tup (pv 0) pe_int (fun _ _ => rfl))) (pe_op op_sub (pe_ix ix_tup (pv 2) pe_int (fun _ _ => rfl)) (pe_ix ix_tup (pv 0) pe_int (fun _ _ => rfl)))))), ?_⟩)
  · obtain ⟨p, q, r, _, _, _, _, _, _, _, _, _, rfl, _⟩ := h
    rfl
  · obtain ⟨p, q, r, a, b, c, d, e, f, l1, l2, l3, rfl, hp, hq, hr, ba, bb, bc, bd, k⟩ := h
    exact gArea rfl rfl rfl hp hq hr ba bb bc bd _ k
/-- volume(p, q, r, s): of four tuples of three numbers -/
def vo (a b c d e f g h i j k l : Int) : Int :=
  (j - a) * ((e - b) * (i - c) - (f - c) * (h - b)) + (k - b) * ((f - c) * (g - a) - (d - a) * (i - c)) + (l - c) * ar a b d e g h
def spVol : Sp := fun vs H Q _ => ∃ (p q r s : Addr) (a b c d e f g h i j k l : Int), vs = [.ref p, .ref q, .ref r, .ref s] ∧ H p = some (.tup [.int a, .int b, .int c]) ∧ H q = some (.tup [.int d, .int e, .int f]) ∧ H r = some (.tup [.int g, .int h, .int i]) ∧ H s = some (.tup [.int j, .int k, .int l]) ∧
  (sml a ∧ sml b ∧ sml c ∧ sml d ∧ sml e ∧ sml f) ∧ (sml j ∧ sml k ∧ sml l) ∧ Q (.int (vo a b c d e f g h i j k l)) H
theorem scVol : FnScope ["p", "q", "r", "s", "across_x", "across_y"] ["p", "q", "r", "s"] (defScope (topS 40)) := ⟨rfl, rfl, rfl, by decide +kernel, rfl, by decide +kernel, by decide +kernel⟩
theorem gCall {sp : Sp} {dvs : List V} {E : XK} {t : TA} {σ : L2.St} {H : Hp} {Q : VK} (h : t σ H fun vs H1 => sp (vs ++ dvs) H1 Q E) : tCall sp dvs E t σ H Q := h
theorem ok_vol {f fA : Addr} {fd fdA : FuncData} (F : Fun K "quick_volume" "quick_volume" (topS 40) f fd) (GA : Gd K mg "quick_area" (topS 39) fA fdA) : FnOk P w K mg base CX0 2 f fd ["p", "q", "r", "s"] spVol := by
  have GA' : FnOk P w K mg base CX0 1 fA fdA ["p", "q", "r"] spArea := ok_area GA.F
  have bA := GA.F.binds (ps := ["p", "q", "r"]) fun _ _ _ _ _ _ us hl => match us, hl with | [_, _, _], _ => rfl
  have ix : ∀ {X : Cx} {n m : Nat} {a b : Str} {ta tb : TE} {p1 : Pos}, True := trivial
  refine F.ok scVol (fun vs H Q E h => ?_) (fun cdv A outer s H vs Q E hr h => ⟨_,
    pss_cons (ps_set (i := 4) scVol.nd rfl (Or.inl rfl) (pe_op op_sub (pe_op op_mul (pe_op op_sub (pe_ix ix_tup (pv 1) pe_int (fun _ _ => rfl)) (pe_ix ix_tup (pv 0) pe_int (fun _ _ => rfl))) (pe_op op_sub (pe_ix ix_tup (pv 2) pe_int (fun _ _ => rfl)) (pe_ix ix_tup (pv 0) pe_int (fun _ _ => rfl))))
      (pe_op op_mul (pe_op op_sub (pe_ix ix_tup (pv 1) pe_int (fun _ _ => rfl)) (pe_ix ix_tup (pv 0) pe_int (fun _ _ => rfl))) (pe_op op_sub (pe_ix ix_tup (pv 2) pe_int (fun _ _ => rfl)) (pe_ix ix_tup (pv 0) pe_int (fun _ _ => rfl))))))
    (pss_cons (ps_set (i := 5) scVol.nd rfl (Or.inl rfl) (pe_op op_sub (pe_op op_mul (pe_op op_sub (pe_ix ix_tup (pv 1) pe_int (fun _ _ => rfl)) (pe_ix ix_tup (pv 0) pe_int (fun _ _ => rfl))) (pe_op op_sub (pe_ix ix_tup (pv 2) pe_int (fun _ _ => rfl)) (pe_ix ix_tup (pv 0) pe_int (fun _ _ => rfl))))
      (pe_op op_mul (pe_op op_sub (pe_ix ix_tup (pv 1) pe_int (fun _ _ => rfl)) (pe_ix ix_tup (pv 0) pe_int (fun _ _ => rfl))) (pe_op op_sub (pe_ix ix_tup (pv 2) pe_int (fun _ _ => rfl)) (pe_ix ix_tup (pv 0) pe_int (fun _ _ => rfl))))))
    (pss_one (ps_ret (pe_op op_add (pe_op op_add (pe_op op_mul (pe_op op_sub (pe_ix ix_tup (pv 3) pe_int (fun _ _ => rfl)) (pe_ix ix_tup (pv 0) pe_int (fun _ _ => rfl))) (pv 4)) (pe_op op_mul (pe_op op_sub (pe_ix ix_tup (pv 3) pe_int (fun _ _ => rfl)) (pe_ix ix_tup (pv 0) pe_int (fun _ _ => rfl))) (pv 5)))
      (pe_op op_mul (pe_op op_sub (pe_ix ix_tup (pv 3) pe_int (fun _ _ => rfl)) (pe_ix ix_tup (pv 0) pe_int (fun _ _ => rfl))) (pe_call GA' (hr.mono (by decide)) rfl GA.g GA.F.kp bA .nil pass0 (pa_cons (pv 0) (pa_cons (pv 1) (pa_cons (pv 2) pa_nil)))))))))
    , ?_⟩)
  · obtain ⟨_, _, _, _, _, _, _, _, _, _, _, _, _, _, _, _, rfl, _⟩ := h
    rfl
  · obtain ⟨p, q, r, s, a, b, c, d, e, f, g, h', i, j, k, l, rfl, hp, hq, hr, hs, ⟨ba, bb, bc, bd, be, bf⟩, ⟨bj, bk, bl⟩, kk⟩ := h
    refine gSub (gMul (gSub (gIx (gVar rfl) gC hq at1) (gIx (gVar rfl) gC hp at1)) (gSub (gIx (gVar rfl) gC hr at2) (gIx (gVar rfl) gC hp at2)) (sml_sub bb be))
      (gMul (gSub (gIx (gVar rfl) gC hq at2) (gIx (gVar rfl) gC hp at2)) (gSub (gIx (gVar rfl) gC hr at1) (gIx (gVar rfl) gC hp at1)) (sml_sub bc bf)) _ ?_
    refine gSub (gMul (gSub (gIx (gVar rfl) gC hq at2) (gIx (gVar rfl) gC hp at2)) (gSub (gIx (gVar rfl) gC hr at0) (gIx (gVar rfl) gC hp at0)) (sml_sub bc bf))
      (gMul (gSub (gIx (gVar rfl) gC hq at0) (gIx (gVar rfl) gC hp at0)) (gSub (gIx (gVar rfl) gC hr at2) (gIx (gVar rfl) gC hp at2)) (sml_sub ba bd)) _ ?_
    unfold vo at kk
    have x4 : Gv (tVar 4) (((start ["p", "q", "r", "s", "across_x", "across_y"] [V.ref p, V.ref q, V.ref r, V.ref s]).set 4 (some (.int ((e - b) * (i - c) - (f - c) * (h' - b))))).set 5 (some (.int ((f - c) * (g - a) - (d - a) * (i - c))))) H (.int ((e - b) * (i - c) - (f - c) * (h' - b))) := gVar rfl
    have x5 : Gv (tVar 5) (((start ["p", "q", "r", "s", "across_x", "across_y"] [V.ref p, V.ref q, V.ref r, V.ref s]).set 4 (some (.int ((e - b) * (i - c) - (f - c) * (h' - b))))).set 5 (some (.int ((f - c) * (g - a) - (d - a) * (i - c))))) H (.int ((f - c) * (g - a) - (d - a) * (i - c))) := gVar rfl
    have x6 : Gv (tCall spArea [] E0 (tCons (tVar 0) (tCons (tVar 1) (tCons (tVar 2) tNil)))) (((start ["p", "q", "r", "s", "across_x", "across_y"] [V.ref p, V.ref q, V.ref r, V.ref s]).set 4 (some (.int ((e - b) * (i - c) - (f - c) * (h' - b))))).set 5 (some (.int ((f - c) * (g - a) - (d - a) * (i - c))))) H (.int (ar a b d e g h')) := fun Q2 q2 =>
      ⟨_, rfl, _, rfl, _, rfl, _, _, _, _, _, _, _, _, _, _, _, _, rfl, hp, hq, hr, ba, bb, bd, be, q2⟩
    exact gAdd (gAdd (gMul (gSub (gIx (gVar rfl) gC hs at0) (gIx (gVar rfl) gC hp at0)) x4 (sml_sub ba bj)) (gMul (gSub (gIx (gVar rfl) gC hs at1) (gIx (gVar rfl) gC hp at1)) x5 (sml_sub bb bk)))
      (gMul (gSub (gIx (gVar rfl) gC hs at2) (gIx (gVar rfl) gC hp at2)) x6 (sml_sub bc bl)) _ kk
end
end KB
end

section
set_option Elab.async false
set_option linter.all false
set_option maxRecDepth 100000
set_option maxHeartbeats 400000
/-! lists that are built, their items standing for things -/
namespace KB
open PySem PySem.Spec PyProof.Rows L2
theorem yesI {σ : L2.St} {H : Hp} {A B : Hp → Prop} (h : A H) : tYes σ H fun b H3 => if b = true then A H3 else B H3 := by
  show if true = true then A H else B H
  rw [if_pos rfl]
  exact h
theorem unp {i : Nat} {gs : TGs} {v : V} {r : List V} {σ : L2.St} {H : Hp} {Q : L2.St → Hp → Prop} (h : gs r (σ.set i (some v)) H Q) : gCons (gName i) gs (v :: r) σ H Q := ⟨v, r, rfl, h⟩
theorem smallX {n : Nat} (h : n ≤ 100000) : n < sizeLine := Nat.lt_of_le_of_lt h (by decide)
/-- the tuples stand -/
def KT (H H' : Hp) : Prop := ∀ b xs, H b = some (.tup xs) → H' b = some (.tup xs)
theorem KT.of {H H' : Hp} (s : Same H H') : KT H H' := fun b xs e => s b _ e
theorem KT.trans {H H1 H2 : Hp} (a : KT H H1) (b : KT H1 H2) : KT H H2 := fun c xs e => b c xs (a c xs e)
theorem KT.upd {H : Hp} {D : Addr} {o o' : HO} (e : H D = some o) (ho : ∀ xs, o ≠ .tup xs) : KT H (upd H D o') := fun b xs eb => by
  by_cases hb : b = D
  · subst hb
    rw [e] at eb
    exact absurd (Option.some.inj eb) (ho xs)
  · rw [upd_ne hb]
    exact eb
abbrev Rel (α : Type) := Hp → V → α → Prop
class Mn {α : Type} (R : Rel α) : Prop where
  up : ∀ {H H' : Hp} {v : V} {x : α}, KT H H' → R H v x → R H' v x
/-- a tuple of numbers -/
def RT : Rel (List Int) := fun H v l => ∃ t, v = .ref t ∧ H t = some (.tup (l.map .int))
instance : Mn RT := ⟨fun k ⟨t, e, h⟩ => ⟨t, e, k _ _ h⟩⟩
def RI : Rel Int := fun _ v i => v = .int i
instance : Mn RI := ⟨fun _ h => h⟩
def RN : Rel Nat := fun _ v i => v = .int i
instance : Mn RN := ⟨fun _ h => h⟩
def RLo (lo : Int) : Rel Nat := fun _ v i => v = .int (lo + i)
instance {lo : Int} : Mn (RLo lo) := ⟨fun _ h => h⟩
abbrev T3 := Nat × Nat × Nat
def R3 : Rel T3 := fun H v x => RT H v [x.1, x.2.1, x.2.2]
instance : Mn R3 := ⟨fun k h => Mn.up (R := RT) k h⟩
theorem Paired.upd {α : Type} {R : Rel α} [Mn R] {H H' : Hp} {vs : List V} {l : List α} (k : KT H H') (p : Paired (R H) vs l) : Paired (R H') vs l := L2.Paired.mapP p fun _ _ h => Mn.up k h
/-- at D a list of things like l -/
def LsAt {α : Type} (R : Rel α) (H : Hp) (D : Addr) (l : List α) : Prop := ∃ vs, H D = some (.lst vs) ∧ Paired (R H) vs l
theorem LsAt.same {α : Type} {R : Rel α} [Mn R] {H H' : Hp} {D : Addr} {l : List α} (s : Same H H') (h : LsAt R H D l) : LsAt R H' D l := by
  obtain ⟨vs, e, p⟩ := h
  exact ⟨vs, s _ _ e, Paired.upd (.of s) p⟩
structure Bt {α : Type} (R : Rel α) (H0 H : Hp) (D : Addr) (l : List α) : Prop where
  nd : H0 D = none
  sm : Same H0 H
  ls : LsAt R H D l
theorem same_upd {H H' : Hp} {D : Addr} {o : HO} (nd : H D = none) (s : Same H H') : Same H (upd H' D o) := fun b ob e => by
  rw [upd_ne (ne_of_none e nd)]
  exact s b ob e
theorem same_new {H : Hp} {D : Addr} {o : HO} (nd : H D = none) : Same H (upd H D o) := same_upd nd (Same.refl H)
section
variable {α β : Type} {R : Rel α} [Mn R] {H0 H H1 : Hp} {D : Addr} {l : List α}
theorem Bt.start (nd : H0 D = none) : Bt R H0 (upd H0 D (.lst [])) D [] := ⟨nd, same_new nd, [], upd_same, .nil⟩
theorem Bt.same (b : Bt R H0 H D l) (s : Same H H1) : Bt R H0 H1 D l := ⟨b.nd, b.sm.trans s, b.ls.same s⟩
theorem Paired.snoc {R : V → α → Prop} {y : V} {x : α} : ∀ {vs : List V} {l : List α}, Paired R vs l → R y x → Paired R (vs ++ [y]) (l ++ [x])
  | _, _, .nil, r => .cons r .nil
  | _, _, .cons h t, r => .cons h (Paired.snoc t r)
theorem Bt.app {y : V} {x : α} (b : Bt R H0 H D l) (s : Same H H1) (r : R H1 y x) (hl : l.length ≤ 100000) :
    ∃ acc, H1 D = some (.lst acc) ∧ acc.length < sizeLine ∧ Bt R H0 (upd H1 D (.lst (acc ++ [y]))) D (l ++ [x]) := by
  obtain ⟨acc, e, p⟩ := b.ls
  have e1 := s _ _ e
  have kt : KT H1 (L2.upd H1 D (.lst (acc ++ [y]))) := KT.upd e1 (fun _ z => by cases z)
  have hn : acc.length = l.length := p.length
  exact ⟨acc, e1, by have := smallX hl; omega, b.nd, same_upd b.nd (b.sm.trans s), _, upd_same, Paired.snoc (Paired.upd (kt) (Paired.upd (.of s) p)) (Mn.up kt r)⟩
end
section
variable {α β : Type} {Ri : Rel α} {Ro : Rel β} [Mn Ri] [Mn Ro] {H1 : Hp} {D a : Addr} {l : List α} {K : PySem.W.Frag} {vs : List V} {f : α → Option β} {g : TG} {tt : TT} {te : TE} {ws : List Nat} {σ : L2.St} {Qd : Hp → Prop}
theorem paired_get {R : V → α → Prop} : ∀ {vs : List V} {l : List α} (i : Nat) {v : V}, Paired R vs l → vs[i]? = some v → ∃ x, l[i]? = some x ∧ R v x
  | _, _, i, _, .nil, h => by simp at h
  | _, _, 0, _, .cons r _, h => ⟨_, rfl, by
      cases h
      exact r⟩
  | _, _, i + 1, _, .cons _ t, h => paired_get i t h
theorem filterMap_take {l : List α} {i : Nat} {x : α} (h : l[i]? = some x) : (l.take (i + 1)).filterMap f = (l.take i).filterMap f ++ (f x).toList := by
  have hi : i < l.length := (List.getElem?_eq_some_iff.mp h).1
  have e : l.take (i + 1) = l.take i ++ [x] := by
    rw [List.take_add_one, h]
    rfl
  rw [e, List.filterMap_append]
  cases hx : f x <;> simp [hx]
/-- one turn of a comprehension, by what it gives -/
def LcStep (f : α → Option β) (Ro : Rel β) (g : TG) (tt : TT) (te : TE) (ws : List Nat) (σ : L2.St) (H : Hp) (v : V) (x : α) : Prop :=
  ∀ (K1 : V → Hp → Prop) (K2 : Hp → Prop), (∀ y H4 z, f x = some z → Same H H4 → Ro H4 y z → K1 y H4) → (∀ H3, f x = none → Same H H3 → K2 H3) →
    g v (wipe σ ws) H fun σ2 H2 => wipe σ2 ws = wipe σ ws ∧ tt σ2 H2 fun b H3 => if b = true then te σ2 H3 K1 else K2 H3
theorem lstep (st : ∀ x v H, x ∈ l → Same H1 H → Ri H v x → LcStep f Ro g tt te ws σ H v x) (hl : l.length ≤ 100000) {i : Nat} {v : V} {x : α} {H : Hp} (hx : l[i]? = some x) (r : Ri H v x) (b : Bt Ro H1 H D ((l.take i).filterMap f)) :
    g v (wipe σ ws) H fun σ2 H2 => wipe σ2 ws = wipe σ ws ∧ tt σ2 H2 fun b H3 =>
      if b = true then te σ2 H3 fun y H4 => ∃ acc, H4 D = some (.lst acc) ∧ acc.length < sizeLine ∧ Bt Ro H1 (upd H4 D (.lst (acc ++ [y]))) D ((l.take (i + 1)).filterMap f) else Bt Ro H1 H3 D ((l.take (i + 1)).filterMap f) := by
  rw [filterMap_take hx]
  refine st x v H (List.mem_of_getElem? hx) b.sm r _ _ (fun y H4 z ez s ro => ?_) fun H3 ez s => ?_
  · rw [ez]
    refine b.app s ro ?_
    have h1 := List.length_filterMap_le f (l.take i)
    have h2 := List.length_take_le i l
    have h3 := List.length_take (i := i) (l := l)
    omega
  · rw [ez]
    show Bt Ro H1 H3 D (_ ++ [])
    rw [List.append_nil]
    exact b.same s
theorem lcB_list (nd : H1 D = none) (hS : SqL K H1 a vs) (hp : Paired (Ri H1) vs l) (hl : l.length ≤ 100000)
    (st : ∀ x v H, x ∈ l → Same H1 H → Ri H v x → LcStep f Ro g tt te ws σ H v x) (hd : ∀ H, Bt Ro H1 H D (l.filterMap f) → Qd H) :
    Rnd g tt (tApp te D) ws σ (Itl K a) Qd (upd H1 D (.lst [])) := by
  refine lc_list (xs := vs) (fun i H => Bt Ro H1 H D ((l.take i).filterMap f)) (Bt.start nd) (fun i H _ b => b.sm.seq hS) (fun i v H hv b => ?_) (fun H b => hd H ?_)
  · obtain ⟨x, hx, r⟩ := paired_get _ hp hv
    exact lstep st hl hx (Mn.up (KT.of b.sm) r) b
  · have e : vs.length = l.length := hp.length
    rw [e, List.take_length] at b
    exact b
theorem lcB_tup (nd : H1 D = none) (hS : H1 a = some (.tup vs)) (hp : Paired (Ri H1) vs l) (hl : l.length ≤ 100000)
    (st : ∀ x v H, x ∈ l → Same H1 H → Ri H v x → LcStep f Ro g tt te ws σ H v x) (hd : ∀ H, Bt Ro H1 H D (l.filterMap f) → Qd H) :
    Rnd g tt (tApp te D) ws σ (Itt K a) Qd (upd H1 D (.lst [])) := by
  refine lc_tup (xs := vs) (fun i H => Bt Ro H1 H D ((l.take i).filterMap f)) (Bt.start nd) (fun i H _ b => SqT.of (b.sm _ _ hS)) (fun i v H hv b => ?_) (fun H b => hd H ?_)
  · obtain ⟨x, hx, r⟩ := paired_get _ hp hv
    exact lstep st hl hx (Mn.up (KT.of b.sm) r) b
  · have e : vs.length = l.length := hp.length
    rw [e, List.take_length] at b
    exact b
end
section
variable {β : Type} {Ro : Rel β} [Mn Ro] {H1 : Hp} {D : Addr} {lo : Int} {n : Nat} {f : Nat → Option β} {g : TG} {tt : TT} {te : TE} {ws : List Nat} {σ : L2.St} {Qd : Hp → Prop}
theorem range_take {i n : Nat} (h : i ≤ n) : (List.range n).take i = List.range i := by
  rw [List.take_range, Nat.min_eq_left h]
theorem lcB_range (nd : H1 D = none) (hl : n ≤ 100000) (st : ∀ i H, i < n → Same H1 H → LcStep f Ro g tt te ws σ H (.int (lo + i)) i) (hd : ∀ H, Bt Ro H1 H D ((List.range n).filterMap f) → Qd H) :
    Rnd g tt (tApp te D) ws σ (Itr lo n) Qd (upd H1 D (.lst [])) := by
  refine lc_range (fun i H => i ≤ n ∧ Bt Ro H1 H D (((List.range n).take i).filterMap f)) ⟨Nat.zero_le _, Bt.start nd⟩ (fun i H hi b => ?_) (fun H b => hd H ?_)
  · have q := lstep (Ri := RLo lo) (l := List.range n) (fun x v H hx s r => by
      cases r
      exact st x H (List.mem_range.mp hx) s) (by rw [List.length_range]; exact hl) (i := i) (x := i) (v := .int (lo + i)) (by simp [hi]) rfl b.2
    have e : ∀ P : Prop, P → (i + 1 ≤ n ∧ P) := fun P p => ⟨hi, p⟩
    simp only [show (i + 1 ≤ n) = True from eq_true hi, true_and]
    exact q
  · rw [range_take (Nat.le_refl n)] at b
    exact b.2
end
end KB
end

section
set_option Elab.async false
set_option linter.all false
set_option maxRecDepth 100000
set_option maxHeartbeats 400000
/-! all_threes -/
namespace KB
open PySem PySem.Spec PyProof.Rows L2
def t3c (n a b : Nat) : List T3 := (List.range (n - (b + 1))).map fun k => (a, b, b + 1 + k)
def t3b (n a : Nat) : List T3 := (List.range (n - (a + 1))).flatMap fun k => t3c n a (a + 1 + k)
def threes (n : Nat) : List T3 := (List.range n).flatMap (t3b n)
theorem flatMap_le {α : Type} (f : Nat → List α) (c : Nat) (h : ∀ a, (f a).length ≤ c) : ∀ i, ((List.range i).flatMap f).length ≤ c * i
  | 0 => by simp
  | i + 1 => by
    rw [List.range_succ, List.flatMap_append, List.length_append]
    have := flatMap_le f c h i
    have h2 := h i
    simp only [List.flatMap_cons, List.flatMap_nil, List.append_nil]
    rw [Nat.mul_succ]
    omega
theorem flatMap_succ {α : Type} (f : Nat → List α) (i : Nat) : (List.range (i + 1)).flatMap f = (List.range i).flatMap f ++ f i := by
  rw [List.range_succ, List.flatMap_append]
  simp
theorem t3c_le (n a b : Nat) : (t3c n a b).length ≤ n := by
  unfold t3c
  rw [List.length_map, List.length_range]
  omega
theorem t3b_le (n a : Nat) : (t3b n a).length ≤ n * n := by
  unfold t3b
  refine Nat.le_trans (flatMap_le _ n (fun k => t3c_le n a _) _) ?_
  exact Nat.mul_le_mul_left _ (by omega)
def spThrees : Sp := fun vs H Q _ => ∃ n : Nat, vs = [.int n] ∧ n ≤ 10 ∧ ∀ p H', H p = none → Bt R3 H H' p (threes n) → Q (.ref p) H'
theorem threes_le {n : Nat} (hn : n ≤ 10) : (threes n).length ≤ 1000 := Nat.le_trans (flatMap_le (t3b n) 100 (fun a => Nat.le_trans (t3b_le n a) (Nat.mul_le_mul hn hn)) n) (by omega)
theorem scThrees : FnScope ["many", "a", "b", "c"] ["many"] (defScope (topS 23)) := ⟨rfl, rfl, rfl, by decide +kernel, rfl, by decide +kernel, by decide +kernel⟩
/-- a new tuple (x, y, z) behind the list -/
theorem new3 {H : Hp} {p : Addr} {xs : List V} (np : H p = none) : Same H (upd H p (.tup xs)) := same_new np
section
variable {P : Program} {w : World} {K : PySem.W.Frag} {mg : Str → Option Value} {base : Heap}
theorem ok_threes {f : Addr} {fd : FuncData} (F : Fun K "all_threes" "all_threes" (topS 23) f fd) (mR : mg "range" = none) : FnOk P w K mg base CX0 1 f fd ["many"] spThrees := by
  refine F.ok scThrees (fun vs H Q E h => ?_) (fun cdv A outer s H vs Q E hr h => ⟨_,
    pss_one (ps_ret (pe_lc3 (own := [("a", 1), ("b", 2), ("c", 3)]) (vs1 := [2, 3]) (vs2 := [3]) (g0 := gName 1) (g1 := gName 2) (g2 := gName 3) (tt0 := tYes) (tt1 := tYes) (tt2 := tYes) rfl scThrees.nd (pi_range1 (by rfl) mR (pa_cons (pv 0) pa_nil))
      (blkOk_by (N := ["many", "a", "b", "c"]) (sc := defScope (topS 23)) (by decide +kernel)) (by decide) (by decide)
      (fun _ _ _ _ _ => pg_name (i := 1) scThrees.nd rfl (Or.inl rfl)) (fun _ _ _ _ _ => pts_nil)
      (fun _ _ _ _ _ => pi_range2 (by rfl) mR (pa_cons (pe_op op_add (pv 1) pe_int) (pa_cons (pv 0) pa_nil))) (fun _ _ _ _ _ => pg_name (i := 2) scThrees.nd rfl (Or.inl rfl)) (fun _ _ _ _ _ => pts_nil)
      (fun _ _ _ _ _ => pi_range2 (by rfl) mR (pa_cons (pe_op op_add (pv 2) pe_int) (pa_cons (pv 0) pa_nil))) (fun _ _ _ _ _ => pg_name (i := 3) scThrees.nd rfl (Or.inl rfl)) (fun _ _ _ _ _ => pts_nil)
      (fun _ _ _ _ _ => pe_tup (pa_cons (pv 1) (pa_cons (pv 2) (pa_cons (pv 3) pa_nil)))))), ?_⟩)
  · obtain ⟨n, rfl, _⟩ := h
    rfl
  · obtain ⟨n, rfl, hn, k⟩ := h
    refine ⟨_, rfl, _, rfl, by omega, by omega, fun D nD => cl_range (lo := 0) (n := ((n : Int)).toNat) (fun i H' => Bt R3 H H' D ((List.range i).flatMap (t3b n))) (Bt.start nD) (fun i H1 hi b1 => ?_) fun H' b => k D H' nD b⟩
    have hi' : i < n := by omega
    refine ⟨rfl, yesI ⟨_, rfl, _, _, rfl, rfl, _, rfl, _, _, rfl, ⟨by omega, by omega, by omega, by omega⟩, cl_range (n := ((n : Int) - (0 + i + 1)).toNat)
      (fun j H' => Bt R3 H H' D ((List.range i).flatMap (t3b n) ++ (List.range j).flatMap fun k => t3c n i (i + 1 + k))) ?_ (fun j H2 hj b2 => ?_) fun H2 b2 => ?_⟩⟩
    · simpa using b1
    · have hj' : j < n - (i + 1) := by omega
      have l1 := flatMap_le (t3b n) 100 (fun a => Nat.le_trans (t3b_le n a) (Nat.mul_le_mul hn hn)) i
      have l2 := flatMap_le (fun k => t3c n i (i + 1 + k)) 10 (fun k => Nat.le_trans (t3c_le n i _) hn) j
      refine ⟨rfl, yesI ⟨_, rfl, _, _, rfl, rfl, _, rfl, _, _, rfl, ⟨by omega, by omega, by omega, by omega⟩, cl_range (n := ((n : Int) - (0 + i + 1 + j + 1)).toNat)
        (fun k H' => Bt R3 H H' D (((List.range i).flatMap (t3b n) ++ (List.range j).flatMap fun k => t3c n i (i + 1 + k)) ++ (List.range k).map fun k => (i, i + 1 + j, i + 1 + j + 1 + k))) ?_ (fun k H3 hk b3 => ?_) fun H3 b3 => ?_⟩⟩
      · simpa using b2
      · have hk' : k < n - (i + 1 + j + 1) := by omega
        refine ⟨rfl, yesI ⟨_, rfl, _, rfl, _, rfl, by show 3 ≤ sizeLine; decide, fun p np => ?_⟩⟩
        have r : R3 (upd H3 p (.tup [.int (0 + i), .int (0 + i + 1 + j), .int (0 + i + 1 + j + 1 + k)])) (.ref p) (i, i + 1 + j, i + 1 + j + 1 + k) := ⟨p, rfl, by
          rw [upd_same]
          simp⟩
        have q := b3.app (new3 np) r (by
          simp only [List.length_append, List.length_map, List.length_range]
          omega)
        rw [List.append_assoc, ← List.map_singleton (f := fun k => (i, i + 1 + j, i + 1 + j + 1 + k)), ← List.map_append, ← List.range_succ] at q
        exact q
      · rw [flatMap_succ, ← List.append_assoc]
        have e : ((n : Int) - (0 + i + 1 + j + 1)).toNat = n - (i + 1 + j + 1) := by omega
        rw [e] at b3
        exact b3
    · rw [flatMap_succ]
      have e : ((n : Int) - (0 + i + 1)).toNat = n - (i + 1) := by omega
      rw [e] at b2
      exact b2
end
end KB
end

section
set_option Elab.async false
set_option linter.all false
set_option maxRecDepth 100000
set_option maxHeartbeats 400000
/-! _law_threes -/
namespace KB
open PySem PySem.Spec PyProof.Rows L2
theorem filterMap_some {α β : Type} (f : α → β) (l : List α) : l.filterMap (fun x => some (f x)) = l.map f := by
  induction l with
  | nil => rfl
  | cons a l ih => simp
theorem Paired.app {α : Type} {R : V → α → Prop} {zs : List V} {m : List α} (h2 : Paired R zs m) : ∀ {vs : List V} {l : List α}, Paired R vs l → Paired R (vs ++ zs) (l ++ m)
  | _, _, .nil => h2
  | _, _, .cons r t => .cons r (Paired.app h2 t)
/-- xs.extend(ys) -/
theorem Bt.ext {α : Type} {R : Rel α} [Mn R] {H0 H H1 : Hp} {D B : Addr} {l m : List α} (b : Bt R H0 H D l) (c : Bt R H H1 B m) (hl : (l ++ m).length ≤ 100000) :
    ∃ xs zs, H1 D = some (.lst xs) ∧ H1 B = some (.lst zs) ∧ xs.length + zs.length ≤ sizeLine ∧ Bt R H0 (upd H1 D (.lst (xs ++ zs))) D (l ++ m) := by
  obtain ⟨xs, e, p⟩ := b.ls
  obtain ⟨zs, e2, p2⟩ := c.ls
  have e1 := c.sm _ _ e
  have kt : KT H1 (L2.upd H1 D (.lst (xs ++ zs))) := KT.upd e1 (fun _ z => by cases z)
  have h1 : xs.length = l.length := p.length
  have h2 : zs.length = m.length := p2.length
  have p' := Paired.upd kt (Paired.upd (.of c.sm) p)
  have p2' := Paired.upd kt p2
  refine ⟨xs, zs, e1, e2, ?_, b.nd, same_upd b.nd (b.sm.trans c.sm), _, upd_same, ?_⟩
  · rw [List.length_append] at hl
    have := smallX hl
    omega
  · exact Paired.app p2' p'
abbrev nLT : List Str := ["_law_many", "_law_threes_here", "_law_a", "_law_b", "_law_c"]
theorem scLT : FnScope nLT ["_law_many"] (defScope (topS 73)) := ⟨rfl, rfl, rfl, by decide +kernel, rfl, by decide +kernel, by decide +kernel⟩
section
variable {P : Program} {w : World} {K : PySem.W.Frag} {mg : Str → Option Value} {base : Heap}
theorem ok_lthrees {f : Addr} {fd : FuncData} (F : Fun K "_law_threes" "_law_threes" (topS 73) f fd) (mR : mg "range" = none) : FnOk P w K mg base CX0 1 f fd ["_law_many"] spThrees := by
  refine F.ok scLT (fun vs H Q E h => ?_) (fun cdv A outer s H vs Q E hr h => ⟨_,
    pss_cons (ps_set (i := 1) scLT.nd rfl (Or.inl rfl) (pe_lst pa_nil))
    (pss_cons (ps_for PassesOwn.never rfl (pi_range1 (by rfl) mR (pa_cons (pv 0) pa_nil)) (pg_name (i := 2) scLT.nd rfl (Or.inr rfl))
      (pss_one (ps_for PassesOwn.never rfl (pi_range2 (by rfl) mR (pa_cons (pe_op op_add (pv 2) pe_int) (pa_cons (pv 0) pa_nil))) (pg_name (i := 3) scLT.nd rfl (Or.inr rfl))
        (pss_one (ps_expr (pe_bm PySem.F.plainAttrs_list PySem.F.slot_list_extend PySem.F.type_list_extend mt_extend (pv 1) (pa_cons
          (pe_lc (own := [("_law_c", 4)]) (g := gName 4) (tt := tYes) rfl scLT.nd (pi_range2 (by rfl) mR (pa_cons (pe_op op_add (pv 3) pe_int) (pa_cons (pv 0) pa_nil))) (blkOk_by (N := nLT) (sc := defScope (topS 73)) (by decide +kernel))
            (fun _ _ _ _ _ => pg_name (i := 4) scLT.nd rfl (Or.inl rfl)) (fun _ _ _ _ _ => pts_nil) (fun _ _ _ _ _ => pe_tup (pa_cons (pv 2) (pa_cons (pv 3) (pa_cons (pv 4) pa_nil))))) pa_nil)))))))
    (pss_one (ps_ret (pv 1)))), ?_⟩)
  · obtain ⟨n, rfl, _⟩ := h
    rfl
  · obtain ⟨n, rfl, hn, k⟩ := h
    refine ⟨by decide, fun D nD => ⟨_, rfl, _, rfl, by omega, by omega, for_range (lo := 0) (n := (n : Int).toNat)
      (fun i σ H' => ∃ x y z, σ = [some (.int n), some (.ref D), x, y, z] ∧ Bt R3 H H' D ((List.range i).flatMap (t3b n))) ⟨_, _, _, rfl, Bt.start nD⟩ ?_ ?_⟩⟩
    · rintro i σ H1 hi ⟨x, y, z, rfl, b1⟩
      have hi' : i < n := by omega
      refine ⟨_, rfl, _, _, rfl, rfl, _, rfl, _, _, rfl, ⟨by omega, by omega, by omega, by omega⟩, for_range (n := ((n : Int) - (0 + i + 1)).toNat)
        (fun j σ H' => ∃ y z, σ = [some (.int n), some (.ref D), some (.int (0 + i)), y, z] ∧ Bt R3 H H' D ((List.range i).flatMap (t3b n) ++ (List.range j).flatMap fun k => t3c n i (i + 1 + k))) ⟨_, _, rfl, by simpa using b1⟩ ?_ ?_⟩
      · rintro j σ H2 hj ⟨y, z, rfl, b2⟩
        have hj' : j < n - (i + 1) := by omega
        have l1 := flatMap_le (t3b n) 100 (fun a => Nat.le_trans (t3b_le n a) (Nat.mul_le_mul hn hn)) i
        have l2 := flatMap_le (fun k => t3c n i (i + 1 + k)) 10 (fun k => Nat.le_trans (t3c_le n i _) hn) j
        have l3 := t3c_le n i (i + 1 + j)
        obtain ⟨dv, ed, _⟩ := b2.ls
        refine ⟨_, rfl, Or.inl ⟨rfl, _, Or.inl (Or.inl ed)⟩, _, rfl, _, _, rfl, rfl, _, rfl, _, _, rfl, ⟨by omega, by omega, by omega, by omega⟩, fun B nB => lcB_range (Ro := R3) (n := ((n : Int) - (0 + i + 1 + j + 1)).toNat)
          (f := fun k => some (i, i + 1 + j, i + 1 + j + 1 + k)) nB (by omega) (fun k H3 hk s3 => ?_) fun H3 b3 => ?_⟩
        · intro K1 K2 h1 h2
          refine ⟨rfl, yesI ⟨_, rfl, _, rfl, _, rfl, by show 3 ≤ sizeLine; decide, fun p np => h1 _ _ _ rfl (same_new np) ⟨p, rfl, ?_⟩⟩⟩
          rw [upd_same]
          simp
        · rw [filterMap_some] at b3
          have e : ((n : Int) - (0 + i + 1 + j + 1)).toNat = n - (i + 1 + j + 1) := by omega
          rw [e] at b3
          obtain ⟨xs, zs, e1, e2, hz, q⟩ := b2.ext b3 (by
            simp only [List.length_append, List.length_map, List.length_range]
            omega)
          refine ⟨D, B, xs, zs, rfl, rfl, e1, e2, hz, _, _, rfl, ?_⟩
          rw [flatMap_succ, ← List.append_assoc]
          exact q
      · rintro σ H2 ⟨y, z, rfl, b2⟩
        refine ⟨_, _, _, rfl, ?_⟩
        rw [flatMap_succ]
        have e : ((n : Int) - (0 + i + 1)).toNat = n - (i + 1) := by omega
        rw [e] at b2
        exact b2
    · rintro σ H1 ⟨x, y, z, rfl, b⟩
      exact ⟨_, rfl, k D H1 nD b⟩
end
end KB
end

section
set_option Elab.async false
set_option linter.all false
set_option maxRecDepth 100000
set_option maxHeartbeats 400000
/-! all_fours -/
namespace KB
open PySem PySem.Spec PyProof.Rows L2
theorem ixT (K : PySem.W.Frag) {X : Cx} (h : X.K = K) : IxR X (rIxT K) := by
  subst h
  exact ix_tup
theorem ixL (K : PySem.W.Frag) {X : Cx} (h : X.K = K) : IxR X (rIxL K) := by
  subst h
  exact ix_list
theorem paStar (K : PySem.W.Frag) {X : Cx} {e : Expr} {es : List Expr} {te : TE} {t : TA} {p : Pos} (h : X.K = K) (he : PE X e te) (hr : PA X es t) (hs : starEach (.Starred e p :: es) X.env = (true, eval e X.env) :: starEach es X.env := by rfl) : PA X (.Starred e p :: es) (StX.tStar K te t) := by
  subst h
  exact StX.pa_star he hr hs
abbrev T4 := Nat × Nat × Nat × Nat
def R4 : Rel T4 := fun H v x => RT H v [x.1, x.2.1, x.2.2.1, x.2.2.2]
instance : Mn R4 := ⟨fun k h => Mn.up (R := RT) k h⟩
def f4 (n : Nat) (t : T3) : List T4 := (List.range (n - (t.2.2 + 1))).map fun k => (t.1, t.2.1, t.2.2, t.2.2 + 1 + k)
def fours (n : Nat) : List T4 := (threes n).flatMap (f4 n)
theorem flatMap_len {α β : Type} (f : α → List β) (c : Nat) (h : ∀ a, (f a).length ≤ c) : ∀ l : List α, (l.flatMap f).length ≤ c * l.length
  | [] => by simp
  | a :: l => by
    rw [List.flatMap_cons, List.length_append, List.length_cons, Nat.mul_succ]
    have := flatMap_len f c h l
    have := h a
    omega
theorem f4_le (n : Nat) (t : T3) : (f4 n t).length ≤ n := by
  unfold f4
  rw [List.length_map, List.length_range]
  omega
theorem fours_le {n : Nat} (hn : n ≤ 10) : (fours n).length ≤ 10000 := by
  have := flatMap_len (f4 n) 10 (fun t => Nat.le_trans (f4_le n t) hn) (threes n)
  have := threes_le hn
  unfold fours
  omega
def spFours : Sp := fun vs H Q _ => ∃ n : Nat, vs = [.int n] ∧ n ≤ 10 ∧ ∀ p H', H p = none → Bt R4 H H' p (fours n) → Q (.ref p) H'
theorem threes_mem {n : Nat} {t : T3} (h : t ∈ threes n) : t.1 < t.2.1 ∧ t.2.1 < t.2.2 ∧ t.2.2 < n := by
  unfold threes at h
  obtain ⟨a, ha, h⟩ := List.mem_flatMap.mp h
  unfold t3b at h
  obtain ⟨b, hb, h⟩ := List.mem_flatMap.mp h
  unfold t3c at h
  obtain ⟨c, hc, rfl⟩ := List.mem_map.mp h
  simp only [List.mem_range] at ha hb hc
  dsimp only
  omega
theorem Bt.from_ {α : Type} {R : Rel α} {H0 H1 H : Hp} {D : Addr} {l : List α} (b : Bt R H1 H D l) (s : Same H0 H1) : Bt R H0 H D l := ⟨s.free b.nd, s.trans b.sm, b.ls⟩
abbrev nAF : List Str := ["many", "triangle", "d"]
theorem scAF : FnScope nAF ["many"] (defScope (topS 24)) := ⟨rfl, rfl, rfl, by decide +kernel, rfl, by decide +kernel, by decide +kernel⟩
theorem take_snoc {α : Type} {l : List α} {i : Nat} {x : α} (h : l[i]? = some x) : l.take (i + 1) = l.take i ++ [x] := by
  rw [List.take_add_one, h]
  rfl
section
variable {P : Program} {w : World} {K : PySem.W.Frag} {mg : Str → Option Value} {base : Heap}
theorem ok_fours {f f3 : Addr} {fd fd3 : FuncData} (F : Fun K "all_fours" "all_fours" (topS 24) f fd) (mR : mg "range" = none) (G3 : Gd K mg "all_threes" (topS 23) f3 fd3) : FnOk P w K mg base CX0 2 f fd ["many"] spFours := by
  have F3 : FnOk P w K mg base CX0 1 f3 fd3 ["many"] spThrees := ok_threes G3.F mR
  have b3 := G3.F.binds (ps := ["many"]) fun _ _ _ _ _ _ us hl => match us, hl with | [_], _ => rfl
  refine F.ok scAF (fun vs H Q E h => ?_) (fun cdv A outer s H vs Q E hr h => ⟨_,
    pss_one (ps_ret (pe_lc2 (own := [("triangle", 1), ("d", 2)]) (vs1 := [2]) (g := gName 1) (g1 := gName 2) (tt := tYes) (tt1 := tYes) rfl scAF.nd (pi_list (pe_call F3 hr rfl G3.g G3.F.kp b3 .nil pass0 (pa_cons (pv 0) pa_nil)))
      (blkOk_by (N := nAF) (sc := defScope (topS 24)) (by decide +kernel)) (by decide)
      (fun _ _ _ _ _ => pg_name (i := 1) scAF.nd rfl (Or.inl rfl)) (fun _ _ _ _ _ => pts_nil)
      (fun _ _ _ _ _ => pi_range2 (by rfl) mR (pa_cons (pe_op op_add (pe_ix (ixT K rfl) (pv 1) pe_int (fun _ _ => rfl)) pe_int) (pa_cons (pv 0) pa_nil))) (fun _ _ _ _ _ => pg_name (i := 2) scAF.nd rfl (Or.inl rfl)) (fun _ _ _ _ _ => pts_nil)
      (fun _ _ _ _ _ => pe_tup (paStar K rfl (pv 1) (pa_cons (pv 2) pa_nil))))), ?_⟩)
  · obtain ⟨n, rfl, _⟩ := h
    rfl
  · obtain ⟨n, rfl, hn, k⟩ := h
    refine ⟨_, rfl, n, rfl, hn, fun p H1 np b0 => ?_⟩
    obtain ⟨vs, ep, pr⟩ := b0.ls
    have hvl : vs.length = (threes n).length := pr.length
    refine ⟨p, rfl, ⟨vs, SqL.of ep⟩, fun D nD => cl_list (K := K) (a := p) (xs := vs) (fun i H' => Bt R4 H1 H' D (((threes n).take i).flatMap (f4 n))) (Bt.start nD) (fun i H' _ b => b.sm.seq (SqL.of ep)) (fun i v H2 hv b => ?_) fun H2 b => ?_⟩
    · obtain ⟨t, ht, r⟩ := paired_get _ pr hv
      obtain ⟨q, rfl, eq1⟩ := r
      have eq := b.sm _ _ eq1
      have ht3 := threes_mem (List.mem_of_getElem? ht)
      refine ⟨rfl, yesI ⟨_, rfl, _, _, _, _, rfl, rfl, SqT.of eq, at2, _, _, rfl, rfl, _, rfl, _, _, rfl, ⟨by omega, by omega, by omega, by omega⟩, cl_range (n := ((n : Int) - (t.2.2 + 1)).toNat)
        (fun j H' => Bt R4 H1 H' D (((threes n).take i).flatMap (f4 n) ++ (List.range j).map fun k => (t.1, t.2.1, t.2.2, t.2.2 + 1 + k))) (by simpa using b) (fun j H3 hj b3 => ?_) fun H3 b3 => ?_⟩⟩
      · have eq3 := b3.sm _ _ eq1
        refine ⟨rfl, yesI ⟨_, rfl, q, _, rfl, .inl (SqT.of eq3), _, rfl, by show 4 ≤ sizeLine; decide, fun u nu => ?_⟩⟩
        have r : R4 (upd H3 u (.tup [.int t.1, .int t.2.1, .int t.2.2, .int ((t.2.2 : Int) + 1 + j)])) (.ref u) (t.1, t.2.1, t.2.2, t.2.2 + 1 + j) := ⟨u, rfl, by
          rw [upd_same]
          simp⟩
        have l1 := flatMap_len (f4 n) 10 (fun t => Nat.le_trans (f4_le n t) hn) ((threes n).take i)
        have l2 := threes_le hn
        have l3 := List.length_take (i := i) (l := threes n)
        have z := b3.app (same_new nu) r (by
          simp only [List.length_append, List.length_map, List.length_range]
          omega)
        rw [List.append_assoc, ← List.map_singleton (f := fun k => (t.1, t.2.1, t.2.2, t.2.2 + 1 + k)), ← List.map_append, ← List.range_succ] at z
        exact z
      · rw [take_snoc ht, List.flatMap_append]
        have e : ((n : Int) - (t.2.2 + 1)).toNat = n - (t.2.2 + 1) := by omega
        rw [e] at b3
        simpa [f4] using b3
    · rw [hvl, List.take_length] at b
      exact k D H2 (b0.sm.free nD) (b.from_ b0.sm)
end
end KB
end

section
set_option Elab.async false
set_option linter.all false
set_option maxRecDepth 100000
set_option maxHeartbeats 400000
/-! floors: their state, quick_turn, len -/
namespace KB
open PySem PySem.Spec PyProof.Rows L2
def RP : Rel (Int × Int) := fun H v p => RT H v [p.1, p.2]
instance : Mn RP := ⟨fun k h => Mn.up (R := RT) k h⟩
def cx (ps : List (Int × Int)) (i : Nat) : Int := (ps.getD i (0, 0)).1
def cy (ps : List (Int × Int)) (i : Nat) : Int := (ps.getD i (0, 0)).2
def tn (ps : List (Int × Int)) (a b c : Nat) : Int := ar (cx ps a) (cy ps a) (cx ps b) (cy ps b) (cx ps c) (cy ps c)
abbrev k3 (a b c : Nat) : List Key := [.inl a, .inl b, .inl c]
structure PtsOk (ps : List (Int × Int)) : Prop where
  lo : 3 ≤ ps.length
  hi : ps.length ≤ 10
  bd : ∀ p ∈ ps, -1000000 ≤ p.1 ∧ p.1 ≤ 1000000 ∧ -1000000 ≤ p.2 ∧ p.2 ≤ 1000000
structure FloorAt (CF : Addr) (ps : List (Int × Int)) (H : Hp) (f : Addr) : Prop where
  ok : PtsOk ps
  ex : ∃ dx tp td vs kvs, H f = some (.ins CF dx [("points", .ref tp), ("_turns", .ref td)]) ∧ H tp = some (.tup vs) ∧ Paired (RP H) vs ps ∧ H td = some (.dT kvs) ∧
    ∀ a b c, a < ps.length → b < ps.length → c < ps.length → a ≠ b → a ≠ c → b ≠ c → valV kvs (k3 a b c) = some (.int (sg (tn ps a b c)))
/-- all but lists stands -/
def KL (H H' : Hp) : Prop := ∀ b o, H b = some o → (∀ xs, o ≠ .lst xs) → H' b = some o
theorem KL.of {H H' : Hp} (s : Same H H') : KL H H' := fun b o e _ => s b o e
theorem KL.kt {H H' : Hp} (s : KL H H') : KT H H' := fun b xs e => s b _ e fun _ z => by cases z
theorem KL.trans {H H1 H2 : Hp} (a : KL H H1) (b : KL H1 H2) : KL H H2 := fun c o e n => b c o (a c o e n) n
theorem KL.upd {H : Hp} {D : Addr} {xs : List V} {o : HO} (e : H D = some (.lst xs)) : KL H (upd H D o) := fun b ob eb n => by
  by_cases hb : b = D
  · subst hb
    rw [e] at eb
    exact absurd (Option.some.inj eb).symm (n xs)
  · rw [upd_ne hb]
    exact eb
theorem FloorAt.up {CF : Addr} {ps : List (Int × Int)} {H H' : Hp} {f : Addr} (h : FloorAt CF ps H f) (k : KL H H') : FloorAt CF ps H' f := by
  obtain ⟨ok, dx, tp, td, vs, kvs, e1, e2, p, e3, t⟩ := h
  exact ⟨ok, dx, tp, td, vs, kvs, k _ _ e1 (fun _ z => by cases z), k _ _ e2 (fun _ z => by cases z), Paired.upd k.kt p, k _ _ e3 (fun _ z => by cases z), t⟩
theorem FloorAt.same {CF : Addr} {ps : List (Int × Int)} {H H' : Hp} {f : Addr} (h : FloorAt CF ps H f) (s : Same H H') : FloorAt CF ps H' f := h.up (.of s)
/-- what the class Floor has -/
structure FlK (K : PySem.W.Frag) (CF fL fT : Addr) : Prop where
  cl : Cls K CF
  nP : NoAttr K CF "points"
  nT : NoAttr K CF "_turns"
  mT : Meth K CF "quick_turn" fT
  ln : LenC K CF fL
def spLenF (CF : Addr) : Sp := fun vs H Q _ => ∃ f ps, vs = [.ref f] ∧ FloorAt CF ps H f ∧ Q (.int (ps.length : Nat)) H
def spTurn (CF : Addr) : Sp := fun vs H Q _ => ∃ (f : Addr) (ps : List (Int × Int)) (a b c : Nat), vs = [.ref f, .int a, .int b, .int c] ∧ FloorAt CF ps H f ∧ (a < ps.length ∧ b < ps.length ∧ c < ps.length ∧ a ≠ b ∧ a ≠ c ∧ b ≠ c) ∧
  ∀ H', Same H H' → Q (.int (sg (tn ps a b c))) H'
theorem scLenF : FnScope ["self"] ["self"] (defScope (clsS 63 5)) := ⟨rfl, rfl, rfl, by decide +kernel, rfl, by decide +kernel, by decide +kernel⟩
abbrev nQT : List Str := ["self", "a", "b", "c"]
theorem scTurn : FnScope nQT nQT (defScope (clsS 63 12)) := ⟨rfl, rfl, rfl, by decide +kernel, rfl, by decide +kernel, by decide +kernel⟩
section
variable {P : Program} {w : World} {K : PySem.W.Frag} {mg : Str → Option Value} {base : Heap} {CF fL fT : Addr}
theorem ok_lenF {fd : FuncData} (F : Fun K "__len__" "Floor.__len__" (clsS 63 5) fL fd) (T : FlK K CF fL fT) (mL : mg "len" = none) : FnOk P w K mg base CX0 1 fL fd ["self"] (spLenF CF) := by
  refine F.ok scLenF (fun vs H Q E h => ?_) (fun cdv A outer s H vs Q E hr h => ⟨_, pss_one (ps_ret (pe_callB call_len_seq (by rfl) mL PySem.boot_len (pa_cons (pe_fld (pv 0) rfl) pa_nil))), ?_⟩)
  · obtain ⟨f, ps, rfl, _⟩ := h
    rfl
  · obtain ⟨f, ps, rfl, ⟨ok, dx, tp, td, vs, kvs, e1, e2, p, e3, t⟩, k⟩ := h
    refine ⟨_, rfl, f, CF, dx, _, _, rfl, e1, T.cl, T.nP, rfl, tp, vs, rfl, .inr (SqT.of e2), ?_⟩
    have e : vs.length = ps.length := p.length
    rw [e]
    exact k
theorem ok_turn {fd : FuncData} (F : Fun K "quick_turn" "Floor.quick_turn" (clsS 63 12) fT fd) (T : FlK K CF fL fT) : FnOk P w K mg base CX0 1 fT fd nQT (spTurn CF) := by
  refine F.ok scTurn (fun vs H Q E h => ?_) (fun cdv A outer s H vs Q E hr h => ⟨_, pss_one (ps_ret (pe_dget (hu_of hr) (pe_fld (pv 0) rfl) (pe_tup (pa_cons (pv 1) (pa_cons (pv 2) (pa_cons (pv 3) pa_nil)))) (fun _ _ => rfl))), ?_⟩)
  · obtain ⟨f, ps, a, b, c, rfl, _⟩ := h
    rfl
  · obtain ⟨f, ps, a, b, c, rfl, ⟨ok, dx, tp, td, vs, kvs, e1, e2, p, e3, t⟩, ⟨ha, hb, hc, hab, hac, hbc⟩, k⟩ := h
    refine ⟨_, rfl, f, CF, dx, _, _, rfl, e1, T.cl, T.nT, rfl, _, rfl, _, rfl, _, rfl, by show 3 ≤ sizeLine; decide, fun u nu => ⟨td, _, rfl, ?_, k _ (same_new nu)⟩⟩
    rw [← t a b c ha hb hc hab hac hbc]
    exact DGet.t (same_new nu _ _ e3) upd_same
theorem rdTurn {σ : L2.St} {H : Hp} {Q : VK} {ta t1 t2 t3 : TE} {f : Addr} {ps : List (Int × Int)} {a b c : Nat} (h0 : Gv ta σ H (.ref f)) (h1 : Gv t1 σ H (.int a)) (h2 : Gv t2 σ H (.int b)) (h3 : Gv t3 σ H (.int c)) (hF : FloorAt CF ps H f)
    (ha : a < ps.length) (hb : b < ps.length) (hc : c < ps.length) (hab : a ≠ b) (hac : a ≠ c) (hbc : b ≠ c) (q : ∀ H', Same H H' → Q (.int (sg (tn ps a b c))) H') :
    tMeth CF "quick_turn" (spTurn CF) [] E0 ta (tCons t1 (tCons t2 (tCons t3 tNil))) σ H Q := by
  have hF' := hF
  obtain ⟨ok, dx, tp, td, vs, kvs, e1, e2, p, e3, t⟩ := hF
  exact h0 _ ⟨f, dx, _, rfl, e1, rfl, h1 _ (h2 _ (h3 _ ⟨f, ps, a, b, c, rfl, hF', ⟨ha, hb, hc, hab, hac, hbc⟩, q⟩))⟩
theorem gDGet {σ : L2.St} {H : Hp} {ta tb : TE} {d : Addr} {kvs : List (Key × V)} {i : Int} {v : V} (h1 : Gv ta σ H (.ref d)) (h2 : Gv tb σ H (.int i)) (hd : H d = some (.dK kvs)) (e : valV kvs (Sum.inl i) = some v) : Gv (tDGet ta tb) σ H v := fun Q q => h1 _ (h2 _ ⟨d, v, rfl, by
  rw [← e]
  exact DGet.k (k := Sum.inl i) hd, q⟩)
theorem tEqI {σ : L2.St} {H : Hp} {ta tb : TE} {i j : Int} {A B : Hp → Prop} (h1 : Gv ta σ H (.int i)) (h2 : Gv tb σ H (.int j)) (hA : i = j → A H) (hB : i ≠ j → B H) : tTest (tOp rEq ta tb) σ H fun b H3 => if b = true then A H3 else B H3 :=
  h1 _ (h2 _ ⟨rfl, _, rfl, itD (fun c => hA (by cases c; rfl)) fun c => hB (fun e => c (by rw [e]))⟩)
theorem tNeI {σ : L2.St} {H : Hp} {ta tb : TE} {i j : Int} {A B : Hp → Prop} (h1 : Gv ta σ H (.int i)) (h2 : Gv tb σ H (.int j)) (hA : i ≠ j → A H) (hB : i = j → B H) : tTest (tOp rNe ta tb) σ H fun b H3 => if b = true then A H3 else B H3 := by
  refine h1 _ (h2 _ ⟨rfl, _, rfl, ?_⟩)
  by_cases c : i = j
  · subst c
    simpa using hB rfl
  · have c' : ¬ V.int i = V.int j := fun e => c (by cases e; rfl)
    simpa [c'] using hA c
end
end KB
end

section
set_option Elab.async false
set_option linter.all false
set_option maxRecDepth 100000
set_option maxHeartbeats 1000000
/-! sorted(t), t a tuple of numbers: list.sort on a new list of its items -/
namespace KB
open PySem PySem.Spec PyProof.Rows L2 PySem.Calls
def rSortTup (K : PySem.W.Frag) : List V → Hp → VK → Prop := fun vs H Q => ∃ (a : Addr) (ns : List Int), vs = [V.ref a] ∧ SqT K H a (ns.map V.int) ∧ ns.length < 64 ∧ ∀ (ns' : List Int) (p : Addr), ns'.Perm ns → ns'.Pairwise (· ≤ ·) → H p = none → Q (.ref p) (upd H p (.lst (ns'.map V.int)))
theorem cr_sortTup {X : Cx} : CallR X (.builtin "sorted") (rSortTup X.K) := by
  rintro pins s σ H vs us Q I r ⟨a, ns, rfl, hs, h64, q⟩
  have ⟨its, rv, ⟨o, ho, hc, n, hd⟩, _⟩ := I.tuple hs
  have hi := rv.ints
  have few : its.length < 64 := hi.length ▸ h64
  have fits : ∀ {m : Nat}, m < 64 → m ≤ sizeLine := fun lt => by rw [sizeLine_eq]; omega
  rw [Vals.ref1 r]
  refine call_function_entry kind_sorted plain_sorted entry_sorted (args_sorted1 _) ?_
  unfold Builtin.«sorted»
  refine wpAny_bind (m := checkCount "sorted" 1 1 _) (wpAny_pure (wpAny_bind (wpAny_collect_seq a (.inr rfl) ho hc hd (fun h1 k1 => wpAny_bind (wpAny_newList ?_ (fits few))) (by rw [List.size_toArray]; exact fits few))))
  have I1 : Inv X pins σ H { s with heap := h1 } := I.kept (t' := s.toks) k1
  have at_ : (h1.push (seqObj "list" its.toArray 0)).get? h1.objs.size = some (seqObj "list" its.toArray 0) := Heap.get?_push_size h1 rfl
  refine wpAny_bind (wpAny_holding (wpAny_call_entry slot_list_sort ⟨_, at_, rfl⟩ entry_list_sort ?_ (args_list_sort _)))
  refine list_sort_tree (s := { s with heap := h1.push (seqObj "list" its.toArray 0) }) at_ hi few fun out ns' i1 i2 i3 => ⟨_, rfl, wpAny_pure ⟨_, rfl, ?_⟩⟩
  have ⟨ep, there⟩ := sortedHeap_at (vs := its) (out := out) at_
  have old : ∀ b u, h1.get? b = some u → (sortedHeap (h1.push (seqObj "list" its.toArray 0)) h1.objs.size its out).get? b = some u := fun b u e => by
    have lt := Heap.lt_size e
    rw [sortedHeap_old (Nat.ne_of_lt lt) (by rw [size_push']; exact Nat.lt_succ_of_lt lt)]
    exact Heap.get?_push_of_some _ e
  have many : (ns'.map V.int).length ≤ sizeLine := by
    rw [List.length_map, i2.length_eq]
    exact fits h64
  exact ⟨.ref h1.objs.size, upd H h1.objs.size (.lst (ns'.map V.int)), I1.laid (t' := s.toks) old (Nat.le_refl _) ⟨many, out.toList, ep, vals_of_ints i1, there⟩, rfl, q ns' _ i2 i3 (I1.hok.fresh (Nat.le_refl _))⟩
end KB
end

section
set_option Elab.async false
set_option linter.all false
set_option maxRecDepth 100000
set_option maxHeartbeats 400000
/-! quick_split -/
namespace KB
open PySem PySem.Spec PyProof.Rows L2
/-- the sign that goes with a corner of four -/
def sgn4 (ps : List (Int × Int)) (q : T4) (x : Nat) : Int :=
  if x = q.1 then sg (tn ps q.2.1 q.2.2.1 q.2.2.2) else if x = q.2.1 then - sg (tn ps q.1 q.2.2.1 q.2.2.2) else if x = q.2.2.1 then sg (tn ps q.1 q.2.1 q.2.2.2) else - sg (tn ps q.1 q.2.1 q.2.2.1)
def asL (q : T4) : List Nat := [q.1, q.2.1, q.2.2.1, q.2.2.2]
def fstP (ps : List (Int × Int)) (q : T4) : List Nat := (asL q).filterMap fun x => if sgn4 ps q x = sgn4 ps q q.1 then some x else none
def sndP (ps : List (Int × Int)) (q : T4) : List Nat := (asL q).filterMap fun x => if sgn4 ps q x = sgn4 ps q q.1 then none else some x
def up4 (q : T4) (n : Nat) : Prop := q.1 < q.2.1 ∧ q.2.1 < q.2.2.1 ∧ q.2.2.1 < q.2.2.2 ∧ q.2.2.2 < n
/-- a tuple of indices -/
def RNs : Rel (List Nat) := fun H v l => ∃ t, v = .ref t ∧ H t = some (.tup (l.map fun x : Nat => V.int x))
instance : Mn RNs := ⟨fun k ⟨t, e, h⟩ => ⟨t, e, k _ _ h⟩⟩
theorem paired_rn {H : Hp} : ∀ {vs : List V} {l : List Nat}, Paired (RN H) vs l → vs = l.map fun x : Nat => V.int x
  | _, _, .nil => rfl
  | _, _, .cons r t => by
    rw [List.map_cons, ← paired_rn t, ← show _ = V.int _ from r]
theorem rn_paired {H : Hp} : ∀ (l : List Nat), Paired (RN H) (l.map fun x : Nat => V.int x) l
  | [] => .nil
  | x :: l => .cons rfl (rn_paired l)
theorem dict4 {a b c d : Int} {u v w z : V} (ab : a ≠ b) (ac : a ≠ c) (ad : a ≠ d) (bc : b ≠ c) (bd : b ≠ d) (cd : c ≠ d) : valV (mergeK [] [(Sum.inl a, u), (Sum.inl b, v), (Sum.inl c, w), (Sum.inl d, z)]) (Sum.inl a) = some u ∧
    valV (mergeK [] [(Sum.inl a, u), (Sum.inl b, v), (Sum.inl c, w), (Sum.inl d, z)]) (Sum.inl b) = some v ∧ valV (mergeK [] [(Sum.inl a, u), (Sum.inl b, v), (Sum.inl c, w), (Sum.inl d, z)]) (Sum.inl c) = some w ∧
    valV (mergeK [] [(Sum.inl a, u), (Sum.inl b, v), (Sum.inl c, w), (Sum.inl d, z)]) (Sum.inl d) = some z := by
  have e : mergeK [] [(Sum.inl a, u), (Sum.inl b, v), (Sum.inl c, w), (Sum.inl d, z)] = [((Sum.inl a : Key), u), (Sum.inl b, v), (Sum.inl c, w), (Sum.inl d, z)] := by
    simp [mergeK, putK, ab, ac, ad, bc, bd, cd, ab.symm, ac.symm, ad.symm, bc.symm, bd.symm, cd.symm]
  rw [e]
  simp [valV, List.find?, ab, ac, ad, bc, bd, cd, ab.symm, ac.symm, ad.symm, bc.symm, bd.symm, cd.symm]
theorem sort4 {a b c d : Nat} {ns : List Int} (h1 : a < b) (h2 : b < c) (h3 : c < d) (hp : ns.Perm [(a : Int), b, c, d]) (hs : ns.Pairwise (· ≤ ·)) : ns = [(a : Int), b, c, d] := by
  refine List.Perm.eq_of_pairwise (le := (· ≤ ·)) (fun x y _ _ h1 h2 => Int.le_antisymm h1 h2) hs ?_ hp
  simp
  omega
def spSplit (CF : Addr) : Sp := fun vs H Q _ => ∃ (f t : Addr) (ps : List (Int × Int)) (q : T4), vs = [.ref f, .ref t] ∧ FloorAt CF ps H f ∧ H t = some (.tup ((asL q).map fun x : Nat => V.int x)) ∧ up4 q ps.length ∧
  ∀ H' p u v, Same H H' → H' p = some (.tup [u, v]) → RNs H' u (fstP ps q) → RNs H' v (sndP ps q) → Q (.ref p) H'
abbrev nQS : List Str := ["floor", "four", "a", "b", "c", "d", "signs", "first", "second", "number"]
theorem scQS : FnScope nQS ["floor", "four"] (defScope (topS 26)) := ⟨rfl, rfl, rfl, by decide +kernel, rfl, by decide +kernel, by decide +kernel⟩
section
variable {P : Program} {w : World} {K : PySem.W.Frag} {mg : Str → Option Value} {base : Heap} {CF fL fT : Addr}
theorem pe_dgetK {X : Cx} {o i : Expr} {pos : Pos} {td ty : TE} (A : Around) (h : X.A = A) (hu : A.units + 1 < cLine) (ho : PE X o td) (hi : PE X i ty) (hs : NoSl i) : PE X (.Subscript o i pos) (tDGet td ty) := by
  subst h
  exact pe_dget hu ho hi hs
theorem ok_split {f : Addr} {fd fdT : FuncData} (F : Fun K "quick_split" "quick_split" (topS 26) f fd) (FT : Fun K "quick_turn" "Floor.quick_turn" (clsS 63 12) fT fdT) (T : FlK K CF fL fT) (mS : mg "sorted" = none) (mT : mg "tuple" = none) :
    FnOk P w K mg base CX0 2 f fd ["floor", "four"] (spSplit CF) := by
  have GT : FnOk P w K mg base CX0 1 fT fdT nQT (spTurn CF) := ok_turn FT T
  have bT := FT.binds (ps := nQT) fun _ _ _ _ _ _ us hl => match us, hl with | [_, _, _, _], _ => rfl
  refine F.ok scQS (fun vs H Q E h => ?_) (fun cdv A outer s H vs Q E hr h => ⟨_,
    pss_cons (ps_asg (pe_callB cr_sortTup (by rfl) mS (by decide +kernel) (pa_cons (pv 1) pa_nil)) (pg_unl rfl (pgs_cons (pg_name (i := 2) scQS.nd rfl (Or.inr rfl)) (pgs_cons (pg_name (i := 3) scQS.nd rfl (Or.inl rfl)) (pgs_cons (pg_name (i := 4) scQS.nd rfl (Or.inl rfl)) (pgs_cons (pg_name (i := 5) scQS.nd rfl (Or.inl rfl)) pgs_nil))))))
    (pss_cons (ps_set (i := 6) scQS.nd rfl (Or.inr rfl) (pe_disp
      (pps_cons (pv 2) (pe_meth (pv 0) T.cl T.mT GT hr bT .nil pass0 (pa_cons (pv 3) (pa_cons (pv 4) (pa_cons (pv 5) pa_nil))))
      (pps_cons (pv 3) (pe_un un_neg (pe_meth (pv 0) T.cl T.mT GT hr bT .nil pass0 (pa_cons (pv 2) (pa_cons (pv 4) (pa_cons (pv 5) pa_nil)))))
      (pps_cons (pv 4) (pe_meth (pv 0) T.cl T.mT GT hr bT .nil pass0 (pa_cons (pv 2) (pa_cons (pv 3) (pa_cons (pv 5) pa_nil))))
      (pps_cons (pv 5) (pe_un un_neg (pe_meth (pv 0) T.cl T.mT GT hr bT .nil pass0 (pa_cons (pv 2) (pa_cons (pv 3) (pa_cons (pv 4) pa_nil))))) pps_nil)))) (by rfl) (by rfl) (fun z => by cases z) (by decide)))
    (pss_cons (ps_set (i := 7) scQS.nd rfl (Or.inl rfl) (pe_callTy call_tuple_of (by rfl) mT (by decide +kernel) (pa_cons
      (pe_lc (own := [("number", 9)]) (g := gName 9) rfl scQS.nd (pi_tup (pe_tup (pa_cons (pv 2) (pa_cons (pv 3) (pa_cons (pv 4) (pa_cons (pv 5) pa_nil)))))) (blkOk_by (N := nQS) (sc := defScope (topS 26)) (by decide +kernel))
        (fun _ _ _ _ _ => pg_name (i := 9) scQS.nd rfl (Or.inl rfl)) (fun _ _ _ _ _ => pts_one (pt_cmpR op_eq (pe_dget (hu_of hr) (pv 6) (pv 9) (fun _ _ => rfl)) (pe_dget (hu_of hr) (pv 6) (pv 2) (fun _ _ => rfl)) (nomark _))) (fun _ _ _ _ _ => pv 9)) pa_nil)))
    (pss_cons (ps_set (i := 8) scQS.nd rfl (Or.inl rfl) (pe_callTy call_tuple_of (by rfl) mT (by decide +kernel) (pa_cons
      (pe_lc (own := [("number", 9)]) (g := gName 9) rfl scQS.nd (pi_tup (pe_tup (pa_cons (pv 2) (pa_cons (pv 3) (pa_cons (pv 4) (pa_cons (pv 5) pa_nil)))))) (blkOk_by (N := nQS) (sc := defScope (topS 26)) (by decide +kernel))
        (fun _ _ _ _ _ => pg_name (i := 9) scQS.nd rfl (Or.inl rfl)) (fun _ _ _ _ _ => pts_one (pt_cmpR op_ne (pe_dget (hu_of hr) (pv 6) (pv 9) (fun _ _ => rfl)) (pe_dget (hu_of hr) (pv 6) (pv 2) (fun _ _ => rfl)) (nomark _))) (fun _ _ _ _ _ => pv 9)) pa_nil)))
    (pss_one (ps_ret (pe_tup (pa_cons (pv 7) (pa_cons (pv 8) pa_nil)))))))), ?_⟩)
  · obtain ⟨f, t, ps, q, rfl, _⟩ := h
    rfl
  · obtain ⟨f, t, ps, ⟨a, b, c, d⟩, rfl, hF, ht, ⟨h1, h2, h3, h4⟩, k⟩ := h
    dsimp only at h1 h2 h3 h4
    refine ⟨_, rfl, t, [(a : Int), b, c, d], rfl, SqT.of ht, by show 4 < 64; decide, fun ns p hp hs np => ?_⟩
    rw [sort4 h1 h2 h3 hp hs]
    refine ⟨p, _, rfl, SqL.of upd_same, rfl, unp (unp (unp (unp ⟨rfl, fun p1 np1 => ?_⟩)))⟩
    have s0 := same_new (o := .lst ([(a : Int), b, c, d].map V.int)) np
    have s1 := s0.trans (same_new (o := .dK []) np1)
    refine ⟨_, rfl, rdTurn (gVar rfl) (gVar rfl) (gVar rfl) (gVar rfl) (hF.same s1) (by omega) (by omega) (by omega) (by omega) (by omega) (by omega) fun H2 t2 => ?_⟩
    have s2 := s1.trans t2
    refine ⟨_, rfl, rdTurn (gVar rfl) (gVar rfl) (gVar rfl) (gVar rfl) (hF.same s2) (by omega) (by omega) (by omega) (by omega) (by omega) (by omega) fun H3 t3 => ⟨_, rfl, ?_⟩⟩
    have s3 := s2.trans t3
    refine ⟨_, rfl, rdTurn (gVar rfl) (gVar rfl) (gVar rfl) (gVar rfl) (hF.same s3) (by omega) (by omega) (by omega) (by omega) (by omega) (by omega) fun H4 t4 => ?_⟩
    have s4 := s3.trans t4
    refine ⟨_, rfl, rdTurn (gVar rfl) (gVar rfl) (gVar rfl) (gVar rfl) (hF.same s4) (by omega) (by omega) (by omega) (by omega) (by omega) (by omega) fun H5 t5 => ⟨_, rfl, ?_⟩⟩
    have ed : H5 p1 = some (.dK []) := t5 _ _ (t4 _ _ (t3 _ _ (t2 _ _ upd_same)))
    refine ⟨ed, [(Sum.inl (a : Int), _), (Sum.inl (b : Int), _), (Sum.inl (c : Int), _), (Sum.inl (d : Int), _)], rfl, by show 4 ≤ 15; decide, ?_⟩
    obtain ⟨D1, D2, D3, D4⟩ := dict4 (a := (a : Int)) (b := b) (c := c) (d := d) (u := .int (sg (tn ps b c d))) (v := .int (- sg (tn ps a c d))) (w := .int (sg (tn ps a b d))) (z := .int (- sg (tn ps a b c))) (by omega) (by omega) (by omega) (by omega) (by omega) (by omega)
    have nH : H p1 = none := s0.free np1
    have hD : ∀ x ∈ asL (a, b, c, d), valV (mergeK [] [((Sum.inl (a : Int) : Key), V.int (sg (tn ps b c d))), (Sum.inl (b : Int), .int (- sg (tn ps a c d))), (Sum.inl (c : Int), .int (sg (tn ps a b d))), (Sum.inl (d : Int), .int (- sg (tn ps a b c)))]) (Sum.inl (x : Int)) = some (.int (sgn4 ps (a, b, c, d) x)) := by
      intro x hx
      simp only [asL, List.mem_cons, List.mem_nil_iff, or_false] at hx
      rcases hx with rfl | rfl | rfl | rfl
      · rw [D1]
        simp [sgn4]
      · rw [D2]
        simp [sgn4, show ¬ x = a by omega]
      · rw [D3]
        simp [sgn4, show ¬ x = a by omega, show ¬ x = b by omega]
      · rw [D4]
        simp [sgn4, show ¬ x = a by omega, show ¬ x = b by omega, show ¬ x = c by omega]
    have s5 : Same H (upd H5 p1 (.dK (mergeK [] [((Sum.inl (a : Int) : Key), V.int (sg (tn ps b c d))), (Sum.inl (b : Int), .int (- sg (tn ps a c d))), (Sum.inl (c : Int), .int (sg (tn ps a b d))), (Sum.inl (d : Int), .int (- sg (tn ps a b c)))]))) := same_upd nH (s4.trans t5)
    generalize hH5 : upd H5 p1 (.dK (mergeK [] [((Sum.inl (a : Int) : Key), V.int (sg (tn ps b c d))), (Sum.inl (b : Int), .int (- sg (tn ps a c d))), (Sum.inl (c : Int), .int (sg (tn ps a b d))), (Sum.inl (d : Int), .int (- sg (tn ps a b c)))])) = H6 at s5
    have e6 : H6 p1 = some (.dK (mergeK [] [((Sum.inl (a : Int) : Key), V.int (sg (tn ps b c d))), (Sum.inl (b : Int), .int (- sg (tn ps a c d))), (Sum.inl (c : Int), .int (sg (tn ps a b d))), (Sum.inl (d : Int), .int (- sg (tn ps a b c)))])) := by
      rw [← hH5, upd_same]
    generalize mergeK [] [((Sum.inl (a : Int) : Key), V.int (sg (tn ps b c d))), (Sum.inl (b : Int), .int (- sg (tn ps a c d))), (Sum.inl (c : Int), .int (sg (tn ps a b d))), (Sum.inl (d : Int), .int (- sg (tn ps a b c)))] = dd at hD e6
    have hp4 : ∀ HH : Hp, Paired (RN HH) [V.int (a : Int), .int b, .int c, .int d] (asL (a, b, c, d)) := fun HH => rn_paired (asL (a, b, c, d))
    refine ⟨_, rfl, _, rfl, _, rfl, _, rfl, by show 4 ≤ sizeLine; decide, fun t1 nt1 => ⟨t1, rfl, ⟨_, SqT.of upd_same⟩, fun D7 nD7 => lcB_tup (Ri := RN) (Ro := RN) (l := asL (a, b, c, d)) (f := fun x => if sgn4 ps (a, b, c, d) x = sgn4 ps (a, b, c, d) a then some x else none) nD7 upd_same (hp4 _) (by show 4 ≤ 100000; decide) ?_ ?_⟩⟩
    · intro x v H7 hx s7 r K1 K2 h1 h2
      cases r
      have e7 := s7 _ _ (same_new nt1 _ _ e6)
      refine ⟨rfl, tEqI (gDGet (gVar rfl) (gVar rfl) e7 (hD x hx)) (gDGet (gVar rfl) (gVar rfl) e7 (hD a (by simp [asL]))) (fun c => ?_) fun c => ?_⟩
      · exact ⟨_, rfl, h1 _ _ x (if_pos c) (Same.refl _) rfl⟩
      · exact h2 _ (if_neg c) (Same.refl _)
    · intro H7 b7
      obtain ⟨v7, ev7, pr7⟩ := b7.ls
      have s7 : Same H H7 := s5.trans ((same_new nt1).trans b7.sm)
      refine ⟨D7, v7, rfl, .inl ⟨SqL.of ev7, fun l7 nl7 => ?_⟩⟩
      have e8 := same_new (o := .tup v7) nl7 _ _ (s7.trans (Same.refl _) |> fun _ => b7.sm _ _ (same_new nt1 _ _ e6))
      have s8 := s7.trans (same_new (o := .tup v7) nl7)
      refine ⟨_, rfl, _, rfl, _, rfl, _, rfl, by show 4 ≤ sizeLine; decide, fun t2 nt2 => ⟨t2, rfl, ⟨_, SqT.of upd_same⟩, fun D9 nD9 => lcB_tup (Ri := RN) (Ro := RN) (l := asL (a, b, c, d)) (f := fun x => if sgn4 ps (a, b, c, d) x = sgn4 ps (a, b, c, d) a then none else some x) nD9 upd_same (hp4 _) (by show 4 ≤ 100000; decide) ?_ ?_⟩⟩
      · intro x v H9 hx s9 r K1 K2 h1 h2
        cases r
        have e9 := s9 _ _ (same_new nt2 _ _ e8)
        refine ⟨rfl, tNeI (gDGet (gVar rfl) (gVar rfl) e9 (hD x hx)) (gDGet (gVar rfl) (gVar rfl) e9 (hD a (by simp [asL]))) (fun c => ?_) fun c => ?_⟩
        · exact ⟨_, rfl, h1 _ _ x (if_neg c) (Same.refl _) rfl⟩
        · exact h2 _ (if_pos c) (Same.refl _)
      · intro H9 b9
        obtain ⟨v9, ev9, pr9⟩ := b9.ls
        refine ⟨D9, v9, rfl, .inl ⟨SqL.of ev9, fun l9 nl9 => ⟨_, rfl, _, rfl, by show 2 ≤ sizeLine; decide, fun p10 np10 => ?_⟩⟩⟩
        have z1 := b9.sm.trans ((same_new (o := .tup v9) nl9).trans (same_new (o := .tup [.ref l7, .ref l9]) np10))
        have z2 := (same_new (o := .tup [V.int (a : Int), .int b, .int c, .int d]) nt2).trans z1
        refine k _ p10 (.ref l7) (.ref l9) (s8.trans z2) upd_same ⟨l7, rfl, ?_⟩ ⟨l9, rfl, ?_⟩
        · rw [z2 _ _ (upd_same (H := H7) (a := l7) (o := .tup v7)), paired_rn pr7]
          rfl
        · rw [same_new (o := .tup [.ref l7, .ref l9]) np10 _ _ upd_same, paired_rn pr9]
          rfl
end
end KB
end

section
set_option Elab.async false
set_option linter.all false
set_option maxRecDepth 100000
set_option maxHeartbeats 400000
/-! quick_inner, pair_of -/
namespace KB
open PySem PySem.Spec PyProof.Rows L2
def one? : List Nat → Option Nat
  | [x] => some x
  | _ => none
def inner (ps : List (Int × Int)) (q : T4) : Option Nat := (one? (fstP ps q)).or (one? (sndP ps q))
def ROpt {α : Type} (R : Rel α) : Rel (Option α) := fun H v o => match o with
  | none => v = .non
  | some x => R H v x
instance {α : Type} {R : Rel α} [Mn R] : Mn (ROpt R) := ⟨fun {H H' v o} k h => by
  cases o with
  | none => exact h
  | some x => exact Mn.up (R := R) k h⟩
def spInner (CF : Addr) : Sp := fun vs H Q _ => ∃ (f t : Addr) (ps : List (Int × Int)) (q : T4), vs = [.ref f, .ref t] ∧ FloorAt CF ps H f ∧ H t = some (.tup ((asL q).map fun x : Nat => V.int x)) ∧ up4 q ps.length ∧
  ∀ H' v, Same H H' → ROpt RN H' v (inner ps q) → Q v H'
theorem scQI : FnScope ["floor", "four", "part"] ["floor", "four"] (defScope (topS 27)) := ⟨rfl, rfl, rfl, by decide +kernel, rfl, by decide +kernel, by decide +kernel⟩
theorem one_len {l : List Nat} (h : l.length ≠ 1) : one? l = none := by
  match l, h with
  | [], _ => rfl
  | [_], h => exact absurd rfl h
  | _ :: _ :: _, _ => rfl
theorem one_one {l : List Nat} (h : l.length = 1) : ∃ x, l = [x] ∧ one? l = some x := by
  match l, h with
  | [x], _ => exact ⟨x, rfl, rfl⟩
section
variable {P : Program} {w : World} {K : PySem.W.Frag} {mg : Str → Option Value} {base : Heap} {CF fL fT : Addr}
theorem ok_inner {f fS : Addr} {fd fdS fdT : FuncData} (F : Fun K "quick_inner" "quick_inner" (topS 27) f fd) (GS : Gd K mg "quick_split" (topS 26) fS fdS) (FT : Fun K "quick_turn" "Floor.quick_turn" (clsS 63 12) fT fdT) (T : FlK K CF fL fT) (mS : mg "sorted" = none) (mT : mg "tuple" = none) (mL : mg "len" = none) :
    FnOk P w K mg base CX0 3 f fd ["floor", "four"] (spInner CF) := by
  have GS' : FnOk P w K mg base CX0 2 fS fdS ["floor", "four"] (spSplit CF) := ok_split GS.F FT T mS mT
  have bS := GS.F.binds (ps := ["floor", "four"]) fun _ _ _ _ _ _ us hl => match us, hl with | [_, _], _ => rfl
  refine F.ok scQI (fun vs H Q E h => ?_) (fun cdv A outer s H vs Q E hr h => ⟨_,
    pss_cons (ps_for PassesOwn.never rfl (pi_tup (pe_call GS' hr rfl GS.g GS.F.kp bS .nil pass0 (pa_cons (pv 0) (pa_cons (pv 1) pa_nil)))) (pg_name (i := 2) scQI.nd rfl (Or.inl rfl))
      (pss_one (ps_if (pt_cmpR op_eq (pe_callB call_len_seq (by rfl) mL PySem.boot_len (pa_cons (pv 2) pa_nil)) pe_int (nomark _)) (pss_one (ps_ret (pe_ix ix_tup (pv 2) pe_int (fun _ _ => rfl)))) pss_nil)))
    (pss_one (ps_ret pe_non)), ?_⟩)
  · obtain ⟨f, t, ps, q, rfl, _⟩ := h
    rfl
  · obtain ⟨f, t, ps, q, rfl, hF, ht, hu, k⟩ := h
    refine ⟨_, rfl, _, rfl, f, t, ps, q, rfl, hF, ht, hu, fun H1 p u v s1 ep ru rv => ?_⟩
    refine ⟨p, rfl, ⟨_, SqT.of ep⟩, for_tup (K := K) (a := p) (xs := [u, v]) (fun i σ H2 => H2 = H1 ∧ (∃ x, σ = [some (.ref f), some (.ref t), x]) ∧ (1 ≤ i → one? (fstP ps q) = none) ∧ (2 ≤ i → one? (sndP ps q) = none)) ⟨rfl, ⟨_, rfl⟩, fun h => by omega, fun h => by omega⟩
      (fun i σ H2 _ h => by
        obtain ⟨rfl, _⟩ := h
        exact SqT.of ep) ?_ ?_⟩
    · rintro i x σ H2 hx ⟨rfl, ⟨y, rfl⟩, z1, z2⟩
      have go : ∀ (l : List Nat) (x : V), RNs H2 x l → (∀ y, l = [y] → one? l = some y → inner ps q = some y) → (l.length ≠ 1 → (1 ≤ i + 1 → one? (fstP ps q) = none) ∧ (2 ≤ i + 1 → one? (sndP ps q) = none)) →
          tIfS (tTest (tOp rEq (tCB (fun xs H Q => ∃ p ys, xs = [.ref p] ∧ (SqL K H p ys ∨ SqT K H p ys) ∧ Q (.int ys.length) H) (tCons (tVar 2) tNil)) (tC (.int 1)))) (tRet (tOp (rIxT K) (tVar 2) (tC (.int 0)))) tNext
            { nx := fun σ H3 => H3 = H2 ∧ (∃ x, σ = [some (.ref f), some (.ref t), x]) ∧ (1 ≤ i + 1 → one? (fstP ps q) = none) ∧ (2 ≤ i + 1 → one? (sndP ps q) = none), rt := Q } [some (.ref f), some (.ref t), some x] H2 := by
        intro l x rx h1 h2
        obtain ⟨t, rfl, et⟩ := rx
        refine tEqI (fun Q2 q2 => ⟨_, rfl, t, _, rfl, .inr (SqT.of et), q2⟩) gC (fun c => ?_) fun c => ?_
        · have hl : l.length = 1 := by
            rw [List.length_map] at c
            omega
          obtain ⟨y, rfl, ey⟩ := one_one hl
          refine gIx (gVar rfl) gC et at0 _ (k _ _ s1 ?_)
          rw [h1 y rfl ey]
          rfl
        · refine ⟨rfl, ⟨_, rfl⟩, h2 fun e => c ?_⟩
          rw [List.length_map, e]
          rfl
      match i, hx with
      | 0, hx =>
        cases hx
        refine go _ _ ru (fun y e1 e2 => ?_) fun hn => ⟨fun _ => one_len hn, fun h => by omega⟩
        rw [inner, e2]
        rfl
      | 1, hx =>
        cases hx
        refine go _ _ rv (fun y e1 e2 => ?_) fun hn => ⟨fun _ => z1 (Nat.le_refl _), fun _ => one_len hn⟩
        rw [inner, z1 (Nat.le_refl _), e2]
        rfl
      | i + 2, hx => simp at hx
    · rintro σ H2 ⟨rfl, ⟨y, rfl⟩, z1, z2⟩
      refine k _ _ s1 ?_
      rw [inner, z1 (by show 1 ≤ 2; decide), z2 (by show 2 ≤ 2; decide)]
      rfl
/-! pair_of -/
def RPair : Rel (List Nat × Nat) := fun H v x => ∃ p u, v = .ref p ∧ H p = some (.tup [u, .int x.2]) ∧ RNs H u x.1
end
instance : Mn RPair := ⟨fun k ⟨p, u, e, h, r⟩ => ⟨p, u, e, k _ _ h, Mn.up (R := RNs) k r⟩⟩
def pairOf (ps : List (Int × Int)) (q : T4) : Option (List Nat × Nat) := (inner ps q).map fun x => ((asL q).filterMap fun y => if y = x then none else some y, x)
def spPair (CF : Addr) : Sp := fun vs H Q _ => ∃ (f t : Addr) (ps : List (Int × Int)) (q : T4), vs = [.ref f, .ref t] ∧ FloorAt CF ps H f ∧ H t = some (.tup ((asL q).map fun x : Nat => V.int x)) ∧ up4 q ps.length ∧
  ∀ H' v, Same H H' → ROpt RPair H' v (pairOf ps q) → Q v H'
abbrev nPO : List Str := ["floor", "four", "inner", "number"]
theorem scPO : FnScope nPO ["floor", "four"] (defScope (topS 28)) := ⟨rfl, rfl, rfl, by decide +kernel, rfl, by decide +kernel, by decide +kernel⟩
section
variable {P : Program} {w : World} {K : PySem.W.Frag} {mg : Str → Option Value} {base : Heap} {CF fL fT : Addr}
theorem ok_pair {f fI : Addr} {fd fdI : FuncData} (F : Fun K "pair_of" "pair_of" (topS 28) f fd) (GI : Gd K mg "quick_inner" (topS 27) fI fdI) (GI' : FnOk P w K mg base CX0 3 fI fdI ["floor", "four"] (spInner CF)) (mT : mg "tuple" = none) :
    FnOk P w K mg base CX0 4 f fd ["floor", "four"] (spPair CF) := by
  have bI := GI.F.binds (ps := ["floor", "four"]) fun _ _ _ _ _ _ us hl => match us, hl with | [_, _], _ => rfl
  refine F.ok scPO (fun vs H Q E h => ?_) (fun cdv A outer s H vs Q E hr h => ⟨_,
    pss_cons (ps_set (i := 2) scPO.nd rfl (Or.inr rfl) (pe_call GI' hr rfl GI.g GI.F.kp bI .nil pass0 (pa_cons (pv 0) (pa_cons (pv 1) pa_nil))))
    (pss_cons (ps_if (pt_cmpR op_isN (pv 2) pe_non (nomark _)) (pss_one (ps_ret pe_non)) pss_nil)
    (pss_one (ps_ret (pe_tup (pa_cons (pe_callTy call_tuple_of (by rfl) mT (by decide +kernel) (pa_cons
      (pe_lc (own := [("number", 3)]) (g := gName 3) rfl scPO.nd (pi_tup (pv 1)) (blkOk_by (N := nPO) (sc := defScope (topS 28)) (by decide +kernel))
        (fun _ _ _ _ _ => pg_name (i := 3) scPO.nd rfl (Or.inl rfl)) (fun _ _ _ _ _ => pts_one (pt_cmpR op_ne (pv 3) (pv 2) (nomark _))) (fun _ _ _ _ _ => pv 3)) pa_nil)) (pa_cons (pv 2) pa_nil)))))), ?_⟩)
  · obtain ⟨f, t, ps, q, rfl, _⟩ := h
    rfl
  · obtain ⟨f, t, ps, q, rfl, hF, ht, hu, k⟩ := h
    refine ⟨_, rfl, _, rfl, f, t, ps, q, rfl, hF, ht, hu, fun H1 v s1 rv => ?_⟩
    cases e : inner ps q with
    | none =>
      rw [e] at rv
      cases rv
      refine ⟨_, rfl, rfl, _, rfl, itD (fun _ => k _ _ s1 ?_) fun c => absurd rfl c⟩
      rw [pairOf, e]
      rfl
    | some x =>
      rw [e] at rv
      cases rv
      refine ⟨_, rfl, rfl, _, rfl, itD (fun c => by cases c) fun _ => ?_⟩
      refine ⟨_, rfl, t, rfl, ⟨_, SqT.of (s1 _ _ ht)⟩, fun D nD => lcB_tup (Ri := RN) (Ro := RN) (l := asL q) (f := fun y => if y = x then none else some y) nD (s1 _ _ ht) (rn_paired _) (by show 4 ≤ 100000; decide) ?_ ?_⟩
      · intro y v H9 hx s9 r K1 K2 h1 h2
        cases r
        refine ⟨rfl, tNeI (gVar rfl) (gVar rfl) (fun c => ?_) fun c => ?_⟩
        · exact ⟨_, rfl, h1 _ _ y (if_neg (by omega)) (Same.refl _) rfl⟩
        · exact h2 _ (if_pos (by omega)) (Same.refl _)
      · intro H9 b9
        obtain ⟨v9, ev9, pr9⟩ := b9.ls
        refine ⟨D, v9, rfl, .inl ⟨SqL.of ev9, fun l9 nl9 => ⟨_, rfl, by show 2 ≤ sizeLine; decide, fun p10 np10 => k _ _ (s1.trans (b9.sm.trans ((same_new nl9).trans (same_new np10)))) ?_⟩⟩⟩
        rw [pairOf, e]
        refine ⟨p10, .ref l9, rfl, upd_same, l9, rfl, ?_⟩
        rw [same_new np10 _ _ upd_same, paired_rn pr9]
end
end KB
end

section
set_option Elab.async false
set_option linter.all false
set_option maxRecDepth 100000
set_option maxHeartbeats 400000
/-! sorted(xs), xs a list of things that read as data; inner_pairs -/
namespace KB
open PySem PySem.Spec PyProof.Rows L2 PySem.W
def rSortD {β : Type} (K : PySem.W.Frag) (R : Rel β) (enc : β → PyData) : List V → Hp → VK → Prop := fun xs H Q => ∃ (a : Addr) (vs : List V) (bs : List β), xs = [.ref a] ∧ SqL K H a vs ∧ Paired (R H) vs bs ∧ (∀ v b, R H v b → Dp K H v (enc b)) ∧
  AllAlike (bs.map enc) ∧ Sortable (bs.map enc) ∧ bs.length ≤ sizeLine ∧ (∀ b ∈ bs, (enc b).depth ≤ 60) ∧ ∀ out p, Paired (R H) out (bs.mergeSort (dataLe false enc)) → H p = none → Q (.ref p) (upd H p (.lst out))
theorem each_of {β : Type} {R : V → β → Prop} : ∀ {vs : List V} {bs : List β} {us : List Value}, Paired R vs bs → Vals vs us → EachIs (fun u b => ∃ v, RelV v u ∧ R v b) us bs
  | _, _, _, .nil, .nil => .nil
  | _, _, _, .cons r t, .cons q s => .cons ⟨_, q, r⟩ (each_of t s)
theorem of_each {β : Type} {R : V → β → Prop} : ∀ {bs : List β} {us : List Value}, EachIs (fun u b => ∃ v, RelV v u ∧ R v b) us bs → ∃ vs, Vals vs us ∧ Paired R vs bs
  | _, _, .nil => ⟨[], .nil, .nil⟩
  | _, _, .cons ⟨v, q, r⟩ t => by
    obtain ⟨vs, a, b⟩ := of_each t
    exact ⟨v :: vs, .cons q a, .cons r b⟩
theorem cr_sortD {β : Type} {R : Rel β} {enc : β → PyData} {X : Cx} (hu : X.A.units + 64 < cLine) : CallR X (.builtin "sorted") (rSortD X.K R enc) := by
  intro pins s σ H xs us Q I r h
  obtain ⟨a, vs, bs, rfl, hs, hp, hd, hal, hk, hL, hdep, q⟩ := h
  obtain ⟨its, rv, hl, _⟩ := I.list hs
  rw [Vals.ref1 r]
  refine PySem.W.sorted_data hl.isList (each_of hp rv) ((each_of hp rv).mono fun u b ⟨v, r1, r2⟩ => Dp.reads I _ _ _ (hd v b r2) r1) hal hk hL (fun b hb => ?_) fun out ho eo => ?_
  · have := hdep b hb
    omega
  · obtain ⟨vs', rv', hp'⟩ := of_each eo
    obtain ⟨ep, he'⟩ := PyProof.Rows.sortedAll_at s.heap its out.toArray
    have hlen : vs'.length ≤ sizeLine := by rw [rv'.length, ho]; exact hL
    exact ⟨.ref _, upd H (s.heap.objs.size + 1) (.lst vs'), I.laid (t' := s.toks) (fun _ _ => PyProof.Rows.sortedAll_old) (Nat.le_succ _) ⟨hlen, out, ep, rv', he'⟩, rfl, q vs' _ hp' (I.hok.fresh (Nat.le_succ _))⟩
end KB
end

section
set_option Elab.async false
set_option linter.all false
set_option maxRecDepth 100000
set_option maxHeartbeats 400000
/-! inner_pairs -/
namespace KB
open PySem PySem.Spec PyProof.Rows L2
section
variable {CF : Addr}
theorem gLenF {σ : L2.St} {H : Hp} {ta : TE} {f : Addr} {ps : List (Int × Int)} (h0 : Gv ta σ H (.ref f)) (hF : FloorAt CF ps H f) : Gv (tCB (rLenO CF (spLenF CF) E0) (tCons ta tNil)) σ H (.int (ps.length : Nat)) := fun Q q => by
  have hF' := hF
  obtain ⟨ok, dx, tp, td, vs, kvs, e1, e2, p, e3, t⟩ := hF
  have := ok.hi
  exact h0 _ ⟨f, dx, _, rfl, e1, f, ps, rfl, hF', _, rfl, ⟨by omega, by omega⟩, q⟩
theorem fours_up {n : Nat} {q : T4} (h : q ∈ fours n) : up4 q n := by
  unfold fours at h
  obtain ⟨t, ht, h⟩ := List.mem_flatMap.mp h
  have := threes_mem ht
  unfold f4 at h
  obtain ⟨k, hk, rfl⟩ := List.mem_map.mp h
  rw [List.mem_range] at hk
  unfold up4
  dsimp only
  omega
/-- the data of a pair -/
def encP (x : List Nat × Nat) : PyData := .tuple [.tuple ((x.1.map fun y : Nat => (y : Int)).map .int), .int x.2]
theorem dp_ints {K : PySem.W.Frag} {H : Hp} : ∀ l : List Int, DpAll K H (l.map V.int) (l.map .int)
  | [] => .nil
  | x :: l => .cons (.int x) (dp_ints l)
theorem dp_pair {K : PySem.W.Frag} {H : Hp} {v : V} {x : List Nat × Nat} (h : RPair H v x) : Dp K H v (encP x) := by
  obtain ⟨p, u, rfl, hp, t, rfl, ht⟩ := h
  have e : (x.1.map fun y : Nat => V.int (y : Int)) = (x.1.map fun y : Nat => (y : Int)).map V.int := by rw [List.map_map]; rfl
  rw [e] at ht
  exact .tup (SqT.of hp) (.cons (.tup (SqT.of ht) (dp_ints _)) (.cons (.int _) .nil))
/-- all pairs of a triangle and an inner point, in no order -/
def pairs0 (ps : List (Int × Int)) : List (List Nat × Nat) := (fours ps.length).filterMap (pairOf ps)
def pairsS (ps : List (Int × Int)) : List (List Nat × Nat) := (pairs0 ps).mergeSort (PySem.W.dataLe false encP)
def spPairs (CF : Addr) : Sp := fun vs H Q _ => ∃ (f : Addr) (ps : List (Int × Int)), vs = [.ref f] ∧ FloorAt CF ps H f ∧ ∀ H' p, H p = none → Bt RPair H H' p (pairsS ps) → Q (.ref p) H'
abbrev nIP : List Str := ["floor", "pairs", "four", "pair"]
theorem scIP : FnScope nIP ["floor"] (defScope (topS 29)) := ⟨rfl, rfl, rfl, by decide +kernel, rfl, by decide +kernel, by decide +kernel⟩
theorem asL_tup (q : T4) : ([(q.1 : Int), q.2.1, q.2.2.1, q.2.2.2] : List Int).map V.int = (asL q).map fun x : Nat => V.int x := rfl
section
variable {P : Program} {w : World} {K : PySem.W.Frag} {mg : Str → Option Value} {base : Heap} {fL fT : Addr}
theorem ok_pairs {f f4 fP : Addr} {fd fd4 fdP fdL : FuncData} (F : Fun K "inner_pairs" "inner_pairs" (topS 29) f fd) (G4 : Gd K mg "all_fours" (topS 24) f4 fd4) (F4 : FnOk P w K mg base CX0 2 f4 fd4 ["many"] spFours)
    (GP : Gd K mg "pair_of" (topS 28) fP fdP) (FP : FnOk P w K mg base CX0 4 fP fdP ["floor", "four"] (spPair CF)) (FL : Fun K "__len__" "Floor.__len__" (clsS 63 5) fL fdL) (T : FlK K CF fL fT) (mS : mg "sorted" = none) (mL : mg "len" = none) :
    FnOk P w K mg base CX0 5 f fd ["floor"] (spPairs CF) := by
  have GL : FnOk P w K mg base CX0 1 fL fdL ["self"] (spLenF CF) := ok_lenF FL T mL
  have bL := FL.binds (ps := ["self"]) fun _ _ _ _ _ _ us hl => match us, hl with | [_], _ => rfl
  have b4 := G4.F.binds (ps := ["many"]) fun _ _ _ _ _ _ us hl => match us, hl with | [_], _ => rfl
  have bP := GP.F.binds (ps := ["floor", "four"]) fun _ _ _ _ _ _ us hl => match us, hl with | [_, _], _ => rfl
  refine F.ok scIP (fun vs H Q E h => ?_) (fun cdv A outer s H vs Q E hr h => ⟨_,
    pss_cons (ps_setLc (i := 1) (own := [("four", 2)]) (g := gName 2) (tt := tYes) rfl scIP.nd rfl rfl (sw_true rfl rfl rfl (by decide +kernel))
      (pi_list (pe_call F4 (hr.mono (by decide)) rfl G4.g G4.F.kp b4 .nil pass0 (pa_cons (pe_callB (call_lenO T.ln GL (hr.mono (by decide)) bL pass0) (by rfl) mL PySem.boot_len (pa_cons (pv 0) pa_nil)) pa_nil)))
      (blkOk_by (N := nIP) (sc := defScope (topS 29)) (by decide +kernel)) (fun _ _ _ _ _ => pg_name (i := 2) scIP.nd rfl (Or.inl rfl)) (fun _ _ _ _ _ => pts_nil)
      (fun _ _ _ _ _ => pe_call FP hr rfl GP.g GP.F.kp bP .nil pass0 (pa_cons (pv 0) (pa_cons (pv 2) pa_nil))))
    (pss_one (ps_ret (pe_callB (cr_sortD (R := RPair) (enc := encP) hr.units) (by rfl) mS (by decide +kernel) (pa_cons
      (pe_lc (own := [("pair", 3)]) (g := gName 3) rfl scIP.nd (pi_list (pv 1)) (blkOk_by (N := nIP) (sc := defScope (topS 29)) (by decide +kernel))
        (fun _ _ _ _ _ => pg_name (i := 3) scIP.nd rfl (Or.inl rfl)) (fun _ _ _ _ _ => pts_one (pt_cmpR op_notN (pv 3) pe_non (nomark _))) (fun _ _ _ _ _ => pv 3)) pa_nil)))), ?_⟩)
  · obtain ⟨f, ps, rfl, _⟩ := h
    rfl
  · obtain ⟨f, ps, rfl, hF, k⟩ := h
    have hn := hF.ok.hi
    refine gLenF (gVar rfl) hF _ ⟨_, rfl, hn, fun p H1 np b1 => ?_⟩
    obtain ⟨v1, e1, p1⟩ := b1.ls
    refine ⟨p, rfl, ⟨_, SqL.of e1⟩, fun D nD => lcB_list (Ri := R4) (Ro := ROpt RPair) (l := fours ps.length) (f := fun q => some (pairOf ps q)) nD (SqL.of e1) p1 (Nat.le_trans (fours_le hn) (by decide)) ?_ ?_⟩
    · intro q v H2 hq s2 r K1 K2 h1 h2
      obtain ⟨t, rfl, et⟩ := r
      exact ⟨rfl, yesI ⟨_, rfl, _, rfl, f, t, ps, q, rfl, hF.same (b1.sm.trans s2), et, fours_up hq, fun H3 y s3 ry => h1 y H3 _ rfl s3 ry⟩⟩
    · intro H2 b2
      rw [filterMap_some] at b2
      obtain ⟨v2, e2, p2⟩ := b2.ls
      refine ⟨_, rfl, D, rfl, ⟨_, SqL.of e2⟩, fun B nB => lcB_list (Ri := ROpt RPair) (Ro := RPair) (l := (fours ps.length).map (pairOf ps)) (f := fun o => o) nB (SqL.of e2) p2 (by
        rw [List.length_map]
        exact Nat.le_trans (fours_le hn) (by decide)) ?_ ?_⟩
      · intro o v H3 ho s3 r K1 K2 h1 h2
        cases o with
        | none =>
          cases r
          refine ⟨rfl, _, rfl, rfl, _, rfl, ?_⟩
          exact h2 _ rfl (Same.refl _)
        | some x =>
          obtain ⟨p', u, rfl, hp', hu⟩ := r
          refine ⟨rfl, _, rfl, rfl, _, rfl, ?_⟩
          exact ⟨_, rfl, h1 _ _ x rfl (Same.refl _) ⟨p', u, rfl, hp', hu⟩⟩
      · intro H3 b3
        have ef : ((fours ps.length).map (pairOf ps)).filterMap (fun o => o) = pairs0 ps := by
          rw [List.filterMap_map]
          rfl
        rw [ef] at b3
        obtain ⟨v3, e3, p3⟩ := b3.ls
        have hl0 : (pairs0 ps).length ≤ 10000 := Nat.le_trans (List.length_filterMap_le _ _) (fours_le hn)
        refine ⟨B, v3, pairs0 ps, rfl, SqL.of e3, p3, fun v b h => dp_pair h, PySem.W.AllAlike.of fun x y => ?_, PySem.W.Sortable.tuples fun x => ⟨_, _, rfl⟩, by rw [sizeLine_eq]; omega, fun b _ => ?_, fun out p9 po np9 => ?_⟩
        · simp only [encP, PySem.W.alike, PySem.W.alikeAll, PySem.W.alike_ints, Bool.and_true, Bool.true_and, Bool.and_self]
        · simp only [encP, PyData.depth, PyData.depthAll, PySem.W.depth_ints]
          decide
        · have sAll := b1.sm.trans (b2.sm.trans b3.sm)
          exact k _ p9 (sAll.free np9) ⟨sAll.free np9, same_upd (sAll.free np9) sAll, out, upd_same, Paired.upd (KT.of (same_new np9)) po⟩
end
end
end KB
end

section
set_option Elab.async false
set_option linter.all false
set_option maxRecDepth 100000
set_option maxHeartbeats 400000
/-! the exceptions OnLine, OnPlane, NotBowl: their __init__ -/
namespace KB
open PySem PySem.Spec PyProof.Rows L2 NdefX
/-- a method whose first statement says super() -/
def nfM (x qual : Str) (st : Stmt) (cc c : Addr) : NF := ⟨x, qual, defArgs st, defBody st, defScope st, [(("__class__" : Str), cc)], c⟩
structure MSup (P : Program) (K : PySem.W.Frag) (mg : Str → Option Value) (D : Addr) (sn x qual : Str) (st : Stmt) (f : Addr) (fd : FuncData) (cc c : Addr) : Prop where
  lk : ∃ (oc : Value) (od : Option Addr) (sl : Array (Option Value)) (doc pm ctv : Value), K.lookup f = some (⟨oc, od, .func ((nfM x qual st cc c).fd doc pm ctv), sl⟩ : Obj) ∧ fd = (nfM x qual st cc c).fd doc pm ctv
  U : SupF P K mg (nfM x qual st cc c) f D sn
  an : PySem.W.nsIn K cStatics "thirdparty.any" = some none
structure ExK (K : PySem.W.Frag) (mg : Str → Option Value) (x : Str) (C fI : Addr) : Prop where
  T : OexC K C
  iC : PySem.W.findIn K (.ref C) "__init__" = some (some (.ref fI))
  tI : PySem.W.typeIn K (.ref fI) = some (.type "function")
  g : mg x = some (.ref C)
  mro : PySem.W.mroIn K C (.ref C) = some true
  sup : PySem.W.ks_superIn K C C "__init__" = some (some (.builtin "ValueError.__init__"))
  bs : PySem.W.subIn K (.ref C) (.type "ValueError") = some true
  eB : PySem.W.exmOne K (.ref C) (.ref C) = some true
def spEx1 (C : Addr) : Sp := fun vs H Q _ => ∃ (a : Addr) (y : V), vs = [.ref a, y] ∧ H a = some (exo a C none) ∧ ∀ dx, H dx = none → dx ≠ a → Q .non (upd (upd H dx (exd dx [(("numbers" : Str), y)])) a (exo a C (some dx)))
def spEx2 (C : Addr) : Sp := fun vs H Q _ => ∃ (a : Addr) (y z : V), vs = [.ref a, y, z] ∧ H a = some (exo a C none) ∧ ∀ dx, H dx = none → dx ≠ a → Q .non (upd (upd (upd H dx (exd dx [(("triangle" : Str), y)])) a (exo a C (some dx))) dx (exd dx [(("number" : Str), z), (("triangle" : Str), y)]))
abbrev nE1 : List Str := ["self", "numbers", "__class__"]
abbrev nE2 : List Str := ["self", "triangle", "number", "__class__"]
theorem scE9 : NScope nE1 ["self", "numbers"] ["__class__"] (defScope (clsS 9 0)) := nscope_by (by decide +kernel)
theorem scE10 : NScope nE1 ["self", "numbers"] ["__class__"] (defScope (clsS 10 0)) := nscope_by (by decide +kernel)
theorem scE11 : NScope nE2 ["self", "triangle", "number"] ["__class__"] (defScope (clsS 11 0)) := nscope_by (by decide +kernel)
section
variable {P : Program} {w : World} {K : PySem.W.Frag} {mg : Str → Option Value} {base : Heap}
theorem ok_ex9 {C f cc c : Addr} {fd : FuncData} (M : MSup P K mg C "self" "__init__" "OnLine.__init__" (clsS 9 0) f fd cc c) (X : ExK K mg "OnLine" C f) (nN : PySem.W.findIn K (.ref C) "numbers" = some none) : FnOk P w K mg base CX0 1 f fd ["self", "numbers"] (spEx1 C) := by
  obtain ⟨oc, od, sl, doc, pm, ctv, lk, hfd⟩ := M.lk
  refine fn_sup lk hfd M.U scE9 (fun vs H Q E h => ?_) rfl (fun A outer s H vs Q E hr h => ⟨_, _, psa_supE M.U X.T rfl rfl X.mro M.an X.sup X.bs (pa_cons pe_str pa_nil), pss_one (ps_ost (pv 0) (pv 1)), ?_⟩)
  · obtain ⟨a, y, rfl, _⟩ := h
    rfl
  · obtain ⟨a, y, rfl, ha, k⟩ := h
    exact ⟨a, rfl, ha, by decide, ha, _, rfl, _, rfl, a, C, rfl, X.T, nN, .inl ⟨ha, k⟩⟩
theorem ok_ex10 {C f cc c : Addr} {fd : FuncData} (M : MSup P K mg C "self" "__init__" "OnPlane.__init__" (clsS 10 0) f fd cc c) (X : ExK K mg "OnPlane" C f) (nN : PySem.W.findIn K (.ref C) "numbers" = some none) : FnOk P w K mg base CX0 1 f fd ["self", "numbers"] (spEx1 C) := by
  obtain ⟨oc, od, sl, doc, pm, ctv, lk, hfd⟩ := M.lk
  refine fn_sup lk hfd M.U scE10 (fun vs H Q E h => ?_) rfl (fun A outer s H vs Q E hr h => ⟨_, _, psa_supE M.U X.T rfl rfl X.mro M.an X.sup X.bs (pa_cons pe_str pa_nil), pss_one (ps_ost (pv 0) (pv 1)), ?_⟩)
  · obtain ⟨a, y, rfl, _⟩ := h
    rfl
  · obtain ⟨a, y, rfl, ha, k⟩ := h
    exact ⟨a, rfl, ha, by decide, ha, _, rfl, _, rfl, a, C, rfl, X.T, nN, .inl ⟨ha, k⟩⟩
theorem ok_ex11 {C f cc c : Addr} {fd : FuncData} (M : MSup P K mg C "self" "__init__" "NotBowl.__init__" (clsS 11 0) f fd cc c) (X : ExK K mg "NotBowl" C f) (nT : PySem.W.findIn K (.ref C) "triangle" = some none) (nN : PySem.W.findIn K (.ref C) "number" = some none) :
    FnOk P w K mg base CX0 1 f fd ["self", "triangle", "number"] (spEx2 C) := by
  obtain ⟨oc, od, sl, doc, pm, ctv, lk, hfd⟩ := M.lk
  refine fn_sup lk hfd M.U scE11 (fun vs H Q E h => ?_) rfl (fun A outer s H vs Q E hr h => ⟨_, _, psa_supE M.U X.T rfl rfl X.mro M.an X.sup X.bs (pa_cons pe_str pa_nil), pss_cons (ps_ost (pv 0) (pv 1)) (pss_one (ps_ost (pv 0) (pv 2))), ?_⟩)
  · obtain ⟨a, y, z, rfl, _⟩ := h
    rfl
  · obtain ⟨a, y, z, rfl, ha, k⟩ := h
    refine ⟨a, rfl, ha, by decide, ha, _, rfl, _, rfl, a, C, rfl, X.T, nT, .inl ⟨ha, fun dx nd ne => ⟨_, rfl, _, rfl, a, C, rfl, X.T, nN, .inr ⟨dx, _, upd_same, ?_, by show 1 ≤ 900; decide, k dx nd ne⟩⟩⟩⟩
    rw [upd_ne ne, upd_same]
end
end KB
end

section
set_option Elab.async false
set_option linter.all false
set_option maxRecDepth 100000
set_option maxHeartbeats 400000
/-! check_range, check_count (within the range); tables with tuple keys; turn_table -/
namespace KB
open PySem PySem.Spec PyProof.Rows L2
def spChk : Sp := fun vs H Q _ => ∃ v lo hi : Int, vs = [.int v, .int lo, .int hi] ∧ lo ≤ v ∧ v ≤ hi ∧ Q .non H
theorem scCR : FnScope ["value", "low", "high"] ["value", "low", "high"] (defScope (topS 16)) := ⟨rfl, rfl, rfl, by decide +kernel, rfl, by decide +kernel, by decide +kernel⟩
theorem scCC : FnScope ["many", "low", "high"] ["many", "low", "high"] (defScope (topS 17)) := ⟨rfl, rfl, rfl, by decide +kernel, rfl, by decide +kernel, by decide +kernel⟩
section
variable {P : Program} {w : World} {K : PySem.W.Frag} {mg : Str → Option Value} {base : Heap}
theorem ok_range {f : Addr} {fd : FuncData} (F : Fun K "check_range" "check_range" (topS 16) f fd) : FnOk P w K mg base CX0 1 f fd ["value", "low", "high"] spChk := by
  refine F.ok scCR (fun vs H Q E h => ?_) (fun cdv A outer s H vs Q E hr h => ⟨_, pss_one (ps_if (PW.pt (pw_or (pt_cmpR op_lt (pv 0) (pv 1) (nomark _)) (pw_or1 (pt_cmpR op_gt (pv 0) (pv 2) (nomark _))))) (pss_one ps_never) pss_nil), ?_⟩)
  · obtain ⟨v, lo, hi, rfl, _⟩ := h
    rfl
  · obtain ⟨v, lo, hi, rfl, h1, h2, k⟩ := h
    exact ⟨_, rfl, _, rfl, _, _, rfl, rfl, _, rfl, itD (fun c => absurd c (by omega)) fun _ => ⟨_, rfl, _, rfl, _, _, rfl, rfl, _, rfl, itD (fun c => absurd c (by omega)) fun _ => k⟩⟩
theorem ok_count {f : Addr} {fd : FuncData} (F : Fun K "check_count" "check_count" (topS 17) f fd) : FnOk P w K mg base CX0 1 f fd ["many", "low", "high"] spChk := by
  refine F.ok scCC (fun vs H Q E h => ?_) (fun cdv A outer s H vs Q E hr h => ⟨_, pss_one (ps_if (PW.pt (pw_or (pt_cmpR op_lt (pv 0) (pv 1) (nomark _)) (pw_or1 (pt_cmpR op_gt (pv 0) (pv 2) (nomark _))))) (pss_one ps_never) pss_nil), ?_⟩)
  · obtain ⟨v, lo, hi, rfl, _⟩ := h
    rfl
  · obtain ⟨v, lo, hi, rfl, h1, h2, k⟩ := h
    exact ⟨_, rfl, _, rfl, _, _, rfl, rfl, _, rfl, itD (fun c => absurd c (by omega)) fun _ => ⟨_, rfl, _, rfl, _, _, rfl, rfl, _, rfl, itD (fun c => absurd c (by omega)) fun _ => k⟩⟩
end
/-- all but D stands -/
def SameX (D : Addr) (H H' : Hp) : Prop := ∀ b o, b ≠ D → H b = some o → H' b = some o
theorem SameX.of {D : Addr} {H H' : Hp} (s : Same H H') : SameX D H H' := fun b o _ e => s b o e
theorem SameX.trans {D : Addr} {H H1 H2 : Hp} (a : SameX D H H1) (b : SameX D H1 H2) : SameX D H H2 := fun c o n e => b c o n (a c o n e)
theorem SameX.free {D : Addr} {H0 H H' : Hp} (s : SameX D H H') (z : Same H0 H) (nd : H0 D = none) : Same H0 H' := fun b o e => s b o (ne_of_none e nd) (z b o e)
/-- a table that is built: its values are F's, it has the keys ks -/
structure Tb (F : List Key → Option Int) (H0 H : Hp) (D : Addr) (ks : List Key → Prop) (m : Nat) : Prop where
  sm : SameX D H0 H
  ex : ∃ kvs : List (List Key × V), H D = some (.dT kvs) ∧ kvs.length ≤ m ∧ (∀ k v, valV kvs k = some v → ∃ i, F k = some i ∧ v = .int i) ∧ ∀ k, ks k → valV kvs k ≠ none
theorem putK_len {κ : Type} [DecidableEq κ] (kvs : List (κ × V)) (k : κ) (v : V) : (putK kvs k v).length ≤ kvs.length + 1 := by
  unfold putK
  split
  · rw [List.length_map]
    omega
  · simp
section
variable {F : List Key → Option Int} {H0 H H1 : Hp} {D : Addr} {ks : List Key → Prop} {m : Nat}
theorem Tb.start (e : H0 D = some (.dT [])) : Tb F H0 H0 D (fun _ => False) 0 := ⟨fun _ _ _ h => h, [], e, Nat.le_refl _, (fun k v e => by cases e), fun k h => False.elim h⟩
theorem Tb.same (b : Tb F H0 H D ks m) (s : Same H H1) : Tb F H0 H1 D ks m := by
  obtain ⟨kvs, e, r⟩ := b.ex
  exact ⟨b.sm.trans (.of s), kvs, s _ _ e, r⟩
theorem Tb.weak {ks' : List Key → Prop} {m' : Nat} (b : Tb F H0 H D ks m) (h : ∀ k, ks' k → ks k) (hm : m ≤ m') : Tb F H0 H D ks' m' := by
  obtain ⟨kvs, e, l, r1, r2⟩ := b.ex
  exact ⟨b.sm, kvs, e, Nat.le_trans l hm, r1, fun k hk => r2 k (h k hk)⟩
/-- D[t] = v -/
theorem rdPut {σ : L2.St} {to : TE} {t : TA} {k : List Key} {i : Int} {Q : L2.St → Hp → Prop} (b : Tb F H0 H D ks m) (hm : m ≤ 100000) (h1 : Gv to σ H (.ref D)) (h2 : ∀ Q : List V → Hp → Prop, Q (k.map kV) H → t σ H Q) (hl : k.length ≤ sizeLine) (hF : F k = some i)
    (q : ∀ H', Tb F H0 H' D (fun j => j = k ∨ ks j) (m + 1) → Q σ H') : L2.gSub to (tTup t) rSetD (.int i) σ H Q := by
  obtain ⟨kvs, e, l, r1, r2⟩ := b.ex
  refine h1 _ (h2 _ ⟨by rw [List.length_map]; exact hl, fun u nu => ?_⟩)
  have s1 := same_new (o := .tup (k.map kV)) nu
  have e1 := s1 _ _ e
  refine ⟨D, _, rfl, DPut.t e1 upd_same (by have := smallX hm; omega), q _ ⟨fun b' o' n' e' => (upd_ne n').trans (s1 _ _ (b.sm b' o' n' e')), _, upd_same, Nat.le_trans (putK_len _ _ _) (by omega), fun j v hj => ?_, fun j hj => ?_⟩⟩
  · rw [valV_put] at hj
    split at hj
    · rename_i c
      cases hj
      exact ⟨i, by rw [c]; exact hF, rfl⟩
    · exact r1 j v hj
  · rw [valV_put]
    split
    · simp
    · rename_i c
      rcases hj with rfl | hj
      · exact absurd rfl c
      · exact r2 j hj
end
end KB
end

section
set_option Elab.async false
set_option linter.all false
set_option maxRecDepth 100000
set_option maxHeartbeats 400000
/-! turn_table -/
namespace KB
open PySem PySem.Spec PyProof.Rows L2
theorem sg_neg (x : Int) : sg (-x) = - sg x := by
  unfold sg
  split <;> split <;> (try split) <;> (try split) <;> omega
theorem sg_zero (x : Int) : sg x = 0 ↔ x = 0 := by
  unfold sg
  split <;> (try split) <;> omega
section
variable (ps : List (Int × Int)) (a b c : Nat)
theorem tn_rot : tn ps b c a = tn ps a b c := by
  unfold tn ar
  grind
theorem tn_rot2 : tn ps c a b = tn ps a b c := by
  unfold tn ar
  grind
theorem tn_sw : tn ps a c b = - tn ps a b c := by
  unfold tn ar
  grind
theorem tn_sw1 : tn ps c b a = - tn ps a b c := by
  unfold tn ar
  grind
theorem tn_sw2 : tn ps b a c = - tn ps a b c := by
  unfold tn ar
  grind
end
/-- the turn that goes with a key -/
def FT (ps : List (Int × Int)) : List Key → Option Int
  | [.inl a, .inl b, .inl c] => some (sg (tn ps a.toNat b.toNat c.toNat))
  | _ => none
theorem FT_k (ps : List (Int × Int)) (a b c : Nat) : FT ps (k3 a b c) = some (sg (tn ps a b c)) := by
  show some _ = _
  simp
/-- the keys of a triple, in every order -/
def perm3 (t : T3) (k : List Key) : Prop := k = k3 t.1 t.2.1 t.2.2 ∨ k = k3 t.2.1 t.2.2 t.1 ∨ k = k3 t.2.2 t.1 t.2.1 ∨ k = k3 t.1 t.2.2 t.2.1 ∨ k = k3 t.2.2 t.2.1 t.1 ∨ k = k3 t.2.1 t.1 t.2.2
/-- the first three on a line -/
def flat? (ps : List (Int × Int)) : Option T3 := (threes ps.length).find? fun t => decide (tn ps t.1 t.2.1 t.2.2 = 0)
theorem threes_in {n a b c : Nat} (h1 : a < b) (h2 : b < c) (h3 : c < n) : (a, b, c) ∈ threes n := by
  unfold threes
  refine List.mem_flatMap.mpr ⟨a, List.mem_range.mpr (by omega), ?_⟩
  unfold t3b
  refine List.mem_flatMap.mpr ⟨b - (a + 1), List.mem_range.mpr (by omega), ?_⟩
  unfold t3c
  refine List.mem_map.mpr ⟨c - (b + 1), List.mem_range.mpr (by omega), ?_⟩
  simp
  omega
theorem perm_of {n a b c : Nat} (ha : a < n) (hb : b < n) (hc : c < n) (hab : a ≠ b) (hac : a ≠ c) (hbc : b ≠ c) : ∃ t ∈ threes n, perm3 t (k3 a b c) := by
  unfold perm3
  by_cases h1 : a < b
  · by_cases h2 : b < c
    · exact ⟨_, threes_in h1 h2 hc, .inl rfl⟩
    · by_cases h3 : a < c
      · exact ⟨_, threes_in h3 (show c < b by omega) hb, .inr (.inr (.inr (.inl rfl)))⟩
      · exact ⟨_, threes_in (show c < a by omega) h1 hb, .inr (.inl rfl)⟩
  · by_cases h2 : a < c
    · exact ⟨_, threes_in (show b < a by omega) h2 hc, .inr (.inr (.inr (.inr (.inr rfl))))⟩
    · by_cases h3 : b < c
      · exact ⟨_, threes_in h3 (show c < a by omega) ha, .inr (.inr (.inl rfl))⟩
      · exact ⟨_, threes_in (show c < b by omega) (show b < a by omega) ha, .inr (.inr (.inr (.inr (.inl rfl))))⟩
/-- a list of points at a tuple -/
def PtT (H : Hp) (tp : Addr) (ps : List (Int × Int)) : Prop := ∃ vs, H tp = some (.tup vs) ∧ Paired (RP H) vs ps
theorem PtT.same {H H' : Hp} {tp : Addr} {ps : List (Int × Int)} (h : PtT H tp ps) (s : Same H H') : PtT H' tp ps := by
  obtain ⟨vs, e, p⟩ := h
  exact ⟨vs, s _ _ e, Paired.upd (.of s) p⟩
/-- the table of all turns -/
def TurnsAt (H : Hp) (td : Addr) (ps : List (Int × Int)) : Prop := ∃ kvs, H td = some (.dT kvs) ∧ ∀ a b c, a < ps.length → b < ps.length → c < ps.length → a ≠ b → a ≠ c → b ≠ c → valV kvs (k3 a b c) = some (.int (sg (tn ps a b c)))
def spTab (CL : Addr) : Sp := fun vs H Q E => ∃ (tp : Addr) (ps : List (Int × Int)), vs = [.ref tp] ∧ PtsOk ps ∧ PtT H tp ps ∧ (flat? ps = none → ∀ H' td, H td = none → Same H H' → TurnsAt H' td ps → Q (.ref td) H') ∧
  ∀ t, flat? ps = some t → ∀ H' d u, Same H H' → H d = none → H' d = some (.xd [(("numbers" : Str), u)]) → R3 H' u t → E (.ref CL) (some d) H'
/-- the way out of raise C(y), C with one field -/
theorem rdRaise1 {C : Addr} {y : V} {H : Hp} {W : Value → Option Addr → Hp → Prop} (h : ∀ H' d, Same H H' → H d = none → H' d = some (.xd [(("numbers" : Str), y)]) → W (.ref C) (some d) H') :
    [y].length ≤ 1000 ∧ ∀ a, H a = none → spEx1 C (.ref a :: ([y] ++ [])) (upd H a (exo a C none)) (fun v H2 => v = .non ∧ ∃ (d : Addr) (fs : List (Str × V)), H2 a = some (exo a C (some d)) ∧ H2 d = some (exd d fs) ∧ H d = none ∧ W (.ref C) (some d) (upd (del H2 a) d (.xd fs))) (fun _ _ _ => False) := by
  refine ⟨by show 1 ≤ 1000; decide, fun a na => ⟨a, y, rfl, upd_same, fun d nd ne => ⟨rfl, d, [(("numbers" : Str), y)], upd_same, ?_, ?_, h _ d (fun b o e => ?_) ?_ upd_same⟩⟩⟩
  · rw [upd_ne ne, upd_same]
  · rw [upd_ne ne] at nd
    exact nd
  · have hba : b ≠ a := ne_of_none e na
    rw [upd_ne ne] at nd
    have hbd : b ≠ d := ne_of_none e nd
    rw [upd_ne hbd, del_ne hba, upd_ne hba, upd_ne hbd, upd_ne hba]
    exact e
  · rw [upd_ne ne] at nd
    exact nd
theorem paired_idx {α : Type} {R : V → α → Prop} (d : α) : ∀ {vs : List V} {l : List α} (i : Nat), Paired R vs l → i < l.length → ∃ v, vs[i]? = some v ∧ R v (l.getD i d)
  | _, _, i, .nil, h => by simp at h
  | _, _, 0, .cons r _, _ => ⟨_, rfl, r⟩
  | _, _, i + 1, .cons _ t, h => paired_idx d i t (by simpa using h)
theorem gPt {K : PySem.W.Frag} {σ : L2.St} {H : Hp} {t0 t1 : TE} {tp : Addr} {ps : List (Int × Int)} {i : Nat} (h0 : Gv t0 σ H (.ref tp)) (h1 : Gv t1 σ H (.int i)) (hT : PtT H tp ps) (hi : i < ps.length) :
    ∃ a, Gv (tOp (rIxT K) t0 t1) σ H (.ref a) ∧ H a = some (.tup [.int (cx ps i), .int (cy ps i)]) := by
  obtain ⟨vs, e, p⟩ := hT
  obtain ⟨v, ev, a, rfl, ea⟩ := paired_idx (0, 0) i p hi
  exact ⟨a, gIx h0 h1 e (atI_nat ev), ea⟩
theorem PtsOk.sx {ps : List (Int × Int)} (ok : PtsOk ps) {i : Nat} (hi : i < ps.length) : sml (cx ps i) ∧ sml (cy ps i) := by
  have e : ps.getD i (0, 0) = ps[i] := by simp [hi]
  have := ok.bd ps[i] (List.getElem_mem hi)
  unfold sml cx cy
  rw [e]
  omega
/-- area of three points of a list -/
theorem rdArea {σ : L2.St} {H : Hp} {t1 t2 t3 : TE} {p q r : Addr} {ps : List (Int × Int)} {a b c : Nat} (ok : PtsOk ps) (h1 : Gv t1 σ H (.ref p)) (h2 : Gv t2 σ H (.ref q)) (h3 : Gv t3 σ H (.ref r))
    (e1 : H p = some (.tup [.int (cx ps a), .int (cy ps a)])) (e2 : H q = some (.tup [.int (cx ps b), .int (cy ps b)])) (e3 : H r = some (.tup [.int (cx ps c), .int (cy ps c)])) (ha : a < ps.length) (hb : b < ps.length) :
    Gv (tCall spArea [] E0 (tCons t1 (tCons t2 (tCons t3 tNil)))) σ H (.int (tn ps a b c)) := fun Q k =>
  h1 _ (h2 _ (h3 _ ⟨p, q, r, _, _, _, _, _, _, [], [], [], rfl, e1, e2, e3, (ok.sx ha).1, (ok.sx ha).2, (ok.sx hb).1, (ok.sx hb).2, k⟩))
abbrev nTT : List Str := ["points", "table", "a", "b", "c", "turn"]
theorem scTT : FnScope nTT ["points"] (defScope (topS 62)) := ⟨rfl, rfl, rfl, by decide +kernel, rfl, by decide +kernel, by decide +kernel⟩
section
variable {P : Program} {w : World} {K : PySem.W.Frag} {mg : Str → Option Value} {base : Heap} {CL fX : Addr}
theorem ok_table {f f3 fA fS : Addr} {fd fd3 fdA fdS fdX : FuncData} (F : Fun K "turn_table" "turn_table" (topS 62) f fd) (G3 : Gd K mg "all_threes" (topS 23) f3 fd3) (F3 : FnOk P w K mg base CX0 1 f3 fd3 ["many"] spThrees)
    (GA : Gd K mg "quick_area" (topS 39) fA fdA) (FA : FnOk P w K mg base CX0 1 fA fdA ["p", "q", "r"] spArea) (GS : Gd K mg "sign_of" (topS 38) fS fdS) (FS : FnOk P w K mg base CX0 1 fS fdS ["value"] spSign)
    (X : ExK K mg "OnLine" CL fX) (FX : FnOk P w K mg base CX0 1 fX fdX ["self", "numbers"] (spEx1 CL)) (bX : Binds K fdX ["self", "numbers"] []) (mL : mg "len" = none) : FnOk P w K mg base (L2.CX P w) 3 f fd ["points"] (spTab CL) := by
  have b3 := G3.F.binds (ps := ["many"]) fun _ _ _ _ _ _ us hl => match us, hl with | [_], _ => rfl
  have bA := GA.F.binds (ps := ["p", "q", "r"]) fun _ _ _ _ _ _ us hl => match us, hl with | [_, _, _], _ => rfl
  have bS := GS.F.binds (ps := ["value"]) fun _ _ _ _ _ _ us hl => match us, hl with | [_], _ => rfl
  refine F.okX scTT (fun vs H Q E h => ?_) (fun cdv A outer s H vs Q E hr h => ⟨_,
    pss_cons (ps_set (i := 1) scTT.nd rfl (Or.inl rfl) pe_dnewT)
    (pss_cons (ps_for (passes_of rfl) rfl (pi_list (pe_call F3 (hr.mono (by decide)) rfl G3.g G3.F.kp b3 .nil pass0 (pa_cons (pe_callB call_len_seq (by rfl) mL PySem.boot_len (pa_cons (pv 0) pa_nil)) pa_nil)))
      (pg_tup rfl (pgs_cons (pg_name (i := 2) scTT.nd rfl (Or.inl rfl)) (pgs_cons (pg_name (i := 3) scTT.nd rfl (Or.inl rfl)) (pgs_cons (pg_name (i := 4) scTT.nd rfl (Or.inl rfl)) pgs_nil))))
      (pss_cons (ps_set (i := 5) scTT.nd rfl (Or.inl rfl) (pe_call FS (hr.mono (by decide)) rfl GS.g GS.F.kp bS .nil pass0 (pa_cons (pe_call FA (hr.mono (by decide)) rfl GA.g GA.F.kp bA .nil pass0
          (pa_cons (pe_ix ix_tup (pv 0) (pv 2) (fun _ _ => rfl)) (pa_cons (pe_ix ix_tup (pv 0) (pv 3) (fun _ _ => rfl)) (pa_cons (pe_ix ix_tup (pv 0) (pv 4) (fun _ _ => rfl)) pa_nil)))) pa_nil)))
      (pss_cons (ps_if (pt_cmpR op_eq (pv 5) pe_int (nomark _)) (pss_one (ps_raise rfl (takes_of rfl rfl rfl rfl) (pmk_oex X.T X.iC X.tI FX hr bX .nil pass0 (by rfl) X.g (pa_cons (pe_tup (pa_cons (pv 2) (pa_cons (pv 3) (pa_cons (pv 4) pa_nil)))) pa_nil)))) pss_nil)
      (pss_cons (ps_asg3 (pv 5) (pg_sub (pv 1) (pe_tup (pa_cons (pv 2) (pa_cons (pv 3) (pa_cons (pv 4) pa_nil)))) (set_dict (hu_of hr))) (pg_sub (pv 1) (pe_tup (pa_cons (pv 3) (pa_cons (pv 4) (pa_cons (pv 2) pa_nil)))) (set_dict (hu_of hr)))
        (pg_sub (pv 1) (pe_tup (pa_cons (pv 4) (pa_cons (pv 2) (pa_cons (pv 3) pa_nil)))) (set_dict (hu_of hr))))
      (pss_one (ps_asg3 (pe_un un_neg (pv 5)) (pg_sub (pv 1) (pe_tup (pa_cons (pv 2) (pa_cons (pv 4) (pa_cons (pv 3) pa_nil)))) (set_dict (hu_of hr))) (pg_sub (pv 1) (pe_tup (pa_cons (pv 4) (pa_cons (pv 3) (pa_cons (pv 2) pa_nil)))) (set_dict (hu_of hr)))
        (pg_sub (pv 1) (pe_tup (pa_cons (pv 3) (pa_cons (pv 2) (pa_cons (pv 4) pa_nil)))) (set_dict (hu_of hr)))))))))
    (pss_one (ps_ret (pv 1)))), ?_⟩)
  · obtain ⟨tp, ps, rfl, _⟩ := h
    rfl
  · obtain ⟨tp, ps, rfl, ok, hT, k1, k2⟩ := h
    obtain ⟨vs, ev, pv⟩ := hT
    have hlen : vs.length = ps.length := pv.length
    have hn := ok.hi
    refine fun D nD => ⟨_, rfl, tp, vs, rfl, .inr (SqT.of (same_new nD _ _ ev)), ps.length, by rw [hlen]; rfl, hn, fun L H1 nL b0 => ?_⟩
    obtain ⟨us, eL, pL⟩ := b0.ls
    have sD : Same H (upd H D (.dT [])) := same_new nD
    have s01 := sD.trans b0.sm
    have eD : H1 D = some (.dT []) := b0.sm _ _ upd_same
    have nLD : L ≠ D := fun e => by
      rw [e, upd_same] at nL
      cases nL
    have ul : us.length = (threes ps.length).length := pL.length
    refine ⟨L, rfl, ⟨_, SqL.of eL⟩, for_list (K := K) (a := L) (xs := us) (fun i σ H' => (∃ x y z u, σ = [some (.ref tp), some (.ref D), x, y, z, u]) ∧ Tb (FT ps) H1 H' D (fun k => ∃ t ∈ (threes ps.length).take i, perm3 t k) (6 * i) ∧ ∀ t ∈ (threes ps.length).take i, tn ps t.1 t.2.1 t.2.2 ≠ 0)
      ⟨⟨_, _, _, _, rfl⟩, (Tb.start eD).weak (fun k ⟨t, ht, _⟩ => by simp at ht) (by simp), fun t ht => by simp at ht⟩ (fun i σ H' _ ⟨_, tb, _⟩ => SqL.of (tb.sm _ _ nLD eL)) ?_ ?_⟩
    · rintro i v σ H' hv ⟨⟨x, y, z, u, rfl⟩, tb, nz⟩
      obtain ⟨⟨a, b, c⟩, ht, q, rfl, eq⟩ := paired_get _ pL hv
      have nqD : q ≠ D := fun e => by
        rw [e, eD] at eq
        cases eq
      have eq' := tb.sm _ _ nqD eq
      obtain ⟨h1, h2, h3⟩ := threes_mem (List.mem_of_getElem? ht)
      dsimp only at h1 h2 h3 eq eq'
      have sH : Same H H' := SameX.free tb.sm s01 nD
      have hi6 : i < (threes ps.length).length := (List.getElem?_eq_some_iff.mp ht).1
      have h1000 := threes_le hn
      refine ⟨q, _, rfl, SqT.of eq', rfl, unp (unp (unp ⟨rfl, ?_⟩))⟩
      have hT' : PtT H' tp ps := PtT.same ⟨vs, ev, pv⟩ sH
      obtain ⟨pa, ga, ea⟩ := gPt (K := K) (σ := [some (.ref tp), some (.ref D), some (.int (a : Int)), some (.int (b : Int)), some (.int (c : Int)), u]) (t0 := tVar 0) (t1 := tVar 2) (gVar rfl) (gVar rfl) hT' (show a < ps.length by omega)
      obtain ⟨pb, gb, eb⟩ := gPt (K := K) (σ := [some (.ref tp), some (.ref D), some (.int (a : Int)), some (.int (b : Int)), some (.int (c : Int)), u]) (t0 := tVar 0) (t1 := tVar 3) (gVar rfl) (gVar rfl) hT' (show b < ps.length by omega)
      obtain ⟨pc, gc, ec⟩ := gPt (K := K) (σ := [some (.ref tp), some (.ref D), some (.int (a : Int)), some (.int (b : Int)), some (.int (c : Int)), u]) (t0 := tVar 0) (t1 := tVar 4) (gVar rfl) (gVar rfl) hT' (show c < ps.length by omega)
      refine rdArea ok ga gb gc ea eb ec (by omega) (by omega) _ ⟨_, rfl, tEqI (gVar rfl) gC (fun c0 => ?_) fun c0 => ?_⟩
      · -- a flat triple
        have z0 : tn ps a b c = 0 := (sg_zero _).mp c0
        refine ⟨_, rfl, _, rfl, _, rfl, by show 3 ≤ sizeLine; decide, fun p np => rdRaise1 fun H9 d s9 nd ed => k2 (a, b, c) ?_ H9 d _ (sH.trans ((same_new np).trans s9)) (sH.free ((same_new np).free nd)) ed ⟨p, rfl, s9 _ _ upd_same⟩⟩
        refine List.find?_eq_some_iff_append.mpr ⟨decide_eq_true z0, (threes ps.length).take i, (threes ps.length).drop (i + 1), ?_, fun t ht => by simp [nz t ht]⟩
        have e1 := List.take_append_drop i (threes ps.length)
        rw [List.drop_eq_getElem_cons hi6] at e1
        have e2 : (threes ps.length)[i] = (a, b, c) := by
          have := List.getElem?_eq_getElem hi6
          rw [ht] at this
          exact (Option.some.inj this).symm
        rw [e2] at e1
        exact e1.symm
      · have z0 : tn ps a b c ≠ 0 := fun e => c0 ((sg_zero _).mpr e)
        have f1 := FT_k ps a b c
        have f2 := FT_k ps b c a
        have f3 := FT_k ps c a b
        have f4 := FT_k ps a c b
        have f5 := FT_k ps c b a
        have f6 := FT_k ps b a c
        rw [tn_rot] at f2
        rw [tn_rot2] at f3
        rw [tn_sw, sg_neg] at f4
        rw [tn_sw1, sg_neg] at f5
        rw [tn_sw2, sg_neg] at f6
        have s3 : 3 ≤ sizeLine := by decide
        refine ⟨_, rfl, rdPut (k := k3 a b c) tb (by omega) (gVar rfl) (fun Q q => ⟨_, rfl, _, rfl, _, rfl, q⟩) s3 f1 fun H2 tb2 => rdPut (k := k3 b c a) tb2 (by omega) (gVar rfl) (fun Q q => ⟨_, rfl, _, rfl, _, rfl, q⟩) s3 f2 fun H3 tb3 => rdPut (k := k3 c a b) tb3 (by omega) (gVar rfl) (fun Q q => ⟨_, rfl, _, rfl, _, rfl, q⟩) s3 f3 fun H4 tb4 =>
          ⟨_, rfl, _, rfl, rdPut (k := k3 a c b) tb4 (by omega) (gVar rfl) (fun Q q => ⟨_, rfl, _, rfl, _, rfl, q⟩) s3 f4 fun H5 tb5 => rdPut (k := k3 c b a) tb5 (by omega) (gVar rfl) (fun Q q => ⟨_, rfl, _, rfl, _, rfl, q⟩) s3 f5 fun H6 tb6 => rdPut (k := k3 b a c) tb6 (by omega) (gVar rfl) (fun Q q => ⟨_, rfl, _, rfl, _, rfl, q⟩) s3 f6 fun H7 tb7 => ?_⟩⟩
        rw [take_snoc ht]
        refine ⟨⟨_, _, _, _, rfl⟩, tb7.weak (fun k ⟨t, htk, hk⟩ => ?_) (by omega), fun t htk => ?_⟩
        · rcases List.mem_append.mp htk with h | h
          · exact .inr (.inr (.inr (.inr (.inr (.inr ⟨t, h, hk⟩)))))
          · rw [List.mem_singleton] at h
            subst h
            rcases hk with h | h | h | h | h | h
            · exact .inr (.inr (.inr (.inr (.inr (.inl h)))))
            · exact .inr (.inr (.inr (.inr (.inl h))))
            · exact .inr (.inr (.inr (.inl h)))
            · exact .inr (.inr (.inl h))
            · exact .inr (.inl h)
            · exact .inl h
        · rcases List.mem_append.mp htk with h | h
          · exact nz t h
          · rw [List.mem_singleton] at h
            subst h
            exact z0
    · rintro σ H' ⟨⟨x, y, z, u, rfl⟩, tb, nz⟩
      rw [ul, List.take_length] at nz tb
      have sH : Same H H' := SameX.free tb.sm s01 nD
      obtain ⟨kvs, e, l, r1, r2⟩ := tb.ex
      refine ⟨_, rfl, k1 (List.find?_eq_none.mpr fun t ht => by simp [nz t ht]) H' D nD sH ⟨kvs, e, fun a b c ha hb hc hab hac hbc => ?_⟩⟩
      have hk := r2 (k3 a b c) (perm_of ha hb hc hab hac hbc)
      cases ev : valV kvs (k3 a b c) with
      | none => exact absurd ev hk
      | some v =>
        obtain ⟨i, hi, rfl⟩ := r1 _ _ ev
        rw [FT_k] at hi
        cases hi
        rfl
end
end KB
end

section
set_option Elab.async false
set_option linter.all false
set_option maxRecDepth 100000
set_option maxHeartbeats 400000
/-! Floor.__init__ -/
namespace KB
open PySem PySem.Spec PyProof.Rows L2
structure FlC (K : PySem.W.Frag) (CF : Addr) : Prop where
  cL : ∃ u, Con K CF "LEAST" (.int 3) u
  cM : ∃ u, Con K CF "MOST" (.int 10) u
  cF : ∃ u, Con K CF "FAR" (.int 1000000) u
def spFloor (CF CL : Addr) : Sp := fun vs H Q E => ∃ (x l dx : Addr) (us : List V) (ps : List (Int × Int)), vs = [.ref x, .ref l] ∧ H x = some (.ins CF dx []) ∧ H l = some (.lst us) ∧ Paired (RP H) us ps ∧ PtsOk ps ∧
  (flat? ps = none → ∀ H', SameX x H H' → FloorAt CF ps H' x → Q .non H') ∧
  ∀ t, flat? ps = some t → ∀ H' d u, SameX x H H' → H d = none → H' d = some (.xd [(("numbers" : Str), u)]) → R3 H' u t → E (.ref CL) (some d) H'
abbrev nFI : List Str := ["self", "points", "x", "y"]
theorem scFI : FnScope nFI ["self", "points"] (defScope (clsS 63 3)) := ⟨rfl, rfl, rfl, by decide +kernel, rfl, by decide +kernel, by decide +kernel⟩
theorem SameX.upd {D : Addr} {H : Hp} {o : HO} : SameX D H (upd H D o) := fun b u n e => by
  rw [upd_ne n]
  exact e
section
variable {P : Program} {w : World} {K : PySem.W.Frag} {mg : Str → Option Value} {base : Heap} {CL CF fL fT : Addr}
theorem gCon {σ : L2.St} {H : Hp} {ta : TE} {a C dx : Addr} {fs : List (Str × V)} {f : Str} {v : V} {u : Value} (h : Gv ta σ H (.ref a)) (e : H a = some (.ins C dx fs)) (c : Cls K C) (k : Con K C f v u) (n : fs.lookup f = none) : Gv (tCon K ta f) σ H v := fun Q q => h _ ⟨a, C, dx, fs, v, u, rfl, e, c, k, n, q⟩
theorem gFld {σ : L2.St} {H : Hp} {ta : TE} {a C dx : Addr} {fs : List (Str × V)} {f : Str} {v : V} (h : Gv ta σ H (.ref a)) (e : H a = some (.ins C dx fs)) (c : Cls K C) (k : NoAttr K C f) (n : fs.lookup f = some v) : Gv (tFld K ta f) σ H v := fun Q q => h _ ⟨a, C, dx, fs, v, rfl, e, c, k, n, q⟩
theorem gNeg {σ : L2.St} {H : Hp} {ta : TE} {i : Int} (h : Gv ta σ H (.int i)) : Gv (tUn (rU fun i => .int (-i)) ta) σ H (.int (-i)) := fun Q q => h _ ⟨i, rfl, q⟩
theorem rdChk {σ : L2.St} {H : Hp} {Q : VK} {t1 t2 t3 : TE} {i lo hi : Int} (h1 : Gv t1 σ H (.int i)) (h2 : Gv t2 σ H (.int lo)) (h3 : Gv t3 σ H (.int hi)) (a : lo ≤ i) (b : i ≤ hi) (q : Q .non H) : tCall spChk [] E0 (tCons t1 (tCons t2 (tCons t3 tNil))) σ H Q :=
  h1 _ (h2 _ (h3 _ ⟨i, lo, hi, rfl, a, b, q⟩))
theorem ok_floor {f fC fR fTb : Addr} {fd fdC fdR fdT : FuncData} (F : Fun K "__init__" "Floor.__init__" (clsS 63 3) f fd) (GC : Gd K mg "check_count" (topS 17) fC fdC) (GR : Gd K mg "check_range" (topS 16) fR fdR) (GT : Gd K mg "turn_table" (topS 62) fTb fdT)
    (FTb : FnOk P w K mg base (L2.CX P w) 3 fTb fdT ["points"] (spTab CL)) (T : FlK K CF fL fT) (TC : FlC K CF) (mL : mg "len" = none) (mT : mg "tuple" = none) : FnOk P w K mg base (L2.CX P w) 4 f fd ["self", "points"] (spFloor CF CL) := by
  have FC : FnOk P w K mg base CX0 1 fC fdC ["many", "low", "high"] spChk := ok_count GC.F
  have FR : FnOk P w K mg base CX0 1 fR fdR ["value", "low", "high"] spChk := ok_range GR.F
  have bC := GC.F.binds (ps := ["many", "low", "high"]) fun _ _ _ _ _ _ us hl => match us, hl with | [_, _, _], _ => rfl
  have bR := GR.F.binds (ps := ["value", "low", "high"]) fun _ _ _ _ _ _ us hl => match us, hl with | [_, _, _], _ => rfl
  have bT := GT.F.binds (ps := ["points"]) fun _ _ _ _ _ _ us hl => match us, hl with | [_], _ => rfl
  obtain ⟨uL, cL⟩ := TC.cL
  obtain ⟨uM, cM⟩ := TC.cM
  obtain ⟨uF, cF⟩ := TC.cF
  refine F.okX scFI (fun vs H Q E h => ?_) (fun cdv A outer s H vs Q E hr h => ⟨_,
    pss_cons (ps_expr (pe_call FC (hr.mono (by decide)) rfl GC.g GC.F.kp bC .nil pass0 (pa_cons (pe_callB call_len_seq (by rfl) mL PySem.boot_len (pa_cons (pv 1) pa_nil)) (pa_cons (pe_con (pv 0) rfl) (pa_cons (pe_con (pv 0) rfl) pa_nil)))))
    (pss_cons (ps_for (passes_of rfl) rfl (pi_list (pv 1)) (pg_tup rfl (pgs_cons (pg_name (i := 2) scFI.nd rfl (Or.inl rfl)) (pgs_cons (pg_name (i := 3) scFI.nd rfl (Or.inl rfl)) pgs_nil)))
      (pss_cons (ps_expr (pe_call FR (hr.mono (by decide)) rfl GR.g GR.F.kp bR .nil pass0 (pa_cons (pv 2) (pa_cons (pe_un un_neg (pe_con (pv 0) rfl)) (pa_cons (pe_con (pv 0) rfl) pa_nil)))))
      (pss_one (ps_expr (pe_call FR (hr.mono (by decide)) rfl GR.g GR.F.kp bR .nil pass0 (pa_cons (pv 3) (pa_cons (pe_un un_neg (pe_con (pv 0) rfl)) (pa_cons (pe_con (pv 0) rfl) pa_nil))))))))
    (pss_cons (ps_fld (pv 0) (pe_callTy call_tuple_of (by rfl) mT (by decide +kernel) (pa_cons (pv 1) pa_nil)) rfl)
    (pss_one (ps_fld (pv 0) (pe_call FTb hr rfl GT.g GT.F.kp bT .nil (passes_call (E := E) (takes_of rfl rfl rfl rfl) fun _ _ _ _ h => h) (pa_cons (pe_fld (pv 0) rfl) pa_nil)) rfl)))), ?_⟩)
  · obtain ⟨x, l, dx, us, ps, rfl, _⟩ := h
    rfl
  · obtain ⟨x, l, dx, us, ps, rfl, hx, hl, hp, ok, k1, k2⟩ := h
    have hn : us.length = ps.length := hp.length
    have o1 := ok.lo
    have o2 := ok.hi
    refine rdChk (i := (us.length : Int)) (fun Q q => ⟨_, rfl, l, us, rfl, .inl (SqL.of hl), q⟩) (gCon (gVar rfl) hx T.cl cL rfl) (gCon (gVar rfl) hx T.cl cM rfl) (by omega) (by omega) ?_
    refine ⟨_, rfl, l, rfl, ⟨_, SqL.of hl⟩, for_list (K := K) (a := l) (xs := us) (fun i σ H' => H' = H ∧ ∃ y z, σ = [some (.ref x), some (.ref l), y, z]) ⟨rfl, _, _, rfl⟩ (fun i σ H' _ ⟨e, _⟩ => by
      subst e
      exact SqL.of hl) ?_ ?_⟩
    · rintro i v σ H' hv ⟨rfl, y, z, rfl⟩
      obtain ⟨p, hpp, q, rfl, eq⟩ := paired_get _ hp hv
      have bd := ok.bd p (List.mem_of_getElem? hpp)
      refine ⟨q, _, rfl, SqT.of eq, rfl, unp (unp ⟨rfl, ?_⟩)⟩
      refine rdChk (gVar rfl) (gNeg (gCon (gVar rfl) hx T.cl cF rfl)) (gCon (gVar rfl) hx T.cl cF rfl) (by omega) (by omega) ?_
      exact rdChk (gVar rfl) (gNeg (gCon (gVar rfl) hx T.cl cF rfl)) (gCon (gVar rfl) hx T.cl cF rfl) (by omega) (by omega) ⟨rfl, _, _, rfl⟩
    · rintro σ H' ⟨rfl, y, z, rfl⟩
      refine ⟨_, rfl, l, us, rfl, .inl ⟨SqL.of hl, fun tp ntp => ⟨_, rfl, x, CF, dx, [], rfl, same_new ntp _ _ hx, T.cl, T.nP, by show 0 < 1000; decide, ?_⟩⟩⟩
      have hxt : x ≠ tp := ne_of_none hx ntp
      refine gFld (gVar rfl) upd_same T.cl T.nP rfl _ ?_
      have et : (upd (upd H' tp (.tup us)) x (.ins CF dx [(("points" : Str), .ref tp)])) tp = some (.tup us) := by
        rw [upd_ne (Ne.symm hxt), upd_same]
      have kt : KT H' (upd (upd H' tp (.tup us)) x (.ins CF dx [(("points" : Str), .ref tp)])) := (KT.of (same_new ntp)).trans (KT.upd (same_new ntp _ _ hx) fun _ z => by cases z)
      have sX : SameX x H' (upd (upd H' tp (.tup us)) x (.ins CF dx [(("points" : Str), .ref tp)])) := (SameX.of (same_new ntp)).trans SameX.upd
      have nX : ∀ d, (upd (upd H' tp (.tup us)) x (.ins CF dx [(("points" : Str), .ref tp)])) d = none → H' d = none := fun d e => by
        by_cases c : d = x
        · rw [c, upd_same] at e
          cases e
        · rw [upd_ne c] at e
          exact (same_new ntp).free e
      refine ⟨tp, ps, rfl, ok, ⟨us, et, Paired.upd kt hp⟩, fun hf H2 td ntd s2 htd => ?_, fun t ht H2 d u s2 nd ed ru => k2 t ht H2 d u (sX.trans (.of s2)) (nX d nd) ed ru⟩
      have ex2 := s2 _ _ (upd_same (H := upd H' tp (.tup us)) (a := x) (o := .ins CF dx [(("points" : Str), .ref tp)]))
      refine ⟨_, rfl, x, CF, dx, [(("points" : Str), .ref tp)], rfl, ex2, T.cl, T.nT, by show 1 < 1000; decide, ?_⟩
      obtain ⟨kvs, ek, hk⟩ := htd
      have xtd : td ≠ x := ne_of ek ex2 (fun z => by cases z)
      have xtp : tp ≠ x := Ne.symm hxt
      refine k1 hf _ ((sX.trans (.of s2)).trans SameX.upd) ⟨ok, dx, tp, td, us, kvs, upd_same, ?_, ?_, ?_, hk⟩
      · rw [upd_ne xtp]
        exact s2 _ _ et
      · exact Paired.upd (KT.upd ex2 fun _ z => by cases z) (Paired.upd (KT.of s2) (Paired.upd kt hp))
      · rw [upd_ne xtd]
        exact ek
end
end KB
end

section
set_option Elab.async false
set_option linter.all false
set_option maxRecDepth 100000
set_option maxHeartbeats 400000
/-! a comprehension over zip(t, u), t and u tuples -/
namespace KB
open PySem PySem.Spec PyProof.Rows L2
section
variable {α β γ : Type} {Ra : Rel α} {Rb : Rel β} {Ro : Rel γ} [Mn Ra] [Mn Rb] [Mn Ro] {H1 : Hp} {D a b : Addr} {l : List α} {m : List β} {K : PySem.W.Frag} {xs ys : List V} {f : α × β → Option γ} {g : TG} {tt : TT} {te : TE} {ws : List Nat} {σ : L2.St} {Qd : Hp → Prop}
theorem lcB_zipT (nd : H1 D = none) (ha : H1 a = some (.tup xs)) (hb : H1 b = some (.tup ys)) (pa : Paired (Ra H1) xs l) (pb : Paired (Rb H1) ys m) (hlm : l.length = m.length) (hl : l.length ≤ 100000)
    (st : ∀ x y u v T H, (x, y) ∈ l.zip m → Same H1 H → H T = some (.tup [u, v]) → Ra H u x → Rb H v y → LcStep f Ro g tt te ws σ H (.ref T) (x, y)) (hd : ∀ H, Bt Ro H1 H D ((l.zip m).filterMap f) → Qd H) :
    Rnd g tt (tApp te D) ws σ (RZ.ItzT K a b) Qd (upd H1 D (.lst [])) := by
  have hx : xs.length = l.length := pa.length
  have hy : ys.length = m.length := pb.length
  have hz : (l.zip m).length = l.length := by
    rw [List.length_zip]
    omega
  refine ⟨fun i m' H => m' = l.length - i ∧ i ≤ l.length ∧ Bt Ro H1 H D (((l.zip m).take i).filterMap f), ⟨l.length, by simp, Nat.zero_le _, Bt.start nd⟩, ?_⟩
  rintro i m' H ⟨rfl, hi, bt⟩
  have ea : SqT K H a xs := SqT.of (bt.sm _ _ ha)
  have eb : SqT K H b ys := SqT.of (bt.sm _ _ hb)
  by_cases hlt : i < l.length
  · refine .inr ⟨⟨xs, ys, xs[i], ys[i], ea, eb, by simp [hx, hlt], by simp [hy, ← hlm, hlt]⟩, fun H' => i + 1 ≤ l.length ∧ Bt Ro H1 H' D (((l.zip m).take (i + 1)).filterMap f), fun H' p' => ⟨l.length - (i + 1), by omega, rfl, p'⟩, fun x H' y => ?_⟩
    obtain ⟨T, u, v, rfl, nT, rfl, q1, q2⟩ := y
    obtain ⟨xx, e1, r1⟩ := paired_get _ pa (q1 xs ea)
    obtain ⟨yy, e2, r2⟩ := paired_get _ pb (q2 ys eb)
    have ez : (l.zip m)[i]? = some (xx, yy) := by rw [List.getElem?_zip_eq_some]; exact ⟨e1, e2⟩
    have s1 := same_new (o := .tup [u, v]) nT
    have s2 := bt.sm.trans s1
    have bt1 := bt.same s1
    rw [filterMap_take ez]
    refine st xx yy u v T _ (List.mem_of_getElem? ez) s2 upd_same (Mn.up (KT.of s2) r1) (Mn.up (KT.of s2) r2) _ _ (fun y H4 z ez s ro => ?_) fun H3 ez s => ?_
    · rw [ez]
      obtain ⟨acc, c1, c2, c3⟩ := bt1.app s ro (by
        have h1 := List.length_filterMap_le f ((l.zip m).take i)
        have h3 := List.length_take (i := i) (l := l.zip m)
        omega)
      exact ⟨acc, c1, c2, hlt, c3⟩
    · rw [ez]
      refine ⟨hlt, ?_⟩
      show Bt Ro H1 H3 D (_ ++ [])
      rw [List.append_nil]
      exact bt1.same s
  · have e : i = l.length := by omega
    subst e
    refine .inl ⟨⟨xs, ys, ea, eb, .inl (by omega)⟩, hd H ?_⟩
    rw [← hz, List.take_length] at bt
    exact bt
end
end KB
end

section
set_option Elab.async false
set_option linter.all false
set_option maxRecDepth 100000
set_option maxHeartbeats 400000
/-! over_table -/
namespace KB
open PySem PySem.Spec PyProof.Rows L2
def hz (hs : List Int) (i : Nat) : Int := hs.getD i 0
def vol (ps : List (Int × Int)) (hs : List Int) (a b c d : Nat) : Int :=
  vo (cx ps a) (cy ps a) (hz hs a) (cx ps b) (cy ps b) (hz hs b) (cx ps c) (cy ps c) (hz hs c) (cx ps d) (cy ps d) (hz hs d)
section
variable (ps : List (Int × Int)) (hs : List Int) (a b c d : Nat)
theorem vol_1 : vol ps hs a b d c = - vol ps hs a b c d := by
  simp only [vol, vo, ar]
  grind
theorem vol_2 : vol ps hs a c d b = vol ps hs a b c d := by
  simp only [vol, vo, ar]
  grind
theorem vol_3 : vol ps hs b c d a = - vol ps hs a b c d := by
  simp only [vol, vo, ar]
  grind
end
def ov (ps : List (Int × Int)) (hs : List Int) (a b c d : Nat) : Int := sg (vol ps hs a b c d) * sg (tn ps a b c)
abbrev k4 (a b c d : Nat) : List Key := [.inl a, .inl b, .inl c, .inl d]
def FO (ps : List (Int × Int)) (hs : List Int) : List Key → Option Int
  | [.inl a, .inl b, .inl c, .inl d] => some (ov ps hs a.toNat b.toNat c.toNat d.toNat)
  | _ => none
theorem FO_k (ps : List (Int × Int)) (hs : List Int) (a b c d : Nat) : FO ps hs (k4 a b c d) = some (ov ps hs a b c d) := by
  show some _ = _
  simp
def perm4 (t : T4) (k : List Key) : Prop := k = k4 t.1 t.2.1 t.2.2.1 t.2.2.2 ∨ k = k4 t.1 t.2.1 t.2.2.2 t.2.2.1 ∨ k = k4 t.1 t.2.2.1 t.2.2.2 t.2.1 ∨ k = k4 t.2.1 t.2.2.1 t.2.2.2 t.1
def level? (ps : List (Int × Int)) (hs : List Int) : Option T4 := (fours ps.length).find? fun t => decide (vol ps hs t.1 t.2.1 t.2.2.1 t.2.2.2 = 0)
structure HsOk (hs : List Int) : Prop where
  bd : ∀ h ∈ hs, -1000000000000000 ≤ h ∧ h ≤ 1000000000000000
theorem HsOk.sz {hs : List Int} (ok : HsOk hs) {i : Nat} (hi : i < hs.length) : sml (hz hs i) := by
  have e : hs.getD i 0 = hs[i] := by simp [hi]
  have := ok.bd hs[i] (List.getElem_mem hi)
  unfold sml hz
  rw [e]
  omega
def OversAt (H : Hp) (td : Addr) (ps : List (Int × Int)) (hs : List Int) : Prop := ∃ kvs, H td = some (.dT kvs) ∧ ∀ a b c d, a < b → b < c → c < ps.length → d < ps.length → d ≠ a → d ≠ b → d ≠ c → valV kvs (k4 a b c d) = some (.int (ov ps hs a b c d))
theorem fours_in {n a b c d : Nat} (h1 : a < b) (h2 : b < c) (h3 : c < d) (h4 : d < n) : (a, b, c, d) ∈ fours n := by
  unfold fours
  refine List.mem_flatMap.mpr ⟨(a, b, c), threes_in h1 h2 (by omega), ?_⟩
  unfold f4
  refine List.mem_map.mpr ⟨d - (c + 1), List.mem_range.mpr (by dsimp only; omega), ?_⟩
  dsimp only
  congr 3
  omega
theorem perm4_of {n a b c d : Nat} (h1 : a < b) (h2 : b < c) (h3 : c < n) (h4 : d < n) (da : d ≠ a) (db : d ≠ b) (dc : d ≠ c) : ∃ t ∈ fours n, perm4 t (k4 a b c d) := by
  unfold perm4
  by_cases e1 : c < d
  · exact ⟨_, fours_in h1 h2 e1 h4, .inl rfl⟩
  · by_cases e2 : b < d
    · exact ⟨_, fours_in h1 e2 (show d < c by omega) h3, .inr (.inl rfl)⟩
    · by_cases e3 : a < d
      · exact ⟨_, fours_in e3 (show d < b by omega) h2 h3, .inr (.inr (.inl rfl))⟩
      · exact ⟨_, fours_in (show d < a by omega) h1 h2 h3, .inr (.inr (.inr rfl))⟩
def RP3 : Rel (Int × Int × Int) := fun H v p => RT H v [p.1, p.2.1, p.2.2]
instance : Mn RP3 := ⟨fun k h => Mn.up (R := RT) k h⟩
def plc (ps : List (Int × Int)) (hs : List Int) : List (Int × Int × Int) := (ps.zip hs).map fun z => (z.1.1, z.1.2, z.2)
theorem plc_at {ps : List (Int × Int)} {hs : List Int} (hl : hs.length = ps.length) {i : Nat} (hi : i < ps.length) : (plc ps hs)[i]? = some (cx ps i, cy ps i, hz hs i) := by
  unfold plc cx cy hz
  have h2 : i < hs.length := by omega
  simp [hi, h2, List.getElem?_zip_eq_some]
  exact ⟨_, _, _, ⟨rfl, rfl⟩, rfl, rfl, rfl⟩
theorem paired_at {α : Type} {R : V → α → Prop} : ∀ {vs : List V} {l : List α} (i : Nat) {x : α}, Paired R vs l → l[i]? = some x → ∃ v, vs[i]? = some v ∧ R v x
  | _, _, i, _, .nil, h => by simp at h
  | _, _, 0, _, .cons r _, h => ⟨_, rfl, by
      cases h
      exact r⟩
  | _, _, i + 1, _, .cons _ t, h => paired_at i t h
theorem gPl {K : PySem.W.Frag} {σ : L2.St} {H : Hp} {t0 t1 : TE} {pl : Addr} {ps : List (Int × Int)} {hs : List Int} {i : Nat} (h0 : Gv t0 σ H (.ref pl)) (h1 : Gv t1 σ H (.int i)) (hT : LsAt RP3 H pl (plc ps hs)) (hl : hs.length = ps.length) (hi : i < ps.length) :
    ∃ a, Gv (tOp (rIxL K) t0 t1) σ H (.ref a) ∧ H a = some (.tup [.int (cx ps i), .int (cy ps i), .int (hz hs i)]) := by
  obtain ⟨vs, e, p⟩ := hT
  obtain ⟨v, ev, a, rfl, ea⟩ := paired_at i p (plc_at hl hi)
  exact ⟨a, gIxL h0 h1 (SqL.of e) (atI_nat ev), ea⟩
theorem rdVol {σ : L2.St} {H : Hp} {t1 t2 t3 t4 : TE} {p q r s : Addr} {ps : List (Int × Int)} {hs : List Int} {a b c d : Nat} (ok : PtsOk ps) (okh : HsOk hs) (hl : hs.length = ps.length) (h1 : Gv t1 σ H (.ref p)) (h2 : Gv t2 σ H (.ref q)) (h3 : Gv t3 σ H (.ref r)) (h4 : Gv t4 σ H (.ref s))
    (e1 : H p = some (.tup [.int (cx ps a), .int (cy ps a), .int (hz hs a)])) (e2 : H q = some (.tup [.int (cx ps b), .int (cy ps b), .int (hz hs b)])) (e3 : H r = some (.tup [.int (cx ps c), .int (cy ps c), .int (hz hs c)])) (e4 : H s = some (.tup [.int (cx ps d), .int (cy ps d), .int (hz hs d)]))
    (ha : a < ps.length) (hb : b < ps.length) (hd : d < ps.length) : Gv (tCall spVol [] E0 (tCons t1 (tCons t2 (tCons t3 (tCons t4 tNil))))) σ H (.int (vol ps hs a b c d)) := fun Q k =>
  h1 _ (h2 _ (h3 _ (h4 _ ⟨p, q, r, s, _, _, _, _, _, _, _, _, _, _, _, _, rfl, e1, e2, e3, e4, ⟨(ok.sx ha).1, (ok.sx ha).2, okh.sz (by omega), (ok.sx hb).1, (ok.sx hb).2, okh.sz (by omega)⟩, ⟨(ok.sx hd).1, (ok.sx hd).2, okh.sz (by omega)⟩, k⟩)))
theorem sg_small (x : Int) : CMul (sg x) y := by
  refine .inl ?_
  unfold sg
  split <;> (try split) <;> omega
theorem sgn_small (x : Int) : CMul (- sg x) y := by
  refine .inl ?_
  unfold sg
  split <;> (try split) <;> omega
def spOver (CF CP : Addr) : Sp := fun vs H Q E => ∃ (f ht : Addr) (ps : List (Int × Int)) (hs : List Int), vs = [.ref f, .ref ht] ∧ FloorAt CF ps H f ∧ H ht = some (.tup (hs.map V.int)) ∧ hs.length = ps.length ∧ HsOk hs ∧
  (level? ps hs = none → ∀ H' td, H td = none → Same H H' → OversAt H' td ps hs → Q (.ref td) H') ∧
  ∀ t, level? ps hs = some t → ∀ H' d u, Same H H' → H d = none → H' d = some (.xd [(("numbers" : Str), u)]) → R4 H' u t → E (.ref CP) (some d) H'
theorem ri_paired {H : Hp} : ∀ l : List Int, Paired (RI H) (l.map V.int) l
  | [] => .nil
  | x :: l => .cons rfl (ri_paired l)
abbrev nOT : List Str := ["floor", "heights", "places", "table", "a", "b", "c", "d", "sign", "x", "y", "height"]
theorem scOT : FnScope nOT ["floor", "heights"] (defScope (topS 42)) := ⟨rfl, rfl, rfl, by decide +kernel, rfl, by decide +kernel, by decide +kernel⟩
section
variable {P : Program} {w : World} {K : PySem.W.Frag} {mg : Str → Option Value} {base : Heap} {CF CP fX fL fT : Addr}
theorem ok_over {f f4 fV fS : Addr} {fd fd4 fdV fdS fdX fdT : FuncData} (F : Fun K "over_table" "over_table" (topS 42) f fd) (G4 : Gd K mg "all_fours" (topS 24) f4 fd4) (F4 : FnOk P w K mg base CX0 2 f4 fd4 ["many"] spFours)
    (GV : Gd K mg "quick_volume" (topS 40) fV fdV) (FV : FnOk P w K mg base CX0 2 fV fdV ["p", "q", "r", "s"] spVol) (GS : Gd K mg "sign_of" (topS 38) fS fdS) (FS : FnOk P w K mg base CX0 1 fS fdS ["value"] spSign)
    (FT : Fun K "quick_turn" "Floor.quick_turn" (clsS 63 12) fT fdT) (T : FlK K CF fL fT)
    (X : ExK K mg "OnPlane" CP fX) (FX : FnOk P w K mg base CX0 1 fX fdX ["self", "numbers"] (spEx1 CP)) (bX : Binds K fdX ["self", "numbers"] []) (mL : mg "len" = none) (mZ : mg "zip" = none) : FnOk P w K mg base (L2.CX P w) 3 f fd ["floor", "heights"] (spOver CF CP) := by
  have b4 := G4.F.binds (ps := ["many"]) fun _ _ _ _ _ _ us hl => match us, hl with | [_], _ => rfl
  have bV := GV.F.binds (ps := ["p", "q", "r", "s"]) fun _ _ _ _ _ _ us hl => match us, hl with | [_, _, _, _], _ => rfl
  have bS := GS.F.binds (ps := ["value"]) fun _ _ _ _ _ _ us hl => match us, hl with | [_], _ => rfl
  have GT : FnOk P w K mg base CX0 1 fT fdT nQT (spTurn CF) := ok_turn FT T
  have bT := FT.binds (ps := nQT) fun _ _ _ _ _ _ us hl => match us, hl with | [_, _, _, _], _ => rfl
  refine F.okX scOT (fun vs H Q E h => ?_) (fun cdv A outer s H vs Q E hr h => ⟨_,
    pss_cons (ps_setLc (i := 2) (own := [("x", 9), ("y", 10), ("height", 11)]) (tt := tYes) (g := gTup K 2 (gCons (gTup K 2 (gCons (gName 9) (gCons (gName 10) gNil))) (gCons (gName 11) gNil))) (te := tTup (tCons (tVar 9) (tCons (tVar 10) (tCons (tVar 11) tNil)))) rfl scOT.nd rfl rfl (sw_true rfl rfl rfl (by decide +kernel))
      (RZ.pi_zipA (by rfl) mZ (pa_cons (pe_fld (pv 0) rfl) (pa_cons (pv 1) pa_nil)))
      (blkOk_by (N := nOT) (sc := defScope (topS 42)) (by decide +kernel)) (fun _ _ _ _ _ => pg_tup rfl (pgs_cons (pg_tup rfl (pgs_cons (pg_name (i := 9) scOT.nd rfl (Or.inl rfl)) (pgs_cons (pg_name (i := 10) scOT.nd rfl (Or.inl rfl)) pgs_nil))) (pgs_cons (pg_name (i := 11) scOT.nd rfl (Or.inl rfl)) pgs_nil))) (fun _ _ _ _ _ => pts_nil)
      (fun _ _ _ _ _ => pe_tup (pa_cons (pv 9) (pa_cons (pv 10) (pa_cons (pv 11) pa_nil)))))
    (pss_cons (ps_set (i := 3) scOT.nd rfl (Or.inl rfl) pe_dnewT)
    (pss_cons (ps_for (passes_of rfl) rfl (pi_list (pe_call F4 (hr.mono (by decide)) rfl G4.g G4.F.kp b4 .nil pass0 (pa_cons (pe_callB call_len_seq (by rfl) mL PySem.boot_len (pa_cons (pv 2) pa_nil)) pa_nil)))
      (pg_tup rfl (pgs_cons (pg_name (i := 4) scOT.nd rfl (Or.inl rfl)) (pgs_cons (pg_name (i := 5) scOT.nd rfl (Or.inl rfl)) (pgs_cons (pg_name (i := 6) scOT.nd rfl (Or.inl rfl)) (pgs_cons (pg_name (i := 7) scOT.nd rfl (Or.inl rfl)) pgs_nil)))))
      (pss_cons (ps_set (i := 8) scOT.nd rfl (Or.inl rfl) (pe_call FS (hr.mono (by decide)) rfl GS.g GS.F.kp bS .nil pass0 (pa_cons (pe_call FV (hr.mono (by decide)) rfl GV.g GV.F.kp bV .nil pass0
          (pa_cons (pe_ix ix_list (pv 2) (pv 4) (fun _ _ => rfl)) (pa_cons (pe_ix ix_list (pv 2) (pv 5) (fun _ _ => rfl)) (pa_cons (pe_ix ix_list (pv 2) (pv 6) (fun _ _ => rfl)) (pa_cons (pe_ix ix_list (pv 2) (pv 7) (fun _ _ => rfl)) pa_nil))))) pa_nil)))
      (pss_cons (ps_if (pt_cmpR op_eq (pv 8) pe_int (nomark _)) (pss_one (ps_raise rfl (takes_of rfl rfl rfl rfl) (pmk_oex X.T X.iC X.tI FX (hr.mono (by decide)) bX .nil pass0 (by rfl) X.g (pa_cons (pe_tup (pa_cons (pv 4) (pa_cons (pv 5) (pa_cons (pv 6) (pa_cons (pv 7) pa_nil))))) pa_nil)))) pss_nil)
      (pss_cons (ps_asg (pe_op op_mul (pv 8) (pe_meth (pv 0) T.cl T.mT GT (hr.mono (by decide)) bT .nil pass0 (pa_cons (pv 4) (pa_cons (pv 5) (pa_cons (pv 6) pa_nil))))) (pg_sub (pv 3) (pe_tup (pa_cons (pv 4) (pa_cons (pv 5) (pa_cons (pv 6) (pa_cons (pv 7) pa_nil))))) (set_dict (hu_of hr))))
      (pss_cons (ps_asg (pe_op op_mul (pe_un un_neg (pv 8)) (pe_meth (pv 0) T.cl T.mT GT (hr.mono (by decide)) bT .nil pass0 (pa_cons (pv 4) (pa_cons (pv 5) (pa_cons (pv 7) pa_nil))))) (pg_sub (pv 3) (pe_tup (pa_cons (pv 4) (pa_cons (pv 5) (pa_cons (pv 7) (pa_cons (pv 6) pa_nil))))) (set_dict (hu_of hr))))
      (pss_cons (ps_asg (pe_op op_mul (pv 8) (pe_meth (pv 0) T.cl T.mT GT (hr.mono (by decide)) bT .nil pass0 (pa_cons (pv 4) (pa_cons (pv 6) (pa_cons (pv 7) pa_nil))))) (pg_sub (pv 3) (pe_tup (pa_cons (pv 4) (pa_cons (pv 6) (pa_cons (pv 7) (pa_cons (pv 5) pa_nil))))) (set_dict (hu_of hr))))
      (pss_one (ps_asg (pe_op op_mul (pe_un un_neg (pv 8)) (pe_meth (pv 0) T.cl T.mT GT (hr.mono (by decide)) bT .nil pass0 (pa_cons (pv 5) (pa_cons (pv 6) (pa_cons (pv 7) pa_nil))))) (pg_sub (pv 3) (pe_tup (pa_cons (pv 5) (pa_cons (pv 6) (pa_cons (pv 7) (pa_cons (pv 4) pa_nil))))) (set_dict (hu_of hr)))))))))))
    (pss_one (ps_ret (pv 3))))), ?_⟩)
  · obtain ⟨f, ht, ps, hs, rfl, _⟩ := h
    rfl
  · obtain ⟨f, ht, ps, hs, rfl, hF, hH, hl, okh, k1, k2⟩ := h
    have hF0 := hF
    obtain ⟨ok, dx, tp, td, vs, kvs, e1, e2, p, e3, t⟩ := hF
    have hn := ok.hi
    refine ⟨_, rfl, f, CF, dx, _, _, rfl, e1, T.cl, T.nP, rfl, _, rfl, tp, ht, vs, hs.map V.int, rfl, .inr ⟨SqT.of e2, SqT.of hH, ?_⟩⟩
    refine fun D0 nD0 => lcB_zipT (Ra := RP) (Rb := RI) (Ro := RP3) (l := ps) (m := hs) (f := fun z => some (z.1.1, z.1.2, z.2)) nD0 e2 hH p (ri_paired hs) hl.symm (by omega) ?_ fun H0 b0 => ?_
    · intro x y u v T' H2 hxy s2 eT rx ry K1 K2 h1 h2
      obtain ⟨q, rfl, eq⟩ := rx
      cases ry
      exact ⟨T', _, rfl, SqT.of eT, rfl, _, _, rfl, ⟨q, _, rfl, SqT.of eq, rfl, unp (unp ⟨rfl, unp ⟨rfl, rfl, yesI ⟨_, rfl, _, rfl, _, rfl, by show 3 ≤ sizeLine; decide, fun r nr => h1 _ _ _ rfl (same_new nr) ⟨r, rfl, upd_same⟩⟩⟩⟩)⟩⟩
    · rw [filterMap_some] at b0
      have b0 : Bt RP3 H H0 D0 (plc ps hs) := b0
      obtain ⟨v0, ev0, pv0⟩ := b0.ls
      have hv0 : v0.length = ps.length := by
        rw [pv0.length]
        unfold plc
        rw [List.length_map, List.length_zip]
        omega
      refine fun D nD => ?_
      have sD : Same H0 (upd H0 D (.dT [])) := same_new nD
      refine ⟨_, rfl, D0, v0, rfl, .inl (SqL.of (sD _ _ ev0)), ps.length, by rw [hv0]; rfl, hn, fun L H1 nL b1 => ?_⟩
      obtain ⟨us, eL, pL⟩ := b1.ls
      have s01 := b0.sm.trans (sD.trans b1.sm)
      have nDH : H D = none := b0.sm.free nD
      have eD : H1 D = some (.dT []) := b1.sm _ _ upd_same
      have nLD : L ≠ D := fun e => by
        rw [e, upd_same] at nL
        cases nL
      have lsP : LsAt RP3 H1 D0 (plc ps hs) := b0.ls.same (sD.trans b1.sm)
      have nD0D : D0 ≠ D := ne_of_none ev0 nD
      have ul : us.length = (fours ps.length).length := pL.length
      refine ⟨L, rfl, ⟨_, SqL.of eL⟩, for_list (K := K) (a := L) (xs := us) (fun i σ H' => (∃ x y z u s' x9 y9 z9, σ = [some (.ref f), some (.ref ht), some (.ref D0), some (.ref D), x, y, z, u, s', x9, y9, z9]) ∧ Tb (FO ps hs) H1 H' D (fun k => ∃ t ∈ (fours ps.length).take i, perm4 t k) (4 * i) ∧ ∀ t ∈ (fours ps.length).take i, vol ps hs t.1 t.2.1 t.2.2.1 t.2.2.2 ≠ 0)
        ⟨⟨_, _, _, _, _, _, _, _, rfl⟩, (Tb.start eD).weak (fun k ⟨t, ht, _⟩ => by simp at ht) (by simp), fun t ht => by simp at ht⟩ (fun i σ H' _ ⟨_, tb, _⟩ => SqL.of (tb.sm _ _ nLD eL)) ?_ ?_⟩
      · rintro i v σ H' hv ⟨⟨x, y, z, u, s', x9, y9, z9, rfl⟩, tb, nz⟩
        obtain ⟨⟨a, b, c, d⟩, ht4, q, rfl, eq⟩ := paired_get _ pL hv
        have nqD : q ≠ D := fun e => by
          rw [e, eD] at eq
          cases eq
        have eq' := tb.sm _ _ nqD eq
        obtain ⟨h1, h2, h3, h4⟩ := fours_up (List.mem_of_getElem? ht4)
        dsimp only at h1 h2 h3 h4 eq eq'
        have sH : Same H H' := SameX.free tb.sm s01 nDH
        have hi6 : i < (fours ps.length).length := (List.getElem?_eq_some_iff.mp ht4).1
        have h1000 := fours_le hn
        refine ⟨q, _, rfl, SqT.of eq', rfl, unp (unp (unp (unp ⟨rfl, ?_⟩)))⟩
        have hT' : LsAt RP3 H' D0 (plc ps hs) := by
          obtain ⟨w0, ew, pw⟩ := lsP
          refine ⟨w0, tb.sm _ _ nD0D ew, Paired.upd (fun b xs e => tb.sm b _ (fun eb => ?_) e) pw⟩
          rw [eb, eD] at e
          cases e
        obtain ⟨pa, ga, ea⟩ := gPl (K := K) (σ := [some (.ref f), some (.ref ht), some (.ref D0), some (.ref D), some (.int (a : Int)), some (.int (b : Int)), some (.int (c : Int)), some (.int (d : Int)), s', x9, y9, z9]) (t0 := tVar 2) (t1 := tVar 4) (gVar rfl) (gVar rfl) hT' hl (show a < ps.length by omega)
        obtain ⟨pb, gb, eb⟩ := gPl (K := K) (σ := [some (.ref f), some (.ref ht), some (.ref D0), some (.ref D), some (.int (a : Int)), some (.int (b : Int)), some (.int (c : Int)), some (.int (d : Int)), s', x9, y9, z9]) (t0 := tVar 2) (t1 := tVar 5) (gVar rfl) (gVar rfl) hT' hl (show b < ps.length by omega)
        obtain ⟨pc, gc, ec⟩ := gPl (K := K) (σ := [some (.ref f), some (.ref ht), some (.ref D0), some (.ref D), some (.int (a : Int)), some (.int (b : Int)), some (.int (c : Int)), some (.int (d : Int)), s', x9, y9, z9]) (t0 := tVar 2) (t1 := tVar 6) (gVar rfl) (gVar rfl) hT' hl (show c < ps.length by omega)
        obtain ⟨pd, gd, edd⟩ := gPl (K := K) (σ := [some (.ref f), some (.ref ht), some (.ref D0), some (.ref D), some (.int (a : Int)), some (.int (b : Int)), some (.int (c : Int)), some (.int (d : Int)), s', x9, y9, z9]) (t0 := tVar 2) (t1 := tVar 7) (gVar rfl) (gVar rfl) hT' hl (show d < ps.length by omega)
        refine rdVol ok okh hl ga gb gc gd ea eb ec edd (by omega) (by omega) (by omega) _ ⟨_, rfl, tEqI (gVar rfl) gC (fun c0 => ?_) fun c0 => ?_⟩
        · have z0 : vol ps hs a b c d = 0 := (sg_zero _).mp c0
          refine ⟨_, rfl, _, rfl, _, rfl, _, rfl, by show 4 ≤ sizeLine; decide, fun p np => rdRaise1 fun H9 d9 s9 nd ed => k2 (a, b, c, d) ?_ H9 d9 _ (sH.trans ((same_new np).trans s9)) (sH.free ((same_new np).free nd)) ed ⟨p, rfl, s9 _ _ upd_same⟩⟩
          refine List.find?_eq_some_iff_append.mpr ⟨decide_eq_true z0, (fours ps.length).take i, (fours ps.length).drop (i + 1), ?_, fun t ht => by simp [nz t ht]⟩
          have e1 := List.take_append_drop i (fours ps.length)
          rw [List.drop_eq_getElem_cons hi6] at e1
          have e2 : (fours ps.length)[i] = (a, b, c, d) := by
            have := List.getElem?_eq_getElem hi6
            rw [ht4] at this
            exact (Option.some.inj this).symm
          rw [e2] at e1
          exact e1.symm
        · have z0 : vol ps hs a b c d ≠ 0 := fun e => c0 ((sg_zero _).mpr e)
          have f1 := FO_k ps hs a b c d
          have f2 := FO_k ps hs a b d c
          have f3 := FO_k ps hs a c d b
          have f4 := FO_k ps hs b c d a
          unfold ov at f1 f2 f3 f4
          rw [vol_1, sg_neg] at f2
          rw [vol_2] at f3
          rw [vol_3, sg_neg] at f4
          have s4 : 4 ≤ sizeLine := by decide
          have hF' := hF0.same sH
          refine ⟨_, rfl, rdTurn (gVar rfl) (gVar rfl) (gVar rfl) (gVar rfl) hF' (by omega) (by omega) (by omega) (by omega) (by omega) (by omega) fun H2 t2 => ⟨_, _, rfl, rfl, sg_small _, ?_⟩⟩
          refine rdPut (k := k4 a b c d) (tb.same t2) (by omega) (gVar rfl) (fun Q q => ⟨_, rfl, _, rfl, _, rfl, _, rfl, q⟩) s4 f1 fun H3 tb3 => ?_
          refine ⟨_, rfl, _, rfl, rdTurn (gVar rfl) (gVar rfl) (gVar rfl) (gVar rfl) (hF0.same (SameX.free tb3.sm s01 nDH)) (by omega) (by omega) (by omega) (by omega) (by omega) (by omega) fun H4 t4 => ⟨_, _, rfl, rfl, sgn_small _, ?_⟩⟩
          refine rdPut (k := k4 a b d c) (tb3.same t4) (by omega) (gVar rfl) (fun Q q => ⟨_, rfl, _, rfl, _, rfl, _, rfl, q⟩) s4 f2 fun H5 tb5 => ?_
          refine ⟨_, rfl, rdTurn (gVar rfl) (gVar rfl) (gVar rfl) (gVar rfl) (hF0.same (SameX.free tb5.sm s01 nDH)) (by omega) (by omega) (by omega) (by omega) (by omega) (by omega) fun H6 t6 => ⟨_, _, rfl, rfl, sg_small _, ?_⟩⟩
          refine rdPut (k := k4 a c d b) (tb5.same t6) (by omega) (gVar rfl) (fun Q q => ⟨_, rfl, _, rfl, _, rfl, _, rfl, q⟩) s4 f3 fun H7 tb7 => ?_
          refine ⟨_, rfl, _, rfl, rdTurn (gVar rfl) (gVar rfl) (gVar rfl) (gVar rfl) (hF0.same (SameX.free tb7.sm s01 nDH)) (by omega) (by omega) (by omega) (by omega) (by omega) (by omega) fun H8 t8 => ⟨_, _, rfl, rfl, sgn_small _, ?_⟩⟩
          refine rdPut (k := k4 b c d a) (tb7.same t8) (by omega) (gVar rfl) (fun Q q => ⟨_, rfl, _, rfl, _, rfl, _, rfl, q⟩) s4 f4 fun H9 tb9 => ?_
          rw [take_snoc ht4]
          refine ⟨⟨_, _, _, _, _, _, _, _, rfl⟩, tb9.weak (fun k ⟨t, htk, hk⟩ => ?_) (by omega), fun t htk => ?_⟩
          · rcases List.mem_append.mp htk with h | h
            · exact .inr (.inr (.inr (.inr ⟨t, h, hk⟩)))
            · rw [List.mem_singleton] at h
              subst h
              rcases hk with h | h | h | h
              · exact .inr (.inr (.inr (.inl h)))
              · exact .inr (.inr (.inl h))
              · exact .inr (.inl h)
              · exact .inl h
          · rcases List.mem_append.mp htk with h | h
            · exact nz t h
            · rw [List.mem_singleton] at h
              subst h
              exact z0
      · rintro σ H' ⟨⟨x, y, z, u, s', x9, y9, z9, rfl⟩, tb, nz⟩
        rw [ul, List.take_length] at nz tb
        have sH : Same H H' := SameX.free tb.sm s01 nDH
        obtain ⟨kvs, e, l, r1, r2⟩ := tb.ex
        refine ⟨_, rfl, k1 (List.find?_eq_none.mpr fun t ht => by simp [nz t ht]) H' D nDH sH ⟨kvs, e, fun a b c d ha hb hc hd da db dc => ?_⟩⟩
        have hk := r2 (k4 a b c d) (perm4_of ha hb hc hd da db dc)
        cases ev : valV kvs (k4 a b c d) with
        | none => exact absurd ev hk
        | some v =>
          obtain ⟨i, hi, rfl⟩ := r1 _ _ ev
          rw [FO_k] at hi
          cases hi
          rfl
end
end KB
end

section
set_option Elab.async false
set_option linter.all false
set_option maxRecDepth 100000
set_option maxHeartbeats 400000
/-! bowls: their state, quick_over, len, Raised.__init__ -/
namespace KB
open PySem PySem.Spec PyProof.Rows L2
structure BowlAt (CF CB : Addr) (ps : List (Int × Int)) (hs : List Int) (H : Hp) (b f : Addr) : Prop where
  okh : HsOk hs
  len : hs.length = ps.length
  fl : FloorAt CF ps H f
  ex : ∃ dx ht od, H b = some (.ins CB dx [("floor", .ref f), ("heights", .ref ht), ("_overs", .ref od)]) ∧ H ht = some (.tup (hs.map V.int)) ∧ OversAt H od ps hs
theorem BowlAt.up {CF CB : Addr} {ps : List (Int × Int)} {hs : List Int} {H H' : Hp} {b f : Addr} (h : BowlAt CF CB ps hs H b f) (k : KL H H') : BowlAt CF CB ps hs H' b f := by
  obtain ⟨o, l, fl, dx, ht, od, e1, e2, kvs, e3, t⟩ := h
  exact ⟨o, l, fl.up k, dx, ht, od, k _ _ e1 (fun _ z => by cases z), k _ _ e2 (fun _ z => by cases z), kvs, k _ _ e3 (fun _ z => by cases z), t⟩
theorem BowlAt.same {CF CB : Addr} {ps : List (Int × Int)} {hs : List Int} {H H' : Hp} {b f : Addr} (h : BowlAt CF CB ps hs H b f) (s : Same H H') : BowlAt CF CB ps hs H' b f := h.up (.of s)
structure BwK (K : PySem.W.Frag) (CB fL fO : Addr) : Prop where
  cl : Cls K CB
  nF : NoAttr K CB "floor"
  nH : NoAttr K CB "heights"
  nO : NoAttr K CB "_overs"
  mO : BMeth K CB "quick_over" fO
  ln : LenC K CB fL
  cH : ∃ u, Con K CB "HIGH" (.int 1000000000000000) u
def spLenR (CF CB : Addr) : Sp := fun vs H Q _ => ∃ b f ps hs, vs = [.ref b] ∧ BowlAt CF CB ps hs H b f ∧ Q (.int (ps.length : Nat)) H
def spOvr (CF CB : Addr) : Sp := fun vs H Q _ => ∃ (r f : Addr) (ps : List (Int × Int)) (hs : List Int) (a b c d : Nat), vs = [.ref r, .int a, .int b, .int c, .int d] ∧ BowlAt CF CB ps hs H r f ∧ (a < b ∧ b < c ∧ c < ps.length ∧ d < ps.length ∧ d ≠ a ∧ d ≠ b ∧ d ≠ c) ∧
  ∀ H', Same H H' → Q (.int (ov ps hs a b c d)) H'
theorem scLenR : FnScope ["self"] ["self"] (defScope (clsS 45 2)) := ⟨rfl, rfl, rfl, by decide +kernel, rfl, by decide +kernel, by decide +kernel⟩
abbrev nQO : List Str := ["self", "a", "b", "c", "d"]
theorem scOvr : FnScope nQO nQO (defScope (clsS 45 5)) := ⟨rfl, rfl, rfl, by decide +kernel, rfl, by decide +kernel, by decide +kernel⟩
def spRaised (CF CB CP : Addr) : Sp := fun vs H Q E => ∃ (x f l dx : Addr) (ps : List (Int × Int)) (hs : List Int), vs = [.ref x, .ref f, .ref l] ∧ H x = some (.ins CB dx []) ∧ FloorAt CF ps H f ∧ H l = some (.lst (hs.map V.int)) ∧ hs.length = ps.length ∧ HsOk hs ∧
  (level? ps hs = none → ∀ H', SameX x H H' → BowlAt CF CB ps hs H' x f → Q .non H') ∧
  ∀ t, level? ps hs = some t → ∀ H' d u, SameX x H H' → H d = none → H' d = some (.xd [(("numbers" : Str), u)]) → R4 H' u t → E (.ref CP) (some d) H'
abbrev nRI : List Str := ["self", "floor", "heights", "height"]
theorem scRI : FnScope nRI ["self", "floor", "heights"] (defScope (clsS 45 1)) := ⟨rfl, rfl, rfl, by decide +kernel, rfl, by decide +kernel, by decide +kernel⟩
section
variable {P : Program} {w : World} {K : PySem.W.Frag} {mg : Str → Option Value} {base : Heap} {CF CB CP fL fT fLR fO : Addr}
theorem ok_lenR {fd : FuncData} (F : Fun K "__len__" "Raised.__len__" (clsS 45 2) fLR fd) (B : BwK K CB fLR fO) (mL : mg "len" = none) : FnOk P w K mg base CX0 1 fLR fd ["self"] (spLenR CF CB) := by
  refine F.ok scLenR (fun vs H Q E h => ?_) (fun cdv A outer s H vs Q E hr h => ⟨_, pss_one (ps_ret (pe_callB call_len_seq (by rfl) mL PySem.boot_len (pa_cons (pe_fld (pv 0) rfl) pa_nil))), ?_⟩)
  · obtain ⟨b, f, ps, hs, rfl, _⟩ := h
    rfl
  · obtain ⟨b, f, ps, hs, rfl, ⟨o, l, fl, dx, ht, od, e1, e2, e3⟩, k⟩ := h
    refine ⟨_, rfl, b, CB, dx, _, _, rfl, e1, B.cl, B.nH, rfl, ht, _, rfl, .inr (SqT.of e2), ?_⟩
    rw [List.length_map, l]
    exact k
theorem ok_ovr {fd : FuncData} (F : Fun K "quick_over" "Raised.quick_over" (clsS 45 5) fO fd) (B : BwK K CB fLR fO) : FnOk P w K mg base CX0 1 fO fd nQO (spOvr CF CB) := by
  refine F.ok scOvr (fun vs H Q E h => ?_) (fun cdv A outer s H vs Q E hr h => ⟨_, pss_one (ps_ret (pe_dget (hu_of hr) (pe_fld (pv 0) rfl) (pe_tup (pa_cons (pv 1) (pa_cons (pv 2) (pa_cons (pv 3) (pa_cons (pv 4) pa_nil))))) (fun _ _ => rfl))), ?_⟩)
  · obtain ⟨r, f, ps, hs, a, b, c, d, rfl, _⟩ := h
    rfl
  · obtain ⟨r, f, ps, hs, a, b, c, d, rfl, ⟨o, l, fl, dx, ht, od, e1, e2, kvs, e3, t⟩, ⟨h1, h2, h3, h4, h5, h6, h7⟩, k⟩ := h
    refine ⟨_, rfl, r, CB, dx, _, _, rfl, e1, B.cl, B.nO, rfl, _, rfl, _, rfl, _, rfl, _, rfl, by show 4 ≤ sizeLine; decide, fun u nu => ⟨od, _, rfl, ?_, k _ (same_new nu)⟩⟩
    rw [← t a b c d h1 h2 h3 h4 h5 h6 h7]
    exact DGet.t (same_new nu _ _ e3) upd_same
theorem ok_raised {f fC fR fOt : Addr} {fd fdC fdR fdO fdL : FuncData} (F : Fun K "__init__" "Raised.__init__" (clsS 45 1) f fd) (GC : Gd K mg "check_count" (topS 17) fC fdC) (GR : Gd K mg "check_range" (topS 16) fR fdR) (GO : Gd K mg "over_table" (topS 42) fOt fdO)
    (FO : FnOk P w K mg base (L2.CX P w) 3 fOt fdO ["floor", "heights"] (spOver CF CP)) (FL : Fun K "__len__" "Floor.__len__" (clsS 63 5) fL fdL) (T : FlK K CF fL fT) (B : BwK K CB fLR fO) (mL : mg "len" = none) (mT : mg "tuple" = none) :
    FnOk P w K mg base (L2.CX P w) 4 f fd ["self", "floor", "heights"] (spRaised CF CB CP) := by
  have FC : FnOk P w K mg base CX0 1 fC fdC ["many", "low", "high"] spChk := ok_count GC.F
  have FR : FnOk P w K mg base CX0 1 fR fdR ["value", "low", "high"] spChk := ok_range GR.F
  have bC := GC.F.binds (ps := ["many", "low", "high"]) fun _ _ _ _ _ _ us hl => match us, hl with | [_, _, _], _ => rfl
  have bR := GR.F.binds (ps := ["value", "low", "high"]) fun _ _ _ _ _ _ us hl => match us, hl with | [_, _, _], _ => rfl
  have bO := GO.F.binds (ps := ["floor", "heights"]) fun _ _ _ _ _ _ us hl => match us, hl with | [_, _], _ => rfl
  have GL : FnOk P w K mg base CX0 1 fL fdL ["self"] (spLenF CF) := ok_lenF FL T mL
  have bL := FL.binds (ps := ["self"]) fun _ _ _ _ _ _ us hl => match us, hl with | [_], _ => rfl
  obtain ⟨uH, cH⟩ := B.cH
  refine F.okX scRI (fun vs H Q E h => ?_) (fun cdv A outer s H vs Q E hr h => ⟨_,
    pss_cons (ps_expr (pe_call FC (hr.mono (by decide)) rfl GC.g GC.F.kp bC .nil pass0 (pa_cons (pe_callB call_len_seq (by rfl) mL PySem.boot_len (pa_cons (pv 2) pa_nil))
      (pa_cons (pe_callB (call_lenO T.ln GL (hr.mono (by decide)) bL pass0) (by rfl) mL PySem.boot_len (pa_cons (pv 1) pa_nil)) (pa_cons (pe_callB (call_lenO T.ln GL (hr.mono (by decide)) bL pass0) (by rfl) mL PySem.boot_len (pa_cons (pv 1) pa_nil)) pa_nil)))))
    (pss_cons (ps_for (passes_of rfl) rfl (pi_list (pv 2)) (pg_name (i := 3) scRI.nd rfl (Or.inl rfl))
      (pss_one (ps_expr (pe_call FR (hr.mono (by decide)) rfl GR.g GR.F.kp bR .nil pass0 (pa_cons (pv 3) (pa_cons (pe_un un_neg (pe_con (pv 0) rfl)) (pa_cons (pe_con (pv 0) rfl) pa_nil)))))))
    (pss_cons (ps_fld (pv 0) (pv 1) rfl)
    (pss_cons (ps_fld (pv 0) (pe_callTy call_tuple_of (by rfl) mT (by decide +kernel) (pa_cons (pv 2) pa_nil)) rfl)
    (pss_one (ps_fld (pv 0) (pe_call FO hr rfl GO.g GO.F.kp bO .nil (passes_call (E := E) (takes_of rfl rfl rfl rfl) fun _ _ _ _ h => h) (pa_cons (pv 1) (pa_cons (pe_fld (pv 0) rfl) pa_nil))) rfl))))), ?_⟩)
  · obtain ⟨x, f, l, dx, ps, hs, rfl, _⟩ := h
    rfl
  · obtain ⟨x, f, l, dx, ps, hs, rfl, hx, hF, hl, hn, okh, k1, k2⟩ := h
    have o2 := hF.ok.hi
    refine rdChk (i := (hs.length : Int)) (lo := (ps.length : Int)) (hi := (ps.length : Int)) (fun Q q => ⟨_, rfl, l, hs.map V.int, rfl, .inl (SqL.of hl), by rw [List.length_map]; exact q⟩) (gLenF (gVar rfl) hF) (gLenF (gVar rfl) hF) (by omega) (by omega) ?_
    refine ⟨_, rfl, l, rfl, ⟨_, SqL.of hl⟩, for_list (K := K) (a := l) (xs := hs.map V.int) (fun i σ H' => H' = H ∧ ∃ y, σ = [some (.ref x), some (.ref f), some (.ref l), y]) ⟨rfl, _, rfl⟩ (fun i σ H' _ ⟨e, _⟩ => by
      subst e
      exact SqL.of hl) ?_ ?_⟩
    · rintro i v σ H' hv ⟨rfl, y, rfl⟩
      obtain ⟨z, hzz, rfl⟩ : ∃ z, hs[i]? = some z ∧ v = V.int z := by
        rw [List.getElem?_map] at hv
        cases e : hs[i]? with
        | none =>
          rw [e] at hv
          cases hv
        | some z =>
          rw [e] at hv
          exact ⟨z, rfl, (Option.some.inj hv).symm⟩
      have bd := okh.bd z (List.mem_of_getElem? hzz)
      exact rdChk (gVar rfl) (gNeg (gCon (gVar rfl) hx B.cl cH rfl)) (gCon (gVar rfl) hx B.cl cH rfl) (by omega) (by omega) ⟨rfl, _, rfl⟩
    · rintro σ H' ⟨rfl, y, rfl⟩
      refine ⟨_, rfl, _, rfl, x, CB, dx, [], rfl, hx, B.cl, B.nF, by show 0 < 1000; decide, ?_⟩
      have hlx : l ≠ x := ne_of hl hx (fun z => by cases z)
      have el1 : (upd H' x (.ins CB dx [(("floor" : Str), .ref f)])) l = some (.lst (hs.map V.int)) := by
        rw [upd_ne hlx]
        exact hl
      refine ⟨_, rfl, l, _, rfl, .inl ⟨SqL.of el1, fun ht nht => ⟨_, rfl, x, CB, dx, [(("floor" : Str), .ref f)], rfl, same_new nht _ _ upd_same, B.cl, B.nH, by show 1 < 1000; decide, ?_⟩⟩⟩
      have hxt : x ≠ ht := ne_of_none (upd_same (H := H') (a := x) (o := .ins CB dx [(("floor" : Str), .ref f)])) nht
      have nht0 : H' ht = none := by
        rw [upd_ne (Ne.symm hxt)] at nht
        exact nht
      generalize hH2 : (upd (upd (upd H' x (.ins CB dx (putF "floor" (.ref f) []))) ht (.tup (hs.map V.int))) x (.ins CB dx (putF "heights" (.ref ht) [(("floor" : Str), .ref f)]))) = H2
      have ex2 : H2 x = some (.ins CB dx [(("floor" : Str), .ref f), ("heights", .ref ht)]) := by
        rw [← hH2, upd_same]
        rfl
      have et2 : H2 ht = some (.tup (hs.map V.int)) := by
        rw [← hH2, upd_ne (Ne.symm hxt), upd_same]
      have sX : SameX x H' H2 := by
        rw [← hH2]
        intro b o n e
        rw [upd_ne n, upd_ne (ne_of_none e nht0), upd_ne n]
        exact e
      have nX : ∀ d, H2 d = none → H' d = none := fun d e => by
        by_cases c : d = x
        · rw [c, ex2] at e
          cases e
        · cases q : H' d with
          | none => rfl
          | some o =>
            rw [sX d o c q] at e
            cases e
      have fl2 : FloorAt CF ps H2 f := by
        obtain ⟨ok, dx', tp, td, vs, kvs, e1, e2, p, e3, t⟩ := hF
        have nf : ∀ q, q ≠ x → KT H' H2 := fun _ _ b xs e => sX b _ (ne_of e hx fun z => by cases z) e
        have kt : KT H' H2 := fun b xs e => sX b _ (ne_of e hx fun z => by cases z) e
        refine ⟨ok, dx', tp, td, vs, kvs, sX _ _ ?_ e1, kt _ _ e2, Paired.upd kt p, sX _ _ (ne_of e3 hx fun z => by cases z) e3, t⟩
        exact ne_of e1 hx fun z => by cases z
      refine ⟨_, rfl, _, rfl, x, CB, dx, _, _, rfl, ex2, B.cl, B.nH, rfl, f, ht, ps, hs, rfl, fl2, et2, hn, okh, fun hlv H3 od nod s3 hod => ?_, fun t htt H3 d u s3 nd ed ru => k2 t htt H3 d u (sX.trans (.of s3)) (nX d nd) ed ru⟩
      have ex3 := s3 _ _ ex2
      refine ⟨_, rfl, x, CB, dx, _, rfl, ex3, B.cl, B.nO, by show 2 < 1000; decide, ?_⟩
      obtain ⟨kvs, ek, hk⟩ := hod
      have fl3 := fl2.same s3
      have fl4 : FloorAt CF ps (upd H3 x (.ins CB dx (putF "_overs" (.ref od) [(("floor" : Str), .ref f), ("heights", .ref ht)]))) f := by
        obtain ⟨ok, dx', tp, td, vs, kvs', e1, e2, p, e3, t⟩ := fl3
        have e1' : f ≠ x := by
          obtain ⟨ok', dx2, tp2, td2, vs2, kvs2, e12, _⟩ := hF
          exact ne_of e12 hx fun z => by cases z
        have kt : KT H3 (upd H3 x (.ins CB dx (putF "_overs" (.ref od) [(("floor" : Str), .ref f), ("heights", .ref ht)]))) := KT.upd ex3 fun _ z => by cases z
        refine ⟨ok, dx', tp, td, vs, kvs', ?_, kt _ _ e2, Paired.upd kt p, ?_, t⟩
        · rw [upd_ne e1']
          exact e1
        · rw [upd_ne (ne_of e3 ex3 fun z => by cases z)]
          exact e3
      refine k1 hlv _ ((sX.trans (.of s3)).trans SameX.upd) ⟨okh, hn, fl4, dx, ht, od, upd_same, ?_, kvs, ?_, hk⟩
      · rw [upd_ne (Ne.symm hxt)]
        exact s3 _ _ et2
      · rw [upd_ne (ne_of ek ex3 fun z => by cases z)]
        exact ek
end
end KB
end

section
set_option Elab.async false
set_option linter.all false
set_option maxRecDepth 100000
set_option maxHeartbeats 400000
/-! high_pairs, first_high -/
namespace KB
open PySem PySem.Spec PyProof.Rows L2
/-- a triangle and an inner point -/
def TriP (n : Nat) (x : List Nat × Nat) : Prop := ∃ a b c, x.1 = [a, b, c] ∧ a < b ∧ b < c ∧ c < n ∧ x.2 < n ∧ x.2 ≠ a ∧ x.2 ≠ b ∧ x.2 ≠ c
theorem one_eq {l : List Nat} {x : Nat} (h : one? l = some x) : l = [x] := by
  match l, h with
  | [y], h =>
    cases h
    rfl
theorem fst_sub {ps : List (Int × Int)} {q : T4} {x : Nat} (h : x ∈ fstP ps q) : x ∈ asL q := by
  obtain ⟨y, hy, e⟩ := List.mem_filterMap.mp h
  split at e
  · cases e
    exact hy
  · cases e
theorem snd_sub {ps : List (Int × Int)} {q : T4} {x : Nat} (h : x ∈ sndP ps q) : x ∈ asL q := by
  obtain ⟨y, hy, e⟩ := List.mem_filterMap.mp h
  split at e
  · cases e
  · cases e
    exact hy
theorem inner_in {ps : List (Int × Int)} {q : T4} {x : Nat} (h : inner ps q = some x) : x ∈ asL q := by
  unfold inner at h
  cases e : one? (fstP ps q) with
  | some y =>
    rw [e] at h
    cases h
    exact fst_sub (ps := ps) (by rw [one_eq e]; exact List.mem_singleton.mpr rfl)
  | none =>
    rw [e] at h
    exact snd_sub (ps := ps) (by rw [one_eq h]; exact List.mem_singleton.mpr rfl)
theorem pair_tri {ps : List (Int × Int)} {q : T4} {n : Nat} {x : List Nat × Nat} (u : up4 q n) (h : pairOf ps q = some x) : TriP n x := by
  unfold pairOf at h
  cases e : inner ps q with
  | none =>
    rw [e] at h
    cases h
  | some y =>
    rw [e] at h
    cases h
    obtain ⟨a, b, c, d⟩ := q
    obtain ⟨h1, h2, h3, h4⟩ := u
    dsimp only at h1 h2 h3 h4
    have hm := inner_in e
    simp only [asL, List.mem_cons, List.mem_nil_iff, or_false] at hm
    rcases hm with rfl | rfl | rfl | rfl
    · refine ⟨b, c, d, ?_, h2, h3, h4, by dsimp only; omega, by dsimp only; omega, by dsimp only; omega, by dsimp only; omega⟩
      simp [asL, show ¬ b = y by omega, show ¬ c = y by omega, show ¬ d = y by omega]
    · refine ⟨a, c, d, ?_, by omega, h3, h4, by dsimp only; omega, by dsimp only; omega, by dsimp only; omega, by dsimp only; omega⟩
      simp [asL, show ¬ a = y by omega, show ¬ c = y by omega, show ¬ d = y by omega]
    · refine ⟨a, b, d, ?_, h1, by omega, h4, by dsimp only; omega, by dsimp only; omega, by dsimp only; omega, by dsimp only; omega⟩
      simp [asL, show ¬ a = y by omega, show ¬ b = y by omega, show ¬ d = y by omega]
    · refine ⟨a, b, c, ?_, h1, h2, by omega, by dsimp only; omega, by dsimp only; omega, by dsimp only; omega, by dsimp only; omega⟩
      simp [asL, show ¬ a = y by omega, show ¬ b = y by omega, show ¬ c = y by omega]
theorem pairsS_tri {ps : List (Int × Int)} {x : List Nat × Nat} (h : x ∈ pairsS ps) : TriP ps.length x := by
  unfold pairsS at h
  have h := List.mem_mergeSort.mp h
  obtain ⟨q, hq, e⟩ := List.mem_filterMap.mp h
  exact pair_tri (fours_up hq) e
def ovP (ps : List (Int × Int)) (hs : List Int) (x : List Nat × Nat) : Int := match x.1 with
  | [a, b, c] => ov ps hs a b c x.2
  | _ => 0
def highL (ps : List (Int × Int)) (hs : List Int) : List (List Nat × Nat) := (pairsS ps).filterMap fun x => if ovP ps hs x = 1 then some x else none
theorem pairs_le {ps : List (Int × Int)} (h : ps.length ≤ 10) : (pairsS ps).length ≤ 10000 := by
  unfold pairsS
  rw [List.length_mergeSort]
  exact Nat.le_trans (List.length_filterMap_le _ _) (fours_le h)
def spHighs (CF CB : Addr) : Sp := fun vs H Q _ => ∃ (r f : Addr) (ps : List (Int × Int)) (hs : List Int), vs = [.ref r] ∧ BowlAt CF CB ps hs H r f ∧ ∀ H' p, H p = none → Bt RPair H H' p (highL ps hs) → Q (.ref p) H'
def spFirst (CF CB : Addr) : Sp := fun vs H Q _ => ∃ (r f : Addr) (ps : List (Int × Int)) (hs : List Int), vs = [.ref r] ∧ BowlAt CF CB ps hs H r f ∧ ∀ H' v, Same H H' → ROpt RPair H' v (highL ps hs).head? → Q v H'
abbrev nHP : List Str := ["raised", "pairs", "triangle", "number"]
theorem scHP : FnScope nHP ["raised"] (defScope (topS 55)) := ⟨rfl, rfl, rfl, by decide +kernel, rfl, by decide +kernel, by decide +kernel⟩
theorem scFH : FnScope ["raised", "pairs"] ["raised"] (defScope (topS 56)) := ⟨rfl, rfl, rfl, by decide +kernel, rfl, by decide +kernel, by decide +kernel⟩
theorem methBSK {X : Cx} {CX : CXT} {k : Nat} {C g : Addr} {fd : FuncData} {ps : List Str} {m : Str} {sp : Sp} {E : XK} {o e1 e2 : Expr} {ta t1 t2 : TE} {p apos pos : Pos} (K : PySem.W.Frag) (hK : X.K = K) (he : PE X o ta) (c : Cls X.K C) (b : BMeth X.K C m g) (F : FnOk X.prog X.w X.K X.mg X.base CX k g fd ps sp) (hr : Room k X.A)
    (hb : Binds X.K fd ps []) (hx : Passes CX X E) (h1 : PE X e1 t1) (h2 : PE X e2 t2) (hbase : attributeBase o m X.env (eval o X.env) = eval o X.env := by rfl)
    (hst : starEach [.Starred e1 p, e2] X.env = [(true, eval e1 X.env), (false, eval e2 X.env)] := by rfl) : PE X (.Call (.Attribute o m apos) [.Starred e1 p, e2] [] pos) (tMethBS K C m g sp E ta t1 t2) := by
  subst hK
  exact pe_methBS he c b F hr hb hx h1 h2 hbase hst
section
variable {P : Program} {w : World} {K : PySem.W.Frag} {mg : Str → Option Value} {base : Heap} {CF CB fLR fO : Addr}
theorem ok_highs {f fP : Addr} {fd fdP fdO : FuncData} (F : Fun K "high_pairs" "high_pairs" (topS 55) f fd) (GP : Gd K mg "inner_pairs" (topS 29) fP fdP) (FP : FnOk P w K mg base CX0 5 fP fdP ["floor"] (spPairs CF))
    (FO : Fun K "quick_over" "Raised.quick_over" (clsS 45 5) fO fdO) (B : BwK K CB fLR fO) : FnOk P w K mg base CX0 6 f fd ["raised"] (spHighs CF CB) := by
  have GO : FnOk P w K mg base CX0 1 fO fdO nQO (spOvr CF CB) := ok_ovr FO B
  have bO := FO.binds (ps := nQO) fun _ _ _ _ _ _ us hl => match us, hl with | [_, _, _, _, _], _ => rfl
  have bP := GP.F.binds (ps := ["floor"]) fun _ _ _ _ _ _ us hl => match us, hl with | [_], _ => rfl
  refine F.ok scHP (fun vs H Q E h => ?_) (fun cdv A outer s H vs Q E hr h => ⟨_,
    pss_cons (ps_set (i := 1) scHP.nd rfl (Or.inl rfl) (pe_call FP hr rfl GP.g GP.F.kp bP .nil pass0 (pa_cons (pe_fld (pv 0) rfl) pa_nil)))
    (pss_one (ps_ret (pe_lc (own := [("triangle", 2), ("number", 3)]) (g := gTup K 2 (gCons (gName 2) (gCons (gName 3) gNil))) (tt := tTest (tOp rEq (tMethBS K CB "quick_over" fO (spOvr CF CB) E0 (tVar 0) (tVar 2) (tVar 3)) (tC (.int 1)))) (te := tTup (tCons (tVar 2) (tCons (tVar 3) tNil)))
      rfl scHP.nd (pi_list (pv 1)) (blkOk_by (N := nHP) (sc := defScope (topS 55)) (by decide +kernel))
      (fun _ _ _ _ _ => pg_tup rfl (pgs_cons (pg_name (i := 2) scHP.nd rfl (Or.inl rfl)) (pgs_cons (pg_name (i := 3) scHP.nd rfl (Or.inl rfl)) pgs_nil)))
      (fun _ _ _ _ _ => pts_one (pt_cmpR op_eq (methBSK K rfl (pv 0) B.cl B.mO GO (hr.mono (by decide)) bO pass0 (pv 2) (pv 3)) pe_int (nomark _))) (fun _ _ _ _ _ => pe_tup (pa_cons (pv 2) (pa_cons (pv 3) pa_nil)))))), ?_⟩)
  · obtain ⟨r, f, ps, hs, rfl, _⟩ := h
    rfl
  · obtain ⟨r, f, ps, hs, rfl, hB, k⟩ := h
    have hB0 := hB
    obtain ⟨o, l, fl, dx, ht, od, e1, e2, e3⟩ := hB
    have hn := fl.ok.hi
    refine ⟨_, rfl, r, CB, dx, _, _, rfl, e1, B.cl, B.nF, rfl, f, ps, rfl, fl, fun H1 p np b1 => ?_⟩
    obtain ⟨v1, ev1, p1⟩ := b1.ls
    refine ⟨_, rfl, p, rfl, ⟨_, SqL.of ev1⟩, fun D nD => lcB_list (Ri := RPair) (Ro := RPair) (l := pairsS ps) (f := fun x => if ovP ps hs x = 1 then some x else none) nD (SqL.of ev1) p1 (Nat.le_trans (pairs_le hn) (by decide)) ?_ ?_⟩
    · intro x v H2 hx s2 rr K1 K2 h1 h2
      obtain ⟨q, u, rfl, eq, t, rfl, et⟩ := rr
      obtain ⟨a, b, c, ex, hab, hbc, hc, hd, da, db, dc⟩ := pairsS_tri hx
      rw [ex] at et
      have hB2 := hB0.same (b1.sm.trans s2)
      have eb := (b1.sm.trans s2) _ _ e1
      refine ⟨q, _, rfl, SqT.of eq, rfl, unp (unp ⟨rfl, rfl, ?_⟩)⟩
      refine ⟨_, rfl, r, dx, _, rfl, eb, rfl, fun z nz => ⟨_, rfl, t, _, rfl, .inl (SqT.of (same_new nz _ _ et)), _, rfl, upd_same, r, f, ps, hs, a, b, c, x.2, rfl, hB2.same (same_new nz), ⟨hab, hbc, hc, hd, da, db, dc⟩, fun H3 s3 => ?_⟩⟩
      have s23 := (same_new (o := .met fO r) nz).trans s3
      have eov : ovP ps hs x = ov ps hs a b c x.2 := by
        unfold ovP
        rw [ex]
      refine ⟨rfl, _, rfl, itD (fun c0 => ?_) fun c0 => ?_⟩
      · have c1 : ovP ps hs x = 1 := by
          rw [eov]
          exact V.int.inj c0
        refine ⟨_, rfl, _, rfl, by show 2 ≤ sizeLine; decide, fun y ny => h1 _ _ x (if_pos c1) (s23.trans (same_new ny)) ⟨y, .ref t, rfl, upd_same, t, rfl, ?_⟩⟩
        rw [ex]
        exact (s23.trans (same_new ny)) _ _ et
      · refine h2 _ (if_neg fun c1 => c0 ?_) s23
        rw [eov] at c1
        rw [c1]
    · intro H2 b2
      exact k H2 D (b1.sm.free nD) (b2.from_ b1.sm)
theorem shp_pairs : ∀ l : List (List Nat × Nat), PyData.canLayAll0 (l.map encP) = true
  | [] => rfl
  | x :: l => by
    have e : ∀ m : List Int, PyData.canLayAll0 (m.map .int) = true := fun m => by
      induction m with
      | nil => rfl
      | cons a m ih =>
        rw [List.map_cons, PyData.canLayAll0, ih]
        rfl
    rw [List.map_cons, PyData.canLayAll0, shp_pairs l, encP, PyData.canLay0, PyData.canLayAll0, PyData.canLay0, e]
    rfl
theorem dep_pairs : ∀ l : List (List Nat × Nat), PyData.depthAll (l.map encP) ≤ 2
  | [] => by simp [PyData.depthAll]
  | x :: l => by
    have := dep_pairs l
    have e : (encP x).depth ≤ 2 := by
      simp only [encP, PyData.depth, PyData.depthAll, PySem.W.depth_ints]
      decide
    rw [List.map_cons, PyData.depthAll]
    omega
theorem dpAll_pairs {H : Hp} : ∀ {vs : List V} {l : List (List Nat × Nat)}, Paired (RPair H) vs l → DpAll K H vs (l.map encP)
  | _, _, .nil => .nil
  | _, _, .cons r t => .cons (dp_pair r) (dpAll_pairs t)
theorem ok_first {f fP : Addr} {fd fdP : FuncData} (F : Fun K "first_high" "first_high" (topS 56) f fd) (GP : Gd K mg "high_pairs" (topS 55) fP fdP) (FP : FnOk P w K mg base CX0 6 fP fdP ["raised"] (spHighs CF CB)) :
    FnOk P w K mg base CX0 7 f fd ["raised"] (spFirst CF CB) := by
  have bP := GP.F.binds (ps := ["raised"]) fun _ _ _ _ _ _ us hl => match us, hl with | [_], _ => rfl
  refine F.ok scFH (fun vs H Q E h => ?_) (fun cdv A outer s H vs Q E hr h => ⟨_,
    pss_cons (ps_set (i := 1) scFH.nd rfl (Or.inl rfl) (pe_call FP hr rfl GP.g GP.F.kp bP .nil pass0 (pa_cons (pv 0) pa_nil)))
    (pss_cons (ps_if (pt_cmpR (op_eqD hr.units) (pv 1) (pe_lst pa_nil) (nomark _)) (pss_one (ps_ret pe_non)) pss_nil)
    (pss_one (ps_ret (pe_ix ix_list (pv 1) pe_int (fun _ _ => rfl))))), ?_⟩)
  · obtain ⟨r, f, ps, hs, rfl, _⟩ := h
    rfl
  · obtain ⟨r, f, ps, hs, rfl, hB, k⟩ := h
    refine ⟨_, rfl, r, f, ps, hs, rfl, hB, fun H1 p np b1 => ?_⟩
    obtain ⟨v1, ev1, p1⟩ := b1.ls
    refine ⟨_, rfl, by show 0 ≤ sizeLine; decide, fun z nz => ?_⟩
    have s1 := same_new (o := .lst []) nz
    have p2 := Paired.upd (KT.of s1) p1
    refine ⟨.list ((highL ps hs).map encP), .list [], .lst (SqL.of (s1 _ _ ev1)) (dpAll_pairs p2), .lst (SqL.of upd_same) .nil, ?_, rfl, _, rfl, ?_⟩
    · unfold SeqAt.shaped
      rw [PyData.canLay0, shp_pairs, PyData.depth]
      have := dep_pairs (highL ps hs)
      simp
      omega
    · cases e : highL ps hs with
      | nil =>
        refine iteT (k _ _ (b1.sm.trans s1) ?_)
        rw [e]
        rfl
      | cons x l =>
        rw [e] at p2
        obtain ⟨v, ev, rv⟩ := paired_at 0 p2 rfl
        refine iteF ⟨_, rfl, p, _, 0, v, rfl, rfl, SqL.of (s1 _ _ ev1), atI_nat (j := 0) ev, k _ _ (b1.sm.trans s1) ?_⟩
        rw [e]
        exact rv
end
end KB
end

section
set_option Elab.async false
set_option linter.all false
set_option maxRecDepth 100000
set_option maxHeartbeats 400000
/-! Bowl.__init__ -/
namespace KB
open PySem PySem.Spec PyProof.Rows L2 NdefX
def spBowl (CF CB CP CN : Addr) : Sp := fun vs H Q E => ∃ (x f l dx : Addr) (ps : List (Int × Int)) (hs : List Int), vs = [.ref x, .ref f, .ref l] ∧ H x = some (.ins CB dx []) ∧ FloorAt CF ps H f ∧ H l = some (.lst (hs.map V.int)) ∧ hs.length = ps.length ∧ HsOk hs ∧
  (level? ps hs = none → (highL ps hs).head? = none → ∀ H', SameX x H H' → BowlAt CF CB ps hs H' x f → Q .non H') ∧
  (∀ t, level? ps hs = some t → ∀ H' d u, SameX x H H' → H d = none → H' d = some (.xd [(("numbers" : Str), u)]) → R4 H' u t → E (.ref CP) (some d) H') ∧
  (level? ps hs = none → ∀ y, (highL ps hs).head? = some y → ∀ H' d u, SameX x H H' → H d = none → H' d = some (.xd [(("number" : Str), .int y.2), (("triangle" : Str), u)]) → RNs H' u y.1 → E (.ref CN) (some d) H')
abbrev nBI : List Str := ["self", "floor", "heights", "__class__", "high", "triangle", "number"]
theorem scBI : NScope nBI ["self", "floor", "heights"] ["__class__"] (defScope (clsS 60 0)) := nscope_by (by decide +kernel)
theorem rdRaise2 {C : Addr} {y z : V} {H : Hp} {W : Value → Option Addr → Hp → Prop} (h : ∀ H' d, Same H H' → H d = none → H' d = some (.xd [(("number" : Str), z), (("triangle" : Str), y)]) → W (.ref C) (some d) H') :
    [y, z].length ≤ 1000 ∧ ∀ a, H a = none → spEx2 C (.ref a :: ([y, z] ++ [])) (upd H a (exo a C none)) (fun v H2 => v = .non ∧ ∃ (d : Addr) (fs : List (Str × V)), H2 a = some (exo a C (some d)) ∧ H2 d = some (exd d fs) ∧ H d = none ∧ W (.ref C) (some d) (upd (del H2 a) d (.xd fs))) (fun _ _ _ => False) := by
  refine ⟨by show 2 ≤ 1000; decide, fun a na => ⟨a, y, z, rfl, upd_same, fun d nd ne => ⟨rfl, d, [(("number" : Str), z), (("triangle" : Str), y)], ?_, upd_same, ?_, h _ d (fun b o e => ?_) ?_ upd_same⟩⟩⟩
  · rw [upd_ne (Ne.symm ne), upd_same]
  · rw [upd_ne ne] at nd
    exact nd
  · have hba : b ≠ a := ne_of_none e na
    rw [upd_ne ne] at nd
    have hbd : b ≠ d := ne_of_none e nd
    rw [upd_ne hbd, del_ne hba, upd_ne hbd, upd_ne hba, upd_ne hbd, upd_ne hba]
    exact e
  · rw [upd_ne ne] at nd
    exact nd
section
variable {P : Program} {w : World} {K : PySem.W.Frag} {mg : Str → Option Value} {base : Heap} {CF CB CP CN fLR fO fXN : Addr}
theorem ok_bowl {f fR fH cc c : Addr} {fd fdR fdH fdXN : FuncData} (M : MSup P K mg CB "self" "__init__" "Bowl.__init__" (clsS 60 0) f fd cc c) (mro : PySem.W.mroIn K CB (.ref CB) = some true) (sup : PySem.W.ks_superIn K CB CB "__init__" = some (some (.ref fR)))
    (tR : PySem.W.typeIn K (.ref fR) = some (.type "function")) (nR : PySem.W.fnIn K fR = true) (FR : FnOk P w K mg base (L2.CX P w) 4 fR fdR ["self", "floor", "heights"] (spRaised CF CB CP)) (bR : Binds K fdR ["self", "floor", "heights"] [])
    (GH : Gd K mg "first_high" (topS 56) fH fdH) (FH : FnOk P w K mg base CX0 7 fH fdH ["raised"] (spFirst CF CB)) (XN : ExK K mg "NotBowl" CN fXN) (FX : FnOk P w K mg base CX0 1 fXN fdXN ["self", "triangle", "number"] (spEx2 CN)) (bX : Binds K fdXN ["self", "triangle", "number"] []) :
    FnOk P w K mg base (L2.CX P w) 8 f fd ["self", "floor", "heights"] (spBowl CF CB CP CN) := by
  have bH := GH.F.binds (ps := ["raised"]) fun _ _ _ _ _ _ us hl => match us, hl with | [_], _ => rfl
  obtain ⟨oc, od, sl, doc, pm, ctv, lk, hfd⟩ := M.lk
  refine fn_sup lk hfd M.U scBI (fun vs H Q E h => ?_) rfl (fun A outer s H vs Q E hr h => ⟨_, _,
    psa_supM (E2 := E) M.U rfl rfl mro M.an sup tR nR FR (hr.mono (by decide)) bR (passes_call (E := E) (takes_of rfl rfl rfl rfl) fun _ _ _ _ h => h) (pa_cons (pv 1) (pa_cons (pv 2) pa_nil)),
    pss_cons (ps_set (i := 4) scBI.nd rfl (Or.inl rfl) (pe_call FH hr rfl GH.g GH.F.kp bH .nil pass0 (pa_cons (pv 0) pa_nil)))
    (pss_one (ps_if (pt_cmpR op_notN (pv 4) pe_non (nomark _))
      (pss_cons (ps_asg (pv 4) (pg_tup rfl (pgs_cons (pg_name (i := 5) scBI.nd rfl (Or.inl rfl)) (pgs_cons (pg_name (i := 6) scBI.nd rfl (Or.inl rfl)) pgs_nil))))
      (pss_one (ps_raise rfl (takes_of rfl rfl rfl rfl) (pmk_oex XN.T XN.iC XN.tI FX (hr.mono (by decide)) bX .nil pass0 (by rfl) XN.g (pa_cons (pv 5) (pa_cons (pv 6) pa_nil)))))) pss_nil)), ?_⟩)
  · obtain ⟨x, f, l, dx, ps, hs, rfl, _⟩ := h
    rfl
  · obtain ⟨x, f, l, dx, ps, hs, rfl, hx, hF, hl, hn, okh, k1, k2, k3⟩ := h
    refine ⟨x, dx, [], rfl, hx, _, rfl, _, rfl, x, f, l, dx, ps, hs, rfl, hx, hF, hl, hn, okh, fun hlv H1 s1 hB => ?_, k2⟩
    refine ⟨_, rfl, x, f, ps, hs, rfl, hB, fun H2 v s2 rv => ?_⟩
    cases e : (highL ps hs).head? with
    | none =>
      rw [e] at rv
      cases rv
      exact ⟨_, rfl, rfl, _, rfl, k1 hlv e H2 (s1.trans (.of s2)) (hB.same s2)⟩
    | some y =>
      rw [e] at rv
      obtain ⟨q, u, rfl, eq, ru⟩ := rv
      have nX : ∀ d, H2 d = none → H d = none := fun d ed => by
        have ed1 := s2.free ed
        by_cases c : d = x
        · obtain ⟨o, l, fl, dx', ht, od, e1, e2, e3⟩ := hB
          rw [c, e1] at ed1
          cases ed1
        · cases q : H d with
          | none => rfl
          | some o =>
            rw [s1 d o c q] at ed1
            cases ed1
      refine ⟨_, rfl, rfl, _, rfl, _, rfl, q, _, rfl, SqT.of eq, rfl, unp (unp ⟨rfl, _, rfl, _, rfl, rdRaise2 fun H9 d s9 nd ed => k3 hlv y e H9 d u ((s1.trans (.of s2)).trans (.of s9)) (nX d nd) ed (Mn.up (KT.of s9) ru)⟩)⟩
end
end KB
end

section
set_option Elab.async false
set_option linter.all false
set_option maxRecDepth 100000
set_option maxHeartbeats 400000
/-! beyond; tables by comprehension; walks over a table's keys -/
namespace KB
open PySem PySem.Spec PyProof.Rows L2
/-- the points other than a triangle's -/
def rest3 (n : Nat) (t : T3) : List Nat := (List.range n).filterMap fun d => if d = t.1 ∨ d = t.2.1 ∨ d = t.2.2 then none else some d
def beyL (ps : List (Int × Int)) (hs : List Int) (t : T3) (side : Int) : List Nat := (rest3 ps.length t).filterMap fun d => if ov ps hs t.1 t.2.1 t.2.2 d = side then some d else none
theorem rest3_mem {n d : Nat} {t : T3} (h : d ∈ rest3 n t) : d < n ∧ d ≠ t.1 ∧ d ≠ t.2.1 ∧ d ≠ t.2.2 := by
  obtain ⟨y, hy, e⟩ := List.mem_filterMap.mp h
  rw [List.mem_range] at hy
  split at e
  · cases e
  · cases e
    omega
theorem rest3_le (n : Nat) (t : T3) : (rest3 n t).length ≤ n := by
  have := List.length_filterMap_le (fun d => if d = t.1 ∨ d = t.2.1 ∨ d = t.2.2 then none else some d) (List.range n)
  rw [List.length_range] at this
  exact this
theorem beyL_le (ps : List (Int × Int)) (hs : List Int) (t : T3) (side : Int) : (beyL ps hs t side).length ≤ ps.length := Nat.le_trans (List.length_filterMap_le _ _) (rest3_le _ _)
def spBeyond (CF CB : Addr) : Sp := fun vs H Q _ => ∃ (r f u : Addr) (ps : List (Int × Int)) (hs : List Int) (t : T3) (side : Int), vs = [.ref r, .ref u, .int side] ∧ BowlAt CF CB ps hs H r f ∧ R3 H (.ref u) t ∧ (t.1 < t.2.1 ∧ t.2.1 < t.2.2 ∧ t.2.2 < ps.length) ∧
  ∀ H' p, H p = none → Bt RN H H' p (beyL ps hs t side) → Q (.ref p) H'
abbrev nBy : List Str := ["raised", "triangle", "side", "a", "b", "c", "others", "d"]
theorem scBy : FnScope nBy ["raised", "triangle", "side"] (defScope (topS 44)) := ⟨rfl, rfl, rfl, by decide +kernel, rfl, by decide +kernel, by decide +kernel⟩
theorem opNotIn (K : PySem.W.Frag) {X : Cx} (h : X.K = K) : OpR X (compareOp .NotIn) (rIn K true) := by
  subst h
  exact op_notIn_seq
section
variable {P : Program} {w : World} {K : PySem.W.Frag} {mg : Str → Option Value} {base : Heap} {CF CB fLR fO : Addr}
theorem gLenR {σ : L2.St} {H : Hp} {ta : TE} {r f : Addr} {ps : List (Int × Int)} {hs : List Int} (h0 : Gv ta σ H (.ref r)) (hB : BowlAt CF CB ps hs H r f) : Gv (tCB (rLenO CB (spLenR CF CB) E0) (tCons ta tNil)) σ H (.int (ps.length : Nat)) := fun Q q => by
  have hB' := hB
  obtain ⟨o, l, fl, dx, ht, od, e1, e2, e3⟩ := hB
  have := fl.ok.hi
  exact h0 _ ⟨r, dx, _, rfl, e1, r, f, ps, hs, rfl, hB', _, rfl, ⟨by omega, by omega⟩, q⟩
theorem rdOvr {σ : L2.St} {H : Hp} {Q : VK} {ta t1 t2 t3 t4 : TE} {r f : Addr} {ps : List (Int × Int)} {hs : List Int} {a b c d : Nat} (h0 : Gv ta σ H (.ref r)) (h1 : Gv t1 σ H (.int a)) (h2 : Gv t2 σ H (.int b)) (h3 : Gv t3 σ H (.int c)) (h4 : Gv t4 σ H (.int d)) (hB : BowlAt CF CB ps hs H r f)
    (hab : a < b) (hbc : b < c) (hc : c < ps.length) (hd : d < ps.length) (da : d ≠ a) (db : d ≠ b) (dc : d ≠ c) (q : ∀ H', Same H H' → Q (.int (ov ps hs a b c d)) H') :
    tMeth CB "quick_over" (spOvr CF CB) [] E0 ta (tCons t1 (tCons t2 (tCons t3 (tCons t4 tNil)))) σ H Q := by
  have hB' := hB
  obtain ⟨o, l, fl, dx, ht, od, e1, e2, e3⟩ := hB
  exact h0 _ ⟨r, dx, _, rfl, e1, rfl, h1 _ (h2 _ (h3 _ (h4 _ ⟨r, f, ps, hs, a, b, c, d, rfl, hB', ⟨hab, hbc, hc, hd, da, db, dc⟩, q⟩)))⟩
theorem ok_beyond {f : Addr} {fd fdO fdL : FuncData} (F : Fun K "beyond" "beyond" (topS 44) f fd) (FO : Fun K "quick_over" "Raised.quick_over" (clsS 45 5) fO fdO) (FL : Fun K "__len__" "Raised.__len__" (clsS 45 2) fLR fdL) (B : BwK K CB fLR fO) (mL : mg "len" = none) (mR : mg "range" = none) :
    FnOk P w K mg base CX0 3 f fd ["raised", "triangle", "side"] (spBeyond CF CB) := by
  have GO : FnOk P w K mg base CX0 1 fO fdO nQO (spOvr CF CB) := ok_ovr FO B
  have bO := FO.binds (ps := nQO) fun _ _ _ _ _ _ us hl => match us, hl with | [_, _, _, _, _], _ => rfl
  have GL : FnOk P w K mg base CX0 1 fLR fdL ["self"] (spLenR CF CB) := ok_lenR FL B mL
  have bL := FL.binds (ps := ["self"]) fun _ _ _ _ _ _ us hl => match us, hl with | [_], _ => rfl
  refine F.ok scBy (fun vs H Q E h => ?_) (fun cdv A outer s H vs Q E hr h => ⟨_,
    pss_cons (ps_asg (pv 1) (pg_tup rfl (pgs_cons (pg_name (i := 3) scBy.nd rfl (Or.inr rfl)) (pgs_cons (pg_name (i := 4) scBy.nd rfl (Or.inr rfl)) (pgs_cons (pg_name (i := 5) scBy.nd rfl (Or.inr rfl)) pgs_nil)))))
    (pss_cons (ps_setLc (i := 6) (own := [("d", 7)]) (g := gName 7) (tt := tTest (tOp (rIn K true) (tVar 7) (tVar 1))) rfl scBy.nd rfl rfl (sw_true rfl rfl rfl (by decide +kernel))
      (pi_range1 (by rfl) mR (pa_cons (pe_callB (call_lenO B.ln GL (hr.mono (by decide)) bL pass0) (by rfl) mL PySem.boot_len (pa_cons (pv 0) pa_nil)) pa_nil))
      (blkOk_by (N := nBy) (sc := defScope (topS 44)) (by decide +kernel)) (fun _ _ _ _ _ => pg_name (i := 7) scBy.nd rfl (Or.inl rfl)) (fun _ _ _ _ _ => pts_one (pt_cmpR (opNotIn K rfl) (pv 7) (pv 1) (by rfl))) (fun _ _ _ _ _ => pv 7))
    (pss_one (ps_ret (pe_lc (own := [("d", 7)]) (g := gName 7) (tt := tTest (tOp rEq (tMeth CB "quick_over" (spOvr CF CB) [] E0 (tVar 0) (tCons (tVar 3) (tCons (tVar 4) (tCons (tVar 5) (tCons (tVar 7) tNil))))) (tVar 2))) rfl scBy.nd (pi_list (pv 6))
      (blkOk_by (N := nBy) (sc := defScope (topS 44)) (by decide +kernel)) (fun _ _ _ _ _ => pg_name (i := 7) scBy.nd rfl (Or.inl rfl))
      (fun _ _ _ _ _ => pts_one (pt_cmpR op_eq (pe_meth (pv 0) B.cl B.mO.mt GO (hr.mono (by decide)) bO .nil pass0 (pa_cons (pv 3) (pa_cons (pv 4) (pa_cons (pv 5) (pa_cons (pv 7) pa_nil))))) (pv 2) (nomark _))) (fun _ _ _ _ _ => pv 7))))), ?_⟩)
  · obtain ⟨r, f, u, ps, hs, t, side, rfl, _⟩ := h
    rfl
  · obtain ⟨r, f, u, ps, hs, ⟨a, b, c⟩, side, rfl, hB, ⟨u', eu', eu⟩, ⟨hab, hbc, hc⟩, k⟩ := h
    cases eu'
    dsimp only at hab hbc hc
    have hn := hB.fl.ok.hi
    refine ⟨_, rfl, u, _, rfl, SqT.of eu, rfl, unp (unp (unp ⟨rfl, ?_⟩))⟩
    refine gLenR (gVar rfl) hB _ ⟨_, rfl, by omega, by omega, fun D nD => lcB_range (Ro := RN) (n := ((ps.length : Nat) : Int).toNat) (f := fun d => if d = a ∨ d = b ∨ d = c then none else some d) nD (by omega) (fun i H1 hi s1 K1 K2 h1 h2 => ?_) fun H1 b1 => ?_⟩
    · refine ⟨rfl, _, rfl, _, rfl, u, _, rfl, .inr (SqT.of (s1 _ _ eu)), rfl, rfl, _, rfl, ?_⟩
      have e : inV (V.int (0 + (i : Int))) [V.int (a : Int), .int b, .int c] = decide (i = a ∨ i = b ∨ i = c) := by
        simp only [inV, List.any_cons, List.any_nil, Bool.or_false, eqV]
        rw [Bool.eq_iff_iff]
        simp
        omega
      show if (!inV (V.int (0 + (i : Int))) [V.int (a : Int), .int b, .int c]) = true then _ else _
      rw [e]
      by_cases c0 : i = a ∨ i = b ∨ i = c
      · rw [decide_eq_true c0]
        exact iteF (h2 _ (if_pos c0) (Same.refl _))
      · rw [decide_eq_false c0]
        refine iteT ⟨_, rfl, h1 _ _ i (if_neg c0) (Same.refl _) ?_⟩
        show V.int (0 + (i : Int)) = V.int i
        rw [Int.zero_add]
    · have en : ((ps.length : Nat) : Int).toNat = ps.length := by omega
      rw [en] at b1
      have b1 : Bt RN H H1 D (rest3 ps.length (a, b, c)) := b1
      obtain ⟨v1, e1, p1⟩ := b1.ls
      refine ⟨_, rfl, D, rfl, ⟨_, SqL.of e1⟩, fun D2 nD2 => lcB_list (Ri := RN) (Ro := RN) (l := rest3 ps.length (a, b, c)) (f := fun d => if ov ps hs a b c d = side then some d else none) nD2 (SqL.of e1) p1 (by have := rest3_le ps.length (a, b, c); omega) (fun d v H2 hd s2 r2 K1 K2 h1 h2 => ?_) fun H2 b2 => ?_⟩
      · cases r2
        obtain ⟨hd1, hd2, hd3, hd4⟩ := rest3_mem hd
        refine ⟨rfl, rdOvr (gVar rfl) (gVar rfl) (gVar rfl) (gVar rfl) (gVar rfl) (hB.same (b1.sm.trans s2)) hab hbc hc hd1 hd2 hd3 hd4 fun H3 s3 => ⟨_, rfl, rfl, _, rfl, itD (fun c0 => ?_) fun c0 => ?_⟩⟩
        · exact ⟨_, rfl, h1 _ _ d (if_pos (V.int.inj c0)) s3 rfl⟩
        · exact h2 _ (if_neg fun c1 => c0 (by rw [c1])) s3
      · exact k H2 D2 (b1.sm.free nD2) (b2.from_ b1.sm)
end
end KB
end

section
set_option Elab.async false
set_option linter.all false
set_option maxRecDepth 100000
set_option maxHeartbeats 400000
/-! plane_counts -/
namespace KB
open PySem PySem.Spec PyProof.Rows L2
structure Bd (H0 H : Hp) (D : Addr) (kvs : List (List Key × V)) : Prop where
  nd : H0 D = none
  sm : Same H0 H
  e : H D = some (.dT kvs)
section
variable {H0 H H1 : Hp} {D : Addr} {kvs : List (List Key × V)}
theorem Bd.start (nd : H0 D = none) : Bd H0 (upd H0 D (.dT [])) D [] := ⟨nd, same_new nd, upd_same⟩
theorem Bd.same (b : Bd H0 H D kvs) (s : Same H H1) : Bd H0 H1 D kvs := ⟨b.nd, b.sm.trans s, s _ _ b.e⟩
theorem Bd.put (b : Bd H0 H D kvs) (s : Same H H1) {k : List Key} {z : V} (n : valV kvs k = none) : Bd H0 (upd H1 D (.dT (putK kvs k z))) D (kvs ++ [(k, z)]) := by
  rw [putK_new z n]
  exact ⟨b.nd, same_upd b.nd (b.sm.trans s), upd_same⟩
theorem Bd.from_ (b : Bd H1 H D kvs) (s : Same H0 H1) : Bd H0 H D kvs := ⟨s.free b.nd, s.trans b.sm, b.e⟩
end
def lt3 (s t : T3) : Prop := s.1 < t.1 ∨ (s.1 = t.1 ∧ (s.2.1 < t.2.1 ∨ (s.2.1 = t.2.1 ∧ s.2.2 < t.2.2)))
theorem pw_range {R : Nat → Nat → Prop} (n : Nat) (h : ∀ i j, i < j → j < n → R i j) : (List.range n).Pairwise R := by
  rw [List.pairwise_iff_getElem]
  intro i j hi hj hij
  rw [List.length_range] at hi hj
  simpa using h i j hij hj
theorem threes_lt (n : Nat) : (threes n).Pairwise lt3 := by
  unfold threes
  rw [List.pairwise_flatMap]
  refine ⟨fun a ha => ?_, pw_range n fun i j hij hj s hs t ht => ?_⟩
  · unfold t3b
    rw [List.pairwise_flatMap]
    refine ⟨fun b hb => ?_, pw_range _ fun i j hij hj s hs t ht => ?_⟩
    · unfold t3c
      rw [List.pairwise_map]
      refine pw_range _ fun i j hij hj => .inr ⟨rfl, .inr ⟨rfl, ?_⟩⟩
      dsimp only
      omega
    · obtain ⟨c, _, rfl⟩ := List.mem_map.mp hs
      obtain ⟨c', _, rfl⟩ := List.mem_map.mp ht
      exact .inr ⟨rfl, .inl (by dsimp only; omega)⟩
  · obtain ⟨b, _, hs⟩ := List.mem_flatMap.mp hs
    obtain ⟨c, _, rfl⟩ := List.mem_map.mp hs
    obtain ⟨b', _, ht⟩ := List.mem_flatMap.mp ht
    obtain ⟨c', _, rfl⟩ := List.mem_map.mp ht
    exact .inl hij
theorem valV_none {κ : Type} [DecidableEq κ] {kvs : List (κ × V)} {k : κ} (h : ∀ p ∈ kvs, p.1 ≠ k) : valV kvs k = none := by
  unfold valV
  rw [List.find?_eq_none.mpr fun p hp => by simpa using h p hp]
  rfl
def kT (t : T3) : List Key := k3 t.1 t.2.1 t.2.2
theorem kT_inj {s t : T3} (h : kT s = kT t) : s = t := by
  obtain ⟨a, b, c⟩ := s
  obtain ⟨a', b', c'⟩ := t
  simp only [kT, List.cons.injEq, Sum.inl.injEq, and_true] at h
  obtain ⟨h1, h2, h3⟩ := h
  simp only [Prod.mk.injEq]
  omega
theorem threes_new {n i : Nat} {t : T3} (h : (threes n)[i]? = some t) : ∀ s ∈ (threes n).take i, s ≠ t := by
  intro s hs e
  subst e
  obtain ⟨j, hj, ej⟩ := List.mem_iff_getElem.mp hs
  have hi := (List.getElem?_eq_some_iff.mp h)
  obtain ⟨hi1, hi2⟩ := hi
  rw [List.length_take] at hj
  have p := List.pairwise_iff_getElem.mp (threes_lt n) j i (by omega) hi1 (by omega)
  rw [List.getElem_take] at ej
  rw [ej, hi2] at p
  unfold lt3 at p
  omega
def cntL (ps : List (Int × Int)) (hs : List Int) (l : List T3) : List (List Key × V) := l.map fun t => (kT t, V.int ((beyL ps hs t (-1)).length : Nat))
def spCounts (CF CB : Addr) : Sp := fun vs H Q _ => ∃ (r f : Addr) (ps : List (Int × Int)) (hs : List Int), vs = [.ref r] ∧ BowlAt CF CB ps hs H r f ∧ ∀ H' D, H D = none → Bd H H' D (cntL ps hs (threes ps.length)) → Q (.ref D) H'
abbrev nPC : List Str := ["raised", "triangle"]
theorem scPC : FnScope nPC ["raised"] (defScope (topS 47)) := ⟨rfl, rfl, rfl, by decide +kernel, rfl, by decide +kernel, by decide +kernel⟩
theorem lenSeq (K : PySem.W.Frag) {X : Cx} (h : X.K = K) : CallR X (.builtin "len") (fun xs H Q => ∃ p ys, xs = [.ref p] ∧ (SqL K H p ys ∨ SqT K H p ys) ∧ Q (.int ys.length) H) := by
  subst h
  exact call_len_seq
section
variable {P : Program} {w : World} {K : PySem.W.Frag} {mg : Str → Option Value} {base : Heap} {CF CB fLR fO : Addr}
theorem ok_counts {f f3 fB : Addr} {fd fd3 fdB fdL : FuncData} (F : Fun K "plane_counts" "plane_counts" (topS 47) f fd) (G3 : Gd K mg "all_threes" (topS 23) f3 fd3) (F3 : FnOk P w K mg base CX0 1 f3 fd3 ["many"] spThrees)
    (GB : Gd K mg "beyond" (topS 44) fB fdB) (FB : FnOk P w K mg base CX0 3 fB fdB ["raised", "triangle", "side"] (spBeyond CF CB)) (FL : Fun K "__len__" "Raised.__len__" (clsS 45 2) fLR fdL) (B : BwK K CB fLR fO) (mL : mg "len" = none) :
    FnOk P w K mg base CX0 4 f fd ["raised"] (spCounts CF CB) := by
  have b3 := G3.F.binds (ps := ["many"]) fun _ _ _ _ _ _ us hl => match us, hl with | [_], _ => rfl
  have bB := GB.F.binds (ps := ["raised", "triangle", "side"]) fun _ _ _ _ _ _ us hl => match us, hl with | [_, _, _], _ => rfl
  have GL : FnOk P w K mg base CX0 1 fLR fdL ["self"] (spLenR CF CB) := ok_lenR FL B mL
  have bL := FL.binds (ps := ["self"]) fun _ _ _ _ _ _ us hl => match us, hl with | [_], _ => rfl
  refine F.ok scPC (fun vs H Q E h => ?_) (fun cdv A outer s H vs Q E hr h => ⟨_,
    pss_one (ps_ret (pe_dcT1 (own := [("triangle", 1)]) (g0 := gName 1) (tt0 := tYes) (tv := tCB (fun xs H Q => ∃ p ys, xs = [.ref p] ∧ (SqL K H p ys ∨ SqT K H p ys) ∧ Q (.int ys.length) H) (tCons (tCall (spBeyond CF CB) [] E0 (tCons (tVar 0) (tCons (tVar 1) (tCons (tUn (rU fun i => .int (-i)) (tC (.int 1))) tNil)))) tNil)) rfl (hu_of hr) scPC.nd
      (pi_list (pe_call F3 (hr.mono (by decide)) rfl G3.g G3.F.kp b3 .nil pass0 (pa_cons (pe_callB (call_lenO B.ln GL (hr.mono (by decide)) bL pass0) (by rfl) mL PySem.boot_len (pa_cons (pv 0) pa_nil)) pa_nil)))
      (blkOk_by (N := nPC) (sc := defScope (topS 47)) (by decide +kernel)) (fun _ _ _ _ _ => pg_name (i := 1) scPC.nd rfl (Or.inl rfl)) (fun _ _ _ _ _ => pts_nil)
      (fun _ _ _ _ _ => pv 1) (fun _ _ _ _ _ => pe_callB (lenSeq K rfl) (by rfl) mL PySem.boot_len (pa_cons (pe_call FB hr rfl GB.g GB.F.kp bB .nil pass0 (pa_cons (pv 0) (pa_cons (pv 1) (pa_cons (pe_un un_neg pe_int) pa_nil)))) pa_nil)))), ?_⟩)
  · obtain ⟨r, f, ps, hs, rfl, _⟩ := h
    rfl
  · obtain ⟨r, f, ps, hs, rfl, hB, k⟩ := h
    have hn := hB.fl.ok.hi
    refine gLenR (gVar rfl) hB _ ⟨_, rfl, hn, fun p H1 np b1 => ?_⟩
    obtain ⟨v1, e1, p1⟩ := b1.ls
    have hv1 : v1.length = (threes ps.length).length := p1.length
    refine ⟨p, rfl, ⟨_, SqL.of e1⟩, fun D nD => cl_list (K := K) (a := p) (xs := v1) (fun i H => Bd H1 H D (cntL ps hs ((threes ps.length).take i))) (Bd.start nD) (fun i H _ b => b.sm.seq (SqL.of e1)) (fun i v H2 hv b => ?_) fun H2 b => ?_⟩
    · obtain ⟨t, ht, q, rfl, eq⟩ := paired_get _ p1 hv
      have hm := threes_mem (List.mem_of_getElem? ht)
      have eq2 := b.sm _ _ eq
      refine ⟨rfl, yesI ⟨_, rfl, _, rfl, _, rfl, _, rfl, r, f, q, ps, hs, t, -1, rfl, hB.same (b1.sm.trans b.sm), ⟨q, rfl, eq2⟩, hm, fun H3 u nu b3 => ?_⟩⟩
      obtain ⟨v3, e3, p3⟩ := b3.ls
      have hv3 : v3.length = (beyL ps hs t (-1)).length := p3.length
      refine ⟨u, v3, rfl, .inl (SqL.of e3), q, cntL ps hs ((threes ps.length).take i), kT t, rfl, b3.sm _ _ eq2, b3.sm _ _ b.e, ?_, ?_⟩
      · have h3 := threes_le hn
        have : (cntL ps hs ((threes ps.length).take i)).length ≤ 1000 := by
          unfold cntL
          rw [List.length_map, List.length_take]
          omega
        exact small1000 this
      · have q := b.put (z := V.int (v3.length : Nat)) b3.sm (k := kT t) (valV_none fun pr hp => by
          obtain ⟨s, hs', rfl⟩ := List.mem_map.mp hp
          exact fun e => threes_new ht s hs' (kT_inj e))
        rw [take_snoc ht]
        unfold cntL at q ⊢
        rw [List.map_append]
        rw [hv3] at q
        rw [hv3]
        exact q
    · rw [hv1, List.take_length] at b
      exact k H2 D (b1.sm.free nD) (b.from_ b1.sm)
end
end KB
end

section
set_option Elab.async false
set_option linter.all false
set_option maxRecDepth 100000
set_option maxHeartbeats 400000
/-! tally, plane_row -/
namespace KB
open PySem PySem.Spec PyProof.Rows L2
theorem piList (K : PySem.W.Frag) {X : Cx} {tg l : Expr} {tl : TE} (h : X.K = K) (hl : PE X l tl) : PI X tg l (iList K tl) := by
  subst h
  exact pi_list hl
def tal (ns : List Int) (m : Nat) : List Int := (List.range m).map fun j : Nat => (((ns.filterMap fun v => if v = (j : Int) then some v else none).length : Nat) : Int)
def spTally : Sp := fun vs H Q _ => ∃ (l : Addr) (ns : List Int) (m : Nat), vs = [.ref l, .int m] ∧ LsAt RI H l ns ∧ ns.length ≤ 10000 ∧ m ≤ 100 ∧ ∀ H' p, H p = none → Bt RI H H' p (tal ns m) → Q (.ref p) H'
abbrev nTa : List Str := ["values", "many", "j", "value"]
theorem scTa : FnScope nTa ["values", "many"] (defScope (topS 48)) := ⟨rfl, rfl, rfl, by decide +kernel, rfl, by decide +kernel, by decide +kernel⟩
section
variable {P : Program} {w : World} {K : PySem.W.Frag} {mg : Str → Option Value} {base : Heap} {CF CB fLR fO : Addr}
theorem ok_tally {f : Addr} {fd : FuncData} (F : Fun K "tally" "tally" (topS 48) f fd) (mL : mg "len" = none) (mR : mg "range" = none) : FnOk P w K mg base CX0 1 f fd ["values", "many"] spTally := by
  refine F.ok scTa (fun vs H Q E h => ?_) (fun cdv A outer s H vs Q E hr h => ⟨_,
    pss_one (ps_ret (pe_lc (own := [("j", 2)]) (g := gName 2) (tt := tYes) (te := tCB (fun xs H Q => ∃ p ys, xs = [.ref p] ∧ (SqL K H p ys ∨ SqT K H p ys) ∧ Q (.int ys.length) H) (tCons (tLc (iList K (tVar 0)) (gName 3) (tTest (tOp rEq (tVar 3) (tVar 2))) (tVar 3) [3]) tNil)) rfl scTa.nd
      (pi_range1 (by rfl) mR (pa_cons (pv 1) pa_nil)) (blkOk_by (N := nTa) (sc := defScope (topS 48)) (by decide +kernel)) (fun _ _ _ _ _ => pg_name (i := 2) scTa.nd rfl (Or.inr rfl)) (fun _ _ _ _ _ => pts_nil)
      (fun _ _ _ _ _ => pe_callB (lenSeq K rfl) (by rfl) mL PySem.boot_len (pa_cons (pe_lc (own := [("value", 3)]) (g := gName 3) rfl scTa.nd (piList K rfl (pv 0)) (blkOk_by (N := nTa) (by rfl))
        (fun _ _ _ _ _ => pg_name (i := 3) scTa.nd rfl (Or.inl rfl)) (fun _ _ _ _ _ => pts_one (pt_cmpR op_eq (pv 3) (pv 2) (nomark _))) (fun _ _ _ _ _ => pv 3)) pa_nil)))), ?_⟩)
  · obtain ⟨l, ns, m, rfl, _⟩ := h
    rfl
  · obtain ⟨l, ns, m, rfl, hL, hn, hm, k⟩ := h
    refine ⟨_, rfl, _, rfl, by omega, by omega, fun D nD => lcB_range (Ro := RI) (n := ((m : Nat) : Int).toNat) (f := fun j => some (((ns.filterMap fun v => if v = (j : Int) then some v else none).length : Nat) : Int)) nD (by omega) (fun j H1 hj s1 K1 K2 h1 h2 => ?_) fun H1 b1 => ?_⟩
    · obtain ⟨v1, e1, p1⟩ := hL.same s1
      refine ⟨rfl, yesI ⟨_, rfl, l, rfl, ⟨_, SqL.of e1⟩, fun B nB => lcB_list (Ri := RI) (Ro := RI) (l := ns) (f := fun v => if v = (j : Int) then some v else none) nB (SqL.of e1) p1 (by omega) (fun x v H2 hx s2 r2 K3 K4 h3 h4 => ?_) fun H2 b2 => ?_⟩⟩
      · cases r2
        refine ⟨rfl, tEqI (gVar rfl) (gVar rfl) (fun c => ?_) fun c => ?_⟩
        · exact ⟨_, rfl, h3 _ _ x (if_pos (by omega)) (Same.refl _) rfl⟩
        · exact h4 _ (if_neg (by omega)) (Same.refl _)
      · obtain ⟨v2, e2, p2⟩ := b2.ls
        refine ⟨B, v2, rfl, .inl (SqL.of e2), h1 _ _ _ rfl b2.sm ?_⟩
        show V.int _ = V.int _
        rw [p2.length]
    · have em : ((m : Nat) : Int).toNat = m := by omega
      rw [filterMap_some, em] at b1
      exact k H1 D nD b1
end
section
variable {β : Type} {Ro : Rel β} [Mn Ro] {H1 : Hp} {D d : Addr} {o : Obj} {kvs : List (List Key × V)} {f : List Key × V → Option β} {g : TG} {tt : TT} {te : TE} {ws : List Nat} {σ : L2.St} {Qd : Hp → Prop}
theorem lcB_keys (nd : H1 D = none) (hd0 : H1 d = some (.frz o (.dT kvs))) (hl : kvs.length ≤ 100000)
    (st : ∀ p q H, p ∈ kvs → Same H1 H → H q = some (.tup (p.1.map kV)) → LcStep f Ro g tt te ws σ H (.ref q) p) (hd : ∀ H, Bt Ro H1 H D (kvs.filterMap f) → Qd H) :
    Rnd g tt (tApp te D) ws σ (Itkt d o kvs) Qd (upd H1 D (.lst [])) := by
  refine ⟨fun i m' H => m' = kvs.length - i ∧ i ≤ kvs.length ∧ Bt Ro H1 H D ((kvs.take i).filterMap f), ⟨kvs.length, by simp, Nat.zero_le _, Bt.start nd⟩, ?_⟩
  rintro i m' H ⟨rfl, hi, bt⟩
  have ed := bt.sm _ _ hd0
  by_cases hlt : i < kvs.length
  · refine .inr ⟨⟨ed, hlt⟩, fun H' => i + 1 ≤ kvs.length ∧ Bt Ro H1 H' D ((kvs.take (i + 1)).filterMap f), fun H' p' => ⟨kvs.length - (i + 1), by omega, rfl, p'⟩, fun x H' y => ?_⟩
    obtain ⟨rfl, k, v, q, ek, rfl, eq⟩ := y
    rw [filterMap_take ek]
    refine st (k, v) q _ (List.mem_of_getElem? ek) bt.sm eq _ _ (fun y H4 z ez s ro => ?_) fun H3 ez s => ?_
    · rw [ez]
      obtain ⟨acc, c1, c2, c3⟩ := bt.app s ro (by
        have h1 := List.length_filterMap_le f (kvs.take i)
        have h3 := List.length_take (i := i) (l := kvs)
        omega)
      exact ⟨acc, c1, c2, hlt, c3⟩
    · rw [ez]
      refine ⟨hlt, ?_⟩
      show Bt Ro H1 H3 D (_ ++ [])
      rw [List.append_nil]
      exact bt.same s
  · have e : i = kvs.length := by omega
    subst e
    refine .inl ⟨⟨ed, Nat.le_refl _⟩, hd H ?_⟩
    rw [List.take_length] at bt
    exact bt
end
/-- behind the lock -/
theorem unlocked {α : Type} {R : Rel α} [Mn R] {H H' : Hp} {d D : Addr} {od : Obj} {kvs : List (List Key × V)} {l : List α} (e : H d = some (.dT kvs)) (b : Bt R (upd H d (.frz od (.dT kvs))) H' D l) : H' d = some (.frz od (.dT kvs)) ∧ Bt R H (upd H' d (.dT kvs)) D l := by
  have e1 : H' d = some (.frz od (.dT kvs)) := b.sm _ _ upd_same
  have ne : D ≠ d := fun c => by
    have := b.nd
    rw [c, upd_same] at this
    cases this
  refine ⟨e1, ?_, fun b' o h => ?_, ?_⟩
  · have := b.nd
    rw [upd_ne ne] at this
    exact this
  · by_cases c : b' = d
    · subst c
      rw [upd_same, ← e]
      exact h
    · rw [upd_ne c]
      exact b.sm _ _ (by rw [upd_ne c]; exact h)
  · obtain ⟨vs, ev, p⟩ := b.ls
    refine ⟨vs, ?_, Paired.upd (KT.upd e1 fun _ z => by cases z) p⟩
    rw [upd_ne ne]
    exact ev
def rowOf (ps : List (Int × Int)) (hs : List Int) : List Int := tal ((threes ps.length).map fun t => (((beyL ps hs t (-1)).length : Nat) : Int)) (ps.length - 2)
def spRow (CF CB : Addr) : Sp := fun vs H Q _ => ∃ (r f : Addr) (ps : List (Int × Int)) (hs : List Int), vs = [.ref r] ∧ BowlAt CF CB ps hs H r f ∧ ∀ H' p, H p = none → Bt RI H H' p (rowOf ps hs) → Q (.ref p) H'
abbrev nPR : List Str := ["raised", "counts", "triangle"]
theorem scPR : FnScope nPR ["raised"] (defScope (topS 49)) := ⟨rfl, rfl, rfl, by decide +kernel, rfl, by decide +kernel, by decide +kernel⟩
theorem find_nodup {κ : Type} [DecidableEq κ] : ∀ {kvs : List (κ × V)}, (kvs.map (·.1)).Nodup → ∀ p ∈ kvs, valV kvs p.1 = some p.2
  | [], _, p, h => by cases h
  | q :: r, nd, p, h => by
    unfold valV
    rw [List.find?_cons]
    rw [List.map_cons, List.nodup_cons] at nd
    rcases List.mem_cons.mp h with rfl | h
    · simp
    · have ne : ¬ q.1 = p.1 := fun e => nd.1 (by rw [e]; exact List.mem_map_of_mem h)
      rw [decide_eq_false ne]
      exact find_nodup nd.2 p h
theorem cntL_nd (ps : List (Int × Int)) (hs : List Int) (n : Nat) : ((cntL ps hs (threes n)).map (·.1)).Nodup := by
  unfold cntL
  rw [List.map_map]
  show List.Pairwise _ _
  rw [List.pairwise_map]
  refine (threes_lt n).imp fun {s t} h e => ?_
  have := kT_inj e
  subst this
  unfold lt3 at h
  omega
section
variable {P : Program} {w : World} {K : PySem.W.Frag} {mg : Str → Option Value} {base : Heap} {CF CB fLR fO : Addr}
theorem pe_dgetB {X : Cx} {o i : Expr} {pos : Pos} {td ty : TE} (hu : X.A.units + 1 < cLine) (ho : PE X o td) (hi : PE X i ty) (hs : NoSl i) : PE X (.Subscript o i pos) (tDGet td ty) := pe_dget hu ho hi hs
theorem ok_row {f fC fT : Addr} {fd fdC fdT fdL : FuncData} (F : Fun K "plane_row" "plane_row" (topS 49) f fd) (GC : Gd K mg "plane_counts" (topS 47) fC fdC) (FC : FnOk P w K mg base CX0 4 fC fdC ["raised"] (spCounts CF CB))
    (GT : Gd K mg "tally" (topS 48) fT fdT) (FL : Fun K "__len__" "Raised.__len__" (clsS 45 2) fLR fdL) (B : BwK K CB fLR fO) (mL : mg "len" = none) (mR : mg "range" = none) :
    FnOk P w K mg base CX0 5 f fd ["raised"] (spRow CF CB) := by
  have FT : FnOk P w K mg base CX0 1 fT fdT ["values", "many"] spTally := ok_tally GT.F mL mR
  have bC := GC.F.binds (ps := ["raised"]) fun _ _ _ _ _ _ us hl => match us, hl with | [_], _ => rfl
  have bT := GT.F.binds (ps := ["values", "many"]) fun _ _ _ _ _ _ us hl => match us, hl with | [_, _], _ => rfl
  have GL : FnOk P w K mg base CX0 1 fLR fdL ["self"] (spLenR CF CB) := ok_lenR FL B mL
  have bL := FL.binds (ps := ["self"]) fun _ _ _ _ _ _ us hl => match us, hl with | [_], _ => rfl
  refine F.ok scPR (fun vs H Q E h => ?_) (fun cdv A outer s H vs Q E hr h => ⟨_,
    pss_cons (ps_set (i := 1) scPR.nd rfl (Or.inr rfl) (pe_call FC hr rfl GC.g GC.F.kp bC .nil pass0 (pa_cons (pv 0) pa_nil)))
    (pss_one (ps_ret (pe_call FT (hr.mono (by decide)) rfl GT.g GT.F.kp bT .nil pass0 (pa_cons
      (pe_lock (pe_lc (own := [("triangle", 2)]) (g := gName 2) (tt := tYes) rfl scPR.nd (pi_keys (pv 1)) (blkOk_by (N := nPR) (sc := defScope (topS 49)) (by decide +kernel)) (fun _ _ _ _ _ => pg_name (i := 2) scPR.nd rfl (Or.inl rfl)) (fun _ _ _ _ _ => pts_nil)
        (fun _ _ _ _ _ => pe_dget (hu_of hr) (pv 1) (pv 2) (fun _ _ => rfl))))
      (pa_cons (pe_op op_sub (pe_callB (call_lenO B.ln GL (hr.mono (by decide)) bL pass0) (by rfl) mL PySem.boot_len (pa_cons (pv 0) pa_nil)) pe_int) pa_nil))))), ?_⟩)
  · obtain ⟨r, f, ps, hs, rfl, _⟩ := h
    rfl
  · obtain ⟨r, f, ps, hs, rfl, hB, k⟩ := h
    have hn := hB.fl.ok.hi
    have hn3 := hB.fl.ok.lo
    refine ⟨_, rfl, r, f, ps, hs, rfl, hB, fun H1 D nD b1 => ?_⟩
    have hlen : (cntL ps hs (threes ps.length)).length ≤ 1000 := by
      unfold cntL
      rw [List.length_map]
      exact threes_le hn
    refine ⟨D, _, b1.e, trivial, fun od => ⟨_, rfl, D, od, rfl, .inr ⟨_, upd_same, fun B2 nB2 => lcB_keys (Ro := RI) (f := fun p => match p.2 with | .int i => some i | _ => none) nB2 upd_same (by omega) (fun p q H2 hp s2 eq K1 K2 h1 h2 => ?_) fun H2 b2 => ?_⟩⟩⟩
    · have ev := find_nodup (cntL_nd ps hs ps.length) p hp
      obtain ⟨t, ht, rfl⟩ := List.mem_map.mp hp
      refine ⟨rfl, yesI ⟨_, rfl, _, rfl, D, _, rfl, .inr ⟨_, _, q, .inr ⟨od, s2 _ _ upd_same⟩, rfl, eq, ev.symm⟩, h1 _ _ _ rfl (Same.refl _) rfl⟩⟩
    · obtain ⟨e2, b3⟩ := unlocked b1.e b2
      refine ⟨e2, ?_⟩
      have e4 : (cntL ps hs (threes ps.length)).filterMap (fun p => match p.2 with | .int i => some i | _ => none) = (threes ps.length).map fun t => (((beyL ps hs t (-1)).length : Nat) : Int) := by
        unfold cntL
        rw [List.filterMap_map]
        show List.filterMap (fun t => some (((beyL ps hs t (-1)).length : Nat) : Int)) _ = _
        rw [filterMap_some]
      rw [e4] at b3
      have hB3 := hB.same (b1.sm.trans b3.sm)
      refine gLenR (gVar rfl) hB3 _ ⟨_, _, rfl, rfl, B2, _, ps.length - 2, ?_, b3.ls, ?_, by omega, fun H5 p np b5 => k H5 p (b1.sm.free (b3.sm.free np)) ((b5.from_ b3.sm).from_ b1.sm)⟩
      · have e5 : ((ps.length : Nat) : Int) - 2 = ((ps.length - 2 : Nat) : Int) := by omega
        show [V.ref B2, V.int (((ps.length : Nat) : Int) - 2)] = _
        rw [e5]
      · rw [List.length_map]
        have := threes_le hn
        omega
end
end KB
end

section
set_option Elab.async false
set_option linter.all false
set_option maxRecDepth 100000
set_option maxHeartbeats 400000
/-! a range object as a value, walked (it follows HandS.Base range_it and cr_range2) -/
namespace KB
open PySem PySem.Spec PyProof.Rows L2
theorem cr_range1 {X : Cx} : CallR X (.type "range") (fun vs H Q => ∃ i, vs = [V.int i] ∧ ∀ p, H p = none → Q (.ref p) (upd H p (.rng 0 i))) := by
  intro pins s σ H vs us Q I r h
  obtain ⟨i, rfl, q⟩ := h
  obtain ⟨u, rfl, ru⟩ := vals1 r
  obtain ⟨t, rfl⟩ := ru
  refine call_range_1 ⟨.ref s.heap.objs.size, upd H s.heap.objs.size (.rng 0 i), I.laid (t' := s.toks + 1 + 1) (fun b o e => Heap.get?_push_of_some _ e) (Nat.le_refl _) ?_, rfl, q _ (I.hok.fresh (Nat.le_refl _))⟩
  exact ⟨s.toks, t, s.toks + 1, Heap.get?_push_size _ rfl⟩
def iRngV (te : TE) : TI := fun σ H R => te σ H fun x H1 => ∃ (a : Addr) (n : Nat), x = .ref a ∧ H1 a = some (.rng 0 (n : Int)) ∧ n < 2 ^ 60 ∧ R (Itr 0 n) H1
theorem pi_rngV {X : Cx} {tg e : Expr} {te : TE} (he : PE X e te) : PI X tg e (iRngV te) := by
  refine ⟨fun pins s σ H R I h => ?_⟩
  refine thn (he.run pins s σ H _ I h) fun v s1 ⟨x, H1, I1, r1, a, n, e, ha, hn, q⟩ => ?_
  subst e
  obtain rfl : v = Value.ref a := r1
  obtain ⟨t, u, w, ho⟩ := (show ObjOk X.prog X.w H1 s1.heap a (.rng 0 (n : Int)) from I1.hok a _ ha)
  refine wpAny_pyIter_range (ho : IsRange s1.heap a 0 n 1 t u w) (small_one (by omega) (by omega) (by omega) (by omega)) ?_
  refine ⟨s1.heap.objs.size, [s1.heap.objs.size], _, _, H1, rfl, I1.kept (t' := s1.toks) fun b o e => Heap.get?_push_of_some _ e, turn_range _ 0 n, ?_, fun b hb => ?_, q⟩
  · have e1 : (0 : Int) + ((0 : Nat) : Int) * 1 = 0 := by simp
    have e2 : ((n : Nat) : Int) - ((0 : Nat) : Int) = Builtin.Range.rangeSize 0 n 1 := by rw [rangeSize_one]; split <;> omega
    show IsRangeIter _ _ ((0 : Int) + ((0 : Nat) : Int) * 1) (((n : Nat) : Int) - ((0 : Nat) : Int)) 1
    rw [e1, e2]
    exact Heap.get?_push_size _ rfl
  · have e : b = s1.heap.objs.size := by simpa using hb
    subst e
    exact I1.fpOk (Nat.le_refl _) (I1.hok.fresh (Nat.le_refl _))
/-! left_count -/
def leftL (ps : List (Int × Int)) (a b : Nat) : List Nat := (List.range ps.length).filterMap fun c => if c = a ∨ c = b then none else if sg (tn ps a b c) = 1 then some c else none
def spLeft (CF : Addr) : Sp := fun vs H Q _ => ∃ (f : Addr) (ps : List (Int × Int)) (a b : Nat), vs = [.ref f, .int a, .int b] ∧ FloorAt CF ps H f ∧ (a < ps.length ∧ b < ps.length ∧ a ≠ b) ∧ ∀ H', Same H H' → Q (.int ((leftL ps a b).length : Nat)) H'
abbrev nLC : List Str := ["floor", "a", "b", "c"]
theorem scLC : FnScope nLC ["floor", "a", "b"] (defScope (topS 52)) := ⟨rfl, rfl, rfl, by decide +kernel, rfl, by decide +kernel, by decide +kernel⟩
section
variable {P : Program} {w : World} {K : PySem.W.Frag} {mg : Str → Option Value} {base : Heap} {CF fL fT : Addr}
theorem ok_left {f : Addr} {fd fdT fdL : FuncData} (F : Fun K "left_count" "left_count" (topS 52) f fd) (FT : Fun K "quick_turn" "Floor.quick_turn" (clsS 63 12) fT fdT) (FL : Fun K "__len__" "Floor.__len__" (clsS 63 5) fL fdL) (T : FlK K CF fL fT) (mL : mg "len" = none) (mR : mg "range" = none) :
    FnOk P w K mg base CX0 3 f fd ["floor", "a", "b"] (spLeft CF) := by
  have GT : FnOk P w K mg base CX0 1 fT fdT nQT (spTurn CF) := ok_turn FT T
  have bT := FT.binds (ps := nQT) fun _ _ _ _ _ _ us hl => match us, hl with | [_, _, _, _], _ => rfl
  have GL : FnOk P w K mg base CX0 1 fL fdL ["self"] (spLenF CF) := ok_lenF FL T mL
  have bL := FL.binds (ps := ["self"]) fun _ _ _ _ _ _ us hl => match us, hl with | [_], _ => rfl
  refine F.ok scLC (fun vs H Q E h => ?_) (fun cdv A outer s H vs Q E hr h => ⟨_,
    pss_one (ps_ret (pe_callB call_len_seq (by rfl) mL PySem.boot_len (pa_cons
      (pe_lc (own := [("c", 3)]) (g := gName 3) (tt := tAnd (tTest (tOp (rIn K true) (tVar 3) (tTup (tCons (tVar 1) (tCons (tVar 2) tNil))))) (tTest (tOp rEq (tMeth CF "quick_turn" (spTurn CF) [] E0 (tVar 0) (tCons (tVar 1) (tCons (tVar 2) (tCons (tVar 3) tNil)))) (tC (.int 1))))) rfl scLC.nd
        (pi_range1 (by rfl) mR (pa_cons (pe_callB (call_lenO T.ln GL hr bL pass0) (by rfl) mL PySem.boot_len (pa_cons (pv 0) pa_nil)) pa_nil)) (blkOk_by (N := nLC) (sc := defScope (topS 52)) (by decide +kernel))
        (fun _ _ _ _ _ => pg_name (i := 3) scLC.nd rfl (Or.inl rfl)) (fun _ _ _ _ _ => pts_one (PW.pt (pw_and (pt_cmpR (opNotIn K rfl) (pv 3) (pe_tup (pa_cons (pv 1) (pa_cons (pv 2) pa_nil))) (by rfl)) (pw_and1 (pt_cmpR op_eq (pe_meth (pv 0) T.cl T.mT GT (hr.mono (by decide)) bT .nil pass0 (pa_cons (pv 1) (pa_cons (pv 2) (pa_cons (pv 3) pa_nil)))) pe_int (nomark _))))))
        (fun _ _ _ _ _ => pv 3)) pa_nil))), ?_⟩)
  · obtain ⟨f, ps, a, b, rfl, _⟩ := h
    rfl
  · obtain ⟨f, ps, a, b, rfl, hF, ⟨ha, hb, hab⟩, k⟩ := h
    have hn := hF.ok.hi
    refine gLenF (gVar rfl) hF _ ⟨_, rfl, by omega, by omega, fun D nD => lcB_range (Ro := RN) (n := ((ps.length : Nat) : Int).toNat) (f := fun c => if c = a ∨ c = b then none else if sg (tn ps a b c) = 1 then some c else none) nD (by omega) (fun i H1 hi s1 K1 K2 h1 h2 => ?_) fun H1 b1 => ?_⟩
    · refine ⟨rfl, _, rfl, _, rfl, _, rfl, by show 2 ≤ sizeLine; decide, fun u nu => ⟨u, _, rfl, .inr (SqT.of upd_same), rfl, rfl, _, rfl, ?_⟩⟩
      have e : inV (V.int (0 + (i : Int))) [V.int (a : Int), .int b] = decide (i = a ∨ i = b) := by
        simp only [inV, List.any_cons, List.any_nil, Bool.or_false, eqV]
        rw [Bool.eq_iff_iff]
        simp
        omega
      show if (!inV (V.int (0 + (i : Int))) [V.int (a : Int), .int b]) = true then _ else _
      rw [e]
      by_cases c0 : i = a ∨ i = b
      · rw [decide_eq_true c0]
        exact iteF (iteF (h2 _ (if_pos c0) (same_new nu)))
      · rw [decide_eq_false c0]
        have ev : V.int (0 + (i : Int)) = V.int i := by rw [Int.zero_add]
        refine iteT (rdTurn (gVar rfl) (gVar rfl) (gVar rfl) (show Gv (tVar 3) _ _ (V.int (i : Int)) from gVar (by rw [← ev]; rfl)) (hF.same (s1.trans (same_new nu))) ha hb (by omega) hab (by omega) (by omega) fun H3 s3 => ⟨rfl, _, rfl, itD (fun c1 => ?_) fun c1 => ?_⟩)
        · exact ⟨_, rfl, h1 _ _ i (by dsimp only; rw [if_neg c0, if_pos (V.int.inj c1)]) ((same_new nu).trans s3) ev⟩
        · exact h2 _ (by dsimp only; rw [if_neg c0, if_neg fun c2 => c1 (by rw [c2])]) ((same_new nu).trans s3)
    · have en : ((ps.length : Nat) : Int).toNat = ps.length := by omega
      rw [en] at b1
      obtain ⟨v1, e1, p1⟩ := b1.ls
      refine ⟨D, v1, rfl, .inl (SqL.of e1), ?_⟩
      rw [p1.length]
      exact k H1 b1.sm
end
end KB
end

section
set_option Elab.async false
set_option linter.all false
set_option maxRecDepth 100000
set_option maxHeartbeats 400000
/-! line_counts, line_row -/
namespace KB
open PySem PySem.Spec PyProof.Rows L2
def prow (n a : Nat) : List (Nat × Nat) := (List.range n).filterMap fun b => if a = b then none else some (a, b)
def pairs2 (n : Nat) : List (Nat × Nat) := (List.range n).flatMap (prow n)
abbrev k2 (p : Nat × Nat) : List Key := [.inl (p.1 : Int), .inl (p.2 : Int)]
def lnL (ps : List (Int × Int)) (l : List (Nat × Nat)) : List (List Key × V) := l.map fun p => (k2 p, V.int ((leftL ps p.1 p.2).length : Nat))
theorem k2_inj {p q : Nat × Nat} (h : k2 p = k2 q) : p = q := by
  obtain ⟨a, b⟩ := p
  obtain ⟨a', b'⟩ := q
  simp only [List.cons.injEq, Sum.inl.injEq, and_true] at h
  simp only [Prod.mk.injEq]
  omega
theorem prow_le (n a : Nat) : (prow n a).length ≤ n := by
  have := List.length_filterMap_le (fun b => if a = b then none else some (a, b)) (List.range n)
  rw [List.length_range] at this
  exact this
theorem prow_mem {n a : Nat} {p : Nat × Nat} (h : p ∈ prow n a) : p.1 = a ∧ p.2 < n ∧ a ≠ p.2 := by
  obtain ⟨b, hb, e⟩ := List.mem_filterMap.mp h
  rw [List.mem_range] at hb
  split at e
  · cases e
  · cases e
    exact ⟨rfl, hb, by assumption⟩
def spLines (CF : Addr) : Sp := fun vs H Q _ => ∃ (f : Addr) (ps : List (Int × Int)), vs = [.ref f] ∧ FloorAt CF ps H f ∧ ∀ H' D, H D = none → Bd H H' D (lnL ps (pairs2 ps.length)) → Q (.ref D) H'
abbrev nLn : List Str := ["floor", "numbers", "a", "b"]
theorem scLn : FnScope nLn ["floor"] (defScope (topS 51)) := ⟨rfl, rfl, rfl, by decide +kernel, rfl, by decide +kernel, by decide +kernel⟩
section
variable {P : Program} {w : World} {K : PySem.W.Frag} {mg : Str → Option Value} {base : Heap} {CF fL fT : Addr}
theorem ok_lines {f fC : Addr} {fd fdC fdL : FuncData} (F : Fun K "line_counts" "line_counts" (topS 51) f fd) (GC : Gd K mg "left_count" (topS 52) fC fdC) (FC : FnOk P w K mg base CX0 3 fC fdC ["floor", "a", "b"] (spLeft CF))
    (FL : Fun K "__len__" "Floor.__len__" (clsS 63 5) fL fdL) (T : FlK K CF fL fT) (mL : mg "len" = none) (mR : mg "range" = none) : FnOk P w K mg base CX0 4 f fd ["floor"] (spLines CF) := by
  have bC := GC.F.binds (ps := ["floor", "a", "b"]) fun _ _ _ _ _ _ us hl => match us, hl with | [_, _, _], _ => rfl
  have GL : FnOk P w K mg base CX0 1 fL fdL ["self"] (spLenF CF) := ok_lenF FL T mL
  have bL := FL.binds (ps := ["self"]) fun _ _ _ _ _ _ us hl => match us, hl with | [_], _ => rfl
  refine F.ok scLn (fun vs H Q E h => ?_) (fun cdv A outer s H vs Q E hr h => ⟨_,
    pss_cons (ps_set (i := 1) scLn.nd rfl (Or.inr rfl) (pe_callTy cr_range1 (by rfl) mR (by decide +kernel) (pa_cons (pe_callB (call_lenO T.ln GL (hr.mono (by decide)) bL pass0) (by rfl) mL PySem.boot_len (pa_cons (pv 0) pa_nil)) pa_nil)))
    (pss_one (ps_ret (pe_dcT2 (own := [("a", 2), ("b", 3)]) (vs1 := [3]) (g0 := gName 2) (g1 := gName 3) (tt0 := tYes) rfl (hu_of hr) scLn.nd (pi_rngV (pv 1)) (blkOk_by (N := nLn) (sc := defScope (topS 51)) (by decide +kernel)) (by decide)
      (fun _ _ _ _ _ => pg_name (i := 2) scLn.nd rfl (Or.inl rfl)) (fun _ _ _ _ _ => pts_nil)
      (fun _ _ _ _ _ => pi_rngV (pv 1)) (fun _ _ _ _ _ => pg_name (i := 3) scLn.nd rfl (Or.inl rfl)) (fun _ _ _ _ _ => pts_one (pt_cmpR op_ne (pv 2) (pv 3) (nomark _)))
      (fun _ _ _ _ _ => pe_tup (pa_cons (pv 2) (pa_cons (pv 3) pa_nil))) (fun _ _ _ _ _ => pe_call FC hr rfl GC.g GC.F.kp bC .nil pass0 (pa_cons (pv 0) (pa_cons (pv 2) (pa_cons (pv 3) pa_nil))))))), ?_⟩)
  · obtain ⟨f, ps, rfl, _⟩ := h
    rfl
  · obtain ⟨f, ps, rfl, hF, k⟩ := h
    have hn := hF.ok.hi
    refine gLenF (gVar rfl) hF _ ⟨_, rfl, fun p np => ⟨_, rfl, p, ps.length, rfl, upd_same, by omega, fun D nD => cl_range (n := ps.length) (fun i H' => Bd (upd H p (.rng 0 (ps.length : Nat))) H' D (lnL ps ((List.range i).flatMap (prow ps.length)))) (Bd.start nD) (fun i H1 hi b1 => ?_) fun H1 b1 => k H1 D ((same_new np).free nD) (b1.from_ (same_new np))⟩⟩
    refine ⟨rfl, yesI ⟨_, rfl, p, ps.length, rfl, b1.sm _ _ upd_same, by omega, cl_range (n := ps.length) (fun j H' => Bd (upd H p (.rng 0 (ps.length : Nat))) H' D (lnL ps ((List.range i).flatMap (prow ps.length) ++ (List.range j).filterMap fun b => if i = b then none else some (i, b)))) (by simpa using b1) (fun j H2 hj b2 => ?_) fun H2 b2 => ?_⟩⟩
    · have ei : V.int (0 + (i : Int)) = V.int i := by rw [Int.zero_add]
      have ej : V.int (0 + (j : Int)) = V.int j := by rw [Int.zero_add]
      have e1 : (List.range (j + 1)).filterMap (fun b => if i = b then none else some (i, b)) = (List.range j).filterMap (fun b => if i = b then none else some (i, b)) ++ (if i = j then [] else [(i, j)]) := by
        rw [List.range_succ, List.filterMap_append]
        by_cases c : i = j
        · simp [c]
        · simp [c]
      refine ⟨rfl, tNeI (gVar rfl) (gVar rfl) (fun c => ?_) fun c => ?_⟩
      · have c' : i ≠ j := by omega
        refine ⟨_, rfl, _, rfl, by show 2 ≤ sizeLine; decide, fun u nu => ⟨_, rfl, _, rfl, _, rfl, f, ps, i, j, ?_, hF.same ((same_new np).trans (b2.sm.trans (same_new nu))), ⟨hi, hj, c'⟩, fun H3 s3 => ?_⟩⟩
        · show [V.ref f, V.int (0 + (i : Int)), V.int (0 + (j : Int))] = _
          rw [ei, ej]
        · have s23 := (same_new (o := .tup [V.int (0 + (i : Int)), .int (0 + (j : Int))]) nu).trans s3
          refine ⟨u, lnL ps ((List.range i).flatMap (prow ps.length) ++ (List.range j).filterMap fun b => if i = b then none else some (i, b)), k2 (i, j), rfl, ?_, s23 _ _ b2.e, ?_, ?_⟩
          · rw [s3 _ _ upd_same, ei, ej]
            rfl
          · have h1 := flatMap_le (prow ps.length) ps.length (prow_le ps.length) i
            have h2 := List.length_filterMap_le (fun b => if i = b then none else some (i, b)) (List.range j)
            rw [List.length_range] at h2
            have h3 : ps.length * i ≤ 10 * 10 := Nat.mul_le_mul hn (by omega)
            refine small1000 ?_
            unfold lnL
            rw [List.length_map, List.length_append]
            omega
          · have q := b2.put s23 (k := k2 (i, j)) (z := V.int ((leftL ps i j).length : Nat)) (valV_none fun pr hp => by
              obtain ⟨x, hx, rfl⟩ := List.mem_map.mp hp
              intro e
              have e := k2_inj e
              subst e
              rcases List.mem_append.mp hx with h | h
              · obtain ⟨a, ha, hm⟩ := List.mem_flatMap.mp h
                rw [List.mem_range] at ha
                have := (prow_mem hm).1
                dsimp only at this
                omega
              · obtain ⟨b, hb, e⟩ := List.mem_filterMap.mp h
                rw [List.mem_range] at hb
                split at e
                · cases e
                · cases e
                  omega)
            rw [e1, if_neg c']
            unfold lnL at q ⊢
            rw [← List.append_assoc, List.map_append]
            exact q
      · have c' : i = j := by omega
        rw [e1, if_pos c', List.append_nil]
        exact b2
    · rw [flatMap_succ]
      exact b2
end
/-! line_row -/
def lineRow (ps : List (Int × Int)) : List Int := (List.range (ps.length - 1)).map fun j : Nat => ((((pairs2 ps.length).filterMap fun p => if (leftL ps p.1 p.2).length = j then some () else none).length : Nat) : Int)
def RU : Rel Unit := fun _ _ _ => True
instance : Mn RU := ⟨fun _ _ => trivial⟩
def spLRow (CF : Addr) : Sp := fun vs H Q _ => ∃ (f : Addr) (ps : List (Int × Int)), vs = [.ref f] ∧ FloorAt CF ps H f ∧ ∀ H' p, H p = none → Bt RI H H' p (lineRow ps) → Q (.ref p) H'
abbrev nLR : List Str := ["floor", "counts", "j", "line"]
theorem scLR : FnScope nLR ["floor"] (defScope (topS 53)) := ⟨rfl, rfl, rfl, by decide +kernel, rfl, by decide +kernel, by decide +kernel⟩
theorem lnL_nd (ps : List (Int × Int)) (n : Nat) : ((lnL ps (pairs2 n)).map (·.1)).Nodup := by
  unfold lnL
  rw [List.map_map]
  show List.Pairwise _ _
  rw [List.pairwise_map]
  unfold pairs2
  rw [List.pairwise_flatMap]
  refine ⟨fun a ha => ?_, pw_range n fun i j hij hj s hs t ht e => ?_⟩
  · unfold prow
    rw [List.pairwise_filterMap]
    refine pw_range n fun i j hij hj s hs t ht e => ?_
    have e := k2_inj e
    subst e
    split at hs <;> split at ht
    · cases hs
    · cases hs
    · cases ht
    · cases hs
      cases ht
      omega
  · have e := k2_inj e
    subst e
    have h1 := (prow_mem hs).1
    have h2 := (prow_mem ht).1
    omega
section
variable {P : Program} {w : World} {K : PySem.W.Frag} {mg : Str → Option Value} {base : Heap} {CF fL fT : Addr}
theorem ok_lrow {f fC : Addr} {fd fdC fdL : FuncData} (F : Fun K "line_row" "line_row" (topS 53) f fd) (GC : Gd K mg "line_counts" (topS 51) fC fdC) (FC : FnOk P w K mg base CX0 4 fC fdC ["floor"] (spLines CF))
    (FL : Fun K "__len__" "Floor.__len__" (clsS 63 5) fL fdL) (T : FlK K CF fL fT) (mL : mg "len" = none) (mR : mg "range" = none) : FnOk P w K mg base CX0 5 f fd ["floor"] (spLRow CF) := by
  have bC := GC.F.binds (ps := ["floor"]) fun _ _ _ _ _ _ us hl => match us, hl with | [_], _ => rfl
  have GL : FnOk P w K mg base CX0 1 fL fdL ["self"] (spLenF CF) := ok_lenF FL T mL
  have bL := FL.binds (ps := ["self"]) fun _ _ _ _ _ _ us hl => match us, hl with | [_], _ => rfl
  refine F.ok scLR (fun vs H Q E h => ?_) (fun cdv A outer s H vs Q E hr h => ⟨_,
    pss_cons (ps_set (i := 1) scLR.nd rfl (Or.inr rfl) (pe_call FC hr rfl GC.g GC.F.kp bC .nil pass0 (pa_cons (pv 0) pa_nil)))
    (pss_one (ps_ret (pe_lc (own := [("j", 2)]) (g := gName 2) (tt := tYes) (te := tCB (fun xs H Q => ∃ p ys, xs = [.ref p] ∧ (SqL K H p ys ∨ SqT K H p ys) ∧ Q (.int ys.length) H) (tCons (tLockE (tLc (iKeys (tVar 1)) (gName 3) (tTest (tOp rEq (tDGet (tVar 1) (tVar 3)) (tVar 2))) (tVar 3) [3])) tNil)) rfl scLR.nd
      (pi_range1 (by rfl) mR (pa_cons (pe_op op_sub (pe_callB (call_lenO T.ln GL (hr.mono (by decide)) bL pass0) (by rfl) mL PySem.boot_len (pa_cons (pv 0) pa_nil)) pe_int) pa_nil)) (blkOk_by (N := nLR) (sc := defScope (topS 53)) (by decide +kernel))
      (fun _ _ _ _ _ => pg_name (i := 2) scLR.nd rfl (Or.inr rfl)) (fun _ _ _ _ _ => pts_nil)
      (fun _ _ _ _ _ => pe_callB (lenSeq K rfl) (by rfl) mL PySem.boot_len (pa_cons (pe_lock (pe_lc (own := [("line", 3)]) (g := gName 3) rfl scLR.nd (pi_keys (pv 1)) (blkOk_by (N := nLR) (by rfl))
        (fun _ _ _ _ _ => pg_name (i := 3) scLR.nd rfl (Or.inl rfl)) (fun _ _ _ _ _ => pts_one (pt_cmpR op_eq (pe_dget (hu_of hr) (pv 1) (pv 3) (fun _ _ => rfl)) (pv 2) (nomark _))) (fun _ _ _ _ _ => pv 3))) pa_nil))))), ?_⟩)
  · obtain ⟨f, ps, rfl, _⟩ := h
    rfl
  · obtain ⟨f, ps, rfl, hF, k⟩ := h
    have hn := hF.ok.hi
    have hn3 := hF.ok.lo
    refine ⟨_, rfl, f, ps, rfl, hF, fun H1 C nC b1 => ?_⟩
    have hF1 := hF.same b1.sm
    have hlen : (lnL ps (pairs2 ps.length)).length ≤ 1000 := by
      unfold lnL pairs2
      rw [List.length_map]
      have h1 := flatMap_le (prow ps.length) ps.length (prow_le ps.length) ps.length
      have h3 : ps.length * ps.length ≤ 10 * 10 := Nat.mul_le_mul hn hn
      omega
    refine gLenF (gVar rfl) hF1 _ ⟨_, _, rfl, rfl, _, rfl, by omega, by omega, fun D nD => lcB_range (Ro := RI) (n := (((ps.length : Nat) : Int) - 1).toNat) (f := fun j : Nat => some ((((pairs2 ps.length).filterMap fun p => if (leftL ps p.1 p.2).length = j then some () else none).length : Nat) : Int)) nD (by omega) (fun j H2 hj s2 K1 K2 h1 h2 => ?_) fun H2 b2 => ?_⟩
    · have e2 := s2 _ _ b1.e
      refine ⟨rfl, yesI ⟨C, _, e2, trivial, fun od => ⟨_, rfl, C, od, rfl, .inr ⟨_, upd_same, fun B nB => lcB_keys (Ro := RU) (f := fun p => match p.2 with | .int i => (if i = (j : Int) then some () else none) | _ => none) nB upd_same (by omega) (fun p q H3 hp s3 eq K3 K4 h3 h4 => ?_) fun H3 b3 => ?_⟩⟩⟩⟩
      · have ev := find_nodup (lnL_nd ps ps.length) p hp
        obtain ⟨t, ht, rfl⟩ := List.mem_map.mp hp
        refine ⟨rfl, _, rfl, _, rfl, C, _, rfl, .inr ⟨_, _, q, .inr ⟨od, s3 _ _ upd_same⟩, rfl, eq, ev.symm⟩, _, rfl, rfl, _, rfl, itD (fun c => ?_) fun c => ?_⟩
        · refine ⟨_, rfl, h3 _ _ () ?_ (Same.refl _) trivial⟩
          have := V.int.inj c
          dsimp only
          rw [if_pos (by omega)]
        · refine h4 _ ?_ (Same.refl _)
          dsimp only
          rw [if_neg fun e => c (by rw [e, Int.zero_add])]
      · obtain ⟨e3, b4⟩ := unlocked e2 b3
        obtain ⟨v4, e4, p4⟩ := b4.ls
        refine ⟨e3, B, v4, rfl, .inl (SqL.of e4), h1 _ _ _ rfl b4.sm ?_⟩
        show V.int _ = V.int _
        rw [p4.length]
        unfold lnL
        rw [List.filterMap_map]
        congr 3
        congr 1
        funext p
        show (if (((leftL ps p.1 p.2).length : Nat) : Int) = (j : Int) then some () else none) = _
        by_cases c : (leftL ps p.1 p.2).length = j
        · rw [if_pos c, if_pos (by omega)]
        · rw [if_neg c, if_neg (by omega)]
    · have em : (((ps.length : Nat) : Int) - 1).toNat = ps.length - 1 := by omega
      rw [filterMap_some, em] at b2
      exact k H2 D (b1.sm.free nD) (b2.from_ b1.sm)
end
end KB
end

section
set_option Elab.async false
set_option linter.all false
set_option maxRecDepth 100000
set_option maxHeartbeats 400000
/-! _law_cell, _law_signed, _law_points -/
namespace KB
open PySem PySem.Spec PyProof.Rows L2
def spCell : Sp := fun vs H Q _ => ∃ (l : Addr) (ns : List Int) (k : Nat), vs = [.ref l, .int k] ∧ LsAt RI H l ns ∧ ∀ z : Int, Q (.int z) H
theorem scCell : FnScope ["_law_cells", "_law_place"] ["_law_cells", "_law_place"] (defScope (topS 65)) := ⟨rfl, rfl, rfl, by decide +kernel, rfl, by decide +kernel, by decide +kernel⟩
def spSigned : Sp := fun vs H Q _ => ∃ (c o : Int), vs = [.int c, .int o] ∧ 0 < o ∧ o < 2000 ∧ ∀ z : Int, -o ≤ z → z ≤ o → Q (.int z) H
abbrev nSg : List Str := ["_law_c", "_law_odd", "_law_half"]
theorem scSg : FnScope nSg ["_law_c", "_law_odd"] (defScope (topS 66)) := ⟨rfl, rfl, rfl, by decide +kernel, rfl, by decide +kernel, by decide +kernel⟩
section
variable {P : Program} {w : World} {K : PySem.W.Frag} {mg : Str → Option Value} {base : Heap}
theorem ri_vals {H : Hp} : ∀ {vs : List V} {l : List Int}, Paired (RI H) vs l → vs = l.map V.int
  | _, _, .nil => rfl
  | _, _, .cons r t => by rw [List.map_cons, ← ri_vals t, ← show _ = V.int _ from r]
theorem ok_cell {f : Addr} {fd : FuncData} (F : Fun K "_law_cell" "_law_cell" (topS 65) f fd) (mL : mg "len" = none) : FnOk P w K mg base CX0 1 f fd ["_law_cells", "_law_place"] spCell := by
  refine F.ok scCell (fun vs H Q E h => ?_) (fun cdv A outer s H vs Q E hr h => ⟨_, pss_cons (ps_if (pt_cmpR op_lt (pv 1) (pe_callB call_len_seq (by rfl) mL PySem.boot_len (pa_cons (pv 0) pa_nil)) (nomark _)) (pss_one (ps_ret (pe_ix ix_list (pv 0) (pv 1) (fun _ _ => rfl)))) pss_nil) (pss_one (ps_ret pe_int)), ?_⟩)
  · obtain ⟨l, ns, k, rfl, _⟩ := h
    rfl
  · obtain ⟨l, ns, k, rfl, ⟨vs, e, p⟩, q⟩ := h
    have ev := ri_vals p
    refine ⟨_, rfl, _, rfl, l, vs, rfl, .inl (SqL.of e), _, _, rfl, rfl, _, rfl, itD (fun c => ?_) fun c => q 0⟩
    have hk : k < ns.length := by
      rw [ev, List.length_map] at c
      omega
    refine ⟨_, rfl, _, rfl, l, vs, k, .int ns[k], rfl, rfl, SqL.of e, atI_nat ?_, q _⟩
    rw [ev]
    simp [hk]
theorem gMod {σ : L2.St} {H : Hp} {ta tb : TE} {i j : Int} (h1 : Gv ta σ H (.int i)) (h2 : Gv tb σ H (.int j)) (hc : 0 < j) : Gv (tOp (rI (fun _ j => 0 < j) fun i j => .int (i % j)) ta tb) σ H (.int (i % j)) := gI h1 h2 hc
theorem gDiv {σ : L2.St} {H : Hp} {ta tb : TE} {i j : Int} (h1 : Gv ta σ H (.int i)) (h2 : Gv tb σ H (.int j)) (hc : CDiv i j) : Gv (tOp (rI CDiv fun i j => .int (i / j)) ta tb) σ H (.int (i / j)) := gI h1 h2 hc
theorem gInt {σ : L2.St} {H : Hp} {ta : TE} {i : Int} (h : Gv ta σ H (.int i)) : Gv (tCB (fun xs H Q => (∃ i, xs = [.int i] ∧ Q (.int i) H) ∨ ∃ k, xs = [.bl k] ∧ Q (.int (if k then 1 else 0)) H) (tCons ta tNil)) σ H (.int i) := fun Q q => h _ (.inl ⟨i, rfl, q⟩)
theorem ok_signed {f : Addr} {fd : FuncData} (F : Fun K "_law_signed" "_law_signed" (topS 66) f fd) (mI : mg "int" = none) : FnOk P w K mg base CX0 1 f fd ["_law_c", "_law_odd"] spSigned := by
  refine F.ok scSg (fun vs H Q E h => ?_) (fun cdv A outer s H vs Q E hr h => ⟨_, pss_cons (ps_set (i := 2) scSg.nd rfl (Or.inl rfl) (pe_op op_fdiv (pv 1) pe_int))
    (pss_one (ps_ret (pe_op op_sub (pe_op op_mod (pe_callTy call_int1 (by rfl) mI (by decide +kernel) (pa_cons (pe_op op_add (pv 0) (pv 2)) pa_nil)) (pv 1)) (pv 2)))), ?_⟩)
  · obtain ⟨c, o, rfl, _⟩ := h
    rfl
  · obtain ⟨c, o, rfl, h1, h2, k⟩ := h
    refine gDiv (gVar rfl) gC ⟨by decide, by decide⟩ _ ?_
    refine gSub (gMod (gInt (gAdd (gVar rfl) (gVar rfl))) (gVar rfl) h1) (gVar rfl) _ (k _ ?_ ?_)
    · have := Int.emod_nonneg (c + o / 2) (show o ≠ 0 by omega)
      omega
    · have := Int.emod_lt_of_pos (c + o / 2) h1
      omega
end
def spPoints : Sp := fun vs H Q _ => ∃ (l : Addr) (ns : List Int) (n : Nat), vs = [.ref l, .int n] ∧ LsAt RI H l ns ∧ n ≤ 10 ∧
  ∀ H' p (ps : List (Int × Int)), H p = none → Bt RP H H' p ps → ps.length = n → (∀ q ∈ ps, -30 ≤ q.1 ∧ q.1 ≤ 136 ∧ -30 ≤ q.2 ∧ q.2 ≤ 136) → Q (.ref p) H'
abbrev nPt : List Str := ["_law_cells", "_law_many", "_law_right", "_law_up", "_law_points_here", "_law_i", "_law_c", "_law_x", "_law_y"]
theorem scPt : FnScope nPt ["_law_cells", "_law_many"] (defScope (topS 67)) := ⟨rfl, rfl, rfl, by decide +kernel, rfl, by decide +kernel, by decide +kernel⟩
theorem idxB {l : List Int} {B : Int} (hB : ∀ z ∈ l, 0 ≤ z ∧ z ≤ B) {i : Nat} (hi : i < l.length) : ∃ z, atI (l.map V.int) ((0 : Int) + i) = some (.int z) ∧ 0 ≤ z ∧ z ≤ B := by
  refine ⟨l[i], ?_, hB _ (List.getElem_mem hi)⟩
  rw [Int.zero_add]
  refine atI_nat ?_
  simp [hi]
section
variable {P : Program} {w : World} {K : PySem.W.Frag} {mg : Str → Option Value} {base : Heap}
theorem ok_points {f fC : Addr} {fd fdC : FuncData} (F : Fun K "_law_points" "_law_points" (topS 67) f fd) (GC : Gd K mg "_law_cell" (topS 65) fC fdC) (mL : mg "len" = none) (mI : mg "int" = none) (mR : mg "range" = none) : FnOk P w K mg base CX0 2 f fd ["_law_cells", "_law_many"] spPoints := by
  have FC : FnOk P w K mg base CX0 1 fC fdC ["_law_cells", "_law_place"] spCell := ok_cell GC.F mL
  have bC := GC.F.binds (ps := ["_law_cells", "_law_place"]) fun _ _ _ _ _ _ us hl => match us, hl with | [_, _], _ => rfl
  refine F.ok scPt (fun vs H Q E h => ?_) (fun cdv A outer s H vs Q E hr h => ⟨_,
    pss_cons (ps_set (i := 2) scPt.nd rfl (Or.inl rfl) (pe_lst (pa_cons pe_int (pa_cons pe_int (pa_cons pe_int (pa_cons pe_int (pa_cons pe_int (pa_cons pe_int (pa_cons pe_int (pa_cons pe_int (pa_cons pe_int (pa_cons pe_int pa_nil))))))))))))
    (pss_cons (ps_set (i := 3) scPt.nd rfl (Or.inl rfl) (pe_lst (pa_cons pe_int (pa_cons pe_int (pa_cons pe_int (pa_cons pe_int (pa_cons pe_int (pa_cons pe_int (pa_cons pe_int (pa_cons pe_int (pa_cons pe_int (pa_cons pe_int pa_nil))))))))))))
    (pss_cons (ps_set (i := 4) scPt.nd rfl (Or.inl rfl) (pe_lst pa_nil))
    (pss_cons (ps_for PassesOwn.never rfl (pi_range1 (by rfl) mR (pa_cons (pv 1) pa_nil)) (pg_name (i := 5) scPt.nd rfl (Or.inl rfl))
      (pss_cons (ps_set (i := 6) scPt.nd rfl (Or.inl rfl) (pe_call FC hr rfl GC.g GC.F.kp bC .nil pass0 (pa_cons (pv 0) (pa_cons (pe_op op_add pe_int (pv 5)) pa_nil))))
      (pss_cons (ps_set (i := 7) scPt.nd rfl (Or.inl rfl) (pe_op op_add (pe_op op_sub (pe_ix ix_list (pv 2) (pv 5) (fun _ _ => rfl)) pe_int) (pe_op op_mod (pe_callTy call_int1 (by rfl) mI (by decide +kernel) (pa_cons (pv 6) pa_nil)) pe_int)))
      (pss_cons (ps_set (i := 8) scPt.nd rfl (Or.inl rfl) (pe_op op_add (pe_op op_sub (pe_ix ix_list (pv 3) (pv 5) (fun _ _ => rfl)) pe_int) (pe_op op_mod (pe_callTy call_int1 (by rfl) mI (by decide +kernel) (pa_cons (pe_op op_fdiv (pv 6) pe_int) pa_nil)) pe_int)))
      (pss_one (ps_expr (pe_bm PySem.F.plainAttrs_list PySem.F.slot_list_append PySem.F.type_list_append mt_append (pv 4) (pa_cons (pe_tup (pa_cons (pv 7) (pa_cons (pv 8) pa_nil))) pa_nil))))))))
    (pss_one (ps_ret (pv 4)))))), ?_⟩)
  · obtain ⟨l, ns, n, rfl, _⟩ := h
    rfl
  · obtain ⟨l, ns, n, rfl, hL, hn, k⟩ := h
    refine ⟨by decide, fun R nR => ⟨by decide, fun U nU => ⟨by decide, fun D nD => ?_⟩⟩⟩
    have sR := same_new (o := .lst ([0, 61, 17, 35, 52, 8, 44, 27, 70, 13].map V.int)) nR
    have sU := same_new (o := .lst ([0, 7, 58, 23, 41, 31, 12, 66, 29, 47].map V.int)) nU
    have sRU := sR.trans sU
    have eR : (upd (upd H R (.lst ([0, 61, 17, 35, 52, 8, 44, 27, 70, 13].map V.int))) U (.lst ([0, 7, 58, 23, 41, 31, 12, 66, 29, 47].map V.int))) R = some (.lst ([0, 61, 17, 35, 52, 8, 44, 27, 70, 13].map V.int)) := sU _ _ upd_same
    refine ⟨_, rfl, _, rfl, by omega, by omega, for_range (lo := 0) (n := ((n : Nat) : Int).toNat)
      (fun i σ H' => (∃ a b c d, σ = [some (.ref l), some (.int n), some (.ref R), some (.ref U), some (.ref D), a, b, c, d]) ∧ ∃ ps : List (Int × Int), ps.length = i ∧ Bt RP (upd (upd H R (.lst ([0, 61, 17, 35, 52, 8, 44, 27, 70, 13].map V.int))) U (.lst ([0, 7, 58, 23, 41, 31, 12, 66, 29, 47].map V.int))) H' D ps ∧ (∀ q ∈ ps, -30 ≤ q.1 ∧ q.1 ≤ 136 ∧ -30 ≤ q.2 ∧ q.2 ≤ 136))
      ⟨⟨_, _, _, _, rfl⟩, [], rfl, Bt.start nD, fun q h => by cases h⟩ ?_ ?_⟩
    · rintro i σ H' hi ⟨⟨a, b, c, d, rfl⟩, ps, hps, bt, hb⟩
      have hi' : i < n := by omega
      have hLi := hL.same (sRU.trans bt.sm)
      refine ⟨_, rfl, _, rfl, _, _, rfl, rfl, l, ns, 1 + i, ?_, hLi, fun z => ?_⟩
      · show [V.ref l, V.int (1 + (0 + (i : Int)))] = _
        have : (1 : Int) + (0 + (i : Int)) = ((1 + i : Nat) : Int) := by omega
        rw [this]
      obtain ⟨z1, e1, b1, b2⟩ := idxB (l := [0, 61, 17, 35, 52, 8, 44, 27, 70, 13]) (B := 70) (by decide) (i := i) (by show i < 10; omega)
      obtain ⟨z2, e2, b3, b4⟩ := idxB (l := [0, 7, 58, 23, 41, 31, 12, 66, 29, 47]) (B := 70) (by decide) (i := i) (by show i < 10; omega)
      refine gAdd (gSub (gIxL (gVar rfl) (gVar rfl) (SqL.of (bt.sm _ _ eR)) e1) gC) (gMod (gInt (gVar rfl)) gC (by decide)) _ ?_
      refine gAdd (gSub (gIxL (gVar rfl) (gVar rfl) (SqL.of (bt.sm _ _ upd_same)) e2) gC) (gMod (gInt (gDiv (gVar rfl) gC ⟨by decide, by decide⟩)) gC (by decide)) _ ?_
      obtain ⟨dv, ed, _⟩ := bt.ls
      refine ⟨_, rfl, .inl ⟨rfl, _, .inl (.inl ed)⟩, _, rfl, _, rfl, by show 2 ≤ sizeLine; decide, fun u nu => ?_⟩
      have m1 := Int.emod_nonneg z (show (97 : Int) ≠ 0 by decide)
      have m2 := Int.emod_lt_of_pos z (show (0 : Int) < 97 by decide)
      have m3 := Int.emod_nonneg (z / 97) (show (97 : Int) ≠ 0 by decide)
      have m4 := Int.emod_lt_of_pos (z / 97) (show (0 : Int) < 97 by decide)
      obtain ⟨acc, c1, c2, c3⟩ := bt.app (same_new nu) (x := (z1 - 30 + z % 97, z2 - 30 + z / 97 % 97)) ⟨u, rfl, upd_same⟩ (by omega)
      refine ⟨D, acc, _, rfl, rfl, c1, c2, ⟨_, _, _, _, rfl⟩, _, ?_, c3, fun q hq => ?_⟩
      · rw [List.length_append, hps]
        rfl
      · rcases List.mem_append.mp hq with h | h
        · exact hb q h
        · rw [List.mem_singleton] at h
          subst h
          dsimp only
          omega
    · rintro σ H' ⟨⟨a, b, c, d, rfl⟩, ps, hps, bt, hb⟩
      exact ⟨_, rfl, k H' D ps (sRU.free nD) (bt.from_ sRU) (by omega) hb⟩
end
end KB
end

section
set_option Elab.async false
set_option linter.all false
set_option maxRecDepth 100000
set_option maxHeartbeats 400000
/-! _law_bent -/
namespace KB
open PySem PySem.Spec PyProof.Rows L2
theorem seq_join {A B : TS} {D : Ends} {σ : L2.St} {H : Hp} (Pc : L2.St → Hp → Prop) (hA : ∀ U : L2.St → Hp → Prop, (∀ σ' H', Pc σ' H' → U σ' H') → A { D with nx := U } σ H) (hB : ∀ σ' H', Pc σ' H' → B D σ' H') : tSeq A B D σ H := hA _ hB
theorem Paired.set {α : Type} {R : V → α → Prop} {v : V} {x : α} (r : R v x) : ∀ {vs : List V} {l : List α} (k : Nat), Paired R vs l → Paired R (vs.set k v) (l.set k x)
  | _, _, _, .nil => .nil
  | _, _, 0, .cons _ t => .cons r t
  | _, _, k + 1, .cons h t => .cons h (Paired.set r k t)
theorem Bt.set {α : Type} {R : Rel α} [Mn R] {H0 H : Hp} {D : Addr} {l : List α} {vs : List V} {v : V} {x : α} {k : Nat} (b : Bt R H0 H D l) (e : H D = some (.lst vs)) (r : R H v x) : Bt R H0 (upd H D (.lst (vs.set k v))) D (l.set k x) := by
  obtain ⟨ws, e', p⟩ := b.ls
  rw [e] at e'
  cases e'
  have kt : KT H (L2.upd H D (.lst (vs.set k v))) := KT.upd e fun _ z => by cases z
  exact ⟨b.nd, same_upd b.nd b.sm, _, upd_same, Paired.upd kt (Paired.set r k p)⟩
/-- all but one -/
def but (l : List Nat) (a : Nat) : List Nat := l.filterMap fun i => if i = a then none else some i
theorem but_nd {l : List Nat} {a : Nat} (h : l.Nodup) : (but l a).Nodup := by
  unfold but
  show List.Pairwise _ _
  rw [List.pairwise_filterMap]
  refine List.Pairwise.imp (fun {x y} h s hs t ht => ?_) h
  split at hs <;> split at ht
  · cases hs
  · cases hs
  · cases ht
  · cases hs
    cases ht
    exact h
theorem but_len : ∀ {l : List Nat} {a : Nat}, l.Nodup → l.length ≤ (but l a).length + 1
  | [], _, _ => by simp
  | x :: l, a, h => by
    rw [List.nodup_cons] at h
    unfold but
    rw [List.filterMap_cons]
    by_cases c : x = a
    · have e : l.filterMap (fun i => if i = a then none else some i) = l := by
        have hn := h.1
        rw [c] at hn
        clear h c
        induction l with
        | nil => rfl
        | cons y l ih =>
          rw [List.filterMap_cons, if_neg (fun e => hn (by rw [e]; exact List.mem_cons_self))]
          dsimp only
          rw [ih fun z => hn (List.mem_cons_of_mem _ z)]
      simp only [c, if_true]
      rw [e]
      simp
    · have := but_len (a := a) h.2
      unfold but at this
      simp only [if_neg c, List.length_cons]
      omega
theorem but_mem {l : List Nat} {a x : Nat} (h : x ∈ but l a) : x ∈ l := by
  obtain ⟨y, hy, e⟩ := List.mem_filterMap.mp h
  split at e
  · cases e
  · cases e
    exact hy
def InB (lo hi : Int) (ps : List (Int × Int)) : Prop := ∀ q ∈ ps, lo ≤ q.1 ∧ q.1 ≤ hi ∧ lo ≤ q.2 ∧ q.2 ≤ hi
theorem InB.at_ {lo hi : Int} {ps : List (Int × Int)} (h : InB lo hi ps) {i : Nat} (hi' : i < ps.length) : lo ≤ cx ps i ∧ cx ps i ≤ hi ∧ lo ≤ cy ps i ∧ cy ps i ≤ hi := by
  have e : ps.getD i (0, 0) = ps[i] := by simp [hi']
  have := h ps[i] (List.getElem_mem hi')
  unfold cx cy
  rw [e]
  exact this
theorem InB.set {lo hi : Int} {ps : List (Int × Int)} (h : InB lo hi ps) {k : Nat} {q : Int × Int} (hq : lo ≤ q.1 ∧ q.1 ≤ hi ∧ lo ≤ q.2 ∧ q.2 ≤ hi) : InB lo hi (ps.set k q) := fun p hp => by
  rcases List.mem_or_eq_of_mem_set hp with h' | h'
  · exact h p h'
  · rw [h']
    exact hq
def spBent : Sp := fun vs H Q _ => ∃ (l : Addr) (c : Int) (ps : List (Int × Int)), vs = [.ref l, .int c] ∧ LsAt RP H l ps ∧ 3 ≤ ps.length ∧ ps.length ≤ 10 ∧ InB (-30) 136 ps ∧
  ∀ H' p ps', H p = none → Bt RP H H' p ps' → ps'.length = ps.length → InB (-1000000) 1000000 ps' → Q (.ref p) H'
abbrev nBe : List Str := ["_law_points_here", "_law_c", "_law_many", "_law_bent_here", "_law_a", "_law_rest", "_law_b", "_law_k", "_law_x", "_law_grow", "_law_i", "_law_y"]
theorem scBe : FnScope nBe ["_law_points_here", "_law_c"] (defScope (topS 68)) := ⟨rfl, rfl, rfl, by decide +kernel, rfl, by decide +kernel, by decide +kernel⟩
theorem gPtL {K : PySem.W.Frag} {σ : L2.St} {H : Hp} {t0 t1 : TE} {tp : Addr} {ps : List (Int × Int)} {i : Nat} (h0 : Gv t0 σ H (.ref tp)) (h1 : Gv t1 σ H (.int i)) (hT : LsAt RP H tp ps) (hi : i < ps.length) :
    ∃ a, Gv (tOp (rIxL K) t0 t1) σ H (.ref a) ∧ H a = some (.tup [.int (cx ps i), .int (cy ps i)]) := by
  obtain ⟨vs, e, p⟩ := hT
  obtain ⟨v, ev, a, rfl, ea⟩ := paired_idx (0, 0) i p hi
  exact ⟨a, gIxL h0 h1 (SqL.of e) (atI_nat ev), ea⟩
theorem mulB {x g : Int} (h1 : -196 ≤ x) (h2 : x ≤ 302) (h3 : 0 ≤ g) (h4 : g ≤ 3000) : -1000000 ≤ x * g ∧ x * g ≤ 1000000 := by
  have a1 : -196 * g ≤ x * g := Int.mul_le_mul_of_nonneg_right h1 h3
  have a2 : x * g ≤ 302 * g := Int.mul_le_mul_of_nonneg_right h2 h3
  omega
theorem emodNat (x : Int) {n : Nat} (h : 0 < n) : ∃ a : Nat, x % (n : Int) = (a : Int) ∧ a < n := by
  have h1 := Int.emod_nonneg x (show (n : Int) ≠ 0 by omega)
  have h2 := Int.emod_lt_of_pos x (show (0 : Int) < n by omega)
  exact ⟨(x % n).toNat, by omega, by omega⟩
theorem ixN_nat {n j : Nat} (h : j < n) : ixN n (j : Int) = some j := by
  unfold ixN
  rw [if_pos (by omega), if_pos (by omega)]
  simp
theorem getN {H : Hp} {B : Addr} {l : List Nat} {j : Nat} {K : PySem.W.Frag} (h : LsAt RN H B l) (hj : j < l.length) : ∃ vs, SqL K H B vs ∧ ∃ x, x ∈ l ∧ atI vs (j : Int) = some (.int (x : Nat)) := by
  obtain ⟨vs, e, p⟩ := h
  obtain ⟨v, ev, r⟩ := paired_at j p (List.getElem?_eq_getElem hj)
  cases r
  exact ⟨vs, SqL.of e, l[j], List.getElem_mem hj, atI_nat ev⟩
section
variable {P : Program} {w : World} {K : PySem.W.Frag} {mg : Str → Option Value} {base : Heap}
theorem ok_bent {f : Addr} {fd : FuncData} (F : Fun K "_law_bent" "_law_bent" (topS 68) f fd) (mL : mg "len" = none) (mI : mg "int" = none) (mR : mg "range" = none) (mLi : mg "list" = none) : FnOk P w K mg base CX0 1 f fd ["_law_points_here", "_law_c"] spBent := by
  refine F.ok scBe (fun vs H Q E h => ?_) (fun cdv A outer s H vs Q E hr h => ⟨_,
    pss_cons (ps_set (i := 2) scBe.nd rfl (Or.inl rfl) (pe_callB call_len_seq (by rfl) mL PySem.boot_len (pa_cons (pv 0) pa_nil)))
    (pss_cons (ps_set (i := 3) scBe.nd rfl (Or.inl rfl) (pe_callTy call_list_of (by rfl) mLi (by decide +kernel) (pa_cons (pv 0) pa_nil)))
    (pss_cons (ps_if (pt_cmpR op_eq (pe_op op_mod (pe_callTy call_int1 (by rfl) mI (by decide +kernel) (pa_cons (pv 1) pa_nil)) pe_int) pe_int (nomark _))
      (pss_cons (ps_set (i := 4) scBe.nd rfl (Or.inr rfl) (pe_op op_mod (pe_op op_mod (pe_callTy call_int1 (by rfl) mI (by decide +kernel) (pa_cons (pe_op op_fdiv (pv 1) pe_int) pa_nil)) pe_int) (pv 2)))
      (pss_cons (ps_setLc (i := 5) (own := [("_law_i", 10)]) (g := gName 10) rfl scBe.nd rfl rfl (sw_true rfl rfl rfl (by decide +kernel)) (pi_range1 (by rfl) mR (pa_cons (pv 2) pa_nil)) (blkOk_by (N := nBe) (sc := defScope (topS 68)) (by decide +kernel))
        (fun _ _ _ _ _ => pg_name (i := 10) scBe.nd rfl (Or.inl rfl)) (fun _ _ _ _ _ => pts_one (pt_cmpR op_ne (pv 10) (pv 4) (nomark _))) (fun _ _ _ _ _ => pv 10))
      (pss_cons (ps_set (i := 6) scBe.nd rfl (Or.inr rfl) (pe_ix ix_list (pv 5) (pe_op op_mod (pe_op op_mod (pe_callTy call_int1 (by rfl) mI (by decide +kernel) (pa_cons (pe_op op_fdiv (pv 1) pe_int) pa_nil)) pe_int) (pe_op op_sub (pv 2) pe_int)) (fun _ _ => rfl)))
      (pss_cons (ps_setLc (i := 5) (own := [("_law_i", 10)]) (g := gName 10) rfl scBe.nd rfl rfl (sw_true rfl rfl rfl (by decide +kernel)) (pi_list (pv 5)) (blkOk_by (N := nBe) (sc := defScope (topS 68)) (by decide +kernel))
        (fun _ _ _ _ _ => pg_name (i := 10) scBe.nd rfl (Or.inl rfl)) (fun _ _ _ _ _ => pts_one (pt_cmpR op_ne (pv 10) (pv 6) (nomark _))) (fun _ _ _ _ _ => pv 10))
      (pss_cons (ps_set (i := 7) scBe.nd rfl (Or.inl rfl) (pe_ix ix_list (pv 5) (pe_op op_mod (pe_op op_mod (pe_callTy call_int1 (by rfl) mI (by decide +kernel) (pa_cons (pe_op op_fdiv (pv 1) pe_int) pa_nil)) pe_int) (pe_op op_sub (pv 2) pe_int)) (fun _ _ => rfl)))
      (pss_cons (ps_asg (pe_ix ix_list (pv 0) (pv 4) (fun _ _ => rfl)) (pg_sub (pv 3) (pv 7) set_list))
      (pss_one (ps_if (pt_cmpR op_eq (pe_op op_mod (pe_callTy call_int1 (by rfl) mI (by decide +kernel) (pa_cons (pe_op op_fdiv (pv 1) pe_int) pa_nil)) pe_int) pe_int (nomark _))
        (pss_cons (ps_set (i := 8) scBe.nd rfl (Or.inl rfl) (pe_op op_sub (pe_op op_mul pe_int (pe_ix ix_tup (pe_ix ix_list (pv 0) (pv 6) (fun _ _ => rfl)) pe_int (fun _ _ => rfl))) (pe_ix ix_tup (pe_ix ix_list (pv 0) (pv 4) (fun _ _ => rfl)) pe_int (fun _ _ => rfl))))
        (pss_one (ps_asg (pe_tup (pa_cons (pv 8) (pa_cons (pe_op op_sub (pe_op op_mul pe_int (pe_ix ix_tup (pe_ix ix_list (pv 0) (pv 6) (fun _ _ => rfl)) pe_int (fun _ _ => rfl))) (pe_ix ix_tup (pe_ix ix_list (pv 0) (pv 4) (fun _ _ => rfl)) pe_int (fun _ _ => rfl))) pa_nil))) (pg_sub (pv 3) (pv 7) set_list)))) pss_nil)))))))) pss_nil)
    (pss_cons (ps_if (pt_cmpR op_eq (pe_op op_mod (pe_callTy call_int1 (by rfl) mI (by decide +kernel) (pa_cons (pe_op op_fdiv (pv 1) pe_int) pa_nil)) pe_int) pe_int (nomark _))
      (pss_cons (ps_set (i := 9) scBe.nd rfl (Or.inr rfl) (pe_op op_add pe_int (pe_op op_mod (pe_callTy call_int1 (by rfl) mI (by decide +kernel) (pa_cons (pe_op op_fdiv (pv 1) pe_int) pa_nil)) pe_int)))
      (pss_one (ps_setLc (i := 3) (own := [("_law_x", 8), ("_law_y", 11)]) (g := gTup K 2 (gCons (gName 8) (gCons (gName 11) gNil))) (tt := tYes) rfl scBe.nd rfl rfl (sw_true rfl rfl rfl (by decide +kernel)) (pi_list (pv 3)) (blkOk_by (N := nBe) (sc := defScope (topS 68)) (by decide +kernel))
        (fun _ _ _ _ _ => pg_tup rfl (pgs_cons (pg_name (i := 8) scBe.nd rfl (Or.inl rfl)) (pgs_cons (pg_name (i := 11) scBe.nd rfl (Or.inl rfl)) pgs_nil))) (fun _ _ _ _ _ => pts_nil)
        (fun _ _ _ _ _ => pe_tup (pa_cons (pe_op op_mul (pv 8) (pv 9)) (pa_cons (pe_op op_mul (pv 11) (pv 9)) pa_nil)))))) pss_nil)
    (pss_one (ps_ret (pv 3)))))), ?_⟩)
  · obtain ⟨l, c, ps, rfl, _⟩ := h
    rfl
  · obtain ⟨l, c, ps, rfl, hL, h3, h10, hb, k⟩ := h
    obtain ⟨vs, ev, pvs⟩ := hL
    have hlen : vs.length = ps.length := pvs.length
    refine ⟨_, rfl, l, vs, rfl, .inl (SqL.of ev), ?_⟩
    rw [hlen]
    refine ⟨_, rfl, l, vs, rfl, .inl (SqL.of ev), fun D nD => ?_⟩
    have b0 : Bt RP H (upd H D (.lst vs)) D ps := ⟨nD, same_new nD, vs, upd_same, Paired.upd (KT.of (same_new nD)) pvs⟩
    dsimp only [gName]
    refine seq_join (fun σ' H' => ∃ p4 p5 p6 p7 p8 p9 p10 p11 ps', σ' = [some (.ref l), some (.int c), some (.int (ps.length : Nat)), some (.ref D), p4, p5, p6, p7, p8, p9, p10, p11] ∧ Bt RP H H' D ps' ∧ ps'.length = ps.length ∧ InB (-196) 302 ps') (fun U hU => ?_) ?_
    · refine tEqI (gMod (gInt (gVar rfl)) gC (by decide)) gC (fun _ => ?_) fun _ => hU _ _ ⟨_, _, _, _, _, _, _, _, ps, rfl, b0, rfl, fun q hq => by have := hb q hq; omega⟩
      obtain ⟨a, ea, ha⟩ := emodNat (c / 10 % 10) (n := ps.length) (by omega)
      refine gMod (gMod (gInt (gDiv (gVar rfl) gC ⟨by decide, by decide⟩)) gC (by decide)) (gVar rfl) (show (0 : Int) < (ps.length : Nat) by omega) _ ?_
      rw [ea]
      refine ⟨_, rfl, _, rfl, by omega, by omega, fun B1 nB1 => lcB_range (Ro := RN) (n := ((ps.length : Nat) : Int).toNat) (f := fun i => if i = a then none else some i) nB1 (by omega) (fun i H2 hi s2 K1 K2 h1 h2 => ?_) fun H2 b2 => ?_⟩
      · refine ⟨rfl, tNeI (gVar rfl) (gVar rfl) (fun c => ?_) fun c => ?_⟩
        · refine ⟨_, rfl, h1 _ _ i (if_neg (by omega)) (Same.refl _) ?_⟩
          show V.int (0 + (i : Int)) = V.int i
          rw [Int.zero_add]
        · exact h2 _ (if_pos (by omega)) (Same.refl _)
      have en : ((ps.length : Nat) : Int).toNat = ps.length := by omega
      rw [en] at b2
      have b2 : Bt RN _ H2 B1 (but (List.range ps.length) a) := b2
      have nd1 : (but (List.range ps.length) a).Nodup := but_nd List.nodup_range
      have ln1 := but_len (l := List.range ps.length) (a := a) List.nodup_range
      rw [List.length_range] at ln1
      obtain ⟨j1, ej1, hj1⟩ := emodNat (c / 100 % 10) (n := ps.length - 1) (by omega)
      have ec1 : ((ps.length - 1 : Nat) : Int) = ((ps.length : Nat) : Int) - 1 := by omega
      rw [ec1] at ej1
      obtain ⟨us, eus, b, hbm, eb⟩ := getN (K := K) b2.ls (j := j1) (by omega)
      rw [← ej1] at eb
      refine gIxL (gVar rfl) (gMod (gMod (gInt (gDiv (gVar rfl) gC ⟨by decide, by decide⟩)) gC (by decide)) (gSub (gVar rfl) gC) (by omega)) eus eb _ ?_
      obtain ⟨ws, ews, pws⟩ := b2.ls
      refine ⟨_, rfl, B1, rfl, ⟨_, SqL.of ews⟩, fun B2 nB2 => lcB_list (Ri := RN) (Ro := RN) (l := but (List.range ps.length) a) (f := fun i => if i = b then none else some i) nB2 (SqL.of ews) pws (by have := List.length_filterMap_le (fun i => if i = a then none else some i) (List.range ps.length); rw [List.length_range] at this; unfold but; omega) (fun x v H3 hx s3 r3 K1 K2 h1 h2 => ?_) fun H3 b3 => ?_⟩
      · cases r3
        refine ⟨rfl, tNeI (gVar rfl) (gVar rfl) (fun c => ?_) fun c => ?_⟩
        · exact ⟨_, rfl, h1 _ _ x (if_neg (by omega)) (Same.refl _) rfl⟩
        · exact h2 _ (if_pos (by omega)) (Same.refl _)
      have b3 : Bt RN _ H3 B2 (but (but (List.range ps.length) a) b) := b3
      have ln2 := but_len (a := b) nd1
      obtain ⟨j2, ej2, hj2⟩ := emodNat (c / 1000 % 10) (n := ps.length - 2) (by omega)
      have ec2 : ((ps.length - 2 : Nat) : Int) = ((ps.length : Nat) : Int) - 2 := by omega
      rw [ec2] at ej2
      obtain ⟨us3, eus3, kk, hkm, ek⟩ := getN (K := K) b3.ls (j := j2) (by omega)
      rw [← ej2] at ek
      refine gIxL (gVar rfl) (gMod (gMod (gInt (gDiv (gVar rfl) gC ⟨by decide, by decide⟩)) gC (by decide)) (gSub (gVar rfl) gC) (by omega)) eus3 ek _ ?_
      have hbn : b < ps.length := List.mem_range.mp (but_mem hbm)
      have hkn : kk < ps.length := List.mem_range.mp (but_mem (but_mem hkm))
      have b0' : Bt RP H H3 D ps := b0.same (b2.sm.trans b3.sm)
      have hL3 : LsAt RP H3 l ps := LsAt.same b0'.sm ⟨vs, ev, pvs⟩
      obtain ⟨pa, ga, eqa⟩ := gPtL (K := K) (σ := [some (.ref l), some (.int c), some (.int (ps.length : Nat)), some (.ref D), some (.int (a : Int)), some (.ref B2), some (.int (b : Int)), some (.int (kk : Int)), none, none, none, none]) (t0 := tVar 0) (t1 := tVar 4) (gVar rfl) (gVar rfl) hL3 ha
      obtain ⟨dv, edv, pdv⟩ := b0'.ls
      have hdl : dv.length = ps.length := pdv.length
      refine ga _ ⟨_, rfl, _, rfl, D, dv, kk, kk, rfl, rfl, edv, ixN_nat (by omega), ?_⟩
      have b4 : Bt RP H (upd H3 D (.lst (dv.set kk (.ref pa)))) D (ps.set kk (cx ps a, cy ps a)) := b0'.set edv ⟨pa, rfl, eqa⟩
      have iB := hb.at_ ha
      have iB2 := hb.at_ hbn
      refine tEqI (gMod (gInt (gDiv (gVar rfl) gC ⟨by decide, by decide⟩)) gC (by decide)) gC (fun _ => ?_) fun _ => hU _ _ ⟨_, _, _, _, _, _, _, _, _, rfl, b4, by rw [List.length_set], InB.set (fun q hq => by have := hb q hq; omega) (by dsimp only; omega)⟩
      have hL4 : LsAt RP _ l ps := LsAt.same b4.sm ⟨vs, ev, pvs⟩
      obtain ⟨pb4, gb4, eb4⟩ := gPtL (K := K) (σ := [some (.ref l), some (.int c), some (.int (ps.length : Nat)), some (.ref D), some (.int (a : Int)), some (.ref B2), some (.int (b : Int)), some (.int (kk : Int)), none, none, none, none]) (t0 := tVar 0) (t1 := tVar 6) (gVar rfl) (gVar rfl) hL4 hbn
      obtain ⟨pa4, ga4, ea4⟩ := gPtL (K := K) (σ := [some (.ref l), some (.int c), some (.int (ps.length : Nat)), some (.ref D), some (.int (a : Int)), some (.ref B2), some (.int (b : Int)), some (.int (kk : Int)), none, none, none, none]) (t0 := tVar 0) (t1 := tVar 4) (gVar rfl) (gVar rfl) hL4 ha
      obtain ⟨pb5, gb5, eb5⟩ := gPtL (K := K) (σ := [some (.ref l), some (.int c), some (.int (ps.length : Nat)), some (.ref D), some (.int (a : Int)), some (.ref B2), some (.int (b : Int)), some (.int (kk : Int)), some (.int (2 * cx ps b - cx ps a)), none, none, none]) (t0 := tVar 0) (t1 := tVar 6) (gVar rfl) (gVar rfl) hL4 hbn
      obtain ⟨pa5, ga5, ea5⟩ := gPtL (K := K) (σ := [some (.ref l), some (.int c), some (.int (ps.length : Nat)), some (.ref D), some (.int (a : Int)), some (.ref B2), some (.int (b : Int)), some (.int (kk : Int)), some (.int (2 * cx ps b - cx ps a)), none, none, none]) (t0 := tVar 0) (t1 := tVar 4) (gVar rfl) (gVar rfl) hL4 ha
      have c2 : ∀ j : Int, CMul 2 j := fun j => .inl ⟨by decide, by decide⟩
      refine gSub (gMul gC (gIx gb4 gC eb4 at0) (c2 _)) (gIx ga4 gC ea4 at0) _ ?_
      refine ⟨_, rfl, gSub (gMul gC (gIx gb5 gC eb5 at1) (c2 _)) (gIx ga5 gC ea5 at1) _ ⟨by show 2 ≤ sizeLine; decide, fun u nu => ?_⟩⟩
      have b5 := b4.same (same_new (o := .tup [.int (2 * cx ps b - cx ps a), .int (2 * cy ps b - cy ps a)]) nu)
      obtain ⟨dv5, edv5, pdv5⟩ := b5.ls
      have hdl5 : dv5.length = ps.length := by rw [pdv5.length, List.length_set]
      refine ⟨_, rfl, _, rfl, D, dv5, kk, kk, rfl, rfl, edv5, ixN_nat (by omega), hU _ _ ⟨_, _, _, _, _, _, _, _, _, rfl, b5.set (x := (2 * cx ps b - cx ps a, 2 * cy ps b - cy ps a)) edv5 ⟨u, rfl, upd_same⟩, by rw [List.length_set, List.length_set], InB.set (InB.set (fun q hq => by have := hb q hq; omega) (by dsimp only; omega)) (by dsimp only; omega)⟩⟩
    · rintro σ' H' ⟨p4, p5, p6, p7, p8, p9, p10, p11, ps', rfl, b1, hl', hb'⟩
      refine tEqI (gMod (gInt (gDiv (gVar rfl) gC ⟨by decide, by decide⟩)) gC (by decide)) gC (fun _ => ?_) fun _ => ?_
      · have m1 := Int.emod_nonneg (c / 40000) (show (3000 : Int) ≠ 0 by decide)
        have m2 := Int.emod_lt_of_pos (c / 40000) (show (0 : Int) < 3000 by decide)
        refine gAdd gC (gMod (gInt (gDiv (gVar rfl) gC ⟨by decide, by decide⟩)) gC (by decide)) _ ?_
        obtain ⟨dv, edv, pdv⟩ := b1.ls
        refine ⟨_, rfl, D, rfl, ⟨_, SqL.of edv⟩, fun B nB => lcB_list (Ri := RP) (Ro := RP) (l := ps') (f := fun q => some (q.1 * (1 + c / 40000 % 3000), q.2 * (1 + c / 40000 % 3000))) nB (SqL.of edv) pdv (by omega) (fun q v H2 hq s2 r2 K1 K2 h1 h2 => ?_) fun H2 b2 => ?_⟩
        · obtain ⟨t, rfl, et⟩ := r2
          have bq := hb' q hq
          have cm : ∀ x : Int, CMul x (1 + c / 40000 % 3000) := fun x => .inr ⟨by omega, by omega⟩
          exact ⟨t, _, rfl, SqT.of et, rfl, unp (unp ⟨rfl, rfl, yesI (gMul (gVar rfl) (gVar rfl) (cm _) _ (gMul (gVar rfl) (gVar rfl) (cm _) _ ⟨by show 2 ≤ sizeLine; decide, fun u nu => h1 _ _ _ rfl (same_new nu) ⟨u, rfl, upd_same⟩⟩))⟩)⟩
        · rw [filterMap_some] at b2
          refine ⟨_, rfl, k H2 B _ (b1.sm.free nB) (b2.from_ b1.sm) (by rw [List.length_map, hl']) fun q hq => ?_⟩
          obtain ⟨p, hp, rfl⟩ := List.mem_map.mp hq
          have bp := hb' p hp
          have e1 := mulB (x := p.1) (g := 1 + c / 40000 % 3000) (by omega) (by omega) (by omega) (by omega)
          have e2 := mulB (x := p.2) (g := 1 + c / 40000 % 3000) (by omega) (by omega) (by omega) (by omega)
          exact ⟨e1.1, e1.2, e2.1, e2.2⟩
      · exact ⟨_, rfl, k H' D ps' nD b1 hl' fun q hq => by have := hb' q hq; omega⟩
end
end KB
end

section
set_option Elab.async false
set_option linter.all false
set_option maxRecDepth 100000
set_option maxHeartbeats 400000
/-! _law_height, _law_heights, _law_changed -/
namespace KB
open PySem PySem.Spec PyProof.Rows L2
def ab (i B : Int) : Prop := -B ≤ i ∧ i ≤ B
theorem ab_mul {a b A B : Int} (h1 : ab a A) (h2 : ab b B) : ab (a * b) (A * B) := by
  unfold ab at *
  have e1 : a.natAbs ≤ A.toNat := by omega
  have e2 : b.natAbs ≤ B.toNat := by omega
  have e3 := Nat.mul_le_mul e1 e2
  rw [← Int.natAbs_mul] at e3
  have e4 : ((A.toNat * B.toNat : Nat) : Int) = A * B := by
    rw [Int.natCast_mul, Int.toNat_of_nonneg (by omega), Int.toNat_of_nonneg (by omega)]
  omega
theorem ab_sq {w B : Int} (h : ab w B) : ab (w ^ (2 : Int).toNat) (B * B) := by
  have e : w ^ (2 : Int).toNat = w * w := by
    show w ^ 2 = _
    rw [Int.pow_succ, Int.pow_succ, Int.pow_zero, Int.one_mul]
  rw [e]
  exact ab_mul h h
theorem ab_add {a b A B : Int} (h1 : ab a A) (h2 : ab b B) : ab (a + b) (A + B) := by
  unfold ab at *
  omega
theorem ab_cm {a B : Int} (h : ab a B) (hB : B < 2 ^ 64) : CMul a b := by
  unfold ab at h
  exact .inl ⟨by omega, by omega⟩
theorem gPow2 {σ : L2.St} {H : Hp} {ta : TE} {w B : Int} (h1 : Gv ta σ H (.int w)) (hw : ab w B) (hB : B < 2 ^ 64) : Gv (tOp (rI CPow fun i j => .int (i ^ j.toNat)) ta (tC (.int 2))) σ H (.int (w ^ (2 : Int).toNat)) := by
  unfold ab at hw
  exact gI h1 gC ⟨by decide, by decide, by omega⟩
def spHeight : Sp := fun vs H Q _ => ∃ x y z k c : Int, vs = [.int x, .int y, .int z, .int k, .int c] ∧ ab x 1000000 ∧ ab y 1000000 ∧ ab z 1000000 ∧ ∀ i, ab i 200000000000000 → Q (.int i) H
abbrev nHe : List Str := ["_law_x", "_law_y", "_law_z", "_law_kind", "_law_c", "_law_u", "_law_v", "_law_s", "_law_t", "_law_ring"]
theorem scHe : FnScope nHe ["_law_x", "_law_y", "_law_z", "_law_kind", "_law_c"] (defScope (topS 69)) := ⟨rfl, rfl, rfl, by decide +kernel, rfl, by decide +kernel, by decide +kernel⟩
section
variable {P : Program} {w : World} {K : PySem.W.Frag} {mg : Str → Option Value} {base : Heap}
theorem ok_height {f : Addr} {fd : FuncData} (F : Fun K "_law_height" "_law_height" (topS 69) f fd) (mI : mg "int" = none) (mM : mg "max" = none) : FnOk P w K mg base CX0 1 f fd ["_law_x", "_law_y", "_law_z", "_law_kind", "_law_c"] spHeight := by
  refine F.ok scHe (fun vs H Q E h => ?_) (fun cdv A outer s H vs Q E hr h => ⟨_,
    pss_cons (ps_set (i := 5) scHe.nd rfl (Or.inl rfl) (pe_op op_add pe_int (pe_op op_mod (pe_callTy call_int1 (by rfl) mI (by decide +kernel) (pa_cons (pv 4) pa_nil)) pe_int)))
    (pss_cons (ps_set (i := 6) scHe.nd rfl (Or.inl rfl) (pe_op op_sub (pe_op op_mod (pe_callTy call_int1 (by rfl) mI (by decide +kernel) (pa_cons (pe_op op_fdiv (pv 4) pe_int) pa_nil)) pe_int) pe_int))
    (pss_cons (ps_set (i := 7) scHe.nd rfl (Or.inl rfl) (pe_op op_sub (pe_op op_mod (pe_callTy call_int1 (by rfl) mI (by decide +kernel) (pa_cons (pe_op op_fdiv (pv 4) pe_int) pa_nil)) pe_int) pe_int))
    (pss_cons (ps_set (i := 8) scHe.nd rfl (Or.inl rfl) (pe_op op_add pe_int (pe_op op_mod (pe_callTy call_int1 (by rfl) mI (by decide +kernel) (pa_cons (pe_op op_fdiv (pv 4) pe_int) pa_nil)) pe_int)))
    (pss_cons (ps_set (i := 9) scHe.nd rfl (Or.inl rfl) (pe_op op_add (pe_op op_mul (pv 0) (pv 0)) (pe_op op_mul (pv 1) (pv 1))))
    (pss_cons (ps_if (pt_cmpR op_eq (pv 3) pe_int (nomark _)) (pss_one (ps_ret (pv 2))) pss_nil)
    (pss_cons (ps_if (pt_cmpR op_eq (pv 3) pe_int (nomark _)) (pss_one (ps_ret (pv 9))) pss_nil)
    (pss_cons (ps_if (pt_cmpR op_eq (pv 3) pe_int (nomark _)) (pss_one (ps_ret (pe_op op_add (pe_op op_mul (pv 5) (pv 9)) (pe_op op_pow (pe_op op_add (pe_op op_mul (pv 6) (pv 0)) (pe_op op_mul (pv 7) (pv 1))) pe_int)))) pss_nil)
    (pss_cons (ps_if (pt_cmpR op_eq (pv 3) pe_int (nomark _)) (pss_one (ps_ret (pe_op op_add (pe_op op_pow (pe_op op_add (pe_op op_mul (pv 5) (pv 0)) (pe_op op_mul (pv 6) (pv 1))) pe_int) (pe_op op_pow (pe_op op_add (pe_op op_mul (pv 7) (pv 0)) (pe_op op_mul (pv 8) (pv 1))) pe_int)))) pss_nil)
    (pss_cons (ps_if (pt_cmpR op_eq (pv 3) pe_int (nomark _)) (pss_one (ps_ret (pe_op op_add (pv 9) (pv 2)))) pss_nil)
    (pss_one (ps_ret (pe_callB (call_max2 rfl) (by rfl) mM (by decide +kernel) (pa_cons (pe_op op_mul (pv 5) (pv 9)) (pa_cons (pe_callTy call_int1 (by rfl) mI (by decide +kernel) (pa_cons (pe_op op_add (pe_op op_pow (pe_op op_add (pe_op op_mul (pv 6) (pv 0)) (pe_op op_mul (pv 7) (pv 1))) pe_int) (pe_op op_mul pe_int (pv 8))) pa_nil)) pa_nil)))))))))))))), ?_⟩)
  · obtain ⟨x, y, z, k, c, rfl, _⟩ := h
    rfl
  · obtain ⟨x, y, z, k, c, rfl, hx, hy, hz, q⟩ := h
    refine gAdd gC (gMod (gInt (gVar rfl)) gC (by decide)) _ ?_
    refine gSub (gMod (gInt (gDiv (gVar rfl) gC ⟨by decide, by decide⟩)) gC (by decide)) gC _ ?_
    refine gSub (gMod (gInt (gDiv (gVar rfl) gC ⟨by decide, by decide⟩)) gC (by decide)) gC _ ?_
    refine gAdd gC (gMod (gInt (gDiv (gVar rfl) gC ⟨by decide, by decide⟩)) gC (by decide)) _ ?_
    have u1 := Int.emod_nonneg c (show (4 : Int) ≠ 0 by decide)
    have u2 := Int.emod_lt_of_pos c (show (0 : Int) < 4 by decide)
    have v1 := Int.emod_nonneg (c / 4) (show (7 : Int) ≠ 0 by decide)
    have v2 := Int.emod_lt_of_pos (c / 4) (show (0 : Int) < 7 by decide)
    have s1 := Int.emod_nonneg (c / 28) (show (7 : Int) ≠ 0 by decide)
    have s2 := Int.emod_lt_of_pos (c / 28) (show (0 : Int) < 7 by decide)
    have t1 := Int.emod_nonneg (c / 196) (show (4 : Int) ≠ 0 by decide)
    have t2 := Int.emod_lt_of_pos (c / 196) (show (0 : Int) < 4 by decide)
    have hu : ab (1 + c % 4) 4 := ⟨by omega, by omega⟩
    have hv : ab (c / 4 % 7 - 3) 3 := ⟨by omega, by omega⟩
    have hs : ab (c / 28 % 7 - 3) 3 := ⟨by omega, by omega⟩
    have ht : ab (1 + c / 196 % 4) 4 := ⟨by omega, by omega⟩
    generalize 1 + c % 4 = u at hu ⊢
    generalize c / 4 % 7 - 3 = v at hv ⊢
    generalize c / 28 % 7 - 3 = s at hs ⊢
    generalize 1 + c / 196 % 4 = t at ht ⊢
    refine gAdd (gMul (gVar rfl) (gVar rfl) (ab_cm hx (by decide))) (gMul (gVar rfl) (gVar rfl) (ab_cm hy (by decide))) _ ?_
    have hring := ab_add (ab_mul hx hx) (ab_mul hy hy)
    generalize x * x + y * y = ring at hring ⊢
    have w1 := ab_add (ab_mul hv hx) (ab_mul hs hy)
    have w2 := ab_add (ab_mul hu hx) (ab_mul hv hy)
    have w3 := ab_add (ab_mul hs hx) (ab_mul ht hy)
    have r1 := ab_mul hu hring
    have q1 := ab_sq w1
    have q2 := ab_sq w2
    have q3 := ab_sq w3
    refine tEqI (gVar rfl) gC (fun _ => ⟨_, rfl, q _ ?_⟩) fun _ => ?_
    · unfold ab at *
      omega
    refine tEqI (gVar rfl) gC (fun _ => ⟨_, rfl, q _ ?_⟩) fun _ => ?_
    · unfold ab at *
      omega
    refine tEqI (gVar rfl) gC (fun _ => ?_) fun _ => ?_
    · refine gAdd (gMul (gVar rfl) (gVar rfl) (ab_cm hu (by decide))) (gPow2 (gAdd (gMul (gVar rfl) (gVar rfl) (ab_cm hv (by decide))) (gMul (gVar rfl) (gVar rfl) (ab_cm hs (by decide)))) w1 (by decide)) _ (q _ ?_)
      have := ab_add r1 q1
      unfold ab at *
      omega
    refine tEqI (gVar rfl) gC (fun _ => ?_) fun _ => ?_
    · refine gAdd (gPow2 (gAdd (gMul (gVar rfl) (gVar rfl) (ab_cm hu (by decide))) (gMul (gVar rfl) (gVar rfl) (ab_cm hv (by decide)))) w2 (by decide)) (gPow2 (gAdd (gMul (gVar rfl) (gVar rfl) (ab_cm hs (by decide))) (gMul (gVar rfl) (gVar rfl) (ab_cm ht (by decide)))) w3 (by decide)) _ (q _ ?_)
      have := ab_add q2 q3
      unfold ab at *
      omega
    refine tEqI (gVar rfl) gC (fun _ => ?_) fun _ => ?_
    · refine gAdd (gVar rfl) (gVar rfl) _ (q _ ?_)
      unfold ab at *
      omega
    · have q4 : ab ((v * x + s * y) ^ (2 : Int).toNat + 1000 * t) 200000000000000 := by
        unfold ab at *
        omega
      refine gMul (gVar rfl) (gVar rfl) (ab_cm hu (by decide)) _ (gInt (gAdd (gPow2 (gAdd (gMul (gVar rfl) (gVar rfl) (ab_cm hv (by decide))) (gMul (gVar rfl) (gVar rfl) (ab_cm hs (by decide)))) w1 (by decide)) (gMul gC (gVar rfl) (.inl ⟨by decide, by decide⟩))) _ ⟨_, _, rfl, q _ ?_⟩)
      split
      · exact q4
      · unfold ab at *
        omega
end
end KB
end

section
set_option Elab.async false
set_option linter.all false
set_option maxRecDepth 100000
set_option maxHeartbeats 400000
/-! _law_heights, _law_changed -/
namespace KB
open PySem PySem.Spec PyProof.Rows L2
def spHeights : Sp := fun vs H Q _ => ∃ (l cl : Addr) (k : Int) (ps : List (Int × Int)) (ns : List Int), vs = [.ref l, .ref cl, .int k] ∧ LsAt RP H l ps ∧ ps.length ≤ 10 ∧ InB (-1000000) 1000000 ps ∧ LsAt RI H cl ns ∧
  ∀ H' p hs, H p = none → Bt RI H H' p hs → hs.length = ps.length → (∀ h ∈ hs, ab h 900000000000000) → Q (.ref p) H'
abbrev nHs : List Str := ["_law_points_here", "_law_cells", "_law_kind", "_law_low", "_law_lean", "_law_form", "_law_heights_here", "_law_i", "_law_x", "_law_y", "_law_z"]
theorem scHs : FnScope nHs ["_law_points_here", "_law_cells", "_law_kind"] (defScope (topS 70)) := ⟨rfl, rfl, rfl, by decide +kernel, rfl, by decide +kernel, by decide +kernel⟩
section
variable {P : Program} {w : World} {K : PySem.W.Frag} {mg : Str → Option Value} {base : Heap}
theorem rdCell {σ : L2.St} {H : Hp} {t1 t2 : TE} {l : Addr} {ns : List Int} {k : Nat} {Q : VK} (h1 : Gv t1 σ H (.ref l)) (h2 : Gv t2 σ H (.int k)) (hL : LsAt RI H l ns) (q : ∀ z : Int, Q (.int z) H) : tCall spCell [] E0 (tCons t1 (tCons t2 tNil)) σ H Q :=
  h1 _ (h2 _ ⟨l, ns, k, rfl, hL, q⟩)
theorem ok_heights {f fC fH fS : Addr} {fd fdC fdH fdS : FuncData} (F : Fun K "_law_heights" "_law_heights" (topS 70) f fd) (GC : Gd K mg "_law_cell" (topS 65) fC fdC) (GH : Gd K mg "_law_height" (topS 69) fH fdH) (GS : Gd K mg "_law_signed" (topS 66) fS fdS)
    (mL : mg "len" = none) (mI : mg "int" = none) (mR : mg "range" = none) (mM : mg "max" = none) : FnOk P w K mg base CX0 2 f fd ["_law_points_here", "_law_cells", "_law_kind"] spHeights := by
  have FC : FnOk P w K mg base CX0 1 fC fdC ["_law_cells", "_law_place"] spCell := ok_cell GC.F mL
  have FH : FnOk P w K mg base CX0 1 fH fdH ["_law_x", "_law_y", "_law_z", "_law_kind", "_law_c"] spHeight := ok_height GH.F mI mM
  have FS : FnOk P w K mg base CX0 1 fS fdS ["_law_c", "_law_odd"] spSigned := ok_signed GS.F mI
  have bC := GC.F.binds (ps := ["_law_cells", "_law_place"]) fun _ _ _ _ _ _ us hl => match us, hl with | [_, _], _ => rfl
  have bS := GS.F.binds (ps := ["_law_c", "_law_odd"]) fun _ _ _ _ _ _ us hl => match us, hl with | [_, _], _ => rfl
  have bH := GH.F.binds (ps := ["_law_x", "_law_y", "_law_z", "_law_kind", "_law_c"]) fun _ _ _ _ _ _ us hl => match us, hl with | [_, _, _, _, _], _ => rfl
  refine F.ok scHs (fun vs H Q E h => ?_) (fun cdv A outer s H vs Q E hr h => ⟨_,
    pss_cons (ps_set (i := 3) scHs.nd rfl (Or.inl rfl) (pe_lst (pa_cons pe_int (pa_cons pe_int (pa_cons pe_int (pa_cons pe_int (pa_cons pe_int (pa_cons pe_int (pa_cons pe_int (pa_cons pe_int (pa_cons pe_int (pa_cons pe_int pa_nil))))))))))))
    (pss_cons (ps_set (i := 4) scHs.nd rfl (Or.inl rfl) (pe_call FC hr rfl GC.g GC.F.kp bC .nil pass0 (pa_cons (pv 1) (pa_cons pe_int pa_nil))))
    (pss_cons (ps_set (i := 5) scHs.nd rfl (Or.inl rfl) (pe_call FC hr rfl GC.g GC.F.kp bC .nil pass0 (pa_cons (pv 1) (pa_cons pe_int pa_nil))))
    (pss_cons (ps_set (i := 6) scHs.nd rfl (Or.inl rfl) (pe_lst pa_nil))
    (pss_cons (ps_for PassesOwn.never rfl (pi_range1 (by rfl) mR (pa_cons (pe_callB call_len_seq (by rfl) mL PySem.boot_len (pa_cons (pv 0) pa_nil)) pa_nil)) (pg_name (i := 7) scHs.nd rfl (Or.inl rfl))
      (pss_cons (ps_asg (pe_ix ix_list (pv 0) (pv 7) (fun _ _ => rfl)) (pg_tup rfl (pgs_cons (pg_name (i := 8) scHs.nd rfl (Or.inl rfl)) (pgs_cons (pg_name (i := 9) scHs.nd rfl (Or.inl rfl)) pgs_nil))))
      (pss_cons (ps_set (i := 10) scHs.nd rfl (Or.inl rfl) (pe_op op_add (pe_op op_sub (pe_ix ix_list (pv 3) (pv 7) (fun _ _ => rfl)) pe_int) (pe_op op_mod (pe_callTy call_int1 (by rfl) mI (by decide +kernel) (pa_cons (pe_op op_fdiv (pe_call FC hr rfl GC.g GC.F.kp bC .nil pass0 (pa_cons (pv 1) (pa_cons (pe_op op_add pe_int (pv 7)) pa_nil))) pe_int) pa_nil)) pe_int)))
      (pss_cons (ps_set (i := 10) scHs.nd rfl (Or.inl rfl) (pe_op op_add (pv 10) (pe_op op_mod (pe_callTy call_int1 (by rfl) mI (by decide +kernel) (pa_cons (pe_call FC hr rfl GC.g GC.F.kp bC .nil pass0 (pa_cons (pv 1) (pa_cons (pe_op op_add pe_int (pv 7)) pa_nil))) pa_nil)) pe_int)))
      (pss_cons (ps_set (i := 10) scHs.nd rfl (Or.inl rfl) (pe_call FH hr rfl GH.g GH.F.kp bH .nil pass0 (pa_cons (pv 8) (pa_cons (pv 9) (pa_cons (pv 10) (pa_cons (pv 2) (pa_cons (pv 5) pa_nil)))))))
      (pss_cons (ps_set (i := 10) scHs.nd rfl (Or.inl rfl) (pe_op op_add (pv 10) (pe_op op_mul (pe_call FS hr rfl GS.g GS.F.kp bS .nil pass0 (pa_cons (pv 4) (pa_cons pe_int pa_nil))) (pv 8))))
      (pss_one (ps_expr (pe_bm PySem.F.plainAttrs_list PySem.F.slot_list_append PySem.F.type_list_append mt_append (pv 6) (pa_cons (pe_op op_add (pv 10) (pe_op op_mul (pe_call FS hr rfl GS.g GS.F.kp bS .nil pass0 (pa_cons (pe_op op_fdiv (pv 4) pe_int) (pa_cons pe_int pa_nil))) (pv 9))) pa_nil))))))))))
    (pss_one (ps_ret (pv 6))))))), ?_⟩)
  · obtain ⟨l, cl, k, ps, ns, rfl, _⟩ := h
    rfl
  · obtain ⟨l, cl, k, ps, ns, rfl, hL, hn, hb, hC, q⟩ := h
    refine ⟨by decide, fun R nR => ?_⟩
    have sR := same_new (o := .lst ([0, 5, 31, 12, 77, 40, 3, 55, 90, 18].map V.int)) nR
    refine rdCell (k := 12) (gVar rfl) gC (hC.same sR) fun lean => ?_
    refine rdCell (k := 13) (gVar rfl) gC (hC.same sR) fun form => ?_
    refine ⟨by decide, fun D nD => ?_⟩
    have sD := same_new (o := .lst []) nD
    have hL0 := hL.same (sR.trans sD)
    obtain ⟨vs0, ev0, pv0⟩ := hL0
    have hlen : vs0.length = ps.length := pv0.length
    refine ⟨_, rfl, l, vs0, rfl, .inl (SqL.of ev0), _, rfl, by omega, by omega, for_range (lo := 0) (n := ((vs0.length : Nat) : Int).toNat)
      (fun i σ H' => (∃ a b c d, σ = [some (.ref l), some (.ref cl), some (.int k), some (.ref R), some (.int lean), some (.int form), some (.ref D), a, b, c, d]) ∧ ∃ hs : List Int, hs.length = i ∧ Bt RI (upd H R (.lst ([0, 5, 31, 12, 77, 40, 3, 55, 90, 18].map V.int))) H' D hs ∧ (∀ h ∈ hs, ab h 900000000000000))
      ⟨⟨_, _, _, _, rfl⟩, [], rfl, Bt.start nD, fun q h => by cases h⟩ ?_ ?_⟩
    · rintro i σ H' hi ⟨⟨a, b, c, d, rfl⟩, hs, hhs, bt, hbd⟩
      have hi' : i < ps.length := by omega
      have e0 : (0 : Int) + (i : Int) = (i : Int) := by omega
      show gName 7 (.int ((0 : Int) + (i : Int))) _ _ _
      rw [e0]
      have hLi := hL.same (sR.trans bt.sm)
      have hCi := hC.same (sR.trans bt.sm)
      obtain ⟨pa, ga, ea⟩ := gPtL (K := K) (σ := [some (.ref l), some (.ref cl), some (.int k), some (.ref R), some (.int lean), some (.int form), some (.ref D), some (.int (i : Int)), b, c, d]) (t0 := tVar 0) (t1 := tVar 7) (gVar rfl) (gVar rfl) hLi hi'
      have iB := hb.at_ hi'
      refine ga _ ⟨pa, _, rfl, SqT.of ea, rfl, unp (unp ⟨rfl, ?_⟩)⟩
      obtain ⟨z1, e1, b1, b2⟩ := idxB (l := [0, 5, 31, 12, 77, 40, 3, 55, 90, 18]) (B := 90) (by decide) (i := i) (by show i < 10; omega)
      rw [e0] at e1
      have eR := bt.sm _ _ (upd_same (H := H) (a := R) (o := .lst ([0, 5, 31, 12, 77, 40, 3, 55, 90, 18].map V.int)))
      refine gSub (gIxL (gVar rfl) (gVar rfl) (SqL.of eR) e1) gC _ ?_
      refine ⟨_, rfl, _, rfl, _, _, rfl, rfl, cl, ns, 1 + i, ?_, hCi, fun zc => ⟨_, _, rfl, rfl, ⟨by decide, by decide⟩, .inl ⟨_, rfl, _, _, rfl, rfl, (by show (0 : Int) < 499; decide), _, _, rfl, rfl, ?_⟩⟩⟩
      · show [V.ref cl, V.int (1 + (i : Int))] = _
        have : (1 : Int) + (i : Int) = ((1 + i : Nat) : Int) := by omega
        rw [this]
      refine ⟨_, rfl, _, rfl, _, rfl, _, _, rfl, rfl, cl, ns, 21 + i, ?_, hCi, fun zd => .inl ⟨_, rfl, _, _, rfl, rfl, (by show (0 : Int) < 499; decide), _, _, rfl, rfl, ?_⟩⟩
      · show [V.ref cl, V.int (21 + (i : Int))] = _
        have : (21 : Int) + (i : Int) = ((21 + i : Nat) : Int) := by omega
        rw [this]
      have m1 := Int.emod_nonneg (zc / 9409) (show (499 : Int) ≠ 0 by decide)
      have m2 := Int.emod_lt_of_pos (zc / 9409) (show (0 : Int) < 499 by decide)
      have m3 := Int.emod_nonneg zd (show (499 : Int) ≠ 0 by decide)
      have m4 := Int.emod_lt_of_pos zd (show (0 : Int) < 499 by decide)
      refine ⟨_, rfl, _, rfl, _, rfl, _, rfl, _, rfl, _, _, _, _, _, rfl, ⟨by omega, by omega⟩, ⟨by omega, by omega⟩, ⟨by omega, by omega⟩, fun hh hhb => ?_⟩
      have aX : ab (cx ps i) 1000000 := ⟨by omega, by omega⟩
      have aY : ab (cy ps i) 1000000 := ⟨by omega, by omega⟩
      refine ⟨_, rfl, _, rfl, lean, 41, rfl, by decide, by decide, fun s1 s1a s1b => ⟨_, rfl, _, _, rfl, rfl, .inl ⟨by omega, by omega⟩, _, _, rfl, rfl, ?_⟩⟩
      obtain ⟨dv, ed, _⟩ := bt.ls
      refine ⟨_, rfl, .inl ⟨rfl, _, .inl (.inl ed)⟩, _, rfl, _, rfl, _, _, rfl, rfl, ⟨by decide, by decide⟩, lean / 41, 41, rfl, by decide, by decide, fun s2 s2a s2b => ⟨_, rfl, _, _, rfl, rfl, .inl ⟨by omega, by omega⟩, _, _, rfl, rfl, ?_⟩⟩
      have p1 := ab_mul (a := s1) (A := 41) ⟨by omega, by omega⟩ aX
      have p2 := ab_mul (a := s2) (A := 41) ⟨by omega, by omega⟩ aY
      obtain ⟨acc, c1, c2, c3⟩ := bt.app (Same.refl _) (x := hh + s1 * cx ps i + s2 * cy ps i) rfl (by omega)
      refine ⟨D, acc, _, rfl, rfl, c1, c2, ⟨_, _, _, _, rfl⟩, _, ?_, c3, fun q hq => ?_⟩
      · rw [List.length_append, hhs]
        rfl
      · rcases List.mem_append.mp hq with h | h
        · exact hbd q h
        · rw [List.mem_singleton] at h
          subst h
          unfold ab at *
          omega
    · rintro σ H' ⟨⟨a, b, c, d, rfl⟩, hs, hhs, bt, hbd⟩
      exact ⟨_, rfl, q H' D hs (sR.free nD) (bt.from_ sR) (by omega) hbd⟩
def spChanged : Sp := fun vs H Q _ => ∃ (l : Addr) (c : Int) (hs : List Int), vs = [.ref l, .int c] ∧ LsAt RI H l hs ∧ 0 < hs.length ∧ (∀ h ∈ hs, ab h 900000000000000) ∧
  ∀ H' p hs', H p = none → Bt RI H H' p hs' → hs'.length = hs.length → (∀ h ∈ hs', ab h 1000000000000000) → Q (.ref p) H'
abbrev nCh : List Str := ["_law_heights_here", "_law_c", "_law_changed_here", "_law_k"]
theorem scCh : FnScope nCh ["_law_heights_here", "_law_c"] (defScope (topS 71)) := ⟨rfl, rfl, rfl, by decide +kernel, rfl, by decide +kernel, by decide +kernel⟩
theorem ok_changed {f fS : Addr} {fd fdS : FuncData} (F : Fun K "_law_changed" "_law_changed" (topS 71) f fd) (GS : Gd K mg "_law_signed" (topS 66) fS fdS)
    (mL : mg "len" = none) (mI : mg "int" = none) (mLi : mg "list" = none) : FnOk P w K mg base CX0 2 f fd ["_law_heights_here", "_law_c"] spChanged := by
  have FS : FnOk P w K mg base CX0 1 fS fdS ["_law_c", "_law_odd"] spSigned := ok_signed GS.F mI
  have bS := GS.F.binds (ps := ["_law_c", "_law_odd"]) fun _ _ _ _ _ _ us hl => match us, hl with | [_, _], _ => rfl
  refine F.ok scCh (fun vs H Q E h => ?_) (fun cdv A outer s H vs Q E hr h => ⟨_,
    pss_cons (ps_set (i := 2) scCh.nd rfl (Or.inl rfl) (pe_callTy call_list_of (by rfl) mLi (by decide +kernel) (pa_cons (pv 0) pa_nil)))
    (pss_cons (ps_if (pt_cmpR op_eq (pe_op op_mod (pe_callTy call_int1 (by rfl) mI (by decide +kernel) (pa_cons (pv 1) pa_nil)) pe_int) pe_int (nomark _))
      (pss_cons (ps_set (i := 3) scCh.nd rfl (Or.inl rfl) (pe_op op_mod (pe_op op_mod (pe_callTy call_int1 (by rfl) mI (by decide +kernel) (pa_cons (pe_op op_fdiv (pv 1) pe_int) pa_nil)) pe_int) (pe_callB call_len_seq (by rfl) mL PySem.boot_len (pa_cons (pv 0) pa_nil))))
      (pss_one (ps_asg (pe_op op_add (pe_ix ix_list (pv 2) (pv 3) (fun _ _ => rfl)) (pe_op op_mul pe_int (pe_call FS hr rfl GS.g GS.F.kp bS .nil pass0 (pa_cons (pe_op op_fdiv (pv 1) pe_int) (pa_cons pe_int pa_nil))))) (pg_sub (pv 2) (pv 3) set_list)))) pss_nil)
    (pss_one (ps_ret (pv 2)))), ?_⟩)
  · obtain ⟨l, c, hs, rfl, _⟩ := h
    rfl
  · obtain ⟨l, c, hs, rfl, hL, hn, hb, q⟩ := h
    obtain ⟨vs, ev, pvs⟩ := hL
    have hlen : vs.length = hs.length := pvs.length
    refine ⟨_, rfl, l, vs, rfl, .inl (SqL.of ev), fun D nD => ?_⟩
    have b0 : Bt RI H (upd H D (.lst vs)) D hs := ⟨nD, same_new nD, vs, upd_same, Paired.upd (KT.of (same_new nD)) pvs⟩
    refine tEqI (gMod (gInt (gVar rfl)) gC (by decide)) gC (fun _ => ?_) fun _ => ⟨_, rfl, q _ D hs nD b0 rfl fun h hh => by have := hb h hh; unfold ab at *; omega⟩
    obtain ⟨a, ea, ha⟩ := emodNat (c / 6 % 10) (n := hs.length) hn
    refine gMod (gMod (gInt (gDiv (gVar rfl) gC ⟨by decide, by decide⟩)) gC (by decide)) (j := (vs.length : Nat)) (fun Q2 q2 => ⟨_, rfl, l, vs, rfl, .inl (SqL.of (same_new nD _ _ ev)), q2⟩) (by omega) _ ?_
    rw [hlen, ea]
    have evs := ri_vals pvs
    have eat : atI vs (a : Int) = some (.int hs[a]) := by
      refine atI_nat ?_
      rw [evs]
      simp [ha]
    refine gIxL (gVar rfl) (gVar rfl) (SqL.of upd_same) eat _ ?_
    have hba := hb hs[a] (List.getElem_mem ha)
    refine ⟨_, rfl, _, _, rfl, rfl, ⟨by decide, by decide⟩, c / 60, 1001, rfl, by decide, by decide, fun s1 s1a s1b => ⟨_, _, rfl, rfl, .inl ⟨by decide, by decide⟩, _, _, rfl, rfl, ?_⟩⟩
    refine ⟨_, rfl, _, rfl, D, vs, a, a, rfl, rfl, upd_same, ixN_nat (by omega), _, rfl, ?_⟩
    refine q _ D _ nD (b0.set (x := hs[a] + 40 * s1) upd_same rfl) (by rw [List.length_set]) fun h hh => ?_
    rcases List.mem_or_eq_of_mem_set hh with h' | h'
    · have := hb h h'
      unfold ab at *
      omega
    · rw [h']
      unfold ab at *
      omega
end
end KB
end

section
set_option Elab.async false
set_option linter.all false
set_option maxRecDepth 100000
set_option maxHeartbeats 400000
/-! _law_side, _law_within -/
namespace KB
open PySem PySem.Spec PyProof.Rows L2
theorem rdPtL {K : PySem.W.Frag} {σ : L2.St} {H : Hp} {t0 t1 : TE} {tp : Addr} {ps : List (Int × Int)} {i : Nat} {Q : VK} (h0 : Gv t0 σ H (.ref tp)) (h1 : Gv t1 σ H (.int i)) (hT : LsAt RP H tp ps) (hi : i < ps.length)
    (q : ∀ a, H a = some (.tup [.int (cx ps i), .int (cy ps i)]) → Q (.ref a) H) : tOp (rIxL K) t0 t1 σ H Q := by
  obtain ⟨a, g, e⟩ := gPtL (K := K) h0 h1 hT hi
  exact g _ (q a e)
theorem gHt {K : PySem.W.Frag} {σ : L2.St} {H : Hp} {t0 t1 : TE} {hp : Addr} {hs : List Int} {i : Nat} (h0 : Gv t0 σ H (.ref hp)) (h1 : Gv t1 σ H (.int i)) (hT : LsAt RI H hp hs) (hi : i < hs.length) : Gv (tOp (rIxL K) t0 t1) σ H (.int (hz hs i)) := by
  obtain ⟨vs, e, p⟩ := hT
  obtain ⟨v, ev, rfl⟩ := paired_idx 0 i p hi
  exact gIxL h0 h1 (SqL.of e) (atI_nat ev)
def sdv (ps : List (Int × Int)) (hs : List Int) (a b c d : Nat) : Int := if tn ps a b c < 0 then - vol ps hs a b c d else vol ps hs a b c d
theorem sd_eq (ps : List (Int × Int)) (hs : List Int) (a b c d : Nat) : tn ps a b c * hz hs d - (tn ps d b c * hz hs a + tn ps a d c * hz hs b + tn ps a b d * hz hs c) = vol ps hs a b c d := by
  simp only [tn, vol, vo, ar]
  grind
def spSide : Sp := fun vs H Q _ => ∃ (l hl u : Addr) (ps : List (Int × Int)) (hs : List Int) (a b c d : Nat), vs = [.ref l, .ref hl, .ref u, .int d] ∧ LsAt RP H l ps ∧ LsAt RI H hl hs ∧ H u = some (.tup [.int a, .int b, .int c]) ∧ PtsOk ps ∧ HsOk hs ∧ hs.length = ps.length ∧
  (a < ps.length ∧ b < ps.length ∧ c < ps.length ∧ d < ps.length) ∧ Q (.int (sdv ps hs a b c d)) H
abbrev nSd : List Str := ["_law_points_here", "_law_heights_here", "_law_three", "_law_d", "_law_a", "_law_b", "_law_c", "_law_p", "_law_q", "_law_r", "_law_s", "_law_whole", "_law_part"]
theorem scSd : FnScope nSd ["_law_points_here", "_law_heights_here", "_law_three", "_law_d"] (defScope (topS 74)) := ⟨rfl, rfl, rfl, by decide +kernel, rfl, by decide +kernel, by decide +kernel⟩
section
variable {P : Program} {w : World} {K : PySem.W.Frag} {mg : Str → Option Value} {base : Heap}
theorem hz_cm {hs : List Int} {i : Nat} {x : Int} (ok : HsOk hs) (hi : i < hs.length) : CMul x (hz hs i) := by
  have := ok.sz hi
  unfold sml at this
  exact .inr ⟨by omega, by omega⟩
theorem tLtI {σ : L2.St} {H : Hp} {ta tb : TE} {i j : Int} {A B : Hp → Prop} (h1 : Gv ta σ H (.int i)) (h2 : Gv tb σ H (.int j)) (hA : i < j → A H) (hB : ¬ i < j → B H) : tTest (tOp (rI0 fun i j => .bl (decide (i < j))) ta tb) σ H fun b H3 => if b = true then A H3 else B H3 :=
  h1 _ (h2 _ ⟨i, j, rfl, rfl, _, rfl, itD hA hB⟩)
theorem ok_side {f fA : Addr} {fd fdA : FuncData} (F : Fun K "_law_side" "_law_side" (topS 74) f fd) (GA : Gd K mg "_law_area" (topS 72) fA fdA) : FnOk P w K mg base CX0 2 f fd ["_law_points_here", "_law_heights_here", "_law_three", "_law_d"] spSide := by
  have FA : FnOk P w K mg base CX0 1 fA fdA ["_law_p", "_law_q", "_law_r"] spArea := ok_larea GA.F
  have bA := GA.F.binds (ps := ["_law_p", "_law_q", "_law_r"]) fun _ _ _ _ _ _ us hl => match us, hl with | [_, _, _], _ => rfl
  refine F.ok scSd (fun vs H Q E h => ?_) (fun cdv A outer s H vs Q E hr h => ⟨_,
    pss_cons (ps_asg (pv 2) (pg_tup rfl (pgs_cons (pg_name (i := 4) scSd.nd rfl (Or.inl rfl)) (pgs_cons (pg_name (i := 5) scSd.nd rfl (Or.inl rfl)) (pgs_cons (pg_name (i := 6) scSd.nd rfl (Or.inl rfl)) pgs_nil)))))
    (pss_cons (ps_set (i := 7) scSd.nd rfl (Or.inl rfl) (pe_ix ix_list (pv 0) (pv 4) (fun _ _ => rfl)))
    (pss_cons (ps_set (i := 8) scSd.nd rfl (Or.inl rfl) (pe_ix ix_list (pv 0) (pv 5) (fun _ _ => rfl)))
    (pss_cons (ps_set (i := 9) scSd.nd rfl (Or.inl rfl) (pe_ix ix_list (pv 0) (pv 6) (fun _ _ => rfl)))
    (pss_cons (ps_set (i := 10) scSd.nd rfl (Or.inl rfl) (pe_ix ix_list (pv 0) (pv 3) (fun _ _ => rfl)))
    (pss_cons (ps_set (i := 11) scSd.nd rfl (Or.inl rfl) (pe_call FA hr rfl GA.g GA.F.kp bA .nil pass0 (pa_cons (pv 7) (pa_cons (pv 8) (pa_cons (pv 9) pa_nil)))))
    (pss_cons (ps_set (i := 12) scSd.nd rfl (Or.inl rfl) (pe_op op_mul (pe_call FA hr rfl GA.g GA.F.kp bA .nil pass0 (pa_cons (pv 10) (pa_cons (pv 8) (pa_cons (pv 9) pa_nil)))) (pe_ix ix_list (pv 1) (pv 4) (fun _ _ => rfl))))
    (pss_cons (ps_set (i := 12) scSd.nd rfl (Or.inl rfl) (pe_op op_add (pv 12) (pe_op op_mul (pe_call FA hr rfl GA.g GA.F.kp bA .nil pass0 (pa_cons (pv 7) (pa_cons (pv 10) (pa_cons (pv 9) pa_nil)))) (pe_ix ix_list (pv 1) (pv 5) (fun _ _ => rfl)))))
    (pss_cons (ps_set (i := 12) scSd.nd rfl (Or.inl rfl) (pe_op op_add (pv 12) (pe_op op_mul (pe_call FA hr rfl GA.g GA.F.kp bA .nil pass0 (pa_cons (pv 7) (pa_cons (pv 8) (pa_cons (pv 10) pa_nil)))) (pe_ix ix_list (pv 1) (pv 6) (fun _ _ => rfl)))))
    (pss_cons (ps_if (pt_cmpR op_lt (pv 11) pe_int (nomark _)) (pss_one (ps_ret (pe_op op_sub (pv 12) (pe_op op_mul (pv 11) (pe_ix ix_list (pv 1) (pv 3) (fun _ _ => rfl)))))) pss_nil)
    (pss_one (ps_ret (pe_op op_sub (pe_op op_mul (pv 11) (pe_ix ix_list (pv 1) (pv 3) (fun _ _ => rfl))) (pv 12))))))))))))), ?_⟩)
  · obtain ⟨l, hl, u, ps, hs, a, b, c, d, rfl, _⟩ := h
    rfl
  · obtain ⟨l, hl, u, ps, hs, a, b, c, d, rfl, hL, hH, hu, ok, okh, hlen, ⟨ha, hb, hc, hd⟩, q⟩ := h
    refine ⟨_, rfl, u, _, rfl, SqT.of hu, rfl, unp (unp (unp ⟨rfl, ?_⟩))⟩
    simp only [gName, L2.start, List.map_cons, List.map_nil, List.length_cons, List.length_nil, Nat.reduceAdd, Nat.reduceSub, List.replicate, List.cons_append, List.nil_append, List.set_cons_succ, List.set_cons_zero]
    refine rdPtL (gVar rfl) (gVar rfl) hL ha fun pa ea => ?_
    refine rdPtL (gVar rfl) (gVar rfl) hL hb fun pb eb => ?_
    refine rdPtL (gVar rfl) (gVar rfl) hL hc fun pc ec => ?_
    refine rdPtL (gVar rfl) (gVar rfl) hL hd fun pd ed => ?_
    simp only [gName, List.set_cons_succ, List.set_cons_zero]
    refine rdArea ok (gVar rfl) (gVar rfl) (gVar rfl) ea eb ec ha hb _ ?_
    simp only [gName, List.set_cons_succ, List.set_cons_zero]
    refine gMul (rdArea ok (gVar rfl) (gVar rfl) (gVar rfl) ed eb ec hd hb) (gHt (gVar rfl) (gVar rfl) hH (by omega)) (hz_cm okh (by omega)) _ ?_
    simp only [gName, List.set_cons_succ, List.set_cons_zero]
    refine gAdd (gVar rfl) (gMul (rdArea ok (gVar rfl) (gVar rfl) (gVar rfl) ea ed ec ha hd) (gHt (gVar rfl) (gVar rfl) hH (by omega)) (hz_cm okh (by omega))) _ ?_
    simp only [gName, List.set_cons_succ, List.set_cons_zero]
    refine gAdd (gVar rfl) (gMul (rdArea ok (gVar rfl) (gVar rfl) (gVar rfl) ea eb ed ha hb) (gHt (gVar rfl) (gVar rfl) hH (by omega)) (hz_cm okh (by omega))) _ ?_
    simp only [gName, List.set_cons_succ, List.set_cons_zero]
    have se := sd_eq ps hs a b c d
    rw [sdv] at q
    generalize tn ps d b c * hz hs a + tn ps a d c * hz hs b + tn ps a b d * hz hs c = part at se ⊢
    generalize tn ps a b c = whole at se q ⊢
    generalize vol ps hs a b c d = vv at se q
    refine tLtI (gVar rfl) gC (fun c0 => ?_) fun c0 => ?_
    · refine gSub (gVar rfl) (gMul (gVar rfl) (gHt (gVar rfl) (gVar rfl) hH (by omega)) (hz_cm okh (by omega))) _ ?_
      rw [if_pos c0] at q
      have e : part - whole * hz hs d = - vv := by omega
      rw [e]
      exact q
    · refine gSub (gMul (gVar rfl) (gHt (gVar rfl) (gVar rfl) hH (by omega)) (hz_cm okh (by omega))) (gVar rfl) _ ?_
      rw [if_neg c0] at q
      rw [se]
      exact q
end
def wthn (ps : List (Int × Int)) (a b c d : Nat) : Bool := decide (decide (tn ps d b c > 0) = decide (tn ps a d c > 0)) && decide (decide (tn ps a d c > 0) = decide (tn ps a b d > 0))
def spWithin : Sp := fun vs H Q _ => ∃ (l u : Addr) (ps : List (Int × Int)) (a b c d : Nat), vs = [.ref l, .ref u, .int d] ∧ LsAt RP H l ps ∧ H u = some (.tup [.int a, .int b, .int c]) ∧ PtsOk ps ∧
  (a < ps.length ∧ b < ps.length ∧ c < ps.length ∧ d < ps.length) ∧ Q (.bl (wthn ps a b c d)) H
abbrev nWi : List Str := ["_law_points_here", "_law_three", "_law_d", "_law_a", "_law_b", "_law_c", "_law_s", "_law_first", "_law_second", "_law_third"]
theorem scWi : FnScope nWi ["_law_points_here", "_law_three", "_law_d"] (defScope (topS 75)) := ⟨rfl, rfl, rfl, by decide +kernel, rfl, by decide +kernel, by decide +kernel⟩
section
variable {P : Program} {w : World} {K : PySem.W.Frag} {mg : Str → Option Value} {base : Heap}
theorem ok_within {f fA : Addr} {fd fdA : FuncData} (F : Fun K "_law_within" "_law_within" (topS 75) f fd) (GA : Gd K mg "_law_area" (topS 72) fA fdA) : FnOk P w K mg base CX0 2 f fd ["_law_points_here", "_law_three", "_law_d"] spWithin := by
  have FA : FnOk P w K mg base CX0 1 fA fdA ["_law_p", "_law_q", "_law_r"] spArea := ok_larea GA.F
  have bA := GA.F.binds (ps := ["_law_p", "_law_q", "_law_r"]) fun _ _ _ _ _ _ us hl => match us, hl with | [_, _, _], _ => rfl
  refine F.ok scWi (fun vs H Q E h => ?_) (fun cdv A outer s H vs Q E hr h => ⟨_,
    pss_cons (ps_asg (pv 1) (pg_tup rfl (pgs_cons (pg_name (i := 3) scWi.nd rfl (Or.inl rfl)) (pgs_cons (pg_name (i := 4) scWi.nd rfl (Or.inl rfl)) (pgs_cons (pg_name (i := 5) scWi.nd rfl (Or.inl rfl)) pgs_nil)))))
    (pss_cons (ps_set (i := 6) scWi.nd rfl (Or.inl rfl) (pe_ix ix_list (pv 0) (pv 2) (fun _ _ => rfl)))
    (pss_cons (ps_set (i := 7) scWi.nd rfl (Or.inl rfl) (pe_cmpR op_gt (pe_call FA hr rfl GA.g GA.F.kp bA .nil pass0 (pa_cons (pv 6) (pa_cons (pe_ix ix_list (pv 0) (pv 4) (fun _ _ => rfl)) (pa_cons (pe_ix ix_list (pv 0) (pv 5) (fun _ _ => rfl)) pa_nil)))) pe_int (nomark _)))
    (pss_cons (ps_set (i := 8) scWi.nd rfl (Or.inl rfl) (pe_cmpR op_gt (pe_call FA hr rfl GA.g GA.F.kp bA .nil pass0 (pa_cons (pe_ix ix_list (pv 0) (pv 3) (fun _ _ => rfl)) (pa_cons (pv 6) (pa_cons (pe_ix ix_list (pv 0) (pv 5) (fun _ _ => rfl)) pa_nil)))) pe_int (nomark _)))
    (pss_cons (ps_set (i := 9) scWi.nd rfl (Or.inl rfl) (pe_cmpR op_gt (pe_call FA hr rfl GA.g GA.F.kp bA .nil pass0 (pa_cons (pe_ix ix_list (pv 0) (pv 3) (fun _ _ => rfl)) (pa_cons (pe_ix ix_list (pv 0) (pv 4) (fun _ _ => rfl)) (pa_cons (pv 6) pa_nil)))) pe_int (nomark _)))
    (pss_one (ps_ret (pe_and (pe_cmpR op_eq (pv 7) (pv 8) (nomark _)) (pe_one (pe_cmpR op_eq (pv 8) (pv 9) (nomark _)))))))))), ?_⟩)
  · obtain ⟨l, u, ps, a, b, c, d, rfl, _⟩ := h
    rfl
  · obtain ⟨l, u, ps, a, b, c, d, rfl, hL, hu, ok, ⟨ha, hb, hc, hd⟩, q⟩ := h
    refine ⟨_, rfl, u, _, rfl, SqT.of hu, rfl, unp (unp (unp ⟨rfl, ?_⟩))⟩
    refine rdPtL (gVar rfl) (gVar rfl) hL hd fun pd ed => ?_
    refine ⟨_, rfl, rdPtL (gVar rfl) (gVar rfl) hL hb fun pb eb => rdPtL (gVar rfl) (gVar rfl) hL hc fun pc ec => ⟨pd, pb, pc, _, _, _, _, _, _, [], [], [], rfl, ed, eb, ec, (ok.sx hd).1, (ok.sx hd).2, (ok.sx hb).1, (ok.sx hb).2, _, _, rfl, rfl, ?_⟩⟩
    refine rdPtL (gVar rfl) (gVar rfl) hL ha fun pa ea => ⟨_, rfl, rdPtL (gVar rfl) (gVar rfl) hL hc fun pc ec => ⟨pa, pd, pc, _, _, _, _, _, _, [], [], [], rfl, ea, ed, ec, (ok.sx ha).1, (ok.sx ha).2, (ok.sx hd).1, (ok.sx hd).2, _, _, rfl, rfl, ?_⟩⟩
    refine rdPtL (gVar rfl) (gVar rfl) hL ha fun pa ea => rdPtL (gVar rfl) (gVar rfl) hL hb fun pb eb => ⟨_, rfl, pa, pb, pd, _, _, _, _, _, _, [], [], [], rfl, ea, eb, ed, (ok.sx ha).1, (ok.sx ha).2, (ok.sx hb).1, (ok.sx hb).2, _, _, rfl, rfl, ?_⟩
    have eb : ∀ x y : Bool, decide (V.bl x = V.bl y) = decide (x = y) := fun x y => by
      cases x <;> cases y <;> rfl
    have q' : Q (.bl (decide (decide (0 < tn ps d b c) = decide (0 < tn ps a d c)) && decide (decide (0 < tn ps a d c) = decide (0 < tn ps a b d)))) H := q
    refine ⟨_, rfl, _, rfl, rfl, _, rfl, ?_⟩
    rw [eb]
    show if decide (decide (0 < tn ps d b c) = decide (0 < tn ps a d c)) = true then _ else _
    cases e : decide (decide (0 < tn ps d b c) = decide (0 < tn ps a d c)) with
    | true =>
      rw [e, Bool.true_and] at q'
      refine iteT ⟨_, rfl, _, rfl, rfl, ?_⟩
      rw [eb]
      exact q'
    | false =>
      rw [e, Bool.false_and] at q'
      exact iteF q'
end
end KB
end

section
set_option Elab.async false
set_option linter.all false
set_option maxRecDepth 100000
set_option maxHeartbeats 400000
/-! _law_first_flat, _law_first_level -/
namespace KB
open PySem PySem.Spec PyProof.Rows L2
def spFlat : Sp := fun vs H Q _ => ∃ (l : Addr) (ps : List (Int × Int)), vs = [.ref l] ∧ LsAt RP H l ps ∧ PtsOk ps ∧ ∀ H' v, Same H H' → ROpt R3 H' v (flat? ps) → Q v H'
abbrev nFf : List Str := ["_law_points_here", "_law_a", "_law_b", "_law_c"]
theorem scFf : FnScope nFf ["_law_points_here"] (defScope (topS 76)) := ⟨rfl, rfl, rfl, by decide +kernel, rfl, by decide +kernel, by decide +kernel⟩
theorem find_at {α : Type} {p : α → Bool} {l : List α} {i : Nat} {x : α} (h : l[i]? = some x) (hx : p x = true) (hn : ∀ y ∈ l.take i, p y = false) : l.find? p = some x := by
  have hi := (List.getElem?_eq_some_iff.mp h).1
  refine List.find?_eq_some_iff_append.mpr ⟨hx, l.take i, l.drop (i + 1), ?_, fun y hy => by simp [hn y hy]⟩
  have e1 := List.take_append_drop i l
  rw [List.drop_eq_getElem_cons hi] at e1
  have e2 : l[i] = x := by
    have := List.getElem?_eq_getElem hi
    rw [h] at this
    exact (Option.some.inj this).symm
  rw [e2] at e1
  exact e1.symm
section
variable {P : Program} {w : World} {K : PySem.W.Frag} {mg : Str → Option Value} {base : Heap}
theorem ok_flat {f fA f3 : Addr} {fd fdA fd3 : FuncData} (F : Fun K "_law_first_flat" "_law_first_flat" (topS 76) f fd) (GA : Gd K mg "_law_area" (topS 72) fA fdA) (G3 : Gd K mg "_law_threes" (topS 73) f3 fd3) (mL : mg "len" = none) (mR : mg "range" = none) :
    FnOk P w K mg base CX0 2 f fd ["_law_points_here"] spFlat := by
  have FA : FnOk P w K mg base CX0 1 fA fdA ["_law_p", "_law_q", "_law_r"] spArea := ok_larea GA.F
  have bA := GA.F.binds (ps := ["_law_p", "_law_q", "_law_r"]) fun _ _ _ _ _ _ us hl => match us, hl with | [_, _, _], _ => rfl
  have F3 : FnOk P w K mg base CX0 1 f3 fd3 ["_law_many"] spThrees := ok_lthrees G3.F mR
  have b3 := G3.F.binds (ps := ["_law_many"]) fun _ _ _ _ _ _ us hl => match us, hl with | [_], _ => rfl
  refine F.ok scFf (fun vs H Q E h => ?_) (fun cdv A outer s H vs Q E hr h => ⟨_,
    pss_cons (ps_for PassesOwn.never rfl (pi_list (pe_call F3 hr rfl G3.g G3.F.kp b3 .nil pass0 (pa_cons (pe_callB call_len_seq (by rfl) mL PySem.boot_len (pa_cons (pv 0) pa_nil)) pa_nil)))
      (pg_tup rfl (pgs_cons (pg_name (i := 1) scFf.nd rfl (Or.inl rfl)) (pgs_cons (pg_name (i := 2) scFf.nd rfl (Or.inl rfl)) (pgs_cons (pg_name (i := 3) scFf.nd rfl (Or.inl rfl)) pgs_nil))))
      (pss_one (ps_if (pt_cmpR op_eq (pe_call FA hr rfl GA.g GA.F.kp bA .nil pass0 (pa_cons (pe_ix ix_list (pv 0) (pv 1) (fun _ _ => rfl)) (pa_cons (pe_ix ix_list (pv 0) (pv 2) (fun _ _ => rfl)) (pa_cons (pe_ix ix_list (pv 0) (pv 3) (fun _ _ => rfl)) pa_nil)))) pe_int (nomark _))
        (pss_one (ps_ret (pe_tup (pa_cons (pv 1) (pa_cons (pv 2) (pa_cons (pv 3) pa_nil)))))) pss_nil)))
    (pss_one (ps_ret pe_non)), ?_⟩)
  · obtain ⟨l, ps, rfl, _⟩ := h
    rfl
  · obtain ⟨l, ps, rfl, hL, ok, k⟩ := h
    obtain ⟨vs, ev, pvs⟩ := id hL
    have hlen : vs.length = ps.length := pvs.length
    refine ⟨_, rfl, l, vs, rfl, .inl (SqL.of ev), ps.length, by rw [hlen]; rfl, ok.hi, fun L H1 nL b1 => ?_⟩
    obtain ⟨us, eL, pL⟩ := b1.ls
    have ul : us.length = (threes ps.length).length := pL.length
    have hL1 := hL.same b1.sm
    refine ⟨L, rfl, ⟨_, SqL.of eL⟩, for_list (K := K) (a := L) (xs := us) (fun i σ H' => H' = H1 ∧ (∃ x y z, σ = [some (.ref l), x, y, z]) ∧ ∀ t ∈ (threes ps.length).take i, tn ps t.1 t.2.1 t.2.2 ≠ 0) ⟨rfl, ⟨_, _, _, rfl⟩, fun t ht => by simp at ht⟩
      (fun i σ H' _ ⟨e, _⟩ => by
        subst e
        exact SqL.of eL) ?_ ?_⟩
    · rintro i v σ H' hv ⟨rfl, ⟨x, y, z, rfl⟩, nz⟩
      obtain ⟨⟨a, b, c⟩, ht, q, rfl, eq⟩ := paired_get _ pL hv
      obtain ⟨h1, h2, h3⟩ := threes_mem (List.mem_of_getElem? ht)
      dsimp only at h1 h2 h3 eq
      refine ⟨q, _, rfl, SqT.of eq, rfl, unp (unp (unp ⟨rfl, ?_⟩))⟩
      have g : Gv (tCall spArea [] E0 (tCons (tOp (rIxL K) (tVar 0) (tVar 1)) (tCons (tOp (rIxL K) (tVar 0) (tVar 2)) (tCons (tOp (rIxL K) (tVar 0) (tVar 3)) tNil)))) [some (.ref l), some (.int (a : Int)), some (.int (b : Int)), some (.int (c : Int))] H' (.int (tn ps a b c)) := fun Q2 q2 =>
        rdPtL (gVar rfl) (gVar rfl) hL1 (show a < ps.length by omega) fun pa ea => rdPtL (gVar rfl) (gVar rfl) hL1 (show b < ps.length by omega) fun pb eb => rdPtL (gVar rfl) (gVar rfl) hL1 (show c < ps.length by omega) fun pc ec =>
          ⟨pa, pb, pc, _, _, _, _, _, _, [], [], [], rfl, ea, eb, ec, (ok.sx (by omega)).1, (ok.sx (by omega)).2, (ok.sx (by omega)).1, (ok.sx (by omega)).2, q2⟩
      refine tEqI g gC (fun c0 => ?_) fun c0 => ?_
      · refine ⟨_, rfl, _, rfl, _, rfl, by show 3 ≤ sizeLine; decide, fun u nu => k _ _ (b1.sm.trans (same_new nu)) ?_⟩
        have e : flat? ps = some (a, b, c) := find_at ht (decide_eq_true c0) fun y hy => decide_eq_false (nz y hy)
        rw [e]
        exact ⟨u, rfl, upd_same⟩
      · refine ⟨rfl, ⟨_, _, _, rfl⟩, fun t htk => ?_⟩
        rw [take_snoc ht] at htk
        rcases List.mem_append.mp htk with h | h
        · exact nz t h
        · rw [List.mem_singleton] at h
          subst h
          exact c0
    · rintro σ H' ⟨rfl, ⟨x, y, z, rfl⟩, nz⟩
      rw [ul, List.take_length] at nz
      refine k _ _ b1.sm ?_
      have e : flat? ps = none := List.find?_eq_none.mpr fun t ht => by simp [nz t ht]
      rw [e]
      rfl
end
/-! _law_first_level -/
theorem sdv_zero {ps : List (Int × Int)} {hs : List Int} {a b c d : Nat} : sdv ps hs a b c d = 0 ↔ vol ps hs a b c d = 0 := by
  unfold sdv
  split <;> omega
def spLevel : Sp := fun vs H Q _ => ∃ (l hl : Addr) (ps : List (Int × Int)) (hs : List Int), vs = [.ref l, .ref hl] ∧ LsAt RP H l ps ∧ LsAt RI H hl hs ∧ PtsOk ps ∧ HsOk hs ∧ hs.length = ps.length ∧ ∀ H' v, Same H H' → ROpt R4 H' v (level? ps hs) → Q v H'
abbrev nFl : List Str := ["_law_points_here", "_law_heights_here", "_law_many", "_law_a", "_law_b", "_law_c", "_law_d"]
theorem scFl : FnScope nFl ["_law_points_here", "_law_heights_here"] (defScope (topS 77)) := ⟨rfl, rfl, rfl, by decide +kernel, rfl, by decide +kernel, by decide +kernel⟩
section
variable {P : Program} {w : World} {K : PySem.W.Frag} {mg : Str → Option Value} {base : Heap}
theorem ok_level {f fS f3 : Addr} {fd fdS fd3 : FuncData} (F : Fun K "_law_first_level" "_law_first_level" (topS 77) f fd) (GS : Gd K mg "_law_side" (topS 74) fS fdS) (FS : FnOk P w K mg base CX0 2 fS fdS ["_law_points_here", "_law_heights_here", "_law_three", "_law_d"] spSide)
    (G3 : Gd K mg "_law_threes" (topS 73) f3 fd3) (mL : mg "len" = none) (mR : mg "range" = none) : FnOk P w K mg base CX0 3 f fd ["_law_points_here", "_law_heights_here"] spLevel := by
  have bS := GS.F.binds (ps := ["_law_points_here", "_law_heights_here", "_law_three", "_law_d"]) fun _ _ _ _ _ _ us hl => match us, hl with | [_, _, _, _], _ => rfl
  have F3 : FnOk P w K mg base CX0 1 f3 fd3 ["_law_many"] spThrees := ok_lthrees G3.F mR
  have b3 := G3.F.binds (ps := ["_law_many"]) fun _ _ _ _ _ _ us hl => match us, hl with | [_], _ => rfl
  refine F.ok scFl (fun vs H Q E h => ?_) (fun cdv A outer s H vs Q E hr h => ⟨_,
    pss_cons (ps_set (i := 2) scFl.nd rfl (Or.inl rfl) (pe_callB call_len_seq (by rfl) mL PySem.boot_len (pa_cons (pv 0) pa_nil)))
    (pss_cons (ps_for PassesOwn.never rfl (pi_list (pe_call F3 (hr.mono (by decide)) rfl G3.g G3.F.kp b3 .nil pass0 (pa_cons (pv 2) pa_nil)))
      (pg_tup rfl (pgs_cons (pg_name (i := 3) scFl.nd rfl (Or.inl rfl)) (pgs_cons (pg_name (i := 4) scFl.nd rfl (Or.inl rfl)) (pgs_cons (pg_name (i := 5) scFl.nd rfl (Or.inl rfl)) pgs_nil))))
      (pss_one (ps_for PassesOwn.never rfl (pi_range2 (by rfl) mR (pa_cons (pe_op op_add (pv 5) pe_int) (pa_cons (pv 2) pa_nil))) (pg_name (i := 6) scFl.nd rfl (Or.inl rfl))
        (pss_one (ps_if (pt_cmpR op_eq (pe_call FS hr rfl GS.g GS.F.kp bS .nil pass0 (pa_cons (pv 0) (pa_cons (pv 1) (pa_cons (pe_tup (pa_cons (pv 3) (pa_cons (pv 4) (pa_cons (pv 5) pa_nil)))) (pa_cons (pv 6) pa_nil))))) pe_int (nomark _))
          (pss_one (ps_ret (pe_tup (pa_cons (pv 3) (pa_cons (pv 4) (pa_cons (pv 5) (pa_cons (pv 6) pa_nil))))))) pss_nil)))))
    (pss_one (ps_ret pe_non))), ?_⟩)
  · obtain ⟨l, hl, ps, hs, rfl, _⟩ := h
    rfl
  · obtain ⟨l, hl, ps, hs, rfl, hL, hH, ok, okh, hlen2, k⟩ := h
    obtain ⟨vs, ev, pvs⟩ := id hL
    have hlen : vs.length = ps.length := pvs.length
    refine ⟨_, rfl, l, vs, rfl, .inl (SqL.of ev), ?_⟩
    rw [hlen]
    refine ⟨_, rfl, ps.length, rfl, ok.hi, fun L H1 nL b1 => ?_⟩
    obtain ⟨us, eL, pL⟩ := b1.ls
    have ul : us.length = (threes ps.length).length := pL.length
    refine ⟨L, rfl, ⟨_, SqL.of eL⟩, for_list (K := K) (a := L) (xs := us) (fun i σ H' => Same H1 H' ∧ (∃ x y z u, σ = [some (.ref l), some (.ref hl), some (.int (ps.length : Nat)), x, y, z, u]) ∧ ∀ t ∈ ((threes ps.length).take i).flatMap (f4 ps.length), vol ps hs t.1 t.2.1 t.2.2.1 t.2.2.2 ≠ 0)
      ⟨Same.refl _, ⟨_, _, _, _, rfl⟩, fun t ht => by simp at ht⟩ (fun i σ H' _ ⟨e, _⟩ => SqL.of (e _ _ eL)) ?_ ?_⟩
    · rintro i v σ H' hv ⟨sm, ⟨x, y, z, u, rfl⟩, nz⟩
      obtain ⟨⟨a, b, c⟩, ht, q, rfl, eq⟩ := paired_get _ pL hv
      obtain ⟨h1, h2, h3⟩ := threes_mem (List.mem_of_getElem? ht)
      dsimp only at h1 h2 h3 eq
      have hn10 := ok.hi
      refine ⟨q, _, rfl, SqT.of (sm _ _ eq), rfl, unp (unp (unp ⟨rfl, ?_⟩))⟩
      refine ⟨_, rfl, _, _, rfl, rfl, _, rfl, _, _, rfl, ⟨by omega, by omega, by omega, by omega⟩, for_range (n := (((ps.length : Nat) : Int) - (c + 1)).toNat) (fun j σ H2 => Same H1 H2 ∧ (∃ u, σ = [some (.ref l), some (.ref hl), some (.int (ps.length : Nat)), some (.int (a : Int)), some (.int (b : Int)), some (.int (c : Int)), u]) ∧ ∀ m, m < j → vol ps hs a b c (c + 1 + m) ≠ 0)
        ⟨sm, ⟨_, rfl⟩, fun m hm => by omega⟩ ?_ ?_⟩
      · rintro j σ H2 hj ⟨s2, ⟨u2, rfl⟩, nz2⟩
        have ed : (c : Int) + 1 + j = ((c + 1 + j : Nat) : Int) := by omega
        show gName 6 (.int ((c : Int) + 1 + j)) _ _ _
        rw [ed]
        have hd : c + 1 + j < ps.length := by omega
        refine ⟨_, rfl, _, rfl, _, rfl, _, rfl, _, rfl, by show 3 ≤ sizeLine; decide, fun p np => ⟨_, rfl, l, hl, p, ps, hs, a, b, c, c + 1 + j, rfl, hL.same (b1.sm.trans (s2.trans (same_new np))), hH.same (b1.sm.trans (s2.trans (same_new np))), upd_same, ok, okh, hlen2, ⟨by omega, by omega, by omega, hd⟩, rfl, _, rfl, itD (fun c0 => ?_) fun c0 => ?_⟩⟩
        · have c1 : vol ps hs a b c (c + 1 + j) = 0 := sdv_zero.mp (V.int.inj c0)
          refine ⟨_, rfl, _, rfl, _, rfl, _, rfl, by show 4 ≤ sizeLine; decide, fun u nu => k _ _ (b1.sm.trans (s2.trans ((same_new np).trans (same_new nu)))) ?_⟩
          have e : level? ps hs = some (a, b, c, c + 1 + j) := by
            unfold level? fours
            have e1 := List.take_append_drop i (threes ps.length)
            have hi := (List.getElem?_eq_some_iff.mp ht).1
            rw [List.drop_eq_getElem_cons hi] at e1
            have e2 : (threes ps.length)[i] = (a, b, c) := by
              have := List.getElem?_eq_getElem hi
              rw [ht] at this
              exact (Option.some.inj this).symm
            rw [e2] at e1
            rw [← e1, List.flatMap_append, List.find?_append, List.find?_eq_none.mpr (fun t ht => by simp [nz t ht]), Option.none_or, List.flatMap_cons, List.find?_append]
            rw [find_at (l := f4 ps.length (a, b, c)) (i := j) (x := (a, b, c, c + 1 + j)) (by
              show ((List.range (ps.length - (c + 1))).map fun k => (a, b, c, c + 1 + k))[j]? = _
              rw [List.getElem?_map, List.getElem?_range (by omega)]
              rfl) (decide_eq_true c1) (fun y hy => ?_)]
            · rfl
            · unfold f4 at hy
              rw [← List.map_take] at hy
              obtain ⟨m, hm, rfl⟩ := List.mem_map.mp hy
              have hm' : m < j := by
                rw [List.take_range, List.mem_range] at hm
                omega
              exact decide_eq_false (nz2 m hm')
          rw [e]
          exact ⟨u, rfl, upd_same⟩
        · refine ⟨s2.trans (same_new np), ⟨_, rfl⟩, fun m hm => ?_⟩
          by_cases e : m = j
          · subst e
            exact fun z => c0 (by rw [sdv_zero.mpr z])
          · exact nz2 m (by omega)
      · rintro σ H2 ⟨s2, ⟨u2, rfl⟩, nz2⟩
        refine ⟨s2, ⟨_, _, _, _, rfl⟩, fun t htk => ?_⟩
        rw [take_snoc ht, List.flatMap_append] at htk
        rcases List.mem_append.mp htk with h | h
        · exact nz t h
        · have h : t ∈ f4 ps.length (a, b, c) := by simpa using h
          unfold f4 at h
          obtain ⟨m, hm, rfl⟩ := List.mem_map.mp h
          rw [List.mem_range] at hm
          dsimp only at hm
          exact nz2 m (by omega)
    · rintro σ H' ⟨sm, ⟨x, y, z, u, rfl⟩, nz⟩
      rw [ul, List.take_length] at nz
      refine k _ _ (b1.sm.trans sm) ?_
      have e : level? ps hs = none := List.find?_eq_none.mpr fun t ht => by simp [nz t ht]
      rw [e]
      rfl
end
end KB
end

section
set_option Elab.async false
set_option linter.all false
set_option maxRecDepth 100000
set_option maxHeartbeats 400000
/-! _law_first_high -/
namespace KB
open PySem PySem.Spec PyProof.Rows L2
def inn (ps : List (Int × Int)) (t : T3) : List Nat := (rest3 ps.length t).filterMap fun d => if wthn ps t.1 t.2.1 t.2.2 d = true then some d else none
def hiL (ps : List (Int × Int)) (hs : List Int) (t : T3) : List (T3 × Nat) := (inn ps t).filterMap fun d => if 0 < sdv ps hs t.1 t.2.1 t.2.2 d then some (t, d) else none
def lawHigh (ps : List (Int × Int)) (hs : List Int) : Option (T3 × Nat) := ((threes ps.length).flatMap (hiL ps hs)).head?
def RTD : Rel (T3 × Nat) := fun H v x => ∃ p u, v = .ref p ∧ H p = some (.tup [u, .int x.2]) ∧ R3 H u x.1
instance : Mn RTD := ⟨fun k ⟨p, u, e, h, r⟩ => ⟨p, u, e, k _ _ h, Mn.up (R := R3) k r⟩⟩
def spLHigh : Sp := fun vs H Q _ => ∃ (l hl : Addr) (ps : List (Int × Int)) (hs : List Int), vs = [.ref l, .ref hl] ∧ LsAt RP H l ps ∧ LsAt RI H hl hs ∧ PtsOk ps ∧ HsOk hs ∧ hs.length = ps.length ∧ ∀ H' v, Same H H' → ROpt RTD H' v (lawHigh ps hs) → Q v H'
abbrev nLh : List Str := ["_law_points_here", "_law_heights_here", "_law_many", "_law_three", "_law_d", "_law_rest", "_law_inner"]
theorem scLh : FnScope nLh ["_law_points_here", "_law_heights_here"] (defScope (topS 78)) := ⟨rfl, rfl, rfl, by decide +kernel, rfl, by decide +kernel, by decide +kernel⟩
theorem head_at {α β : Type} {f : α → List β} {l : List α} {i : Nat} {x : α} {y : β} (h : l[i]? = some x) (hy : (f x).head? = some y) (hn : ∀ z ∈ l.take i, f z = []) : (l.flatMap f).head? = some y := by
  have hi := (List.getElem?_eq_some_iff.mp h).1
  have e1 := List.take_append_drop i l
  rw [List.drop_eq_getElem_cons hi] at e1
  have e2 : l[i] = x := by
    have := List.getElem?_eq_getElem hi
    rw [h] at this
    exact (Option.some.inj this).symm
  rw [e2] at e1
  rw [← e1, List.flatMap_append, List.flatMap_cons, List.flatMap_eq_nil_iff.mpr hn, List.nil_append, List.head?_append, hy]
  rfl
theorem headf_at {α β : Type} {f : α → Option β} {l : List α} {i : Nat} {x : α} {y : β} (h : l[i]? = some x) (hy : f x = some y) (hn : ∀ z ∈ l.take i, f z = none) : (l.filterMap f).head? = some y := by
  have hi := (List.getElem?_eq_some_iff.mp h).1
  have e1 := List.take_append_drop i l
  rw [List.drop_eq_getElem_cons hi] at e1
  have e2 : l[i] = x := by
    have := List.getElem?_eq_getElem hi
    rw [h] at this
    exact (Option.some.inj this).symm
  rw [e2] at e1
  rw [← e1, List.filterMap_append, List.filterMap_cons, hy, List.filterMap_eq_nil_iff.mpr hn]
  rfl
section
variable {P : Program} {w : World} {K : PySem.W.Frag} {mg : Str → Option Value} {base : Heap}
theorem ok_lhigh {f fS fW f3 : Addr} {fd fdS fdW fd3 : FuncData} (F : Fun K "_law_first_high" "_law_first_high" (topS 78) f fd) (GS : Gd K mg "_law_side" (topS 74) fS fdS) (FS : FnOk P w K mg base CX0 2 fS fdS ["_law_points_here", "_law_heights_here", "_law_three", "_law_d"] spSide)
    (GW : Gd K mg "_law_within" (topS 75) fW fdW) (FW : FnOk P w K mg base CX0 2 fW fdW ["_law_points_here", "_law_three", "_law_d"] spWithin)
    (G3 : Gd K mg "_law_threes" (topS 73) f3 fd3) (mL : mg "len" = none) (mR : mg "range" = none) : FnOk P w K mg base CX0 3 f fd ["_law_points_here", "_law_heights_here"] spLHigh := by
  have bS := GS.F.binds (ps := ["_law_points_here", "_law_heights_here", "_law_three", "_law_d"]) fun _ _ _ _ _ _ us hl => match us, hl with | [_, _, _, _], _ => rfl
  have bW := GW.F.binds (ps := ["_law_points_here", "_law_three", "_law_d"]) fun _ _ _ _ _ _ us hl => match us, hl with | [_, _, _], _ => rfl
  have F3 : FnOk P w K mg base CX0 1 f3 fd3 ["_law_many"] spThrees := ok_lthrees G3.F mR
  have b3 := G3.F.binds (ps := ["_law_many"]) fun _ _ _ _ _ _ us hl => match us, hl with | [_], _ => rfl
  refine F.ok scLh (fun vs H Q E h => ?_) (fun cdv A outer s H vs Q E hr h => ⟨_,
    pss_cons (ps_set (i := 2) scLh.nd rfl (Or.inl rfl) (pe_callB call_len_seq (by rfl) mL PySem.boot_len (pa_cons (pv 0) pa_nil)))
    (pss_cons (ps_for PassesOwn.never rfl (pi_list (pe_call F3 (hr.mono (by decide)) rfl G3.g G3.F.kp b3 .nil pass0 (pa_cons (pv 2) pa_nil))) (pg_name (i := 3) scLh.nd rfl (Or.inr rfl))
      (pss_cons (ps_setLc (i := 5) (own := [("_law_d", 4)]) (g := gName 4) (tt := tTest (tOp (rIn K true) (tVar 4) (tVar 3))) rfl scLh.nd rfl rfl (sw_true rfl rfl rfl (by decide +kernel)) (pi_range1 (by rfl) mR (pa_cons (pv 2) pa_nil)) (blkOk_by (N := nLh) (sc := defScope (topS 78)) (by decide +kernel))
        (fun _ _ _ _ _ => pg_name (i := 4) scLh.nd rfl (Or.inl rfl)) (fun _ _ _ _ _ => pts_one (pt_cmpR (opNotIn K rfl) (pv 4) (pv 3) (by rfl))) (fun _ _ _ _ _ => pv 4))
      (pss_cons (ps_setLc (i := 6) (own := [("_law_d", 4)]) (g := gName 4) (tt := tTest (tCall spWithin [] E0 (tCons (tVar 0) (tCons (tVar 3) (tCons (tVar 4) tNil))))) rfl scLh.nd rfl rfl (sw_true rfl rfl rfl (by decide +kernel)) (pi_list (pv 5)) (blkOk_by (N := nLh) (sc := defScope (topS 78)) (by decide +kernel))
        (fun _ _ _ _ _ => pg_name (i := 4) scLh.nd rfl (Or.inl rfl)) (fun _ _ _ _ _ => pts_one (pt_val (pe_call FW hr rfl GW.g GW.F.kp bW .nil pass0 (pa_cons (pv 0) (pa_cons (pv 3) (pa_cons (pv 4) pa_nil)))))) (fun _ _ _ _ _ => pv 4))
      (pss_one (ps_for PassesOwn.never rfl (pi_list (pv 6)) (pg_name (i := 4) scLh.nd rfl (Or.inl rfl))
        (pss_one (ps_if (pt_cmpR op_gt (pe_call FS hr rfl GS.g GS.F.kp bS .nil pass0 (pa_cons (pv 0) (pa_cons (pv 1) (pa_cons (pv 3) (pa_cons (pv 4) pa_nil))))) pe_int (nomark _))
          (pss_one (ps_ret (pe_tup (pa_cons (pv 3) (pa_cons (pv 4) pa_nil))))) pss_nil)))))))
    (pss_one (ps_ret pe_non))), ?_⟩)
  · obtain ⟨l, hl, ps, hs, rfl, _⟩ := h
    rfl
  · obtain ⟨l, hl, ps, hs, rfl, hL, hH, ok, okh, hlen2, k⟩ := h
    obtain ⟨vs, ev, pvs⟩ := id hL
    have hlen : vs.length = ps.length := pvs.length
    have hn10 := ok.hi
    refine ⟨_, rfl, l, vs, rfl, .inl (SqL.of ev), ?_⟩
    rw [hlen]
    refine ⟨_, rfl, ps.length, rfl, ok.hi, fun L H1 nL b1 => ?_⟩
    obtain ⟨us, eL, pL⟩ := b1.ls
    have ul : us.length = (threes ps.length).length := pL.length
    refine ⟨L, rfl, ⟨_, SqL.of eL⟩, for_list (K := K) (a := L) (xs := us) (fun i σ H' => Same H1 H' ∧ (∃ x y z u, σ = [some (.ref l), some (.ref hl), some (.int (ps.length : Nat)), x, y, z, u]) ∧ ∀ t ∈ (threes ps.length).take i, hiL ps hs t = [])
      ⟨Same.refl _, ⟨_, _, _, _, rfl⟩, fun t ht => by simp at ht⟩ (fun i σ H' _ ⟨e, _⟩ => SqL.of (e _ _ eL)) ?_ ?_⟩
    · rintro i v σ H' hv ⟨sm, ⟨x, y, z, u, rfl⟩, nz⟩
      obtain ⟨⟨a, b, c⟩, ht, q, rfl, eq⟩ := paired_get _ pL hv
      obtain ⟨hab, hbc, hc⟩ := threes_mem (List.mem_of_getElem? ht)
      dsimp only at hab hbc hc eq
      have eq' := sm _ _ eq
      refine ⟨_, rfl, _, rfl, by omega, by omega, fun D nD => lcB_range (Ro := RN) (n := ((ps.length : Nat) : Int).toNat) (f := fun d => if d = a ∨ d = b ∨ d = c then none else some d) nD (by omega) (fun i H2 hi s2 K1 K2 h1 h2 => ?_) fun H2 b2 => ?_⟩
      · refine ⟨rfl, _, rfl, _, rfl, q, _, rfl, .inr (SqT.of (s2 _ _ eq')), rfl, rfl, _, rfl, ?_⟩
        have e : inV (V.int (0 + (i : Int))) [V.int (a : Int), .int b, .int c] = decide (i = a ∨ i = b ∨ i = c) := by
          simp only [inV, List.any_cons, List.any_nil, Bool.or_false, eqV]
          rw [Bool.eq_iff_iff]
          simp
          omega
        show if (!inV (V.int (0 + (i : Int))) [V.int (a : Int), .int b, .int c]) = true then _ else _
        rw [e]
        by_cases c0 : i = a ∨ i = b ∨ i = c
        · rw [decide_eq_true c0]
          exact iteF (h2 _ (if_pos c0) (Same.refl _))
        · rw [decide_eq_false c0]
          refine iteT ⟨_, rfl, h1 _ _ i (if_neg c0) (Same.refl _) ?_⟩
          show V.int (0 + (i : Int)) = V.int i
          rw [Int.zero_add]
      have en : ((ps.length : Nat) : Int).toNat = ps.length := by omega
      rw [en] at b2
      have b2 : Bt RN H' H2 D (rest3 ps.length (a, b, c)) := b2
      obtain ⟨v2, e2, p2⟩ := b2.ls
      refine ⟨_, rfl, D, rfl, ⟨_, SqL.of e2⟩, fun D3 nD3 => lcB_list (Ri := RN) (Ro := RN) (l := rest3 ps.length (a, b, c)) (f := fun d => if wthn ps a b c d = true then some d else none) nD3 (SqL.of e2) p2 (by have := rest3_le ps.length (a, b, c); omega) (fun d v H3 hd s3 r3 K1 K2 h1 h2 => ?_) fun H3 b3 => ?_⟩
      · cases r3
        obtain ⟨hd1, hd2, hd3, hd4⟩ := rest3_mem hd
        have sA := b1.sm.trans (sm.trans (b2.sm.trans s3))
        refine ⟨rfl, _, rfl, _, rfl, _, rfl, l, q, ps, a, b, c, d, rfl, hL.same sA, s3 _ _ (b2.sm _ _ eq'), ok, ⟨by omega, by omega, hc, hd1⟩, _, rfl, itB (fun c0 => ?_) fun c0 => ?_⟩
        · exact ⟨_, rfl, h1 _ _ d (if_pos c0) (Same.refl _) rfl⟩
        · exact h2 _ (if_neg (by rw [c0]; decide)) (Same.refl _)
      have b3 : Bt RN H2 H3 D3 (inn ps (a, b, c)) := b3
      obtain ⟨v3, e3, p3⟩ := b3.ls
      have hv3 : v3.length = (inn ps (a, b, c)).length := p3.length
      refine ⟨_, rfl, D3, rfl, ⟨_, SqL.of e3⟩, for_list (K := K) (a := D3) (xs := v3) (fun j σ H4 => H4 = H3 ∧ (∃ x, σ = [some (.ref l), some (.ref hl), some (.int (ps.length : Nat)), some (.ref q), x, some (.ref D), some (.ref D3)]) ∧ ∀ d ∈ (inn ps (a, b, c)).take j, ¬ 0 < sdv ps hs a b c d) ⟨rfl, ⟨_, rfl⟩, fun t ht => by simp at ht⟩
        (fun j σ H4 _ ⟨e, _⟩ => by
          subst e
          exact SqL.of e3) ?_ ?_⟩
      · rintro j v σ H4 hvj ⟨rfl, ⟨x4, rfl⟩, nz2⟩
        obtain ⟨d, hdj, r4⟩ := paired_get _ p3 hvj
        cases r4
        have hdi : d ∈ rest3 ps.length (a, b, c) := by
          obtain ⟨y, hy, e⟩ := List.mem_filterMap.mp (List.mem_of_getElem? hdj)
          split at e
          · cases e
            exact hy
          · cases e
        obtain ⟨hd1, hd2, hd3, hd4⟩ := rest3_mem hdi
        have sA := b1.sm.trans (sm.trans (b2.sm.trans b3.sm))
        refine ⟨_, rfl, _, rfl, _, rfl, _, rfl, l, hl, q, ps, hs, a, b, c, d, rfl, hL.same sA, hH.same sA, b3.sm _ _ (b2.sm _ _ eq'), ok, okh, hlen2, ⟨by omega, by omega, hc, hd1⟩, _, _, rfl, rfl, _, rfl, itD (fun c0 => ?_) fun c0 => ?_⟩
        · refine ⟨_, rfl, _, rfl, by show 2 ≤ sizeLine; decide, fun u nu => k _ _ (sA.trans (same_new nu)) ?_⟩
          have e : lawHigh ps hs = some ((a, b, c), d) := by
            unfold lawHigh
            refine head_at ht ?_ nz
            unfold hiL
            exact headf_at hdj (if_pos c0) fun z hz => if_neg (nz2 z hz)
          rw [e]
          exact ⟨u, .ref q, rfl, upd_same, q, rfl, (same_new nu) _ _ (b3.sm _ _ (b2.sm _ _ eq'))⟩
        · refine ⟨rfl, ⟨_, rfl⟩, fun t htk => ?_⟩
          rw [take_snoc hdj] at htk
          rcases List.mem_append.mp htk with h | h
          · exact nz2 t h
          · rw [List.mem_singleton] at h
            subst h
            exact c0
      · rintro σ H4 ⟨rfl, ⟨x4, rfl⟩, nz2⟩
        rw [hv3, List.take_length] at nz2
        refine ⟨sm.trans (b2.sm.trans b3.sm), ⟨_, _, _, _, rfl⟩, fun t htk => ?_⟩
        rw [take_snoc ht] at htk
        rcases List.mem_append.mp htk with h | h
        · exact nz t h
        · rw [List.mem_singleton] at h
          subst h
          unfold hiL
          exact List.filterMap_eq_nil_iff.mpr fun d hd => if_neg (nz2 d hd)
    · rintro σ H' ⟨sm, ⟨x, y, z, u, rfl⟩, nz⟩
      rw [ul, List.take_length] at nz
      refine k _ _ (b1.sm.trans sm) ?_
      have e : lawHigh ps hs = none := by
        unfold lawHigh
        rw [List.flatMap_eq_nil_iff.mpr nz]
        rfl
      rw [e]
      rfl
end
end KB
end

section
set_option Elab.async false
set_option linter.all false
set_option maxRecDepth 100000
set_option maxHeartbeats 400000
/-! _law_spoil, _law_lines -/
namespace KB
open PySem PySem.Spec PyProof.Rows L2
def spSpoil : Sp := fun vs H Q _ => ∃ (l : Addr) (xs : List V), vs = [.ref l] ∧ H l = some (.lst xs) ∧ xs.length ≤ 1000 ∧ ∀ H', SameX l H H' → (∃ ys, H' l = some (.lst ys)) → Q .non H'
theorem scSp : FnScope ["_law_told"] ["_law_told"] (defScope (topS 81)) := ⟨rfl, rfl, rfl, by decide +kernel, rfl, by decide +kernel, by decide +kernel⟩
section
variable {P : Program} {w : World} {K : PySem.W.Frag} {mg : Str → Option Value} {base : Heap}
theorem ok_spoil {f : Addr} {fd : FuncData} (F : Fun K "_law_spoil" "_law_spoil" (topS 81) f fd) : FnOk P w K mg base CX0 1 f fd ["_law_told"] spSpoil := by
  refine F.ok scSp (fun vs H Q E h => ?_) (fun cdv A outer s H vs Q E hr h => ⟨_,
    pss_cons (ps_expr (pe_bm PySem.F.plainAttrs_list PySem.F.slot_list_append PySem.F.type_list_append mt_append (pv 0) (pa_cons pe_int pa_nil)))
    (pss_one (ps_asg pe_int (pg_sub (pv 0) pe_int set_list))), ?_⟩)
  · obtain ⟨l, xs, rfl, _⟩ := h
    rfl
  · obtain ⟨l, xs, rfl, e, hx, k⟩ := h
    refine ⟨_, rfl, .inl ⟨rfl, _, .inl (.inl e)⟩, l, xs, _, rfl, rfl, e, small1000 hx, ⟨_, rfl, l, _, 0, 0, rfl, rfl, upd_same, ?_, k _ (fun b o n eb => ?_) ⟨_, upd_same⟩⟩⟩
    · exact ixN_nat (j := 0) (by rw [List.length_append]; show 0 < xs.length + 1; omega)
    · rw [upd_ne n, upd_ne n]
      exact eb
end
/-! _law_lines -/
def bump (xs : List Int) (j : Nat) : List Int := xs.set j (xs.getD j 0 + 1)
def lfold (ps : List (Int × Int)) (l : List (Nat × Nat)) : List Int := l.foldl (fun xs p => bump xs (leftL ps p.1 p.2).length) (List.replicate (ps.length - 1) 0)
def lawLines (ps : List (Int × Int)) : List Int := lfold ps (pairs2 ps.length)
theorem lfold_len (ps : List (Int × Int)) : ∀ (l : List (Nat × Nat)) (xs : List Int), (l.foldl (fun xs p => bump xs (leftL ps p.1 p.2).length) xs).length = xs.length
  | [], _ => rfl
  | p :: l, xs => by
    rw [List.foldl_cons, lfold_len ps l]
    unfold bump
    rw [List.length_set]
theorem prow_but (n a : Nat) : prow n a = (but (List.range n) a).map fun b => (a, b) := by
  unfold prow but
  rw [List.map_filterMap]
  congr 1
  funext b
  by_cases c : a = b
  · simp [c]
  · simp [c, Ne.symm c]
def RPx (ps : List (Int × Int)) : Rel Nat := fun H v i => RT H v [cx ps i, cy ps i]
instance {ps : List (Int × Int)} : Mn (RPx ps) := ⟨fun k h => Mn.up (R := RT) k h⟩
theorem paired_px {H : Hp} {vs : List V} {ps : List (Int × Int)} (p : Paired (RP H) vs ps) : Paired (RPx ps H) vs (List.range ps.length) := by
  have go : ∀ (vs : List V) (qs : List (Int × Int)) (k : Nat), Paired (RP H) vs qs → (∀ i, i < qs.length → ps.getD (k + i) (0, 0) = qs.getD i (0, 0)) → Paired (RPx ps H) vs ((List.range qs.length).map (k + ·)) := by
    intro vs qs k p
    induction p generalizing k with
    | nil => intro _; exact .nil
    | @cons v q vs qs r t ih =>
      intro hk
      rw [List.length_cons, List.range_succ_eq_map, List.map_cons, List.map_map]
      refine .cons ?_ ?_
      · have e := hk 0 (by simp)
        have e : ps.getD (k + 0) (0, 0) = q := e
        show RT H v [cx ps (k + 0), cy ps (k + 0)]
        unfold cx cy
        rw [e]
        exact r
      · have := ih (k + 1) (fun i hi => by
          have e := hk (i + 1) (by simpa using hi)
          rw [show k + 1 + i = k + (i + 1) by omega, e]
          rfl)
        have e2 : ((fun x => k + x) ∘ Nat.succ) = fun x => k + 1 + x := by
          funext x
          show k + (x + 1) = _
          omega
        rw [e2]
        exact this
  have := go vs ps 0 p (fun i hi => by rw [Nat.zero_add])
  simpa using this
theorem flat_ne {ps : List (Int × Int)} (h : flat? ps = none) {a b c : Nat} (ha : a < ps.length) (hb : b < ps.length) (hc : c < ps.length) (hab : a ≠ b) (hac : a ≠ c) (hbc : b ≠ c) : tn ps a b c ≠ 0 := by
  have hn := List.find?_eq_none.mp h
  obtain ⟨t, ht, hp⟩ := perm_of ha hb hc hab hac hbc
  have hz : tn ps t.1 t.2.1 t.2.2 ≠ 0 := by simpa using hn t ht
  unfold perm3 at hp
  have inj : ∀ {x y z x' y' z' : Nat}, k3 x y z = k3 x' y' z' → x = x' ∧ y = y' ∧ z = z' := fun {x y z x' y' z'} e => by
    simp only [List.cons.injEq, Sum.inl.injEq, and_true] at e
    omega
  rcases hp with e | e | e | e | e | e <;> obtain ⟨rfl, rfl, rfl⟩ := inj e
  · exact hz
  · rw [tn_rot]
    exact hz
  · rw [tn_rot2]
    exact hz
  · rw [tn_sw]
    omega
  · rw [tn_sw1]
    omega
  · rw [tn_sw2]
    omega
theorem pts_ne {ps : List (Int × Int)} (h : flat? ps = none) (h3 : 3 ≤ ps.length) {a b : Nat} (ha : a < ps.length) (hb : b < ps.length) (hab : a ≠ b) : ¬ (cx ps a = cx ps b ∧ cy ps a = cy ps b) := by
  intro ⟨e1, e2⟩
  obtain ⟨c, hc, h1, h2⟩ : ∃ c, c < ps.length ∧ a ≠ c ∧ b ≠ c := by
    by_cases c0 : a ≠ 0 ∧ b ≠ 0
    · exact ⟨0, by omega, by omega, by omega⟩
    · by_cases c1 : a ≠ 1 ∧ b ≠ 1
      · exact ⟨1, by omega, by omega, by omega⟩
      · exact ⟨2, by omega, by omega, by omega⟩
  refine flat_ne h ha hb hc hab h1 h2 ?_
  unfold tn ar
  rw [e1, e2]
  simp
theorem tn_aab (ps : List (Int × Int)) (a b : Nat) : tn ps a b a = 0 ∧ tn ps a b b = 0 := by
  unfold tn ar
  constructor <;> grind
theorem leftL_eq (ps : List (Int × Int)) (a b : Nat) : leftL ps a b = (List.range ps.length).filterMap fun c => if 0 < tn ps a b c then some c else none := by
  unfold leftL
  congr 1
  funext c
  by_cases h : c = a ∨ c = b
  · rw [if_pos h, if_neg]
    rcases h with rfl | rfl
    · rw [(tn_aab ps _ _).1]
      decide
    · rw [(tn_aab ps _ _).2]
      decide
  · rw [if_neg h]
    unfold sg
    by_cases h2 : tn ps a b c > 0
    · rw [if_pos h2, if_pos rfl, if_pos h2]
    · rw [if_neg h2, if_neg h2, if_neg]
      split <;> omega
theorem fm_le {l : List Nat} {f : Nat → Option Nat} : ∀ {a b : Nat}, a ∈ l → b ∈ l → a ≠ b → f a = none → f b = none → (l.filterMap f).length + 2 ≤ l.length := by
  have one : ∀ (l : List Nat) (a : Nat), a ∈ l → f a = none → (l.filterMap f).length + 1 ≤ l.length := by
    intro l
    induction l with
    | nil => intro a h; cases h
    | cons x l ih =>
      intro a h hf
      rw [List.filterMap_cons]
      rcases List.mem_cons.mp h with rfl | h
      · rw [hf]
        have := List.length_filterMap_le f l
        simp only [List.length_cons]
        omega
      · have := ih a h hf
        cases f x <;> simp only [List.length_cons] <;> omega
  induction l with
  | nil => intro a b h; cases h
  | cons x l ih =>
    intro a b ha hb hab fa fb
    rw [List.filterMap_cons]
    rcases List.mem_cons.mp ha with rfl | ha'
    · rcases List.mem_cons.mp hb with rfl | hb'
      · exact absurd rfl hab
      · rw [fa]
        have := one l b hb' fb
        simp only [List.length_cons]
        omega
    · rcases List.mem_cons.mp hb with rfl | hb'
      · rw [fb]
        have := one l a ha' fa
        simp only [List.length_cons]
        omega
      · have := ih ha' hb' hab fa fb
        cases f x <;> simp only [List.length_cons] <;> omega
theorem leftL_lt {ps : List (Int × Int)} {a b : Nat} (ha : a < ps.length) (hb : b < ps.length) (hab : a ≠ b) : (leftL ps a b).length + 2 ≤ ps.length := by
  have := fm_le (l := List.range ps.length) (f := fun c => if c = a ∨ c = b then none else if sg (tn ps a b c) = 1 then some c else none) (List.mem_range.mpr ha) (List.mem_range.mpr hb) hab (if_pos (.inl rfl)) (if_pos (.inr rfl))
  rw [List.length_range] at this
  exact this
theorem tGtI {σ : L2.St} {H : Hp} {ta tb : TE} {i j : Int} {A B : Hp → Prop} (h1 : Gv ta σ H (.int i)) (h2 : Gv tb σ H (.int j)) (hA : j < i → A H) (hB : ¬ j < i → B H) : tTest (tOp (rI0 fun i j => .bl (decide (j < i))) ta tb) σ H fun b H3 => if b = true then A H3 else B H3 :=
  h1 _ (h2 _ ⟨i, j, rfl, rfl, _, rfl, itD hA hB⟩)
def spLLines : Sp := fun vs H Q _ => ∃ (l : Addr) (ps : List (Int × Int)), vs = [.ref l] ∧ LsAt RP H l ps ∧ PtsOk ps ∧ flat? ps = none ∧ ∀ H' p, H p = none → Bt RI H H' p (lawLines ps) → Q (.ref p) H'
abbrev nLl : List Str := ["_law_points_here", "_law_many", "_law_lines_here", "_law_p", "_law_q", "_law_others", "_law_left", "_law_r"]
theorem scLl : FnScope nLl ["_law_points_here"] (defScope (topS 79)) := ⟨rfl, rfl, rfl, by decide +kernel, rfl, by decide +kernel, by decide +kernel⟩
theorem opNeD (K : PySem.W.Frag) {X : Cx} (h : X.K = K) (hu : X.A.units + 64 < cLine) : OpR X (compareOp .NotEq) (rNeD K) := by
  subst h
  exact op_neD hu
theorem dp_pt {K : PySem.W.Frag} {H : Hp} {t : Addr} {x y : Int} (e : H t = some (.tup [.int x, .int y])) : Dp K H (.ref t) (.tuple [.int x, .int y]) := .tup (SqT.of e) (.cons (.int _) (.cons (.int _) .nil))
theorem eqv_pt (x y x' y' : Int) : PyData.eqv (.tuple [.int x, .int y]) (.tuple [.int x', .int y']) = decide (x = x' ∧ y = y') := by
  simp only [PyData.eqv, PyData.eqvAll, Bool.and_true]
  rw [Bool.eq_iff_iff]
  simp
section
variable {P : Program} {w : World} {K : PySem.W.Frag} {mg : Str → Option Value} {base : Heap}
theorem ok_llines {f fA : Addr} {fd fdA : FuncData} (F : Fun K "_law_lines" "_law_lines" (topS 79) f fd) (GA : Gd K mg "_law_area" (topS 72) fA fdA) (mL : mg "len" = none) : FnOk P w K mg base CX0 2 f fd ["_law_points_here"] spLLines := by
  have FA : FnOk P w K mg base CX0 1 fA fdA ["_law_p", "_law_q", "_law_r"] spArea := ok_larea GA.F
  have bA := GA.F.binds (ps := ["_law_p", "_law_q", "_law_r"]) fun _ _ _ _ _ _ us hl => match us, hl with | [_, _, _], _ => rfl
  refine F.ok scLl (fun vs H Q E h => ?_) (fun cdv A outer s H vs Q E hr h => ⟨_,
    pss_cons (ps_set (i := 1) scLl.nd rfl (Or.inl rfl) (pe_callB call_len_seq (by rfl) mL PySem.boot_len (pa_cons (pv 0) pa_nil)))
    (pss_cons (ps_set (i := 2) scLl.nd rfl (Or.inl rfl) (pe_op op_rep (pe_lst (pa_cons pe_int pa_nil)) (pe_op op_sub (pv 1) pe_int)))
    (pss_cons (ps_for PassesOwn.never rfl (pi_list (pv 0)) (pg_name (i := 3) scLl.nd rfl (Or.inr rfl))
      (pss_cons (ps_setLc (i := 5) (own := [("_law_q", 4)]) (g := gName 4) (tt := tTest (tOp (rNeD K) (tVar 4) (tVar 3))) rfl scLl.nd rfl rfl (sw_true rfl rfl rfl (by decide +kernel)) (pi_list (pv 0)) (blkOk_by (N := nLl) (sc := defScope (topS 79)) (by decide +kernel))
        (fun _ _ _ _ _ => pg_name (i := 4) scLl.nd rfl (Or.inl rfl)) (fun _ _ _ _ _ => pts_one (pt_cmpR (opNeD K rfl hr.units) (pv 4) (pv 3) (nomark _))) (fun _ _ _ _ _ => pv 4))
      (pss_one (ps_for PassesOwn.never rfl (pi_list (pv 5)) (pg_name (i := 4) scLl.nd rfl (Or.inr rfl))
        (pss_cons (ps_set (i := 6) scLl.nd rfl (Or.inl rfl) (pe_callB call_len_seq (by rfl) mL PySem.boot_len (pa_cons
          (pe_lc (own := [("_law_r", 7)]) (g := gName 7) (tt := tTest (tOp (rI0 fun i j => .bl (decide (j < i))) (tCall spArea [] E0 (tCons (tVar 3) (tCons (tVar 4) (tCons (tVar 7) tNil)))) (tC (.int 0)))) rfl scLl.nd (pi_list (pv 0)) (blkOk_by (N := nLl) (sc := defScope (topS 79)) (by decide +kernel))
            (fun _ _ _ _ _ => pg_name (i := 7) scLl.nd rfl (Or.inl rfl)) (fun _ _ _ _ _ => pts_one (pt_cmpR op_gt (pe_call FA hr rfl GA.g GA.F.kp bA .nil pass0 (pa_cons (pv 3) (pa_cons (pv 4) (pa_cons (pv 7) pa_nil)))) pe_int (nomark _))) (fun _ _ _ _ _ => pv 7)) pa_nil)))
        (pss_one (ps_asg (pe_op op_add (pe_ix ix_list (pv 2) (pv 6) (fun _ _ => rfl)) pe_int) (pg_sub (pv 2) (pv 6) set_list))))))))
    (pss_one (ps_ret (pv 2))))), ?_⟩)
  · obtain ⟨l, ps, rfl, _⟩ := h
    rfl
  · obtain ⟨l, ps, rfl, hL, ok, hf, k⟩ := h
    obtain ⟨vs, ev, pvs⟩ := id hL
    have hlen : vs.length = ps.length := pvs.length
    have px := paired_px pvs
    have hn := ok.hi
    have hn3 := ok.lo
    refine ⟨_, rfl, l, vs, rfl, .inl (SqL.of ev), ?_⟩
    rw [hlen]
    refine ⟨by decide, fun Z nZ => ⟨_, rfl, _, _, rfl, rfl, Z, _, _, rfl, rfl, upd_same, by omega, by omega, ?_, fun D nD => ?_⟩⟩
    · rw [sizeLine_eq]
      show 1 * _ ≤ _
      omega
    have sZ := same_new (o := .lst [V.int 0]) nZ
    have en : (((ps.length : Nat) : Int) - 1).toNat = ps.length - 1 := by omega
    have e0 : (List.replicate (((ps.length : Nat) : Int) - 1).toNat [V.int 0]).flatten = (List.replicate (ps.length - 1) (0 : Int)).map V.int := by
      rw [en, List.map_replicate, List.flatten_replicate_singleton]
    rw [e0]
    have b0 : Bt RI (upd H Z (.lst [V.int 0])) (upd (upd H Z (.lst [V.int 0])) D (.lst ((List.replicate (ps.length - 1) (0 : Int)).map V.int))) D (lfold ps []) := ⟨nD, same_new nD, _, upd_same, ri_paired _⟩
    have sD := same_new (o := .lst ((List.replicate (ps.length - 1) (0 : Int)).map V.int)) nD
    have evD : (upd (upd H Z (.lst [V.int 0])) D (.lst ((List.replicate (ps.length - 1) (0 : Int)).map V.int))) l = some (.lst vs) := sD _ _ (sZ _ _ ev)
    refine ⟨_, rfl, l, rfl, ⟨_, SqL.of evD⟩, for_list (K := K) (a := l) (xs := vs) (fun i σ H' => (∃ x y z u v, σ = [some (.ref l), some (.int (ps.length : Nat)), some (.ref D), x, y, z, u, v]) ∧ Bt RI (upd H Z (.lst [V.int 0])) H' D (lfold ps ((List.range i).flatMap (prow ps.length))))
      ⟨⟨_, _, _, _, _, rfl⟩, b0⟩ (fun i σ H' _ ⟨_, b⟩ => SqL.of (b.sm _ _ (sZ _ _ ev))) ?_ ?_⟩
    · rintro i v σ H' hv ⟨⟨x, y, z, u, v8, rfl⟩, b⟩
      obtain ⟨i', hi', t, rfl, et⟩ := paired_get _ px hv
      have hii : i < ps.length := by
        have := (List.getElem?_eq_some_iff.mp hv).1
        omega
      have : i' = i := by
        rw [List.getElem?_range hii] at hi'
        exact (Option.some.inj hi').symm
      subst this
      have sH : Same H H' := sZ.trans b.sm
      have et' := sH _ _ et
      have pH := Paired.upd (R := RPx ps) (.of sH) px
      refine ⟨_, rfl, l, rfl, ⟨_, SqL.of (sH _ _ ev)⟩, fun O nO => lcB_list (Ri := RPx ps) (Ro := RPx ps) (l := List.range ps.length) (f := fun j => if j = i' then none else some j) nO (SqL.of (sH _ _ ev)) pH (by rw [List.length_range]; omega) (fun j v H2 hj s2 r2 K1 K2 h1 h2 => ?_) fun H2 b2 => ?_⟩
      · have hj' := List.mem_range.mp hj
        obtain ⟨t2, rfl, et2⟩ := r2
        refine ⟨rfl, _, rfl, _, rfl, _, _, dp_pt et2, dp_pt (s2 _ _ et'), rfl, rfl, _, rfl, ?_⟩
        rw [eqv_pt]
        by_cases c : j = i'
        · subst c
          rw [decide_eq_true ⟨rfl, rfl⟩]
          exact iteF (h2 _ (if_pos rfl) (Same.refl _))
        · rw [decide_eq_false (pts_ne hf hn3 hj' hii c)]
          exact iteT ⟨_, rfl, h1 _ _ j (if_neg c) (Same.refl _) ⟨t2, rfl, et2⟩⟩
      have b2 : Bt (RPx ps) H' H2 O (but (List.range ps.length) i') := b2
      obtain ⟨v2, e2, p2⟩ := b2.ls
      have hv2 : v2.length = (but (List.range ps.length) i').length := p2.length
      obtain ⟨dvD, edD, _⟩ := (b.same b2.sm).ls
      have nOD : O ≠ D := by
        obtain ⟨dv, ed, _⟩ := b.ls
        exact (ne_of_none ed nO).symm
      refine ⟨_, rfl, O, rfl, ⟨_, SqL.of e2⟩, for_list (K := K) (a := O) (xs := v2) (fun j σ H3 => (∃ y u v, σ = [some (.ref l), some (.int (ps.length : Nat)), some (.ref D), some (.ref t), y, some (.ref O), u, v]) ∧ SameX D H2 H3 ∧ Bt RI (upd H Z (.lst [V.int 0])) H3 D (lfold ps ((List.range i').flatMap (prow ps.length) ++ ((but (List.range ps.length) i').take j).map fun q => (i', q))))
        ⟨⟨_, _, _, rfl⟩, fun _ _ _ e => e, by simpa using b.same b2.sm⟩ (fun j σ H3 _ ⟨_, sx, _⟩ => SqL.of (sx _ _ nOD e2)) ?_ ?_⟩
      · rintro j v σ H3 hvj ⟨⟨y3, u3, v3, rfl⟩, sx, b3⟩
        obtain ⟨q, hq, t3, rfl, et3⟩ := paired_get _ p2 hvj
        have hqm := List.mem_of_getElem? hq
        have hqn : q < ps.length := List.mem_range.mp (but_mem hqm)
        have hqi : i' ≠ q := by
          obtain ⟨y, hy, e⟩ := List.mem_filterMap.mp hqm
          split at e
          · cases e
          · cases e
            omega
        have sH3 : Same H H3 := sZ.trans b3.sm
        have kt3 : KT H2 H3 := fun b xs e => sx b _ (ne_of e edD fun z => by cases z) e
        have et3' := kt3 _ _ et3
        have ett := kt3 _ _ (b2.sm _ _ et')
        have pH3 := Paired.upd (R := RPx ps) (.of sH3) px
        refine ⟨_, rfl, l, rfl, ⟨_, SqL.of (sH3 _ _ ev)⟩, fun W nW => lcB_list (Ri := RPx ps) (Ro := RPx ps) (l := List.range ps.length) (f := fun r => if 0 < tn ps i' q r then some r else none) nW (SqL.of (sH3 _ _ ev)) pH3 (by rw [List.length_range]; omega) (fun r v H4 hr4 s4 r4 K1 K2 h1 h2 => ?_) fun H4 b4 => ?_⟩
        · have hr' := List.mem_range.mp hr4
          obtain ⟨t4, rfl, et4⟩ := r4
          refine ⟨rfl, tGtI (rdArea ok (gVar rfl) (gVar rfl) (gVar rfl) (s4 _ _ ett) (s4 _ _ et3') et4 hii hqn) gC (fun c => ?_) fun c => ?_⟩
          · exact ⟨_, rfl, h1 _ _ r (if_pos c) (Same.refl _) ⟨t4, rfl, et4⟩⟩
          · exact h2 _ (if_neg c) (Same.refl _)
        rw [← leftL_eq] at b4
        obtain ⟨v4, e4, p4⟩ := b4.ls
        have hv4 : v4.length = (leftL ps i' q).length := p4.length
        refine ⟨W, v4, rfl, .inl (SqL.of e4), ?_⟩
        rw [hv4]
        have hlt := leftL_lt hii hqn hqi
        have b5 := b3.same b4.sm
        obtain ⟨dv, edv, pdv⟩ := b5.ls
        have hll : (lfold ps ((List.range i').flatMap (prow ps.length) ++ ((but (List.range ps.length) i').take j).map fun q => (i', q))).length = ps.length - 1 := by
          unfold lfold
          rw [lfold_len, List.length_replicate]
        have hdv : dv.length = ps.length - 1 := pdv.length.trans hll
        obtain ⟨w5, ew5, rw5⟩ := paired_idx 0 (leftL ps i' q).length pdv (by omega)
        cases rw5
        refine gIxL (gVar rfl) (gVar rfl) (SqL.of edv) (atI_nat ew5) _ ⟨_, _, rfl, rfl, _, rfl, _, rfl, D, dv, _, (leftL ps i' q).length, rfl, rfl, edv, ixN_nat (by omega), ⟨_, _, _, rfl⟩, (sx.trans (.of b4.sm)).trans SameX.upd, ?_⟩
        have b6 := b5.set (k := (leftL ps i' q).length) (x := (lfold ps ((List.range i').flatMap (prow ps.length) ++ ((but (List.range ps.length) i').take j).map fun q => (i', q))).getD (leftL ps i' q).length 0 + 1) edv (v := V.int _) rfl
        have e6 : lfold ps ((List.range i').flatMap (prow ps.length) ++ ((but (List.range ps.length) i').take (j + 1)).map fun q => (i', q)) = bump (lfold ps ((List.range i').flatMap (prow ps.length) ++ ((but (List.range ps.length) i').take j).map fun q => (i', q))) (leftL ps i' q).length := by
          rw [take_snoc hq, List.map_append, ← List.append_assoc]
          unfold lfold
          rw [List.foldl_append]
          rfl
        rw [e6]
        exact b6
      · rintro σ H3 ⟨⟨y3, u3, v3, rfl⟩, sx, b3⟩
        rw [hv2, List.take_length, ← prow_but] at b3
        refine ⟨⟨_, _, _, _, _, rfl⟩, ?_⟩
        rw [flatMap_succ]
        exact b3
    · rintro σ H' ⟨⟨x, y, z, u, v8, rfl⟩, b⟩
      rw [hlen] at b
      exact ⟨_, rfl, k H' D (sZ.free nD) (b.from_ sZ)⟩
end
end KB
end

section
set_option Elab.async false
set_option linter.all false
set_option maxRecDepth 100000
set_option maxHeartbeats 400000
/-! the two line rows are one -/
namespace KB
open PySem PySem.Spec PyProof.Rows L2
theorem bump_get {xs : List Int} {k j : Nat} (hk : k < xs.length) : (bump xs k).getD j 0 = xs.getD j 0 + (if k = j then 1 else 0) := by
  unfold bump
  simp only [List.getD_eq_getElem?_getD, List.getElem?_set]
  by_cases c : k = j
  · subst c
    simp [hk]
  · simp [c]
theorem fold_get (ps : List (Int × Int)) (j : Nat) : ∀ (l : List (Nat × Nat)) (xs : List Int), (∀ p ∈ l, (leftL ps p.1 p.2).length < xs.length) →
    (l.foldl (fun xs p => bump xs (leftL ps p.1 p.2).length) xs).getD j 0 = xs.getD j 0 + (((l.filterMap fun p => if (leftL ps p.1 p.2).length = j then some () else none).length : Nat) : Int)
  | [], xs, _ => by simp
  | p :: l, xs, h => by
    have h0 := h p List.mem_cons_self
    rw [List.foldl_cons, fold_get ps j l _ (fun q hq => by
      unfold bump
      rw [List.length_set]
      exact h q (List.mem_cons_of_mem _ hq)), bump_get h0, List.filterMap_cons]
    by_cases c : (leftL ps p.1 p.2).length = j
    · simp only [c, if_true, List.length_cons]
      omega
    · simp only [c, if_false]
      omega
theorem rows_eq (ps : List (Int × Int)) : lawLines ps = lineRow ps := by
  have hb : ∀ p ∈ pairs2 ps.length, (leftL ps p.1 p.2).length < ps.length - 1 := fun p hp => by
    obtain ⟨a, ha, hm⟩ := List.mem_flatMap.mp hp
    rw [List.mem_range] at ha
    obtain ⟨e, h2, h3⟩ := prow_mem hm
    subst e
    have := leftL_lt ha h2 h3
    omega
  have l1 : (lawLines ps).length = ps.length - 1 := by
    unfold lawLines lfold
    rw [lfold_len, List.length_replicate]
  have l2 : (lineRow ps).length = ps.length - 1 := by
    unfold lineRow
    rw [List.length_map, List.length_range]
  refine List.ext_getElem (l1.trans l2.symm) fun j h1 h2 => ?_
  have e1 := fold_get ps j (pairs2 ps.length) (List.replicate (ps.length - 1) 0) (by rw [List.length_replicate]; exact hb)
  have hj : j < ps.length - 1 := by omega
  have e2 : (lawLines ps)[j] = (lawLines ps).getD j 0 := by
    rw [List.getD_eq_getElem?_getD, List.getElem?_eq_getElem h1]
    rfl
  rw [e2]
  show (lfold ps (pairs2 ps.length)).getD j 0 = _
  unfold lfold
  rw [e1]
  have e3 : (List.replicate (ps.length - 1) (0 : Int)).getD j 0 = 0 := by simp [List.getD_eq_getElem?_getD, hj]
  rw [e3, Int.zero_add]
  simp only [lineRow, List.getElem_map, List.getElem_range]
end KB
end

section
set_option Elab.async false
set_option linter.all false
set_option maxRecDepth 100000
set_option maxHeartbeats 400000
/-! _law_same -/
namespace KB
open PySem PySem.Spec PyProof.Rows L2
/-- x is True, x is False: x of any kind but a built-in -/
def rIsC : R2 := fun x y H Q => ∃ b : Bool, y = .bl b ∧ Q (.bl (decide (x = .bl b))) H
theorem op_isC {X : Cx} : OpR X (compareOp .Is) rIsC := by
  intro pins s σ H x y v u Q I rx ry h
  obtain ⟨b, rfl, q⟩ := h
  obtain rfl : u = Value.bool b := ry
  cases x with
  | bl a =>
    obtain rfl : v = Value.bool a := rx
    by_cases e : a = b
    · subst e
      exact wpAny_is_self rfl ⟨.bl true, H, I, rfl, by simpa using q⟩
    · exact wpAny_is_other rfl (fun z => e (Value.bool.inj z)) ⟨.bl false, H, I, rfl, by simpa [e] using q⟩
  | non =>
    obtain rfl : v = Value.none := rx
    exact wpAny_is_other rfl (fun z => by cases z) ⟨.bl false, H, I, rfl, by simpa using q⟩
  | int i =>
    obtain ⟨t, rfl⟩ := rx
    exact wpAny_is_other rfl (fun z => by cases z) ⟨.bl false, H, I, rfl, by simpa using q⟩
  | str z =>
    obtain ⟨t, rfl⟩ := rx
    exact wpAny_is_other rfl (fun z => by cases z) ⟨.bl false, H, I, rfl, by simpa using q⟩
  | byt z =>
    obtain ⟨t, rfl⟩ := rx
    exact wpAny_is_other rfl (fun z => by cases z) ⟨.bl false, H, I, rfl, by simpa using q⟩
  | flt z =>
    obtain ⟨t, rfl⟩ := rx
    exact wpAny_is_other rfl (fun z => by cases z) ⟨.bl false, H, I, rfl, by simpa using q⟩
  | ref a =>
    obtain rfl : v = Value.ref a := rx
    exact wpAny_is_other rfl (fun z => by cases z) ⟨.bl false, H, I, rfl, by simpa using q⟩
  | ty n =>
    obtain rfl : v = Value.type n := rx
    exact wpAny_is_other rfl (fun z => by cases z) ⟨.bl false, H, I, rfl, by simpa using q⟩
/-- flat things -/
inductive Flt : V → Prop
  | non : Flt .non
  | bl (b : Bool) : Flt (.bl b)
  | int (i : Int) : Flt (.int i)
  | str (z : Str) : Flt (.str z)
/-- a list, or a tuple -/
def Sq (H : Hp) (k : Bool) (a : Addr) (xs : List V) : Prop := H a = some (if k = true then .lst xs else .tup xs)
/-- equal data, to a depth -/
def Eqv : Nat → Hp → V → V → Prop
  | 0, _, u, v => u = v ∧ Flt v
  | n + 1, H, u, v => (u = v ∧ Flt v) ∨ ∃ k a b us vs, u = .ref a ∧ v = .ref b ∧ Sq H k a us ∧ Sq H k b vs ∧ us.length = vs.length ∧ us.length ≤ 1000 ∧ ∀ (i : Nat) (x y : V), us[i]? = some x → vs[i]? = some y → Eqv n H x y
theorem Sq.same {H H' : Hp} {k : Bool} {a : Addr} {xs : List V} (s : Same H H') (h : Sq H k a xs) : Sq H' k a xs := s _ _ h
theorem Eqv.same {H H' : Hp} (s : Same H H') : ∀ {n : Nat} {u v : V}, Eqv n H u v → Eqv n H' u v
  | 0, _, _, h => h
  | n + 1, _, _, h => by
    rcases h with h | ⟨k, a, b, us, vs, e1, e2, h1, h2, h3, h4, h5⟩
    · exact .inl h
    · exact .inr ⟨k, a, b, us, vs, e1, e2, h1.same s, h2.same s, h3, h4, fun i x y hx hy => Eqv.same s (h5 i x y hx hy)⟩
def spSame (n : Nat) : Sp := fun vs H Q _ => ∃ u v, vs = [u, v] ∧ Eqv n H u v ∧ ∀ H', Same H H' → Q (.bl true) H'
abbrev nSm : List Str := ["_law_told", "_law_due", "_law_k"]
theorem scSm : FnScope nSm ["_law_told", "_law_due"] (defScope (topS 80)) := ⟨rfl, rfl, rfl, by decide +kernel, rfl, by decide +kernel, by decide +kernel⟩
def TyS (v : V) : String := match v with
  | .non => "NoneType"
  | .bl _ => "bool"
  | .int _ => "int"
  | .str _ => "str"
  | _ => ""
section
variable {P : Program} {w : World} {K : PySem.W.Frag} {mg : Str → Option Value} {base : Heap}
theorem gIsi {σ : L2.St} {H : Hp} {ta : TE} {x : V} {t T : String} {b : Bool} (h : Gv ta σ H x) (ty : TyOf K H x (.type t)) (k : kitB t T = some b) : Gv (tCB (rIsi K) (tCons ta (tCons (tC (.ty T)) tNil))) σ H (.bl b) := fun Q q =>
  h _ ⟨x, .ty T, _, _, b, rfl, .ty T, .base ty, kit_ty k, q⟩
theorem tBl {σ : L2.St} {H : Hp} {ta : TE} {b : Bool} {A B : Hp → Prop} (h : Gv ta σ H (.bl b)) (hA : b = true → A H) (hB : b = false → B H) : tTest ta σ H fun b H3 => if b = true then A H3 else B H3 := h _ ⟨b, rfl, itB hA hB⟩
theorem gIsN {σ : L2.St} {H : Hp} {ta : TE} {x : V} (h : Gv ta σ H x) : Gv (tOp (fun x y H Q => y = .non ∧ Q (.bl (decide (x = .non))) H) ta (tC .non)) σ H (.bl (decide (x = .non))) := fun Q q => h _ ⟨rfl, q⟩
theorem gIsC {σ : L2.St} {H : Hp} {ta : TE} {x : V} {b : Bool} (h : Gv ta σ H x) : Gv (tOp rIsC ta (tC (.bl b))) σ H (.bl (decide (x = .bl b))) := fun Q q => h _ ⟨b, rfl, q⟩
theorem gIsN1 {σ : L2.St} {H : Hp} {ta : TE} (h : Gv ta σ H .non) : Gv (tOp (fun x y H Q => y = .non ∧ Q (.bl (decide (x = .non))) H) ta (tC .non)) σ H (.bl true) := fun Q q => h _ ⟨rfl, by rw [decide_eq_true rfl]; exact q⟩
theorem gIsC1 {σ : L2.St} {H : Hp} {ta : TE} {b : Bool} (h : Gv ta σ H (.bl b)) : Gv (tOp rIsC ta (tC (.bl b))) σ H (.bl true) := fun Q q => h _ ⟨b, rfl, by rw [decide_eq_true rfl]; exact q⟩
theorem ty_flt {H : Hp} {v : V} (h : Flt v) : TyOf K H v (.type (TyS v)) := by
  cases h with
  | non => exact .non
  | bl b => exact .bl b
  | int i => exact .int i
  | str z => exact .str z
theorem tTestI {σ : L2.St} {H : Hp} {ta : TE} {p : Prop} [Decidable p] {A B : Hp → Prop} (h : Gv ta σ H (.bl (decide p))) (hA : p → A H) (hB : ¬ p → B H) : tTest ta σ H fun b H3 => if b = true then A H3 else B H3 := h _ ⟨_, rfl, itD hA hB⟩
theorem ok_same0 {f : Addr} {fd : FuncData} (F : Fun K "_law_same" "_law_same" (topS 80) f fd) (mIs : mg "isinstance" = none) (mI : mg "int" = none) (mB : mg "bool" = none) (mSt : mg "str" = none) : FnOk P w K mg base CX0 2 f fd ["_law_told", "_law_due"] (spSame 0) := by
  refine F.ok scSm (fun vs H Q E h => ?_) (fun cdv A outer s H vs Q E hr h => ⟨_,
    pss_cons (ps_if (pt_cmpR op_isN (pv 1) pe_non (nomark _)) (pss_one (ps_ret (pe_cmpR op_isN (pv 0) pe_non (nomark _)))) pss_nil)
    (pss_cons (ps_if (pt_cmpR op_isC (pv 1) pe_bl (nomark _)) (pss_one (ps_ret (pe_cmpR op_isC (pv 0) pe_bl (nomark _)))) pss_nil)
    (pss_cons (ps_if (pt_cmpR op_isC (pv 1) pe_bl (nomark _)) (pss_one (ps_ret (pe_cmpR op_isC (pv 0) pe_bl (nomark _)))) pss_nil)
    (pss_cons (ps_if (pt_val (pe_callB call_isi (by rfl) mIs (by decide +kernel) (pa_cons (pv 1) (pa_cons (pe_bltn (v := .ty "int") (by rfl) mI (by decide +kernel) rfl) pa_nil))))
      (pss_one (ps_ret (pe_and (pe_callB call_isi (by rfl) mIs (by decide +kernel) (pa_cons (pv 0) (pa_cons (pe_bltn (v := .ty "int") (by rfl) mI (by decide +kernel) rfl) pa_nil)))
        (pe_and (pe_not (pe_callB call_isi (by rfl) mIs (by decide +kernel) (pa_cons (pv 0) (pa_cons (pe_bltn (v := .ty "bool") (by rfl) mB (by decide +kernel) rfl) pa_nil)))) (pe_one (pe_cmpR op_eq (pv 0) (pv 1) (nomark _))))))) pss_nil)
    (pss_cons (ps_if (pt_val (pe_callB call_isi (by rfl) mIs (by decide +kernel) (pa_cons (pv 1) (pa_cons (pe_bltn (v := .ty "str") (by rfl) mSt (by decide +kernel) rfl) pa_nil))))
      (pss_one (ps_ret (pe_and (pe_callB call_isi (by rfl) mIs (by decide +kernel) (pa_cons (pv 0) (pa_cons (pe_bltn (v := .ty "str") (by rfl) mSt (by decide +kernel) rfl) pa_nil))) (pe_one (pe_cmpR op_eq (pv 0) (pv 1) (nomark _)))))) pss_nil)
    pss_never)))), ?_⟩)
  · obtain ⟨u, v, rfl, _⟩ := h
    rfl
  · obtain ⟨u, v, rfl, ⟨rfl, fl⟩, k⟩ := h
    have fin : TyOf K H u (.type (TyS u)) := ty_flt fl
    cases fl with
    | non => exact tTestI (gIsN (gVar rfl)) (fun _ => gIsN1 (gVar rfl) _ (k H (Same.refl _))) fun c => absurd rfl c
    | bl b =>
      refine tTestI (gIsN (gVar rfl)) (fun c => by cases c) fun _ => ?_
      cases b with
      | true => exact tTestI (gIsC (gVar rfl)) (fun _ => gIsC1 (gVar rfl) _ (k H (Same.refl _))) fun c => absurd rfl c
      | false =>
        refine tTestI (gIsC (gVar rfl)) (fun c => by cases c) fun _ => ?_
        exact tTestI (gIsC (gVar rfl)) (fun _ => gIsC1 (gVar rfl) _ (k H (Same.refl _))) fun c => absurd rfl c
    | int i =>
      refine tTestI (gIsN (gVar rfl)) (fun c => by cases c) fun _ => ?_
      refine tTestI (gIsC (gVar rfl)) (fun c => by cases c) fun _ => ?_
      refine tTestI (gIsC (gVar rfl)) (fun c => by cases c) fun _ => ?_
      refine tBl (gIsi (gVar rfl) fin (t := "int") (b := true) (by decide +kernel)) (fun _ => ?_) fun c => by cases c
      refine gIsi (gVar rfl) fin (t := "int") (b := true) (by decide +kernel) _ ⟨true, rfl, iteT ?_⟩
      refine gIsi (gVar rfl) fin (t := "int") (b := false) (by decide +kernel) _ ⟨false, rfl, true, rfl, iteT ⟨_, rfl, _, rfl, rfl, ?_⟩⟩
      show Q (.bl (decide (V.int i = V.int i))) H
      rw [decide_eq_true rfl]
      exact k H (Same.refl _)
    | str z =>
      refine tTestI (gIsN (gVar rfl)) (fun c => by cases c) fun _ => ?_
      refine tTestI (gIsC (gVar rfl)) (fun c => by cases c) fun _ => ?_
      refine tTestI (gIsC (gVar rfl)) (fun c => by cases c) fun _ => ?_
      refine tBl (gIsi (gVar rfl) fin (t := "str") (b := false) (by decide +kernel)) (fun c => by cases c) fun _ => ?_
      refine tBl (gIsi (gVar rfl) fin (t := "str") (b := true) (by decide +kernel)) (fun _ => ?_) fun c => by cases c
      refine gIsi (gVar rfl) fin (t := "str") (b := true) (by decide +kernel) _ ⟨true, rfl, iteT ⟨_, rfl, _, rfl, rfl, ?_⟩⟩
      show Q (.bl (decide (V.str z = V.str z))) H
      rw [decide_eq_true rfl]
      exact k H (Same.refl _)
theorem ixSq (K : PySem.W.Frag) {X : Cx} (h : X.K = K) : IxR X (rIx K) := by
  subst h
  exact ix_seq
theorem gIxSq {σ : L2.St} {H : Hp} {ta tb : TE} {a : Addr} {xs : List V} {k : Bool} {j : Nat} {v : V} (h1 : Gv ta σ H (.ref a)) (h2 : Gv tb σ H (.int j)) (hS : Sq H k a xs) (e : xs[j]? = some v) : Gv (tOp (rIx K) ta tb) σ H v := fun Q q => by
  cases k with
  | true => exact h1 _ (h2 _ (.inl ⟨a, xs, j, v, rfl, rfl, SqL.of hS, atI_nat e, q⟩))
  | false => exact h1 _ (h2 _ (.inr (.inl ⟨a, xs, j, v, rfl, rfl, SqT.of hS, atI_nat e, q⟩)))
theorem gLenSq {σ : L2.St} {H : Hp} {ta : TE} {a : Addr} {xs : List V} {k : Bool} (h : Gv ta σ H (.ref a)) (hS : Sq H k a xs) : Gv (tCB (fun xs H Q => ∃ p ys, xs = [.ref p] ∧ (SqL K H p ys ∨ SqT K H p ys) ∧ Q (.int ys.length) H) (tCons ta tNil)) σ H (.int (xs.length : Nat)) := fun Q q => by
  cases k with
  | true => exact h _ ⟨a, xs, rfl, .inl (SqL.of hS), q⟩
  | false => exact h _ ⟨a, xs, rfl, .inr (SqT.of hS), q⟩
theorem sqOr {H : Hp} {a : Addr} {xs : List V} {k : Bool} (hS : Sq H k a xs) : SqL K H a xs ∨ SqT K H a xs := by
  cases k with
  | true => exact .inl (SqL.of hS)
  | false => exact .inr (SqT.of hS)
def kn (k : Bool) : String := if k = true then "list" else "tuple"
theorem ty_sq {H : Hp} {a : Addr} {xs : List V} {k : Bool} (h : Sq H k a xs) : TyOf K H (.ref a) (.type (kn k)) := by
  cases k with
  | true => exact .lst h
  | false => exact .tup h
def RTr : Rel Unit := fun _ v _ => v = .bl true
instance : Mn RTr := ⟨fun _ h => h⟩
theorem tr_vals {H : Hp} : ∀ {vs : List V} {l : List Unit}, Paired (RTr H) vs l → vs = (List.replicate l.length true).map V.bl
  | _, _, .nil => rfl
  | _, _, .cons r t => by rw [tr_vals t, show _ = V.bl true from r]; rfl
theorem all_rep (n : Nat) : (List.replicate n true).all id = true := by
  induction n with
  | zero => rfl
  | succ n ih => rw [List.replicate_succ, List.all_cons, ih]; rfl
theorem ok_sameS {n : Nat} {f : Addr} {fd : FuncData} (F : Fun K "_law_same" "_law_same" (topS 80) f fd) (g : mg "_law_same" = some (.ref f)) (mIs : mg "isinstance" = none) (mI : mg "int" = none) (mB : mg "bool" = none) (mSt : mg "str" = none) (mT : mg "tuple" = none) (mLi : mg "list" = none)
    (mL : mg "len" = none) (mA : mg "all" = none) (mR : mg "range" = none) (G : FnOk P w K mg base CX0 (n + 2) f fd ["_law_told", "_law_due"] (spSame n)) : FnOk P w K mg base CX0 (n + 1 + 2) f fd ["_law_told", "_law_due"] (spSame (n + 1)) := by
  have bF := F.binds (ps := ["_law_told", "_law_due"]) fun _ _ _ _ _ _ us hl => match us, hl with | [_, _], _ => rfl
  refine F.ok scSm (fun vs H Q E h => ?_) (fun cdv A outer s H vs Q E hr h => ⟨_,
    pss_cons (ps_if (pt_cmpR op_isN (pv 1) pe_non (nomark _)) (pss_one (ps_ret (pe_cmpR op_isN (pv 0) pe_non (nomark _)))) pss_nil)
    (pss_cons (ps_if (pt_cmpR op_isC (pv 1) pe_bl (nomark _)) (pss_one (ps_ret (pe_cmpR op_isC (pv 0) pe_bl (nomark _)))) pss_nil)
    (pss_cons (ps_if (pt_cmpR op_isC (pv 1) pe_bl (nomark _)) (pss_one (ps_ret (pe_cmpR op_isC (pv 0) pe_bl (nomark _)))) pss_nil)
    (pss_cons (ps_if (pt_val (pe_callB call_isi (by rfl) mIs (by decide +kernel) (pa_cons (pv 1) (pa_cons (pe_bltn (v := .ty "int") (by rfl) mI (by decide +kernel) rfl) pa_nil))))
      (pss_one (ps_ret (pe_and (pe_callB call_isi (by rfl) mIs (by decide +kernel) (pa_cons (pv 0) (pa_cons (pe_bltn (v := .ty "int") (by rfl) mI (by decide +kernel) rfl) pa_nil)))
        (pe_and (pe_not (pe_callB call_isi (by rfl) mIs (by decide +kernel) (pa_cons (pv 0) (pa_cons (pe_bltn (v := .ty "bool") (by rfl) mB (by decide +kernel) rfl) pa_nil)))) (pe_one (pe_cmpR op_eq (pv 0) (pv 1) (nomark _))))))) pss_nil)
    (pss_cons (ps_if (pt_val (pe_callB call_isi (by rfl) mIs (by decide +kernel) (pa_cons (pv 1) (pa_cons (pe_bltn (v := .ty "str") (by rfl) mSt (by decide +kernel) rfl) pa_nil))))
      (pss_one (ps_ret (pe_and (pe_callB call_isi (by rfl) mIs (by decide +kernel) (pa_cons (pv 0) (pa_cons (pe_bltn (v := .ty "str") (by rfl) mSt (by decide +kernel) rfl) pa_nil))) (pe_one (pe_cmpR op_eq (pv 0) (pv 1) (nomark _)))))) pss_nil)
    (pss_cons (ps_if (PW.pt (pw_and (pt_val (pe_callB call_isi (by rfl) mIs (by decide +kernel) (pa_cons (pv 1) (pa_cons (pe_bltn (v := .ty "tuple") (by rfl) mT (by decide +kernel) rfl) pa_nil)))) (pw_and1 (pt_not (pt_val (pe_callB call_isi (by rfl) mIs (by decide +kernel) (pa_cons (pv 0) (pa_cons (pe_bltn (v := .ty "tuple") (by rfl) mT (by decide +kernel) rfl) pa_nil)))))))) (pss_one (ps_ret pe_bl)) pss_nil)
    (pss_cons (ps_if (PW.pt (pw_and (pt_val (pe_callB call_isi (by rfl) mIs (by decide +kernel) (pa_cons (pv 1) (pa_cons (pe_bltn (v := .ty "list") (by rfl) mLi (by decide +kernel) rfl) pa_nil)))) (pw_and1 (pt_not (pt_val (pe_callB call_isi (by rfl) mIs (by decide +kernel) (pa_cons (pv 0) (pa_cons (pe_bltn (v := .ty "list") (by rfl) mLi (by decide +kernel) rfl) pa_nil)))))))) (pss_one (ps_ret pe_bl)) pss_nil)
    (pss_cons (ps_if (pt_cmpR op_ne (pe_callB call_len_seq (by rfl) mL PySem.boot_len (pa_cons (pv 0) pa_nil)) (pe_callB call_len_seq (by rfl) mL PySem.boot_len (pa_cons (pv 1) pa_nil)) (nomark _)) (pss_one (ps_ret pe_bl)) pss_nil)
    (pss_one (ps_ret (pe_callB (cr_all rfl) (by rfl) mA (by decide +kernel) (pa_cons
      (pe_lc (own := [("_law_k", 2)]) (g := gName 2) (tt := tYes) (te := tCall (spSame n) [] E0 (tCons (tOp (rIx K) (tVar 0) (tVar 2)) (tCons (tOp (rIx K) (tVar 1) (tVar 2)) tNil))) rfl scSm.nd (pi_range1 (by rfl) mR (pa_cons (pe_callB call_len_seq (by rfl) mL PySem.boot_len (pa_cons (pv 1) pa_nil)) pa_nil)) (blkOk_by (N := nSm) (sc := defScope (topS 80)) (by decide +kernel))
        (fun _ _ _ _ _ => pg_name (i := 2) scSm.nd rfl (Or.inl rfl)) (fun _ _ _ _ _ => pts_nil) (fun _ _ _ _ _ => pe_call G hr rfl g F.kp bF .nil pass0 (pa_cons (pe_ix (ixSq K rfl) (pv 0) (pv 2) (fun _ _ => rfl)) (pa_cons (pe_ix (ixSq K rfl) (pv 1) (pv 2) (fun _ _ => rfl)) pa_nil)))) pa_nil))))))))))), ?_⟩)
  · obtain ⟨u, v, rfl, _⟩ := h
    rfl
  · obtain ⟨u, v, rfl, hE, k⟩ := h
    rcases hE with ⟨rfl, fl⟩ | ⟨kk, a, b, us, vs, rfl, rfl, ha, hb, hl, hz, hs⟩
    · have fin : TyOf K H u (.type (TyS u)) := ty_flt fl
      cases fl with
      | non => exact tTestI (gIsN (gVar rfl)) (fun _ => gIsN1 (gVar rfl) _ (k H (Same.refl _))) fun c => absurd rfl c
      | bl b =>
        refine tTestI (gIsN (gVar rfl)) (fun c => by cases c) fun _ => ?_
        cases b with
        | true => exact tTestI (gIsC (gVar rfl)) (fun _ => gIsC1 (gVar rfl) _ (k H (Same.refl _))) fun c => absurd rfl c
        | false =>
          refine tTestI (gIsC (gVar rfl)) (fun c => by cases c) fun _ => ?_
          exact tTestI (gIsC (gVar rfl)) (fun _ => gIsC1 (gVar rfl) _ (k H (Same.refl _))) fun c => absurd rfl c
      | int i =>
        refine tTestI (gIsN (gVar rfl)) (fun c => by cases c) fun _ => ?_
        refine tTestI (gIsC (gVar rfl)) (fun c => by cases c) fun _ => ?_
        refine tTestI (gIsC (gVar rfl)) (fun c => by cases c) fun _ => ?_
        refine tBl (gIsi (gVar rfl) fin (t := "int") (b := true) (by decide +kernel)) (fun _ => ?_) fun c => by cases c
        refine gIsi (gVar rfl) fin (t := "int") (b := true) (by decide +kernel) _ ⟨true, rfl, iteT ?_⟩
        refine gIsi (gVar rfl) fin (t := "int") (b := false) (by decide +kernel) _ ⟨false, rfl, true, rfl, iteT ⟨_, rfl, _, rfl, rfl, ?_⟩⟩
        show Q (.bl (decide (V.int i = V.int i))) H
        rw [decide_eq_true rfl]
        exact k H (Same.refl _)
      | str z =>
        refine tTestI (gIsN (gVar rfl)) (fun c => by cases c) fun _ => ?_
        refine tTestI (gIsC (gVar rfl)) (fun c => by cases c) fun _ => ?_
        refine tTestI (gIsC (gVar rfl)) (fun c => by cases c) fun _ => ?_
        refine tBl (gIsi (gVar rfl) fin (t := "str") (b := false) (by decide +kernel)) (fun c => by cases c) fun _ => ?_
        refine tBl (gIsi (gVar rfl) fin (t := "str") (b := true) (by decide +kernel)) (fun _ => ?_) fun c => by cases c
        refine gIsi (gVar rfl) fin (t := "str") (b := true) (by decide +kernel) _ ⟨true, rfl, iteT ⟨_, rfl, _, rfl, rfl, ?_⟩⟩
        show Q (.bl (decide (V.str z = V.str z))) H
        rw [decide_eq_true rfl]
        exact k H (Same.refl _)
    refine tTestI (gIsN (gVar rfl)) (fun c => by cases c) fun _ => ?_
    refine tTestI (gIsC (gVar rfl)) (fun c => by cases c) fun _ => ?_
    refine tTestI (gIsC (gVar rfl)) (fun c => by cases c) fun _ => ?_
    refine tBl (gIsi (gVar rfl) (ty_sq hb) (T := "int") (b := false) (by cases kk <;> decide +kernel)) (fun c => by cases c) fun _ => ?_
    refine tBl (gIsi (gVar rfl) (ty_sq hb) (T := "str") (b := false) (by cases kk <;> decide +kernel)) (fun c => by cases c) fun _ => ?_
    have skip : ∀ (T : String) (b' : Bool) {A B : Hp → Prop}, kitB (kn kk) T = some b' → B H → tAnd (tB (tCB (rIsi K) (tCons (tVar 1) (tCons (tC (.ty T)) tNil)))) (tNot (tB (tCB (rIsi K) (tCons (tVar 0) (tCons (tC (.ty T)) tNil))))) [some (.ref a), some (.ref b), none] H fun b H3 => if b = true then A H3 else B H3 := by
      intro T b' A B hk hB
      refine gIsi (gVar rfl) (ty_sq hb) hk _ ⟨b', rfl, ?_⟩
      cases b' with
      | false => exact iteF (iteF hB)
      | true => exact iteT (gIsi (gVar rfl) (ty_sq ha) hk _ ⟨true, rfl, iteF hB⟩)
    refine skip "tuple" (!kk) (by cases kk <;> decide +kernel) ?_
    refine skip "list" kk (by cases kk <;> decide +kernel) ?_
    refine tNeI (gLenSq (gVar rfl) ha) (gLenSq (gVar rfl) hb) (fun c => absurd (by omega) c) fun _ => ?_
    refine ⟨_, rfl, b, vs, rfl, sqOr hb, _, rfl, by omega, by omega, fun D nD => lcB_range (Ro := RTr) (n := ((vs.length : Nat) : Int).toNat) (f := fun _ => some ()) nD (by omega) (fun i H1 hi s1 K1 K2 h1 h2 => ?_) fun H1 b1 => ?_⟩
    · have hi' : i < vs.length := by omega
      have hiu : i < us.length := by omega
      refine ⟨rfl, yesI ?_⟩
      show tCall _ _ _ _ [some (.ref a), some (.ref b), some (.int ((0 : Int) + i))] H1 K1
      rw [Int.zero_add]
      refine gIxSq (gVar rfl) (gVar rfl) (ha.same s1) (List.getElem?_eq_getElem hiu) _ (gIxSq (gVar rfl) (gVar rfl) (hb.same s1) (List.getElem?_eq_getElem hi') _ ⟨_, _, rfl, Eqv.same s1 (hs i _ _ (List.getElem?_eq_getElem hiu) (List.getElem?_eq_getElem hi')), fun H2 s2 => h1 _ _ () rfl s2 rfl⟩)
    · obtain ⟨v1, e1, p1⟩ := b1.ls
      have e2 := tr_vals p1
      refine ⟨D, _, rfl, SqL.of (by rw [e1, e2]), ?_⟩
      rw [all_rep]
      exact k _ b1.sm
theorem ok_same {f : Addr} {fd : FuncData} (F : Fun K "_law_same" "_law_same" (topS 80) f fd) (g : mg "_law_same" = some (.ref f)) (mIs : mg "isinstance" = none) (mI : mg "int" = none) (mB : mg "bool" = none) (mSt : mg "str" = none) (mT : mg "tuple" = none) (mLi : mg "list" = none)
    (mL : mg "len" = none) (mA : mg "all" = none) (mR : mg "range" = none) : ∀ n, FnOk P w K mg base CX0 (n + 2) f fd ["_law_told", "_law_due"] (spSame n)
  | 0 => ok_same0 F mIs mI mB mSt
  | n + 1 => ok_sameS F g mIs mI mB mSt mT mLi mL mA mR (ok_same F g mIs mI mB mSt mT mLi mL mA mR n)
end
end KB
end

section
set_option Elab.async false
set_option linter.all false
set_option maxRecDepth 100000
set_option maxHeartbeats 400000
/-! _law_floor, _law_bowl -/
namespace KB
open PySem PySem.Spec PyProof.Rows L2 NdefX
def rIsXc (K : PySem.W.Frag) (C : Addr) (cls : Value) (d : Option Addr) (a : Addr) : List V → Hp → VK → Prop := fun xs H Q => cls = .ref C ∧ ∃ dd, d = some dd ∧ rIsX K C dd a xs H Q
theorem call_isXc {X : Cx} {a C : Addr} {cls : Value} {d : Option Addr} {oe : Obj} {pn : List (Addr × Obj)} (K : PySem.W.Frag) (hK : X.K = K) (hC : ExcC X.K C) (hz : Zc cls d oe) (hf : ∃ vs, oe.data = .fields vs) : CallR (X.suite a ((a, oe) :: pn)) (.builtin "isinstance") (rIsXc K C cls d a) := by
  subst hK
  intro pins s σ H xs us Q I r h
  obtain ⟨e1, dd, e2, h⟩ := h
  subst e1 e2
  exact call_isX hC hz hf pins s σ H xs us Q I r h
structure ExF (K : PySem.W.Frag) (C BE : Addr) : Prop where
  ex : ExcC K C
  xf : XfC K C
  k1 : PySem.W.kitOne K (.ref C) (.ref BE) = some true
  k2 : PySem.W.kitOne K (.ref C) (.type "ValueError") = some true
theorem xfK {X : Cx} {a C : Addr} {oe : Obj} {cls : Value} {d : Option Addr} {pn : List (Addr × Obj)} {e : Expr} {te : TE} {pos : Pos} {n : Str} (T : XfC X.K C) (hno : PySem.W.findIn X.K (.ref C) n = some none)
    (hz : Zc cls d oe) (hf : ∃ vs, oe.data = .fields vs) (he : PE (X.suite a ((a, oe) :: pn)) e te) (hb : attributeBase e n X.env (eval e X.env) = eval e X.env := by rfl) : PE (X.suite a ((a, oe) :: pn)) (.Attribute e n pos) (tXf a cls d C n te) := pe_xf T hno hz hf he hb
def spLFloor (CF : Addr) : Sp := fun vs H Q _ => ∃ (l : Addr) (ps : List (Int × Int)), vs = [.ref l] ∧ LsAt RP H l ps ∧ PtsOk ps ∧
  (flat? ps = none → ∀ H' p f, Same H H' → H' p = some (.tup [.str "made", .ref f]) → FloorAt CF ps H' f → Q (.ref p) H') ∧
  ∀ t, flat? ps = some t → ∀ H' p u, Same H H' → H' p = some (.tup [.str "raised", .str "OnLine", u, .bl true]) → R3 H' u t → Q (.ref p) H'
abbrev nLF : List Str := ["_law_given", "e", "_law_own"]
theorem scLF : FnScope nLF ["_law_given"] (defScope (topS 82)) := ⟨rfl, rfl, rfl, by decide +kernel, rfl, by decide +kernel, by decide +kernel⟩
theorem made_same {H : Hp} {x dx C : Addr} (nx : H x = none) (nd : H dx = none) (ne : dx ≠ x) : Same H (upd (upd H dx (.own x)) x (.ins C dx [])) := (same_new nd).trans (same_new (by rw [upd_ne (Ne.symm ne)]; exact nx))
section
variable {P : Program} {w : World} {K : PySem.W.Frag} {mg : Str → Option Value} {base : Heap} {CF CL CP CN BE fI : Addr}
/-- the suite of one clause: own, then the answer -/
def tOwn (K : PySem.W.Frag) (C BE C1 C2 : Addr) (i j : Nat) (tr : Addr → Value → Option Addr → TE) : Addr → Value → Option Addr → TS := fun a cls d =>
  tSeq (tAsg (tAndV (tCB (rIsXc K C cls d a) (tCons (tVar i) (tCons (tC (.ref BE)) tNil))) (tCB (rIsXc K C cls d a) (tCons (tVar i) (tCons (tC (.ty "ValueError")) tNil)))) (gName j))
    (tSeq (tAsg (tAndV (tVar j) (tNotV (tCB (rIsXc K C cls d a) (tCons (tVar i) (tCons (tTup (tCons (tC (.ref C1)) (tCons (tC (.ref C2)) tNil))) tNil))))) (gName j)) (tRet (tr a cls d)))
theorem ok_lfloor {f : Addr} {fd fdI : FuncData} (F : Fun K "_law_floor" "_law_floor" (topS 82) f fd) (M : Mk K CF fI) (gF : mg "Floor" = some (.ref CF)) (FI : FnOk P w K mg base (L2.CX P w) 4 fI fdI ["self", "points"] (spFloor CF CL)) (bI : Binds K fdI ["self", "points"] [])
    {fX : Addr} (XL : ExK K mg "OnLine" CL fX) (EL : ExF K CL BE) (nN : PySem.W.findIn K (.ref CL) "numbers" = some none) (gBE : mg "BowlError" = some (.ref BE)) (gP : mg "OnPlane" = some (.ref CP)) (gN : mg "NotBowl" = some (.ref CN)) (k3 : PySem.W.kitAny K (.ref CL) [.ref CP, .ref CN] = some false)
    (mIs : mg "isinstance" = none) (mVE : mg "ValueError" = none) : FnOk P w K mg base CX0 6 f fd ["_law_given"] (spLFloor CF) := by
  refine F.ok scLF (fun vs H Q E h => ?_) (fun cdv A outer s H vs Q E hr h => ⟨_,
    pss_one (ps_try_as (i := 1) (tb := fun W => tRet (tTup (tCons (tC (.str "made")) (tCons (tMakeSD CF (spFloor CF CL) (WE W) (tCons (tVar 0) tNil)) tNil))))
      (ts := tOwn K CL BE CP CN 1 2 (fun a cls d => tTup (tCons (tC (.str "raised")) (tCons (tC (.str "OnLine")) (tCons (tXf a cls d CL "numbers" (tVar 1)) (tCons (tVar 2) tNil)))))) (Wout := fun _ _ _ _ => False) rfl rfl scLF.nd rfl rfl ⟨rfl, by decide, .inl XL.g⟩ takes0
      (fun W pn xe tk _ => pss_one (ps_ret (pe_tup (pa_cons pe_str (pa_cons (by exact pe_makeSD M FI hr rfl gF bI (fun σ => passAt tk σ) (pa_cons (pv 0) pa_nil)) pa_nil)))))
      (fun a oe cls d pn hz hf => pss_cons (ps_set (i := 2) scLF.nd rfl (Or.inl rfl) (pe_and (pe_callB (call_isXc K rfl EL.ex hz hf) (by rfl) mIs (by decide +kernel) (pa_cons (pv 1) (pa_cons (pe_glob rfl gBE rfl) pa_nil)))
          (pe_one (pe_callB (call_isXc K rfl EL.ex hz hf) (by rfl) mIs (by decide +kernel) (pa_cons (pv 1) (pa_cons (pe_bltn (v := .ty "ValueError") (by rfl) mVE (by decide +kernel) rfl) pa_nil))))))
        (pss_cons (ps_set (i := 2) scLF.nd rfl (Or.inl rfl) (pe_and (pv 2) (pe_one (pe_not (pe_callB (call_isXc K rfl EL.ex hz hf) (by rfl) mIs (by decide +kernel) (pa_cons (pv 1) (pa_cons (pe_tup (pa_cons (pe_glob rfl gP rfl) (pa_cons (pe_glob rfl gN rfl) pa_nil))) pa_nil)))))))
        (pss_one (ps_ret (pe_tup (pa_cons pe_str (pa_cons pe_str (pa_cons (xfK EL.xf nN hz hf (pv 1)) (pa_cons (pv 2) pa_nil)))))))))), ?_⟩)
  · obtain ⟨l, ps, rfl, _⟩ := h
    rfl
  · obtain ⟨l, ps, rfl, ⟨vs, ev, pvs⟩, ok, k1, k2⟩ := h
    refine ⟨_, rfl, fun x dx nx nd ne => ?_⟩
    have s0 := made_same (C := CF) nx nd ne
    refine ⟨x, l, dx, vs, ps, rfl, upd_same, s0 _ _ ev, Paired.upd (.of s0) pvs, ok, fun hf H1 s1 hF => ⟨rfl, by show 2 ≤ sizeLine; decide, fun p np => ?_⟩, fun t ht H1 d u s1 nd1 ed ru => ?_⟩
    · have sH : Same H H1 := fun b o e => s1 b o (ne_of_none e nx) (s0 b o e)
      exact k1 hf _ p x (sH.trans (same_new np)) upd_same (hF.same (same_new np))
    · have sH : Same H H1 := fun b o e => s1 b o (ne_of_none e nx) (s0 b o e)
      refine ⟨true, XL.eB, fun _ a na => ?_, fun q => Bool.noConfusion q⟩
      refine ⟨_, rfl, rfl, d, rfl, ⟨_, ed⟩, .inl ⟨_, _, true, rfl, .own BE, EL.k1, true, rfl, iteT ⟨_, rfl, rfl, d, rfl, ⟨_, ed⟩, .inl ⟨_, _, true, rfl, .ty "ValueError", EL.k2, ?_⟩⟩⟩⟩
      refine ⟨_, rfl, true, rfl, iteT ⟨_, rfl, by show 2 ≤ sizeLine; decide, fun tp ntp => ⟨rfl, d, rfl, ⟨_, same_new ntp _ _ ed⟩, .inr ⟨tp, _, [.ref CP, .ref CN], false, rfl, upd_same, .cons (.own CP) (.cons (.own CN) .nil), k3, false, rfl, ?_⟩⟩⟩⟩
      refine ⟨_, rfl, rfl, rfl, d, _, _, rfl, same_new ntp _ _ ed, rfl, _, rfl, by show 4 ≤ sizeLine; decide, fun q nq => ?_⟩
      exact k2 t ht _ q u (sH.trans ((same_new ntp).trans (same_new nq))) upd_same (Mn.up (KT.of ((same_new ntp).trans (same_new nq))) ru)
def spLBowl (CF CB : Addr) : Sp := fun vs H Q _ => ∃ (f l : Addr) (ps : List (Int × Int)) (hs : List Int), vs = [.ref f, .ref l] ∧ FloorAt CF ps H f ∧ H l = some (.lst (hs.map V.int)) ∧ hs.length = ps.length ∧ HsOk hs ∧
  (level? ps hs = none → (highL ps hs).head? = none → ∀ H' p b, Same H H' → H' p = some (.tup [.str "made", .ref b]) → BowlAt CF CB ps hs H' b f → Q (.ref p) H') ∧
  (∀ t, level? ps hs = some t → ∀ H' p u, Same H H' → H' p = some (.tup [.str "raised", .str "OnPlane", u, .bl true]) → R4 H' u t → Q (.ref p) H') ∧
  (level? ps hs = none → ∀ y, (highL ps hs).head? = some y → ∀ H' p u, Same H H' → H' p = some (.tup [.str "raised", .str "NotBowl", u, .int y.2, .bl true]) → RNs H' u y.1 → Q (.ref p) H')
abbrev nLB : List Str := ["_law_floor_here", "_law_given", "e", "_law_own"]
theorem scLB : FnScope nLB ["_law_floor_here", "_law_given"] (defScope (topS 83)) := ⟨rfl, rfl, rfl, by decide +kernel, rfl, by decide +kernel, by decide +kernel⟩
theorem rdOwn {C C1 C2 : Addr} {i j : Nat} {te : Addr → Value → Option Addr → TE} {D : Ends} {σ : L2.St} {H : Hp} {a d : Addr} {fs : List (Str × V)} (hi : σ[i]? = some (some (.ref a))) (hij : i ≠ j) (hj : j < σ.length) (ed : H d = some (.xd fs)) (k1 : PySem.W.kitOne K (.ref C) (.ref BE) = some true) (k2 : PySem.W.kitOne K (.ref C) (.type "ValueError") = some true)
    (k3 : PySem.W.kitAny K (.ref C) [.ref C1, .ref C2] = some false) (q : ∀ H', Same H H' → te a (.ref C) (some d) ((σ.set j (some (.bl true))).set j (some (.bl true))) H' D.rt) : tOwn K C BE C1 C2 i j te a (.ref C) (some d) D σ H := by
  have hi2 : (σ.set j (some (V.bl true)))[i]? = some (some (.ref a)) := by
    rw [List.getElem?_set_ne (Ne.symm hij)]
    exact hi
  have hj2 : (σ.set j (some (V.bl true)))[j]? = some (some (.bl true)) := by
    rw [List.getElem?_set_self hj]
  refine ⟨_, hi, rfl, d, rfl, ⟨_, ed⟩, .inl ⟨_, _, true, rfl, .own BE, k1, true, rfl, iteT ⟨_, hi, rfl, d, rfl, ⟨_, ed⟩, .inl ⟨_, _, true, rfl, .ty "ValueError", k2, ?_⟩⟩⟩⟩
  refine ⟨_, hj2, true, rfl, iteT ⟨_, hi2, by show 2 ≤ sizeLine; decide, fun tp ntp => ⟨rfl, d, rfl, ⟨_, same_new ntp _ _ ed⟩, .inr ⟨tp, _, [.ref C1, .ref C2], false, rfl, upd_same, .cons (.own C1) (.cons (.own C2) .nil), k3, false, rfl, q _ (same_new ntp)⟩⟩⟩⟩
theorem ok_lbowl {f : Addr} {fd fdI : FuncData} (F : Fun K "_law_bowl" "_law_bowl" (topS 83) f fd) {CB : Addr} (M : Mk K CB fI) (gB : mg "Bowl" = some (.ref CB)) (FI : FnOk P w K mg base (L2.CX P w) 8 fI fdI ["self", "floor", "heights"] (spBowl CF CB CP CN)) (bI : Binds K fdI ["self", "floor", "heights"] [])
    {fX fY : Addr} (XP : ExK K mg "OnPlane" CP fX) (EP : ExF K CP BE) (XN : ExK K mg "NotBowl" CN fY) (EN : ExF K CN BE) (nN : PySem.W.findIn K (.ref CP) "numbers" = some none) (nT : PySem.W.findIn K (.ref CN) "triangle" = some none) (nM : PySem.W.findIn K (.ref CN) "number" = some none)
    (gBE : mg "BowlError" = some (.ref BE)) (gL : mg "OnLine" = some (.ref CL)) (k3 : PySem.W.kitAny K (.ref CP) [.ref CL, .ref CN] = some false) (k4 : PySem.W.kitAny K (.ref CN) [.ref CL, .ref CP] = some false) (k5 : PySem.W.exmOne K (.ref CN) (.ref CP) = some false)
    (mIs : mg "isinstance" = none) (mVE : mg "ValueError" = none) : FnOk P w K mg base CX0 10 f fd ["_law_floor_here", "_law_given"] (spLBowl CF CB) := by
  refine F.ok scLB (fun vs H Q E h => ?_) (fun cdv A outer s H vs Q E hr h => ⟨_,
    pss_one (ps_try_manyA (i := 2) (tb := fun W => tRet (tTup (tCons (tC (.str "made")) (tCons (tMakeSD CB (spBowl CF CB CP CN) (WE W) (tCons (tVar 0) (tCons (tVar 1) tNil))) tNil))))
      (l := [(.ref CP, tOwn K CP BE CL CN 2 3 (fun a cls d => tTup (tCons (tC (.str "raised")) (tCons (tC (.str "OnPlane")) (tCons (tXf a cls d CP "numbers" (tVar 2)) (tCons (tVar 3) tNil)))))),
        (.ref CN, tOwn K CN BE CL CP 2 3 (fun a cls d => tTup (tCons (tC (.str "raised")) (tCons (tC (.str "NotBowl")) (tCons (tXf a cls d CN "triangle" (tVar 2)) (tCons (tXf a cls d CN "number" (tVar 2)) (tCons (tVar 3) tNil)))))))]) (Wout := fun _ _ _ _ => False) rfl rfl scLB.nd rfl rfl takes0
      (fun W pn xe tk _ => pss_one (ps_ret (pe_tup (pa_cons pe_str (pa_cons (by exact pe_makeSD M FI hr rfl gB bI (fun σ => passAt tk σ) (pa_cons (pv 0) (pa_cons (pv 1) pa_nil))) pa_nil)))))
      (.cons ⟨rfl, by decide, .inl XP.g⟩ (fun a oe cls d pn hz hf => pss_cons (ps_set (i := 3) scLB.nd rfl (Or.inl rfl) (pe_and (pe_callB (call_isXc K rfl EP.ex hz hf) (by rfl) mIs (by decide +kernel) (pa_cons (pv 2) (pa_cons (pe_glob rfl gBE rfl) pa_nil)))
          (pe_one (pe_callB (call_isXc K rfl EP.ex hz hf) (by rfl) mIs (by decide +kernel) (pa_cons (pv 2) (pa_cons (pe_bltn (v := .ty "ValueError") (by rfl) mVE (by decide +kernel) rfl) pa_nil))))))
        (pss_cons (ps_set (i := 3) scLB.nd rfl (Or.inl rfl) (pe_and (pv 3) (pe_one (pe_not (pe_callB (call_isXc K rfl EP.ex hz hf) (by rfl) mIs (by decide +kernel) (pa_cons (pv 2) (pa_cons (pe_tup (pa_cons (pe_glob rfl gL rfl) (pa_cons (pe_glob rfl XN.g rfl) pa_nil))) pa_nil)))))))
        (pss_one (ps_ret (pe_tup (pa_cons pe_str (pa_cons pe_str (pa_cons (xfK EP.xf nN hz hf (pv 2)) (pa_cons (pv 3) pa_nil)))))))))
      (.cons ⟨rfl, by decide, .inl XN.g⟩ (fun a oe cls d pn hz hf => pss_cons (ps_set (i := 3) scLB.nd rfl (Or.inl rfl) (pe_and (pe_callB (call_isXc K rfl EN.ex hz hf) (by rfl) mIs (by decide +kernel) (pa_cons (pv 2) (pa_cons (pe_glob rfl gBE rfl) pa_nil)))
          (pe_one (pe_callB (call_isXc K rfl EN.ex hz hf) (by rfl) mIs (by decide +kernel) (pa_cons (pv 2) (pa_cons (pe_bltn (v := .ty "ValueError") (by rfl) mVE (by decide +kernel) rfl) pa_nil))))))
        (pss_cons (ps_set (i := 3) scLB.nd rfl (Or.inl rfl) (pe_and (pv 3) (pe_one (pe_not (pe_callB (call_isXc K rfl EN.ex hz hf) (by rfl) mIs (by decide +kernel) (pa_cons (pv 2) (pa_cons (pe_tup (pa_cons (pe_glob rfl gL rfl) (pa_cons (pe_glob rfl XP.g rfl) pa_nil))) pa_nil)))))))
        (pss_one (ps_ret (pe_tup (pa_cons pe_str (pa_cons pe_str (pa_cons (xfK EN.xf nT hz hf (pv 2)) (pa_cons (xfK EN.xf nM hz hf (pv 2)) (pa_cons (pv 3) pa_nil)))))))))) .nil))), ?_⟩)
  · obtain ⟨f, l, ps, hs, rfl, _⟩ := h
    rfl
  · obtain ⟨f, l, ps, hs, rfl, hF, hl, hn, okh, k1, k2, k6⟩ := h
    refine ⟨_, rfl, _, rfl, fun x dx nx nd ne => ?_⟩
    have s0 := made_same (C := CB) nx nd ne
    have sx : ∀ {H1 : Hp}, SameX x (upd (upd H dx (.own x)) x (.ins CB dx [])) H1 → Same H H1 := fun s1 b o e => s1 b o (ne_of_none e nx) (s0 b o e)
    refine ⟨x, f, l, dx, ps, hs, rfl, upd_same, hF.same s0, s0 _ _ hl, hn, okh, fun hlv hh H1 s1 hB => ⟨rfl, by show 2 ≤ sizeLine; decide, fun p np => ?_⟩, fun t ht H1 d u s1 nd1 ed ru => ?_, fun hlv y hy H1 d u s1 nd1 ed ru => ?_⟩
    · exact k1 hlv hh _ p x ((sx s1).trans (same_new np)) upd_same (hB.same (same_new np))
    · refine ⟨true, XP.eB, fun a na => ?_⟩
      refine rdOwn (d := d) rfl (by decide) (by show 3 < 4; decide) ed EP.k1 EP.k2 k3 fun H2 s2 => ?_
      refine ⟨_, rfl, rfl, rfl, d, _, _, rfl, s2 _ _ ed, rfl, _, rfl, by show 4 ≤ sizeLine; decide, fun q nq => ?_⟩
      exact k2 t ht _ q u ((sx s1).trans (s2.trans (same_new nq))) upd_same (Mn.up (KT.of (s2.trans (same_new nq))) ru)
    · refine ⟨false, k5, true, XN.eB, fun a na => ?_⟩
      refine rdOwn (d := d) rfl (by decide) (by show 3 < 4; decide) ed EN.k1 EN.k2 k4 fun H2 s2 => ?_
      refine ⟨_, rfl, rfl, rfl, d, _, _, rfl, s2 _ _ ed, rfl, _, rfl, rfl, rfl, d, _, _, rfl, s2 _ _ ed, rfl, _, rfl, by show 5 ≤ sizeLine; decide, fun q nq => ?_⟩
      exact k6 hlv y hy _ q u ((sx s1).trans (s2.trans (same_new nq))) upd_same (Mn.up (KT.of (s2.trans (same_new nq))) ru)
end
end KB
end

section
set_option Elab.async false
set_option linter.all false
set_option maxRecDepth 100000
set_option maxHeartbeats 400000
/-! _law_floor_of -/
namespace KB
open PySem PySem.Spec PyProof.Rows L2
/-- a list equal to a list of points: Eqv -/
theorem eqv_pts {H : Hp} {a b : Addr} {us vs : List V} {ps : List (Int × Int)} (e1 : H a = some (.lst us)) (e2 : H b = some (.lst vs)) (p1 : Paired (RP H) us ps) (p2 : Paired (RP H) vs ps) (hn : ps.length ≤ 10) : Eqv 2 H (.ref a) (.ref b) := by
  refine .inr ⟨true, a, b, us, vs, rfl, rfl, e1, e2, p1.length.trans p2.length.symm, by rw [p1.length]; omega, fun i x y hx hy => ?_⟩
  obtain ⟨p, hp, t, rfl, et⟩ := paired_get _ p1 hx
  obtain ⟨p', hp', t', rfl, et'⟩ := paired_get _ p2 hy
  rw [hp] at hp'
  cases hp'
  refine .inr ⟨false, t, t', _, _, rfl, rfl, et, et', rfl, by show 2 ≤ 1000; decide, fun j x y hx hy => ?_⟩
  rw [hx] at hy
  cases hy
  match j, hx with
  | 0, hx =>
    cases hx
    exact ⟨rfl, .int _⟩
  | 1, hx =>
    cases hx
    exact ⟨rfl, .int _⟩
  | j + 2, hx => simp at hx
theorem eqv_ints {H : Hp} {a b : Addr} {hs : List Int} (e1 : H a = some (.lst (hs.map V.int))) (e2 : H b = some (.lst (hs.map V.int))) (hn : hs.length ≤ 10) : Eqv 2 H (.ref a) (.ref b) := by
  refine .inr ⟨true, a, b, _, _, rfl, rfl, e1, e2, rfl, by rw [List.length_map]; omega, fun i x y hx hy => ?_⟩
  rw [hx] at hy
  cases hy
  rw [List.getElem?_map] at hx
  cases e : hs[i]? with
  | none =>
    rw [e] at hx
    cases hx
  | some z =>
    rw [e] at hx
    cases hx
    exact .inl ⟨rfl, .int _⟩
/-- two tuples, place by place -/
theorem eqv_tup {n : Nat} {H : Hp} {a b : Addr} {us vs : List V} (e1 : H a = some (.tup us)) (e2 : H b = some (.tup vs)) (p : Paired (Eqv n H) us vs) (hn : us.length ≤ 1000) : Eqv (n + 1) H (.ref a) (.ref b) :=
  .inr ⟨false, a, b, us, vs, rfl, rfl, e1, e2, p.length, hn, fun i x y hx hy => by
    obtain ⟨y', hy', r⟩ := paired_get i p hx
    rw [hy] at hy'
    cases hy'
    exact r⟩
theorem eqv_rt {H : Hp} {u v : V} {l : List Int} (h1 : RT H u l) (h2 : RT H v l) (hn : l.length ≤ 10) : Eqv 1 H u v := by
  obtain ⟨t, rfl, et⟩ := h1
  obtain ⟨t', rfl, et'⟩ := h2
  refine .inr ⟨false, t, t', _, _, rfl, rfl, et, et', rfl, by rw [List.length_map]; omega, fun j x y hx hy => ?_⟩
  rw [hx] at hy
  cases hy
  rw [List.getElem?_map] at hx
  cases e : l[j]? with
  | none =>
    rw [e] at hx
    cases hx
  | some z =>
    rw [e] at hx
    cases hx
    exact ⟨rfl, .int _⟩
theorem eqv_flt {n : Nat} {H : Hp} {v : V} (h : Flt v) : Eqv n H v v := by
  cases n with
  | zero => exact ⟨rfl, h⟩
  | succ n => exact .inl ⟨rfl, h⟩
theorem KL.ofX {g : Addr} {H H' : Hp} {xs : List V} (s : SameX g H H') (e : H g = some (.lst xs)) : KL H H' := fun b o eb n => s b o (fun c => by
  subst c
  rw [e] at eb
  exact n xs (Option.some.inj eb).symm) eb
theorem LsAt.upX {α : Type} {R : Rel α} [Mn R] {g D : Addr} {H H' : Hp} {l : List α} {xs : List V} (h : LsAt R H D l) (s : SameX g H H') (e : H g = some (.lst xs)) (n : D ≠ g) : LsAt R H' D l := by
  obtain ⟨vs, ev, p⟩ := h
  exact ⟨vs, s _ _ n ev, Paired.upd (KL.ofX s e).kt p⟩
def spFloorOf (CF : Addr) : Sp := fun vs H Q _ => ∃ (cl : Addr) (ns : List Int) (n : Nat), vs = [.ref cl, .int n] ∧ LsAt RI H cl ns ∧ 3 ≤ n ∧ n ≤ 10 ∧
  (∀ H' p, Same H H' → H' p = some (.tup [.str "refused"]) → Q (.ref p) H') ∧
  ∀ H' p f l ps, Same H H' → H' p = some (.tup [.str "made", .ref f, .ref l]) → FloorAt CF ps H' f → LsAt RP H' l ps → flat? ps = none → Q (.ref p) H'
abbrev nFo : List Str := ["_law_cells", "_law_many", "_law_plain", "_law_points_here", "_law_given", "_law_got", "_law_flat", "_law_due"]
theorem scFo : FnScope nFo ["_law_cells", "_law_many"] (defScope (topS 84)) := ⟨rfl, rfl, rfl, by decide +kernel, rfl, by decide +kernel, by decide +kernel⟩
section
variable {P : Program} {w : World} {K : PySem.W.Frag} {mg : Str → Option Value} {base : Heap} {CF : Addr}
theorem rdSame {n : Nat} {σ : L2.St} {H : Hp} {t1 t2 : TE} {u v : V} {Q : VK} (h1 : Gv t1 σ H u) (h2 : Gv t2 σ H v) (e : Eqv n H u v) (q : ∀ H', Same H H' → Q (.bl true) H') : tCall (spSame n) [] E0 (tCons t1 (tCons t2 tNil)) σ H Q := h1 _ (h2 _ ⟨u, v, rfl, e, q⟩)
theorem ok_floorof {f fC fP fB fF fS fSp fFl : Addr} {fd fdC fdP fdB fdF fdS fdSp fdFl : FuncData} (F : Fun K "_law_floor_of" "_law_floor_of" (topS 84) f fd)
    (GC : Gd K mg "_law_cell" (topS 65) fC fdC) (FC : FnOk P w K mg base CX0 1 fC fdC ["_law_cells", "_law_place"] spCell)
    (GP : Gd K mg "_law_points" (topS 67) fP fdP) (FP : FnOk P w K mg base CX0 2 fP fdP ["_law_cells", "_law_many"] spPoints)
    (GB : Gd K mg "_law_bent" (topS 68) fB fdB) (FB : FnOk P w K mg base CX0 1 fB fdB ["_law_points_here", "_law_c"] spBent)
    (GF : Gd K mg "_law_floor" (topS 82) fF fdF) (FF : FnOk P w K mg base CX0 6 fF fdF ["_law_given"] (spLFloor CF))
    (GS : Gd K mg "_law_same" (topS 80) fS fdS) (FS : FnOk P w K mg base CX0 4 fS fdS ["_law_told", "_law_due"] (spSame 2))
    (GSp : Gd K mg "_law_spoil" (topS 81) fSp fdSp) (FSp : FnOk P w K mg base CX0 1 fSp fdSp ["_law_told"] spSpoil)
    (GFl : Gd K mg "_law_first_flat" (topS 76) fFl fdFl) (FFl : FnOk P w K mg base CX0 2 fFl fdFl ["_law_points_here"] spFlat) (mLi : mg "list" = none) :
    FnOk P w K mg base CX0 7 f fd ["_law_cells", "_law_many"] (spFloorOf CF) := by
  have bC := GC.F.binds (ps := ["_law_cells", "_law_place"]) fun _ _ _ _ _ _ us hl => match us, hl with | [_, _], _ => rfl
  have bP := GP.F.binds (ps := ["_law_cells", "_law_many"]) fun _ _ _ _ _ _ us hl => match us, hl with | [_, _], _ => rfl
  have bB := GB.F.binds (ps := ["_law_points_here", "_law_c"]) fun _ _ _ _ _ _ us hl => match us, hl with | [_, _], _ => rfl
  have bF := GF.F.binds (ps := ["_law_given"]) fun _ _ _ _ _ _ us hl => match us, hl with | [_], _ => rfl
  have bS := GS.F.binds (ps := ["_law_told", "_law_due"]) fun _ _ _ _ _ _ us hl => match us, hl with | [_, _], _ => rfl
  have bSp := GSp.F.binds (ps := ["_law_told"]) fun _ _ _ _ _ _ us hl => match us, hl with | [_], _ => rfl
  have bFl := GFl.F.binds (ps := ["_law_points_here"]) fun _ _ _ _ _ _ us hl => match us, hl with | [_], _ => rfl
  refine F.ok scFo (fun vs H Q E h => ?_) (fun cdv A outer s H vs Q E hr h => ⟨_,
    pss_cons (ps_set (i := 2) scFo.nd rfl (Or.inl rfl) (pe_call FP (hr.mono (by decide)) rfl GP.g GP.F.kp bP .nil pass0 (pa_cons (pv 0) (pa_cons (pv 1) pa_nil))))
    (pss_cons (ps_for PassesOwn.never rfl (pi_list (pe_lst (pa_cons (pe_call FB (hr.mono (by decide)) rfl GB.g GB.F.kp bB .nil pass0 (pa_cons (pv 2) (pa_cons (pe_call FC (hr.mono (by decide)) rfl GC.g GC.F.kp bC .nil pass0 (pa_cons (pv 0) (pa_cons pe_int pa_nil))) pa_nil))) (pa_cons (pv 2) pa_nil)))) (pg_name (i := 3) scFo.nd rfl (Or.inl rfl))
      (pss_cons (ps_set (i := 4) scFo.nd rfl (Or.inl rfl) (pe_callTy call_list_of (by rfl) mLi (by decide +kernel) (pa_cons (pv 3) pa_nil)))
      (pss_cons (ps_set (i := 5) scFo.nd rfl (Or.inl rfl) (pe_call FF hr rfl GF.g GF.F.kp bF .nil pass0 (pa_cons (pv 4) pa_nil)))
      (pss_cons (ps_if (pt_not (pt_val (pe_call FS (hr.mono (by decide)) rfl GS.g GS.F.kp bS .nil pass0 (pa_cons (pv 4) (pa_cons (pv 3) pa_nil))))) (pss_one (ps_ret (pe_tup (pa_cons pe_str pa_nil)))) pss_nil)
      (pss_cons (ps_expr (pe_call FSp (hr.mono (by decide)) rfl GSp.g GSp.F.kp bSp .nil pass0 (pa_cons (pv 4) pa_nil)))
      (pss_cons (ps_set (i := 6) scFo.nd rfl (Or.inl rfl) (pe_call FFl (hr.mono (by decide)) rfl GFl.g GFl.F.kp bFl .nil pass0 (pa_cons (pv 3) pa_nil)))
      (pss_cons (ps_if (PW.pt (pw_and (pt_cmpR op_isN (pv 6) pe_non (nomark _)) (pw_and1 (pt_cmpR op_eq (pe_ix ix_tup (pv 5) pe_int (fun _ _ => rfl)) pe_str (nomark _)))))
        (pss_one (ps_ret (pe_tup (pa_cons pe_str (pa_cons (pe_ix ix_tup (pv 5) pe_int (fun _ _ => rfl)) (pa_cons (pv 3) pa_nil)))))) pss_nil)
      (pss_cons (ps_set (i := 7) scFo.nd rfl (Or.inl rfl) (pe_tup (pa_cons pe_str (pa_cons pe_str (pa_cons (pv 6) (pa_cons pe_bl pa_nil))))))
      (pss_one (ps_if (PW.pt (pw_or (pt_cmpR op_isN (pv 6) pe_non (nomark _)) (pw_or1 (pt_not (pt_val (pe_call FS (hr.mono (by decide)) rfl GS.g GS.F.kp bS .nil pass0 (pa_cons (pv 5) (pa_cons (pv 7) pa_nil)))))))) (pss_one (ps_ret (pe_tup (pa_cons pe_str pa_nil)))) pss_nil))))))))))
    (pss_one (ps_ret (pe_tup (pa_cons pe_str pa_nil))))), ?_⟩)
  · obtain ⟨cl, ns, n, rfl, _⟩ := h
    rfl
  · obtain ⟨cl, ns, n, rfl, hC, h3, h10, k1, k2⟩ := h
    refine ⟨_, rfl, _, rfl, cl, ns, n, rfl, hC, h10, fun H1 pl ps npl b1 hps hbd => ?_⟩
    refine ⟨_, rfl, rdCell (k := 11) (gVar rfl) gC (hC.same b1.sm) fun z => ⟨pl, z, ps, rfl, b1.ls, by omega, by omega, fun q hq => by have := hbd q hq; omega, fun H2 be ps' nbe b2 hps' hbd' => ?_⟩⟩
    have s2 := b1.sm.trans b2.sm
    refine ⟨_, rfl, by show 2 ≤ sizeLine; decide, fun W nW => ?_⟩
    have s3 := s2.trans (same_new (o := .lst [.ref be, .ref pl]) nW)
    have ok1 : PtsOk ps := ⟨by omega, by omega, fun q hq => by have := hbd q hq; omega⟩
    have ok2 : PtsOk ps' := ⟨by omega, by omega, fun q hq => by have := hbd' q hq; omega⟩
    have L1 : LsAt RP (upd H2 W (.lst [.ref be, .ref pl])) be ps' := b2.ls.same (same_new nW)
    have L2' : LsAt RP (upd H2 W (.lst [.ref be, .ref pl])) pl ps := (b1.ls.same b2.sm).same (same_new nW)
    have eW : (upd H2 W (.lst [.ref be, .ref pl])) W = some (.lst [.ref be, .ref pl]) := upd_same
    generalize hHW : upd H2 W (.lst [.ref be, .ref pl]) = HW at *
    refine ⟨W, rfl, ⟨_, SqL.of eW⟩, for_list (K := K) (a := W) (xs := [.ref be, .ref pl]) (fun i σ H' => (∃ x3 x4 x5 x6 x7, σ = [some (.ref cl), some (.int n), some (.ref pl), x3, x4, x5, x6, x7]) ∧ Same HW H') ⟨⟨_, _, _, _, _, rfl⟩, Same.refl _⟩ (fun i σ H' _ ⟨_, sm⟩ => SqL.of (sm _ _ eW)) ?_ ?_⟩
    · rintro i v σ H' hv ⟨⟨x3, x4, x5, x6, x7, rfl⟩, sm⟩
      obtain ⟨l, qs, rfl, hl, ok⟩ : ∃ l qs, v = .ref l ∧ LsAt RP HW l qs ∧ PtsOk qs := by
        match i, hv with
        | 0, hv =>
          cases hv
          exact ⟨be, ps', rfl, L1, ok2⟩
        | 1, hv =>
          cases hv
          exact ⟨pl, ps, rfl, L2', ok1⟩
        | i + 2, hv => simp at hv
      obtain ⟨vs, el, pvs⟩ := hl.same sm
      have hlen : vs.length = qs.length := pvs.length
      have ok10 := ok.hi
      refine ⟨_, rfl, l, vs, rfl, .inl (SqL.of el), fun g ng => ?_⟩
      have sg := same_new (o := .lst vs) ng
      have nlg : l ≠ g := ne_of_none el ng
      refine ⟨_, rfl, g, qs, rfl, ⟨vs, upd_same, Paired.upd (.of sg) pvs⟩, ok, fun hf H4 p f s4 ep hF => ?_, fun t ht H4 p u s4 ep ru => ?_⟩
      · have e4g : H4 g = some (.lst vs) := s4 _ _ upd_same
        have e4l : H4 l = some (.lst vs) := s4 _ _ (sg _ _ el)
        have p4 : Paired (RP H4) vs qs := Paired.upd (.of (sg.trans s4)) pvs
        refine ⟨_, rfl, _, rfl, _, _, rfl, eqv_pts e4g e4l p4 p4 ok10, fun H5 s5 => ⟨true, rfl, iteF ?_⟩⟩
        have e5g := s5 _ _ e4g
        refine ⟨_, rfl, g, vs, rfl, e5g, by omega, fun H6 sx6 ⟨ys, ey⟩ => ?_⟩
        have kl := KL.ofX sx6 e5g
        have hl6 : LsAt RP H6 l qs := LsAt.upX ⟨vs, s5 _ _ e4l, Paired.upd (.of s5) p4⟩ sx6 e5g nlg
        refine ⟨_, rfl, l, qs, rfl, hl6, ok, fun H7 v s7 rv => ?_⟩
        rw [hf] at rv
        cases rv
        have ep7 : H7 p = some (.tup [.str "made", .ref f]) := s7 _ _ (kl.kt _ _ (s5 _ _ ep))
        have sH7 : Same H' H7 := fun b o e => s7 _ _ (sx6 _ _ (ne_of_none e ng) (s5 _ _ (s4 _ _ (sg _ _ e))))
        refine ⟨_, rfl, rfl, _, rfl, itD (fun _ => ?_) fun c => absurd rfl c⟩
        refine ⟨_, rfl, p, _, _, _, rfl, rfl, SqT.of ep7, at0, rfl, _, rfl, itD (fun _ => ?_) fun c => absurd rfl c⟩
        refine ⟨_, rfl, p, _, _, _, rfl, rfl, SqT.of ep7, at1, _, rfl, by show 3 ≤ sizeLine; decide, fun q nq => ?_⟩
        exact k2 _ q f l qs (s3.trans (sm.trans (sH7.trans (same_new nq)))) upd_same ((((hF.same s5).up kl).same s7).same (same_new nq)) ((hl6.same s7).same (same_new nq)) hf
      · have e4g : H4 g = some (.lst vs) := s4 _ _ upd_same
        have e4l : H4 l = some (.lst vs) := s4 _ _ (sg _ _ el)
        have p4 : Paired (RP H4) vs qs := Paired.upd (.of (sg.trans s4)) pvs
        refine ⟨_, rfl, _, rfl, _, _, rfl, eqv_pts e4g e4l p4 p4 ok10, fun H5 s5 => ⟨true, rfl, iteF ?_⟩⟩
        have e5g := s5 _ _ e4g
        refine ⟨_, rfl, g, vs, rfl, e5g, by omega, fun H6 sx6 ⟨ys, ey⟩ => ?_⟩
        have kl := KL.ofX sx6 e5g
        have hl6 : LsAt RP H6 l qs := LsAt.upX ⟨vs, s5 _ _ e4l, Paired.upd (.of s5) p4⟩ sx6 e5g nlg
        refine ⟨_, rfl, l, qs, rfl, hl6, ok, fun H7 v s7 rv => ?_⟩
        rw [ht] at rv
        have rv : R3 H7 v t := rv
        have ep7 : H7 p = some (.tup [.str "raised", .str "OnLine", u, .bl true]) := s7 _ _ (kl.kt _ _ (s5 _ _ ep))
        have ru7 : R3 H7 u t := Mn.up (KT.of s7) (Mn.up kl.kt (Mn.up (KT.of s5) ru))
        have sH7 : Same H' H7 := fun b o e => s7 _ _ (sx6 _ _ (ne_of_none e ng) (s5 _ _ (s4 _ _ (sg _ _ e))))
        obtain ⟨tv, rfl, etv⟩ := id rv
        refine ⟨_, rfl, rfl, _, rfl, itD (fun c => by cases c) fun _ => iteF ?_⟩
        refine ⟨_, rfl, by show 4 ≤ sizeLine; decide, fun q nq => ?_⟩
        have sq := same_new (o := .tup [.str "raised", .str "OnLine", .ref tv, .bl true]) nq
        refine ⟨_, rfl, rfl, _, rfl, itD (fun c => by cases c) fun _ => ?_⟩
        have ee : Eqv 2 (upd H7 q (.tup [.str "raised", .str "OnLine", .ref tv, .bl true])) (.ref p) (.ref q) := eqv_tup (n := 1) (sq _ _ ep7) upd_same
          (.cons (eqv_flt (.str _)) (.cons (eqv_flt (.str _)) (.cons (eqv_rt (Mn.up (R := RT) (KT.of sq) ru7) (Mn.up (R := RT) (KT.of sq) rv) (by show 3 ≤ 10; decide)) (.cons (eqv_flt (.bl _)) .nil)))) (by show 4 ≤ 1000; decide)
        refine ⟨_, rfl, _, rfl, _, _, rfl, ee, fun H8 s8 => ⟨true, rfl, iteF ⟨⟨_, _, _, _, _, rfl⟩, sm.trans (sH7.trans (sq.trans s8))⟩⟩⟩
    · rintro σ H' ⟨⟨x3, x4, x5, x6, x7, rfl⟩, sm⟩
      exact ⟨by show 1 ≤ sizeLine; decide, fun q nq => k1 _ q (s3.trans (sm.trans (same_new nq))) upd_same⟩
end
end KB
end

section
set_option Elab.async false
set_option linter.all false
set_option maxRecDepth 100000
set_option maxHeartbeats 400000
/-! _law_due_bowl, _law_bowl_of -/
namespace KB
open PySem PySem.Spec PyProof.Rows L2
def t3L (t : T3) : List Nat := [t.1, t.2.1, t.2.2]
def HighEq : Prop := ∀ (ps : List (Int × Int)) (hs : List Int), PtsOk ps → flat? ps = none → level? ps hs = none → hs.length = ps.length → (highL ps hs).head? = (lawHigh ps hs).map fun x => (t3L x.1, x.2)
def spDue : Sp := fun vs H Q _ => ∃ (l hl : Addr) (ps : List (Int × Int)) (hs : List Int), vs = [.ref l, .ref hl] ∧ LsAt RP H l ps ∧ LsAt RI H hl hs ∧ PtsOk ps ∧ HsOk hs ∧ hs.length = ps.length ∧
  (level? ps hs = none → lawHigh ps hs = none → ∀ H' p, Same H H' → H' p = some (.tup [.str "made"]) → Q (.ref p) H') ∧
  (∀ t, level? ps hs = some t → ∀ H' p u, Same H H' → H' p = some (.tup [.str "raised", .str "OnPlane", u, .bl true]) → R4 H' u t → Q (.ref p) H') ∧
  (level? ps hs = none → ∀ x, lawHigh ps hs = some x → ∀ H' p u, Same H H' → H' p = some (.tup [.str "raised", .str "NotBowl", u, .int x.2, .bl true]) → R3 H' u x.1 → Q (.ref p) H')
abbrev nDu : List Str := ["_law_points_here", "_law_heights_here", "_law_level", "_law_high"]
theorem scDu : FnScope nDu ["_law_points_here", "_law_heights_here"] (defScope (topS 85)) := ⟨rfl, rfl, rfl, by decide +kernel, rfl, by decide +kernel, by decide +kernel⟩
section
variable {P : Program} {w : World} {K : PySem.W.Frag} {mg : Str → Option Value} {base : Heap} {CF CB : Addr}
theorem ok_due {f fL fH : Addr} {fd fdL fdH : FuncData} (F : Fun K "_law_due_bowl" "_law_due_bowl" (topS 85) f fd) (GL : Gd K mg "_law_first_level" (topS 77) fL fdL) (FL : FnOk P w K mg base CX0 3 fL fdL ["_law_points_here", "_law_heights_here"] spLevel)
    (GH : Gd K mg "_law_first_high" (topS 78) fH fdH) (FH : FnOk P w K mg base CX0 3 fH fdH ["_law_points_here", "_law_heights_here"] spLHigh) : FnOk P w K mg base CX0 4 f fd ["_law_points_here", "_law_heights_here"] spDue := by
  have bL := GL.F.binds (ps := ["_law_points_here", "_law_heights_here"]) fun _ _ _ _ _ _ us hl => match us, hl with | [_, _], _ => rfl
  have bH := GH.F.binds (ps := ["_law_points_here", "_law_heights_here"]) fun _ _ _ _ _ _ us hl => match us, hl with | [_, _], _ => rfl
  refine F.ok scDu (fun vs H Q E h => ?_) (fun cdv A outer s H vs Q E hr h => ⟨_,
    pss_cons (ps_set (i := 2) scDu.nd rfl (Or.inl rfl) (pe_call FL hr rfl GL.g GL.F.kp bL .nil pass0 (pa_cons (pv 0) (pa_cons (pv 1) pa_nil))))
    (pss_cons (ps_if (pt_cmpR op_notN (pv 2) pe_non (nomark _)) (pss_one (ps_ret (pe_tup (pa_cons pe_str (pa_cons pe_str (pa_cons (pv 2) (pa_cons pe_bl pa_nil))))))) pss_nil)
    (pss_cons (ps_set (i := 3) scDu.nd rfl (Or.inl rfl) (pe_call FH hr rfl GH.g GH.F.kp bH .nil pass0 (pa_cons (pv 0) (pa_cons (pv 1) pa_nil))))
    (pss_cons (ps_if (pt_cmpR op_notN (pv 3) pe_non (nomark _)) (pss_one (ps_ret (pe_tup (pa_cons pe_str (pa_cons pe_str (pa_cons (pe_ix ix_tup (pv 3) pe_int (fun _ _ => rfl)) (pa_cons (pe_ix ix_tup (pv 3) pe_int (fun _ _ => rfl)) (pa_cons pe_bl pa_nil)))))))) pss_nil)
    (pss_one (ps_ret (pe_tup (pa_cons pe_str pa_nil))))))), ?_⟩)
  · obtain ⟨l, hl, ps, hs, rfl, _⟩ := h
    rfl
  · obtain ⟨l, hl, ps, hs, rfl, hL, hH, ok, okh, hlen, k1, k2, k3⟩ := h
    refine ⟨_, rfl, _, rfl, l, hl, ps, hs, rfl, hL, hH, ok, okh, hlen, fun H1 v s1 rv => ?_⟩
    cases e : level? ps hs with
    | some t =>
      rw [e] at rv
      have rv : R4 H1 v t := rv
      obtain ⟨tv, rfl, et⟩ := id rv
      refine ⟨_, rfl, rfl, _, rfl, ?_⟩
      exact ⟨_, rfl, by show 4 ≤ sizeLine; decide, fun q nq => k2 t e _ q _ (s1.trans (same_new nq)) upd_same (Mn.up (KT.of (same_new nq)) rv)⟩
    | none =>
      rw [e] at rv
      cases rv
      refine ⟨_, rfl, rfl, _, rfl, ?_⟩
      refine ⟨_, rfl, _, rfl, l, hl, ps, hs, rfl, hL.same s1, hH.same s1, ok, okh, hlen, fun H2 v2 s2 rv2 => ?_⟩
      cases e2 : lawHigh ps hs with
      | none =>
        rw [e2] at rv2
        cases rv2
        refine ⟨_, rfl, rfl, _, rfl, ?_⟩
        exact ⟨by show 1 ≤ sizeLine; decide, fun q nq => k1 e e2 _ q (s1.trans (s2.trans (same_new nq))) upd_same⟩
      | some x =>
        rw [e2] at rv2
        obtain ⟨p, u, rfl, ep, ru⟩ := rv2
        refine ⟨_, rfl, rfl, _, rfl, ?_⟩
        refine ⟨_, rfl, p, _, _, _, rfl, rfl, SqT.of ep, at0, _, rfl, p, _, _, _, rfl, rfl, SqT.of ep, at1, by show 5 ≤ sizeLine; decide, fun q nq => k3 e x e2 _ q u (s1.trans (s2.trans (same_new nq))) upd_same (Mn.up (KT.of (same_new nq)) ru)⟩
end
def spBowlOf (CF CB : Addr) : Sp := fun vs H Q _ => ∃ (f l cl : Addr) (ps : List (Int × Int)) (ns : List Int), vs = [.ref f, .ref l, .ref cl] ∧ FloorAt CF ps H f ∧ LsAt RP H l ps ∧ flat? ps = none ∧ LsAt RI H cl ns ∧
  (∀ H' p, Same H H' → H' p = some (.tup [.str "refused"]) → Q (.ref p) H') ∧
  ∀ H' p b hl hs, Same H H' → H' p = some (.tup [.str "made", .ref b, .ref hl]) → BowlAt CF CB ps hs H' b f → level? ps hs = none → (highL ps hs).head? = none → Q (.ref p) H'
abbrev nBo : List Str := ["_law_floor_here", "_law_points_here", "_law_cells", "_law_c", "_law_kind", "_law_drawn", "_law_near", "_law_plain", "_law_heights_here", "_law_given", "_law_got", "_law_due"]
theorem scBo : FnScope nBo ["_law_floor_here", "_law_points_here", "_law_cells"] (defScope (topS 86)) := ⟨rfl, rfl, rfl, by decide +kernel, rfl, by decide +kernel, by decide +kernel⟩
section
variable {P : Program} {w : World} {K : PySem.W.Frag} {mg : Str → Option Value} {base : Heap} {CF CB : Addr}
theorem ok_bowlof {f fC fH fCh fB fS fSp fD : Addr} {fd fdC fdH fdCh fdB fdS fdSp fdD : FuncData} (F : Fun K "_law_bowl_of" "_law_bowl_of" (topS 86) f fd) (HE : HighEq)
    (GC : Gd K mg "_law_cell" (topS 65) fC fdC) (FC : FnOk P w K mg base CX0 1 fC fdC ["_law_cells", "_law_place"] spCell)
    (GH : Gd K mg "_law_heights" (topS 70) fH fdH) (FH : FnOk P w K mg base CX0 2 fH fdH ["_law_points_here", "_law_cells", "_law_kind"] spHeights)
    (GCh : Gd K mg "_law_changed" (topS 71) fCh fdCh) (FCh : FnOk P w K mg base CX0 2 fCh fdCh ["_law_heights_here", "_law_c"] spChanged)
    (GB : Gd K mg "_law_bowl" (topS 83) fB fdB) (FB : FnOk P w K mg base CX0 10 fB fdB ["_law_floor_here", "_law_given"] (spLBowl CF CB))
    (GS : Gd K mg "_law_same" (topS 80) fS fdS) (FS : FnOk P w K mg base CX0 4 fS fdS ["_law_told", "_law_due"] (spSame 2))
    (GSp : Gd K mg "_law_spoil" (topS 81) fSp fdSp) (FSp : FnOk P w K mg base CX0 1 fSp fdSp ["_law_told"] spSpoil)
    (GD : Gd K mg "_law_due_bowl" (topS 85) fD fdD) (FD : FnOk P w K mg base CX0 4 fD fdD ["_law_points_here", "_law_heights_here"] spDue) (mLi : mg "list" = none) (mI : mg "int" = none) :
    FnOk P w K mg base CX0 11 f fd ["_law_floor_here", "_law_points_here", "_law_cells"] (spBowlOf CF CB) := by
  have bC := GC.F.binds (ps := ["_law_cells", "_law_place"]) fun _ _ _ _ _ _ us hl => match us, hl with | [_, _], _ => rfl
  have bH := GH.F.binds (ps := ["_law_points_here", "_law_cells", "_law_kind"]) fun _ _ _ _ _ _ us hl => match us, hl with | [_, _, _], _ => rfl
  have bCh := GCh.F.binds (ps := ["_law_heights_here", "_law_c"]) fun _ _ _ _ _ _ us hl => match us, hl with | [_, _], _ => rfl
  have bB := GB.F.binds (ps := ["_law_floor_here", "_law_given"]) fun _ _ _ _ _ _ us hl => match us, hl with | [_, _], _ => rfl
  have bS := GS.F.binds (ps := ["_law_told", "_law_due"]) fun _ _ _ _ _ _ us hl => match us, hl with | [_, _], _ => rfl
  have bSp := GSp.F.binds (ps := ["_law_told"]) fun _ _ _ _ _ _ us hl => match us, hl with | [_], _ => rfl
  have bD := GD.F.binds (ps := ["_law_points_here", "_law_heights_here"]) fun _ _ _ _ _ _ us hl => match us, hl with | [_, _], _ => rfl
  refine F.ok scBo (fun vs H Q E h => ?_) (fun cdv A outer s H vs Q E hr h => ⟨_,
    pss_cons (ps_set (i := 3) scBo.nd rfl (Or.inl rfl) (pe_call FC (hr.mono (by decide)) rfl GC.g GC.F.kp bC .nil pass0 (pa_cons (pv 2) (pa_cons pe_int pa_nil))))
    (pss_cons (ps_set (i := 4) scBo.nd rfl (Or.inl rfl) (pe_ix ix_list (pe_lst (pa_cons pe_int (pa_cons pe_int (pa_cons pe_int (pa_cons pe_int (pa_cons pe_int (pa_cons pe_int pa_nil))))))) (pe_op op_mod (pe_callTy call_int1 (by rfl) mI (by decide +kernel) (pa_cons (pe_op op_fdiv (pv 3) pe_int) pa_nil)) pe_int) (fun _ _ => rfl)))
    (pss_cons (ps_set (i := 5) scBo.nd rfl (Or.inl rfl) (pe_call FH (hr.mono (by decide)) rfl GH.g GH.F.kp bH .nil pass0 (pa_cons (pv 1) (pa_cons (pv 2) (pa_cons (pv 4) pa_nil)))))
    (pss_cons (ps_set (i := 5) scBo.nd rfl (Or.inl rfl) (pe_call FCh (hr.mono (by decide)) rfl GCh.g GCh.F.kp bCh .nil pass0 (pa_cons (pv 5) (pa_cons (pe_call FC (hr.mono (by decide)) rfl GC.g GC.F.kp bC .nil pass0 (pa_cons (pv 2) (pa_cons pe_int pa_nil))) pa_nil))))
    (pss_cons (ps_set (i := 6) scBo.nd rfl (Or.inl rfl) (pe_call FH (hr.mono (by decide)) rfl GH.g GH.F.kp bH .nil pass0 (pa_cons (pv 1) (pa_cons (pv 2) (pa_cons pe_int pa_nil)))))
    (pss_cons (ps_set (i := 7) scBo.nd rfl (Or.inl rfl) (pe_call FH (hr.mono (by decide)) rfl GH.g GH.F.kp bH .nil pass0 (pa_cons (pv 1) (pa_cons (pv 2) (pa_cons pe_int pa_nil)))))
    (pss_cons (ps_for PassesOwn.never rfl (pi_list (pe_lst (pa_cons (pv 5) (pa_cons (pv 6) (pa_cons (pv 7) pa_nil))))) (pg_name (i := 8) scBo.nd rfl (Or.inl rfl))
      (pss_cons (ps_set (i := 9) scBo.nd rfl (Or.inl rfl) (pe_callTy call_list_of (by rfl) mLi (by decide +kernel) (pa_cons (pv 8) pa_nil)))
      (pss_cons (ps_set (i := 10) scBo.nd rfl (Or.inl rfl) (pe_call FB hr rfl GB.g GB.F.kp bB .nil pass0 (pa_cons (pv 0) (pa_cons (pv 9) pa_nil))))
      (pss_cons (ps_if (pt_not (pt_val (pe_call FS (hr.mono (by decide)) rfl GS.g GS.F.kp bS .nil pass0 (pa_cons (pv 9) (pa_cons (pv 8) pa_nil))))) (pss_one (ps_ret (pe_tup (pa_cons pe_str pa_nil)))) pss_nil)
      (pss_cons (ps_expr (pe_call FSp (hr.mono (by decide)) rfl GSp.g GSp.F.kp bSp .nil pass0 (pa_cons (pv 9) pa_nil)))
      (pss_cons (ps_set (i := 11) scBo.nd rfl (Or.inl rfl) (pe_call FD (hr.mono (by decide)) rfl GD.g GD.F.kp bD .nil pass0 (pa_cons (pv 1) (pa_cons (pv 8) pa_nil))))
      (pss_cons (ps_if (PW.pt (pw_and (pt_cmpR op_eq (pe_ix ix_tup (pv 11) pe_int (fun _ _ => rfl)) pe_str (nomark _)) (pw_and1 (pt_cmpR op_eq (pe_ix ix_tup (pv 10) pe_int (fun _ _ => rfl)) pe_str (nomark _)))))
        (pss_one (ps_ret (pe_tup (pa_cons pe_str (pa_cons (pe_ix ix_tup (pv 10) pe_int (fun _ _ => rfl)) (pa_cons (pv 8) pa_nil)))))) pss_nil)
      (pss_one (ps_if (PW.pt (pw_or (pt_cmpR op_eq (pe_ix ix_tup (pv 11) pe_int (fun _ _ => rfl)) pe_str (nomark _)) (pw_or1 (pt_not (pt_val (pe_call FS (hr.mono (by decide)) rfl GS.g GS.F.kp bS .nil pass0 (pa_cons (pv 10) (pa_cons (pv 11) pa_nil)))))))) (pss_one (ps_ret (pe_tup (pa_cons pe_str pa_nil)))) pss_nil)))))))))
    (pss_one (ps_ret (pe_tup (pa_cons pe_str pa_nil)))))))))), ?_⟩)
  · obtain ⟨fa, l, cl, ps, ns, rfl, _⟩ := h
    rfl
  · obtain ⟨fa, l, cl, ps, ns, rfl, hF, hL, hf, hC, k1, k2⟩ := h
    have ok := hF.ok
    have ok10 := ok.hi
    have ok3 := ok.lo
    have hIn : InB (-1000000) 1000000 ps := ok.bd
    refine rdCell (k := 0) (gVar rfl) gC hC fun z0 => ?_
    refine ⟨by show 6 ≤ sizeLine; decide, fun A1 nA1 => ?_⟩
    obtain ⟨j, ej, hj⟩ := emodNat (z0 / 8) (n := 6) (by decide)
    have ej : z0 / 8 % 6 = (j : Int) := ej
    have eat : atI ([1, 2, 3, 4, 5, 0].map V.int) (j : Int) = some (.int (([1, 2, 3, 4, 5, 0] : List Int).getD j 0)) := by
      refine atI_nat ?_
      have : j = 0 ∨ j = 1 ∨ j = 2 ∨ j = 3 ∨ j = 4 ∨ j = 5 := by omega
      rcases this with rfl | rfl | rfl | rfl | rfl | rfl <;> rfl
    refine gMod (gInt (gDiv (gVar rfl) gC ⟨by decide, by decide⟩)) gC (by decide) _ ⟨A1, _, _, _, rfl, rfl, SqL.of upd_same, by rw [ej]; exact eat, ?_⟩
    generalize ([1, 2, 3, 4, 5, 0] : List Int).getD j 0 = kind
    have s1 := same_new (o := .lst ([1, 2, 3, 4, 5, 0].map V.int)) nA1
    refine ⟨_, rfl, _, rfl, _, rfl, l, cl, kind, ps, ns, rfl, hL.same s1, ok10, hIn, hC.same s1, fun H2 d1 hs1 nd1 b1 hl1 hb1 => ?_⟩
    have s2 := s1.trans b1.sm
    refine ⟨_, rfl, rdCell (k := 14) (gVar rfl) gC (hC.same s2) fun z1 => ⟨d1, z1, hs1, rfl, b1.ls, by omega, hb1, fun H3 d2 hs2 nd2 b2 hl2 hb2 => ?_⟩⟩
    have s3 := s2.trans b2.sm
    refine ⟨_, rfl, _, rfl, l, cl, 3, ps, ns, rfl, hL.same s3, ok10, hIn, hC.same s3, fun H4 d3 hs3 nd3 b3 hl3 hb3 => ?_⟩
    have s4 := s3.trans b3.sm
    refine ⟨_, rfl, _, rfl, l, cl, 1, ps, ns, rfl, hL.same s4, ok10, hIn, hC.same s4, fun H5 d4 hs4 nd4 b4 hl4 hb4 => ?_⟩
    have s5 := s4.trans b4.sm
    refine ⟨_, rfl, _, rfl, _, rfl, by show 3 ≤ sizeLine; decide, fun W nW => ?_⟩
    have sAll := s5.trans (same_new (o := .lst [.ref d2, .ref d3, .ref d4]) nW)
    have sW := same_new (o := .lst [.ref d2, .ref d3, .ref d4]) nW
    have Q2 : LsAt RI (upd H5 W (.lst [.ref d2, .ref d3, .ref d4])) d2 hs2 := ((b2.ls.same b3.sm).same b4.sm).same sW
    have Q3 : LsAt RI (upd H5 W (.lst [.ref d2, .ref d3, .ref d4])) d3 hs3 := (b3.ls.same b4.sm).same sW
    have Q4 : LsAt RI (upd H5 W (.lst [.ref d2, .ref d3, .ref d4])) d4 hs4 := b4.ls.same sW
    have eW : (upd H5 W (.lst [.ref d2, .ref d3, .ref d4])) W = some (.lst [.ref d2, .ref d3, .ref d4]) := upd_same
    have ok2 : HsOk hs2 := ⟨fun h hh => by have := hb2 h hh; unfold ab at this; omega⟩
    have okk3 : HsOk hs3 := ⟨fun h hh => by have := hb3 h hh; unfold ab at this; omega⟩
    have ok4 : HsOk hs4 := ⟨fun h hh => by have := hb4 h hh; unfold ab at this; omega⟩
    generalize upd H5 W (.lst [.ref d2, .ref d3, .ref d4]) = HW at *
    refine ⟨W, rfl, ⟨_, SqL.of eW⟩, for_list (K := K) (a := W) (xs := [.ref d2, .ref d3, .ref d4]) (fun i σ H' => (∃ x3 x4 x5 x6 x7 x8 x9 x10 x11, σ = [some (.ref fa), some (.ref l), some (.ref cl), x3, x4, x5, x6, x7, x8, x9, x10, x11]) ∧ Same HW H') ⟨⟨_, _, _, _, _, _, _, _, _, rfl⟩, Same.refl _⟩ (fun i σ H' _ ⟨_, sm⟩ => SqL.of (sm _ _ eW)) ?_ ?_⟩
    · rintro i v σ H' hv ⟨⟨x3, x4, x5, x6, x7, x8, x9, x10, x11, rfl⟩, sm⟩
      obtain ⟨hl, hs, rfl, hh, okh, hlen⟩ : ∃ hl hs, v = .ref hl ∧ LsAt RI HW hl hs ∧ HsOk hs ∧ hs.length = ps.length := by
        match i, hv with
        | 0, hv =>
          cases hv
          exact ⟨d2, hs2, rfl, Q2, ok2, by omega⟩
        | 1, hv =>
          cases hv
          exact ⟨d3, hs3, rfl, Q3, okk3, by omega⟩
        | 2, hv =>
          cases hv
          exact ⟨d4, hs4, rfl, Q4, ok4, by omega⟩
        | i + 3, hv => simp at hv
      obtain ⟨vs, el, pvs⟩ := hh.same sm
      have evs := ri_vals pvs
      subst evs
      refine ⟨_, rfl, hl, hs.map V.int, rfl, .inl (SqL.of el), fun g ng => ?_⟩
      have sg := same_new (o := .lst (hs.map V.int)) ng
      have nlg : hl ≠ g := ne_of_none el ng
      have hF0 := hF.same (sAll.trans (sm.trans sg))
      refine ⟨_, rfl, _, rfl, fa, g, ps, hs, rfl, hF0, upd_same, hlen, okh, fun hlv hhi H4 p b s4 ep hB => ?_, fun t ht H4 p u s4 ep ru => ?_, fun hlv y hy H4 p u s4 ep ru => ?_⟩
      · have e4g : H4 g = some (.lst (hs.map V.int)) := s4 _ _ upd_same
        have e4l : H4 hl = some (.lst (hs.map V.int)) := s4 _ _ (sg _ _ el)
        refine ⟨_, rfl, _, rfl, _, _, rfl, eqv_ints e4g e4l (by omega), fun H5 s5 => ⟨true, rfl, iteF ?_⟩⟩
        have e5g := s5 _ _ e4g
        refine ⟨_, rfl, g, hs.map V.int, rfl, e5g, by rw [List.length_map]; omega, fun H6 sx6 ⟨ys, ey⟩ => ?_⟩
        have kl := KL.ofX sx6 e5g
        have hh6 : LsAt RI H6 hl hs := LsAt.upX (R := RI) ⟨_, s5 _ _ e4l, ri_paired hs⟩ sx6 e5g nlg
        have sH6 : Same H' H6 := fun b o e => sx6 _ _ (ne_of_none e ng) (s5 _ _ (s4 _ _ (sg _ _ e)))
        have hp6 : LsAt RP H6 l ps := hL.same (sAll.trans (sm.trans sH6))
        have hlaw : lawHigh ps hs = none := by
          have := HE ps hs ok hf hlv hlen
          rw [hhi] at this
          cases e : lawHigh ps hs with
          | none => rfl
          | some x =>
            rw [e] at this
            cases this
        refine ⟨_, rfl, _, rfl, l, hl, ps, hs, rfl, hp6, hh6, ok, okh, hlen, fun _ _ H7 q s7 eq => ?_, fun t ht => (by rw [hlv] at ht; cases ht), fun _ x hx => (by rw [hlaw] at hx; cases hx)⟩
        have ep7 : H7 p = some (.tup [.str "made", .ref b]) := s7 _ _ (kl.kt _ _ (s5 _ _ ep))
        refine ⟨_, rfl, q, _, _, _, rfl, rfl, SqT.of eq, at0, rfl, _, rfl, itD (fun _ => ?_) fun c => absurd rfl c⟩
        refine ⟨_, rfl, p, _, _, _, rfl, rfl, SqT.of ep7, at0, rfl, _, rfl, itD (fun _ => ?_) fun c => absurd rfl c⟩
        refine ⟨_, rfl, p, _, _, _, rfl, rfl, SqT.of ep7, at1, _, rfl, by show 3 ≤ sizeLine; decide, fun r nr => ?_⟩
        exact k2 _ r b hl hs (sAll.trans (sm.trans (sH6.trans (s7.trans (same_new nr))))) upd_same ((((hB.same s5).up kl).same s7).same (same_new nr)) hlv hhi
      · have e4g : H4 g = some (.lst (hs.map V.int)) := s4 _ _ upd_same
        have e4l : H4 hl = some (.lst (hs.map V.int)) := s4 _ _ (sg _ _ el)
        refine ⟨_, rfl, _, rfl, _, _, rfl, eqv_ints e4g e4l (by omega), fun H5 s5 => ⟨true, rfl, iteF ?_⟩⟩
        have e5g := s5 _ _ e4g
        refine ⟨_, rfl, g, hs.map V.int, rfl, e5g, by rw [List.length_map]; omega, fun H6 sx6 ⟨ys, ey⟩ => ?_⟩
        have kl := KL.ofX sx6 e5g
        have hh6 : LsAt RI H6 hl hs := LsAt.upX (R := RI) ⟨_, s5 _ _ e4l, ri_paired hs⟩ sx6 e5g nlg
        have sH6 : Same H' H6 := fun b o e => sx6 _ _ (ne_of_none e ng) (s5 _ _ (s4 _ _ (sg _ _ e)))
        have hp6 : LsAt RP H6 l ps := hL.same (sAll.trans (sm.trans sH6))
        refine ⟨_, rfl, _, rfl, l, hl, ps, hs, rfl, hp6, hh6, ok, okh, hlen, fun e => (by rw [ht] at e; cases e), fun t' ht' H7 q u7 s7 eq ru7 => ?_, fun e => (by rw [ht] at e; cases e)⟩
        rw [ht] at ht'
        cases ht'
        have ep7 : H7 p = some (.tup [.str "raised", .str "OnPlane", u, .bl true]) := s7 _ _ (kl.kt _ _ (s5 _ _ ep))
        have ru' : R4 H7 u t := Mn.up (KT.of s7) (Mn.up kl.kt (Mn.up (KT.of s5) ru))
        refine ⟨_, rfl, q, _, _, _, rfl, rfl, SqT.of eq, at0, rfl, _, rfl, itD (fun c => absurd (V.str.inj c) (by decide)) fun _ => iteF ?_⟩
        refine ⟨_, rfl, q, _, _, _, rfl, rfl, SqT.of eq, at0, rfl, _, rfl, itD (fun c => absurd (V.str.inj c) (by decide)) fun _ => ?_⟩
        have ee : Eqv 2 H7 (.ref p) (.ref q) := eqv_tup (n := 1) ep7 eq (.cons (eqv_flt (.str _)) (.cons (eqv_flt (.str _)) (.cons (eqv_rt ru' ru7 (by show 4 ≤ 10; decide)) (.cons (eqv_flt (.bl _)) .nil)))) (by show 4 ≤ 1000; decide)
        exact ⟨_, rfl, _, rfl, _, _, rfl, ee, fun H8 s8 => ⟨true, rfl, iteF ⟨⟨_, _, _, _, _, _, _, _, _, rfl⟩, sm.trans (sH6.trans (s7.trans s8))⟩⟩⟩
      · have e4g : H4 g = some (.lst (hs.map V.int)) := s4 _ _ upd_same
        have e4l : H4 hl = some (.lst (hs.map V.int)) := s4 _ _ (sg _ _ el)
        refine ⟨_, rfl, _, rfl, _, _, rfl, eqv_ints e4g e4l (by omega), fun H5 s5 => ⟨true, rfl, iteF ?_⟩⟩
        have e5g := s5 _ _ e4g
        refine ⟨_, rfl, g, hs.map V.int, rfl, e5g, by rw [List.length_map]; omega, fun H6 sx6 ⟨ys, ey⟩ => ?_⟩
        have kl := KL.ofX sx6 e5g
        have hh6 : LsAt RI H6 hl hs := LsAt.upX (R := RI) ⟨_, s5 _ _ e4l, ri_paired hs⟩ sx6 e5g nlg
        have sH6 : Same H' H6 := fun b o e => sx6 _ _ (ne_of_none e ng) (s5 _ _ (s4 _ _ (sg _ _ e)))
        have hp6 : LsAt RP H6 l ps := hL.same (sAll.trans (sm.trans sH6))
        have hE := HE ps hs ok hf hlv hlen
        rw [hy] at hE
        obtain ⟨x, ex, ey'⟩ : ∃ x, lawHigh ps hs = some x ∧ y = (t3L x.1, x.2) := by
          cases e : lawHigh ps hs with
          | none =>
            rw [e] at hE
            cases hE
          | some x =>
            rw [e] at hE
            exact ⟨x, rfl, Option.some.inj hE⟩
        subst ey'
        refine ⟨_, rfl, _, rfl, l, hl, ps, hs, rfl, hp6, hh6, ok, okh, hlen, fun _ e => (by rw [ex] at e; cases e), fun t' ht' => (by rw [hlv] at ht'; cases ht'), fun _ x' hx' H7 q u7 s7 eq ru7 => ?_⟩
        rw [ex] at hx'
        cases hx'
        have ep7 : H7 p = some (.tup [.str "raised", .str "NotBowl", u, .int x.2, .bl true]) := s7 _ _ (kl.kt _ _ (s5 _ _ ep))
        have ru' : RNs H7 u (t3L x.1) := Mn.up (R := RNs) (KT.of s7) (Mn.up (R := RNs) kl.kt (Mn.up (R := RNs) (KT.of s5) ru))
        have ru'' : R3 H7 u x.1 := ru'
        refine ⟨_, rfl, q, _, _, _, rfl, rfl, SqT.of eq, at0, rfl, _, rfl, itD (fun c => absurd (V.str.inj c) (by decide)) fun _ => iteF ?_⟩
        refine ⟨_, rfl, q, _, _, _, rfl, rfl, SqT.of eq, at0, rfl, _, rfl, itD (fun c => absurd (V.str.inj c) (by decide)) fun _ => ?_⟩
        have ee : Eqv 2 H7 (.ref p) (.ref q) := eqv_tup (n := 1) ep7 eq (.cons (eqv_flt (.str _)) (.cons (eqv_flt (.str _)) (.cons (eqv_rt ru'' ru7 (by show 3 ≤ 10; decide)) (.cons (eqv_flt (.int _)) (.cons (eqv_flt (.bl _)) .nil))))) (by show 5 ≤ 1000; decide)
        exact ⟨_, rfl, _, rfl, _, _, rfl, ee, fun H8 s8 => ⟨true, rfl, iteF ⟨⟨_, _, _, _, _, _, _, _, _, rfl⟩, sm.trans (sH6.trans (s7.trans s8))⟩⟩⟩
    · rintro σ H' ⟨⟨x3, x4, x5, x6, x7, x8, x9, x10, x11, rfl⟩, sm⟩
      exact ⟨by show 1 ≤ sizeLine; decide, fun q nq => k1 _ q (sAll.trans (sm.trans (same_new nq))) upd_same⟩
end
end KB
end

section
set_option Elab.async false
set_option linter.all false
set_option maxRecDepth 100000
set_option maxHeartbeats 400000
/-! _law_rows -/
namespace KB
open PySem PySem.Spec PyProof.Rows L2
def PlainLaw : Prop := ∀ (ps : List (Int × Int)) (hs : List Int), PtsOk ps → flat? ps = none → level? ps hs = none → (highL ps hs).head? = none → hs.length = ps.length → ∀ j : Nat, j < ps.length - 2 →
  (rowOf ps hs).getD j 0 = ((j : Int) + 1) * (2 * (ps.length : Nat) - 2 - j) - ((lineRow ps).take (j + 1)).sum
def spRows (CF CB : Addr) : Sp := fun vs H Q _ => ∃ (b f l : Addr) (ps : List (Int × Int)) (hs : List Int), vs = [.ref b, .ref f, .ref l] ∧ BowlAt CF CB ps hs H b f ∧ LsAt RP H l ps ∧ flat? ps = none ∧ level? ps hs = none ∧ (highL ps hs).head? = none ∧ ∀ H', Q (.bl true) H'
abbrev nRw : List Str := ["_law_bowl_here", "_law_floor_here", "_law_points_here", "_law_many", "_law_due", "_law_again", "_law_lines_here", "_law_planes", "_law_j", "_law_rest"]
theorem scRw : FnScope nRw ["_law_bowl_here", "_law_floor_here", "_law_points_here"] (defScope (topS 87)) := ⟨rfl, rfl, rfl, by decide +kernel, rfl, by decide +kernel, by decide +kernel⟩
theorem cut_take (xs : List V) (k : Nat) : cutV xs none (some (k : Int)) = xs.take k := by
  unfold cutV
  rw [HT.sIx_nat, HT.sIx_none, List.drop_zero, Nat.sub_zero]
  exact List.take_eq_take_min.symm
section
variable {P : Program} {w : World} {K : PySem.W.Frag} {mg : Str → Option Value} {base : Heap} {CF CB : Addr}
theorem lineRow_len (ps : List (Int × Int)) : (lineRow ps).length = ps.length - 1 := by
  unfold lineRow
  rw [List.length_map, List.length_range]
theorem rowOf_len (ps : List (Int × Int)) (hs : List Int) : (rowOf ps hs).length = ps.length - 2 := by
  unfold rowOf tal
  rw [List.length_map, List.length_range]
theorem ok_rows {f fLl fLr fS fP fSp : Addr} {fd fdLl fdLr fdS fdP fdSp : FuncData} (F : Fun K "_law_rows" "_law_rows" (topS 87) f fd) (PL : PlainLaw)
    (GLl : Gd K mg "_law_lines" (topS 79) fLl fdLl) (FLl : FnOk P w K mg base CX0 2 fLl fdLl ["_law_points_here"] spLLines)
    (GLr : Gd K mg "line_row" (topS 53) fLr fdLr) (FLr : FnOk P w K mg base CX0 5 fLr fdLr ["floor"] (spLRow CF))
    (GS : Gd K mg "_law_same" (topS 80) fS fdS) (FS : FnOk P w K mg base CX0 4 fS fdS ["_law_told", "_law_due"] (spSame 2))
    (GP : Gd K mg "plane_row" (topS 49) fP fdP) (FP : FnOk P w K mg base CX0 5 fP fdP ["raised"] (spRow CF CB))
    (GSp : Gd K mg "_law_spoil" (topS 81) fSp fdSp) (FSp : FnOk P w K mg base CX0 1 fSp fdSp ["_law_told"] spSpoil) (mL : mg "len" = none) (mR : mg "range" = none) (mIs : mg "isinstance" = none) (mLi : mg "list" = none) (mSu : mg "sum" = none) :
    FnOk P w K mg base CX0 6 f fd ["_law_bowl_here", "_law_floor_here", "_law_points_here"] (spRows CF CB) := by
  have bLl := GLl.F.binds (ps := ["_law_points_here"]) fun _ _ _ _ _ _ us hl => match us, hl with | [_], _ => rfl
  have bLr := GLr.F.binds (ps := ["floor"]) fun _ _ _ _ _ _ us hl => match us, hl with | [_], _ => rfl
  have bP := GP.F.binds (ps := ["raised"]) fun _ _ _ _ _ _ us hl => match us, hl with | [_], _ => rfl
  have bS := GS.F.binds (ps := ["_law_told", "_law_due"]) fun _ _ _ _ _ _ us hl => match us, hl with | [_, _], _ => rfl
  have bSp := GSp.F.binds (ps := ["_law_told"]) fun _ _ _ _ _ _ us hl => match us, hl with | [_], _ => rfl
  refine F.ok scRw (fun vs H Q E h => ?_) (fun cdv A outer s H vs Q E hr h => ⟨_,
    pss_cons (ps_set (i := 3) scRw.nd rfl (Or.inl rfl) (pe_callB call_len_seq (by rfl) mL PySem.boot_len (pa_cons (pv 2) pa_nil)))
    (pss_cons (ps_set (i := 4) scRw.nd rfl (Or.inl rfl) (pe_call FLl (hr.mono (by decide)) rfl GLl.g GLl.F.kp bLl .nil pass0 (pa_cons (pv 2) pa_nil)))
    (pss_cons (ps_for PassesOwn.never rfl (pi_range1 (by rfl) mR (pa_cons pe_int pa_nil)) (pg_name (i := 5) scRw.nd rfl (Or.inl rfl))
      (pss_cons (ps_set (i := 6) scRw.nd rfl (Or.inl rfl) (pe_call FLr hr rfl GLr.g GLr.F.kp bLr .nil pass0 (pa_cons (pv 1) pa_nil)))
      (pss_cons (ps_if (pt_not (pt_val (pe_call FS (hr.mono (by decide)) rfl GS.g GS.F.kp bS .nil pass0 (pa_cons (pv 6) (pa_cons (pv 4) pa_nil))))) (pss_one (ps_ret pe_bl)) pss_nil)
      (pss_cons (ps_set (i := 7) scRw.nd rfl (Or.inl rfl) (pe_call FP hr rfl GP.g GP.F.kp bP .nil pass0 (pa_cons (pv 0) pa_nil)))
      (pss_cons (ps_if (PW.pt (pw_or (pt_not (pt_val (pe_callB call_isi (by rfl) mIs (by decide +kernel) (pa_cons (pv 7) (pa_cons (pe_bltn (v := .ty "list") (by rfl) mLi (by decide +kernel) rfl) pa_nil))))) (pw_or1 (pt_cmpR op_ne (pe_callB call_len_seq (by rfl) mL PySem.boot_len (pa_cons (pv 7) pa_nil)) (pe_op op_sub (pv 3) pe_int) (nomark _))))) (pss_one (ps_ret pe_bl)) pss_nil)
      (pss_cons (ps_for PassesOwn.never rfl (pi_range1 (by rfl) mR (pa_cons (pe_op op_sub (pv 3) pe_int) pa_nil)) (pg_name (i := 8) scRw.nd rfl (Or.inl rfl))
        (pss_cons (ps_set (i := 9) scRw.nd rfl (Or.inl rfl) (pe_op op_sub (pe_op op_mul (pe_op op_add (pv 8) pe_int) (pe_op op_sub (pe_op op_sub (pe_op op_mul pe_int (pv 3)) pe_int) (pv 8))) (pe_callB (cr_sum rfl) (by rfl) mSu (by decide +kernel) (pa_cons (pe_slice sl_list (pv 6) po_none (po_some (pe_op op_add (pv 8) pe_int))) pa_nil))))
        (pss_one (ps_if (pt_not (pt_val (pe_call FS (hr.mono (by decide)) rfl GS.g GS.F.kp bS .nil pass0 (pa_cons (pe_ix ix_list (pv 7) (pv 8) (fun _ _ => rfl)) (pa_cons (pv 9) pa_nil))))) (pss_one (ps_ret pe_bl)) pss_nil))))
      (pss_cons (ps_expr (pe_call FSp (hr.mono (by decide)) rfl GSp.g GSp.F.kp bSp .nil pass0 (pa_cons (pv 6) pa_nil)))
      (pss_one (ps_expr (pe_call FSp (hr.mono (by decide)) rfl GSp.g GSp.F.kp bSp .nil pass0 (pa_cons (pv 7) pa_nil)))))))))))
    (pss_one (ps_ret pe_bl)))), ?_⟩)
  · obtain ⟨b, f, l, ps, hs, rfl, _⟩ := h
    rfl
  · obtain ⟨b, fa, l, ps, hs, rfl, hB, hL, hf, hlv, hhi, k⟩ := h
    have ok := hB.fl.ok
    have hn := ok.hi
    have hn3 := ok.lo
    obtain ⟨vs, ev, pvs⟩ := id hL
    have hlen : vs.length = ps.length := pvs.length
    refine ⟨_, rfl, l, vs, rfl, .inl (SqL.of ev), ?_⟩
    rw [hlen]
    refine ⟨_, rfl, l, ps, rfl, hL, ok, hf, fun H1 du nd b1 => ?_⟩
    rw [rows_eq] at b1
    obtain ⟨dv, edv, pdv⟩ := b1.ls
    have edv2 := ri_vals pdv
    subst edv2
    refine ⟨2, rfl, by decide, by decide, for_range (n := 2) (fun i σ H' => (∃ x5 x6 x7 x8 x9, σ = [some (.ref b), some (.ref fa), some (.ref l), some (.int (ps.length : Nat)), some (.ref du), x5, x6, x7, x8, x9]) ∧ Same H1 H') ⟨⟨_, _, _, _, _, rfl⟩, Same.refl _⟩ ?_ ?_⟩
    · rintro i σ H' hi ⟨⟨x5, x6, x7, x8, x9, rfl⟩, sm⟩
      have s1 := b1.sm.trans sm
      refine ⟨_, rfl, fa, ps, rfl, hB.fl.same s1, fun H2 a na b2 => ?_⟩
      obtain ⟨av, eav, pav⟩ := b2.ls
      have eav2 := ri_vals pav
      subst eav2
      have edv' := b2.sm _ _ (sm _ _ edv)
      refine ⟨_, rfl, _, rfl, _, _, rfl, eqv_ints eav edv' (by rw [lineRow_len]; omega), fun H3 s3 => ⟨true, rfl, iteF ?_⟩⟩
      have s03 := s1.trans (b2.sm.trans s3)
      refine ⟨_, rfl, b, fa, ps, hs, rfl, hB.same s03, fun H4 c nc b4 => ?_⟩
      obtain ⟨cv, ecv, pcv⟩ := b4.ls
      have ecv2 := ri_vals pcv
      subst ecv2
      have el2 : (((rowOf ps hs).map V.int).length : Int) = (ps.length : Nat) - 2 := by
        rw [List.length_map, rowOf_len]
        omega
      refine gIsi (gVar rfl) (.lst ecv) (t := "list") (b := true) (by decide +kernel) _ ⟨true, rfl, iteF ?_⟩
      refine tNeI (fun Q2 q2 => ⟨_, rfl, c, _, rfl, .inl (SqL.of ecv), q2⟩) (gSub (gVar rfl) gC) (fun c => absurd el2 c) fun _ => ?_
      have eav4 := b4.sm _ _ (s3 _ _ eav)
      refine ⟨_, rfl, _, _, rfl, rfl, _, rfl, by omega, by omega, for_range (n := (((ps.length : Nat) : Int) - 2).toNat) (fun j σ H5 => (∃ x8 x9, σ = [some (.ref b), some (.ref fa), some (.ref l), some (.int (ps.length : Nat)), some (.ref du), some (.int (0 + i)), some (.ref a), some (.ref c), x8, x9]) ∧ Same H4 H5) ⟨⟨_, _, rfl⟩, Same.refl _⟩ ?_ ?_⟩
      · rintro j σ H5 hj ⟨⟨x8, x9, rfl⟩, s5⟩
        have hj' : j < ps.length - 2 := by omega
        have e0 : (0 : Int) + j = (j : Int) := by omega
        show gName 8 (.int ((0 : Int) + j)) _ _ _
        rw [e0]
        have ea5 := s5 _ _ eav4
        have ec5 := s5 _ _ ecv
        refine gMul (gAdd (gVar rfl) gC) (gSub (gSub (gMul gC (gVar rfl) (.inl ⟨by decide, by decide⟩)) gC) (gVar rfl)) (.inl ⟨by omega, by omega⟩) _ ?_
        have e1 : ((j : Int) + 1) = ((j + 1 : Nat) : Int) := by omega
        refine ⟨_, rfl, _, rfl, _, _, rfl, rfl, _, rfl, a, _, rfl, SqL.of ea5, fun p np => ⟨p, (lineRow ps).take (j + 1), rfl, SqL.of ?_, _, _, rfl, rfl, ?_⟩⟩
        · rw [upd_same, e1, cut_take, List.map_take]
        · have sp := same_new (o := .lst (cutV ((lineRow ps).map V.int) none (some ((j : Int) + 1)))) np
          have er : ((rowOf ps hs).map V.int)[j]? = some (.int ((rowOf ps hs).getD j 0)) := by
            have hjl : j < (rowOf ps hs).length := by rw [rowOf_len]; exact hj'
            rw [List.getElem?_map, List.getD_eq_getElem?_getD, List.getElem?_eq_getElem hjl]
            rfl
          have epl := PL ps hs ok hf hlv hhi hB.len j hj'
          refine gIxL (gVar rfl) (gVar rfl) (SqL.of (sp _ _ ec5)) (atI_nat er) _ ⟨_, rfl, _, _, rfl, ?_, fun H6 s6 => ⟨true, rfl, iteF ⟨⟨_, _, rfl⟩, s5.trans (sp.trans s6)⟩⟩⟩
          rw [epl]
          exact eqv_flt (.int _)
      · rintro σ H5 ⟨⟨x8, x9, rfl⟩, s5⟩
        have ea5 := s5 _ _ eav4
        have ec5 := s5 _ _ ecv
        have nca : c ≠ a := fun e => by
          have := s3 _ _ eav
          rw [e, this] at nc
          cases nc
        refine ⟨_, rfl, a, _, rfl, ea5, by rw [List.length_map, lineRow_len]; omega, fun H6 sx6 _ => ⟨_, rfl, c, _, rfl, sx6 _ _ nca ec5, by rw [List.length_map, rowOf_len]; omega, fun H7 sx7 _ => ⟨⟨_, _, _, _, _, rfl⟩, fun q o e => ?_⟩⟩⟩
        have e2 := sm _ _ e
        have e3 := s3 _ _ (b2.sm _ _ e2)
        exact sx7 _ _ (ne_of_none e3 nc) (sx6 _ _ (ne_of_none e2 na) (s5 _ _ (b4.sm _ _ e3)))
    · rintro σ H' ⟨⟨x5, x6, x7, x8, x9, rfl⟩, sm⟩
      exact k H'
end
end KB
end

section
set_option Elab.async false
set_option linter.all false
set_option maxRecDepth 100000
set_option maxHeartbeats 400000
/-! law -/
namespace KB
open PySem PySem.Spec PyProof.Rows L2
def spLaw (K : PySem.W.Frag) : Sp := fun vs H Q _ => ∃ (a : Addr) (ns : List Int), vs = [.ref a] ∧ SqL K H a (ns.map V.int) ∧ ∀ H', Q (.bl true) H'
abbrev nLw : List Str := ["_law_script", "_law_cells", "_law_many", "_law_got", "_law_floor_here", "_law_points_here", "_law_one"]
theorem scLw : FnScope nLw ["_law_script"] (defScope (topS 88)) := ⟨rfl, rfl, rfl, by decide +kernel, rfl, by decide +kernel, by decide +kernel⟩
def abz (i : Int) : Int := if i < 0 then -i else i
section
variable {P : Program} {w : World} {K : PySem.W.Frag} {mg : Str → Option Value} {base : Heap} {CF CB : Addr}
theorem ok_law {f fC fF fB fR : Addr} {fd fdC fdF fdB fdR : FuncData} (F : Fun K "law" "law" (topS 88) f fd)
    (GC : Gd K mg "_law_cell" (topS 65) fC fdC) (FC : FnOk P w K mg base CX0 1 fC fdC ["_law_cells", "_law_place"] spCell)
    (GF : Gd K mg "_law_floor_of" (topS 84) fF fdF) (FF : FnOk P w K mg base CX0 7 fF fdF ["_law_cells", "_law_many"] (spFloorOf CF))
    (GB : Gd K mg "_law_bowl_of" (topS 86) fB fdB) (FB : FnOk P w K mg base CX0 11 fB fdB ["_law_floor_here", "_law_points_here", "_law_cells"] (spBowlOf CF CB))
    (GR : Gd K mg "_law_rows" (topS 87) fR fdR) (FR : FnOk P w K mg base CX0 6 fR fdR ["_law_bowl_here", "_law_floor_here", "_law_points_here"] (spRows CF CB)) (mI : mg "int" = none) (mA : mg "abs" = none) :
    FnOk P w K mg base CX0 12 f fd ["_law_script"] (spLaw K) := by
  have bC := GC.F.binds (ps := ["_law_cells", "_law_place"]) fun _ _ _ _ _ _ us hl => match us, hl with | [_, _], _ => rfl
  have bF := GF.F.binds (ps := ["_law_cells", "_law_many"]) fun _ _ _ _ _ _ us hl => match us, hl with | [_, _], _ => rfl
  have bB := GB.F.binds (ps := ["_law_floor_here", "_law_points_here", "_law_cells"]) fun _ _ _ _ _ _ us hl => match us, hl with | [_, _, _], _ => rfl
  have bR := GR.F.binds (ps := ["_law_bowl_here", "_law_floor_here", "_law_points_here"]) fun _ _ _ _ _ _ us hl => match us, hl with | [_, _, _], _ => rfl
  refine F.ok scLw (fun vs H Q E h => ?_) (fun cdv A outer s H vs Q E hr h => ⟨_,
    pss_cons (ps_setLc (i := 1) (own := [("_law_one", 6)]) (g := gName 6) (tt := tYes) rfl scLw.nd rfl rfl (sw_true rfl rfl rfl (by decide +kernel)) (pi_list (pe_slice sl_list (pv 0) po_none (po_some pe_int))) (blkOk_by (N := nLw) (sc := defScope (topS 88)) (by decide +kernel))
      (fun _ _ _ _ _ => pg_name (i := 6) scLw.nd rfl (Or.inl rfl)) (fun _ _ _ _ _ => pts_nil) (fun _ _ _ _ _ => pe_callB call_abs (by rfl) mA (by decide +kernel) (pa_cons (pv 6) pa_nil)))
    (pss_cons (ps_set (i := 2) scLw.nd rfl (Or.inl rfl) (pe_ix ix_list (pe_lst (pa_cons pe_int (pa_cons pe_int (pa_cons pe_int (pa_cons pe_int (pa_cons pe_int (pa_cons pe_int (pa_cons pe_int (pa_cons pe_int pa_nil))))))))) (pe_op op_mod (pe_callTy call_int1 (by rfl) mI (by decide +kernel) (pa_cons (pe_call FC (hr.mono (by decide)) rfl GC.g GC.F.kp bC .nil pass0 (pa_cons (pv 1) (pa_cons pe_int pa_nil))) pa_nil)) pe_int) (fun _ _ => rfl)))
    (pss_cons (ps_set (i := 3) scLw.nd rfl (Or.inl rfl) (pe_call FF (hr.mono (by decide)) rfl GF.g GF.F.kp bF .nil pass0 (pa_cons (pv 1) (pa_cons (pv 2) pa_nil))))
    (pss_cons (ps_if (pt_cmpR op_ne (pe_ix ix_tup (pv 3) pe_int (fun _ _ => rfl)) pe_str (nomark _)) (pss_one (ps_ret (pe_cmpR op_eq (pe_ix ix_tup (pv 3) pe_int (fun _ _ => rfl)) pe_str (nomark _)))) pss_nil)
    (pss_cons (ps_set (i := 4) scLw.nd rfl (Or.inl rfl) (pe_ix ix_tup (pv 3) pe_int (fun _ _ => rfl)))
    (pss_cons (ps_set (i := 5) scLw.nd rfl (Or.inl rfl) (pe_ix ix_tup (pv 3) pe_int (fun _ _ => rfl)))
    (pss_cons (ps_set (i := 3) scLw.nd rfl (Or.inl rfl) (pe_call FB hr rfl GB.g GB.F.kp bB .nil pass0 (pa_cons (pv 4) (pa_cons (pv 5) (pa_cons (pv 1) pa_nil)))))
    (pss_cons (ps_if (pt_cmpR op_ne (pe_ix ix_tup (pv 3) pe_int (fun _ _ => rfl)) pe_str (nomark _)) (pss_one (ps_ret (pe_cmpR op_eq (pe_ix ix_tup (pv 3) pe_int (fun _ _ => rfl)) pe_str (nomark _)))) pss_nil)
    (pss_one (ps_ret (pe_call FR (hr.mono (by decide)) rfl GR.g GR.F.kp bR .nil pass0 (pa_cons (pe_ix ix_tup (pv 3) pe_int (fun _ _ => rfl)) (pa_cons (pv 4) (pa_cons (pv 5) pa_nil))))))))))))), ?_⟩)
  · obtain ⟨a, ns, rfl, _⟩ := h
    rfl
  · obtain ⟨a, ns, rfl, hS, k⟩ := h
    refine ⟨_, rfl, 63, rfl, a, _, hS |> fun _ => rfl, hS, fun p np => ?_⟩
    have ecut : cutV (ns.map V.int) none (some (63 : Int)) = (ns.take 63).map V.int := by
      have := cut_take (ns.map V.int) 63
      rw [List.map_take]
      exact this
    rw [ecut]
    refine ⟨p, rfl, ⟨_, SqL.of upd_same⟩, fun D nD => lcB_list (Ri := RI) (Ro := RI) (l := ns.take 63) (f := fun i => some (abz i)) nD (SqL.of upd_same) (ri_paired _) (by rw [List.length_take]; omega) (fun i v H2 hi s2 r2 K1 K2 h1 h2 => ?_) fun H2 b2 => ?_⟩
    · cases r2
      exact ⟨rfl, yesI ⟨_, rfl, i, rfl, h1 _ _ _ rfl (Same.refl _) rfl⟩⟩
    · rw [filterMap_some] at b2
      refine ⟨by show 8 ≤ sizeLine; decide, fun A1 nA1 => ?_⟩
      have sA := same_new (o := .lst ([5, 6, 7, 4, 3, 8, 7, 6].map V.int)) nA1
      refine rdCell (k := 0) (gVar rfl) gC (b2.ls.same sA) fun z => ?_
      obtain ⟨j, ej, hj⟩ := emodNat z (n := 8) (by decide)
      have ej : z % 8 = (j : Int) := ej
      obtain ⟨n, eat, hn3, hn10⟩ : ∃ n : Nat, atI ([5, 6, 7, 4, 3, 8, 7, 6].map V.int) (j : Int) = some (.int (n : Int)) ∧ 3 ≤ n ∧ n ≤ 10 := by
        have : j = 0 ∨ j = 1 ∨ j = 2 ∨ j = 3 ∨ j = 4 ∨ j = 5 ∨ j = 6 ∨ j = 7 := by omega
        rcases this with rfl | rfl | rfl | rfl | rfl | rfl | rfl | rfl
        · exact ⟨5, atI_nat rfl, by decide, by decide⟩
        · exact ⟨6, atI_nat rfl, by decide, by decide⟩
        · exact ⟨7, atI_nat rfl, by decide, by decide⟩
        · exact ⟨4, atI_nat rfl, by decide, by decide⟩
        · exact ⟨3, atI_nat rfl, by decide, by decide⟩
        · exact ⟨8, atI_nat rfl, by decide, by decide⟩
        · exact ⟨7, atI_nat rfl, by decide, by decide⟩
        · exact ⟨6, atI_nat rfl, by decide, by decide⟩
      refine .inl ⟨_, rfl, _, _, rfl, rfl, (by show (0 : Int) < 8; decide), A1, _, _, _, rfl, rfl, SqL.of upd_same, by rw [ej]; exact eat, ?_⟩
      have hcl := b2.ls.same sA
      refine ⟨_, rfl, _, rfl, D, _, n, rfl, hcl, hn3, hn10, fun H3 q s3 eq => ?_, fun H3 q fa l ps s3 eq hF hL hf => ?_⟩
      · have e1 : (V.str "refused" : V) ≠ V.str "made" := fun c => absurd (V.str.inj c) (by decide)
        refine ⟨_, rfl, q, _, _, _, rfl, rfl, SqT.of eq, at0, rfl, _, rfl, ?_⟩
        rw [decide_eq_false e1]
        refine iteT ⟨_, rfl, q, _, _, _, rfl, rfl, SqT.of eq, at0, rfl, ?_⟩
        rw [decide_eq_true rfl]
        exact k H3
      · refine ⟨_, rfl, q, _, _, _, rfl, rfl, SqT.of eq, at0, rfl, _, rfl, ?_⟩
        rw [decide_eq_true rfl]
        refine iteF ?_
        refine ⟨_, rfl, q, _, _, _, rfl, rfl, SqT.of eq, at1, ?_⟩
        refine ⟨_, rfl, q, _, _, _, rfl, rfl, SqT.of eq, at2, ?_⟩
        refine ⟨_, rfl, _, rfl, _, rfl, fa, l, D, ps, _, rfl, hF, hL, hf, hcl.same s3, fun H4 q2 s4 eq2 => ?_, fun H4 q2 b hl hs s4 eq2 hB hlv hhi => ?_⟩
        · have e1 : (V.str "refused" : V) ≠ V.str "made" := fun c => absurd (V.str.inj c) (by decide)
          refine ⟨_, rfl, q2, _, _, _, rfl, rfl, SqT.of eq2, at0, rfl, _, rfl, ?_⟩
          rw [decide_eq_false e1]
          refine iteT ⟨_, rfl, q2, _, _, _, rfl, rfl, SqT.of eq2, at0, rfl, ?_⟩
          rw [decide_eq_true rfl]
          exact k H4
        · refine ⟨_, rfl, q2, _, _, _, rfl, rfl, SqT.of eq2, at0, rfl, _, rfl, ?_⟩
          rw [decide_eq_true rfl]
          refine iteF ?_
          exact ⟨_, rfl, q2, _, _, _, rfl, rfl, SqT.of eq2, at1, _, rfl, _, rfl, b, fa, l, ps, hs, rfl, hB, hL.same s4, hf, hlv, hhi, k⟩
end
end KB
end

section
set_option Elab.async false
namespace KB
/-! sums over lists -/
def S {α : Type} : List α → (α → Int) → Int
  | [], _ => 0
  | a :: l, f => f a + S l f
def ind (p : Prop) [Decidable p] : Int := if p then 1 else 0
theorem ind_t {p : Prop} [Decidable p] (h : p) : ind p = 1 := if_pos h
theorem ind_f {p : Prop} [Decidable p] (h : ¬ p) : ind p = 0 := if_neg h
theorem ind_nonneg {p : Prop} [Decidable p] : 0 ≤ ind p := by unfold ind; split <;> decide
theorem ind_le {p : Prop} [Decidable p] : ind p ≤ 1 := by unfold ind; split <;> decide
theorem ind_iff {p q : Prop} [Decidable p] [Decidable q] (h : p ↔ q) : ind p = ind q := by
  by_cases hp : p
  · rw [ind_t hp, ind_t (h.mp hp)]
  · rw [ind_f hp, ind_f (fun x => hp (h.mpr x))]
section
variable {α β : Type} {V : List α} {W : List β} {f g : α → Int}
theorem S_congr : ∀ {V : List α}, (∀ a, a ∈ V → f a = g a) → S V f = S V g
  | [], _ => rfl
  | a :: l, h => by
    show f a + S l f = g a + S l g
    rw [h a (List.mem_cons_self), S_congr fun b hb => h b (List.mem_cons_of_mem _ hb)]
theorem S_add : ∀ (V : List α) (f g : α → Int), S V (fun a => f a + g a) = S V f + S V g
  | [], _, _ => rfl
  | a :: l, f, g => by
    show f a + g a + S l (fun a => f a + g a) = f a + S l f + (g a + S l g)
    rw [S_add l f g]; omega
theorem S_sub : ∀ (V : List α) (f g : α → Int), S V (fun a => f a - g a) = S V f - S V g
  | [], _, _ => rfl
  | a :: l, f, g => by
    show f a - g a + S l (fun a => f a - g a) = f a + S l f - (g a + S l g)
    rw [S_sub l f g]; omega
theorem S_mul : ∀ (V : List α) (c : Int) (f : α → Int), S V (fun a => c * f a) = c * S V f
  | [], c, _ => by show 0 = c * 0; omega
  | a :: l, c, f => by
    show c * f a + S l (fun a => c * f a) = c * (f a + S l f)
    rw [S_mul l c f, Int.mul_add]
theorem S_zero : ∀ (V : List α), S V (fun _ => 0) = 0
  | [] => rfl
  | a :: l => by show 0 + S l (fun _ => 0) = 0; rw [S_zero l]; rfl
theorem S_zero' (h : ∀ a, a ∈ V → f a = 0) : S V f = 0 := (S_congr h).trans (S_zero V)
theorem S_const : ∀ (V : List α) (c : Int), S V (fun _ => c) = (V.length : Int) * c
  | [], c => by show 0 = (0 : Int) * c; omega
  | a :: l, c => by
    show c + S l (fun _ => c) = ((l.length + 1 : Nat) : Int) * c
    rw [S_const l c]; grind
theorem S_comm : ∀ (V : List α) (W : List β) (f : α → β → Int), S V (fun a => S W (fun b => f a b)) = S W (fun b => S V (fun a => f a b))
  | [], W, f => (S_zero W).symm
  | a :: l, W, f => by
    show S W (f a) + S l (fun a => S W (fun b => f a b)) = S W (fun b => f a b + S l (fun a => f a b))
    rw [S_add W (f a), S_comm l W f]
theorem S_filter (p : α → Bool) : ∀ (V : List α) (f : α → Int), S (V.filter p) f = S V (fun a => if p a = true then f a else 0)
  | [], _ => rfl
  | a :: l, f => by
    show S (List.filter p (a :: l)) f = (if p a = true then f a else 0) + S l (fun a => if p a = true then f a else 0)
    by_cases h : p a = true
    · rw [List.filter_cons_of_pos h, if_pos h, ← S_filter p l f]; rfl
    · rw [List.filter_cons_of_neg h, if_neg h, ← S_filter p l f]; omega
theorem S_countP (p : α → Bool) : ∀ (V : List α), S V (fun a => ind (p a = true)) = (V.countP p : Int)
  | [] => rfl
  | a :: l => by
    show ind (p a = true) + S l (fun a => ind (p a = true)) = _
    rw [S_countP p l, List.countP_cons]
    by_cases h : p a = true
    · rw [ind_t h, if_pos h]; omega
    · rw [ind_f h, if_neg h]; omega
theorem S_nonneg : ∀ {V : List α}, (∀ a, a ∈ V → 0 ≤ f a) → 0 ≤ S V f
  | [], _ => Int.le_refl 0
  | a :: l, h => by
    show 0 ≤ f a + S l f
    have h1 := h a List.mem_cons_self
    have h2 := S_nonneg fun b hb => h b (List.mem_cons_of_mem _ hb)
    omega
theorem S_zero_all : ∀ {V : List α}, (∀ a, a ∈ V → 0 ≤ f a) → S V f = 0 → ∀ a, a ∈ V → f a = 0
  | [], _, _, a, ha => by cases ha
  | b :: l, h, e, a, ha => by
    have e' : f b + S l f = 0 := e
    have h1 := h b List.mem_cons_self
    have h2 : 0 ≤ S l f := S_nonneg fun b hb => h b (List.mem_cons_of_mem _ hb)
    rcases List.mem_cons.mp ha with rfl | ha
    · omega
    · exact S_zero_all (fun b hb => h b (List.mem_cons_of_mem _ hb)) (by omega) a ha
end
section
variable {α : Type} [DecidableEq α] {V : List α}
theorem S_single : ∀ {V : List α} (f : α → Int) {m : α}, V.Nodup → m ∈ V → S V (fun a => if a = m then f a else 0) = f m
  | [], _, _, _, h => by cases h
  | b :: l, f, m, nd, h => by
    show (if b = m then f b else 0) + S l (fun a => if a = m then f a else 0) = f m
    obtain ⟨h1, h2⟩ := List.nodup_cons.mp nd
    by_cases e : b = m
    · subst e
      rw [if_pos rfl, S_zero' (fun a ha => if_neg fun q => h1 (by rw [← q]; exact ha))]; omega
    · rw [if_neg e]
      rcases List.mem_cons.mp h with q | q
      · exact (e q.symm).elim
      · rw [S_single f h2 q]; omega
theorem S_ind_eq {m : α} (nd : V.Nodup) (h : m ∈ V) : S V (fun a => ind (a = m)) = 1 := S_single (fun _ => 1) nd h
theorem S_one {p : α → Prop} [DecidablePred p] {m : α} (nd : V.Nodup) (h : m ∈ V) (hp : p m) (u : ∀ a, a ∈ V → p a → a = m) : S V (fun a => ind (p a)) = 1 := by
  rw [← S_ind_eq nd h]
  exact S_congr fun a ha => ind_iff ⟨u a ha, fun e => e ▸ hp⟩
omit [DecidableEq α] in
theorem S_none {p : α → Prop} [DecidablePred p] (u : ∀ a, a ∈ V → ¬ p a) : S V (fun a => ind (p a)) = 0 := S_zero' fun a ha => ind_f (u a ha)
theorem exists_max {lt : α → α → Prop} : ∀ {V : List α}, V ≠ [] → (∀ a, a ∈ V → ∀ b, b ∈ V → a ≠ b → lt a b ∨ lt b a) → (∀ a, a ∈ V → ∀ b, b ∈ V → ∀ c, c ∈ V → lt a b → lt b c → lt a c) →
    ∃ m, m ∈ V ∧ ∀ a, a ∈ V → a ≠ m → lt a m
  | [], h, _, _ => (h rfl).elim
  | x :: l, _, tot, tr => by
    by_cases hl : l = []
    · subst hl
      refine ⟨x, List.mem_cons_self, fun a ha ne => ?_⟩
      rcases List.mem_cons.mp ha with e | e
      · exact (ne e).elim
      · cases e
    · obtain ⟨m, hm, hmax⟩ := exists_max hl (fun a ha b hb => tot a (List.mem_cons_of_mem _ ha) b (List.mem_cons_of_mem _ hb)) fun a ha b hb c hc => tr a (List.mem_cons_of_mem _ ha) b (List.mem_cons_of_mem _ hb) c (List.mem_cons_of_mem _ hc)
      have hm' : m ∈ x :: l := List.mem_cons_of_mem _ hm
      by_cases e : m = x
      · subst e
        refine ⟨m, hm', fun a ha ne => ?_⟩
        rcases List.mem_cons.mp ha with q | q
        · exact (ne q).elim
        · exact hmax a q ne
      · rcases tot m hm' x List.mem_cons_self e with h | h
        · refine ⟨x, List.mem_cons_self, fun a ha ne => ?_⟩
          rcases List.mem_cons.mp ha with q | q
          · exact (ne q).elim
          · by_cases e2 : a = m
            · subst e2; exact h
            · exact tr a ha m hm' x List.mem_cons_self (hmax a q e2) h
        · refine ⟨m, hm', fun a ha ne => ?_⟩
          rcases List.mem_cons.mp ha with q | q
          · subst q; exact h
          · exact hmax a q ne
end
end KB
end

section
set_option Elab.async false
namespace KB
structure Cfg where
  x : Nat → Int
  y : Nat → Int
  z : Nat → Int
  N : Int
namespace Cfg
variable (g : Cfg)
/-- the doubled area -/
def t (a b c : Nat) : Int := (g.x b - g.x a) * (g.y c - g.y a) - (g.y b - g.y a) * (g.x c - g.x a)
/-- the volume -/
def w (a b c d : Nat) : Int :=
  (g.x d - g.x a) * ((g.y b - g.y a) * (g.z c - g.z a) - (g.z b - g.z a) * (g.y c - g.y a)) +
  (g.y d - g.y a) * ((g.z b - g.z a) * (g.x c - g.x a) - (g.x b - g.x a) * (g.z c - g.z a)) + (g.z d - g.z a) * g.t a b c
def X (a : Nat) : Int := g.N * g.x a - g.y a
variable {g}
theorem t_rot (a b c : Nat) : g.t b c a = g.t a b c := by simp only [t]; grind
theorem t_sw (a b c : Nat) : g.t a c b = - g.t a b c := by simp only [t]; grind
theorem t_sw1 (a b c : Nat) : g.t b a c = - g.t a b c := by simp only [t]; grind
theorem t_aa (a b : Nat) : g.t a a b = 0 := by simp only [t]; grind
theorem t_ab (a b : Nat) : g.t a b a = 0 := by simp only [t]; grind
theorem t_bb (a b : Nat) : g.t a b b = 0 := by simp only [t]; grind
theorem w_sw (a b c d : Nat) : g.w a b d c = - g.w a b c d := by simp only [w, t]; grind
theorem w_sw2 (a b c d : Nat) : g.w a c b d = - g.w a b c d := by simp only [w, t]; grind
theorem w_sw1 (a b c d : Nat) : g.w b a c d = - g.w a b c d := by simp only [w, t]; grind
theorem w_a (a b c : Nat) : g.w a b c a = 0 := by simp only [w, t]; grind
theorem w_b (a b c : Nat) : g.w a b c b = 0 := by simp only [w, t]; grind
theorem w_c (a b c : Nat) : g.w a b c c = 0 := by simp only [w, t]; grind
theorem gp3 (p q a b c : Nat) : g.t p q a * g.w p q b c - g.t p q b * g.w p q a c + g.t p q c * g.w p q a b = 0 := by simp only [w, t]; grind
theorem gpX (p a b c : Nat) : (g.X a - g.X p) * g.t p b c - (g.X b - g.X p) * g.t p a c + (g.X c - g.X p) * g.t p a b = 0 := by simp only [X, t]; grind
theorem gp2 (p a b c d : Nat) : g.t p a b * g.t p c d - g.t p a c * g.t p b d + g.t p a d * g.t p b c = 0 := by simp only [t]; grind
theorem gp5 (p l r a b c : Nat) : g.t p b c * g.w p l r a + g.t p c a * g.w p l r b + g.t p a b * g.w p l r c = - (g.t p l r * g.w a b c p) := by simp only [w, t]; grind
end Cfg
end KB
end

section
set_option Elab.async false
set_option linter.all false
namespace KB
open Cfg
/-- points in general position, no high pair -/
structure Good (g : Cfg) (V : List Nat) : Prop where
  nd : V.Nodup
  h3 : ∀ a, a ∈ V → ∀ b, b ∈ V → ∀ c, c ∈ V → a ≠ b → a ≠ c → b ≠ c → g.t a b c ≠ 0
  h4 : ∀ a, a ∈ V → ∀ b, b ∈ V → ∀ c, c ∈ V → ∀ d, d ∈ V → a ≠ b → a ≠ c → b ≠ c → a ≠ d → b ≠ d → c ≠ d → g.w a b c d ≠ 0
  bw : ∀ a, a ∈ V → ∀ b, b ∈ V → ∀ c, c ∈ V → ∀ p, p ∈ V → 0 < g.t p a b → 0 < g.t p b c → 0 < g.t p c a → g.w a b c p < 0
  hX : ∀ a, a ∈ V → ∀ b, b ∈ V → a ≠ b → g.X a ≠ g.X b
section
variable (g : Cfg) (V : List Nat)
/-- a, b and p span a facet, left turn -/
abbrev fc (p a b : Nat) : Prop := 0 < g.t p a b ∧ ∀ d, d ∈ V → d ≠ p → d ≠ a → d ≠ b → g.w p a b d < 0
abbrev noL (p q : Nat) : Prop := ∀ c, c ∈ V → ¬ 0 < g.t p q c
abbrev noR (p q : Nat) : Prop := ∀ c, c ∈ V → ¬ g.t p q c < 0
abbrev up (a b c : Nat) : Prop := ∀ d, d ∈ V → d ≠ a → d ≠ b → d ≠ c → g.t a b c * g.w a b c d < 0
def FL (p q : Nat) : Int := S V fun b => ind (fc g V p q b)
def FR (p q : Nat) : Int := S V fun a => ind (fc g V p a q)
end
variable {g : Cfg} {V : List Nat}
theorem t_ne {p a b : Nat} (h : g.t p a b ≠ 0) : p ≠ a ∧ p ≠ b ∧ a ≠ b :=
  ⟨fun e => h (by rw [e]; exact t_aa _ _), fun e => h (by rw [← e]; exact t_ab _ _), fun e => h (by rw [← e]; exact t_bb _ _)⟩
theorem ne_p {a b : Int} (h : 0 < a) (e : a = b) : 0 < b := e ▸ h

/-- products of known signs -/
theorem pp {a b : Int} (ha : 0 < a) (hb : 0 < b) : 0 < a * b := Int.mul_pos ha hb
theorem pn {a b : Int} (ha : 0 < a) (hb : b < 0) : a * b < 0 := Int.mul_neg_of_pos_of_neg ha hb
theorem np {a b : Int} (ha : a < 0) (hb : 0 < b) : a * b < 0 := Int.mul_neg_of_neg_of_pos ha hb
theorem nn {a b : Int} (ha : a < 0) (hb : b < 0) : 0 < a * b := Int.mul_pos_of_neg_of_neg ha hb
theorem neg_of_pos_mul {a b : Int} (ha : 0 < a) (h : a * b < 0) : b < 0 := by
  rcases Int.lt_trichotomy b 0 with x | x | x
  · exact x
  · subst x; omega
  · have := pp ha x; omega
theorem pos_of_pos_mul {a b : Int} (ha : 0 < a) (h : 0 < a * b) : 0 < b := by
  rcases Int.lt_trichotomy b 0 with x | x | x
  · have := pn ha x; omega
  · subst x; omega
  · exact x
theorem pos_of_neg_mul {a b : Int} (ha : a < 0) (h : a * b < 0) : 0 < b := by
  rcases Int.lt_trichotomy b 0 with x | x | x
  · have := nn ha x; omega
  · subst x; omega
  · exact x
theorem neg_of_neg_mul {a b : Int} (ha : a < 0) (h : 0 < a * b) : b < 0 := by
  rcases Int.lt_trichotomy b 0 with x | x | x
  · exact x
  · subst x; omega
  · have := np ha x; omega

section
variable (G : Good g V)
include G
theorem fcL_uniq {p q b b' : Nat} (hp : p ∈ V) (hq : q ∈ V) (hb : b ∈ V) (hb' : b' ∈ V) (h : fc g V p q b) (h' : fc g V p q b') : b = b' := by
  by_cases e : b = b'
  · exact e
  · obtain ⟨_, n2, n3⟩ := t_ne (g := g) (p := p) (a := q) (b := b) (by omega)
    obtain ⟨_, m2, m3⟩ := t_ne (g := g) (p := p) (a := q) (b := b') (by omega)
    have h1 := h.2 b' hb' (Ne.symm m2) (Ne.symm m3) (Ne.symm e)
    have h2 := h'.2 b hb (Ne.symm n2) (Ne.symm n3) e
    rw [w_sw] at h2
    omega
theorem fcR_uniq {p q a a' : Nat} (hp : p ∈ V) (hq : q ∈ V) (ha : a ∈ V) (ha' : a' ∈ V) (h : fc g V p a q) (h' : fc g V p a' q) : a = a' := by
  by_cases e : a = a'
  · exact e
  · obtain ⟨n1, _, n3⟩ := t_ne (g := g) (p := p) (a := a) (b := q) (by omega)
    obtain ⟨m1, _, m3⟩ := t_ne (g := g) (p := p) (a := a') (b := q) (by omega)
    have h1 := h.2 a' ha' (Ne.symm m1) (Ne.symm e) m3
    have h2 := h'.2 a ha (Ne.symm n1) e n3
    have e1 : g.w p a' q a = - g.w p a q a' := by
      have e1 := w_sw2 (g := g) p q a' a
      have e2 := w_sw2 (g := g) p q a a'
      have e3 := w_sw (g := g) p q a a'
      omega
    omega
/-- the highest of the points on the left -/
theorem maxL {p q : Nat} (hp : p ∈ V) (hq : q ∈ V) (hpq : p ≠ q) (h : ∃ c, c ∈ V ∧ 0 < g.t p q c) : ∃ b, b ∈ V ∧ 0 < g.t p q b ∧ ∀ c, c ∈ V → 0 < g.t p q c → c ≠ b → g.w p q b c < 0 := by
  obtain ⟨c, hc, hc'⟩ := h
  obtain ⟨m, hm, hmax⟩ := exists_max (V := V.filter fun c => decide (0 < g.t p q c)) (lt := fun c b => g.w p q b c < 0) (fun e => by
      have : c ∈ V.filter fun c => decide (0 < g.t p q c) := List.mem_filter.mpr ⟨hc, decide_eq_true hc'⟩
      rw [e] at this; cases this)
    (fun a ha b hb ne => by
      obtain ⟨ha, ta⟩ := List.mem_filter.mp ha
      obtain ⟨hb, tb⟩ := List.mem_filter.mp hb
      have ta := of_decide_eq_true ta
      have tb := of_decide_eq_true tb
      obtain ⟨_, a2, a3⟩ := t_ne (g := g) (p := p) (a := q) (b := a) (by omega)
      obtain ⟨_, b2, b3⟩ := t_ne (g := g) (p := p) (a := q) (b := b) (by omega)
      have h4 := G.h4 p hp q hq a ha b hb hpq a2 a3 b2 b3 ne
      have e := w_sw (g := g) p q a b
      omega)
    (fun a ha b hb c hc h1 h2 => by
      obtain ⟨ha, ta⟩ := List.mem_filter.mp ha
      obtain ⟨hb, tb⟩ := List.mem_filter.mp hb
      obtain ⟨hc, tc⟩ := List.mem_filter.mp hc
      have ta := of_decide_eq_true ta
      have tb := of_decide_eq_true tb
      have tc := of_decide_eq_true tc
      have e := gp3 (g := g) p q a b c
      have e1 := w_sw (g := g) p q b c
      have e2 := w_sw (g := g) p q a b
      have e3 := w_sw (g := g) p q a c
      have x1 : 0 < g.t p q a * g.w p q b c := pp ta (by omega)
      have x2 : 0 < g.t p q c * g.w p q a b := pp tc (by omega)
      have x3 : 0 < g.t p q b * g.w p q a c := by omega
      have x4 := pos_of_pos_mul tb x3
      omega)
  obtain ⟨hm1, hm2⟩ := List.mem_filter.mp hm
  exact ⟨m, hm1, of_decide_eq_true hm2, fun c hc tc ne => hmax c (List.mem_filter.mpr ⟨hc, decide_eq_true tc⟩) ne⟩
theorem maxR {p q : Nat} (hp : p ∈ V) (hq : q ∈ V) (hpq : p ≠ q) (h : ∃ c, c ∈ V ∧ g.t p q c < 0) : ∃ a, a ∈ V ∧ g.t p q a < 0 ∧ ∀ c, c ∈ V → g.t p q c < 0 → c ≠ a → g.w p a q c < 0 := by
  obtain ⟨c, hc, hc'⟩ := h
  obtain ⟨m, hm, hmax⟩ := exists_max (V := V.filter fun c => decide (g.t p q c < 0)) (lt := fun c b => 0 < g.w p q b c) (fun e => by
      have : c ∈ V.filter fun c => decide (g.t p q c < 0) := List.mem_filter.mpr ⟨hc, decide_eq_true hc'⟩
      rw [e] at this; cases this)
    (fun a ha b hb ne => by
      obtain ⟨ha, ta⟩ := List.mem_filter.mp ha
      obtain ⟨hb, tb⟩ := List.mem_filter.mp hb
      have ta := of_decide_eq_true ta
      have tb := of_decide_eq_true tb
      obtain ⟨_, a2, a3⟩ := t_ne (g := g) (p := p) (a := q) (b := a) (by omega)
      obtain ⟨_, b2, b3⟩ := t_ne (g := g) (p := p) (a := q) (b := b) (by omega)
      have h4 := G.h4 p hp q hq a ha b hb hpq a2 a3 b2 b3 ne
      have e := w_sw (g := g) p q a b
      omega)
    (fun a ha b hb c hc h1 h2 => by
      obtain ⟨ha, ta⟩ := List.mem_filter.mp ha
      obtain ⟨hb, tb⟩ := List.mem_filter.mp hb
      obtain ⟨hc, tc⟩ := List.mem_filter.mp hc
      have ta := of_decide_eq_true ta
      have tb := of_decide_eq_true tb
      have tc := of_decide_eq_true tc
      have e := gp3 (g := g) p q a b c
      have e1 := w_sw (g := g) p q b c
      have e2 := w_sw (g := g) p q a b
      have e3 := w_sw (g := g) p q a c
      have x1 : 0 < g.t p q a * g.w p q b c := nn ta (by omega)
      have x2 : 0 < g.t p q c * g.w p q a b := nn tc (by omega)
      have x3 : 0 < g.t p q b * g.w p q a c := by omega
      have x4 := neg_of_neg_mul tb x3
      omega)
  obtain ⟨hm1, hm2⟩ := List.mem_filter.mp hm
  refine ⟨m, hm1, of_decide_eq_true hm2, fun c hc tc ne => ?_⟩
  have h1 := hmax c (List.mem_filter.mpr ⟨hc, decide_eq_true tc⟩) ne
  have e := w_sw2 (g := g) p q m c
  omega
theorem side {p q c : Nat} (hp : p ∈ V) (hq : q ∈ V) (hc : c ∈ V) (hpq : p ≠ q) (h1 : c ≠ p) (h2 : c ≠ q) : 0 < g.t p q c ∨ g.t p q c < 0 := by
  have := G.h3 p hp q hq c hc hpq (Ne.symm h1) (Ne.symm h2)
  omega
theorem fcL_of_noR {p q : Nat} (hp : p ∈ V) (hq : q ∈ V) (hpq : p ≠ q) (h : ∃ c, c ∈ V ∧ 0 < g.t p q c) (hr : noR g V p q) : ∃ b, b ∈ V ∧ fc g V p q b := by
  obtain ⟨b, hb, tb, hm⟩ := maxL G hp hq hpq h
  refine ⟨b, hb, tb, fun d hd d1 d2 d3 => ?_⟩
  rcases side G hp hq hd hpq d1 d2 with x | x
  · exact hm d hd x d3
  · exact (hr d hd x).elim
theorem fcR_of_noL {p q : Nat} (hp : p ∈ V) (hq : q ∈ V) (hpq : p ≠ q) (h : ∃ c, c ∈ V ∧ g.t p q c < 0) (hl : noL g V p q) : ∃ a, a ∈ V ∧ fc g V p a q := by
  obtain ⟨a, ha, ta, hm⟩ := maxR G hp hq hpq h
  refine ⟨a, ha, by have e := t_sw (g := g) p q a; omega, fun d hd d1 d2 d3 => ?_⟩
  rcases side G hp hq hd hpq d1 d3 with x | x
  · exact (hl d hd x).elim
  · exact hm d hd x d2
theorem fcR_of_fcL {p q b : Nat} (hp : p ∈ V) (hq : q ∈ V) (hb : b ∈ V) (hf : fc g V p q b) (h : ∃ c, c ∈ V ∧ g.t p q c < 0) : ∃ a, a ∈ V ∧ fc g V p a q := by
  obtain ⟨hpq, hpb, hqb⟩ := t_ne (g := g) (p := p) (a := q) (b := b) (by have := hf.1; omega)
  obtain ⟨a, ha, ta, hm⟩ := maxR G hp hq hpq h
  obtain ⟨_, hpa, hqa⟩ := t_ne (g := g) (p := p) (a := q) (b := a) (by omega)
  have hab : a ≠ b := fun e => by rw [e] at ta; have := hf.1; omega
  have tb := hf.1
  have wba : g.w p q b a < 0 := hf.2 a ha (Ne.symm hpa) (Ne.symm hqa) hab
  refine ⟨a, ha, by have e := t_sw (g := g) p q a; omega, fun d hd d1 d2 d3 => ?_⟩
  have e0 := w_sw2 (g := g) p q a d
  have e1 := w_sw (g := g) p q a d
  rcases side G hp hq hd hpq d1 d3 with x | x
  · -- d on the left
    by_cases hdb : d = b
    · subst hdb; omega
    · have wbd : g.w p q b d < 0 := hf.2 d hd d1 d3 hdb
      have e := gp3 (g := g) p q b d a
      have x1 : g.t p q d * g.w p q b a < 0 := pn x wba
      have x2 : 0 < g.t p q a * g.w p q b d := nn ta wbd
      have x3 : g.t p q b * g.w p q d a < 0 := by omega
      have x4 := neg_of_pos_mul tb x3
      omega
  · exact hm d hd x d2
theorem fcL_of_fcR {p q a : Nat} (hp : p ∈ V) (hq : q ∈ V) (ha : a ∈ V) (hf : fc g V p a q) (h : ∃ c, c ∈ V ∧ 0 < g.t p q c) : ∃ b, b ∈ V ∧ fc g V p q b := by
  obtain ⟨hpa, hpq, haq⟩ := t_ne (g := g) (p := p) (a := a) (b := q) (by have := hf.1; omega)
  obtain ⟨b, hb, tb, hm⟩ := maxL G hp hq hpq h
  obtain ⟨_, hpb, hqb⟩ := t_ne (g := g) (p := p) (a := q) (b := b) (by omega)
  have ta : g.t p q a < 0 := by have e := t_sw (g := g) p q a; have := hf.1; omega
  have hab : a ≠ b := fun e => by rw [e] at ta; omega
  have wab : g.w p a q b < 0 := hf.2 b hb (Ne.symm hpb) (Ne.symm hab) (Ne.symm hqb)
  have e2 := w_sw2 (g := g) p q a b
  have e3 := w_sw (g := g) p q a b
  refine ⟨b, hb, tb, fun d hd d1 d2 d3 => ?_⟩
  rcases side G hp hq hd hpq d1 d2 with x | x
  · exact hm d hd x d3
  · by_cases hda : d = a
    · subst hda; omega
    · have wad : g.w p a q d < 0 := hf.2 d hd d1 hda d2
      have e4 := w_sw2 (g := g) p q a d
      have e := gp3 (g := g) p q b a d
      have x1 : 0 < g.t p q b * g.w p q a d := pp tb (by omega)
      have x2 : 0 < g.t p q d * g.w p q b a := nn x (by omega)
      have x3 : 0 < g.t p q a * g.w p q b d := by omega
      exact neg_of_neg_mul ta x3
theorem FL_one {p q b : Nat} (hp : p ∈ V) (hq : q ∈ V) (hb : b ∈ V) (h : fc g V p q b) : FL g V p q = 1 :=
  S_one G.nd hb h fun b' hb' h' => fcL_uniq G hp hq hb' hb h' h
theorem FR_one {p q a : Nat} (hp : p ∈ V) (hq : q ∈ V) (ha : a ∈ V) (h : fc g V p a q) : FR g V p q = 1 :=
  S_one G.nd ha h fun a' ha' h' => fcR_uniq G hp hq ha' ha h' h
omit G in
theorem FL_zero {p q : Nat} (h : ¬ ∃ b, b ∈ V ∧ fc g V p q b) : FL g V p q = 0 := S_none fun b hb hf => h ⟨b, hb, hf⟩
omit G in
theorem FR_zero {p q : Nat} (h : ¬ ∃ a, a ∈ V ∧ fc g V p a q) : FR g V p q = 0 := S_none fun b hb hf => h ⟨b, hb, hf⟩
/-- THE PENCIL -/
theorem pencil {p q : Nat} (hp : p ∈ V) (hq : q ∈ V) (hpq : p ≠ q) (h : ∃ c, c ∈ V ∧ c ≠ p ∧ c ≠ q) : FL g V p q - FR g V p q = ind (noR g V p q) - ind (noL g V p q) := by
  by_cases hL : ∃ c, c ∈ V ∧ 0 < g.t p q c
  · have iL : ind (noL g V p q) = 0 := ind_f fun n => let ⟨c, hc, tc⟩ := hL; n c hc tc
    by_cases hR : ∃ c, c ∈ V ∧ g.t p q c < 0
    · have iR : ind (noR g V p q) = 0 := ind_f fun n => let ⟨c, hc, tc⟩ := hR; n c hc tc
      rw [iL, iR]
      by_cases e : ∃ b, b ∈ V ∧ fc g V p q b
      · obtain ⟨b, hb, hf⟩ := e
        obtain ⟨a, ha, ha'⟩ := fcR_of_fcL G hp hq hb hf hR
        rw [FL_one G hp hq hb hf, FR_one G hp hq ha ha']
        rfl
      · have e2 : ¬ ∃ a, a ∈ V ∧ fc g V p a q := fun ⟨a, ha, hf⟩ => e (fcL_of_fcR G hp hq ha hf hL)
        rw [FL_zero e, FR_zero e2]

    · have nR : noR g V p q := fun c hc tc => hR ⟨c, hc, tc⟩
      obtain ⟨b, hb, hf⟩ := fcL_of_noR G hp hq hpq hL nR
      have e2 : ¬ ∃ a, a ∈ V ∧ fc g V p a q := fun ⟨a, ha, hf⟩ => hR ⟨a, ha, by have := hf.1; have e := t_sw (g := g) p q a; omega⟩
      rw [FL_one G hp hq hb hf, FR_zero e2, iL, ind_t nR]
  · have nL : noL g V p q := fun c hc tc => hL ⟨c, hc, tc⟩
    have hR : ∃ c, c ∈ V ∧ g.t p q c < 0 := by
      obtain ⟨c, hc, c1, c2⟩ := h
      rcases side G hp hq hc hpq c1 c2 with x | x
      · exact (hL ⟨c, hc, x⟩).elim
      · exact ⟨c, hc, x⟩
    have iR : ind (noR g V p q) = 0 := ind_f fun n => let ⟨c, hc, tc⟩ := hR; n c hc tc
    obtain ⟨a, ha, hf⟩ := fcR_of_noL G hp hq hpq hR nL
    have e2 : ¬ ∃ b, b ∈ V ∧ fc g V p q b := fun ⟨b, hb, hf⟩ => hL ⟨b, hb, hf.1⟩
    rw [FL_zero e2, FR_one G hp hq ha hf, iR, ind_t nL]
end
end KB
end

section
set_option Elab.async false
set_option linter.all false
namespace KB
open Cfg
variable {g : Cfg} {V : List Nat}
section
variable (G : Good g V)
include G
/-- a corner, or within a triangle -/
theorem corner_or {p : Nat} (hp : p ∈ V) (h : ∃ a, a ∈ V ∧ a ≠ p) : (∃ q, q ∈ V ∧ q ≠ p ∧ noR g V p q) ∨ ∃ a b c, a ∈ V ∧ b ∈ V ∧ c ∈ V ∧ 0 < g.t p a b ∧ 0 < g.t p b c ∧ 0 < g.t p c a := by
  obtain ⟨a, ha, hap⟩ := h
  by_cases hR : ∃ c, c ∈ V ∧ g.t p a c < 0
  · -- the first of the right ones
    obtain ⟨c0, hc0, tc0⟩ := hR
    obtain ⟨c, hc, cmax⟩ := exists_max (V := V.filter fun c => decide (g.t p a c < 0)) (lt := fun d c => 0 < g.t p c d) (fun e => by
        have : c0 ∈ V.filter fun c => decide (g.t p a c < 0) := List.mem_filter.mpr ⟨hc0, decide_eq_true tc0⟩
        rw [e] at this; cases this)
      (fun u hu v hv ne => by
        obtain ⟨hu, tu⟩ := List.mem_filter.mp hu
        obtain ⟨hv, tv⟩ := List.mem_filter.mp hv
        have tu := of_decide_eq_true tu
        have tv := of_decide_eq_true tv
        obtain ⟨_, u2, u3⟩ := t_ne (g := g) (p := p) (a := a) (b := u) (by omega)
        obtain ⟨_, v2, v3⟩ := t_ne (g := g) (p := p) (a := a) (b := v) (by omega)
        have := G.h3 p hp u hu v hv u2 v2 ne
        have e := t_sw (g := g) p u v
        omega)
      (fun u hu v hv s hs h1 h2 => by
        obtain ⟨hu, tu⟩ := List.mem_filter.mp hu
        obtain ⟨hv, tv⟩ := List.mem_filter.mp hv
        obtain ⟨hs, ts⟩ := List.mem_filter.mp hs
        have tu := of_decide_eq_true tu
        have tv := of_decide_eq_true tv
        have ts := of_decide_eq_true ts
        have e := gp2 (g := g) p a s v u
        have x1 : g.t p a s * g.t p v u < 0 := np ts h1
        have x2 : g.t p a u * g.t p s v < 0 := np tu h2
        have x3 : g.t p a v * g.t p s u < 0 := by omega
        exact pos_of_neg_mul tv x3)
    obtain ⟨hc, tc⟩ := List.mem_filter.mp hc
    have tc := of_decide_eq_true tc
    have cmax : ∀ q, q ∈ V → g.t p a q < 0 → q ≠ c → 0 < g.t p c q := fun q hq tq ne => cmax q (List.mem_filter.mpr ⟨hq, decide_eq_true tq⟩) ne
    obtain ⟨_, hpc, hac⟩ := t_ne (g := g) (p := p) (a := a) (b := c) (by omega)
    have tca : 0 < g.t p c a := by have e := t_sw (g := g) p a c; omega
    by_cases hL : ∃ b, b ∈ V ∧ 0 < g.t p a b
    · obtain ⟨b0, hb0, tb0⟩ := hL
      obtain ⟨b, hb, bmax⟩ := exists_max (V := V.filter fun c => decide (0 < g.t p a c)) (lt := fun d b => 0 < g.t p d b) (fun e => by
          have : b0 ∈ V.filter fun c => decide (0 < g.t p a c) := List.mem_filter.mpr ⟨hb0, decide_eq_true tb0⟩
          rw [e] at this; cases this)
        (fun u hu v hv ne => by
          obtain ⟨hu, tu⟩ := List.mem_filter.mp hu
          obtain ⟨hv, tv⟩ := List.mem_filter.mp hv
          have tu := of_decide_eq_true tu
          have tv := of_decide_eq_true tv
          obtain ⟨_, u2, u3⟩ := t_ne (g := g) (p := p) (a := a) (b := u) (by omega)
          obtain ⟨_, v2, v3⟩ := t_ne (g := g) (p := p) (a := a) (b := v) (by omega)
          have := G.h3 p hp u hu v hv u2 v2 ne
          have e := t_sw (g := g) p u v
          omega)
        (fun u hu v hv s hs h1 h2 => by
          obtain ⟨hu, tu⟩ := List.mem_filter.mp hu
          obtain ⟨hv, tv⟩ := List.mem_filter.mp hv
          obtain ⟨hs, ts⟩ := List.mem_filter.mp hs
          have tu := of_decide_eq_true tu
          have tv := of_decide_eq_true tv
          have ts := of_decide_eq_true ts
          have e := gp2 (g := g) p a u v s
          have x1 : 0 < g.t p a u * g.t p v s := pp tu h2
          have x2 : 0 < g.t p a s * g.t p u v := pp ts h1
          have x3 : 0 < g.t p a v * g.t p u s := by omega
          exact pos_of_pos_mul tv x3)
      obtain ⟨hb, tb⟩ := List.mem_filter.mp hb
      have tb := of_decide_eq_true tb
      have bmax : ∀ q, q ∈ V → 0 < g.t p a q → q ≠ b → 0 < g.t p q b := fun q hq tq ne => bmax q (List.mem_filter.mpr ⟨hq, decide_eq_true tq⟩) ne
      obtain ⟨_, hpb, hab⟩ := t_ne (g := g) (p := p) (a := a) (b := b) (by omega)
      have hbc : b ≠ c := fun e => by rw [e] at tb; omega
      have h3 := G.h3 p hp b hb c hc hpb hpc hbc
      by_cases hbc' : 0 < g.t p b c
      · exact .inr ⟨a, b, c, ha, hb, hc, tb, hbc', tca⟩
      · have tcb : 0 < g.t p c b := by have e := t_sw (g := g) p b c; omega
        refine .inl ⟨c, hc, Ne.symm hpc, fun q hq tq => ?_⟩
        obtain ⟨_, hpq, hcq⟩ := t_ne (g := g) (p := p) (a := c) (b := q) (by omega)
        by_cases hqa : q = a
        · subst hqa; omega
        · rcases side G hp ha hq (Ne.symm hap) (Ne.symm hpq) hqa with x | x
          · by_cases hqb : q = b
            · subst hqb; omega
            · have y := bmax q hq x hqb
              have e := gp2 (g := g) p c a q b
              have x1 : 0 < g.t p c a * g.t p q b := pp tca y
              have x2 : 0 < g.t p c b * g.t p a q := pp tcb x
              have x3 : g.t p c q * g.t p a b < 0 := np tq tb
              omega
          · have y := cmax q hq x (Ne.symm hcq)
            omega
    · refine .inl ⟨c, hc, Ne.symm hpc, fun q hq tq => ?_⟩
      obtain ⟨_, hpq, hcq⟩ := t_ne (g := g) (p := p) (a := c) (b := q) (by omega)
      by_cases hqa : q = a
      · subst hqa; omega
      · rcases side G hp ha hq (Ne.symm hap) (Ne.symm hpq) hqa with x | x
        · exact hL ⟨q, hq, x⟩
        · have y := cmax q hq x (Ne.symm hcq)
          omega
  · exact .inl ⟨a, ha, hap, fun c hc tc => hR ⟨c, hc, tc⟩⟩
theorem noL_of_noR {p a : Nat} (hp : p ∈ V) (ha : a ∈ V) (hap : a ≠ p) (hr : noR g V p a) (h3 : ∃ c, c ∈ V ∧ c ≠ p ∧ c ≠ a) : ∃ b, b ∈ V ∧ b ≠ p ∧ noL g V p b := by
  obtain ⟨c0, hc0, c1, c2⟩ := h3
  have left : ∀ q, q ∈ V → q ≠ p → q ≠ a → 0 < g.t p a q := fun q hq q1 q2 => by
    rcases side G hp ha hq (Ne.symm hap) q1 q2 with x | x
    · exact x
    · exact (hr q hq x).elim
  obtain ⟨b, hb, bmax⟩ := exists_max (V := V.filter fun c => decide (0 < g.t p a c)) (lt := fun d b => 0 < g.t p d b) (fun e => by
      have : c0 ∈ V.filter fun c => decide (0 < g.t p a c) := List.mem_filter.mpr ⟨hc0, decide_eq_true (left c0 hc0 c1 c2)⟩
      rw [e] at this; cases this)
    (fun u hu v hv ne => by
      obtain ⟨hu, tu⟩ := List.mem_filter.mp hu
      obtain ⟨hv, tv⟩ := List.mem_filter.mp hv
      have tu := of_decide_eq_true tu
      have tv := of_decide_eq_true tv
      obtain ⟨_, u2, u3⟩ := t_ne (g := g) (p := p) (a := a) (b := u) (by omega)
      obtain ⟨_, v2, v3⟩ := t_ne (g := g) (p := p) (a := a) (b := v) (by omega)
      have := G.h3 p hp u hu v hv u2 v2 ne
      have e := t_sw (g := g) p u v
      omega)
    (fun u hu v hv s hs h1 h2 => by
      obtain ⟨hu, tu⟩ := List.mem_filter.mp hu
      obtain ⟨hv, tv⟩ := List.mem_filter.mp hv
      obtain ⟨hs, ts⟩ := List.mem_filter.mp hs
      have tu := of_decide_eq_true tu
      have tv := of_decide_eq_true tv
      have ts := of_decide_eq_true ts
      have e := gp2 (g := g) p a u v s
      have x1 : 0 < g.t p a u * g.t p v s := pp tu h2
      have x2 : 0 < g.t p a s * g.t p u v := pp ts h1
      have x3 : 0 < g.t p a v * g.t p u s := by omega
      exact pos_of_pos_mul tv x3)
  obtain ⟨hb, tb⟩ := List.mem_filter.mp hb
  have tb := of_decide_eq_true tb
  have bmax : ∀ q, q ∈ V → 0 < g.t p a q → q ≠ b → 0 < g.t p q b := fun q hq tq ne => bmax q (List.mem_filter.mpr ⟨hq, decide_eq_true tq⟩) ne
  obtain ⟨_, hpb, hab⟩ := t_ne (g := g) (p := p) (a := a) (b := b) (by omega)
  refine ⟨b, hb, Ne.symm hpb, fun q hq tq => ?_⟩
  obtain ⟨_, hpq, hbq⟩ := t_ne (g := g) (p := p) (a := b) (b := q) (by omega)
  have e := t_sw (g := g) p b q
  by_cases hqa : q = a
  · subst hqa
    omega
  · have y := bmax q hq (left q hq (Ne.symm hpq) hqa) (Ne.symm hbq)
    omega
theorem noR_of_noL {p b : Nat} (hp : p ∈ V) (hb : b ∈ V) (hbp : b ≠ p) (hl : noL g V p b) : ∃ a, a ∈ V ∧ a ≠ p ∧ noR g V p a := by
  rcases corner_or G hp ⟨b, hb, hbp⟩ with h | ⟨u, v, s, hu, hv, hs, h1, h2, h3⟩
  · exact h
  · -- all are on the right of p, b, or b itself
    exfalso
    have e := gp2 (g := g) p b u v s
    have lu := hl u hu
    have lv := hl v hv
    have ls := hl s hs
    have e3 := t_sw (g := g) p u s
    have x1 : g.t p b u * g.t p v s ≤ 0 := by
      rcases Int.lt_or_eq_of_le (show g.t p b u ≤ 0 by omega) with x | x
      · exact Int.le_of_lt (np x h2)
      · rw [x]; omega
    have x2 : g.t p b s * g.t p u v ≤ 0 := by
      rcases Int.lt_or_eq_of_le (show g.t p b s ≤ 0 by omega) with x | x
      · exact Int.le_of_lt (np x h1)
      · rw [x]; omega
    have x3 : 0 ≤ g.t p b v * g.t p u s := by
      rcases Int.lt_or_eq_of_le (show g.t p b v ≤ 0 by omega) with x | x
      · exact Int.le_of_lt (nn x (by omega))
      · rw [x]; omega
    -- all three zero: then b = u, v, s
    obtain ⟨_, pu, uv⟩ := t_ne (g := g) (p := p) (a := u) (b := v) (by omega)
    obtain ⟨pu', pv, _⟩ := t_ne (g := g) (p := p) (a := u) (b := v) (by omega)
    by_cases ebu : b = u
    · have := side G hp hb hv (Ne.symm hbp) (Ne.symm pv) (fun q => uv (by rw [← ebu, q]))
      rw [ebu] at this lv
      omega
    · have hbu := side G hp hb hu (Ne.symm hbp) (Ne.symm pu') (fun q => ebu q.symm)
      have y1 : g.t p b u * g.t p v s < 0 := np (by omega) h2
      omega
end
end KB
end

section
set_option Elab.async false
set_option linter.all false
namespace KB
open Cfg
variable {g : Cfg} {V : List Nat}
section
variable (g V)
abbrev mn (p : Nat) : Prop := ∀ q, q ∈ V → q ≠ p → g.X p < g.X q
abbrev mx (p : Nat) : Prop := ∀ q, q ∈ V → q ≠ p → g.X q < g.X p
def co (p : Nat) : Int := S V fun q => ind (q ≠ p ∧ noR g V p q)
def FF (p : Nat) : Int := S V fun l => S V fun r => ind (g.X l < g.X p ∧ g.X p < g.X r ∧ up g V l p r)
def AA (p : Nat) : Int := S V fun a => S V fun b => ind (fc g V p a b ∧ g.X a < g.X p ∧ g.X p < g.X b)
def BB (p : Nat) : Int := S V fun a => S V fun b => ind (fc g V p a b ∧ g.X p < g.X a ∧ g.X b < g.X p)
end
section
variable (G : Good g V)
include G
/-- no facet at a point within a triangle -/
theorem no_fc {p a b c l r : Nat} (hp : p ∈ V) (ha : a ∈ V) (hb : b ∈ V) (hc : c ∈ V) (hl : l ∈ V) (hr : r ∈ V) (h1 : 0 < g.t p a b) (h2 : 0 < g.t p b c) (h3 : 0 < g.t p c a) : ¬ fc g V p l r := fun h => by
  have w := G.bw a ha b hb c hc p hp h1 h2 h3
  have e := gp5 (g := g) p l r a b c
  obtain ⟨pa, pb, ab⟩ := t_ne (g := g) (p := p) (a := a) (b := b) (by omega)
  obtain ⟨_, pc, bc⟩ := t_ne (g := g) (p := p) (a := b) (b := c) (by omega)
  have le : ∀ q, q ∈ V → q ≠ p → g.w p l r q ≤ 0 := fun q hq qp => by
    by_cases e1 : q = l
    · subst e1; rw [w_b]; exact Int.le_refl 0
    · by_cases e2 : q = r
      · subst e2; rw [w_c]; exact Int.le_refl 0
      · exact Int.le_of_lt (h.2 q hq qp e1 e2)
  have m : ∀ {a b : Int}, 0 < a → b ≤ 0 → a * b ≤ 0 := fun {a b} ha hb => by
    rcases Int.lt_or_eq_of_le hb with x | x
    · exact Int.le_of_lt (pn ha x)
    · rw [x]; omega
  have m1 := m h2 (le a ha (Ne.symm pa))
  have m2 := m h3 (le b hb (Ne.symm pb))
  have m3 := m h1 (le c hc (Ne.symm pc))
  have m4 := pn h.1 w
  omega
theorem FF_eq {p : Nat} (hp : p ∈ V) : FF g V p = AA g V p + BB g V p := by
  unfold FF AA BB
  rw [S_comm V V (fun a b => ind (fc g V p a b ∧ g.X p < g.X a ∧ g.X b < g.X p)), ← S_add]
  refine S_congr fun l hl => ?_
  rw [← S_add]
  refine S_congr fun r hr => ?_
  by_cases hx : g.X l < g.X p ∧ g.X p < g.X r
  · obtain ⟨x1, x2⟩ := hx
    have lp : l ≠ p := fun e => by rw [e] at x1; omega
    have pr : p ≠ r := fun e => by rw [e] at x2; omega
    have lr : l ≠ r := fun e => by rw [e] at x1; omega
    have e1 := t_sw1 (g := g) p l r
    have e2 := t_sw (g := g) p l r
    have nz := G.h3 p hp l hl r hr (Ne.symm lp) pr lr
    have ew : ∀ d, g.w l p r d = - g.w p l r d := fun d => w_sw1 p l r d
    have ew2 : ∀ d, g.w p r l d = - g.w p l r d := fun d => w_sw2 p l r d
    by_cases hs : 0 < g.t p l r
    · have n2 : ¬ fc g V p r l := fun h => by have := h.1; omega
      rw [ind_f (p := fc g V p r l ∧ g.X p < g.X r ∧ g.X l < g.X p) (fun h => n2 h.1), Int.add_zero]
      refine ind_iff ⟨fun ⟨_, _, hu⟩ => ⟨⟨hs, fun d hd d1 d2 d3 => ?_⟩, x1, x2⟩, fun ⟨hf, _⟩ => ⟨x1, x2, fun d hd d1 d2 d3 => ?_⟩⟩
      · have := hu d hd d2 d1 d3
        have := pos_of_neg_mul (by omega) this
        have := ew d
        omega
      · have := hf.2 d hd d2 d1 d3
        exact np (by omega) (by have := ew d; omega)
    · have n2 : ¬ fc g V p l r := fun h => hs h.1
      rw [ind_f (p := fc g V p l r ∧ g.X l < g.X p ∧ g.X p < g.X r) (fun h => n2 h.1), Int.zero_add]
      refine ind_iff ⟨fun ⟨_, _, hu⟩ => ⟨⟨by omega, fun d hd d1 d2 d3 => ?_⟩, x2, x1⟩, fun ⟨hf, _⟩ => ⟨x1, x2, fun d hd d1 d2 d3 => ?_⟩⟩
      · have := hu d hd d3 d1 d2
        have := neg_of_pos_mul (by omega) this
        have := ew d
        have := ew2 d
        omega
      · have := hf.2 d hd d2 d3 d1
        exact pn (by omega) (by have := ew d; have := ew2 d; omega)
  · rw [ind_f (fun h => hx ⟨h.1, h.2.1⟩), ind_f (fun h => hx ⟨h.2.1, h.2.2⟩), ind_f (fun h => hx ⟨h.2.2, h.2.1⟩)]
    rfl
theorem tele {p : Nat} (hp : p ∈ V) (h3 : ∀ q, ∃ c, c ∈ V ∧ c ≠ p ∧ c ≠ q) : BB g V p - AA g V p = S V (fun q => ind (g.X q < g.X p ∧ noL g V p q)) - S V (fun q => ind (g.X q < g.X p ∧ noR g V p q)) := by
  have e1 : BB g V p - AA g V p = S V (fun a => S V fun b => ind (g.X b < g.X p) * ind (fc g V p a b)) - S V (fun a => S V fun b => ind (g.X a < g.X p) * ind (fc g V p a b)) := by
    unfold BB AA
    rw [← S_sub, ← S_sub]
    refine S_congr fun a ha => ?_
    rw [← S_sub, ← S_sub]
    refine S_congr fun b hb => ?_
    by_cases hf : fc g V p a b
    · obtain ⟨pa, pb, ab⟩ := t_ne (g := g) (p := p) (a := a) (b := b) (by have := hf.1; omega)
      have xa := G.hX p hp a ha pa
      have xb := G.hX p hp b hb pb
      rw [ind_t hf, Int.mul_one, Int.mul_one]
      by_cases y1 : g.X a < g.X p <;> by_cases y2 : g.X b < g.X p
      · rw [ind_f (fun h => by omega), ind_f (fun h => by omega), ind_t y1, ind_t y2]; omega
      · rw [ind_f (fun h => by omega), ind_t ⟨hf, y1, by omega⟩, ind_t y1, ind_f y2]
      · rw [ind_t ⟨hf, by omega, y2⟩, ind_f (fun h => by omega), ind_t y2, ind_f y1]
      · rw [ind_f (fun h => by omega), ind_f (fun h => by omega), ind_f y1, ind_f y2]
    · rw [ind_f (fun h => hf h.1), ind_f (fun h => hf h.1), ind_f hf]; omega
  rw [e1, S_comm V V (fun a b => ind (g.X b < g.X p) * ind (fc g V p a b)), ← S_sub, ← S_sub]
  refine S_congr fun q hq => ?_
  rw [S_mul, S_mul]
  by_cases x : g.X q < g.X p
  · have hpq : p ≠ q := fun e => by rw [e] at x; omega
    have e := pencil G hp hq hpq (h3 q)
    have e2 : ind (g.X q < g.X p ∧ noL g V p q) = ind (noL g V p q) := ind_iff ⟨fun h => h.2, fun h => ⟨x, h⟩⟩
    have e3 : ind (g.X q < g.X p ∧ noR g V p q) = ind (noR g V p q) := ind_iff ⟨fun h => h.2, fun h => ⟨x, h⟩⟩
    rw [ind_t x, e2, e3]
    unfold FL FR at e
    omega
  · rw [ind_f x, ind_f (fun h => x h.1), ind_f (fun h => x h.1)]
    omega
theorem noR_uniq {p a a' : Nat} (hp : p ∈ V) (ha : a ∈ V) (ha' : a' ∈ V) (h1 : a ≠ p) (h2 : a' ≠ p) (r : noR g V p a) (r' : noR g V p a') : a = a' := by
  by_cases e : a = a'
  · exact e
  · have s := G.h3 p hp a ha a' ha' (Ne.symm h1) (Ne.symm h2) e
    have x := r a' ha'
    have y := r' a ha
    have e := t_sw (g := g) p a a'
    omega
theorem noL_uniq {p a a' : Nat} (hp : p ∈ V) (ha : a ∈ V) (ha' : a' ∈ V) (h1 : a ≠ p) (h2 : a' ≠ p) (r : noL g V p a) (r' : noL g V p a') : a = a' := by
  by_cases e : a = a'
  · exact e
  · have s := G.h3 p hp a ha a' ha' (Ne.symm h1) (Ne.symm h2) e
    have x := r a' ha'
    have y := r' a ha
    have e := t_sw (g := g) p a a'
    omega
/-- THE VERTEX: the facets whose middle it is -/
theorem vertex {p : Nat} (hp : p ∈ V) (h3 : ∀ q, ∃ c, c ∈ V ∧ c ≠ p ∧ c ≠ q) : FF g V p = co g V p - ind (mn g V p) - ind (mx g V p) := by
  have T := tele G hp h3
  rw [FF_eq G hp]
  obtain ⟨a', ha', ap', _⟩ := h3 p
  by_cases hc : ∃ q, q ∈ V ∧ q ≠ p ∧ noR g V p q
  · obtain ⟨a, ha, hap, hr⟩ := hc
    obtain ⟨b, hb, hbp, hl⟩ := noL_of_noR G hp ha hap hr (h3 a)
    have hco : co g V p = 1 := S_one G.nd ha ⟨hap, hr⟩ fun q hq hq' => noR_uniq G hp hq ha hq'.1 hap hq'.2 hr
    have tle : ∀ q, q ∈ V → 0 ≤ g.t p a q := fun q hq => by have := hr q hq; omega
    have tge : ∀ q, q ∈ V → 0 ≤ g.t p q b := fun q hq => by have := hl q hq; have e := t_sw (g := g) p q b; omega
    have hab : a ≠ b := fun e => by
      obtain ⟨c, hc, c1, c2⟩ := h3 a
      have x := hr c hc
      have y := hl c hc
      rw [← e] at y
      have := G.h3 p hp a ha c hc (Ne.symm hap) (Ne.symm c1) (Ne.symm c2)
      omega
    have tab : 0 < g.t p a b := by
      have := G.h3 p hp a ha b hb (Ne.symm hap) (Ne.symm hbp) hab
      have := tle b hb
      omega
    have sa := G.hX a ha p hp hap
    have sb := G.hX b hb p hp hbp
    have e1 : S V (fun q => ind (g.X q < g.X p ∧ noL g V p q)) = ind (g.X b < g.X p) := by
      by_cases x : g.X b < g.X p
      · rw [ind_t x]
        exact S_one G.nd hb ⟨x, hl⟩ fun q hq h => noL_uniq G hp hq hb (fun e => by have := h.1; rw [e] at this; omega) hbp h.2 hl
      · rw [ind_f x]
        refine S_none fun q hq h => x ?_
        have e := noL_uniq G hp hq hb (fun e => by have := h.1; rw [e] at this; omega) hbp h.2 hl
        rw [← e]; exact h.1
    have e2 : S V (fun q => ind (g.X q < g.X p ∧ noR g V p q)) = ind (g.X a < g.X p) := by
      by_cases x : g.X a < g.X p
      · rw [ind_t x]
        exact S_one G.nd ha ⟨x, hr⟩ fun q hq h => noR_uniq G hp hq ha (fun e => by have := h.1; rw [e] at this; omega) hap h.2 hr
      · rw [ind_f x]
        refine S_none fun q hq h => x ?_
        have e := noR_uniq G hp hq ha (fun e => by have := h.1; rw [e] at this; omega) hap h.2 hr
        rw [← e]; exact h.1
    rw [e1, e2] at T
    rw [hco]
    have m0 : ∀ {a b : Int}, 0 < a → 0 ≤ b → 0 ≤ a * b := fun {a b} h k => Int.mul_nonneg (Int.le_of_lt h) k
    have m1 : ∀ {a b : Int}, a < 0 → 0 ≤ b → a * b ≤ 0 := fun {a b} h k => Int.mul_nonpos_of_nonpos_of_nonneg (Int.le_of_lt h) k
    -- a on the left: no arc from right to left
    have hB : g.X a < g.X p → BB g V p = 0 := fun xa => S_zero' fun u hu => S_none fun v hv ⟨hf, x1, x2⟩ => by
      have e := gpX (g := g) p a u v
      have y1 : (g.X a - g.X p) * g.t p u v < 0 := np (by omega) hf.1
      have y2 : 0 ≤ (g.X u - g.X p) * g.t p a v := m0 (by omega) (tle v hv)
      have y3 : (g.X v - g.X p) * g.t p a u ≤ 0 := m1 (by omega) (tle u hu)
      omega
    have hA : g.X p < g.X a → AA g V p = 0 := fun xa => S_zero' fun u hu => S_none fun v hv ⟨hf, x1, x2⟩ => by
      have e := gpX (g := g) p a u v
      have y1 : 0 < (g.X a - g.X p) * g.t p u v := pp (by omega) hf.1
      have y2 : (g.X u - g.X p) * g.t p a v ≤ 0 := m1 (by omega) (tle v hv)
      have y3 : 0 ≤ (g.X v - g.X p) * g.t p a u := m0 (by omega) (tle u hu)
      omega
    have mid : ∀ q, q ∈ V → (g.X q - g.X p) * g.t p a b = (g.X a - g.X p) * g.t p q b + (g.X b - g.X p) * g.t p a q := fun q hq => by
      have e := gpX (g := g) p a q b
      omega
    by_cases xa : g.X a < g.X p <;> by_cases xb : g.X b < g.X p
    · -- all on the left: p is the last
      rw [ind_t xa, ind_t xb] at T
      have := hB xa
      have n1 : ¬ mn g V p := fun h => by have := h a ha hap; omega
      have n2 : mx g V p := fun q hq qp => by
        have e := mid q hq
        have xq := G.hX q hq p hp qp
        by_cases h : g.X q < g.X p
        · exact h
        · have z1 : 0 < (g.X q - g.X p) * g.t p a b := pp (by omega) tab
          have z2 : (g.X a - g.X p) * g.t p q b ≤ 0 := m1 (by omega) (tge q hq)
          have z3 : (g.X b - g.X p) * g.t p a q ≤ 0 := m1 (by omega) (tle q hq)
          omega
      rw [ind_f n1, ind_t n2]
      omega
    · rw [ind_t xa, ind_f xb] at T
      have := hB xa
      have n1 : ¬ mn g V p := fun h => by have := h a ha hap; omega
      have n2 : ¬ mx g V p := fun h => by have := h b hb hbp; omega
      rw [ind_f n1, ind_f n2]
      omega
    · rw [ind_f xa, ind_t xb] at T
      have := hA (by omega)
      have n1 : ¬ mn g V p := fun h => by have := h b hb hbp; omega
      have n2 : ¬ mx g V p := fun h => by have := h a ha hap; omega
      rw [ind_f n1, ind_f n2]
      omega
    · rw [ind_f xa, ind_f xb] at T
      have := hA (by omega)
      have n1 : ¬ mx g V p := fun h => by have := h a ha hap; omega
      have n2 : mn g V p := fun q hq qp => by
        have e := mid q hq
        have xq := G.hX q hq p hp qp
        by_cases h : g.X p < g.X q
        · exact h
        · have z1 : (g.X q - g.X p) * g.t p a b < 0 := np (by omega) tab
          have z2 : 0 ≤ (g.X a - g.X p) * g.t p q b := m0 (by omega) (tge q hq)
          have z3 : 0 ≤ (g.X b - g.X p) * g.t p a q := m0 (by omega) (tle q hq)
          omega
      rw [ind_f n1, ind_t n2]
      omega
  · -- within a triangle
    have hco : co g V p = 0 := S_none fun q hq h => hc ⟨q, hq, h.1, h.2⟩
    rcases corner_or G hp ⟨a', ha', ap'⟩ with h | ⟨a, b, c, ha, hb, hcc, h1, h2, h3'⟩
    · exact (hc h).elim
    · have hA : AA g V p = 0 := S_zero' fun u hu => S_none fun v hv h => no_fc G hp ha hb hcc hu hv h1 h2 h3' h.1
      have hB : BB g V p = 0 := S_zero' fun u hu => S_none fun v hv h => no_fc G hp ha hb hcc hu hv h1 h2 h3' h.1
      have e := gpX (g := g) p a b c
      have e3 := t_sw (g := g) p a c
      obtain ⟨pa, pb, ab⟩ := t_ne (g := g) (p := p) (a := a) (b := b) (by omega)
      obtain ⟨_, pc, bc⟩ := t_ne (g := g) (p := p) (a := b) (b := c) (by omega)
      have n1 : ¬ mn g V p := fun h => by
        have x1 := h a ha (Ne.symm pa)
        have x2 := h b hb (Ne.symm pb)
        have x3 := h c hcc (Ne.symm pc)
        have y1 : 0 < (g.X a - g.X p) * g.t p b c := pp (by omega) h2
        have y2 : (g.X b - g.X p) * g.t p a c < 0 := pn (by omega) (by omega)
        have y3 : 0 < (g.X c - g.X p) * g.t p a b := pp (by omega) h1
        omega
      have n2 : ¬ mx g V p := fun h => by
        have x1 := h a ha (Ne.symm pa)
        have x2 := h b hb (Ne.symm pb)
        have x3 := h c hcc (Ne.symm pc)
        have y1 : (g.X a - g.X p) * g.t p b c < 0 := np (by omega) h2
        have y2 : 0 < (g.X b - g.X p) * g.t p a c := nn (by omega) (by omega)
        have y3 : (g.X c - g.X p) * g.t p a b < 0 := np (by omega) h1
        omega
      rw [hA, hB, hco, ind_f n1, ind_f n2]
      rfl
/-- THE UPPER NET of a bowl: as many triangles as corners, less two -/
theorem euler (h3 : ∀ p q, ∃ c, c ∈ V ∧ c ≠ p ∧ c ≠ q) : S V (FF g V) = S V (co g V) - 2 := by
  obtain ⟨c0, hc0, _⟩ := h3 0 0
  have hne : V ≠ [] := fun e => by rw [e] at hc0; cases hc0
  obtain ⟨m1, hm1, u1⟩ := exists_max (V := V) (lt := fun a b => g.X a < g.X b) hne (fun a ha b hb ne => by have := G.hX a ha b hb ne; omega) (fun a ha b hb c hc h1 h2 => by omega)
  obtain ⟨m2, hm2, u2⟩ := exists_max (V := V) (lt := fun a b => g.X b < g.X a) hne (fun a ha b hb ne => by have := G.hX a ha b hb ne; omega) (fun a ha b hb c hc h1 h2 => by omega)
  have s1 : S V (fun p => ind (mx g V p)) = 1 := S_one G.nd hm1 (fun q hq ne => u1 q hq ne) fun a ha h => by
    by_cases e : a = m1
    · exact e
    · have := u1 a ha e
      have := h m1 hm1 (Ne.symm e)
      omega
  have s2 : S V (fun p => ind (mn g V p)) = 1 := S_one G.nd hm2 (fun q hq ne => u2 q hq ne) fun a ha h => by
    by_cases e : a = m2
    · exact e
    · have := u2 a ha e
      have := h m2 hm2 (Ne.symm e)
      omega
  have e : S V (FF g V) = S V (fun p => co g V p - ind (mn g V p) - ind (mx g V p)) := S_congr fun p hp => vertex G hp fun q => h3 p q
  rw [e, S_sub, S_sub, s1, s2]
  have : S V (fun a => co g V a) = S V (co g V) := rfl
  omega
end
end KB
end

section
set_option Elab.async false
set_option linter.all false
namespace KB
open Cfg
variable {g : Cfg} {V : List Nat}
section
variable (g V)
def lc (a b : Nat) : Int := S V fun c => ind (0 < g.t a b c)
def bc (a b c : Nat) : Int := S V fun d => ind (g.t a b c * g.w a b c d < 0)
/-- planes with j below, by the order of X; directed lines with at most j, with just j on their left -/
def TT (j : Int) : Int := S V fun a => S V fun b => S V fun c => ind ((g.X a < g.X b ∧ g.X b < g.X c) ∧ bc g V a b c = j)
def DD (j : Int) : Int := S V fun a => S V fun b => ind (a ≠ b ∧ lc g V a b ≤ j)
def del (q : Nat) : List Nat := V.filter fun a => decide (a ≠ q)
end
theorem S_del {q : Nat} (f : Nat → Int) : S (del V q) f = S V (fun a => if a = q then 0 else f a) := by
  unfold del
  rw [S_filter]
  refine S_congr fun a _ => ?_
  by_cases e : a = q
  · rw [if_pos e, if_neg (by simp [e])]
  · rw [if_neg e, if_pos (by simp [e])]
theorem S_del' {q : Nat} (nd : V.Nodup) (hq : q ∈ V) (f : Nat → Int) : S (del V q) f = S V f - f q := by
  rw [S_del]
  have e := S_single f nd hq
  have e2 : S V f = S V (fun a => if a = q then 0 else f a) + S V (fun a => if a = q then f a else 0) := by
    rw [← S_add]
    refine S_congr fun a _ => ?_
    by_cases h : a = q
    · rw [if_pos h, if_pos h]; omega
    · rw [if_neg h, if_neg h]; omega
  omega
theorem del_len {q : Nat} (nd : V.Nodup) (hq : q ∈ V) : ((del V q).length : Int) = V.length - 1 := by
  have e := S_del' nd hq (fun _ => 1)
  rw [S_const, S_const] at e
  omega
theorem Good.del (G : Good g V) (q : Nat) : Good g (del V q) := by
  have m : ∀ a, a ∈ KB.del V q → a ∈ V := fun a h => (List.mem_filter.mp h).1
  exact ⟨G.nd.filter _, fun a ha b hb c hc => G.h3 a (m a ha) b (m b hb) c (m c hc), fun a ha b hb c hc d hd => G.h4 a (m a ha) b (m b hb) c (m c hc) d (m d hd),
    fun a ha b hb c hc d hd => G.bw a (m a ha) b (m b hb) c (m c hc) d (m d hd), fun a ha b hb => G.hX a (m a ha) b (m b hb)⟩
/-- count over q, other than some, of a thing that changes by one where q counts -/
theorem bc_del {a b c q : Nat} (nd : V.Nodup) (hq : q ∈ V) : bc g (del V q) a b c = bc g V a b c - ind (g.t a b c * g.w a b c q < 0) := S_del' nd hq _
theorem lc_del {a b q : Nat} (nd : V.Nodup) (hq : q ∈ V) : lc g (del V q) a b = lc g V a b - ind (0 < g.t a b q) := S_del' nd hq _
theorem S_if2 {q : Nat} {f : Nat → Nat → Int} : S (del V q) (fun a => S (del V q) (fun b => f a b)) = S V (fun a => S V (fun b => if a = q ∨ b = q then 0 else f a b)) := by
  rw [S_del]
  refine S_congr fun a _ => ?_
  by_cases h : a = q
  · rw [if_pos h]
    exact (S_zero' fun b _ => if_pos (.inl h)).symm
  · rw [if_neg h, S_del]
    refine S_congr fun b _ => ?_
    by_cases h2 : b = q
    · rw [if_pos h2, if_pos (.inr h2)]
    · rw [if_neg h2, if_neg (fun x => x.elim h h2)]
theorem S_if3 {q : Nat} {f : Nat → Nat → Nat → Int} : S (del V q) (fun a => S (del V q) (fun b => S (del V q) (fun c => f a b c))) = S V (fun a => S V (fun b => S V (fun c => if a = q ∨ b = q ∨ c = q then 0 else f a b c))) := by
  rw [S_if2]
  refine S_congr fun a _ => S_congr fun b _ => ?_
  by_cases h : a = q ∨ b = q
  · rw [if_pos h]
    exact (S_zero' fun c _ => if_pos (h.elim .inl (fun x => .inr (.inl x)))).symm
  · rw [if_neg h, S_del]
    refine S_congr fun c _ => ?_
    by_cases h2 : c = q
    · rw [if_pos h2, if_pos (.inr (.inr h2))]
    · rw [if_neg h2, if_neg (fun x => x.elim (fun y => h (.inl y)) fun x => x.elim (fun y => h (.inr y)) h2)]
/-- the sum over q of what is left when q goes: k of the N - m others count -/
theorem sum_gone {V : List Nat} {p : Nat → Prop} [DecidablePred p] {e : Nat → Prop} [DecidablePred e] {F : Int → Int} {m : Int} (he : S V (fun q => ind (e q)) = m) (hpe : ∀ q, q ∈ V → e q → ¬ p q) :
    S V (fun q => if e q then 0 else F (S V (fun d => ind (p d)) - ind (p q))) = S V (fun d => ind (p d)) * F (S V (fun d => ind (p d)) - 1) + ((V.length : Int) - m - S V (fun d => ind (p d))) * F (S V (fun d => ind (p d))) := by
  have h : ∀ k : Int, S V (fun q => if e q then 0 else F (k - ind (p q))) = S V (fun q => F (k - 1) * ind (p q) + F k * (1 - ind (e q) - ind (p q))) := fun k => by
    refine S_congr fun q hq => ?_
    by_cases h1 : e q
    · have h2 := hpe q hq h1
      rw [if_pos h1, ind_f h2, ind_t h1]; omega
    · rw [if_neg h1, ind_f h1]
      by_cases h2 : p q
      · rw [ind_t h2]; omega
      · rw [ind_f h2, Int.sub_zero]; omega
  rw [h, S_add, S_mul, S_mul, S_sub, S_sub, S_const, he]
  grind
theorem del_TT (G : Good g V) (j : Int) : S V (fun q => TT g (del V q) j) = ((V.length : Int) - 3 - j) * TT g V j + (j + 1) * TT g V (j + 1) := by
  have e1 : S V (fun q => TT g (del V q) j) = S V (fun q => S V fun a => S V fun b => S V fun c => if a = q ∨ b = q ∨ c = q then 0 else ind ((g.X a < g.X b ∧ g.X b < g.X c) ∧ bc g V a b c - ind (g.t a b c * g.w a b c q < 0) = j)) := by
    refine S_congr fun q hq => ?_
    show S (del V q) (fun a => S (del V q) (fun b => S (del V q) (fun c => ind ((g.X a < g.X b ∧ g.X b < g.X c) ∧ bc g (del V q) a b c = j)))) = _
    rw [S_if3]
    refine S_congr fun a _ => S_congr fun b _ => S_congr fun c _ => ?_
    rw [bc_del G.nd hq]
  rw [e1, S_comm]
  unfold TT
  rw [← S_mul, ← S_mul, ← S_add]
  refine S_congr fun a ha => ?_
  rw [S_comm, ← S_mul, ← S_mul, ← S_add]
  refine S_congr fun b hb => ?_
  rw [S_comm, ← S_mul, ← S_mul, ← S_add]
  refine S_congr fun c hc => ?_
  by_cases hx : g.X a < g.X b ∧ g.X b < g.X c
  · have nab : a ≠ b := fun e => by rw [e] at hx; omega
    have nbc : b ≠ c := fun e => by rw [e] at hx; omega
    have nac : a ≠ c := fun e => by rw [e] at hx; omega
    have hm : S V (fun q => ind (a = q ∨ b = q ∨ c = q)) = 3 := by
      have e : S V (fun q => ind (a = q ∨ b = q ∨ c = q)) = S V (fun q => ind (q = a)) + S V (fun q => ind (q = b)) + S V (fun q => ind (q = c)) := by
        rw [← S_add, ← S_add]
        refine S_congr fun q _ => ?_
        by_cases h1 : q = a
        · subst h1
          rw [ind_t (.inl rfl), ind_t rfl, ind_f nab, ind_f nac]; rfl
        · by_cases h2 : q = b
          · subst h2
            rw [ind_t (.inr (.inl rfl)), ind_f h1, ind_t rfl, ind_f nbc]; rfl
          · by_cases h3 : q = c
            · subst h3
              rw [ind_t (.inr (.inr rfl)), ind_f h1, ind_f h2, ind_t rfl]; rfl
            · rw [ind_f (fun h => h.elim (fun e => h1 e.symm) fun h => h.elim (fun e => h2 e.symm) fun e => h3 e.symm), ind_f h1, ind_f h2, ind_f h3]; rfl
      rw [e, S_ind_eq G.nd ha, S_ind_eq G.nd hb, S_ind_eq G.nd hc]
      rfl
    have key := sum_gone (V := V) (p := fun d => g.t a b c * g.w a b c d < 0) (e := fun q => a = q ∨ b = q ∨ c = q) (F := fun k => ind (k = j)) hm (fun q _ h => by
      have z : g.w a b c q = 0 := by
        rcases h with h | h | h
        · rw [← h]; exact w_a a b c
        · rw [← h]; exact w_b a b c
        · rw [← h]; exact w_c a b c
      show ¬ g.t a b c * g.w a b c q < 0
      rw [z]; omega)
    have e2 : S V (fun q => if a = q ∨ b = q ∨ c = q then 0 else ind ((g.X a < g.X b ∧ g.X b < g.X c) ∧ bc g V a b c - ind (g.t a b c * g.w a b c q < 0) = j)) =
        S V (fun q => if a = q ∨ b = q ∨ c = q then 0 else ind (S V (fun d => ind (g.t a b c * g.w a b c d < 0)) - ind (g.t a b c * g.w a b c q < 0) = j)) := by
      refine S_congr fun q _ => ?_
      by_cases h : a = q ∨ b = q ∨ c = q
      · rw [if_pos h, if_pos h]
      · rw [if_neg h, if_neg h]
        exact ind_iff ⟨fun x => x.2, fun x => ⟨hx, x⟩⟩
    rw [e2, key]
    have e3 : ind ((g.X a < g.X b ∧ g.X b < g.X c) ∧ bc g V a b c = j) = ind (bc g V a b c = j) := ind_iff ⟨fun x => x.2, fun x => ⟨hx, x⟩⟩
    have e4 : ind ((g.X a < g.X b ∧ g.X b < g.X c) ∧ bc g V a b c = j + 1) = ind (bc g V a b c = j + 1) := ind_iff ⟨fun x => x.2, fun x => ⟨hx, x⟩⟩
    rw [e3, e4]
    show bc g V a b c * ind (bc g V a b c - 1 = j) + ((V.length : Int) - 3 - bc g V a b c) * ind (bc g V a b c = j) = _
    have e5 : ind (bc g V a b c - 1 = j) = ind (bc g V a b c = j + 1) := ind_iff ⟨fun x => by omega, fun x => by omega⟩
    rw [e5]
    by_cases h1 : bc g V a b c = j
    · rw [ind_t h1, ind_f (by omega), h1]; omega
    · by_cases h2 : bc g V a b c = j + 1
      · rw [ind_f h1, ind_t h2, h2]; omega
      · rw [ind_f h1, ind_f h2]; omega
  · rw [ind_f (fun h => hx h.1), ind_f (fun h => hx h.1), S_zero' fun q _ => ?_]
    · omega
    · by_cases h : a = q ∨ b = q ∨ c = q
      · rw [if_pos h]
      · rw [if_neg h, ind_f (fun h => hx h.1)]
theorem lc_le (G : Good g V) {a b : Nat} (ha : a ∈ V) (hb : b ∈ V) (hab : a ≠ b) : 0 ≤ lc g V a b ∧ lc g V a b ≤ (V.length : Int) - 2 := by
  refine ⟨S_nonneg fun c _ => ind_nonneg, ?_⟩
  have e : 0 ≤ S V (fun c => 1 - ind (c = a) - ind (c = b) - ind (0 < g.t a b c)) := S_nonneg fun c hc => by
    by_cases h1 : c = a
    · subst h1
      rw [ind_t rfl, ind_f hab, ind_f (by rw [t_ab]; omega)]; decide
    · by_cases h2 : c = b
      · subst h2
        rw [ind_f h1, ind_t rfl, ind_f (by rw [t_bb]; omega)]; decide
      · rw [ind_f h1, ind_f h2]
        have := ind_le (p := 0 < g.t a b c)
        omega
  rw [S_sub, S_sub, S_sub, S_const, S_ind_eq G.nd ha, S_ind_eq G.nd hb] at e
  unfold lc
  omega
theorem del_DD (G : Good g V) (j : Int) : S V (fun q => DD g (del V q) j) = ((V.length : Int) - 3 - j) * DD g V j + (j + 1) * DD g V (j + 1) := by
  have e1 : S V (fun q => DD g (del V q) j) = S V (fun q => S V fun a => S V fun b => if a = q ∨ b = q then 0 else ind (a ≠ b ∧ lc g V a b - ind (0 < g.t a b q) ≤ j)) := by
    refine S_congr fun q hq => ?_
    show S (del V q) (fun a => S (del V q) (fun b => ind (a ≠ b ∧ lc g (del V q) a b ≤ j))) = _
    rw [S_if2]
    refine S_congr fun a _ => S_congr fun b _ => ?_
    rw [lc_del G.nd hq]
  rw [e1, S_comm]
  unfold DD
  rw [← S_mul, ← S_mul, ← S_add]
  refine S_congr fun a ha => ?_
  rw [S_comm, ← S_mul, ← S_mul, ← S_add]
  refine S_congr fun b hb => ?_
  by_cases hab : a = b
  · rw [ind_f (fun h => h.1 hab), ind_f (fun h => h.1 hab), S_zero' fun q _ => ?_]
    · omega
    · by_cases h : a = q ∨ b = q
      · rw [if_pos h]
      · rw [if_neg h, ind_f (fun h => h.1 hab)]
  · have hm : S V (fun q => ind (a = q ∨ b = q)) = 2 := by
      have e : S V (fun q => ind (a = q ∨ b = q)) = S V (fun q => ind (q = a)) + S V (fun q => ind (q = b)) := by
        rw [← S_add]
        refine S_congr fun q _ => ?_
        by_cases h1 : q = a
        · subst h1
          rw [ind_t (.inl rfl), ind_t rfl, ind_f hab]; rfl
        · by_cases h2 : q = b
          · subst h2
            rw [ind_t (.inr rfl), ind_f h1, ind_t rfl]; rfl
          · rw [ind_f (fun h => h.elim (fun e => h1 e.symm) fun e => h2 e.symm), ind_f h1, ind_f h2]; rfl
      rw [e, S_ind_eq G.nd ha, S_ind_eq G.nd hb]
      rfl
    have key := sum_gone (V := V) (p := fun d => 0 < g.t a b d) (e := fun q => a = q ∨ b = q) (F := fun k => ind (k ≤ j)) hm (fun q _ h => by
      have z : g.t a b q = 0 := by
        rcases h with h | h
        · rw [← h]; exact t_ab a b
        · rw [← h]; exact t_bb a b
      show ¬ 0 < g.t a b q
      rw [z]; omega)
    have e2 : S V (fun q => if a = q ∨ b = q then 0 else ind (a ≠ b ∧ lc g V a b - ind (0 < g.t a b q) ≤ j)) =
        S V (fun q => if a = q ∨ b = q then 0 else ind (S V (fun d => ind (0 < g.t a b d)) - ind (0 < g.t a b q) ≤ j)) := by
      refine S_congr fun q _ => ?_
      by_cases h : a = q ∨ b = q
      · rw [if_pos h, if_pos h]
      · rw [if_neg h, if_neg h]
        exact ind_iff ⟨fun x => x.2, fun x => ⟨hab, x⟩⟩
    rw [e2, key]
    have e3 : ∀ j, ind (a ≠ b ∧ lc g V a b ≤ j) = ind (lc g V a b ≤ j) := fun j => ind_iff ⟨fun x => x.2, fun x => ⟨hab, x⟩⟩
    rw [e3, e3]
    show lc g V a b * ind (lc g V a b - 1 ≤ j) + ((V.length : Int) - 2 - lc g V a b) * ind (lc g V a b ≤ j) = _
    have e5 : ind (lc g V a b - 1 ≤ j) = ind (lc g V a b ≤ j + 1) := ind_iff ⟨fun x => by omega, fun x => by omega⟩
    rw [e5]
    by_cases h1 : lc g V a b ≤ j
    · rw [ind_t h1, ind_t (by omega)]; omega
    · by_cases h2 : lc g V a b ≤ j + 1
      · rw [ind_f h1, ind_t h2, show lc g V a b = j + 1 by omega]; omega
      · rw [ind_f h1, ind_f h2]; omega
/-- the last entry: the upper net -/
theorem last (G : Good g V) (h : 3 ≤ V.length) : TT g V ((V.length : Int) - 3) + DD g V ((V.length : Int) - 3) = ((V.length : Int) - 2) * (V.length + 1) := by
  have h3 : ∀ p q, ∃ c, c ∈ V ∧ c ≠ p ∧ c ≠ q := fun p q => by
    by_cases e : ∃ c, c ∈ V ∧ c ≠ p ∧ c ≠ q
    · exact e
    · exfalso
      have z : S V (fun c => 1 - ind (c = p) - ind (c = q)) ≤ 0 := by
        have : 0 ≤ S V (fun c => ind (c = p) + ind (c = q) - 1) := S_nonneg fun c hc => by
          by_cases h1 : c = p
          · rw [ind_t h1]; have := ind_nonneg (p := c = q); omega
          · by_cases h2 : c = q
            · rw [ind_t h2]; have := ind_nonneg (p := c = p); omega
            · exact (e ⟨c, hc, h1, h2⟩).elim
        rw [S_sub, S_add] at this
        rw [S_sub, S_sub]
        omega
      have le1 : ∀ p, S V (fun c => ind (c = p)) ≤ 1 := fun p => by
        by_cases hp : p ∈ V
        · rw [S_ind_eq G.nd hp]; omega
        · rw [S_none (fun a ha (e : a = p) => hp (by rw [← e]; exact ha))]; omega
      have a1 := le1 p
      have a2 := le1 q
      rw [S_sub, S_sub, S_const] at z
      omega
  have E := euler G h3
  have e1 : TT g V ((V.length : Int) - 3) = S V (FF g V) := by
    unfold TT
    rw [S_comm]
    refine S_congr fun p hp => ?_
    refine S_congr fun l hl => ?_
    refine S_congr fun r hr => ?_
    by_cases hx : g.X l < g.X p ∧ g.X p < g.X r
    · have nab : l ≠ p := fun e => by rw [e] at hx; omega
      have nbc : p ≠ r := fun e => by rw [e] at hx; omega
      have nac : l ≠ r := fun e => by rw [e] at hx; omega
      have nn : ∀ d, d ∈ V → 0 ≤ 1 - ind (d = l) - ind (d = p) - ind (d = r) - ind (g.t l p r * g.w l p r d < 0) := fun d hd => by
        by_cases h1 : d = l
        · subst h1
          rw [ind_t rfl, ind_f nab, ind_f nac, ind_f (by rw [w_a]; omega)]; decide
        · by_cases h2 : d = p
          · subst h2
            rw [ind_f h1, ind_t rfl, ind_f nbc, ind_f (by rw [w_b]; omega)]; decide
          · by_cases h3 : d = r
            · subst h3
              rw [ind_f h1, ind_f h2, ind_t rfl, ind_f (by rw [w_c]; omega)]; decide
            · rw [ind_f h1, ind_f h2, ind_f h3]
              have := ind_le (p := g.t l p r * g.w l p r d < 0)
              omega
      have sm : S V (fun d => 1 - ind (d = l) - ind (d = p) - ind (d = r) - ind (g.t l p r * g.w l p r d < 0)) = (V.length : Int) - 3 - bc g V l p r := by
        rw [S_sub, S_sub, S_sub, S_sub, S_const, S_ind_eq G.nd hl, S_ind_eq G.nd hp, S_ind_eq G.nd hr]
        unfold bc
        omega
      refine ind_iff ⟨fun ⟨_, e⟩ => ⟨hx.1, hx.2, fun d hd d1 d2 d3 => ?_⟩, fun ⟨_, _, u⟩ => ⟨hx, ?_⟩⟩
      · have := S_zero_all nn (by omega) d hd
        rw [ind_f d1, ind_f d2, ind_f d3] at this
        by_cases k : g.t l p r * g.w l p r d < 0
        · exact k
        · rw [ind_f k] at this; omega
      · have z : S V (fun d => 1 - ind (d = l) - ind (d = p) - ind (d = r) - ind (g.t l p r * g.w l p r d < 0)) = 0 := S_zero' fun d hd => by
          by_cases h1 : d = l
          · subst h1
            rw [ind_t rfl, ind_f nab, ind_f nac, ind_f (by rw [w_a]; omega)]; decide
          · by_cases h2 : d = p
            · subst h2
              rw [ind_f h1, ind_t rfl, ind_f nbc, ind_f (by rw [w_b]; omega)]; decide
            · by_cases h3 : d = r
              · subst h3
                rw [ind_f h1, ind_f h2, ind_t rfl, ind_f (by rw [w_c]; omega)]; decide
              · rw [ind_f h1, ind_f h2, ind_f h3, ind_t (u d hd h1 h2 h3)]
                decide
        omega
    · rw [ind_f (fun h => hx h.1), ind_f (fun h => hx ⟨h.1, h.2.1⟩)]
  have e2 : S V (co g V) + DD g V ((V.length : Int) - 3) = (V.length : Int) * (V.length - 1) := by
    unfold DD
    rw [← S_add]
    have : ∀ a, a ∈ V → co g V a + S V (fun b => ind (a ≠ b ∧ lc g V a b ≤ (V.length : Int) - 3)) = V.length - 1 := fun a ha => by
      unfold co
      rw [← S_add]
      have e : (V.length : Int) - 1 = S V (fun b => 1 - ind (b = a)) := by
        rw [S_sub, S_const, S_ind_eq G.nd ha]; omega
      rw [e]
      refine S_congr fun b hb => ?_
      by_cases hab : b = a
      · rw [ind_f (fun h => h.1 hab), ind_f (fun h => h.1 hab.symm), ind_t hab]; rfl
      · rw [ind_f (p := b = a) hab]
        have hl := lc_le G ha hb (Ne.symm hab)
        have nn : ∀ c, c ∈ V → 0 ≤ 1 - ind (c = a) - ind (c = b) - ind (0 < g.t a b c) := fun c hc => by
          by_cases h1 : c = a
          · subst h1
            rw [ind_t rfl, ind_f (Ne.symm hab), ind_f (by rw [t_ab]; omega)]; decide
          · by_cases h2 : c = b
            · subst h2
              rw [ind_f h1, ind_t rfl, ind_f (by rw [t_bb]; omega)]; decide
            · rw [ind_f h1, ind_f h2]
              have := ind_le (p := 0 < g.t a b c)
              omega
        have sm : S V (fun c => 1 - ind (c = a) - ind (c = b) - ind (0 < g.t a b c)) = (V.length : Int) - 2 - lc g V a b := by
          rw [S_sub, S_sub, S_sub, S_const, S_ind_eq G.nd ha, S_ind_eq G.nd hb]
          unfold lc
          omega
        by_cases k : lc g V a b ≤ (V.length : Int) - 3
        · rw [ind_t (p := a ≠ b ∧ lc g V a b ≤ (V.length : Int) - 3) ⟨Ne.symm hab, k⟩, ind_f (fun h => ?_)]
          · decide
          · have z : S V (fun c => 1 - ind (c = a) - ind (c = b) - ind (0 < g.t a b c)) = 0 := S_zero' fun c hc => by
              by_cases h1 : c = a
              · subst h1
                rw [ind_t rfl, ind_f (Ne.symm hab), ind_f (by rw [t_ab]; omega)]; decide
              · by_cases h2 : c = b
                · subst h2
                  rw [ind_f h1, ind_t rfl, ind_f (by rw [t_bb]; omega)]; decide
                · have := h.2 c hc
                  have := G.h3 a ha b hb c hc (Ne.symm hab) (Ne.symm h1) (Ne.symm h2)
                  rw [ind_f h1, ind_f h2, ind_t (by omega)]
                  decide
            omega
        · have nr : noR g V a b := fun c hc tc => by
            have z : S V (fun c => 1 - ind (c = a) - ind (c = b) - ind (0 < g.t a b c)) = 0 := by omega
            have this := S_zero_all nn z c hc
            have c1 : c ≠ a := fun e => by rw [e, t_ab] at tc; omega
            have c2 : c ≠ b := fun e => by rw [e, t_bb] at tc; omega
            rw [ind_f c1, ind_f c2, ind_f (by omega)] at this
            omega
          rw [ind_f (p := a ≠ b ∧ lc g V a b ≤ (V.length : Int) - 3) (fun h => k h.2), ind_t (p := b ≠ a ∧ noR g V a b) ⟨hab, nr⟩]
          rfl
    rw [S_congr this, S_const]
  rw [e1, E]
  have : S V (co g V) + DD g V ((V.length : Int) - 3) - 2 = (V.length : Int) * (V.length - 1) - 2 := by rw [e2]
  have e4 : (V.length : Int) * (V.length - 1) - 2 = ((V.length : Int) - 2) * (V.length + 1) := by grind
  omega
/-- THE PLAIN LAW -/
theorem law_ : ∀ (n : Nat) (V : List Nat), Good g V → V.length = n + 3 → ∀ j : Nat, j ≤ n → TT g V j + DD g V j = ((j : Int) + 1) * (2 * V.length - 2 - j) := by
  intro n
  induction n with
  | zero =>
    intro V G hl j hj
    obtain rfl : j = 0 := by omega
    have e := last G (by omega)
    rw [hl] at e ⊢
    exact e
  | succ n ih =>
    intro V G hl j hj
    -- the difference
    have step : ∀ j : Nat, j ≤ n → ((V.length : Int) - 3 - j) * (TT g V j + DD g V j - ((j : Int) + 1) * (2 * V.length - 2 - j)) + ((j : Int) + 1) * (TT g V ((j : Int) + 1) + DD g V ((j : Int) + 1) - ((j : Int) + 2) * (2 * V.length - 3 - j)) = 0 := fun j hj => by
      have e1 := del_TT G j
      have e2 := del_DD G j
      have e3 : S V (fun q => TT g (del V q) j) + S V (fun q => DD g (del V q) j) = (V.length : Int) * (((j : Int) + 1) * (2 * (V.length - 1) - 2 - j)) := by
        rw [← S_add, ← S_const]
        refine S_congr fun q hq => ?_
        have hd := del_len G.nd hq
        have := ih (del V q) (G.del q) (by omega) j hj
        rw [this, hd]
      rw [e1, e2] at e3
      grind
    have down : ∀ k : Nat, k ≤ n + 1 → TT g V ((n + 1 - k : Nat) : Int) + DD g V ((n + 1 - k : Nat) : Int) - (((n + 1 - k : Nat) : Int) + 1) * (2 * V.length - 2 - ((n + 1 - k : Nat) : Int)) = 0 := by
      intro k
      induction k with
      | zero =>
        intro _
        have e := last G (by omega)
        have hl' : (V.length : Int) - 3 = ((n + 1 - 0 : Nat) : Int) := by omega
        rw [hl'] at e
        rw [e]
        have : (V.length : Int) = ((n + 1 - 0 : Nat) : Int) + 3 := by omega
        rw [this]
        grind
      | succ k ihk =>
        intro hk
        have e0 := ihk (by omega)
        have ej : ((n + 1 - k : Nat) : Int) = ((n + 1 - (k + 1) : Nat) : Int) + 1 := by omega
        have st := step (n + 1 - (k + 1)) (by omega)
        rw [ej] at e0
        have e0' : TT g V (((n + 1 - (k + 1) : Nat) : Int) + 1) + DD g V (((n + 1 - (k + 1) : Nat) : Int) + 1) - (((n + 1 - (k + 1) : Nat) : Int) + 2) * (2 * V.length - 3 - ((n + 1 - (k + 1) : Nat) : Int)) = 0 := by grind
        rw [e0', Int.mul_zero, Int.add_zero] at st
        rcases Int.mul_eq_zero.mp st with h | h
        · omega
        · exact h
    have := down (n + 1 - j) (by omega)
    have ej : n + 1 - (n + 1 - j) = j := by omega
    rw [ej] at this
    omega
end KB
end

section
set_option Elab.async false
set_option linter.all false
set_option maxRecDepth 100000
set_option maxHeartbeats 400000
/-! the inner point of four -/
namespace KB
open PySem PySem.Spec PyProof.Rows L2
theorem fst_form {ps : List (Int × Int)} {a b c d : Nat} (h1 : a < b) (h2 : b < c) (h3 : c < d) {A B C D : Int} (eA : sg (tn ps b c d) = A) (eB : - sg (tn ps a c d) = B) (eC : sg (tn ps a b d) = C) (eD : - sg (tn ps a b c) = D) :
    fstP ps (a, b, c, d) = a :: ((if B = A then [b] else []) ++ ((if C = A then [c] else []) ++ (if D = A then [d] else []))) ∧
    sndP ps (a, b, c, d) = (if B = A then [] else [b]) ++ ((if C = A then [] else [c]) ++ (if D = A then [] else [d])) := by
  have sa : sgn4 ps (a, b, c, d) a = A := by simp [sgn4, eA]
  have sb : sgn4 ps (a, b, c, d) b = B := by simp [sgn4, show ¬ b = a by omega, eB]
  have sc : sgn4 ps (a, b, c, d) c = C := by simp [sgn4, show ¬ c = a by omega, show ¬ c = b by omega, eC]
  have sd : sgn4 ps (a, b, c, d) d = D := by simp [sgn4, show ¬ d = a by omega, show ¬ d = b by omega, show ¬ d = c by omega, eD]
  unfold fstP sndP asL
  simp only [List.filterMap_cons, List.filterMap_nil, sa, sb, sc, sd, if_true]
  constructor
  · by_cases c1 : B = A <;> by_cases c2 : C = A <;> by_cases c3 : D = A <;> simp [c1, c2, c3]
  · by_cases c1 : B = A <;> by_cases c2 : C = A <;> by_cases c3 : D = A <;> simp [c1, c2, c3]
theorem sg_pm {x : Int} (h : x ≠ 0) : (x > 0 ∧ sg x = 1) ∨ (x < 0 ∧ sg x = -1) := by
  unfold sg
  by_cases c : x > 0
  · left
    rw [if_pos c]
    exact ⟨c, rfl⟩
  · right
    rw [if_neg c, if_pos (by omega)]
    exact ⟨by omega, rfl⟩
/-- x is the inner one of four -/
theorem inner_form {ps : List (Int × Int)} {a b c d : Nat} (h1 : a < b) (h2 : b < c) (h3 : c < d) (na : tn ps b c d ≠ 0) (nb : tn ps a c d ≠ 0) (nc : tn ps a b d ≠ 0) (nd : tn ps a b c ≠ 0) :
    (inner ps (a, b, c, d) = some a ↔ wthn ps b c d a = true) ∧ (inner ps (a, b, c, d) = some b ↔ wthn ps a c d b = true) ∧ (inner ps (a, b, c, d) = some c ↔ wthn ps a b d c = true) ∧ (inner ps (a, b, c, d) = some d ↔ wthn ps a b c d = true) := by
  have hs : tn ps b c d - tn ps a c d + tn ps a b d - tn ps a b c = 0 := by
    unfold tn ar
    grind
  have e1 : tn ps d b c = tn ps b c d := tn_rot2 ps b c d
  have e2 : tn ps a d c = - tn ps a c d := tn_sw ps a c d
  have e3 : tn ps c b d = - tn ps b c d := tn_sw2 ps b c d
  have e4 : tn ps b a d = - tn ps a b d := tn_sw2 ps a b d
  have e5 : tn ps a c b = - tn ps a b c := tn_sw ps a b c
  have e6 : tn ps b c a = tn ps a b c := tn_rot ps a b c
  unfold wthn inner
  rw [e1, e2, e3, e4, e5, e6]
  have F := fst_form (ps := ps) h1 h2 h3 rfl rfl rfl rfl
  rw [F.1, F.2]
  clear F e1 e2 e3 e4 e5 e6
  have d1 : ¬ b = a := by omega
  have d2 : ¬ c = a := by omega
  have d3 : ¬ d = a := by omega
  have d4 : ¬ c = b := by omega
  have d5 : ¬ d = b := by omega
  have d6 : ¬ d = c := by omega
  generalize tn ps b c d = A at *
  generalize tn ps a c d = B at *
  generalize tn ps a b d = C at *
  generalize tn ps a b c = D at *
  rcases sg_pm na with ⟨pa, ea⟩ | ⟨pa, ea⟩ <;> rcases sg_pm nb with ⟨pb, eb⟩ | ⟨pb, eb⟩ <;> rcases sg_pm nc with ⟨pc, ec⟩ | ⟨pc, ec⟩ <;> rcases sg_pm nd with ⟨pd, ed⟩ | ⟨pd, ed⟩ <;> rw [ea, eb, ec, ed] <;>
    first
      | (exfalso; omega)
      | (simp [one?, d1, d2, d3, d4, d5, d6, Ne.symm d1, Ne.symm d2, Ne.symm d3, Ne.symm d4, Ne.symm d5, Ne.symm d6]; omega)
end KB
end

section
set_option Elab.async false
set_option linter.all false
set_option maxRecDepth 100000
set_option maxHeartbeats 400000
/-! the first high pair: the program's and the law's -/
namespace KB
open PySem PySem.Spec PyProof.Rows L2
def iL (l : List Nat) : List Int := l.map fun y : Nat => (y : Int)
/-- y stands ahead of x -/
def ltP (y x : List Nat × Nat) : Prop := iL y.1 < iL x.1 ∨ (iL y.1 = iL x.1 ∧ y.2 < x.2)
theorem eqvAll_ints : ∀ l m : List Int, PyData.eqvAll (l.map .int) (m.map .int) = decide (l = m)
  | [], [] => rfl
  | [], _ :: _ => rfl
  | _ :: _, [] => rfl
  | a :: l, b :: m => by
    rw [List.map_cons, List.map_cons, PyData.eqvAll, eqvAll_ints l m]
    simp only [PyData.eqv]
    rw [Bool.eq_iff_iff]
    simp
theorem le_eq (x y : List Nat × Nat) : PySem.W.dataLe false encP x y = true ↔ ¬ ltP y x := by
  have e : PySem.W.dataLe false encP x y = !PySem.W.dataLt (encP y) (encP x) := rfl
  rw [e]
  unfold encP
  rw [PySem.W.dataLt_pair (by simp only [PySem.W.alike, PySem.W.alike_ints]) (by simp only [PySem.W.alike])]
  have e1 : PyData.eqv (.tuple ((y.1.map fun y : Nat => (y : Int)).map .int)) (.tuple ((x.1.map fun y : Nat => (y : Int)).map .int)) = decide (iL y.1 = iL x.1) := by
    show PyData.eqvAll _ _ = _
    exact eqvAll_ints _ _
  have e2 : PySem.W.dataLt (.tuple ((y.1.map fun y : Nat => (y : Int)).map .int)) (.tuple ((x.1.map fun y : Nat => (y : Int)).map .int)) = decide (iL y.1 < iL x.1) := PySem.W.dataLt_ints _ _
  have e3 : PySem.W.dataLt (.int (y.2 : Int)) (.int (x.2 : Int)) = decide ((y.2 : Int) < x.2) := by
    have := PySem.W.dataLe_int (fun i : Int => i)
    have := congrFun (congrFun this (x.2 : Int)) (y.2 : Int)
    have e4 : PySem.W.dataLe false (fun b : Int => PyData.int b) (x.2 : Int) (y.2 : Int) = !PySem.W.dataLt (.int (y.2 : Int)) (.int (x.2 : Int)) := rfl
    rw [e4] at this
    have h2 : PySem.W.dataLt (.int (y.2 : Int)) (.int (x.2 : Int)) = !decide ((x.2 : Int) ≤ y.2) := by rw [← this, Bool.not_not]
    rw [h2, Bool.eq_iff_iff]
    simp
  rw [e1, e2, e3]
  have e5 : PyData.eqv (.int (y.2 : Int)) (.int (x.2 : Int)) = decide (y.2 = x.2) := by
    simp only [PyData.eqv]
    rw [Bool.eq_iff_iff]
    simp only [beq_iff_eq, decide_eq_true_eq]
    omega
  rw [e5]
  unfold ltP
  by_cases c1 : iL y.1 = iL x.1
  · simp only [c1, decide_true, if_true, List.lt_irrefl, false_or, true_and]
    by_cases c2 : y.2 = x.2
    · simp [c2]
    · simp [c2]
  · simp [c1]
theorem lt_tri (a b : List Int) : a < b ∨ a = b ∨ b < a := by
  by_cases h1 : a < b
  · exact .inl h1
  · by_cases h2 : b < a
    · exact .inr (.inr h2)
    · exact .inr (.inl (List.le_antisymm (List.not_lt.mp h2) (List.not_lt.mp h1)))
theorem ltP_tri (x y : List Nat × Nat) : ltP x y ∨ (iL x.1 = iL y.1 ∧ x.2 = y.2) ∨ ltP y x := by
  unfold ltP
  rcases lt_tri (iL x.1) (iL y.1) with h | h | h
  · exact .inl (.inl h)
  · rcases Nat.lt_trichotomy x.2 y.2 with h2 | h2 | h2
    · exact .inl (.inr ⟨h, h2⟩)
    · exact .inr (.inl ⟨h, h2⟩)
    · exact .inr (.inr (.inr ⟨h.symm, h2⟩))
  · exact .inr (.inr (.inl h))
theorem ltP_irr (x : List Nat × Nat) : ¬ ltP x x := by
  unfold ltP
  rintro (h | ⟨_, h⟩)
  · exact List.lt_irrefl _ h
  · omega
theorem ltP_trans {x y z : List Nat × Nat} (h1 : ltP x y) (h2 : ltP y z) : ltP x z := by
  unfold ltP at *
  rcases h1 with h1 | ⟨e1, h1⟩ <;> rcases h2 with h2 | ⟨e2, h2⟩
  · exact .inl (List.lt_trans h1 h2)
  · exact .inl (by rw [← e2]; exact h1)
  · exact .inl (by rw [e1]; exact h2)
  · exact .inr ⟨e1.trans e2, by omega⟩
theorem iL_inj : ∀ {l m : List Nat}, iL l = iL m → l = m
  | [], [], _ => rfl
  | [], _ :: _, h => by cases h
  | _ :: _, [], h => by cases h
  | a :: l, b :: m, h => by
    unfold iL at h
    rw [List.map_cons, List.map_cons] at h
    injection h with h1 h2
    rw [iL_inj (l := l) (m := m) h2, Int.ofNat.inj h1]
theorem pairsS_pw (ps : List (Int × Int)) : (pairsS ps).Pairwise fun x y => ¬ ltP y x := by
  unfold pairsS
  have := List.pairwise_mergeSort (le := PySem.W.dataLe false encP) (fun a b c h1 h2 => ?_) (fun a b => ?_) (pairs0 ps)
  · exact this.imp fun h => (le_eq _ _).mp h
  · rw [le_eq] at *
    intro h
    rcases ltP_tri a b with h3 | ⟨h3, h4⟩ | h3
    · exact h2 (ltP_trans h h3)
    · unfold ltP at h h2
      rw [h3, h4] at h
      exact h2 h
    · exact h1 h3
  · rw [Bool.or_eq_true, le_eq, le_eq]
    rcases ltP_tri a b with h3 | ⟨h3, h4⟩ | h3
    · exact .inl fun h => ltP_irr _ (ltP_trans h h3)
    · refine .inl fun h => ?_
      unfold ltP at h
      rw [h3, h4] at h
      rcases h with h | ⟨_, h⟩
      · exact List.lt_irrefl _ h
      · omega
    · exact .inr fun h => ltP_irr _ (ltP_trans h h3)
end KB
end

section
set_option Elab.async false
set_option linter.all false
set_option maxRecDepth 100000
set_option maxHeartbeats 400000
/-! HighEq -/
namespace KB
open PySem PySem.Spec PyProof.Rows L2
theorem pair_of4 {ps : List (Int × Int)} {a b c d : Nat} (h1 : a < b) (h2 : b < c) (h3 : c < d) :
    (inner ps (a, b, c, d) = some a → pairOf ps (a, b, c, d) = some ([b, c, d], a)) ∧ (inner ps (a, b, c, d) = some b → pairOf ps (a, b, c, d) = some ([a, c, d], b)) ∧
    (inner ps (a, b, c, d) = some c → pairOf ps (a, b, c, d) = some ([a, b, d], c)) ∧ (inner ps (a, b, c, d) = some d → pairOf ps (a, b, c, d) = some ([a, b, c], d)) := by
  have d1 : ¬ b = a := by omega
  have d2 : ¬ c = a := by omega
  have d3 : ¬ d = a := by omega
  have d4 : ¬ c = b := by omega
  have d5 : ¬ d = b := by omega
  have d6 : ¬ d = c := by omega
  unfold pairOf
  refine ⟨fun e => ?_, fun e => ?_, fun e => ?_, fun e => ?_⟩ <;> rw [e] <;> simp [asL, d1, d2, d3, d4, d5, d6, Ne.symm d1, Ne.symm d2, Ne.symm d3, Ne.symm d4, Ne.symm d5, Ne.symm d6]
theorem pair_iff {ps : List (Int × Int)} (hf : flat? ps = none) {a b c d : Nat} (hab : a < b) (hbc : b < c) (hc : c < ps.length) (hd : d < ps.length) (da : d ≠ a) (db : d ≠ b) (dc : d ≠ c) :
    (∃ q ∈ fours ps.length, pairOf ps q = some ([a, b, c], d)) ↔ wthn ps a b c d = true := by
  constructor
  · rintro ⟨⟨p, q, r, s⟩, hq, e⟩
    obtain ⟨h1, h2, h3, h4⟩ := fours_up hq
    dsimp only at h1 h2 h3 h4
    have IF := inner_form (ps := ps) h1 h2 h3 (flat_ne hf (by omega) (by omega) (by omega) (by omega) (by omega) (by omega)) (flat_ne hf (by omega) (by omega) (by omega) (by omega) (by omega) (by omega)) (flat_ne hf (by omega) (by omega) (by omega) (by omega) (by omega) (by omega)) (flat_ne hf (by omega) (by omega) (by omega) (by omega) (by omega) (by omega))
    have PO := pair_of4 (ps := ps) h1 h2 h3
    cases hi : inner ps (p, q, r, s) with
    | none =>
      unfold pairOf at e
      rw [hi] at e
      cases e
    | some y =>
      have hm := inner_in hi
      simp only [asL, List.mem_cons, List.mem_nil_iff, or_false] at hm
      rcases hm with rfl | rfl | rfl | rfl
      · rw [PO.1 hi] at e
        cases e
        exact IF.1.mp hi
      · rw [PO.2.1 hi] at e
        cases e
        exact IF.2.1.mp hi
      · rw [PO.2.2.1 hi] at e
        cases e
        exact IF.2.2.1.mp hi
      · rw [PO.2.2.2 hi] at e
        cases e
        exact IF.2.2.2.mp hi
  · intro w
    have NE : ∀ {x y z : Nat}, x < ps.length → y < ps.length → z < ps.length → x ≠ y → x ≠ z → y ≠ z → tn ps x y z ≠ 0 := fun h1 h2 h3 h4 h5 h6 => flat_ne hf h1 h2 h3 h4 h5 h6
    by_cases e1 : c < d
    · have IF := inner_form (ps := ps) hab hbc e1 (NE (by omega) (by omega) (by omega) (by omega) (by omega) (by omega)) (NE (by omega) (by omega) (by omega) (by omega) (by omega) (by omega)) (NE (by omega) (by omega) (by omega) (by omega) (by omega) (by omega)) (NE (by omega) (by omega) (by omega) (by omega) (by omega) (by omega))
      exact ⟨_, fours_in hab hbc e1 hd, (pair_of4 hab hbc e1).2.2.2 (IF.2.2.2.mpr w)⟩
    · by_cases e2 : b < d
      · have e3 : d < c := by omega
        have IF := inner_form (ps := ps) hab e2 e3 (NE (by omega) (by omega) (by omega) (by omega) (by omega) (by omega)) (NE (by omega) (by omega) (by omega) (by omega) (by omega) (by omega)) (NE (by omega) (by omega) (by omega) (by omega) (by omega) (by omega)) (NE (by omega) (by omega) (by omega) (by omega) (by omega) (by omega))
        exact ⟨_, fours_in hab e2 e3 hc, (pair_of4 hab e2 e3).2.2.1 (IF.2.2.1.mpr w)⟩
      · by_cases e3 : a < d
        · have e4 : d < b := by omega
          have IF := inner_form (ps := ps) e3 e4 hbc (NE (by omega) (by omega) (by omega) (by omega) (by omega) (by omega)) (NE (by omega) (by omega) (by omega) (by omega) (by omega) (by omega)) (NE (by omega) (by omega) (by omega) (by omega) (by omega) (by omega)) (NE (by omega) (by omega) (by omega) (by omega) (by omega) (by omega))
          exact ⟨_, fours_in e3 e4 hbc hc, (pair_of4 e3 e4 hbc).2.1 (IF.2.1.mpr w)⟩
        · have e4 : d < a := by omega
          have IF := inner_form (ps := ps) e4 hab hbc (NE (by omega) (by omega) (by omega) (by omega) (by omega) (by omega)) (NE (by omega) (by omega) (by omega) (by omega) (by omega) (by omega)) (NE (by omega) (by omega) (by omega) (by omega) (by omega) (by omega)) (NE (by omega) (by omega) (by omega) (by omega) (by omega) (by omega))
          exact ⟨_, fours_in e4 hab hbc hc, (pair_of4 e4 hab hbc).1 (IF.1.mpr w)⟩
theorem mem_high {ps : List (Int × Int)} {hs : List Int} {x : List Nat × Nat} : x ∈ highL ps hs ↔ (∃ q ∈ fours ps.length, pairOf ps q = some x) ∧ ovP ps hs x = 1 := by
  unfold highL pairsS
  rw [List.mem_filterMap]
  constructor
  · rintro ⟨y, hy, e⟩
    split at e
    · cases e
      exact ⟨List.mem_filterMap.mp (List.mem_mergeSort.mp hy), by assumption⟩
    · cases e
  · rintro ⟨h1, h2⟩
    exact ⟨x, List.mem_mergeSort.mpr (List.mem_filterMap.mpr h1), if_pos h2⟩
theorem mem_hiL {ps : List (Int × Int)} {hs : List Int} {t : T3} {x : T3 × Nat} : x ∈ hiL ps hs t ↔ x.1 = t ∧ (x.2 < ps.length ∧ x.2 ≠ t.1 ∧ x.2 ≠ t.2.1 ∧ x.2 ≠ t.2.2) ∧ wthn ps t.1 t.2.1 t.2.2 x.2 = true ∧ 0 < sdv ps hs t.1 t.2.1 t.2.2 x.2 := by
  unfold hiL inn rest3
  constructor
  · intro h
    obtain ⟨d, hd, e⟩ := List.mem_filterMap.mp h
    obtain ⟨d2, hd2, e2⟩ := List.mem_filterMap.mp hd
    obtain ⟨d3, hd3, e3⟩ := List.mem_filterMap.mp hd2
    rw [List.mem_range] at hd3
    split at e3
    · cases e3
    · cases e3
      split at e2
      · cases e2
        split at e
        · cases e
          exact ⟨rfl, ⟨hd3, by omega, by omega, by omega⟩, by assumption, by assumption⟩
        · cases e
      · cases e2
  · rintro ⟨rfl, ⟨h1, h2, h3, h4⟩, h5, h6⟩
    refine List.mem_filterMap.mpr ⟨x.2, List.mem_filterMap.mpr ⟨x.2, List.mem_filterMap.mpr ⟨x.2, List.mem_range.mpr h1, if_neg (by omega)⟩, if_pos h5⟩, if_pos h6⟩
theorem sdv_ov {ps : List (Int × Int)} {hs : List Int} {a b c d : Nat} (ht : tn ps a b c ≠ 0) : 0 < sdv ps hs a b c d ↔ ov ps hs a b c d = 1 := by
  unfold sdv ov
  rcases sg_pm ht with ⟨h1, e1⟩ | ⟨h1, e1⟩
  · rw [if_neg (by omega), e1, Int.mul_one]
    unfold sg
    split <;> (try split) <;> omega
  · rw [if_pos h1, e1]
    unfold sg
    split <;> (try split) <;> omega
theorem law_mem {ps : List (Int × Int)} {hs : List Int} (hf : flat? ps = none) (x : List Nat × Nat) : x ∈ highL ps hs ↔ x ∈ ((threes ps.length).flatMap (hiL ps hs)).map fun y => (t3L y.1, y.2) := by
  rw [mem_high, List.mem_map]
  constructor
  · rintro ⟨⟨q, hq, e⟩, ho⟩
    obtain ⟨a, b, c, ex, hab, hbc, hc, hd, da, db, dc⟩ := pair_tri (fours_up hq) e
    obtain ⟨l, d⟩ := x
    dsimp only at ex hd da db dc
    subst ex
    refine ⟨((a, b, c), d), List.mem_flatMap.mpr ⟨(a, b, c), threes_in hab hbc hc, mem_hiL.mpr ⟨rfl, ⟨hd, da, db, dc⟩, (pair_iff hf hab hbc hc hd da db dc).mp ⟨q, hq, e⟩, ?_⟩⟩, rfl⟩
    exact (sdv_ov (a := a) (b := b) (c := c) (flat_ne hf (by omega) (by omega) hc (by omega) (by omega) (by omega))).mpr ho
  · rintro ⟨⟨⟨a, b, c⟩, d⟩, hm, rfl⟩
    obtain ⟨t, ht, hm⟩ := List.mem_flatMap.mp hm
    obtain ⟨e, ⟨hd, da, db, dc⟩, hw, hs'⟩ := mem_hiL.mp hm
    dsimp only at e
    subst e
    obtain ⟨hab, hbc, hc⟩ := threes_mem ht
    dsimp only at hab hbc hc hd da db dc hw hs'
    exact ⟨(pair_iff hf hab hbc hc hd da db dc).mpr hw, (sdv_ov (a := a) (b := b) (c := c) (flat_ne hf (by omega) (by omega) hc (by omega) (by omega) (by omega))).mp hs'⟩
theorem head_same {l m : List (List Nat × Nat)} (h1 : l.Pairwise fun x y => ¬ ltP y x) (h2 : m.Pairwise fun x y => ¬ ltP y x) (hm : ∀ x, x ∈ l ↔ x ∈ m) : l.head? = m.head? := by
  cases l with
  | nil =>
    cases m with
    | nil => rfl
    | cons y m => exact absurd ((hm y).mpr List.mem_cons_self) (by simp)
  | cons x l =>
    cases m with
    | nil => exact absurd ((hm x).mp List.mem_cons_self) (by simp)
    | cons y m =>
      rw [List.pairwise_cons] at h1 h2
      have a1 : ¬ ltP y x := by
        rcases List.mem_cons.mp ((hm y).mpr List.mem_cons_self) with e | h
        · rw [e]
          exact ltP_irr _
        · exact h1.1 y h
      have a2 : ¬ ltP x y := by
        rcases List.mem_cons.mp ((hm x).mp List.mem_cons_self) with e | h
        · rw [e]
          exact ltP_irr _
        · exact h2.1 x h
      rcases ltP_tri x y with h | ⟨e1, e2⟩ | h
      · exact absurd h a2
      · show some x = some y
        rw [Prod.ext (iL_inj e1) e2]
      · exact absurd h a1
theorem lt3_L {s t : T3} (h : lt3 s t) : iL (t3L s) < iL (t3L t) := by
  obtain ⟨a, b, c⟩ := s
  obtain ⟨a', b', c'⟩ := t
  unfold lt3 at h
  dsimp only at h
  show [(a : Int), b, c] < [(a' : Int), b', c']
  simp only [List.cons_lt_cons_iff]
  omega
theorem fm_sorted {l : List Nat} {f : Nat → Option Nat} (h : l.Pairwise (· < ·)) (hf : ∀ x y, f x = some y → y = x) : (l.filterMap f).Pairwise (· < ·) := by
  rw [List.pairwise_filterMap]
  refine h.imp fun {x y} hxy s hs t ht => ?_
  rw [hf _ _ hs, hf _ _ ht]
  exact hxy
theorem high_eq : HighEq := by
  intro ps hs ok hf hlv hlen
  have e : (lawHigh ps hs).map (fun x => (t3L x.1, x.2)) = (((threes ps.length).flatMap (hiL ps hs)).map fun y => (t3L y.1, y.2)).head? := by
    unfold lawHigh
    rw [List.head?_map]
  rw [e]
  refine head_same ?_ ?_ (law_mem hf)
  · unfold highL
    rw [List.pairwise_filterMap]
    refine (pairsS_pw ps).imp fun {x y} h s hs' t ht => ?_
    split at hs' <;> split at ht
    · cases hs'
      cases ht
      exact h
    · cases ht
    · cases hs'
    · cases hs'
  · rw [List.pairwise_map, List.pairwise_flatMap]
    refine ⟨fun t ht => ?_, (threes_lt ps.length).imp fun {s t} hst x hx y hy h => ?_⟩
    · unfold hiL
      rw [List.pairwise_filterMap]
      have p : (inn ps t).Pairwise (· < ·) := fm_sorted (fm_sorted (pw_range _ fun i j h _ => h) fun x y e => by
        split at e
        · cases e
        · cases e
          rfl) fun x y e => by
        split at e
        · cases e
          rfl
        · cases e
      refine p.imp fun {i j} hij s hs' t' ht' h => ?_
      split at hs' <;> split at ht'
      · cases hs'
        cases ht'
        unfold ltP at h
        dsimp only at h
        rcases h with h | ⟨_, h⟩
        · exact List.lt_irrefl _ h
        · omega
      · cases ht'
      · cases hs'
      · cases hs'
    · have e1 := (mem_hiL.mp hx).1
      have e2 := (mem_hiL.mp hy).1
      unfold ltP at h
      dsimp only at h
      rw [e1, e2] at h
      have := lt3_L hst
      rcases h with h | ⟨h, _⟩
      · exact List.lt_irrefl _ (List.lt_trans h this)
      · rw [h] at this
        exact List.lt_irrefl _ this
end KB
end

section
set_option Elab.async false
set_option linter.all false
set_option maxRecDepth 100000
set_option maxHeartbeats 400000
/-! the plain law's premises -/
namespace KB
open PySem PySem.Spec PyProof.Rows L2
def cf (ps : List (Int × Int)) (hs : List Int) : Cfg := ⟨cx ps, cy ps, hz hs, 4000001⟩
theorem cf_t (ps : List (Int × Int)) (hs : List Int) (a b c : Nat) : (cf ps hs).t a b c = tn ps a b c := rfl
theorem cf_w (ps : List (Int × Int)) (hs : List Int) (a b c d : Nat) : (cf ps hs).w a b c d = vol ps hs a b c d := rfl
section
variable {ps : List (Int × Int)} {hs : List Int}
theorem vol_up (hl : level? ps hs = none) {a b c d : Nat} (h1 : a < b) (h2 : b < c) (h3 : c < d) (h4 : d < ps.length) : vol ps hs a b c d ≠ 0 := by
  have := List.find?_eq_none.mp hl _ (fours_in h1 h2 h3 h4)
  simpa using this
theorem vol_sw2 (a b c d : Nat) : vol ps hs a c b d = - vol ps hs a b c d := Cfg.w_sw2 (g := cf ps hs) a b c d
theorem vol_sw1 (a b c d : Nat) : vol ps hs b a c d = - vol ps hs a b c d := Cfg.w_sw1 (g := cf ps hs) a b c d
theorem vol_u3 (hl : level? ps hs = none) {a b c d : Nat} (h1 : a < b) (h2 : b < c) (h3 : c < ps.length) (h4 : d < ps.length) (da : d ≠ a) (db : d ≠ b) (dc : d ≠ c) : vol ps hs a b c d ≠ 0 := by
  by_cases e1 : c < d
  · exact vol_up hl h1 h2 e1 h4
  · by_cases e2 : b < d
    · have := vol_up hl h1 e2 (show d < c by omega) h3
      rw [vol_1] at this
      omega
    · by_cases e3 : a < d
      · have := vol_up hl e3 (show d < b by omega) h2 h3
        rw [vol_sw2, vol_1] at this
        omega
      · have := vol_up hl (show d < a by omega) h1 h2 h3
        rw [vol_sw1, vol_sw2, vol_1] at this
        omega
theorem vol_ne (hl : level? ps hs = none) {a b c d : Nat} (ha : a < ps.length) (hb : b < ps.length) (hc : c < ps.length) (hd : d < ps.length) (hab : a ≠ b) (hac : a ≠ c) (hbc : b ≠ c) (had : a ≠ d) (hbd : b ≠ d) (hcd : c ≠ d) : vol ps hs a b c d ≠ 0 := by
  have key : ∀ {a b c : Nat}, a < ps.length → b < ps.length → c < ps.length → a < b → b ≠ c → a ≠ c → a ≠ d → b ≠ d → c ≠ d → vol ps hs a b c d ≠ 0 := by
    intro a b c ha hb hc hab hbc hac had hbd hcd
    by_cases e1 : b < c
    · exact vol_u3 hl hab e1 hc hd (Ne.symm had) (Ne.symm hbd) (Ne.symm hcd)
    · by_cases e2 : a < c
      · have := vol_u3 hl e2 (show c < b by omega) hb hd (Ne.symm had) (Ne.symm hcd) (Ne.symm hbd)
        rw [vol_sw2] at this
        omega
      · have := vol_u3 hl (show c < a by omega) hab hb hd (Ne.symm hcd) (Ne.symm had) (Ne.symm hbd)
        rw [vol_sw1, vol_sw2] at this
        omega
  by_cases e : a < b
  · exact key ha hb hc e hbc hac had hbd hcd
  · have := key hb ha hc (show b < a by omega) hac hbc hbd had hcd
    rw [vol_sw1] at this
    omega
theorem no_high (hh : (highL ps hs).head? = none) : ∀ x, x ∉ highL ps hs := by
  cases e : highL ps hs with
  | nil => intro x h; cases h
  | cons y l => rw [e] at hh; cases hh
/-- a point within a sorted triangle lies below -/
theorem below3 (hf : flat? ps = none) (hl : level? ps hs = none) (hh : (highL ps hs).head? = none) {a b c p : Nat} (h1 : a < b) (h2 : b < c) (h3 : c < ps.length) (hp : p < ps.length) (pa : p ≠ a) (pb : p ≠ b) (pc : p ≠ c) (hw : wthn ps a b c p = true) :
    vol ps hs a b c p * tn ps a b c < 0 := by
  have hx := no_high hh ([a, b, c], p)
  rw [mem_high] at hx
  have hm := (pair_iff hf h1 h2 h3 hp pa pb pc).mpr hw
  have ho : ov ps hs a b c p ≠ 1 := fun e => hx ⟨hm, e⟩
  have n1 := vol_u3 hl h1 h2 h3 hp pa pb pc
  have n2 : tn ps a b c ≠ 0 := flat_ne hf (by omega) (by omega) h3 (by omega) (by omega) (by omega)
  unfold ov at ho
  rcases sg_pm n1 with ⟨p1, e1⟩ | ⟨p1, e1⟩ <;> rcases sg_pm n2 with ⟨p2, e2⟩ | ⟨p2, e2⟩ <;> rw [e1, e2] at ho
  · exact absurd rfl ho
  · exact Int.mul_neg_of_pos_of_neg p1 p2
  · exact Int.mul_neg_of_neg_of_pos p1 p2
  · exact absurd rfl ho
theorem tn_aa3 (a b : Nat) : tn ps a a b = 0 := by
  unfold tn ar
  grind
theorem bw_ (hf : flat? ps = none) (hl : level? ps hs = none) (hh : (highL ps hs).head? = none) {a b c p : Nat} (ha : a < ps.length) (hb : b < ps.length) (hc : c < ps.length) (hp : p < ps.length) (t1 : 0 < tn ps p a b) (t2 : 0 < tn ps p b c) (t3 : 0 < tn ps p c a) : vol ps hs a b c p < 0 := by
  have sum : tn ps a b c = tn ps p a b + tn ps p b c + tn ps p c a := by
    unfold tn ar
    grind
  have ne : ∀ {x y z : Nat}, 0 < tn ps x y z → x ≠ y ∧ y ≠ z ∧ x ≠ z := fun {x y z} h => by
    refine ⟨fun e => ?_, fun e => ?_, fun e => ?_⟩ <;> subst e
    · rw [tn_aa3] at h
      omega
    · rw [(tn_aab ps _ _).2] at h
      omega
    · rw [(tn_aab ps _ _).1] at h
      omega
  obtain ⟨n1, n2, n3⟩ := ne t1
  obtain ⟨n4, n5, n6⟩ := ne t2
  obtain ⟨n7, n8, n9⟩ := ne t3
  have key : ∀ {x y z : Nat}, x < y → y < z → z < ps.length → p ≠ x → p ≠ y → p ≠ z → ((0 < tn ps p x y ∧ 0 < tn ps p y z ∧ 0 < tn ps p z x) ∨ (tn ps p x y < 0 ∧ tn ps p y z < 0 ∧ tn ps p z x < 0)) → vol ps hs x y z p * tn ps x y z < 0 := by
    intro x y z h1 h2 h3 px py pz hc
    refine below3 hf hl hh h1 h2 h3 hp px py pz ?_
    have e1 : tn ps p y z = tn ps p y z := rfl
    have e2 : tn ps x p z = tn ps p z x := tn_rot ps x p z ▸ rfl
    have e3 : tn ps x y p = tn ps p x y := (tn_rot2 ps x y p).symm
    unfold wthn
    rw [e2, e3]
    rcases hc with ⟨c1, c2, c3⟩ | ⟨c1, c2, c3⟩
    · simp [c1, c2, c3]
    · simp [show ¬ 0 < tn ps p x y by omega, show ¬ 0 < tn ps p y z by omega, show ¬ 0 < tn ps p z x by omega]
  have pos : 0 < tn ps a b c := by omega
  have fin : vol ps hs a b c p * tn ps a b c < 0 → vol ps hs a b c p < 0 := fun h => by
    rcases Int.lt_trichotomy (vol ps hs a b c p) 0 with h1 | h1 | h1
    · exact h1
    · rw [h1, Int.zero_mul] at h
      omega
    · exact absurd (Int.mul_pos h1 pos) (by omega)
  have x1 : tn ps p b a = - tn ps p a b := tn_sw ps p a b
  have x2 : tn ps p c b = - tn ps p b c := tn_sw ps p b c
  have x3 : tn ps p a c = - tn ps p c a := tn_sw ps p c a
  refine fin ?_
  by_cases c1 : a < b
  · by_cases c2 : b < c
    · exact key c1 c2 hc n1 (by omega) (by omega) (.inl ⟨t1, t2, t3⟩)
    · by_cases c3 : a < c
      · have := key c3 (show c < b by omega) hb n1 (by omega) (by omega) (.inr ⟨by omega, by omega, by omega⟩)
        rw [vol_sw2, tn_sw, Int.neg_mul_neg] at this
        exact this
      · have := key (show c < a by omega) c1 hb (by omega) n1 (by omega) (.inl ⟨t3, t1, t2⟩)
        rw [vol_sw1, vol_sw2, Int.neg_neg, tn_rot2] at this
        exact this
  · by_cases c2 : a < c
    · have := key (show b < a by omega) c2 hc (by omega) n1 (by omega) (.inr ⟨by omega, by omega, by omega⟩)
      rw [vol_sw1, tn_sw2, Int.neg_mul_neg] at this
      exact this
    · by_cases c3 : b < c
      · have := key c3 (show c < a by omega) ha (by omega) (by omega) n1 (.inl ⟨t2, t3, t1⟩)
        rw [vol_sw2, vol_sw1, Int.neg_neg, tn_rot] at this
        exact this
      · have := key (show c < b by omega) (show b < a by omega) ha (by omega) (by omega) n1 (.inr ⟨by omega, by omega, by omega⟩)
        rw [vol_sw1, vol_sw2, vol_sw1, tn_sw1, Int.neg_neg, Int.neg_mul_neg] at this
        exact this
theorem good_ (ok : PtsOk ps) (hf : flat? ps = none) (hl : level? ps hs = none) (hh : (highL ps hs).head? = none) : Good (cf ps hs) (List.range ps.length) where
  nd := List.nodup_range
  h3 := fun a ha b hb c hc h1 h2 h3 => flat_ne hf (List.mem_range.mp ha) (List.mem_range.mp hb) (List.mem_range.mp hc) h1 h2 h3
  h4 := fun a ha b hb c hc d hd h1 h2 h3 h4 h5 h6 => vol_ne hl (List.mem_range.mp ha) (List.mem_range.mp hb) (List.mem_range.mp hc) (List.mem_range.mp hd) h1 h2 h3 h4 h5 h6
  bw := fun a ha b hb c hc p hp t1 t2 t3 => bw_ hf hl hh (List.mem_range.mp ha) (List.mem_range.mp hb) (List.mem_range.mp hc) (List.mem_range.mp hp) t1 t2 t3
  hX := fun a ha b hb hab e => by
    have ha := List.mem_range.mp ha
    have hb := List.mem_range.mp hb
    have e : 4000001 * cx ps a - cy ps a = 4000001 * cx ps b - cy ps b := e
    have ba : InB (-1000000) 1000000 ps := ok.bd
    have b1 := ba.at_ ha
    have b2 := ba.at_ hb
    exact pts_ne hf ok.lo ha hb hab ⟨by omega, by omega⟩
end
end KB
end

section
set_option Elab.async false
set_option linter.all false
set_option maxRecDepth 100000
set_option maxHeartbeats 400000
/-! sums over lists that are made; sums over triples in two orders -/
namespace KB
open PySem PySem.Spec PyProof.Rows L2
section
variable {α β : Type}
theorem S_app (l m : List α) (f : α → Int) : S (l ++ m) f = S l f + S m f := by
  induction l with
  | nil =>
    show S m f = 0 + S m f
    omega
  | cons a l ih =>
    show f a + S (l ++ m) f = f a + S l f + S m f
    rw [ih]
    omega
theorem S_flat (F : α → List β) (l : List α) (f : β → Int) : S (l.flatMap F) f = S l fun a => S (F a) f := by
  induction l with
  | nil => rfl
  | cons a l ih =>
    rw [List.flatMap_cons, S_app, ih]
    rfl
theorem S_map_ (h : α → β) (l : List α) (f : β → Int) : S (l.map h) f = S l fun a => f (h a) := by
  induction l with
  | nil => rfl
  | cons a l ih =>
    show f (h a) + S (l.map h) f = f (h a) + S l fun a => f (h a)
    rw [ih]
theorem S_fm (F : α → Option β) (l : List α) (f : β → Int) : S (l.filterMap F) f = S l fun a => match F a with | none => 0 | some y => f y := by
  induction l with
  | nil => rfl
  | cons a l ih =>
    rw [List.filterMap_cons]
    show _ = (match F a with | none => 0 | some y => f y) + S l fun a => match F a with | none => 0 | some y => f y
    rw [← ih]
    cases F a with
    | none =>
      show S (l.filterMap F) f = 0 + S (l.filterMap F) f
      omega
    | some y => rfl
theorem S_len (l : List α) : S l (fun _ => 1) = (l.length : Int) := by
  rw [S_const]
  omega
theorem S_sum : ∀ l : List Int, l.sum = S l fun x => x
  | [] => rfl
  | a :: l => by
    rw [List.sum_cons, S_sum l]
    rfl
theorem len_fm (p : α → Prop) [DecidablePred p] (h : α → β) (l : List α) : ((l.filterMap fun x => if p x then some (h x) else none).length : Int) = S l fun x => ind (p x) := by
  rw [← S_len, S_fm]
  refine S_congr fun a _ => ?_
  by_cases c : p a
  · rw [if_pos c, ind_t c]
  · rw [if_neg c, ind_f c]
end
theorem S_shift (n a : Nat) (f : Nat → Int) : S (List.range (n - (a + 1))) (fun k => f (a + 1 + k)) = S (List.range n) fun b => if a < b then f b else 0 := by
  by_cases h : a + 1 ≤ n
  · have e : List.range n = List.range (a + 1) ++ (List.range (n - (a + 1))).map (a + 1 + ·) := by
      have := List.range_add (n := a + 1) (m := n - (a + 1))
      rw [show a + 1 + (n - (a + 1)) = n by omega] at this
      exact this
    rw [e, S_app, S_map_, S_zero' (V := List.range (a + 1)) fun b hb => if_neg (by have := List.mem_range.mp hb; omega)]
    have : ∀ x : Int, 0 + x = x := fun x => by omega
    rw [this]
    refine S_congr fun k _ => ?_
    rw [if_pos (by omega)]
  · rw [show n - (a + 1) = 0 by omega]
    symm
    refine S_zero' fun b hb => if_neg (by have := List.mem_range.mp hb; omega)
theorem S_threes (n : Nat) (F : Nat → Nat → Nat → Int) : S (threes n) (fun t => F t.1 t.2.1 t.2.2) = S (List.range n) fun a => S (List.range n) fun b => S (List.range n) fun c => if a < b ∧ b < c then F a b c else 0 := by
  unfold threes
  rw [S_flat]
  refine S_congr fun a _ => ?_
  unfold t3b
  rw [S_flat, S_shift n a (fun b => S (t3c n a b) fun t => F t.1 t.2.1 t.2.2)]
  refine S_congr fun b _ => ?_
  by_cases h : a < b
  · rw [if_pos h]
    unfold t3c
    rw [S_map_, S_shift n b (fun c => F a b c)]
    refine S_congr fun c _ => ?_
    by_cases h2 : b < c
    · rw [if_pos h2, if_pos ⟨h, h2⟩]
    · rw [if_neg h2, if_neg (fun z => h2 z.2)]
  · rw [if_neg h]
    symm
    exact S_zero' fun c _ => if_neg fun z => h z.1
section
variable (V : List Nat) (F : Nat → Nat → Nat → Int)
def Tr (r : Nat → Nat → Prop) [DecidableRel r] : Int := S V fun a => S V fun b => S V fun c => if r a b ∧ r b c then F a b c else 0
def Di : Int := S V fun a => S V fun b => S V fun c => if a ≠ b ∧ a ≠ c ∧ b ≠ c then F a b c else 0
theorem six (r : Nat → Nat → Prop) [DecidableRel r] (irr : ∀ a, ¬ r a a) (tr : ∀ a b c, r a b → r b c → r a c) (tot : ∀ a ∈ V, ∀ b ∈ V, a ≠ b → r a b ∨ r b a)
    (s1 : ∀ a b c, F b a c = F a b c) (s2 : ∀ a b c, F a c b = F a b c) : Di V F = 6 * Tr V F r := by
  have e1 : ∀ a ∈ V, ∀ b ∈ V, ∀ c ∈ V, (if a ≠ b ∧ a ≠ c ∧ b ≠ c then F a b c else 0) = (if r a b ∧ r b c then F a b c else 0) + (if r a c ∧ r c b then F a c b else 0) + (if r b a ∧ r a c then F b a c else 0) +
      (if r b c ∧ r c a then F b c a else 0) + (if r c a ∧ r a b then F c a b else 0) + (if r c b ∧ r b a then F c b a else 0) := by
    intro a ha b hb c hc
    have f2 : F a c b = F a b c := s2 a b c
    have f3 : F b a c = F a b c := s1 a b c
    have f4 : F b c a = F a b c := (s2 b a c).trans f3
    have f5 : F c a b = F a b c := (s1 a c b).trans f2
    have f6 : F c b a = F a b c := (s1 b c a).trans f4
    rw [f2, f3, f4, f5, f6]
    have na : ∀ x y, r x y → ¬ r y x := fun x y h1 h2 => irr x (tr x y x h1 h2)
    by_cases h1 : a = b
    · subst h1
      have z := irr a
      simp only [ne_eq, not_true_eq_false, false_and, if_false, z, and_false]
      by_cases q : r a c
      · have := na a c q
        simp [q, this]
      · simp [q]
    · by_cases h2 : a = c
      · subst h2
        have z := irr a
        by_cases q : r a b
        · have := na a b q
          simp [z, q, this]
        · simp [z, q]
      · by_cases h3 : b = c
        · subst h3
          have z := irr b
          by_cases q : r a b
          · have := na a b q
            simp [z, q, this]
          · simp [z, q]
        · rw [if_pos ⟨h1, h2, h3⟩]
          rcases tot a ha b hb h1 with p | p <;> rcases tot a ha c hc h2 with q | q <;> rcases tot b hb c hc h3 with w | w
          · simp [p, q, w, na _ _ p, na _ _ q, na _ _ w]
          · simp [p, q, w, na _ _ p, na _ _ q, na _ _ w]
          · exact absurd (tr _ _ _ p w) (na _ _ q)
          · simp [p, q, w, na _ _ p, na _ _ q, na _ _ w]
          · simp [p, q, w, na _ _ p, na _ _ q, na _ _ w]
          · exact absurd (tr _ _ _ p q) (na _ _ w)
          · simp [p, q, w, na _ _ p, na _ _ q, na _ _ w]
          · simp [p, q, w, na _ _ p, na _ _ q, na _ _ w]
  have c2 : (S V fun a => S V fun b => S V fun c => if r a c ∧ r c b then F a c b else 0) = Tr V F r := S_congr fun a _ => S_comm V V _
  have c3 : (S V fun a => S V fun b => S V fun c => if r b a ∧ r a c then F b a c else 0) = Tr V F r := S_comm V V _
  have c4 : (S V fun a => S V fun b => S V fun c => if r b c ∧ r c a then F b c a else 0) = Tr V F r := by
    rw [S_comm V V]
    exact S_congr fun b _ => S_comm V V _
  have c5 : (S V fun a => S V fun b => S V fun c => if r c a ∧ r a b then F c a b else 0) = Tr V F r := by
    have : (S V fun a => S V fun b => S V fun c => if r c a ∧ r a b then F c a b else 0) = S V fun a => S V fun c => S V fun b => if r c a ∧ r a b then F c a b else 0 := S_congr fun a _ => S_comm V V _
    rw [this, S_comm V V]
    rfl
  have c6 : (S V fun a => S V fun b => S V fun c => if r c b ∧ r b a then F c b a else 0) = Tr V F r := by
    have : (S V fun a => S V fun b => S V fun c => if r c b ∧ r b a then F c b a else 0) = S V fun a => S V fun c => S V fun b => if r c b ∧ r b a then F c b a else 0 := S_congr fun a _ => S_comm V V _
    rw [this, S_comm V V]
    exact S_congr fun c _ => S_comm V V _
  have d1 : Di V F = S V fun a => S V fun b => S V fun c => (if r a b ∧ r b c then F a b c else 0) + (if r a c ∧ r c b then F a c b else 0) + (if r b a ∧ r a c then F b a c else 0) +
      (if r b c ∧ r c a then F b c a else 0) + (if r c a ∧ r a b then F c a b else 0) + (if r c b ∧ r b a then F c b a else 0) := S_congr fun a ha => S_congr fun b hb => S_congr fun c hc => e1 a ha b hb c hc
  simp only [S_add] at d1
  rw [c2, c3, c4, c5, c6] at d1
  have d2 : (S V fun a => S V fun b => S V fun c => if r a b ∧ r b c then F a b c else 0) = Tr V F r := rfl
  rw [d2] at d1
  omega
end
end KB
end

section
set_option Elab.async false
set_option linter.all false
set_option maxRecDepth 100000
set_option maxHeartbeats 400000
/-! PlainLaw -/
namespace KB
open PySem PySem.Spec PyProof.Rows L2
section
variable {ps : List (Int × Int)} {hs : List Int}
theorem lc_left (a b : Nat) : lc (cf ps hs) (List.range ps.length) a b = ((leftL ps a b).length : Int) := by
  rw [leftL_eq]
  exact (len_fm (fun c => 0 < tn ps a b c) (fun c => c) _).symm
theorem vol_abx (a b c : Nat) : vol ps hs a b c a = 0 ∧ vol ps hs a b c b = 0 ∧ vol ps hs a b c c = 0 := ⟨Cfg.w_a (g := cf ps hs) a b c, Cfg.w_b (g := cf ps hs) a b c, Cfg.w_c (g := cf ps hs) a b c⟩
theorem ov_neg {a b c d : Nat} : ov ps hs a b c d = -1 ↔ tn ps a b c * vol ps hs a b c d < 0 := by
  unfold ov
  rcases Int.lt_trichotomy (vol ps hs a b c d) 0 with h1 | h1 | h1 <;> rcases Int.lt_trichotomy (tn ps a b c) 0 with h2 | h2 | h2
  · have := Int.mul_pos_of_neg_of_neg h2 h1
    simp [sg, show ¬ vol ps hs a b c d > 0 by omega, h1, show ¬ tn ps a b c > 0 by omega, h2]
    omega
  · rw [h2]
    simp [sg]
  · have := Int.mul_neg_of_pos_of_neg h2 h1
    simp [sg, show ¬ vol ps hs a b c d > 0 by omega, h1, h2, this]
  · rw [h1]
    simp [sg]
  · rw [h1]
    simp [sg]
  · rw [h1]
    simp [sg]
  · have := Int.mul_neg_of_neg_of_pos h2 h1
    simp [sg, h1, show ¬ tn ps a b c > 0 by omega, h2, this]
  · rw [h2]
    simp [sg]
  · have := Int.mul_pos h2 h1
    simp [sg, h1, h2]
    omega
theorem bc_bey (a b c : Nat) : bc (cf ps hs) (List.range ps.length) a b c = ((beyL ps hs (a, b, c) (-1)).length : Int) := by
  unfold beyL rest3
  rw [List.filterMap_filterMap, ← S_len, S_fm]
  refine S_congr fun d _ => ?_
  show ind (tn ps a b c * vol ps hs a b c d < 0) = _
  dsimp only
  by_cases h : d = a ∨ d = b ∨ d = c
  · rw [if_pos h]
    have z : vol ps hs a b c d = 0 := by
      rcases h with rfl | rfl | rfl
      · exact (vol_abx _ _ _).1
      · exact (vol_abx _ _ _).2.1
      · exact (vol_abx _ _ _).2.2
    rw [z, ind_f (by omega)]
    rfl
  · rw [if_neg h]
    dsimp only [Option.bind]
    by_cases h2 : ov ps hs a b c d = -1
    · rw [if_pos h2, ind_t (ov_neg.mp h2)]
    · rw [if_neg h2, ind_f (fun z => h2 (ov_neg.mpr z))]
theorem bc_s1 (a b c : Nat) : bc (cf ps hs) (List.range ps.length) b a c = bc (cf ps hs) (List.range ps.length) a b c := S_congr fun d _ => by
  rw [Cfg.t_sw1, Cfg.w_sw1, Int.neg_mul_neg]
theorem bc_s2 (a b c : Nat) : bc (cf ps hs) (List.range ps.length) a c b = bc (cf ps hs) (List.range ps.length) a b c := S_congr fun d _ => by
  rw [Cfg.t_sw, Cfg.w_sw2, Int.neg_mul_neg]
theorem TT_row (ok : PtsOk ps) (hf : flat? ps = none) (hX : ∀ a, a ∈ List.range ps.length → ∀ b, b ∈ List.range ps.length → a ≠ b → (cf ps hs).X a ≠ (cf ps hs).X b) {j : Nat} (hj : j < ps.length - 2) : (rowOf ps hs).getD j 0 = TT (cf ps hs) (List.range ps.length) j := by
  have e1 : (rowOf ps hs).getD j 0 = S (threes ps.length) fun t => ind (bc (cf ps hs) (List.range ps.length) t.1 t.2.1 t.2.2 = (j : Int)) := by
    unfold rowOf tal
    rw [List.getD_eq_getElem?_getD, List.getElem?_map, List.getElem?_range hj]
    show (((((threes ps.length).map fun t => (((beyL ps hs t (-1)).length : Nat) : Int)).filterMap fun v => if v = (j : Int) then some v else none).length : Nat) : Int) = _
    rw [len_fm (fun v : Int => v = (j : Int)) (fun v => v), S_map_]
    refine S_congr fun t _ => ?_
    obtain ⟨a, b, c⟩ := t
    rw [bc_bey]
  have e2 : (S (threes ps.length) fun t => ind (bc (cf ps hs) (List.range ps.length) t.1 t.2.1 t.2.2 = (j : Int))) = Tr (List.range ps.length) (fun a b c => ind (bc (cf ps hs) (List.range ps.length) a b c = (j : Int))) (fun a b => a < b) := S_threes ps.length (fun a b c => ind (bc (cf ps hs) (List.range ps.length) a b c = (j : Int)))
  have e3 : TT (cf ps hs) (List.range ps.length) j = Tr (List.range ps.length) (fun a b c => ind (bc (cf ps hs) (List.range ps.length) a b c = (j : Int))) (fun a b => (cf ps hs).X a < (cf ps hs).X b) := by
    refine S_congr fun a _ => S_congr fun b _ => S_congr fun c _ => ?_
    by_cases h : (cf ps hs).X a < (cf ps hs).X b ∧ (cf ps hs).X b < (cf ps hs).X c
    · rw [if_pos h]
      exact ind_iff ⟨fun z => z.2, fun z => ⟨h, z⟩⟩
    · rw [if_neg h, ind_f fun z => h z.1]
  have s6a := six (List.range ps.length) (fun a b c => ind (bc (cf ps hs) (List.range ps.length) a b c = (j : Int))) (fun a b => a < b) (fun a => Nat.lt_irrefl a) (fun a b c => Nat.lt_trans) (fun a _ b _ h => by omega) (fun a b c => by rw [bc_s1]) (fun a b c => by rw [bc_s2])
  have s6b := six (List.range ps.length) (fun a b c => ind (bc (cf ps hs) (List.range ps.length) a b c = (j : Int))) (fun a b => (cf ps hs).X a < (cf ps hs).X b) (fun a => Int.lt_irrefl _) (fun a b c => Int.lt_trans) (fun a ha b hb h => by have := hX a ha b hb h; omega) (fun a b c => by rw [bc_s1]) (fun a b c => by rw [bc_s2])
  rw [e1, e2, e3]
  omega
theorem S_le_ind (m j : Nat) : S (List.range (j + 1)) (fun i => ind (m = i)) = ind (m ≤ j) := by
  by_cases h : m ≤ j
  · rw [ind_t h]
    exact S_one List.nodup_range (List.mem_range.mpr (by omega)) rfl fun a _ e => e.symm
  · rw [ind_f h]
    exact S_none fun a ha e => h (by have := List.mem_range.mp ha; omega)
theorem DD_row {j : Nat} (hj : j < ps.length - 2) : ((lineRow ps).take (j + 1)).sum = DD (cf ps hs) (List.range ps.length) j := by
  unfold lineRow
  rw [← List.map_take, range_take (by omega), S_sum, S_map_]
  have e1 : (S (List.range (j + 1)) fun i => ((((pairs2 ps.length).filterMap fun p => if (leftL ps p.1 p.2).length = i then some () else none).length : Nat) : Int)) = S (List.range (j + 1)) fun i => S (pairs2 ps.length) fun p => ind ((leftL ps p.1 p.2).length = i) := S_congr fun i _ => len_fm (fun p : Nat × Nat => (leftL ps p.1 p.2).length = i) (fun _ => ()) _
  rw [e1, S_comm]
  have e2 : (S (pairs2 ps.length) fun p => S (List.range (j + 1)) fun i => ind ((leftL ps p.1 p.2).length = i)) = S (pairs2 ps.length) fun p => ind ((leftL ps p.1 p.2).length ≤ j) := S_congr fun p _ => S_le_ind _ _
  rw [e2]
  unfold pairs2
  rw [S_flat]
  refine S_congr fun a _ => ?_
  unfold prow
  rw [S_fm]
  refine S_congr fun b _ => ?_
  rw [lc_left]
  by_cases h : a = b
  · rw [if_pos h, ind_f fun z => z.1 h]
  · rw [if_neg h]
    dsimp only
    exact ind_iff ⟨fun z => ⟨h, by omega⟩, fun z => by have := z.2; omega⟩
end
theorem plain_law : PlainLaw := by
  intro ps hs ok hf hl hh hlen j hj
  have G := good_ ok hf hl hh
  have L := law_ (ps.length - 3) (List.range ps.length) G (by rw [List.length_range]; have := ok.lo; omega) j (by omega)
  rw [List.length_range] at L
  rw [TT_row ok hf G.hX hj, DD_row (hs := hs) hj]
  omega
end KB
end

section
set_option Elab.async false
set_option linter.all false
set_option maxRecDepth 100000
set_option maxHeartbeats 1000000
/-! all promises from the facts (printed by gen_h5.py) -/
namespace KB
open PySem PySem.Spec PyProof.Rows L2
theorem ba {a b : Bool} (h : (a && b) = true) : a = true ∧ b = true := Bool.and_eq_true_iff.mp h
section
variable {K : PySem.W.Frag} {h : Heap} {mg : Str → Option Value}
theorem cls_of {C : Addr} (c : clsB K C = true) : Cls K C := by
  obtain ⟨c1, c⟩ := ba c
  obtain ⟨c2, c⟩ := ba c
  obtain ⟨c3, c4⟩ := ba c
  exact ⟨c1, c2, c3, He.eqO_ok c4⟩
theorem meth_of {C f : Addr} {m : Str} (c : methB K C m f = true) : Meth K C m f := by
  obtain ⟨c1, c⟩ := ba c
  obtain ⟨c2, c3⟩ := ba c
  exact ⟨He.eqO_ok c1, c2, c3⟩
theorem bmeth_of {C f : Addr} {m : Str} (c : methB K C m f = true) (d : bmB K f = true) (n : PySem.W.copiedNames.contains m = false) : BMeth K C m f := by
  obtain ⟨c1, d⟩ := ba d
  obtain ⟨c2, c3⟩ := ba d
  exact ⟨meth_of c, He.eqO_ok c1, of_decide_eq_true c2, n, c3⟩
theorem len_of {C f : Addr} (c : lenB K C f = true) : LenC K C f := by
  obtain ⟨c1, c2⟩ := ba c
  exact ⟨He.eqO_ok c1, c2⟩
theorem con_of {C : Addr} {f : Str} {i : Int} (c : conB K C f i = true) (n : PySem.W.copiedNames.contains f = false) : ∃ u, Con K C f (.int i) u := by
  unfold conB at c
  cases e : PySem.W.findIn K (.ref C) f with
  | none =>
    rw [e] at c
    cases c
  | some o =>
    rw [e] at c
    cases o with
    | none => cases c
    | some u =>
      obtain ⟨c1, c2⟩ := ba c
      cases u with
      | int j t =>
        have ej : j = i := of_decide_eq_true c1
        subst ej
        exact ⟨_, e, ⟨t, rfl⟩, He.eqO_ok c2, n⟩
      | _ => cases c1
theorem mk_of {C f : Addr} (c : mkB K C f = true) : Mk K C f := by
  obtain ⟨c1, c⟩ := ba c
  obtain ⟨c2, c⟩ := ba c
  obtain ⟨c3, c4⟩ := ba c
  exact ⟨c1, He.eqO_ok c2, c3, c4⟩
theorem oex_of {C : Addr} (c : oexB K C = true) : OexC K C := by
  obtain ⟨c1, c⟩ := ba c
  obtain ⟨c2, c⟩ := ba c
  obtain ⟨c3, c⟩ := ba c
  obtain ⟨c4, c5⟩ := ba c
  refine ⟨?_, He.eqO_ok c2, of_decide_eq_true c3, of_decide_eq_true c4, c5⟩
  split at c1
  · rename_i dd cd sl ho
    split at c1
    · rename_i C' bm k0 k1 k2 k3 n k5 hm hs
      simp only [Bool.and_eq_true, beq_iff_eq, Bool.not_eq_true'] at c1
      obtain ⟨⟨⟨⟨rfl, rfl⟩, hdel⟩, hd⟩, ht⟩ := c1
      obtain ⟨nm, bs, mro, ns, qn, hd', sn, sub, ab, col, del⟩ := cd
      dsimp only at hm hdel hd
      subst hm hdel hd
      have hsl : sl = #[k0, k1, k2, k3, some (.builtin "ValueError.__new__"), k5] := by
        obtain ⟨l⟩ := sl
        simp only at hs
        rw [hs]
      subst hsl
      exact ⟨nm, qn, ns, bs, bm, sn, sub, ab, col, dd, k0, k1, k2, k3, k5, ho, ht⟩
    · cases c1
  · cases c1
theorem exk_of {x : Str} {C fI : Addr} (c : exkB K C fI = true) (g : mg x = some (.ref C)) : ExK K mg x C fI := by
  obtain ⟨c1, c⟩ := ba c
  obtain ⟨c2, c⟩ := ba c
  obtain ⟨c3, c⟩ := ba c
  obtain ⟨c4, c⟩ := ba c
  obtain ⟨c5, c⟩ := ba c
  obtain ⟨c6, c7⟩ := ba c
  exact ⟨oex_of c1, He.eqO_ok c2, of_decide_eq_true c3, g, of_decide_eq_true c4, of_decide_eq_true c5, of_decide_eq_true c6, of_decide_eq_true c7⟩
theorem exc_of {C : Addr} (c : excB K C = true) : ExcC K C := by
  obtain ⟨c1, c⟩ := ba c
  obtain ⟨c2, c⟩ := ba c
  obtain ⟨c3, c⟩ := ba c
  obtain ⟨c4, c⟩ := ba c
  obtain ⟨c5, c⟩ := ba c
  obtain ⟨c6, c⟩ := ba c
  obtain ⟨c7, c8⟩ := ba c
  exact ⟨He.eqO_ok c1, He.eqO_ok c2, of_decide_eq_true c3, c4, He.eqO_ok c5, He.eqO_ok c6, of_decide_eq_true c7, of_decide_eq_true c8⟩
theorem exf_of {C BE : Addr} (c : exfB K C BE = true) : ExF K C BE := by
  obtain ⟨c1, c⟩ := ba c
  obtain ⟨c2, c3⟩ := ba c
  have T := exc_of c1
  exact ⟨T, ⟨T.hg, T.hk, T.hs, T.hd⟩, of_decide_eq_true c2, of_decide_eq_true c3⟩
theorem msup_of {d : Fd} {cc D : Addr} (e : fob K d.a = d.val) (c : codB K d = true) (s : supB K d.a cc D = true) (hcl : d.cl = [(("__class__" : Str), cc)]) (par : ∃ ar : Arg, ((defArgs d.st).posonlyargs ++ (defArgs d.st).args).head? = some ar ∧ ar.arg = ("self" : Str)) (sup : mg "super" = none)
    (ks : (defScope d.st).names.lookup ("super" : Str) = some .globalImplicit) (kc : (defScope d.st).names.lookup ("__class__" : Str) = some .free) (ka : (defScope d.st).names.lookup ("self" : Str) = some .local) (an : PySem.W.nsIn K cStatics "thirdparty.any" = some none) :
    ∃ fd, MSup PR K mg D "self" d.name d.qual d.st d.a fd cc (d.a - 1) := by
  obtain ⟨oc, od, sl, doc, pm, ctv, l, h1, h2⟩ := fd_of e c
  rw [hcl] at l
  obtain ⟨s1, s⟩ := ba s
  obtain ⟨s2, s3⟩ := ba s
  refine ⟨_, ⟨oc, od, sl, doc, pm, ctv, l, rfl⟩, ⟨⟨oc, od, sl, doc, pm, ctv, l⟩, h1, ?_, ?_, ?_, par, sup, by decide +kernel, ks, kc, ka⟩, an⟩
  · show ∃ ccl cdd vs ccs file tf, K.lookup (d.a - 1) = some (⟨ccl, cdd, .fields vs, ccs⟩ : Obj) ∧ vs[2]? = some (.str file tf) ∧ ((PR.main.file : Str) == file) = true
    cases q : K.lookup (d.a - 1) with
    | none =>
      rw [q] at s1
      cases s1
    | some o =>
      obtain ⟨ccl, cdd, dt, ccs⟩ := o
      rw [q] at s1
      cases dt with
      | fields vs =>
        have s1' : (match (vs[2]? : Option Value) with
          | some (.str file _) => ((PR.main.file : Str) == file)
          | _ => false) = true := s1
        cases q2 : (vs[2]? : Option Value) with
        | none =>
          rw [q2] at s1'
          cases s1'
        | some v =>
          rw [q2] at s1'
          cases v with
          | str file tf => exact ⟨ccl, cdd, vs, ccs, file, tf, rfl, q2, s1'⟩
          | _ => cases s1'
      | _ => cases s1
  · cases q : K.lookup cc with
    | none =>
      rw [q] at s2
      cases s2
    | some o =>
      obtain ⟨cl, cld, dt, csl⟩ := o
      rw [q] at s2
      cases dt with
      | cell ov =>
        cases ov with
        | none => cases s2
        | some v =>
          cases v with
          | ref x =>
            have ex : x = D := of_decide_eq_true s2
            subst ex
            exact ⟨cc, cl, cld, csl, rfl, q⟩
          | _ => cases s2
      | _ => cases s2
  · exact Option.isSome_iff_exists.mp s3
theorem MSup.binds {P : Program} {D f cc c : Addr} {sn x qual : Str} {st : Stmt} {fd : FuncData} {ps : List Str} (M : MSup P K mg D sn x qual st f fd cc c)
    (h : ∀ (doc pm ctv : Value) (us : List Value), us.length = ps.length → bindArgs ((nfM x qual st cc c).fd doc pm ctv) ⟨us, []⟩ = pure (ps.zip us)) : Binds K fd ps [] := by
  obtain ⟨oc, od, sl, doc, pm, ctv, lk, rfl⟩ := M.lk
  exact .all (h doc pm ctv)

theorem all_ok {w : World} (X : K.In h) (G : h.Ns mainGlobals mg) (c : Says K) : ∃ fd : FuncData, (∀ (s : Shared) (v : Value), BindsTo s fd ⟨[v], []⟩ [("_law_script", v)]) ∧ ∀ base : Heap, FnOk PR w K mg base CX0 12 1031 fd ["_law_script"] (spLaw K) := by
  obtain ⟨dcheckrange, Fcheckrange⟩ : ∃ fd, Fun K "check_range" "check_range" (topS 16) 279 fd := fun_of (d := ⟨279, "check_range", "check_range", topS 16, []⟩) (c.fn_ 0).1 (c.fn_ 0).2 rfl
  have Gcheckrange : Gd K mg "check_range" (topS 16) 279 dcheckrange := ⟨Fcheckrange, c.glo X G 0⟩
  obtain ⟨dcheckcount, Fcheckcount⟩ : ∃ fd, Fun K "check_count" "check_count" (topS 17) 286 fd := fun_of (d := ⟨286, "check_count", "check_count", topS 17, []⟩) (c.fn_ 1).1 (c.fn_ 1).2 rfl
  have Gcheckcount : Gd K mg "check_count" (topS 17) 286 dcheckcount := ⟨Fcheckcount, c.glo X G 1⟩
  obtain ⟨dallthrees, Fallthrees⟩ : ∃ fd, Fun K "all_threes" "all_threes" (topS 23) 319 fd := fun_of (d := ⟨319, "all_threes", "all_threes", topS 23, []⟩) (c.fn_ 2).1 (c.fn_ 2).2 rfl
  have Gallthrees : Gd K mg "all_threes" (topS 23) 319 dallthrees := ⟨Fallthrees, c.glo X G 2⟩
  obtain ⟨dallfours, Fallfours⟩ : ∃ fd, Fun K "all_fours" "all_fours" (topS 24) 324 fd := fun_of (d := ⟨324, "all_fours", "all_fours", topS 24, []⟩) (c.fn_ 3).1 (c.fn_ 3).2 rfl
  have Gallfours : Gd K mg "all_fours" (topS 24) 324 dallfours := ⟨Fallfours, c.glo X G 3⟩
  obtain ⟨dquicksplit, Fquicksplit⟩ : ∃ fd, Fun K "quick_split" "quick_split" (topS 26) 329 fd := fun_of (d := ⟨329, "quick_split", "quick_split", topS 26, []⟩) (c.fn_ 4).1 (c.fn_ 4).2 rfl
  have Gquicksplit : Gd K mg "quick_split" (topS 26) 329 dquicksplit := ⟨Fquicksplit, c.glo X G 4⟩
  obtain ⟨dquickinner, Fquickinner⟩ : ∃ fd, Fun K "quick_inner" "quick_inner" (topS 27) 336 fd := fun_of (d := ⟨336, "quick_inner", "quick_inner", topS 27, []⟩) (c.fn_ 5).1 (c.fn_ 5).2 rfl
  have Gquickinner : Gd K mg "quick_inner" (topS 27) 336 dquickinner := ⟨Fquickinner, c.glo X G 5⟩
  obtain ⟨dpairof, Fpairof⟩ : ∃ fd, Fun K "pair_of" "pair_of" (topS 28) 341 fd := fun_of (d := ⟨341, "pair_of", "pair_of", topS 28, []⟩) (c.fn_ 6).1 (c.fn_ 6).2 rfl
  have Gpairof : Gd K mg "pair_of" (topS 28) 341 dpairof := ⟨Fpairof, c.glo X G 6⟩
  obtain ⟨dinnerpairs, Finnerpairs⟩ : ∃ fd, Fun K "inner_pairs" "inner_pairs" (topS 29) 346 fd := fun_of (d := ⟨346, "inner_pairs", "inner_pairs", topS 29, []⟩) (c.fn_ 7).1 (c.fn_ 7).2 rfl
  have Ginnerpairs : Gd K mg "inner_pairs" (topS 29) 346 dinnerpairs := ⟨Finnerpairs, c.glo X G 7⟩
  obtain ⟨dsignof, Fsignof⟩ : ∃ fd, Fun K "sign_of" "sign_of" (topS 38) 504 fd := fun_of (d := ⟨504, "sign_of", "sign_of", topS 38, []⟩) (c.fn_ 8).1 (c.fn_ 8).2 rfl
  have Gsignof : Gd K mg "sign_of" (topS 38) 504 dsignof := ⟨Fsignof, c.glo X G 8⟩
  obtain ⟨dquickarea, Fquickarea⟩ : ∃ fd, Fun K "quick_area" "quick_area" (topS 39) 511 fd := fun_of (d := ⟨511, "quick_area", "quick_area", topS 39, []⟩) (c.fn_ 9).1 (c.fn_ 9).2 rfl
  have Gquickarea : Gd K mg "quick_area" (topS 39) 511 dquickarea := ⟨Fquickarea, c.glo X G 9⟩
  obtain ⟨dquickvolume, Fquickvolume⟩ : ∃ fd, Fun K "quick_volume" "quick_volume" (topS 40) 518 fd := fun_of (d := ⟨518, "quick_volume", "quick_volume", topS 40, []⟩) (c.fn_ 10).1 (c.fn_ 10).2 rfl
  have Gquickvolume : Gd K mg "quick_volume" (topS 40) 518 dquickvolume := ⟨Fquickvolume, c.glo X G 10⟩
  obtain ⟨dovertable, Fovertable⟩ : ∃ fd, Fun K "over_table" "over_table" (topS 42) 523 fd := fun_of (d := ⟨523, "over_table", "over_table", topS 42, []⟩) (c.fn_ 11).1 (c.fn_ 11).2 rfl
  have Govertable : Gd K mg "over_table" (topS 42) 523 dovertable := ⟨Fovertable, c.glo X G 11⟩
  obtain ⟨dbeyond, Fbeyond⟩ : ∃ fd, Fun K "beyond" "beyond" (topS 44) 535 fd := fun_of (d := ⟨535, "beyond", "beyond", topS 44, []⟩) (c.fn_ 12).1 (c.fn_ 12).2 rfl
  have Gbeyond : Gd K mg "beyond" (topS 44) 535 dbeyond := ⟨Fbeyond, c.glo X G 12⟩
  obtain ⟨dplanecounts, Fplanecounts⟩ : ∃ fd, Fun K "plane_counts" "plane_counts" (topS 47) 637 fd := fun_of (d := ⟨637, "plane_counts", "plane_counts", topS 47, []⟩) (c.fn_ 13).1 (c.fn_ 13).2 rfl
  have Gplanecounts : Gd K mg "plane_counts" (topS 47) 637 dplanecounts := ⟨Fplanecounts, c.glo X G 13⟩
  obtain ⟨dtally, Ftally⟩ : ∃ fd, Fun K "tally" "tally" (topS 48) 642 fd := fun_of (d := ⟨642, "tally", "tally", topS 48, []⟩) (c.fn_ 14).1 (c.fn_ 14).2 rfl
  have Gtally : Gd K mg "tally" (topS 48) 642 dtally := ⟨Ftally, c.glo X G 14⟩
  obtain ⟨dplanerow, Fplanerow⟩ : ∃ fd, Fun K "plane_row" "plane_row" (topS 49) 647 fd := fun_of (d := ⟨647, "plane_row", "plane_row", topS 49, []⟩) (c.fn_ 15).1 (c.fn_ 15).2 rfl
  have Gplanerow : Gd K mg "plane_row" (topS 49) 647 dplanerow := ⟨Fplanerow, c.glo X G 15⟩
  obtain ⟨dlinecounts, Flinecounts⟩ : ∃ fd, Fun K "line_counts" "line_counts" (topS 51) 652 fd := fun_of (d := ⟨652, "line_counts", "line_counts", topS 51, []⟩) (c.fn_ 16).1 (c.fn_ 16).2 rfl
  have Glinecounts : Gd K mg "line_counts" (topS 51) 652 dlinecounts := ⟨Flinecounts, c.glo X G 16⟩
  obtain ⟨dleftcount, Fleftcount⟩ : ∃ fd, Fun K "left_count" "left_count" (topS 52) 657 fd := fun_of (d := ⟨657, "left_count", "left_count", topS 52, []⟩) (c.fn_ 17).1 (c.fn_ 17).2 rfl
  have Gleftcount : Gd K mg "left_count" (topS 52) 657 dleftcount := ⟨Fleftcount, c.glo X G 17⟩
  obtain ⟨dlinerow, Flinerow⟩ : ∃ fd, Fun K "line_row" "line_row" (topS 53) 662 fd := fun_of (d := ⟨662, "line_row", "line_row", topS 53, []⟩) (c.fn_ 18).1 (c.fn_ 18).2 rfl
  have Glinerow : Gd K mg "line_row" (topS 53) 662 dlinerow := ⟨Flinerow, c.glo X G 18⟩
  obtain ⟨dhighpairs, Fhighpairs⟩ : ∃ fd, Fun K "high_pairs" "high_pairs" (topS 55) 667 fd := fun_of (d := ⟨667, "high_pairs", "high_pairs", topS 55, []⟩) (c.fn_ 19).1 (c.fn_ 19).2 rfl
  have Ghighpairs : Gd K mg "high_pairs" (topS 55) 667 dhighpairs := ⟨Fhighpairs, c.glo X G 19⟩
  obtain ⟨dfirsthigh, Ffirsthigh⟩ : ∃ fd, Fun K "first_high" "first_high" (topS 56) 674 fd := fun_of (d := ⟨674, "first_high", "first_high", topS 56, []⟩) (c.fn_ 20).1 (c.fn_ 20).2 rfl
  have Gfirsthigh : Gd K mg "first_high" (topS 56) 674 dfirsthigh := ⟨Ffirsthigh, c.glo X G 20⟩
  obtain ⟨dturntable, Fturntable⟩ : ∃ fd, Fun K "turn_table" "turn_table" (topS 62) 764 fd := fun_of (d := ⟨764, "turn_table", "turn_table", topS 62, []⟩) (c.fn_ 21).1 (c.fn_ 21).2 rfl
  have Gturntable : Gd K mg "turn_table" (topS 62) 764 dturntable := ⟨Fturntable, c.glo X G 21⟩
  obtain ⟨dLcell, FLcell⟩ : ∃ fd, Fun K "_law_cell" "_law_cell" (topS 65) 882 fd := fun_of (d := ⟨882, "_law_cell", "_law_cell", topS 65, []⟩) (c.fn_ 22).1 (c.fn_ 22).2 rfl
  have GLcell : Gd K mg "_law_cell" (topS 65) 882 dLcell := ⟨FLcell, c.glo X G 22⟩
  obtain ⟨dLsigned, FLsigned⟩ : ∃ fd, Fun K "_law_signed" "_law_signed" (topS 66) 889 fd := fun_of (d := ⟨889, "_law_signed", "_law_signed", topS 66, []⟩) (c.fn_ 23).1 (c.fn_ 23).2 rfl
  have GLsigned : Gd K mg "_law_signed" (topS 66) 889 dLsigned := ⟨FLsigned, c.glo X G 23⟩
  obtain ⟨dLpoints, FLpoints⟩ : ∃ fd, Fun K "_law_points" "_law_points" (topS 67) 896 fd := fun_of (d := ⟨896, "_law_points", "_law_points", topS 67, []⟩) (c.fn_ 24).1 (c.fn_ 24).2 rfl
  have GLpoints : Gd K mg "_law_points" (topS 67) 896 dLpoints := ⟨FLpoints, c.glo X G 24⟩
  obtain ⟨dLbent, FLbent⟩ : ∃ fd, Fun K "_law_bent" "_law_bent" (topS 68) 901 fd := fun_of (d := ⟨901, "_law_bent", "_law_bent", topS 68, []⟩) (c.fn_ 25).1 (c.fn_ 25).2 rfl
  have GLbent : Gd K mg "_law_bent" (topS 68) 901 dLbent := ⟨FLbent, c.glo X G 25⟩
  obtain ⟨dLheight, FLheight⟩ : ∃ fd, Fun K "_law_height" "_law_height" (topS 69) 908 fd := fun_of (d := ⟨908, "_law_height", "_law_height", topS 69, []⟩) (c.fn_ 26).1 (c.fn_ 26).2 rfl
  have GLheight : Gd K mg "_law_height" (topS 69) 908 dLheight := ⟨FLheight, c.glo X G 26⟩
  obtain ⟨dLheights, FLheights⟩ : ∃ fd, Fun K "_law_heights" "_law_heights" (topS 70) 915 fd := fun_of (d := ⟨915, "_law_heights", "_law_heights", topS 70, []⟩) (c.fn_ 27).1 (c.fn_ 27).2 rfl
  have GLheights : Gd K mg "_law_heights" (topS 70) 915 dLheights := ⟨FLheights, c.glo X G 27⟩
  obtain ⟨dLchanged, FLchanged⟩ : ∃ fd, Fun K "_law_changed" "_law_changed" (topS 71) 922 fd := fun_of (d := ⟨922, "_law_changed", "_law_changed", topS 71, []⟩) (c.fn_ 28).1 (c.fn_ 28).2 rfl
  have GLchanged : Gd K mg "_law_changed" (topS 71) 922 dLchanged := ⟨FLchanged, c.glo X G 28⟩
  obtain ⟨dLarea, FLarea⟩ : ∃ fd, Fun K "_law_area" "_law_area" (topS 72) 929 fd := fun_of (d := ⟨929, "_law_area", "_law_area", topS 72, []⟩) (c.fn_ 29).1 (c.fn_ 29).2 rfl
  have GLarea : Gd K mg "_law_area" (topS 72) 929 dLarea := ⟨FLarea, c.glo X G 29⟩
  obtain ⟨dLthrees, FLthrees⟩ : ∃ fd, Fun K "_law_threes" "_law_threes" (topS 73) 934 fd := fun_of (d := ⟨934, "_law_threes", "_law_threes", topS 73, []⟩) (c.fn_ 30).1 (c.fn_ 30).2 rfl
  have GLthrees : Gd K mg "_law_threes" (topS 73) 934 dLthrees := ⟨FLthrees, c.glo X G 30⟩
  obtain ⟨dLside, FLside⟩ : ∃ fd, Fun K "_law_side" "_law_side" (topS 74) 941 fd := fun_of (d := ⟨941, "_law_side", "_law_side", topS 74, []⟩) (c.fn_ 31).1 (c.fn_ 31).2 rfl
  have GLside : Gd K mg "_law_side" (topS 74) 941 dLside := ⟨FLside, c.glo X G 31⟩
  obtain ⟨dLwithin, FLwithin⟩ : ∃ fd, Fun K "_law_within" "_law_within" (topS 75) 948 fd := fun_of (d := ⟨948, "_law_within", "_law_within", topS 75, []⟩) (c.fn_ 32).1 (c.fn_ 32).2 rfl
  have GLwithin : Gd K mg "_law_within" (topS 75) 948 dLwithin := ⟨FLwithin, c.glo X G 32⟩
  obtain ⟨dLfirstflat, FLfirstflat⟩ : ∃ fd, Fun K "_law_first_flat" "_law_first_flat" (topS 76) 955 fd := fun_of (d := ⟨955, "_law_first_flat", "_law_first_flat", topS 76, []⟩) (c.fn_ 33).1 (c.fn_ 33).2 rfl
  have GLfirstflat : Gd K mg "_law_first_flat" (topS 76) 955 dLfirstflat := ⟨FLfirstflat, c.glo X G 33⟩
  obtain ⟨dLfirstlevel, FLfirstlevel⟩ : ∃ fd, Fun K "_law_first_level" "_law_first_level" (topS 77) 962 fd := fun_of (d := ⟨962, "_law_first_level", "_law_first_level", topS 77, []⟩) (c.fn_ 34).1 (c.fn_ 34).2 rfl
  have GLfirstlevel : Gd K mg "_law_first_level" (topS 77) 962 dLfirstlevel := ⟨FLfirstlevel, c.glo X G 34⟩
  obtain ⟨dLfirsthigh, FLfirsthigh⟩ : ∃ fd, Fun K "_law_first_high" "_law_first_high" (topS 78) 967 fd := fun_of (d := ⟨967, "_law_first_high", "_law_first_high", topS 78, []⟩) (c.fn_ 35).1 (c.fn_ 35).2 rfl
  have GLfirsthigh : Gd K mg "_law_first_high" (topS 78) 967 dLfirsthigh := ⟨FLfirsthigh, c.glo X G 35⟩
  obtain ⟨dLlines, FLlines⟩ : ∃ fd, Fun K "_law_lines" "_law_lines" (topS 79) 972 fd := fun_of (d := ⟨972, "_law_lines", "_law_lines", topS 79, []⟩) (c.fn_ 36).1 (c.fn_ 36).2 rfl
  have GLlines : Gd K mg "_law_lines" (topS 79) 972 dLlines := ⟨FLlines, c.glo X G 36⟩
  obtain ⟨dLsame, FLsame⟩ : ∃ fd, Fun K "_law_same" "_law_same" (topS 80) 977 fd := fun_of (d := ⟨977, "_law_same", "_law_same", topS 80, []⟩) (c.fn_ 37).1 (c.fn_ 37).2 rfl
  have GLsame : Gd K mg "_law_same" (topS 80) 977 dLsame := ⟨FLsame, c.glo X G 37⟩
  obtain ⟨dLspoil, FLspoil⟩ : ∃ fd, Fun K "_law_spoil" "_law_spoil" (topS 81) 984 fd := fun_of (d := ⟨984, "_law_spoil", "_law_spoil", topS 81, []⟩) (c.fn_ 38).1 (c.fn_ 38).2 rfl
  have GLspoil : Gd K mg "_law_spoil" (topS 81) 984 dLspoil := ⟨FLspoil, c.glo X G 38⟩
  obtain ⟨dLfloor, FLfloor⟩ : ∃ fd, Fun K "_law_floor" "_law_floor" (topS 82) 991 fd := fun_of (d := ⟨991, "_law_floor", "_law_floor", topS 82, []⟩) (c.fn_ 39).1 (c.fn_ 39).2 rfl
  have GLfloor : Gd K mg "_law_floor" (topS 82) 991 dLfloor := ⟨FLfloor, c.glo X G 39⟩
  obtain ⟨dLbowl, FLbowl⟩ : ∃ fd, Fun K "_law_bowl" "_law_bowl" (topS 83) 998 fd := fun_of (d := ⟨998, "_law_bowl", "_law_bowl", topS 83, []⟩) (c.fn_ 40).1 (c.fn_ 40).2 rfl
  have GLbowl : Gd K mg "_law_bowl" (topS 83) 998 dLbowl := ⟨FLbowl, c.glo X G 40⟩
  obtain ⟨dLfloorof, FLfloorof⟩ : ∃ fd, Fun K "_law_floor_of" "_law_floor_of" (topS 84) 1005 fd := fun_of (d := ⟨1005, "_law_floor_of", "_law_floor_of", topS 84, []⟩) (c.fn_ 41).1 (c.fn_ 41).2 rfl
  have GLfloorof : Gd K mg "_law_floor_of" (topS 84) 1005 dLfloorof := ⟨FLfloorof, c.glo X G 41⟩
  obtain ⟨dLduebowl, FLduebowl⟩ : ∃ fd, Fun K "_law_due_bowl" "_law_due_bowl" (topS 85) 1012 fd := fun_of (d := ⟨1012, "_law_due_bowl", "_law_due_bowl", topS 85, []⟩) (c.fn_ 42).1 (c.fn_ 42).2 rfl
  have GLduebowl : Gd K mg "_law_due_bowl" (topS 85) 1012 dLduebowl := ⟨FLduebowl, c.glo X G 42⟩
  obtain ⟨dLbowlof, FLbowlof⟩ : ∃ fd, Fun K "_law_bowl_of" "_law_bowl_of" (topS 86) 1019 fd := fun_of (d := ⟨1019, "_law_bowl_of", "_law_bowl_of", topS 86, []⟩) (c.fn_ 43).1 (c.fn_ 43).2 rfl
  have GLbowlof : Gd K mg "_law_bowl_of" (topS 86) 1019 dLbowlof := ⟨FLbowlof, c.glo X G 43⟩
  obtain ⟨dLrows, FLrows⟩ : ∃ fd, Fun K "_law_rows" "_law_rows" (topS 87) 1026 fd := fun_of (d := ⟨1026, "_law_rows", "_law_rows", topS 87, []⟩) (c.fn_ 44).1 (c.fn_ 44).2 rfl
  have GLrows : Gd K mg "_law_rows" (topS 87) 1026 dLrows := ⟨FLrows, c.glo X G 44⟩
  obtain ⟨dlaw, Flaw⟩ : ∃ fd, Fun K "law" "law" (topS 88) 1031 fd := fun_of (d := ⟨1031, "law", "law", topS 88, []⟩) (c.fn_ 45).1 (c.fn_ 45).2 rfl
  have Glaw : Gd K mg "law" (topS 88) 1031 dlaw := ⟨Flaw, c.glo X G 45⟩
  obtain ⟨dFI, FFI⟩ : ∃ fd, Fun K "__init__" "Floor.__init__" (clsS 63 3) 778 fd := fun_of (d := ⟨778, "__init__", "Floor.__init__", clsS 63 3, []⟩) (c.fn_ 46).1 (c.fn_ 46).2 rfl
  obtain ⟨dFLen, FFLen⟩ : ∃ fd, Fun K "__len__" "Floor.__len__" (clsS 63 5) 795 fd := fun_of (d := ⟨795, "__len__", "Floor.__len__", clsS 63 5, []⟩) (c.fn_ 47).1 (c.fn_ 47).2 rfl
  obtain ⟨dFT, FFT⟩ : ∃ fd, Fun K "quick_turn" "Floor.quick_turn" (clsS 63 12) 844 fd := fun_of (d := ⟨844, "quick_turn", "Floor.quick_turn", clsS 63 12, []⟩) (c.fn_ 48).1 (c.fn_ 48).2 rfl
  obtain ⟨dRI, FRI⟩ : ∃ fd, Fun K "__init__" "Raised.__init__" (clsS 45 1) 549 fd := fun_of (d := ⟨549, "__init__", "Raised.__init__", clsS 45 1, []⟩) (c.fn_ 49).1 (c.fn_ 49).2 rfl
  obtain ⟨dRLen, FRLen⟩ : ∃ fd, Fun K "__len__" "Raised.__len__" (clsS 45 2) 556 fd := fun_of (d := ⟨556, "__len__", "Raised.__len__", clsS 45 2, []⟩) (c.fn_ 50).1 (c.fn_ 50).2 rfl
  obtain ⟨dRO, FRO⟩ : ∃ fd, Fun K "quick_over" "Raised.quick_over" (clsS 45 5) 575 fd := fun_of (d := ⟨575, "quick_over", "Raised.quick_over", clsS 45 5, []⟩) (c.fn_ 51).1 (c.fn_ 51).2 rfl
  have mlen : mg "len" = none := c.free X G 0
  have mrange : mg "range" = none := c.free X G 1
  have msorted : mg "sorted" = none := c.free X G 2
  have mtuple : mg "tuple" = none := c.free X G 3
  have mzip : mg "zip" = none := c.free X G 4
  have mlist : mg "list" = none := c.free X G 5
  have mint : mg "int" = none := c.free X G 6
  have mabs : mg "abs" = none := c.free X G 7
  have mmax : mg "max" = none := c.free X G 8
  have msum : mg "sum" = none := c.free X G 9
  have mall : mg "all" = none := c.free X G 10
  have misinstance : mg "isinstance" = none := c.free X G 11
  have mbool : mg "bool" = none := c.free X G 12
  have mstr : mg "str" = none := c.free X G 13
  have msuper : mg "super" = none := c.free X G 14
  have mValueError : mg "ValueError" = none := c.free X G 15
  have gBowlError : mg "BowlError" = some (.ref 59) := c.glo X G 46
  have gOnLine : mg "OnLine" = some (.ref 186) := c.glo X G 47
  have gOnPlane : mg "OnPlane" = some (.ref 207) := c.glo X G 48
  have gNotBowl : mg "NotBowl" = some (.ref 228) := c.glo X G 49
  have gBowl : mg "Bowl" = some (.ref 755) := c.glo X G 50
  have gFloor : mg "Floor" = some (.ref 871) := c.glo X G 51
  have an : PySem.W.nsIn K cStatics "thirdparty.any" = some none := He.eqO_ok (c.mi 40)
  obtain ⟨dOnLine, MOnLine⟩ : ∃ fd, MSup PR K mg 186 "self" "__init__" "OnLine.__init__" (clsS 9 0) 183 fd 171 182 := msup_of (d := ⟨183, "__init__", "OnLine.__init__", clsS 9 0, [(("__class__" : Str), 171)]⟩) (c.fn_ 52).1 (c.fn_ 52).2 (c.mi 18) rfl ⟨_, rfl, rfl⟩ msuper (by rfl) (by rfl) (by rfl) an
  obtain ⟨dOnPlane, MOnPlane⟩ : ∃ fd, MSup PR K mg 207 "self" "__init__" "OnPlane.__init__" (clsS 10 0) 204 fd 192 203 := msup_of (d := ⟨204, "__init__", "OnPlane.__init__", clsS 10 0, [(("__class__" : Str), 192)]⟩) (c.fn_ 53).1 (c.fn_ 53).2 (c.mi 19) rfl ⟨_, rfl, rfl⟩ msuper (by rfl) (by rfl) (by rfl) an
  obtain ⟨dNotBowl, MNotBowl⟩ : ∃ fd, MSup PR K mg 228 "self" "__init__" "NotBowl.__init__" (clsS 11 0) 225 fd 213 224 := msup_of (d := ⟨225, "__init__", "NotBowl.__init__", clsS 11 0, [(("__class__" : Str), 213)]⟩) (c.fn_ 54).1 (c.fn_ 54).2 (c.mi 20) rfl ⟨_, rfl, rfl⟩ msuper (by rfl) (by rfl) (by rfl) an
  obtain ⟨dBowl, MBowl⟩ : ∃ fd, MSup PR K mg 755 "self" "__init__" "Bowl.__init__" (clsS 60 0) 697 fd 685 696 := msup_of (d := ⟨697, "__init__", "Bowl.__init__", clsS 60 0, [(("__class__" : Str), 685)]⟩) (c.fn_ 55).1 (c.fn_ 55).2 (c.mi 21) rfl ⟨_, rfl, rfl⟩ msuper (by rfl) (by rfl) (by rfl) an
  have T : FlK K 871 795 844 := ⟨cls_of (c.mi 0), He.eqO_ok (c.mi 1), He.eqO_ok (c.mi 2), meth_of (c.mi 3), len_of (c.mi 4)⟩
  have TC : FlC K 871 := ⟨con_of (c.mi 5) (by decide +kernel), con_of (c.mi 6) (by decide +kernel), con_of (c.mi 7) (by decide +kernel)⟩
  have B : BwK K 755 556 575 := ⟨cls_of (c.mi 8), He.eqO_ok (c.mi 9), He.eqO_ok (c.mi 10), He.eqO_ok (c.mi 11), bmeth_of (c.mi 12) (c.mi 13) (by decide +kernel), len_of (c.mi 14), con_of (c.mi 15) (by decide +kernel)⟩
  have kF : Mk K 871 778 := mk_of (c.mi 16)
  have kB : Mk K 755 697 := mk_of (c.mi 17)
  have XL : ExK K mg "OnLine" 186 183 := exk_of (c.mi 22) gOnLine
  have XP : ExK K mg "OnPlane" 207 204 := exk_of (c.mi 23) gOnPlane
  have XN : ExK K mg "NotBowl" 228 225 := exk_of (c.mi 24) gNotBowl
  have EL : ExF K 186 59 := exf_of (c.mi 25)
  have EP : ExF K 207 59 := exf_of (c.mi 26)
  have EN : ExF K 228 59 := exf_of (c.mi 27)
  have nL : PySem.W.findIn K (.ref 186) "numbers" = some none := He.eqO_ok (c.mi 28)
  have nP : PySem.W.findIn K (.ref 207) "numbers" = some none := He.eqO_ok (c.mi 29)
  have nT : PySem.W.findIn K (.ref 228) "triangle" = some none := He.eqO_ok (c.mi 30)
  have nN : PySem.W.findIn K (.ref 228) "number" = some none := He.eqO_ok (c.mi 31)
  have bL : Binds K dOnLine ["self", "numbers"] [] := MOnLine.binds fun _ _ _ us hl => match us, hl with | [_, _], _ => rfl
  have bP : Binds K dOnPlane ["self", "numbers"] [] := MOnPlane.binds fun _ _ _ us hl => match us, hl with | [_, _], _ => rfl
  have bN : Binds K dNotBowl ["self", "triangle", "number"] [] := MNotBowl.binds fun _ _ _ us hl => match us, hl with | [_, _, _], _ => rfl
  have bB : Binds K dBowl ["self", "floor", "heights"] [] := MBowl.binds fun _ _ _ us hl => match us, hl with | [_, _, _], _ => rfl
  have bFI := FFI.binds (ps := ["self", "points"]) fun _ _ _ _ _ _ us hl => match us, hl with | [_, _], _ => rfl
  have bRI := FRI.binds (ps := ["self", "floor", "heights"]) fun _ _ _ _ _ _ us hl => match us, hl with | [_, _, _], _ => rfl
  have bLaw := Flaw.binds (ps := ["_law_script"]) fun _ _ _ _ _ _ us hl => match us, hl with | [_], _ => rfl

  refine ⟨dlaw, fun s v => ?_, fun base => ?_⟩
  · obtain ⟨oc, od, kV, doc, pm, an', cdv, ct, osl, rfl, lk, hcd⟩ := Flaw.ex
    exact .of_eq rfl
  have o_sign : FnOk PR w K mg base CX0 1 504 _ _ spSign := ok_sign Fsignof
  have o_area : FnOk PR w K mg base CX0 1 511 _ _ spArea := ok_area Fquickarea
  have o_vol : FnOk PR w K mg base CX0 2 518 _ _ spVol := ok_vol Fquickvolume Gquickarea
  have o_threes : FnOk PR w K mg base CX0 1 319 _ _ spThrees := ok_threes Fallthrees mrange
  have o_fours : FnOk PR w K mg base CX0 2 324 _ _ spFours := ok_fours Fallfours mrange Gallthrees
  have o_inner : FnOk PR w K mg base CX0 3 336 _ _ (spInner 871) := ok_inner Fquickinner Gquicksplit FFT T msorted mtuple mlen
  have o_pair : FnOk PR w K mg base CX0 4 341 _ _ (spPair 871) := ok_pair Fpairof Gquickinner o_inner mtuple
  have o_pairs : FnOk PR w K mg base CX0 5 346 _ _ (spPairs 871) := ok_pairs Finnerpairs Gallfours o_fours Gpairof o_pair FFLen T msorted mlen
  have o_ex9 : FnOk PR w K mg base CX0 1 183 _ _ (spEx1 186) := ok_ex9 MOnLine XL nL
  have o_ex10 : FnOk PR w K mg base CX0 1 204 _ _ (spEx1 207) := ok_ex10 MOnPlane XP nP
  have o_ex11 : FnOk PR w K mg base CX0 1 225 _ _ (spEx2 228) := ok_ex11 MNotBowl XN nT nN
  have o_table : FnOk PR w K mg base (L2.CX PR w) 3 764 _ _ (spTab 186) := ok_table Fturntable Gallthrees o_threes Gquickarea o_area Gsignof o_sign XL o_ex9 bL mlen
  have o_floor : FnOk PR w K mg base (L2.CX PR w) 4 778 _ _ (spFloor 871 186) := ok_floor FFI Gcheckcount Gcheckrange Gturntable o_table T TC mlen mtuple
  have o_over : FnOk PR w K mg base (L2.CX PR w) 3 523 _ _ (spOver 871 207) := ok_over Fovertable Gallfours o_fours Gquickvolume o_vol Gsignof o_sign FFT T XP o_ex10 bP mlen mzip
  have o_raised : FnOk PR w K mg base (L2.CX PR w) 4 549 _ _ (spRaised 871 755 207) := ok_raised FRI Gcheckcount Gcheckrange Govertable o_over FFLen T B mlen mtuple
  have o_highs : FnOk PR w K mg base CX0 6 667 _ _ (spHighs 871 755) := ok_highs Fhighpairs Ginnerpairs o_pairs FRO B
  have o_first : FnOk PR w K mg base CX0 7 674 _ _ (spFirst 871 755) := ok_first Ffirsthigh Ghighpairs o_highs
  have o_bowl : FnOk PR w K mg base (L2.CX PR w) 8 697 _ _ (spBowl 871 755 207 228) := ok_bowl MBowl (of_decide_eq_true (c.mi 32)) (of_decide_eq_true (c.mi 33)) (of_decide_eq_true (c.mi 34)) (c.mi 35) o_raised bRI Gfirsthigh o_first XN o_ex11 bN
  have o_beyond : FnOk PR w K mg base CX0 3 535 _ _ (spBeyond 871 755) := ok_beyond Fbeyond FRO FRLen B mlen mrange
  have o_counts : FnOk PR w K mg base CX0 4 637 _ _ (spCounts 871 755) := ok_counts Fplanecounts Gallthrees o_threes Gbeyond o_beyond FRLen B mlen
  have o_row : FnOk PR w K mg base CX0 5 647 _ _ (spRow 871 755) := ok_row Fplanerow Gplanecounts o_counts Gtally FRLen B mlen mrange
  have o_left : FnOk PR w K mg base CX0 3 657 _ _ (spLeft 871) := ok_left Fleftcount FFT FFLen T mlen mrange
  have o_lines : FnOk PR w K mg base CX0 4 652 _ _ (spLines 871) := ok_lines Flinecounts Gleftcount o_left FFLen T mlen mrange
  have o_lrow : FnOk PR w K mg base CX0 5 662 _ _ (spLRow 871) := ok_lrow Flinerow Glinecounts o_lines FFLen T mlen mrange
  have o_cell : FnOk PR w K mg base CX0 1 882 _ _ spCell := ok_cell FLcell mlen
  have o_points : FnOk PR w K mg base CX0 2 896 _ _ spPoints := ok_points FLpoints GLcell mlen mint mrange
  have o_bent : FnOk PR w K mg base CX0 1 901 _ _ spBent := ok_bent FLbent mlen mint mrange mlist
  have o_heights : FnOk PR w K mg base CX0 2 915 _ _ spHeights := ok_heights FLheights GLcell GLheight GLsigned mlen mint mrange mmax
  have o_changed : FnOk PR w K mg base CX0 2 922 _ _ spChanged := ok_changed FLchanged GLsigned mlen mint mlist
  have o_side : FnOk PR w K mg base CX0 2 941 _ _ spSide := ok_side FLside GLarea
  have o_within : FnOk PR w K mg base CX0 2 948 _ _ spWithin := ok_within FLwithin GLarea
  have o_flat : FnOk PR w K mg base CX0 2 955 _ _ spFlat := ok_flat FLfirstflat GLarea GLthrees mlen mrange
  have o_level : FnOk PR w K mg base CX0 3 962 _ _ spLevel := ok_level FLfirstlevel GLside o_side GLthrees mlen mrange
  have o_lhigh : FnOk PR w K mg base CX0 3 967 _ _ spLHigh := ok_lhigh FLfirsthigh GLside o_side GLwithin o_within GLthrees mlen mrange
  have o_spoil : FnOk PR w K mg base CX0 1 984 _ _ spSpoil := ok_spoil FLspoil
  have o_llines : FnOk PR w K mg base CX0 2 972 _ _ spLLines := ok_llines FLlines GLarea mlen
  have o_same : FnOk PR w K mg base CX0 4 977 _ _ (spSame 2) := ok_same FLsame GLsame.g misinstance mint mbool mstr mtuple mlist mlen mall mrange 2
  have o_lfloor : FnOk PR w K mg base CX0 6 991 _ _ (spLFloor 871) := ok_lfloor FLfloor kF gFloor o_floor bFI XL EL nL gBowlError gOnPlane gNotBowl (of_decide_eq_true (c.mi 36)) misinstance mValueError
  have o_lbowl : FnOk PR w K mg base CX0 10 998 _ _ (spLBowl 871 755) := ok_lbowl FLbowl kB gBowl o_bowl bB XP EP XN EN nP nT nN gBowlError gOnLine (of_decide_eq_true (c.mi 37)) (of_decide_eq_true (c.mi 38)) (of_decide_eq_true (c.mi 39)) misinstance mValueError
  have o_floorof : FnOk PR w K mg base CX0 7 1005 _ _ (spFloorOf 871) := ok_floorof FLfloorof GLcell o_cell GLpoints o_points GLbent o_bent GLfloor o_lfloor GLsame o_same GLspoil o_spoil GLfirstflat o_flat mlist
  have o_due : FnOk PR w K mg base CX0 4 1012 _ _ spDue := ok_due FLduebowl GLfirstlevel o_level GLfirsthigh o_lhigh
  have o_bowlof : FnOk PR w K mg base CX0 11 1019 _ _ (spBowlOf 871 755) := ok_bowlof FLbowlof high_eq GLcell o_cell GLheights o_heights GLchanged o_changed GLbowl o_lbowl GLsame o_same GLspoil o_spoil GLduebowl o_due mlist mint
  have o_rows : FnOk PR w K mg base CX0 6 1026 _ _ (spRows 871 755) := ok_rows FLrows plain_law GLlines o_llines Glinerow o_lrow GLsame o_same Gplanerow o_row GLspoil o_spoil mlen mrange misinstance mlist msum
  exact ok_law Flaw GLcell o_cell GLfloorof o_floorof GLbowlof o_bowlof GLrows o_rows mint mabs
end
end KB
end

section
set_option Elab.async false
set_option linter.all false
set_option maxRecDepth 100000
set_option maxHeartbeats 0
noncomputable section
namespace KB
open PySem PySem.W PySem.Calls PyProof.Rows HeadRun
theorem runAll (w : World) : RunEqI R (PySem.W.view R.prog [88]) hk ob 8000 loose w := by
  obtain ⟨x, hx, ha⟩ := Option.map_eq_some_iff.mp (runA w)
  have hb := runB w
  have hc := runC w
  rw [hx] at hb hc
  unfold RunEqI
  rw [hx]
  exact congrArg some (Prod.ext ha (Prod.ext (Option.some.inj hb) (Option.some.inj hc)))
end KB
end
open PySem PySem.W PySem.Calls PyProof.Rows
theorem PySem.Challenge.cw_everybowl_k26_whole_bowl_rows_holds : PySem.Challenge.rw_everybowl_k26_whole_bowl_rows.Holds := by
  w_on; o_law
  refine HeadRun.head_imp (r := OpenLaw.row PySem.Challenge.rw_everybowl_k26_whole_bowl_rows) (q := view (OpenLaw.row PySem.Challenge.rw_everybowl_k26_whole_bowl_rows).prog [88]) (H := KB.hk) (ob := KB.ob) (M := 8000) (loose := KB.loose) (d := HeadRun.topDef (OpenLaw.row PySem.Challenge.rw_everybowl_k26_whole_bowl_rows).prog 88) (kwd := []) KB.ob_eq
    KB.runAll (by kernel_rfl) (by kernel_rfl) (by kernel_rfl) (by rfl) (by first | assumption | decide +kernel) (by decide +kernel) ⟨rfl, rfl, rfl, rfl, rfl, by decide +kernel⟩ ?hw ?hc
  case hw => w_witness2
  case hc =>
    refine L2.walk_ofE (l := PySem.Challenge.rw_everybowl_k26_whole_bowl_rows) (n := 63) (k := 12) (x := "_law_script") (CX := L2.CX0) rfl (by decide) (by kernel_rfl) ⟨rfl, by decide, by decide⟩ ?F (fun _ _ _ _ z => z)
    intro w mg fa h Y G hmg0
    obtain ⟨K, KX, c⟩ := Y
    have hmg : mg ("law" : PySem.Str) = some (.ref fa) := by
      have e : (HeadRun.topDef (OpenLaw.row PySem.Challenge.rw_everybowl_k26_whole_bowl_rows).prog 88).name = ("law" : PySem.Str) := by kernel_rfl
      rw [← e]
      exact hmg0
    have ef : fa = 1031 := by
      have e := hmg.symm.trans (c.glo KX G 45 (p := (("law" : PySem.Str), 1031)) rfl)
      exact Value.ref.inj (Option.some.inj e)
    subst ef
    obtain ⟨fd, hb, hF⟩ := KB.all_ok (w := w) KX G c
    exact ⟨K, fd, KB.spLaw K, KX, hb, fun H a ns hl _ hS => ⟨a, ns, rfl, hS, fun _ => rfl⟩, fun base _ _ => hF base⟩
end
