import PyProof.Rows.All
import HandS.Nested
import KE.GoesEnum
import HandS.Zip
import KE.KTupSum
import HandS.TupMul
import HandS.SortInts
import HandS.SetFor
import PyProof.WalkInts
import HandS.Style
import KE.KRevSl
import KE.DatumOrd
import PyProof.Rows.RowBridgeK
import KE.SortData
import Wide.All
import OpenK.AllK
import Wide.FinOn
import HandS.ForMost
import HandS.Exc
import HandS.TryOnly
import HandS.ExcOwn
import HandS.WordsExc
import HandS.CallSlots
import HandS.Defaults
import HandS.TupAny
import HandS.Flow
import HandS.IsInst
import HandS.Deep
import HandS.Gcd
import HandS.TupLe
import HandS.Star
import HandS.Lambda
import HandS.Small
import HandS.Conv
import HandS.HeadEnd
import HandS.EndBits
import PyProof.Rows.ReprShort
import PyProof.Rows.RegFStrParts
import PySem.Challenge.RW_hourpicks_k33_whole_full_turns_and_doubl
set_option Elab.async false
set_option linter.all false
set_option maxRecDepth 100000
set_option maxHeartbeats 4000000
namespace L2.LM
open PySem PySem.Spec PyProof.Rows LamX

/-! ### a lambda's function object: its text, the cells that it captured, its code object -/
structure LF where
  q : Str
  ar : Arguments
  bd : Expr
  sc : Scope
  cl : List (Str × Addr)
  c : Addr
abbrev LF.obj (F : LF) (pm ctv : Value) : Obj := PySem.W.kla_obj "<lambda>" F.q F.ar F.bd F.sc F.cl pm F.c ctv
def LamO (f : Addr) (F : LF) : HO := .ext fun h => ∃ (pm ctv : Value), h.get? f = some (F.obj pm ctv)
theorem lamO_at {P : Program} {w : World} {H : Hp} {h : Heap} {f : Addr} {F : LF} (hok : HOk P w H h) (e : H f = some (LamO f F)) : ∃ (pm ctv : Value), h.get? f = some (F.obj pm ctv) := (hok f _ e).1
theorem lamO_tbl {f : Addr} {F : LF} (ps : Array Value) : LamO f F ≠ .tbl ps := fun z => by unfold LamO at z; cases z
section
variable {X : Cx} {pins : List (Addr × Obj)} {σ : L2.St} {H : Hp} {s : Shared}
theorem inv_lam {F : LF} {t' : Nat} {pm ctv : Value} (I : Inv X pins σ H s) : Inv X pins σ (upd H s.heap.objs.size (LamO s.heap.objs.size F)) { s with heap := s.heap.push (F.obj pm ctv), toks := t' } := by
  have e : (s.heap.push (F.obj pm ctv)).get? s.heap.objs.size = some (F.obj pm ctv) := Heap.get?_push_size _ rfl
  exact I.laid (fun b u z => Heap.get?_push_of_some _ z) (Nat.le_refl _) ⟨⟨pm, ctv, e⟩, ⟨_, e⟩, fun h1 h2 ⟨p, t, z⟩ st => ⟨p, t, st _ z⟩⟩
/-- the lambda is made -/
theorem lam_make {c P : Addr} {ps : Array Value} {ar : Arguments} {bd : Expr} {sc : Scope} {pos : Pos} {E Q : Value → Shared → Prop} (I : Inv X pins σ H s) (TB : TabB X.base X.mg c P) (hcode : X.env.code = .ref c) (hP : H P = some (.tbl ps)) (ht : TriplesOk ps.toList)
    (hdef : defaultsOf ar X.env = ([], [])) (hfree : ∀ y ∈ sc.names, y.2 = .free → ∃ c, X.env.cells.lookup y.1 = some c)
    (hit : ∀ (f c' : Addr) (s' : Shared), codeAmong pos ps.toList = some (.ref c') → Inv X pins σ (upd H f (LamO f ⟨X.env.qual ++ "<lambda>", ar, bd, sc, cloFrom X.env.cells sc.names [], c'⟩)) s' → H f = none → Q (.ref f) s')
    (ok : ∀ cv, codeAmong pos ps.toList = some cv → ∃ c', cv = .ref c' ∧ H c' = some (CodeO c' (X.env.qual ++ "<lambda>")))
    (new : ∀ (f c' : Addr) (ps' : Array Value) (s' : Shared), Inv X pins σ (upd (upd (upd H P (.tbl ps')) c' (CodeO c' (X.env.qual ++ "<lambda>"))) f (LamO f ⟨X.env.qual ++ "<lambda>", ar, bd, sc, cloFrom X.env.cells sc.names [], c'⟩)) s' →
      H f = none → H c' = none → f ≠ c' → TriplesOk ps'.toList → (∀ p' cv, codeAmong p' ps'.toList = some cv → codeAmong p' ps.toList = some cv ∨ cv = .ref c') → Q (.ref f) s') :
    wpAny (model X.prog X.w) X.A (eval (.Lambda ar bd sc pos) X.env) Q E s := by
  refine PySem.W.kla_eval hdef ?_
  have bP := TB.bm.keeps I.bk
  have oP : s.heap.get? P = some { cls := .none, data := .fields ps } := I.hok P _ hP
  cases hc : codeAmong pos ps.toList with
  | some cv =>
    obtain ⟨c', rfl, hco⟩ := ok cv hc
    refine PySem.W.kla_makeFunctionHit (closure_ok hfree) I.ok.glob (I.mod.glob.keeps I.bk) hcode (TB.code.keeps I.bk) oP ht hc bP fun ctv h' tk hx hsz => ?_
    have J : Inv X pins σ H { s with heap := h', toks := tk } := I.kept hx
    exact hit h'.objs.size c' _ hc (inv_lam (F := ⟨X.env.qual ++ "<lambda>", ar, bd, sc, cloFrom X.env.cells sc.names [], c'⟩) J) (J.hok.fresh (Nat.le_refl _))
  | none =>
    refine PySem.W.kla_makeFunction (closure_ok hfree) I.ok.glob (I.mod.glob.keeps I.bk) hcode (TB.code.keeps I.bk) oP ht hc TB.gP bP fun c' ctv h' tk hx hge hlt hrec htb => ?_
    obtain ⟨c2, oc, vs, t, e2, hoc, hd, hv⟩ := hrec
    cases e2
    have J := inv_table (t' := tk) (more := #[rawInt pos.line, rawInt pos.col, .ref c']) (h' := h') I hP (fun b o hb e => hx b o hb e) htb hge ⟨oc, vs, t, hoc, hd, hv⟩
    have eL : (ps ++ #[rawInt pos.line, rawInt pos.col, .ref c']).toList = ps.toList ++ [rawInt pos.line, rawInt pos.col, .ref c'] := by simp
    refine new h'.objs.size c' _ _ (inv_lam (F := ⟨X.env.qual ++ "<lambda>", ar, bd, sc, cloFrom X.env.cells sc.names [], c'⟩) J) (I.hok.fresh (Nat.le_trans hge (Nat.le_of_lt hlt))) (I.hok.fresh hge) (Nat.ne_of_gt hlt) ?_ fun p' cv hcv => ?_
    · rw [eL]; exact PySem.TriplesOk_snoc _ _ _ _ ht
    · rw [eL] at hcv
      exact among_app _ ht hcv
end
/-! ### its body, entered from anywhere -/
abbrev LF.nf (F : LF) : NdefX.NF := ⟨"<lambda>", F.q, F.ar, [], F.sc, F.cl, F.c⟩
theorem lam_run {P : Program} {w : World} {K : PySem.W.Frag} {mg : Str → Option Value} {base : Heap} {k : Nat} {f : Addr} {F : LF} {N ps fr : List Str} {A : Around} {outer : List Env} {s : Shared} {H : Hp} {us : List Value} {vs : List V} {ws : List (Option V)} {Q : VK} {E : XK} {t : TE}
    (S : NdefX.NScope N ps fr F.sc) (hb : ∀ (pm ctv : Value) (us : List Value), us.length = ps.length → bindArgs (PySem.W.kla_fn "<lambda>" F.q F.ar F.bd F.sc F.cl pm (.ref F.c) ctv) ⟨us, []⟩ = pure (ps.zip us))
    (hr : Room (k + 1) A) (e0 : Env0 P w K mg base A outer s H) (hf : H f = some (LamO f F)) (hc : H F.c = some (CodeO F.c F.q)) (C : NdefX.CellsAt F.cl fr ws s.heap H) (r : Vals vs us) (hl : vs.length = ps.length)
    (hbody : Room k (A.deeper (NdefX.envF F.nf f s.heap.objs.size)) → PE (NdefX.ncx (L2.CX P w) P w K mg base N F.nf f A outer s H E) F.bd t ∧ t (NdefX.startF N vs ws) H Q) :
    codeAny (model P w) A (.call (.ref f) ⟨us, []⟩) (CR (L2.CX P w) outer P w H s Q E) s := by
  have lim : s.heap.NoLimit := e0.mod.nolimit.keeps fun b o e => (e0.bs b o e).1
  obtain ⟨pm, ctv, ho⟩ := lamO_at e0.hok hf
  refine PySem.W.kla_callFunE hr.depth ho rfl S.co S.gen rfl (NdefX.codeO_at e0.hok hc) ?_
  rw [hb pm ctv us (by rw [← r.length]; exact hl)]
  refine wpAny_pure (wpAny_newFunctionEnv S.nocell (fun ⟨n, _⟩ hy => S.par n (List.of_mem_zip hy).1) (fun h₁ hns hsb => ⟨lim.fresh _ hsb, ?_⟩) S.kind)
  have kp : ∀ b o, s.heap.get? b = some o → h₁.get? b = some o := fun b o e => hsb.extBut b o (Nat.ne_of_lt (Heap.lt_size e)) (Heap.get?_push_of_some _ e)
  obtain ⟨hp, hq⟩ := hbody (hr.deeper _)
  have J : Inv (NdefX.ncx (L2.CX P w) P w K mg base N F.nf f A outer s H E) [] (NdefX.startF N vs ws) H { s with heap := h₁, toks := s.toks + (ps.zip us).length } := NdefX.inv_startN S hr.hd e0 hl r C hns kp
  refine PySem.W.kla_codeExpr (wpAny_mono (hp.run [] _ _ H Q J hq) (fun v s' hq => ?_) fun e s' hq => hq)
  obtain ⟨w', H', J', rv, q⟩ := hq
  exact ⟨w', H', J'.os, J'.bare, J'.base, J'.hok, rv, q⟩
end L2.LM
namespace L2.LM
open PySem PySem.Spec PyProof.Rows

/-! ### enumerate over a tuple -/
theorem meets_enumB1 {v : Value} {o : Obj} {H : Heap → Prop} (B : Begins v o H) :
    Meets (Builtin.«enumerate.__new__» ⟨[.type "enumerate", v], []⟩) (fun _ R s => H s.heap ∧
      R (.ok (.ret (.ref (s.heap.push o).objs.size))) { s with heap := (s.heap.push o).push { cls := .type "enumerate", data := .fields #[.none, .bool false, .ref s.heap.objs.size, rawInt 0, .none, .none] } }) :=
  .of_wp fun prog w A R s h => by
    obtain ⟨hp, g, d, tk, os⟩ := s; obtain ⟨h1, h⟩ := h
    have hsub := sub_enumerate
    have q1 : ∀ {A' : Around} {E : Value → Shared → Prop} {Q : Value → Shared → Prop}, Q (.ref hp.objs.size) ⟨hp.push o, g, d, tk, os⟩ → wpAny (model prog w) A' (pyIter v) Q E ⟨hp, g, d, tk, os⟩ :=
      fun q => B.iter prog w _ _ ⟨hp, g, d, tk, os⟩ _ h1 q
    wp_walk using q1
    refine wpAny_stack_any fun st => wpAny_pure ?_
    split
    · rename_i c _ _ _ _ _
      cases (c == Value.type "enumerate")
      · wp_walk using q1
        exact ⟨_, rfl, h⟩
      · wp_walk using q1
        exact ⟨_, rfl, h⟩
    · wp_walk using q1
      exact ⟨_, rfl, h⟩
section
variable {prog : Program} {w : World} {A : Around} {E : Value → Shared → Prop} {s : Shared}
theorem call_enumB1 {v : Value} {o : Obj} {H : Heap → Prop} {Q : Value → Shared → Prop} (B : Begins v o H) (h1 : H s.heap)
    (h : ∀ h', IsEnum h' (s.heap.objs.size + 1) s.heap.objs.size 0 .none → h'.get? s.heap.objs.size = some o → h'.objs.size = s.heap.objs.size + 2 →
      (∀ b o, s.heap.get? b = some o → h'.get? b = some o) → Q (.ref (s.heap.objs.size + 1)) { s with heap := h' }) :
    wpAny (model prog w) A (call (.type "enumerate") [v]) Q E s := by
  refine callType_new F.called_enumerate (by decide) (F.typeCall_enumerate_1 _) (F.newCall_enumerate_1 _) (fun obj => F.args_object_init_2 obj _) F.entry_enumerate_new
    (meets_enumB1 B) ⟨h1, ?_⟩
  have hz : (s.heap.push o).objs.size = s.heap.objs.size + 1 := Heap.size_push ..
  show _ ∧ _
  rw [hz]
  have he : IsEnum ((s.heap.push o).push { cls := .type "enumerate", data := .fields #[.none, .bool false, .ref s.heap.objs.size, rawInt 0, .none, .none] }) (s.heap.objs.size + 1) s.heap.objs.size 0 .none := by
    have := Heap.get?_push_size (s.heap.push o) (o := { cls := .type "enumerate", data := .fields #[.none, .bool false, .ref s.heap.objs.size, rawInt 0, .none, .none] }) rfl
    rw [hz] at this; exact this
  exact ⟨⟨_, he, rfl⟩, h _ he (Heap.get?_push_of_some _ (Heap.get?_push_size _ B.free)) (by rw [Heap.size_push, hz]) fun b o x => Heap.get?_push_of_some _ (Heap.get?_push_of_some _ x)⟩
end
/-- the tuple at a, each item in a new pair -/
def Itte (K : PySem.W.Frag) (a : Addr) : It :=
  ⟨fun i H => ∃ (xs : List V) (x : V), SqT K H a xs ∧ xs[i]? = some x, fun i H v H' => ∃ T x, v = .ref T ∧ H T = none ∧ H' = upd H T (.tup [.int (i : Nat), x]) ∧ ∀ xs, SqT K H a xs → xs[i]? = some x, fun i H => ∃ xs : List V, SqT K H a xs ∧ xs.length = i⟩
theorem turn_enumT {P : Program} {w : World} {K : PySem.W.Frag} {elts : List Expr} {kk : Nat} {tpos : Pos} (a e it : Addr) :
    Turn P w K (.Tuple elts kk tpos) (Itte K a) [e, it] e (fun i h => (∃ old, IsEnum h e it ((i : Nat) : Int) old) ∧ h.IsTupleIter it a i ∧ e ≠ it) where
  mem := by simp
  obj := fun i h st b hb => by
    obtain ⟨⟨old, he⟩, ⟨o, ho, hc, hd⟩, _⟩ := st
    have e' : b = e ∨ b = it := by simpa using hb
    rcases e' with z | z
    · rw [z]; exact ⟨_, he, fun v q => nomatch q⟩
    · rw [z]; exact ⟨o, ho, fun v q => by rw [hd] at q; cases q⟩
  keep := fun i h h' st k => let ⟨⟨old, he⟩, hi, hne⟩ := st; ⟨⟨old, k e (by simp) _ he⟩, hi.at fun o q => k it (by simp) o q, hne⟩
  item := by
    intro X hP hw hK hc i pins s σ H E I hf st hg
    subst hP hw hK
    obtain ⟨⟨old, he⟩, hit, hne⟩ := st
    obtain ⟨xs, x, hq, hx⟩ := hg
    obtain ⟨its, rv, p, hz⟩ := I.tuple hq
    obtain ⟨u, hu, ru⟩ := rv.get hx
    have hel : e < s.heap.objs.size := Heap.lt_size he
    have hil : it < s.heap.objs.size := by obtain ⟨_, q, _⟩ := hit; exact Heap.lt_size q
    have pt : s.heap.IsTuple a its.toArray := p
    have nea : e ≠ a := fun z => by
      obtain ⟨o, ho, hc, _⟩ := pt
      rw [← z] at ho
      rw [show s.heap.get? e = some _ from he] at ho
      cases ho
      exact absurd hc (fun z => nomatch (show Value.type "enumerate" = Value.type "tuple" from z))
    have nia : a ≠ it := fun z => by
      obtain ⟨o, ho, hc, _⟩ := pt
      obtain ⟨o2, ho2, hc2, _⟩ := hit
      rw [z, ho2] at ho
      cases ho
      rw [hc2] at hc
      exact absurd hc (by simp)
    have D := Draws.tuple (prog := X.prog) (w := X.w) (A := X.A.in1) (I.ok.hd hc) it a nia its.toArray
    refine wpAny_pyNext_enum_itemD D he ⟨hit, pt⟩ (by simpa using (List.getElem?_eq_some_iff.mp hu).1) hne (by simp [hne, nea]) fun x' h' tk hx' ho hit' hT hsz hk => ?_
    have hx2 : its[i]? = some x' := by simpa using hx'
    rw [hu] at hx2
    cases hx2
    refine ⟨_, rfl, wpAny_letOwnedTupleGo_enum (s := { s with heap := h', toks := tk + 1 }) ho fun h'' he' sb => ?_⟩
    have hT2 : h''.get? s.heap.objs.size = some { cls := .type "tuple", data := .seq #[.int i tk, u] } := (sb.2 _ (Nat.ne_of_gt hel)).trans hT
    have new : ObjOk X.prog X.w (upd H s.heap.objs.size (.tup [.int (i : Nat), x])) h'' s.heap.objs.size (.tup [.int (i : Nat), x]) :=
      ⟨by show 2 ≤ sizeLine; decide, [.int i tk, u], .cons ⟨_, rfl⟩ (.cons ru .nil), ⟨_, hT2, rfl, _, rfl⟩⟩
    have I1 : Inv X pins σ (upd H s.heap.objs.size (.tup [.int (i : Nat), x])) { s with heap := h'', toks := tk + 1 } :=
      I.turnedNew (ch := [e, it]) (fun b ob hb q => (sb.2 b (fun z => hb (by simp [z]))).trans (hk b ob (fun z => hb (by simp [z])) (fun z => hb (by simp [z])) q)) hf (Nat.le_refl _) new
    refine ⟨.ref s.heap.objs.size, _, I1, rfl, ⟨_, x, rfl, I.hok.fresh (Nat.le_refl _), rfl, fun ys hy => by rw [I.tuple_inj hy hq]; exact hx⟩, ⟨⟨u, ?_⟩, hit'.1.at fun o q => (sb.2 it (Ne.symm hne)).trans q, hne⟩, fun b hb => ?_⟩
    · have e1 : ((i + 1 : Nat) : Int) = (i : Int) + 1 := by omega
      rw [e1]; exact he'
    · have hb' : b < s.heap.objs.size := by
        have e' : b = e ∨ b = it := by simpa using hb
        rcases e' with z | z
        · rw [z]; exact hel
        · rw [z]; exact hil
      rw [upd_ne (Nat.ne_of_lt hb')]
      exact (hf b hb).1
  done := by
    intro X hP hw hK hc i pins s σ H E I hf st hg
    subst hP hw hK
    obtain ⟨⟨old, he⟩, hit, hne⟩ := st
    obtain ⟨xs, hq, hx⟩ := hg
    obtain ⟨its, rv, p, hz⟩ := I.tuple hq
    obtain ⟨f0, f1, f2, f3, f4, f5⟩ := hf it (by simp)
    have hl := rv.length
    have pt : s.heap.IsTuple a its.toArray := p
    have nia : a ≠ it := fun z => by
      obtain ⟨o, ho, hc, _⟩ := pt
      obtain ⟨o2, ho2, hc2, _⟩ := hit
      rw [z, ho2] at ho
      cases ho
      rw [hc2] at hc
      exact absurd hc (by simp)
    have D := Draws.tuple (prog := X.prog) (w := X.w) (A := X.A.in1) (I.ok.hd hc) it a nia its.toArray
    have ei : its.toArray.size = i := by simp; omega
    exact wpAny_pyNext_enum_endD D he (by rw [ei]; exact ⟨hit, pt⟩) fun h' eb => ⟨rfl, I.turned (t' := s.toks) (fun b o hb q => eb b o hb q) f0 f1 f3 f4 f5⟩
  self := fun A i s Q E st h => let ⟨⟨_, he⟩, _⟩ := st; wpAny_pyIter_enum he h
def iEnumA (K : PySem.W.Frag) (ta : TA) : TI := fun σ H R => ta σ H fun vs H1 => ∃ a, vs = [.ref a] ∧ ((∃ xs, SqL K H1 a xs ∧ R (Ite K a) H1) ∨ (∃ xs, SqT K H1 a xs ∧ R (Itte K a) H1))
theorem pi_enumA {X : Cx} {e : Expr} {ta : TA} {p pos tpos : Pos} {elts : List Expr} {kk : Nat} (hg : Gl X "enumerate") (hm : X.mg "enumerate" = none) (ha : PA X [e] ta) (hs : starEach [e] X.env = [(false, eval e X.env)] := by rfl) :
    PI X (.Tuple elts kk tpos) (.Call (.Name "enumerate" p) [e] [] pos) (iEnumA X.K ta) := by
  refine ⟨fun pins s σ H R I h => ?_⟩
  refine Call_ (ld_blt I hg hm boot_enumerate (PyProof.Rows.callWith_type1 (thn (ha.run pos pins s σ H _ I h) fun us s1 ⟨vs, H1, I1, r1, q1⟩ => ?_) hs rfl))
  obtain ⟨a, ex, q⟩ := q1
  subst ex
  cases r1 with
  | cons r rr =>
    cases rr
    cases r
    have fp : ∀ b ∈ [s1.heap.objs.size + 1, s1.heap.objs.size], FpOk X pins H1 b := fun b hb => by
      have e' : b = s1.heap.objs.size + 1 ∨ b = s1.heap.objs.size := by simpa using hb
      have hle : s1.heap.objs.size ≤ b := by
        rcases e' with z | z
        · rw [z]; exact Nat.le_add_right _ _
        · rw [z]; exact Nat.le_refl _
      exact I1.fpOk hle (I1.hok.fresh hle)
    rcases q with ⟨xs, hq, q⟩ | ⟨xs, hq, q⟩
    · obtain ⟨its, rv, p', hz⟩ := I1.list hq
      refine call_enumerate_list p'.isList fun h' he hit hsz hk => wpAny_pyIter_enum he ?_
      have I2 : Inv X pins σ H1 { s1 with heap := h' } := I1.kept (t' := s1.toks) hk
      exact ⟨s1.heap.objs.size + 1, [s1.heap.objs.size + 1, s1.heap.objs.size], _, _, H1, rfl, I2, turn_enum a (s1.heap.objs.size + 1) s1.heap.objs.size, ⟨⟨.none, he⟩, hit, Nat.succ_ne_self _⟩, fp, q⟩
    · obtain ⟨its, rv, p', hz⟩ := I1.tuple hq
      refine call_enumB1 (begins_tuple a its.toArray) p' fun h' he hit hsz hk => wpAny_pyIter_enum he ?_
      have I2 : Inv X pins σ H1 { s1 with heap := h' } := I1.kept (t' := s1.toks) hk
      exact ⟨s1.heap.objs.size + 1, [s1.heap.objs.size + 1, s1.heap.objs.size], _, _, H1, rfl, I2, turn_enumT a (s1.heap.objs.size + 1) s1.heap.objs.size, ⟨⟨.none, he⟩, ⟨_, hit, rfl, rfl⟩, Nat.succ_ne_self _⟩, fp, q⟩
end L2.LM
namespace L2.LM
open PySem PySem.Spec PyProof.Rows

/-! ### builtins over tuples of ints -/
section
variable {prog : Program} {w : World} {A : Around} {E : Value → Shared → Prop} {s : Shared} {t : Addr} {its : List Value} {ns : List Int}
theorem sum_rawT {Q : Value → Shared → Prop} (hh : A.handled = none) (hl : s.heap.IsTuple t its.toArray) (hi : IntsAre its ns)
    (h : ∀ h' tk t', (∀ b o, s.heap.get? b = some o → h'.get? b = some o) → Q (.int ns.sum t') { s with heap := h', toks := tk }) : wpAny (model prog w) A (call (.builtin "sum") [.ref t]) Q E s := by
  obtain ⟨xs, e⟩ := hi.allInts.items
  have hn : numsOf (intItems xs).toList = ns := by rw [← e]; exact hi.numsOf
  rw [nums_intItems] at hn
  rw [e] at hl
  refine PySem.W.ktm_sumG hh hl fun h' tk t' hk => ?_
  have := h h' tk t' hk
  rw [preSum_eq, List.take_of_length_le (by simp), hn]; exact this
theorem iter_intTup {xs : Array (Int × Tok)} {Q : Value → Shared → Prop} (hl : s.heap.IsTuple t (intItems xs))
    (h : ∀ s₂ : Shared, s₂ = { s with heap := s.heap.push { cls := .type "tuple_iterator", data := .fields #[.ref t, .int 0 0] } } →
      (s₂.heap.IsTupleIter s.heap.objs.size t 0 ∧ s₂.heap.IsTuple t (intItems xs)) → (∀ b ∈ [s.heap.objs.size, t], b < s₂.heap.objs.size) → t ≠ s.heap.objs.size → Q (.ref s.heap.objs.size) s₂) :
    wpAny (model prog w) A (pyIter (.ref t)) Q E s := by
  have hlt : t < s.heap.objs.size := by obtain ⟨_, e, _⟩ := hl; exact Heap.lt_size e
  refine wpAny_pyIter_tuple hl (h _ rfl ⟨⟨_, Heap.get?_push_size _ rfl, rfl, rfl⟩, hl.at fun o e => Heap.get?_push_of_some _ e⟩ (fun b hb => ?_) (Nat.ne_of_lt hlt))
  show b < (s.heap.push _).objs.size
  rw [Heap.size_push]
  rcases List.mem_cons.mp hb with rfl | hb
  · exact Nat.lt_succ_self _
  · rcases List.mem_cons.mp hb with rfl | hb
    · exact Nat.lt_succ_of_lt hlt
    · cases hb
theorem old_keptT {h' : Heap} (hk : ∀ b o, b ∉ [s.heap.objs.size] → (s.heap.push { cls := .type "tuple_iterator", data := .fields #[.ref t, .int 0 0] }).get? b = some o → h'.get? b = some o) :
    ∀ b o, s.heap.get? b = some o → h'.get? b = some o := fun b o e => by
  refine hk b o (fun hm => ?_) (Heap.get?_push_of_some _ e)
  have e1 : b = s.heap.objs.size := by simpa using hm
  exact absurd (e1 ▸ Heap.lt_size e) (Nat.lt_irrefl _)
theorem max_rawT {Q : Value → Shared → Prop} (hh : A.handled = none) (hl : s.heap.IsTuple t its.toArray) (hi : IntsAre its ns) (hne : 0 < ns.length)
    (h : ∀ h' tk M t', (∀ b o, s.heap.get? b = some o → h'.get? b = some o) → M ∈ ns → (∀ a, a ∈ ns → a ≤ M) → Q (.int M t') { s with heap := h', toks := tk }) : wpAny (model prog w) A (call (.builtin "max") [.ref t]) Q E s := by
  obtain ⟨xs, e⟩ := hi.allInts.items
  have hn : numsOf (intItems xs).toList = ns := by rw [← e]; exact hi.numsOf
  rw [nums_intItems] at hn
  subst hn
  rw [e] at hl
  have hsz : 0 < xs.size := by simpa using hne
  refine call_max_walk (iter_intTup hl fun s₂ e st hfp hlI => ?_)
  subst e
  refine ⟨_, _, _, _, _, _, _, rfl, Walks.tuple (A := A.in1) hh _ t hlI (intItems xs), st, hfp, by simpa [intItems] using hsz, CmpOf.ints_gt (numAt xs) (fun _ _ => intItems_at), fun v h' tk hP hk => ?_⟩
  have hv : (intItems xs)[argBest (fun i j => decide (numAt xs i > numAt xs j)) (xs.size - 1)]? = some v := by simpa [intItems] using hP
  obtain ⟨t, rfl⟩ := intItems_at hv
  obtain ⟨h1, h2⟩ := argBest_gt (numAt xs) (xs.size - 1)
  refine h h' tk _ t (old_keptT hk) ?_ fun a ha => ?_
  · rw [numAt_eq]; exact PySem.getD_mem (by rw [List.length_map, Array.length_toList]; omega)
  · obtain ⟨j, hj, rfl⟩ := mem_getD ha
    rw [List.length_map, Array.length_toList] at hj
    rw [← numAt_eq]; exact h2 j (by omega)
theorem min_rawT {Q : Value → Shared → Prop} (hh : A.handled = none) (hl : s.heap.IsTuple t its.toArray) (hi : IntsAre its ns) (hne : 0 < ns.length)
    (h : ∀ h' tk M t', (∀ b o, s.heap.get? b = some o → h'.get? b = some o) → M ∈ ns → (∀ a, a ∈ ns → M ≤ a) → Q (.int M t') { s with heap := h', toks := tk }) : wpAny (model prog w) A (call (.builtin "min") [.ref t]) Q E s := by
  obtain ⟨xs, e⟩ := hi.allInts.items
  have hn : numsOf (intItems xs).toList = ns := by rw [← e]; exact hi.numsOf
  rw [nums_intItems] at hn
  subst hn
  rw [e] at hl
  have hsz : 0 < xs.size := by simpa using hne
  refine call_min_walk (iter_intTup hl fun s₂ e st hfp hlI => ?_)
  subst e
  refine ⟨_, _, _, _, _, _, _, rfl, Walks.tuple (A := A.in1) hh _ t hlI (intItems xs), st, hfp, by simpa [intItems] using hsz, CmpOf.ints_lt (numAt xs) (fun _ _ => intItems_at), fun v h' tk hP hk => ?_⟩
  have hv : (intItems xs)[argBest (fun i j => decide (numAt xs i < numAt xs j)) (xs.size - 1)]? = some v := by simpa [intItems] using hP
  obtain ⟨t, rfl⟩ := intItems_at hv
  obtain ⟨h1, h2⟩ := argBest_lt (numAt xs) (xs.size - 1)
  refine h h' tk _ t (old_keptT hk) ?_ fun a ha => ?_
  · rw [numAt_eq]; exact PySem.getD_mem (by rw [List.length_map, Array.length_toList]; omega)
  · obtain ⟨j, hj, rfl⟩ := mem_getD ha
    rw [List.length_map, Array.length_toList] at hj
    rw [← numAt_eq]; exact h2 j (by omega)
theorem collect_tup {l : Addr} {vs : List Value} {Q : List Value → Shared → Prop} (hl : s.heap.IsTuple l vs.toArray)
    (h : Q vs { s with heap := (s.heap.push (seqObj "list" #[] 0)).update s.heap.objs.size (Obj.mapSeq (· ++ vs.toArray)) }) (hsz : vs.length ≤ sizeLine := by size_fits) :
    wpAny (model prog w) A (collect (.ref l)) Q E s := by
  obtain ⟨o, ho, hc, n, hd⟩ := id hl
  unfold collect
  refine wpAny_bind (wpAny_runValue (codeAny_builtin entry_proto_collect' ?_))
  show wpAny _ _ (do again (.builtin "list.__iadd__" ⟨[← newList [], .ref l], []⟩)) _ _ s
  refine wpAny_bind (wpAny_newList (wpAny_pure ⟨Code.quiet_builtin _ (by decide +kernel), codeAny_builtin entry_list_iadd' ?_⟩))
  show wpAny _ _ (Builtin.List.listExtendWith (.ref s.heap.objs.size) (.ref l) (.ref s.heap.objs.size)) _ _ { s with heap := s.heap.push (seqObj "list" #[] 0) }
  unfold Builtin.List.listExtendWith
  have ho' : (s.heap.push (seqObj "list" #[] 0)).get? l = some o := Heap.get?_push_of_some _ ho
  refine wpAny_bind (wpAny_typeOf (T := "tuple") ⟨o, ho', hc⟩ ?_)
  have ht : (Value.type "tuple" == Value.type "tuple") = true := by rfl
  rw [if_pos (by rw [ht]; simp)]
  refine wpAny_bind (listItems_at ho' hd ?_)
  refine wpAny_bind (listItems_at (xs := #[]) (n := 0) (Heap.get?_push_size _ rfl) rfl ?_)
  rw [if_neg (by simp)]
  refine wpAny_bind (listUpdate_at (xs := #[]) (n := 0) (Heap.get?_push_size _ rfl) rfl ?_ (Nat.zero_le _) (by show (#[] ++ vs.toArray).size ≤ sizeLine + 1; simp only [Array.size_append, List.size_toArray, List.length_nil]; omega))
  refine wpAny_pure ?_
  show wpAny (model prog w) A (do
      let o ← load s.heap.objs.size
      match o.data with
      | .seq xs _ => pure xs.toList
      | _ => unsupported "internal:collect") Q E { s with heap := (s.heap.push (seqObj "list" #[] 0)).update s.heap.objs.size (Obj.mapSeq (· ++ vs.toArray)) }
  refine wpAny_bind (wpAny_load (get?_update_seq (Heap.get?_push_size _ rfl) _) ?_)
  show wpAny _ _ (pure ((#[] : Array Value) ++ vs.toArray).toList) Q E _
  rw [show ((#[] : Array Value) ++ vs.toArray).toList = vs by simp]
  exact wpAny_pure h
end
section
variable {prog : Program} {w : World} {A : Around} {E : Value → Shared → Prop} {s : Shared}
open SrtO Srt in
theorem sorted_ordT {l : Addr} {vs : List Value} {ltv : Value → Value → Bool} {Q : Value → Shared → Prop} (O : Swo ltv) (hl : s.heap.IsTuple l vs.toArray) (hz : vs.length ≤ sizeLine)
    (hS : 2 ≤ vs.length → ∀ (h₁ : Heap) (a : Addr), h₁.get? a = some (seqObj "list" vs.toArray 0) → (∀ b o, s.heap.get? b = some o → b ≠ a ∧ h₁.get? b = some o) → SortableO prog w A.in1.in1 { s with heap := h₁ } a vs ltv)
    (h : ∀ out : List Value, Srtd ltv out → Stb ltv out vs → Q (.ref (s.heap.objs.size + 1)) { s with heap := sortedAll s.heap vs out.toArray }) :
    wpAny (model prog w) A (call (.builtin "sorted") [.ref l]) Q E s := by
  refine Calls.call_function_entry kind_sorted plain_sorted entry_sorted (args_sorted1 _) ?_
  unfold Builtin.«sorted»
  refine wpAny_bind (m := checkCount "sorted" 1 1 _) (wpAny_pure ?_)
  refine wpAny_bind (collect_tup hl ?_ hz)
  refine wpAny_bind (wpAny_newList ?_ hz)
  have hsz : ((s.heap.push (seqObj "list" #[] 0)).update s.heap.objs.size (Obj.mapSeq (· ++ vs.toArray))).objs.size = s.heap.objs.size + 1 := by
    rw [Heap.size_update, size_push']
  have hoL : (((s.heap.push (seqObj "list" #[] 0)).update s.heap.objs.size (Obj.mapSeq (· ++ vs.toArray))).push (seqObj "list" vs.toArray 0)).get? (s.heap.objs.size + 1) = some (seqObj "list" vs.toArray 0) := by
    rw [← hsz]; exact Heap.get?_push_size _ rfl
  have keep : ∀ b o, s.heap.get? b = some o → b ≠ s.heap.objs.size + 1 ∧ (((s.heap.push (seqObj "list" #[] 0)).update s.heap.objs.size (Obj.mapSeq (· ++ vs.toArray))).push (seqObj "list" vs.toArray 0)).get? b = some o := fun b o q => by
    have hlt : b < s.heap.objs.size := Heap.lt_size q
    refine ⟨Nat.ne_of_lt (Nat.lt_succ_of_lt hlt), Heap.get?_push_of_some _ ?_⟩
    rw [Heap.get?_update_ne _ _ _ _ (Nat.ne_of_lt hlt)]
    exact Heap.get?_push_of_some _ q
  show wpAny _ _ _ _ _ { s with heap := ((s.heap.push (seqObj "list" #[] 0)).update s.heap.objs.size (Obj.mapSeq (· ++ vs.toArray))).push (seqObj "list" vs.toArray 0) }
  rw [hsz]
  refine wpAny_bind (wpAny_holding (wpAny_call_entry slot_list_sort ⟨_, hoL, rfl⟩ entry_list_sort (list_sort_ord O hoL hz (fun h2 => hS h2 _ _ hoL keep) fun out hs hb => ⟨_, rfl, ?_⟩) (args_list_sort _)))
  exact wpAny_pure ⟨_, rfl, h out hs hb⟩
end
section
variable {X : Cx}
def rSumT (K : PySem.W.Frag) : List V → Hp → VK → Prop := fun vs H Q => ∃ (a : Addr) (ns : List Int), vs = [V.ref a] ∧ SqT K H a (ns.map V.int) ∧ Q (.int ns.sum) H
def rMaxT (K : PySem.W.Frag) : List V → Hp → VK → Prop := fun vs H Q => ∃ (a : Addr) (ns : List Int), vs = [V.ref a] ∧ SqT K H a (ns.map V.int) ∧ 0 < ns.length ∧ ∀ m, m ∈ ns → (∀ y, y ∈ ns → y ≤ m) → Q (.int m) H
def rMinT (K : PySem.W.Frag) : List V → Hp → VK → Prop := fun vs H Q => ∃ (a : Addr) (ns : List Int), vs = [V.ref a] ∧ SqT K H a (ns.map V.int) ∧ 0 < ns.length ∧ ∀ m, m ∈ ns → (∀ y, y ∈ ns → m ≤ y) → Q (.int m) H
def rSortedIT (K : PySem.W.Frag) : List V → Hp → VK → Prop := fun vs H Q => ∃ (a : Addr) (ns : List Int), vs = [V.ref a] ∧ SqT K H a (ns.map V.int) ∧
  ∀ (ns' : List Int) (p : Addr), ns'.Perm ns → ns'.Pairwise (· ≤ ·) → H p = none → Q (.ref p) (upd H p (.lst (ns'.map V.int)))
theorem cr_sumT (hc : X.calm = true) : CallR X (.builtin "sum") (rSumT X.K) := by
  intro pins s σ H vs us Q I r h
  obtain ⟨a, ns, rfl, hs, q⟩ := h
  obtain ⟨its, rv, hl, _⟩ := I.tuple hs
  rw [Vals.ref1 r]
  exact sum_rawT (I.ok.hd hc) hl rv.ints fun h' tk t' hk => ⟨.int _, H, I.kept hk, ⟨_, rfl⟩, q⟩
theorem cr_maxT (hc : X.calm = true) : CallR X (.builtin "max") (rMaxT X.K) := by
  intro pins s σ H vs us Q I r h
  obtain ⟨a, ns, rfl, hs, hne, q⟩ := h
  obtain ⟨its, rv, hl, _⟩ := I.tuple hs
  rw [Vals.ref1 r]
  exact max_rawT (I.ok.hd hc) hl rv.ints hne fun h' tk m t' hk h1 h2 => ⟨.int _, H, I.kept hk, ⟨_, rfl⟩, q m h1 h2⟩
theorem cr_minT (hc : X.calm = true) : CallR X (.builtin "min") (rMinT X.K) := by
  intro pins s σ H vs us Q I r h
  obtain ⟨a, ns, rfl, hs, hne, q⟩ := h
  obtain ⟨its, rv, hl, _⟩ := I.tuple hs
  rw [Vals.ref1 r]
  exact min_rawT (I.ok.hd hc) hl rv.ints hne fun h' tk m t' hk h1 h2 => ⟨.int _, H, I.kept hk, ⟨_, rfl⟩, q m h1 h2⟩
theorem cr_sortedIT : CallR X (.builtin "sorted") (rSortedIT X.K) := by
  intro pins s σ H vs us Q I r h
  obtain ⟨a, ns, rfl, hs, q⟩ := h
  obtain ⟨its, rv, hl, hz⟩ := I.tuple hs
  rw [Vals.ref1 r]
  have hi := rv.ints
  refine sorted_ordT SrtO.swo_int hl (by rw [← rv.length]; exact hz) (fun h2 h₁ a' _ _ => SrtO.ints_sortable hi h2) fun out h1 h2 => ?_
  obtain ⟨k1, k2, k3⟩ := SrtO.ints_out hi h1 h2
  obtain ⟨ep, he'⟩ := PyProof.Rows.sortedAll_at s.heap its out.toArray
  have hlen : ((out.map SrtO.iv).map V.int).length ≤ sizeLine := by
    rw [List.length_map, k2.length_eq]
    rw [List.length_map] at hz
    exact hz
  exact ⟨.ref _, upd H (s.heap.objs.size + 1) (.lst ((out.map SrtO.iv).map V.int)), I.laid (t' := s.toks) (fun _ _ => PyProof.Rows.sortedAll_old) (Nat.le_succ _) ⟨hlen, out, ep, vals_of_ints k1, he'⟩, rfl, q _ _ k2 k3 (I.hok.fresh (Nat.le_succ _))⟩
def rCntT (K : PySem.W.Frag) : V → List V → Hp → VK → Prop := fun x xs H Q => ∃ (p : Addr) (ns : List Int) (k : Int), x = .ref p ∧ xs = [.int k] ∧ SqT K H p (ns.map V.int) ∧ Q (.int (ns.count k : Nat)) H
theorem mt_tcount : MtR X "tuple.count" (rCntT X.K) := by
  intro pins s σ H x xs v us Q I rx rxs h
  obtain ⟨p, ns, k, rfl, rfl, hs, q⟩ := h
  cases rx
  obtain ⟨u, rfl, ru⟩ := rxs.one
  obtain ⟨t, rfl⟩ := ru
  obtain ⟨its, rv, ⟨⟨cls, dd, data, sl⟩, ho, hc, n, hd⟩, hlen⟩ := I.tuple hs
  simp only at hc hd
  subst hc hd
  have hi := ints_of_vals rv
  refine call_meets PySem.F.slot_tuple_count ⟨_, ho, rfl⟩ PySem.F.entry_tuple_count (PySem.F.args_tuple_count_2 _ _)
    (SeqAt.tuple_countAt p its.toArray n dd sl (.int k t) (eqk k)) ⟨ho, fun y hy => (eqk_gives hi y (by simpa using hy)).at _ _, ?_⟩
  have ec : its.toArray.toList.countP (eqk k) = ns.count k := eqk_count hi
  refine ⟨.int (ns.count k : Nat), H, I.tok _, ⟨s.toks, ?_⟩, q⟩
  show Value.int ((its.toArray.toList.countP (eqk k) : Nat) : Int) s.toks = Value.int ((ns.count k : Nat) : Int) s.toks
  rw [ec]
end
/-! ### a tuple times 1, times 0 -/
theorem tuple_mul1 (l : Addr) (items : Array Value) (n : Nat) (dd : Option Addr) (sl : Array (Option Value)) (u : Tok) :
    Meets (Builtin.«tuple.__mul__» ⟨[.ref l, .int 1 u], []⟩) (fun _ R s => s.heap.get? l = some { cls := .type "tuple", dict := dd, data := .seq items n, slots := sl } ∧ R (.ok (.ret (Value.ref l))) s) :=
  .of_wp fun prog w A R s h => by
    obtain ⟨hp, g, d, tk, os⟩ := s
    obtain ⟨hl, h⟩ := h
    have f1 := AutoSeq1.idx_int
    wp_walk using wpAny_loadPart' hl
    exact ⟨_, rfl, h⟩
theorem tuple_mul0 (l : Addr) (items : Array Value) (n : Nat) (dd : Option Addr) (sl : Array (Option Value)) (x : Int) (u : Tok) (h0 : -(2 ^ 63) ≤ x) (h1 : x ≤ 0) (hi : items.isEmpty = false) :
    Meets (Builtin.«tuple.__mul__» ⟨[.ref l, .int x u], []⟩) (fun _ R s => s.heap.get? l = some { cls := .type "tuple", dict := dd, data := .seq items n, slots := sl } ∧
      R (.ok (.ret (Value.ref s.heap.objs.size))) { s with heap := s.heap.push { cls := Value.type "tuple", data := Data.seq #[] } }) :=
  .of_wp fun prog w A R s h => by
    obtain ⟨hp, g, d, tk, os⟩ := s
    obtain ⟨hl, h⟩ := h
    have f1 := AutoSeq1.idx_int
    have c0 : (decide (x < -(2 ^ 63)) || decide (x ≥ 2 ^ 63)) = false := by
      rw [decide_eq_false (by omega), decide_eq_false (by omega)] <;> rfl
    have c1 : (items.isEmpty || x == 1) = false := by
      rw [hi, Bool.false_or]
      exact beq_eq_false_iff_ne.mpr (by omega)
    have c2 : (decide (x ≤ 0) || items.isEmpty) = true := by rw [decide_eq_true h1] <;> rfl
    wp_walk using wpAny_loadPart' hl
    repeat (first
      | (refine wpAny_ite_false (decide_eq_false (by rw [c0]; exact Bool.false_ne_true)) ?_; wp_walk using wpAny_loadPart' hl)
      | (refine wpAny_ite_false (decide_eq_false (by rw [c1]; exact Bool.false_ne_true)) ?_; wp_walk using wpAny_loadPart' hl)
      | (refine wpAny_ite_true (decide_eq_true c2) ?_; wp_walk using wpAny_loadPart' hl))
    exact ⟨_, rfl, h⟩
def rRepT1 (K : PySem.W.Frag) : R2 := fun x y H Q => ∃ l k xs, x = .ref l ∧ y = .int k ∧ SqT K H l xs ∧ xs ≠ [] ∧ ((k = 1 ∧ Q (.ref l) H) ∨ (-(2 ^ 63) ≤ k ∧ k ≤ 0 ∧ ∀ p, H p = none → Q (.ref p) (upd H p (.tup []))))
theorem op_repT1 {X : Cx} : OpR X (binaryOp .Mult) (rRepT1 X.K) := by
  intro pins s σ H x y v u Q I rx ry h
  obtain ⟨l, k, xs, rfl, rfl, hT, hne, h⟩ := h
  cases rx
  obtain ⟨t, rfl⟩ := ry
  obtain ⟨its, r, ⟨⟨cls, dd, data, sl⟩, ho, hc, n, hd⟩, hs⟩ := I.tuple hT
  simp only at hc hd
  subst hc hd
  have hle : its.length = xs.length := r.length.symm
  have hi : its.toArray.isEmpty = false := by
    cases its with
    | nil => exact absurd (List.eq_nil_of_length_eq_zero hle.symm) hne
    | cons a b => rfl
  refine wpAny_binaryOp_repeat_ref (T := "tuple") (U := "int") (by decide) ⟨_, ho, rfl⟩ (fun s' => typeIs_int s' k t) noFill_tuple_mul F.fills_int_mul F.slot_int_rmul repeat_tuple F.slot_int_index.lookup
    (call_meets F.slot_int_rmul (typeIs_int s k t) F.entry_int_rmul (F.args_int_rmul_2 _ _) (int_rmul_tuple k t l its.toArray n dd sl)
      ⟨ho, rfl, ⟨_, ho, rfl⟩, ?_⟩)
  rcases h with ⟨rfl, q⟩ | ⟨h0, h1, q⟩
  · exact call_meets F.slot_tuple_mul ⟨_, ho, rfl⟩ F.entry_tuple_mul (F.args_tuple_mul_2 _ _) (tuple_mul1 l its.toArray n dd sl t) ⟨ho, .ref l, H, I, rfl, q⟩
  · exact call_meets F.slot_tuple_mul ⟨_, ho, rfl⟩ F.entry_tuple_mul (F.args_tuple_mul_2 _ _) (tuple_mul0 l its.toArray n dd sl k t h0 h1 hi)
      ⟨ho, .ref s.heap.objs.size, _, I.laid (t' := s.toks) (o := .tup []) (fun b ob q => Heap.get?_push_of_some _ q) (Nat.le_refl _) ⟨Nat.zero_le _, [], .nil, IsTup.new _ _⟩, rfl, q _ (I.hok.fresh (Nat.le_refl _))⟩
end L2.LM
namespace L2.LM
open PySem PySem.Spec PyProof.Rows

/-! ### unlike ints -/
def ddup (ns : List Int) : List Int := ns.foldl step_dedup []
theorem ddup_mem' : ∀ {ns σ : List Int} {k : Int}, k ∈ ns.foldl step_dedup σ ↔ k ∈ σ ∨ k ∈ ns
  | [], _, _ => by simp
  | n :: ns, σ, k => by
    rw [List.foldl_cons, ddup_mem']
    unfold step_dedup
    split
    · rename_i h
      obtain ⟨x, hx, e⟩ := List.any_eq_true.mp h
      have e' : x = n := by simpa using e
      subst e'
      constructor
      · rintro (z | z)
        · exact .inl z
        · exact .inr (List.mem_cons_of_mem _ z)
      · rintro (z | z)
        · exact .inl z
        · rcases List.mem_cons.mp z with rfl | z
          · exact .inl hx
          · exact .inr z
    · simp only [List.mem_append, List.mem_cons, List.not_mem_nil, or_false, or_assoc]
theorem ddup_nd' : ∀ {ns σ : List Int}, σ.Nodup → (ns.foldl step_dedup σ).Nodup
  | [], _, h => h
  | n :: ns, σ, h => by
    rw [List.foldl_cons]
    refine ddup_nd' ?_
    unfold step_dedup
    split
    · exact h
    · rename_i hn
      rw [List.nodup_append]
      refine ⟨h, by simp, fun a ha b hb e => hn ?_⟩
      rw [List.mem_singleton.mp hb] at e
      subst e
      exact List.any_eq_true.mpr ⟨_, ha, by simp⟩
theorem ddup_mem {ns : List Int} {k : Int} : k ∈ ddup ns ↔ k ∈ ns := by unfold ddup; rw [ddup_mem']; simp
theorem ddup_nd {ns : List Int} : (ddup ns).Nodup := ddup_nd' List.nodup_nil
theorem ddup_len {ns L : List Int} (h : L.Nodup) (m : ∀ k, k ∈ L ↔ k ∈ ns) : L.length = (ddup ns).length :=
  ((List.perm_ext_iff_of_nodup h ddup_nd).mpr fun k => (m k).trans ddup_mem.symm).length_eq
theorem firstMet_all {ns : List Int} {n : Nat} (hn : n = ns.length) : firstMet (fun i => ns.getD i 0) n = ddup ns := by
  unfold firstMet ddup
  congr 1
  subst hn
  apply List.ext_getElem?
  intro i
  rw [List.getElem?_map]
  by_cases h : i < ns.length
  · rw [List.getElem?_range h, List.getElem?_eq_getElem h]
    simp [h]
  · rw [List.getElem?_eq_none (by simpa using h), List.getElem?_eq_none (by simpa using h)]
    rfl
section
variable {X : Cx}
def tLenSetA (K : PySem.W.Frag) (ta : TE) : TE := fun σ H Q => ta σ H fun x H1 => ∃ (l : Addr) (ns : List Int), x = V.ref l ∧ (SqL K H1 l (ns.map V.int) ∨ SqT K H1 l (ns.map V.int)) ∧ ns.length ≤ 1000 ∧ Q (.int (ddup ns).length) H1
theorem pe_lenSetA {a : Expr} {ta : TE} {p p2 q pos : Pos} (hc : X.calm = true) (hg : Gl X "len") (hm : X.mg "len" = none) (hg2 : Gl X "set") (hm2 : X.mg "set" = none) (ha : PE X a ta)
    (na : starEach [a] X.env = (false, eval a X.env) :: starEach [] X.env) : PE X (.Call (.Name "len" p) [.Call (.Name "set" p2) [a] [] q] [] pos) (tLenSetA X.K ta) := by
  refine ⟨fun pins s σ H Q I h => ?_⟩
  refine Call_ (ld_blt I hg hm PySem.boot_len ?_)
  refine PyProof.Rows.callWith_builtin1 (PyProof.Rows.args_cons ?_ rfl) rfl rfl
  refine Call_ (ld_blt I hg2 hm2 PyProof.Rows.boot_set ?_)
  refine PyProof.Rows.callWith_type1 (PyProof.Rows.args_cons (thn (ha.run pins s σ H _ I h) fun v s1 ⟨x, H1, I1, r1, q1⟩ => PyProof.Rows.args_nil ?_) na) na rfl
  obtain ⟨l, ns, rfl, hq, h1, q1⟩ := q1
  cases r1
  rcases hq with hq | hq
  · obtain ⟨its, r, pl, hz⟩ := I1.list hq
    have hl : its.toArray.size = ns.length := by rw [List.size_toArray, ← r.length, List.length_map]
    refine call_set_list (I1.ok.hd hc) pl.isList (ns := ns) (by simpa using r.ints) (by unfold scanBound; omega) fun h' tk hS hk => ?_
    rw [firstMet_all hl] at hS
    refine PyProof.Rows.args_nil ?_
    obtain ⟨o, es, ep, t, ho, hex, hd, _, _, hsb, hf, hn⟩ := hS
    have I2 : Inv X pins σ H1 { s1 with heap := h', toks := tk } := I1.kept fun b o e => hk b o (Heap.lt_size e) e
    refine call_len_set ho hex hd hf (by unfold scanBound at hsb; omega) ⟨.int (ddup ns).length, H1, I2.tok _, ⟨_, by rw [hn]⟩, q1⟩
  · obtain ⟨its, r, pl, hz⟩ := I1.tuple hq
    refine call_set_tupI (P := X.prog) (w := X.w) ns (I1.ok.hd hc) (show s1.heap.IsTuple l its.toArray from pl) (by simpa using r.ints) (by unfold scanBound; omega) fun h' tk c hS hc' hk => ?_
    refine PyProof.Rows.args_nil ?_
    obtain ⟨o, es, ep, t, ho, hex, hd, _, hnd, hmem, hsb, hf, hn, _⟩ := hS
    have I2 : Inv X pins σ H1 { s1 with heap := h', toks := tk } := I1.kept hk
    have el : es.size = (ddup ns).length := by
      have := ddup_len (ns := ns) hnd fun k => by rw [← hmem k]; simp
      rw [List.length_map, Array.length_toList] at this
      exact this
    refine call_len_set ho hex hd hf (by unfold scanBound at hsb; omega) ⟨.int (ddup ns).length, H1, I2.tok _, ⟨_, by rw [el]⟩, q1⟩
end
/-! ### xs[::-1] of a list, of a tuple -/
section
variable {prog : Program} {w : World} {A : Around} {E : Value → Shared → Prop} {s : Shared}
open PySem.W in
theorem adjust_rev (n : Nat) : Builtin.Slice.sliceAdjust none none (-1) (n : Int) = ((n : Int) - 1, -1) := by
  unfold Builtin.Slice.sliceAdjust
  simp
theorem places_rev (n : Nat) : Builtin.Slice.slicePlaces ((n : Int) - 1) (-1) (-1) = n := by
  unfold Builtin.Slice.slicePlaces
  have h1 : ¬ (-1 : Int) > 0 := by omega
  simp only [h1, if_false]
  by_cases h : (n : Int) - 1 > -1
  · rw [if_pos h, show (- (-1 : Int)) = 1 by decide, Int.ediv_one]; omega
  · rw [if_neg h]; omega
theorem sliceApplied_rev {sl : Addr} {vs : Value} {n : Nat} {Q : Int × Int × Nat → Shared → Prop} (hs : s.heap.IsSliceOf sl .none .none vs) (ps : IsPart vs (some (-1)))
    (h : Q ((n : Int) - 1, -1, n) s) : wpAny (model prog w) A (Builtin.Slice.sliceApplied (.ref sl) (pure (n : Int))) Q E s := by
  obtain ⟨os, hos, hcs, hds⟩ := id hs
  unfold Builtin.Slice.sliceApplied Builtin.Slice.sliceFields
  refine wpAny_bind (wpAny_bind (wpAny_field hos hds (x := .none) rfl (wpAny_bind (wpAny_field hos hds (x := .none) rfl (wpAny_bind (wpAny_field hos hds (x := vs) rfl (wpAny_pure ?_)))))))
  refine wpAny_bind (HT.slicePart_ ps ?_)
  show wpAny _ _ (if ((-1 : Int) == 0) = true then _ else _) _ _ s
  rw [if_neg (by decide)]
  refine wpAny_bind (HT.slicePart_ .none (wpAny_bind (HT.slicePart_ .none (wpAny_bind (wpAny_pure ?_)))))
  show wpAny _ _ (match Builtin.Slice.sliceAdjust none none (-1) (n : Int) with | (lo, hi) => pure (lo, (-1 : Int), Builtin.Slice.slicePlaces lo hi (-1))) _ _ s
  rw [adjust_rev n]
  show wpAny _ _ (pure ((n : Int) - 1, (-1 : Int), Builtin.Slice.slicePlaces ((n : Int) - 1) (-1) (-1))) _ _ s
  rw [places_rev]
  exact wpAny_pure h
theorem fm_congr {α β : Type} {f g : α → Option β} : ∀ {l : List α}, (∀ x ∈ l, f x = g x) → l.filterMap f = l.filterMap g
  | [], _ => rfl
  | x :: l, h => by
    rw [List.filterMap_cons, List.filterMap_cons, h x List.mem_cons_self, fm_congr fun y hy => h y (List.mem_cons_of_mem _ hy)]
theorem pick_rev (xs : Array Value) : ((List.range xs.size).filterMap fun (m : Nat) => xs[(((xs.size : Nat) : Int) - 1 + (m : Int) * (-1)).toNat]?).toArray = xs.toList.reverse.toArray := by
  have e : (List.range xs.size).filterMap (fun (m : Nat) => xs[(((xs.size : Nat) : Int) - 1 + (m : Int) * (-1)).toNat]?) = ((List.range xs.size).map fun k => xs.size - 1 - k).filterMap (xs[·]?) := by
    rw [List.filterMap_map]
    refine fm_congr fun m hm => ?_
    have := List.mem_range.mp hm
    show xs[(((xs.size : Nat) : Int) - 1 + (m : Int) * (-1)).toNat]? = xs[xs.size - 1 - m]?
    congr 1
    omega
  rw [e, PySem.W.krv_range, List.filterMap_reverse, PySem.W.krv_all]
theorem getItem_tuple_rev {t sl : Addr} {items : Array Value} {vs : Value} {Q : Value → Shared → Prop} (ht : IsTup s.heap t items) (hs : s.heap.IsSliceOf sl .none .none vs) (ps : IsPart vs (some (-1)))
    (h : Q (.ref s.heap.objs.size) { s with heap := s.heap.push { cls := .type "tuple", data := .seq items.toList.reverse.toArray } })
    (hsz : items.size ≤ sizeLine) : wpAny (model prog w) A (getItem (.ref t) (.ref sl)) Q E s := by
  have htake : sizeOk (.seq items.toList.reverse.toArray) := by
    show items.toList.reverse.toArray.size ≤ sizeLine
    rw [List.size_toArray, List.length_reverse, Array.length_toList]
    exact hsz
  obtain ⟨os, hos, hcs, hds⟩ := id hs
  have hTs : s.TypeIs (.ref sl) "slice" := ⟨os, hos, hcs⟩
  unfold getItem
  try with_reducible refine wpAny_holding ?_
  first | refine wpAny_bind (wpAny_pure ?_) | skip
  refine wpAny_bind (wpAny_sequenceKey ht.typeIs (by decide) ?_)
  refine wpAny_bind (wpAny_callSpecial?_slot (name := Str.ofString "__getitem__") ht.typeIs PyProof.Rows.slot_tuple_getitem
    (wpAny_call_entry PyProof.Rows.slot_tuple_getitem ht.typeIs entry_tuple_getitem ?_ (args_tuple_getitem _ _)))
  show wpAny _ _ (Builtin.Tuple.tupleItemsOf (.ref t) >>= _) _ _ s
  refine wpAny_bind (tupleItemsOf_ ht ?_)
  refine wpAny_bind (wpAny_typeOf hTs ?_)
  rw [if_pos (by decide)]
  refine wpAny_bind (sliceApplied_rev hs ps ?_)
  have hno : ¬ ((((items.size : Nat) : Int) - 1 == 0 && (-1 : Int) == 1 && items.size == items.size) = true) := by
    intro q
    rw [Bool.and_eq_true, Bool.and_eq_true] at q
    exact absurd q.1.2 (by decide)
  show wpAny _ _ (if (((items.size : Nat) : Int) - 1 == 0 && (-1 : Int) == 1 && items.size == items.size) = true then _ else _) _ _ s
  rw [if_neg hno, pick_rev]
  first
    | exact wpAny_bind (m := Builtin.Tuple.tupleExact _) (wpAny_newObj_type (wpAny_pure ⟨_, rfl, wpAny_pure h⟩) htake)
    | exact wpAny_bind (m := Builtin.Tuple.tupleExact _) (wpAny_newObj_type (wpAny_bind (wpAny_pure (wpAny_pure ⟨_, rfl, wpAny_pure h⟩))) htake)
    | exact wpAny_bind (wpAny_bind (m := Builtin.Tuple.tupleExact _) (wpAny_newObj_type (wpAny_pure (wpAny_pure ⟨_, rfl, wpAny_pure h⟩)) htake))
    | exact wpAny_bind (wpAny_bind (m := Builtin.Tuple.tupleExact _) (wpAny_newObj_type (wpAny_pure ⟨_, rfl, wpAny_pure h⟩) htake))
end
def tRevT (K : PySem.W.Frag) (te : TE) : TE := fun σ H Q => te σ H fun x H1 => ∃ a xs, x = .ref a ∧ ((SqL K H1 a xs ∧ ∀ p, H1 p = none → Q (.ref p) (upd H1 p (.lst xs.reverse))) ∨ (SqT K H1 a xs ∧ ∀ p, H1 p = none → Q (.ref p) (upd H1 p (.tup xs.reverse))))
theorem pe_revA {X : Cx} {e : Expr} {te : TE} {k : Nat} {p1 p2 p3 pos : Pos} (he : PE X e te) : PE X (.Subscript e (.Slice none none (some (.UnaryOp .USub (.Constant (.int 1) k p1) p2)) p3) pos) (tRevT X.K te) := by
  refine ⟨fun pins s σ H Q I h => ?_⟩
  refine Subscript_ (thn (he.run pins s σ H _ I h) fun v s1 ⟨x, H1, I1, r1, q1⟩ => ?_)
  obtain ⟨a, xs, ex, q1⟩ := q1
  subst ex
  cases r1
  have hst : PO X (some (.UnaryOp .USub (.Constant (.int 1) k p1) p2)) (tPart (tUn (rU fun i => .int (-i)) (tC (.int 1)))) := po_some (pe_un un_neg pe_int)
  refine wpAny_Slice (thn (po_none.run pins s1 σ H1 (fun o H2 => o = none ∧ H2 = H1) I1 ⟨rfl, rfl⟩) fun vl s2 ⟨l, H2, I2, pl, el, e2⟩ => ?_)
  subst el e2
  refine thn (po_none.run pins s2 σ H2 (fun o H3 => o = none ∧ H3 = H2) I2 ⟨rfl, rfl⟩) fun vu s3 ⟨u, H3, I3, pu, eu, e3⟩ => ?_
  subst eu e3
  refine thn (hst.run pins s3 σ H3 (fun o H4 => o = some (-1) ∧ H4 = H3) I3 ⟨1, rfl, -1, rfl, rfl, rfl⟩) fun vs s4 ⟨o, H4, I4, ps, eo, e4⟩ => ?_
  subst eo e4
  have I5 : Inv X pins σ H4 { s4 with heap := s4.heap.push { cls := .type "slice", data := .fields #[vl, vu, vs] } } := I4.kept (t' := s4.toks) fun b ob q => Heap.get?_push_of_some _ q
  show wpAny (model X.prog X.w) X.A (subscriptTail e (.Slice none none (some (.UnaryOp .USub (.Constant (.int 1) k p1) p2)) p3) (.ref a) (.ref s4.heap.objs.size)) (EP X pins σ Q) X.xe { s4 with heap := s4.heap.push { cls := .type "slice", data := .fields #[vl, vu, vs] } }
  rcases q1 with ⟨hx, q⟩ | ⟨hx, q⟩
  · obtain ⟨its, r, ht, hz⟩ := I5.list hx
    have hlen := r.length
    refine tail_any (ops := [.ref a, .ref s4.heap.objs.size]) ht.isList.typeIs (PySem.slot_list_getitem.lookup) ?_ (by with_unfolding_all rfl)
    refine wpAny_getItem_list_slice ht.isList (Heap.IsSliceOf.new _ vl vu vs) pl pu ps (by decide) ?_ (by rw [List.size_toArray]; omega)
    rw [PySem.W.krv_pick]
    refine ⟨.ref _, _, I5.laid (t' := s4.toks) (o := .lst xs.reverse) (fun b ob q => Heap.get?_push_of_some _ q) (Nat.le_refl _) ?_, rfl, q _ (I5.hok.fresh (Nat.le_refl _))⟩
    exact ⟨by rw [List.length_reverse]; exact hz, _, 0, r.reverse, Heap.get?_push_size _ rfl⟩
  · obtain ⟨its, r, ht, hz⟩ := I5.tuple hx
    have hlen := r.length
    cases pl
    cases pu
    refine tail_any (ops := [.ref a, .ref s4.heap.objs.size]) ht.typeIs (PyProof.Rows.slot_tuple_getitem.lookup) ?_ (by with_unfolding_all rfl)
    refine getItem_tuple_rev ht (Heap.IsSliceOf.new _ .none .none vs) ps ?_ (by rw [List.size_toArray]; omega)
    refine ⟨.ref _, _, I5.laid (t' := s4.toks) (o := .tup xs.reverse) (fun b ob q => Heap.get?_push_of_some _ q) (Nat.le_refl _) ?_, rfl, q _ (I5.hok.fresh (Nat.le_refl _))⟩
    exact ⟨by rw [List.length_reverse]; exact hz, _, r.reverse, IsTup.new _ _⟩
end L2.LM
namespace L2.LM
open PySem PySem.Spec PyProof.Rows
/-! ### the least of a list of rows -/
/-- the first of the least -/
def minR (r : List Int) (rs : List (List Int)) : List Int := rs.foldl (fun a y => if W.listLt y a = true then y else a) r
def rowY (r : List Int) : PyData := .tuple (r.map .int)
theorem minR_tup {r : List Int} : ∀ {rs : List (List Int)}, W.minOf (W.Tup.mk r) (rs.map W.Tup.mk) = W.Tup.mk (minR r rs) := by
  intro rs
  unfold W.minOf minR
  induction rs generalizing r with
  | nil => rfl
  | cons y ys ih =>
    rw [List.map_cons, List.foldl_cons, List.foldl_cons, ← ih]
    congr 1
    show (if W.listLt y r = true then W.Tup.mk y else W.Tup.mk r) = _
    split <;> rfl
theorem rowY_tup (r : List Int) : W.Datum.toD (W.Tup.mk r) = rowY r := rfl
theorem rowY_inj {a b : List Int} (h : rowY a = rowY b) : a = b := by
  unfold rowY at h
  injection h with h
  induction a generalizing b with
  | nil => cases b with
    | nil => rfl
    | cons y t => cases h
  | cons x s ih => cases b with
    | nil => cases h
    | cons y t =>
      rw [List.map_cons, List.map_cons] at h
      injection h with h1 h2
      injection h1 with h1
      rw [h1, ih h2]
section
variable {X : Cx}
def rMinL (K : PySem.W.Frag) : List V → Hp → VK → Prop := fun xs H Q => ∃ (a : Addr) (vs : List V) (r : List Int) (rs : List (List Int)), xs = [V.ref a] ∧ SqL K H a vs ∧ DpAll K H vs ((r :: rs).map rowY) ∧
  ∀ (i : Nat) v, vs[i]? = some v → (r :: rs)[i]? = some (minR r rs) → Q v H
theorem readsAll_get {h : Heap} : ∀ {vs : List Value} {xs : List PyData} {as : List Addr}, ReadsAll h vs xs as → ∀ (i : Nat) (v : Value), vs[i]? = some v → ∃ d bs, xs[i]? = some d ∧ Reads h v d bs
  | _, _, _, .nil, _, _, hv => by simp at hv
  | _, _, _, .cons (d := d) r rs, 0, v, hv => by
    have e := Option.some.inj (show some _ = some v from hv)
    subst e
    exact ⟨d, _, rfl, r⟩
  | _, _, _, .cons r rs, i + 1, v, hv => by
    obtain ⟨d, bs, a, b⟩ := readsAll_get rs i v (by simpa using hv)
    exact ⟨d, bs, by simpa using a, b⟩
theorem cr_minL (hc : X.calm = true) (hu : X.A.units + 65 < cLine) : CallR X (.builtin "min") (rMinL X.K) := by
  intro pins s σ H vs us Q I r h
  obtain ⟨a, xs, r0, rs, rfl, hs, hd, q⟩ := h
  obtain ⟨its, rv, hl, _⟩ := I.list hs
  rw [Vals.ref1 r]
  obtain ⟨as, ra⟩ := Dp.readsAll I _ _ _ hd rv
  have hH : W.HoldAll s.heap its (W.Tup.mk r0 :: rs.map W.Tup.mk) := ⟨as, by
    have e : (W.Tup.mk r0 :: rs.map W.Tup.mk).map W.Datum.toD = (r0 :: rs).map rowY := by
      rw [List.map_cons, List.map_map]; rfl
    rw [e]; exact ra⟩
  refine W.min_list_datum (vs := its.toArray) (I.ok.hd hc) ?_ (by simpa using hH) ?_ fun i v h' tk hi hv hk => ?_
  · obtain ⟨o, n, e1, e2, _, e3⟩ := hl
    exact ⟨o, e1, e2, n, e3⟩
  · show X.A.units + 1 + 1 < cLine
    omega
  · have hi : its[i]? = some v := by simpa using hi
    obtain ⟨d, bs, e1, e2⟩ := readsAll_get ra i v hi
    obtain ⟨cs, e3⟩ := hv
    rw [minR_tup, rowY_tup] at e3
    have e4 := (reads_det (fun b o hb _ => hk b o hb) e2 e3).1
    rw [List.getElem?_map] at e1
    obtain ⟨q1, q2, q3⟩ := Option.map_eq_some_iff.mp e1
    have e5 : minR r0 rs = q1 := rowY_inj (e4.trans q3.symm)
    have hlen : i < xs.length := by rw [rv.length]; exact (List.getElem?_eq_some_iff.mp hi).1
    obtain ⟨u, hu1, hu2⟩ := rv.get (List.getElem?_eq_getElem hlen)
    rw [hi] at hu1
    cases hu1
    exact ⟨xs[i], H, I.kept hk, hu2, q i _ (List.getElem?_eq_getElem hlen) (by rw [e5]; exact q2)⟩
end
end L2.LM
namespace L2.LM
open PySem PySem.Spec PyProof.Rows
/-! ### pairs of a number and a row, in order -/
abbrev NR := Int × List Int
def pairY (p : NR) : PyData := .tuple [.int p.1, rowY p.2]
def ltP (a b : NR) : Bool := if a.1 = b.1 then W.listLt a.2 b.2 else decide (a.1 < b.1)
def leP (a b : NR) : Bool := !ltP b a
theorem ltP_data (a b : NR) : W.dataLt (pairY a) (pairY b) = ltP a b := W.DatumOrd.lt_eq (α := Int × W.Tup Int) (a.1, W.Tup.mk a.2) (b.1, W.Tup.mk b.2)
theorem alikeP (a b : NR) : W.alike (pairY a) (pairY b) = true := W.DatumOrd.alike (α := Int × W.Tup Int) (a.1, W.Tup.mk a.2) (b.1, W.Tup.mk b.2)
theorem depthP (a : NR) : (pairY a).depth ≤ 2 := W.Datum.depth_le (α := Int × W.Tup Int) (a.1, W.Tup.mk a.2)
section
variable {X : Cx}
def srtZ (vs : List V) (ps : List NR) : List (V × NR) := (vs.zip ps).mergeSort (fun x y => leP x.2 y.2)
def rSortP (K : PySem.W.Frag) : List V → Hp → VK → Prop := fun xs H Q => ∃ (a : Addr) (vs : List V) (ps : List NR), xs = [V.ref a] ∧ SqL K H a vs ∧ DpAll K H vs (ps.map pairY) ∧
  ∀ p : Addr, H p = none → Q (.ref p) (upd H p (.lst ((srtZ vs ps).map (·.1))))
theorem dpall_len {K : PySem.W.Frag} {H : Hp} : ∀ {vs : List V} {ds : List PyData}, DpAll K H vs ds → vs.length = ds.length
  | _, _, .nil => rfl
  | _, _, .cons _ t => by rw [List.length_cons, List.length_cons, dpall_len t]
theorem each_vals : ∀ {vs : List V} {us : List Value} {ps : List NR}, Vals vs us → vs.length = ps.length → W.EachIs (fun u (b : V × NR) => RelV b.1 u) us (vs.zip ps)
  | _, _, [], .nil, _ => .nil
  | _, _, _ :: _, .nil, h => by cases h
  | _, _, [], .cons _ _, h => by cases h
  | _, _, p :: ps, .cons r t, h => .cons r (each_vals t (by simpa using h))
theorem each_reads {h : Heap} : ∀ {vs : List V} {us : List Value} {ps : List NR} {as : List Addr}, vs.length = ps.length → ReadsAll h us (ps.map pairY) as → W.EachIs (fun u (b : V × NR) => ∃ as, Reads h u (pairY b.2) as) us (vs.zip ps)
  | [], _, [], _, _, r => by cases r; exact .nil
  | _ :: _, _, [], _, e, _ => by cases e
  | [], _, _ :: _, _, e, _ => by cases e
  | v :: vs, _, p :: ps, _, e, r => by
    cases r with
    | cons r1 r2 => exact .cons ⟨_, r1⟩ (each_reads (by simpa using e) r2)
theorem vals_each : ∀ {us : List Value} {L : List (V × NR)}, W.EachIs (fun u (b : V × NR) => RelV b.1 u) us L → Vals (L.map (·.1)) us
  | _, _, .nil => .nil
  | _, _, .cons h t => .cons h (vals_each t)
theorem cr_sortP (hu : X.A.units + 65 < cLine) : CallR X (.builtin "sorted") (rSortP X.K) := by
  intro pins s σ H xs us Q I r h
  obtain ⟨a, vs, ps, rfl, hs, hd, q⟩ := h
  obtain ⟨its, rv, hl, hz⟩ := I.list hs
  rw [Vals.ref1 r]
  obtain ⟨as, ra⟩ := Dp.readsAll I _ _ _ hd rv
  have hlen : vs.length = ps.length := by rw [dpall_len hd, List.length_map]
  have hL : s.heap.IsList a its.toArray := by
    obtain ⟨o, n, e1, e2, _, e3⟩ := hl
    exact ⟨o, e1, e2, n, e3⟩
  refine W.sorted_data (β := V × NR) (enc := fun b => pairY b.2) (R := fun u b => RelV b.1 u) (bs := vs.zip ps) hL (each_vals rv hlen) (each_reads hlen ra) ?_ ?_ ?_ ?_ fun out hol he => ?_
  · intro d hd d' hd'
    obtain ⟨x, _, rfl⟩ := List.mem_map.mp hd
    obtain ⟨y, _, rfl⟩ := List.mem_map.mp hd'
    exact alikeP _ _
  · refine .inl fun d hd => ?_
    obtain ⟨x, _, rfl⟩ := List.mem_map.mp hd
    exact ⟨_, _, rfl⟩
  · rw [List.length_zip]; omega
  · intro b _
    have := depthP b.2
    show X.A.units + 2 + (pairY b.2).depth < cLine
    omega
  · have hle : (vs.zip ps).mergeSort (W.dataLe false fun b => pairY b.2) = srtZ vs ps := by
      unfold srtZ
      congr 1
      funext x y
      unfold leP
      rw [← ltP_data]
      rfl
    rw [hle] at he
    have kv := vals_each he
    obtain ⟨ep, he'⟩ := PyProof.Rows.sortedAll_at s.heap its out.toArray
    have hlen2 : ((srtZ vs ps).map (·.1)).length ≤ sizeLine := by
      unfold srtZ
      rw [List.length_map, List.length_mergeSort, List.length_zip]
      omega
    exact ⟨.ref _, upd H (s.heap.objs.size + 1) (.lst ((srtZ vs ps).map (·.1))), I.laid (t' := s.toks) (fun _ _ => PyProof.Rows.sortedAll_old) (Nat.le_succ _) ⟨hlen2, out, ep, kv, he'⟩, rfl, q _ (I.hok.fresh (Nat.le_succ _))⟩
end
end L2.LM
/-! The D-layer: data as trees over the hand layer. -/
namespace L2.DL
open PySem PySem.Spec PyProof.Rows

/-! ### data -/
inductive D where
  | non | bl (b : Bool) | int (i : Int) | str (x : Str) | tup (xs : List D) | lst (xs : List D) | obj (a : Addr) | fn (k : Nat) (cs : List D) | scr (ns : List Int) | kt (ns : List Int)
abbrev Exc := Str × D
abbrev Env' := List (Option D)
abbrev WD := (Exc → Prop) → (D → Prop) → Prop
abbrev WE' := Env' → WD
/-- a def's promise over data -/
abbrev SpD := List D → WD
/-- a lambda of the text: its maker's name, its text, what it captures -/
structure LamD where
  q : Str
  ar : Arguments
  bd : Expr
  sc : Scope
  fr : List Str
/-- cells that are known: their names, what they hold -/
abbrev CZ := List (Str × Addr) × List Str × List (Option V)
/-- what the layer leans on: the written part, the module's names, the fields of the errors -/
structure Cfg where
  K : PySem.W.Frag
  mg : Str → Option Value
  fld : Str → Option Str
  tq : Addr → Option Str := fun _ => none
  lam : Nat → LamD → Prop := fun _ _ => False
  cz : List CZ := []

/-- a tuple of the written part -/
def KTup (K : PySem.W.Frag) (a : Addr) (xs : List V) : Prop :=
  ∃ (o : Obj) (its : Array Value) (n : Nat), K.lookup a = some o ∧ o.cls = .type "tuple" ∧ o.data = .seq its n ∧ its.size ≤ sizeLine ∧ Vals xs its.toList
mutual
/-- v stands for d in the immutable part J; W: the objects that calls may change -/
def DA (C : Cfg) (J : Hp) (W : Addr → Prop) : D → V → Prop
  | .non, v => v = .non
  | .bl b, v => v = .bl b
  | .int i, v => v = .int i
  | .str x, v => v = .str x
  | .tup xs, v => ∃ a vs, v = .ref a ∧ J a = some (.tup vs) ∧ DAs C J W xs vs
  | .lst xs, v => ∃ a vs, v = .ref a ∧ J a = some (.lst vs) ∧ DAs C J W xs vs
  | .obj a, v => v = .ref a ∧ W a ∧ C.tq a = none
  | .fn k cs, v => ∃ (f : Addr) (F : LM.LF) (fr : List Str) (vs : List V), v = .ref f ∧ J f = some (LM.LamO f F) ∧ J F.c = some (LamX.CodeO F.c F.q) ∧ C.lam k ⟨F.q, F.ar, F.bd, F.sc, fr⟩ ∧ (F.cl, fr, vs.map some) ∈ C.cz ∧ DAs C J W cs vs
  | .scr ns, v => ∃ a, v = .ref a ∧ SqL C.K J a (ns.map V.int)
  | .kt ns, v => ∃ a, v = .ref a ∧ KTup C.K a (ns.map V.int)
def DAs (C : Cfg) (J : Hp) (W : Addr → Prop) : List D → List V → Prop
  | [], vs => vs = []
  | d :: ds, vs => ∃ v r, vs = v :: r ∧ DA C J W d v ∧ DAs C J W ds r
end

theorem _root_.L2.SqL.same {K : PySem.W.Frag} {H H' : Hp} {a : Addr} {xs : List V} (h : SqL K H a xs) (e : Same H H') : SqL K H' a xs := by
  rcases h with (h | ⟨o, h⟩) | h
  · exact .inl (.inl (e _ _ h))
  · exact .inl (.inr ⟨o, e _ _ h⟩)
  · exact .inr h
mutual
theorem DA.mono {C : Cfg} {J J' : Hp} {W W' : Addr → Prop} (e : Same J J') (w : ∀ a, W a → W' a) : ∀ {d : D} {v : V}, DA C J W d v → DA C J' W' d v
  | .non, _, h => h
  | .bl _, _, h => h
  | .int _, _, h => h
  | .str _, _, h => h
  | .tup xs, v, h => by
    obtain ⟨a, vs, h1, h2, h3⟩ := h
    exact ⟨a, vs, h1, e _ _ h2, DAs.mono e w h3⟩
  | .lst xs, v, h => by
    obtain ⟨a, vs, h1, h2, h3⟩ := h
    exact ⟨a, vs, h1, e _ _ h2, DAs.mono e w h3⟩
  | .obj a, v, h => ⟨h.1, w _ h.2.1, h.2.2⟩
  | .fn _ _, v, h => by
    obtain ⟨f, F, fr, vs, h1, h2, h3, h4, h5, h6⟩ := h
    exact ⟨f, F, fr, vs, h1, e _ _ h2, e _ _ h3, h4, h5, DAs.mono e w h6⟩
  | .scr ns, v, h => h.elim fun a q => ⟨a, q.1, q.2.same e⟩
  | .kt _, _, h => h
theorem DAs.mono {C : Cfg} {J J' : Hp} {W W' : Addr → Prop} (e : Same J J') (w : ∀ a, W a → W' a) : ∀ {d : List D} {v : List V}, DAs C J W d v → DAs C J' W' d v
  | [], _, h => h
  | d :: ds, vs, h => by
    obtain ⟨v, r, h1, h2, h3⟩ := h
    exact ⟨v, r, h1, DA.mono e w h2, DAs.mono e w h3⟩
end
section
variable {C : Cfg} {J J' J'' H H' H'' : Hp} {W W' W'' : Addr → Prop} {d : D} {v : V} {ds es : List D} {vs ws : List V}
theorem DAs.length : ∀ {ds : List D} {vs : List V}, DAs C J W ds vs → vs.length = ds.length
  | [], _, h => by cases h; rfl
  | d :: ds, vs, h => by
    obtain ⟨v, r, rfl, _, h3⟩ := h
    simp [DAs.length h3]
theorem DAs.append : ∀ {ds es : List D} {vs ws : List V}, DAs C J W ds vs → DAs C J W es ws → DAs C J W (ds ++ es) (vs ++ ws)
  | [], _, _, _, h, h' => by cases h; exact h'
  | d :: ds, _, vs, _, h, h' => by
    obtain ⟨v, r, rfl, h2, h3⟩ := h
    exact ⟨v, r ++ _, rfl, h2, DAs.append h3 h'⟩
theorem DAs.get : ∀ {ds : List D} {vs : List V} {i : Nat} {d : D}, DAs C J W ds vs → ds[i]? = some d → ∃ v, vs[i]? = some v ∧ DA C J W d v
  | [], _, _, _, _, e => by simp at e
  | d :: ds, vs, 0, d', h, e => by
    obtain ⟨v, r, rfl, h2, h3⟩ := h
    simp at e; subst e
    exact ⟨v, rfl, h2⟩
  | d :: ds, vs, i + 1, d', h, e => by
    obtain ⟨v, r, rfl, h2, h3⟩ := h
    obtain ⟨u, h4, h5⟩ := DAs.get (i := i) h3 (by simpa using e)
    exact ⟨u, by simpa using h4, h5⟩
theorem DAs.getV : ∀ {ds : List D} {vs : List V} {i : Nat} {v : V}, DAs C J W ds vs → vs[i]? = some v → ∃ d, ds[i]? = some d ∧ DA C J W d v
  | [], _, _, _, h, e => by cases h; simp at e
  | d :: ds, vs, 0, d', h, e => by
    obtain ⟨v, r, rfl, h2, h3⟩ := h
    simp at e; subst e
    exact ⟨d, rfl, h2⟩
  | d :: ds, vs, i + 1, d', h, e => by
    obtain ⟨v, r, rfl, h2, h3⟩ := h
    obtain ⟨u, h4, h5⟩ := DAs.getV (i := i) h3 (by simpa using e)
    exact ⟨u, by simpa using h4, h5⟩
theorem DAs.take : ∀ {ds : List D} {vs : List V} (n : Nat), DAs C J W ds vs → DAs C J W (ds.take n) (vs.take n)
  | _, _, 0, _ => rfl
  | [], _, n + 1, h => by cases h; rfl
  | d :: ds, vs, n + 1, h => by
    obtain ⟨v, r, rfl, h2, h3⟩ := h
    exact ⟨v, _, rfl, h2, DAs.take n h3⟩
theorem DAs.drop : ∀ {ds : List D} {vs : List V} (n : Nat), DAs C J W ds vs → DAs C J W (ds.drop n) (vs.drop n)
  | _, _, 0, h => h
  | [], _, n + 1, h => by cases h; rfl
  | d :: ds, vs, n + 1, h => by
    obtain ⟨v, r, rfl, h2, h3⟩ := h
    exact DAs.drop n h3
theorem DAs.set : ∀ {ds : List D} {vs : List V} {d : D} {v : V} (n : Nat), DAs C J W ds vs → DA C J W d v → DAs C J W (ds.set n d) (vs.set n v)
  | [], _, _, _, _, h, _ => by cases h; rfl
  | d :: ds, vs, _, _, 0, h, hv => by
    obtain ⟨v, r, rfl, h2, h3⟩ := h
    exact ⟨_, _, rfl, hv, h3⟩
  | d :: ds, vs, _, _, n + 1, h, hv => by
    obtain ⟨v, r, rfl, h2, h3⟩ := h
    exact ⟨_, _, rfl, h2, DAs.set n h3 hv⟩
theorem DAs.of_get : ∀ {ds : List D} {vs : List V}, vs.length = ds.length → (∀ (i : Nat) d v, ds[i]? = some d → vs[i]? = some v → DA C J W d v) → DAs C J W ds vs
  | [], [], _, _ => rfl
  | [], _ :: _, h, _ => by simp at h
  | _ :: _, [], h, _ => by simp at h
  | d :: ds, v :: vs, h, k => ⟨v, vs, rfl, k 0 d v rfl rfl, DAs.of_get (by simpa using h) fun i d' v' e1 e2 => k (i + 1) d' v' (by simpa using e1) (by simpa using e2)⟩

/-! ### states -/
def IsWell : Option HO → Prop
  | some (.lst [.int _, .int _, .int _]) => True
  | _ => False
theorem IsWell.some {o : Option HO} (h : IsWell o) : ∃ x y z, o = some (.lst [.int x, .int y, .int z]) := by
  unfold IsWell at h
  split at h
  · exact ⟨_, _, _, rfl⟩
  · exact h.elim
/-- a table of code objects, each of the name q -/
def TabOk (J : Hp) (q : Str) (o : Option HO) : Prop := ∃ ps, o = some (.tbl ps) ∧ TriplesOk ps.toList ∧ ∀ pos cv, codeAmong pos ps.toList = some cv → ∃ c, cv = .ref c ∧ J c = some (LamX.CodeO c q)
/-- what may change: a well, or (tq tells) a table -/
def IsW (tq : Addr → Option Str) (J : Hp) (a : Addr) (o : Option HO) : Prop := match tq a with
  | none => IsWell o
  | some q => TabOk J q o
theorem IsW.no {tq : Addr → Option Str} {J : Hp} {a : Addr} (h : IsW tq J a none) : False := by
  unfold IsW at h
  split at h
  · exact h
  · obtain ⟨ps, e, _⟩ := h; cases e
theorem IsW.to {tq : Addr → Option Str} {J J' : Hp} {a : Addr} {o : Option HO} (h : IsW tq J a o) (e : ∀ c φ, J c = some (.ext φ) → J' c = some (.ext φ)) : IsW tq J' a o := by
  unfold IsW at h ⊢
  split at h
  · exact h
  · obtain ⟨ps, e1, e2, e3⟩ := h
    exact ⟨ps, e1, e2, fun pos cv hc => (e3 pos cv hc).elim fun c z => ⟨c, z.1, e _ _ z.2⟩⟩
theorem IsW.mono {tq : Addr → Option Str} {J J' : Hp} {a : Addr} {o : Option HO} (h : IsW tq J a o) (e : Same J J') : IsW tq J' a o := h.to fun c φ z => e _ _ z
theorem IsW.well {tq : Addr → Option Str} {J : Hp} {a : Addr} {o : Option HO} (h : IsW tq J a o) (q : tq a = none) : IsWell o := by
  unfold IsW at h
  rw [q] at h
  exact h
theorem IsW.of {tq : Addr → Option Str} {J : Hp} {a : Addr} {o : Option HO} (h : IsWell o) (q : tq a = none) : IsW tq J a o := by
  unfold IsW
  rw [q]
  exact h
structure Wk (tq : Addr → Option Str) (J : Hp) (W : Addr → Prop) (H : Hp) : Prop where
  sub : Same J H
  well : ∀ a, W a → J a = none ∧ IsW tq J a (H a)
  tab : ∀ a, tq a ≠ none → W a
structure Post (tq : Addr → Option Str) (J : Hp) (W : Addr → Prop) (H J' : Hp) (W' : Addr → Prop) (H' : Hp) : Prop where
  ext : Same J J'
  wk : Wk tq J' W' H'
  new : ∀ a o, J' a = some o → J a = some o ∨ H a = none
  keep : ∀ a o, H a = some o → ¬ W a → H' a = some o
  wsub : ∀ a, W a → W' a
  wnew : ∀ a, W' a → W a ∨ H a = none
theorem Post.refl (w : Wk C.tq J W H) : Post C.tq J W H J W H := ⟨Same.refl _, w, fun _ _ h => .inl h, fun _ _ h _ => h, fun _ h => h, fun _ h => .inl h⟩
theorem Post.there (p : Post C.tq J W H J' W' H') {a : Addr} (h : H' a = none) : H a = none := by
  cases e : H a with
  | none => rfl
  | some o =>
    by_cases w : W a
    · have := (p.wk.well a (p.wsub a w)).2
      rw [h] at this
      exact this.no.elim
    · rw [p.keep a o e w] at h
      cases h
theorem Post.trans (p : Post C.tq J W H J' W' H') (q : Post C.tq J' W' H' J'' W'' H'') : Post C.tq J W H J'' W'' H'' where
  ext := p.ext.trans q.ext
  wk := q.wk
  new := fun a o h => by
    rcases q.new a o h with h | h
    · exact p.new a o h
    · exact .inr (p.there h)
  keep := fun a o h n => q.keep a o (p.keep a o h n) fun w => by
    rcases p.wnew a w with z | z
    · exact n z
    · rw [h] at z; cases z
  wsub := fun a h => q.wsub a (p.wsub a h)
  wnew := fun a h => by
    rcases q.wnew a h with h | h
    · exact p.wnew a h
    · exact .inr (p.there h)
theorem Post.da (p : Post C.tq J W H J' W' H') {d : D} {v : V} (h : DA C J W d v) : DA C J' W' d v := h.mono p.ext p.wsub
theorem Post.das (p : Post C.tq J W H J' W' H') {d : List D} {v : List V} (h : DAs C J W d v) : DAs C J' W' d v := h.mono p.ext p.wsub
/-- a new object, immutable from now on -/
theorem Post.laid (w : Wk C.tq J W H) {p : Addr} {o : HO} (hp : H p = none) : Post C.tq J W H (upd J p o) W (upd H p o) where
  ext := fun a u h => by
    rw [upd_ne (ne_of_none (w.sub a u h) hp)]
    exact h
  wk := ⟨fun a u h => by
      by_cases e : a = p
      · subst e; rw [upd_same] at h ⊢; exact h
      · rw [upd_ne e] at h ⊢; exact w.sub a u h,
    fun a h => by
      have z := w.well a h
      have e : a ≠ p := fun e => by rw [e, hp] at z; exact z.2.no.elim
      rw [upd_ne e, upd_ne e]; exact ⟨z.1, z.2.mono fun b u h => by rw [upd_ne (ne_of_none (w.sub b u h) hp)]; exact h⟩, w.tab⟩
  new := fun a u h => by
    by_cases e : a = p
    · rw [e]; exact .inr hp
    · rw [upd_ne e] at h; exact .inl h
  keep := fun a u h _ => by rw [upd_ne (ne_of_none h hp)]; exact h
  wsub := fun _ h => h
  wnew := fun _ h => .inl h

/-- a list of ours, untold so far, is written -/
theorem Post.poke (p : Post C.tq J W H J' W' H') {a : Addr} {o : HO} (hH : H a = none) (hJ : J' a = none) (hW : ¬ W' a) : Post C.tq J W H J' W' (upd H' a o) where
  ext := p.ext
  wk := ⟨fun b u h => by rw [upd_ne (fun e => by rw [e, hJ] at h; cases h)]; exact p.wk.sub b u h, fun b h => by rw [upd_ne (fun e : b = a => hW (by rw [← e]; exact h))]; exact p.wk.well b h, p.wk.tab⟩
  new := p.new
  keep := fun b u h n => by rw [upd_ne (ne_of_none h hH)]; exact p.keep b u h n
  wsub := p.wsub
  wnew := p.wnew
/-- it is immutable from now on -/
theorem Post.freeze (p : Post C.tq J W H J' W' H') {a : Addr} {o : HO} (hH : H a = none) (hJ : J' a = none) (hW : ¬ W' a) (h' : H' a = some o) : Post C.tq J W H (upd J' a o) W' H' where
  ext := fun b u h => by
    have h2 := p.ext b u h
    rw [upd_ne (fun e => by rw [e, hJ] at h2; cases h2)]; exact h2
  wk := ⟨fun b u h => by
      by_cases e : b = a
      · rw [e, upd_same] at h; rw [e, h']; exact h
      · rw [upd_ne e] at h; exact p.wk.sub b u h,
    fun b h => by
      have z := p.wk.well b h
      rw [upd_ne (fun e : b = a => hW (by rw [← e]; exact h))]; exact ⟨z.1, z.2.mono fun c u h => by rw [upd_ne (fun e => by rw [e, hJ] at h; cases h)]; exact h⟩, p.wk.tab⟩
  new := fun b u h => by
    by_cases e : b = a
    · exact .inr (by rw [e]; exact hH)
    · rw [upd_ne e] at h; exact p.new b u h
  keep := p.keep
  wsub := p.wsub
  wnew := p.wnew
theorem Post.out (p : Post C.tq J W H J' W' H') {a : Addr} {o : HO} (hH : H a = some o) (hJ : J a = none) (hW : ¬ W a) : J' a = none ∧ ¬ W' a ∧ H' a = some o := by
  refine ⟨?_, fun z => ?_, p.keep a o hH hW⟩
  · cases e : J' a with
    | none => rfl
    | some u =>
      rcases p.new a u e with z | z
      · rw [hJ] at z; cases z
      · rw [hH] at z; cases z
  · rcases p.wnew a z with z | z
    · exact hW z
    · rw [hH] at z; cases z
theorem Post.upd_ext {a : Addr} {o : HO} (hJ : J a = none) : Same J (upd J a o) := fun b u h => by rw [upd_ne (fun e => by rw [e, hJ] at h; cases h)]; exact h

/-- an error: its class by its name, what it carries -/
def ExD (C : Cfg) (x : Exc) (cls : Value) (d : Option Addr) (J : Hp) (W : Addr → Prop) (H : Hp) : Prop :=
  ∃ c, C.mg x.1 = some (.ref c) ∧ cls = .ref c ∧ ∀ f, C.fld x.1 = some f → ∃ dd v, d = some dd ∧ H dd = some (.xd [(f, v)]) ∧ DA C J W x.2 v

def getS (ρ : Env') (i : Nat) : Option D := (ρ[i]?).join
structure EnvOk (C : Cfg) (J : Hp) (W : Addr → Prop) (ρ : Env') (σ : St) : Prop where
  len : ρ.length ≤ σ.length
  get : ∀ i d, getS ρ i = some d → ∃ v, σ[i]? = some (some v) ∧ DA C J W d v
theorem EnvOk.mono {ρ : Env'} {σ : St} (h : EnvOk C J W ρ σ) (e : Same J J') (w : ∀ a, W a → W' a) : EnvOk C J' W' ρ σ := ⟨h.len, fun i d x => by
  obtain ⟨v, h1, h2⟩ := h.get i d x
  exact ⟨v, h1, h2.mono e w⟩⟩
theorem Post.env (p : Post C.tq J W H J' W' H') {ρ : Env'} {σ : St} (h : EnvOk C J W ρ σ) : EnvOk C J' W' ρ σ := h.mono p.ext p.wsub
end

/-! ### readings over data -/
/-- from a state (J, W, H), what is behind: α with its representation R -/
structure Go (C : Cfg) (Wx : WX) {α β : Type} (R : Hp → (Addr → Prop) → α → β → Prop) (J : Hp) (W : Addr → Prop) (σ : St) (H : Hp) (E : Exc → Prop) (Qd : α → Prop) (Q : β → Hp → Prop) : Prop where
  ok : ∀ v H' J' W' d, Post C.tq J W H J' W' H' → R J' W' d v → Qd d → Q v H'
  ex : ∀ x cls d H' J' W', Post C.tq J W H J' W' H' → ExD C x cls d J' W' H' → E x → Wx cls d σ H'
def tG (C : Cfg) (Wx : WX) {α β : Type} (R : Hp → (Addr → Prop) → α → β → Prop) (w : Env' → (Exc → Prop) → (α → Prop) → Prop) : St → Hp → (β → Hp → Prop) → Prop :=
  fun σ H Q => ∃ J W ρ E Qd, Wk C.tq J W H ∧ EnvOk C J W ρ σ ∧ w ρ E Qd ∧ Go C Wx R J W σ H E Qd Q
abbrev tE (C : Cfg) (Wx : WX) (w : WE') : TE := tG C Wx (DA C) w
abbrev tAs (C : Cfg) (Wx : WX) (w : Env' → (Exc → Prop) → (List D → Prop) → Prop) : TA := tG C Wx (DAs C) w
abbrev tT (C : Cfg) (Wx : WX) (w : Env' → (Exc → Prop) → (Bool → Prop) → Prop) : TT := tG C Wx (fun _ _ b c => b = c) w
section
variable {C : Cfg} {Wx : WX} {α β : Type} {R : Hp → (Addr → Prop) → α → β → Prop} {J J' H H' : Hp} {W W' : Addr → Prop} {σ : St} {E : Exc → Prop} {Qd : α → Prop} {Q : β → Hp → Prop}
/-- go on behind -/
theorem Go.behind (g : Go C Wx R J W σ H E Qd Q) (p : Post C.tq J W H J' W' H') : Go C Wx R J' W' σ H' E Qd Q :=
  ⟨fun v H2 J2 W2 d q r h => g.ok v H2 J2 W2 d (p.trans q) r h, fun x cls d H2 J2 W2 q r h => g.ex x cls d H2 J2 W2 (p.trans q) r h⟩
theorem pe_imp {X : Cx} {e : Expr} {t t' : TE} (h : PE X e t) (i : ∀ σ H Q, t' σ H Q → t σ H Q) : PE X e t' := ⟨fun pins s σ H Q I q => h.run pins s σ H Q I (i σ H Q q)⟩
theorem pt_imp {X : Cx} {e : Expr} {t t' : TT} (h : PT X e t) (i : ∀ σ H Q, t' σ H Q → t σ H Q) : PT X e t' := ⟨fun pins s σ H Q I q => h.run pins s σ H Q I (i σ H Q q)⟩
theorem pa_imp {X : Cx} {e : List Expr} {t t' : TA} (h : PA X e t) (i : ∀ σ H Q, t' σ H Q → t σ H Q) : PA X e t' := ⟨fun pos pins s σ H Q I q => h.run pos pins s σ H Q I (i σ H Q q)⟩
theorem ps_imp {X : Cx} {e : Stmt} {t t' : TS} (h : PS X e t) (i : ∀ D σ H, t' D σ H → t D σ H) : PS X e t' := ⟨fun pins s σ H D I q => h.run pins s σ H D I (i D σ H q)⟩
theorem opR_imp {X : Cx} {f : Value → Value → Sem Value} {r r' : R2} (h : OpR X f r) (i : ∀ x y H Q, r' x y H Q → r x y H Q) : OpR X f r' := fun pins s σ H x y v u Q I rx ry q => h pins s σ H x y v u Q I rx ry (i _ _ _ _ q)
theorem callR_imp {X : Cx} {f : Value} {r r' : List V → Hp → VK → Prop} (h : CallR X f r) (i : ∀ x H Q, r' x H Q → r x H Q) : CallR X f r' := fun pins s σ H xs us Q I rx q => h pins s σ H xs us Q I rx (i _ _ _ q)
end
end L2.DL
namespace L2.DL
open PySem PySem.Spec PyProof.Rows

/-! ### operations over data -/
abbrev Op2 := D → D → (D → Prop) → Prop
def LIM : Nat := 16777216
theorem lim_line : LIM = sizeLine := by rw [sizeLine_eq]; rfl
def dTru : D → Option Bool
  | .non => some false
  | .bl b => some b
  | .int i => some (i != 0)
  | .str x => if x.length ≤ LIM then some ((x.length : Int) != 0) else none
  | .tup xs => some (!xs.isEmpty)
  | .lst xs => some (!xs.isEmpty)
  | _ => none
def dAdd : Op2
  | .int i, .int j, Q => Q (.int (i + j))
  | .lst xs, .lst ys, Q => xs.length + ys.length ≤ LIM ∧ Q (.lst (xs ++ ys))
  | .tup xs, .tup ys, Q => xs.length + ys.length ≤ LIM ∧ Q (.tup (xs ++ ys))
  | .str x, .str y, Q => x.length + y.length ≤ LIM ∧ Q (.str (x ++ y))
  | _, _, _ => False
def dSub : Op2
  | .int i, .int j, Q => Q (.int (i - j))
  | _, _, _ => False
def dMul : Op2
  | .int i, .int j, Q => ((-(2 ^ 64) < i ∧ i < 2 ^ 64) ∨ (-(2 ^ 64) < j ∧ j < 2 ^ 64)) ∧ Q (.int (i * j))
  | .lst xs, .int k, Q => (-(2 ^ 63) ≤ k ∧ k < 2 ^ 63 ∧ xs.length * k.toNat ≤ LIM) ∧ Q (.lst (List.replicate k.toNat xs).flatten)
  | .tup xs, .int k, Q => (xs ≠ [] ∧ -(2 ^ 63) ≤ k ∧ k ≤ 1000 ∧ xs.length ≤ 1000) ∧ Q (.tup (List.replicate k.toNat xs).flatten)
  | _, _, _ => False
def dFdiv : Op2
  | .int i, .int j, Q => (0 < j ∧ j < 1073741824) ∧ Q (.int (i / j))
  | _, _, _ => False
def dMod : Op2
  | .int i, .int j, Q => 0 < j ∧ Q (.int (i % j))
  | _, _, _ => False
def dPow : Op2
  | .int i, .int j, Q => (0 ≤ j ∧ j ≤ 1000000 ∧ i.natAbs < 2 ^ 64) ∧ Q (.int (i ^ j.toNat))
  | _, _, _ => False
def dShl : Op2
  | .int i, .int j, Q => (0 ≤ j ∧ j ≤ 1000000 ∧ i.natAbs < 2 ^ 64) ∧ Q (.int (i * 2 ^ j.toNat))
  | _, _, _ => False
def dShr : Op2
  | .int i, .int j, Q => 0 ≤ j ∧ Q (.int (i / 2 ^ j.toNat))
  | _, _, _ => False
def dAnd : Op2
  | .int i, .int j, Q => Q (.int (Builtin.bitAnd i j))
  | _, _, _ => False
def dOr : Op2
  | .int i, .int j, Q => Q (.int (Builtin.bitOr i j))
  | _, _, _ => False
def dXor : Op2
  | .int i, .int j, Q => Q (.int (Builtin.bitXor i j))
  | _, _, _ => False
def dLt : Op2
  | .int i, .int j, Q => Q (.bl (decide (i < j)))
  | _, _, _ => False
def dLe : Op2
  | .int i, .int j, Q => Q (.bl (decide (i ≤ j)))
  | _, _, _ => False
def dGt : Op2
  | .int i, .int j, Q => Q (.bl (decide (j < i)))
  | _, _, _ => False
def dGe : Op2
  | .int i, .int j, Q => Q (.bl (decide (j ≤ i)))
  | _, _, _ => False
def isNon : D → Bool
  | .non => true
  | _ => false
def dIs : Op2 := fun d e Q => match e with
  | .non => Q (.bl (isNon d))
  | .bl b => match d with
    | .bl a => Q (.bl (decide (a = b)))
    | _ => False
  | _ => False
def dIsNot : Op2 := fun d e Q => match e with
  | .non => Q (.bl (!isNon d))
  | .bl b => match d with
    | .bl a => Q (.bl (!decide (a = b)))
    | _ => False
  | _ => False
mutual
def toPy : D → PyData
  | .non => .none
  | .bl b => .bool b
  | .int i => .int i
  | .str x => .str x
  | .tup xs => .tuple (toPys xs)
  | .lst xs => .list (toPys xs)
  | _ => .none
def toPys : List D → List PyData
  | [] => []
  | d :: ds => toPy d :: toPys ds
end
mutual
/-- plain data -/
def pln : D → Bool
  | .tup xs => plns xs
  | .lst xs => plns xs
  | .obj _ => false
  | .fn _ _ => false
  | .scr _ => false
  | .kt _ => false
  | .str x => PyData.strOk x
  | _ => true
def plns : List D → Bool
  | [] => true
  | d :: ds => pln d && plns ds
end
mutual
def dpt : D → Nat
  | .tup xs => dpts xs + 1
  | .lst xs => dpts xs + 1
  | _ => 0
def dpts : List D → Nat
  | [] => 0
  | d :: ds => max (dpt d) (dpts ds)
end
mutual
/-- == over data -/
def deq : D → D → Bool
  | .non, .non => true
  | .bl a, .bl b => a == b
  | .bl a, .int j => (if a then 1 else 0) == j
  | .int i, .bl b => i == (if b then 1 else 0)
  | .int i, .int j => i == j
  | .str x, .str y => x == y
  | .lst xs, .lst ys => deqs xs ys
  | .tup xs, .tup ys => deqs xs ys
  | _, _ => false
def deqs : List D → List D → Bool
  | [], [] => true
  | x :: xs, y :: ys => deq x y && deqs xs ys
  | _, _ => false
end
def dEq : Op2 := fun d e Q => match d, e with
  | .str x, .str y => Q (.bl (decide (x = y)))
  | d, e => (pln d = true ∧ pln e = true ∧ dpt d ≤ 60 ∧ dpt e ≤ 60) ∧ Q (.bl (deq d e))
def dNe : Op2 := fun d e Q => match d, e with
  | .str x, .str y => Q (.bl (!decide (x = y)))
  | d, e => (pln d = true ∧ pln e = true ∧ dpt d ≤ 60 ∧ dpt e ≤ 60) ∧ Q (.bl (!deq d e))
def flatD : D → Bool
  | .non | .bl _ | .int _ | .str _ => true
  | _ => false
def elems : D → Option (List D)
  | .lst xs => some xs
  | .tup xs => some xs
  | _ => none
/-- in: the item is looked for by == -/
def dIn : Op2
  | .str x, .str y, Q => Q (.bl (!(Builtin.Str.occurrences y x 0 y.length 1).isEmpty))
  | d, .lst xs, Q => (pln d = true ∧ plns xs = true ∧ dpt d ≤ 60 ∧ dpts xs ≤ 59) ∧ Q (.bl (xs.any fun z => deq z d))
  | d, .tup xs, Q => (flatD d = true ∧ xs.all flatD = true) ∧ Q (.bl (xs.any fun z => deq z d))
  | _, _, _ => False
def dNotIn : Op2 := fun d e Q => dIn d e fun r => match r with
  | .bl b => Q (.bl (!b))
  | _ => False

/-! ### the conversion to the library's data -/
mutual
theorem da_dp {C : Cfg} {J H : Hp} {W : Addr → Prop} (w : Wk C.tq J W H) : ∀ {d : D} {v : V}, DA C J W d v → pln d = true → Dp C.K H v (toPy d)
  | .non, _, h, _ => by cases h; exact .non
  | .bl _, _, h, _ => by cases h; exact .bl _
  | .int _, _, h, _ => by cases h; exact .int _
  | .str _, _, h, _ => by cases h; exact .str _
  | .tup xs, v, h, p => by
    obtain ⟨a, vs, rfl, h2, h3⟩ := h
    exact .tup (SqT.of (w.sub _ _ h2)) (das_dp w h3 p)
  | .lst xs, v, h, p => by
    obtain ⟨a, vs, rfl, h2, h3⟩ := h
    exact .lst (.inl (.inl (w.sub _ _ h2))) (das_dp w h3 p)
  | .obj _, _, _, p => by cases p
  | .fn _ _, _, _, p => by cases p
  | .scr _, _, _, p => by cases p
  | .kt _, _, _, p => by cases p
theorem das_dp {C : Cfg} {J H : Hp} {W : Addr → Prop} (w : Wk C.tq J W H) : ∀ {d : List D} {v : List V}, DAs C J W d v → plns d = true → DpAll C.K H v (toPys d)
  | [], _, h, _ => by cases h; exact .nil
  | d :: ds, vs, h, p => by
    obtain ⟨v, r, rfl, h2, h3⟩ := h
    have p' : pln d = true ∧ plns ds = true := by simpa [plns] using p
    exact .cons (da_dp w h2 p'.1) (das_dp w h3 p'.2)
end
mutual
theorem pln_lay : ∀ {d : D}, pln d = true → (toPy d).canLay0 = true
  | .non, _ | .bl _, _ | .int _, _ => by simp only [toPy, PyData.canLay0]
  | .str _, p => by simp only [toPy, PyData.canLay0]; exact p
  | .tup xs, p => by simp only [toPy, PyData.canLay0]; exact plns_lay p
  | .lst xs, p => by simp only [toPy, PyData.canLay0]; exact plns_lay p
  | .obj _, p => by cases p
  | .fn _ _, p => by cases p
  | .scr _, p => by cases p
  | .kt _, p => by cases p
theorem plns_lay : ∀ {d : List D}, plns d = true → PyData.canLayAll0 (toPys d) = true
  | [], _ => by simp only [toPys, PyData.canLayAll0]
  | d :: ds, p => by
    have p' : pln d = true ∧ plns ds = true := by simpa [plns] using p
    simp only [toPys, PyData.canLayAll0, pln_lay p'.1, plns_lay p'.2, Bool.and_self]
end
mutual
theorem dpt_py : ∀ d : D, pln d = true → (toPy d).depth = dpt d
  | .non, _ | .bl _, _ | .int _, _ | .str _, _ => by simp only [toPy, PyData.depth, dpt]
  | .tup xs, p => by simp only [toPy, PyData.depth, dpt, dpts_py xs p]
  | .lst xs, p => by simp only [toPy, PyData.depth, dpt, dpts_py xs p]
  | .obj _, p => by cases p
  | .fn _ _, p => by cases p
  | .scr _, p => by cases p
  | .kt _, p => by cases p
theorem dpts_py : ∀ d : List D, plns d = true → PyData.depthAll (toPys d) = dpts d
  | [], _ => by simp only [toPys, PyData.depthAll, dpts]
  | d :: ds, p => by
    have p' : pln d = true ∧ plns ds = true := by simpa [plns] using p
    simp only [toPys, PyData.depthAll, dpts, dpt_py d p'.1, dpts_py ds p'.2]
end
mutual
theorem deq_py : ∀ d e : D, pln d = true → pln e = true → PyData.eqv (toPy d) (toPy e) = deq d e
  | .tup xs, .tup ys, p, q => by simp only [toPy, PyData.eqv, deq]; exact deqs_py xs ys p q
  | .lst xs, .lst ys, p, q => by simp only [toPy, PyData.eqv, deq]; exact deqs_py xs ys p q
  | .obj _, _, p, _ => by cases p
  | .fn _ _, _, p, _ => by cases p
  | _, .obj _, _, p => by cases p
  | _, .fn _ _, _, p => by cases p
  | .scr _, _, p, _ => by cases p
  | _, .scr _, _, p => by cases p
  | .kt _, _, p, _ => by cases p
  | _, .kt _, _, p => by cases p
  | .non, .non, _, _ | .non, .bl _, _, _ | .non, .int _, _, _ | .non, .str _, _, _ | .non, .tup _, _, _ | .non, .lst _, _, _ => by simp only [toPy, PyData.eqv, deq]
  | .bl _, .non, _, _ | .bl _, .bl _, _, _ | .bl _, .int _, _, _ | .bl _, .str _, _, _ | .bl _, .tup _, _, _ | .bl _, .lst _, _, _ => by simp only [toPy, PyData.eqv, deq]
  | .int _, .non, _, _ | .int _, .bl _, _, _ | .int _, .int _, _, _ | .int _, .str _, _, _ | .int _, .tup _, _, _ | .int _, .lst _, _, _ => by simp only [toPy, PyData.eqv, deq]
  | .str _, .non, _, _ | .str _, .bl _, _, _ | .str _, .int _, _, _ | .str _, .str _, _, _ | .str _, .tup _, _, _ | .str _, .lst _, _, _ => by simp only [toPy, PyData.eqv, deq]
  | .tup _, .non, _, _ | .tup _, .bl _, _, _ | .tup _, .int _, _, _ | .tup _, .str _, _, _ | .tup _, .lst _, _, _ => by simp only [toPy, PyData.eqv, deq]
  | .lst _, .non, _, _ | .lst _, .bl _, _, _ | .lst _, .int _, _, _ | .lst _, .str _, _, _ | .lst _, .tup _, _, _ => by simp only [toPy, PyData.eqv, deq]
theorem deqs_py : ∀ d e : List D, plns d = true → plns e = true → PyData.eqvAll (toPys d) (toPys e) = deqs d e
  | [], [], _, _ => by simp only [toPys, PyData.eqvAll, deqs]
  | x :: xs, y :: ys, p, q => by
    have p' : pln x = true ∧ plns xs = true := by simpa [plns] using p
    have q' : pln y = true ∧ plns ys = true := by simpa [plns] using q
    simp only [toPys, PyData.eqvAll, deqs, deq_py x y p'.1 q'.1, deqs_py xs ys p'.2 q'.2]
  | [], y :: ys, _, _ => by simp only [toPys, PyData.eqvAll, deqs]
  | x :: xs, [], _, _ => by simp only [toPys, PyData.eqvAll, deqs]
end
theorem pln_shaped {d : D} (p : pln d = true) (z : dpt d ≤ 60) : SeqAt.shaped (toPy d) = true := by
  unfold SeqAt.shaped
  rw [pln_lay p, dpt_py d p]
  simp; omega

/-! ### operators by values -/
def rD (C : Cfg) (r : Op2) : R2 := fun x y H Q => ∃ J W d e Qd, Wk C.tq J W H ∧ DA C J W d x ∧ DA C J W e y ∧ r d e Qd ∧ ∀ v H' J' W' d', Post C.tq J W H J' W' H' → DA C J' W' d' v → Qd d' → Q v H'
section
variable {X : Cx} {C : Cfg}
theorem new_tup {J H : Hp} {W : Addr → Prop} {p : Addr} {xs : List D} {vs : List V} (w : Wk C.tq J W H) (hp : H p = none) (h : DAs C J W xs vs) :
    Post C.tq J W H (upd J p (.tup vs)) W (upd H p (.tup vs)) ∧ DA C (upd J p (.tup vs)) W (.tup xs) (.ref p) :=
  ⟨Post.laid w hp, p, vs, rfl, upd_same, h.mono (Post.laid w hp).ext fun _ h => h⟩
theorem new_lst {J H : Hp} {W : Addr → Prop} {p : Addr} {xs : List D} {vs : List V} (w : Wk C.tq J W H) (hp : H p = none) (h : DAs C J W xs vs) :
    Post C.tq J W H (upd J p (.lst vs)) W (upd H p (.lst vs)) ∧ DA C (upd J p (.lst vs)) W (.lst xs) (.ref p) :=
  ⟨Post.laid w hp, p, vs, rfl, upd_same, h.mono (Post.laid w hp).ext fun _ h => h⟩
theorem Wk.seqT {J H : Hp} {W : Addr → Prop} (w : Wk C.tq J W H) {a : Addr} {vs : List V} (h : J a = some (.tup vs)) : SqT C.K H a vs := SqT.of (w.sub _ _ h)
/-- the operator on ints alone -/
theorem opD_int {f : Value → Value → Sem Value} {r : Op2} {Cc : Int → Int → Prop} {g : Int → Int → V} {gd : Int → Int → D} (h : OpR X f (rI Cc g)) (hg : ∀ i j J W, DA C J W (gd i j) (g i j))
    (hr : ∀ d e Q, r d e Q → ∃ i j, d = .int i ∧ e = .int j ∧ Cc i j ∧ Q (gd i j)) : OpR X f (rD C r) := opR_imp h fun x y H Q ⟨J, W, d, e, Qd, w, h1, h2, q, k⟩ => by
  obtain ⟨i, j, rfl, rfl, hc, q⟩ := hr _ _ _ q
  exact ⟨i, j, h1, h2, hc, k _ H J W _ (Post.refl w) (hg _ _ _ _) q⟩
theorem opD_int0 {f : Value → Value → Sem Value} {r : Op2} {g : Int → Int → V} {gd : Int → Int → D} (h : OpR X f (rI0 g)) (hg : ∀ i j J W, DA C J W (gd i j) (g i j))
    (hr : ∀ d e Q, r d e Q → ∃ i j, d = .int i ∧ e = .int j ∧ Q (gd i j)) : OpR X f (rD C r) := opR_imp h fun x y H Q ⟨J, W, d, e, Qd, w, h1, h2, q, k⟩ => by
  obtain ⟨i, j, rfl, rfl, q'⟩ := hr _ _ _ q
  exact ⟨i, j, h1, h2, k _ H J W _ (Post.refl w) (hg _ _ _ _) q'⟩
theorem od_sub : OpR X (binaryOp .Sub) (rD C dSub) := opD_int0 op_sub (gd := fun i j => .int (i - j)) (fun _ _ _ _ => rfl) fun d e Q h => by
  unfold dSub at h; split at h
  · exact ⟨_, _, rfl, rfl, h⟩
  · exact h.elim
theorem od_fdiv : OpR X (binaryOp .FloorDiv) (rD C dFdiv) := opD_int op_fdiv (gd := fun i j => .int (i / j)) (fun _ _ _ _ => rfl) fun d e Q h => by
  unfold dFdiv at h; split at h
  · exact ⟨_, _, rfl, rfl, h⟩
  · exact h.elim
theorem od_mod : OpR X (binaryOp .Mod) (rD C dMod) := opD_int op_mod (gd := fun i j => .int (i % j)) (fun _ _ _ _ => rfl) fun d e Q h => by
  unfold dMod at h; split at h
  · exact ⟨_, _, rfl, rfl, h⟩
  · exact h.elim
theorem od_pow : OpR X (binaryOp .Pow) (rD C dPow) := opD_int op_pow (gd := fun i j => .int (i ^ j.toNat)) (fun _ _ _ _ => rfl) fun d e Q h => by
  unfold dPow at h; split at h
  · exact ⟨_, _, rfl, rfl, h⟩
  · exact h.elim
theorem od_shl : OpR X (binaryOp .LShift) (rD C dShl) := opD_int op_shl (gd := fun i j => .int (i * 2 ^ j.toNat)) (fun _ _ _ _ => rfl) fun d e Q h => by
  unfold dShl at h; split at h
  · exact ⟨_, _, rfl, rfl, h⟩
  · exact h.elim
theorem od_shr : OpR X (binaryOp .RShift) (rD C dShr) := opD_int op_shr (gd := fun i j => .int (i / 2 ^ j.toNat)) (fun _ _ _ _ => rfl) fun d e Q h => by
  unfold dShr at h; split at h
  · exact ⟨_, _, rfl, rfl, h⟩
  · exact h.elim
theorem od_and : OpR X (binaryOp .BitAnd) (rD C dAnd) := opD_int0 op_and (gd := fun i j => .int (Builtin.bitAnd i j)) (fun _ _ _ _ => rfl) fun d e Q h => by
  unfold dAnd at h; split at h
  · exact ⟨_, _, rfl, rfl, h⟩
  · exact h.elim
theorem od_or : OpR X (binaryOp .BitOr) (rD C dOr) := opD_int0 op_or (gd := fun i j => .int (Builtin.bitOr i j)) (fun _ _ _ _ => rfl) fun d e Q h => by
  unfold dOr at h; split at h
  · exact ⟨_, _, rfl, rfl, h⟩
  · exact h.elim
theorem od_xor : OpR X (binaryOp .BitXor) (rD C dXor) := opD_int0 op_xor (gd := fun i j => .int (Builtin.bitXor i j)) (fun _ _ _ _ => rfl) fun d e Q h => by
  unfold dXor at h; split at h
  · exact ⟨_, _, rfl, rfl, h⟩
  · exact h.elim
theorem od_lt : OpR X (compareOp .Lt) (rD C dLt) := opD_int0 op_lt (gd := fun i j => .bl (decide (i < j))) (fun _ _ _ _ => rfl) fun d e Q h => by
  unfold dLt at h; split at h
  · exact ⟨_, _, rfl, rfl, h⟩
  · exact h.elim
theorem od_le : OpR X (compareOp .LtE) (rD C dLe) := opD_int0 op_le (gd := fun i j => .bl (decide (i ≤ j))) (fun _ _ _ _ => rfl) fun d e Q h => by
  unfold dLe at h; split at h
  · exact ⟨_, _, rfl, rfl, h⟩
  · exact h.elim
theorem od_gt : OpR X (compareOp .Gt) (rD C dGt) := opD_int0 op_gt (gd := fun i j => .bl (decide (j < i))) (fun _ _ _ _ => rfl) fun d e Q h => by
  unfold dGt at h; split at h
  · exact ⟨_, _, rfl, rfl, h⟩
  · exact h.elim
theorem od_ge : OpR X (compareOp .GtE) (rD C dGe) := opD_int0 op_ge (gd := fun i j => .bl (decide (j ≤ i))) (fun _ _ _ _ => rfl) fun d e Q h => by
  unfold dGe at h; split at h
  · exact ⟨_, _, rfl, rfl, h⟩
  · exact h.elim
theorem da_non {J : Hp} {W : Addr → Prop} {d : D} {v : V} (h : DA C J W d v) : decide (v = .non) = isNon d := by
  cases d with
  | non => cases h; rfl
  | bl b => cases h; rfl
  | int i => cases h; rfl
  | str i => cases h; rfl
  | tup xs => obtain ⟨_, _, rfl, _⟩ := h; rfl
  | lst xs => obtain ⟨_, _, rfl, _⟩ := h; rfl
  | obj a => obtain ⟨rfl, _⟩ := h; rfl
  | fn k cs => obtain ⟨_, _, _, _, rfl, _⟩ := h; rfl
  | scr ns => obtain ⟨_, rfl, _⟩ := h; rfl
  | kt ns => obtain ⟨_, rfl, _⟩ := h; rfl
theorem od_is : OpR X (compareOp .Is) (rD C dIs) := opR_imp (OpR.or op_isN op_is_bl) fun x y H Q ⟨J, W, d, e, Qd, w, h1, h2, q, k⟩ => by
  unfold dIs at q
  split at q
  · cases h2
    exact .inl ⟨rfl, k _ H J W _ (Post.refl w) (by rw [da_non h1]; rfl) q⟩
  · split at q
    · cases h1
      cases h2
      exact .inr ⟨_, _, rfl, rfl, k _ H J W (.bl _) (Post.refl w) rfl q⟩
    · exact q.elim
  · exact q.elim
theorem od_isNot : OpR X (compareOp .IsNot) (rD C dIsNot) := opR_imp (OpR.or op_notN op_isnot_bl) fun x y H Q ⟨J, W, d, e, Qd, w, h1, h2, q, k⟩ => by
  unfold dIsNot at q
  split at q
  · cases h2
    exact .inl ⟨rfl, k _ H J W _ (Post.refl w) (by rw [da_non h1]; rfl) q⟩
  · split at q
    · cases h1
      cases h2
      exact .inr ⟨_, _, rfl, rfl, k _ H J W (.bl _) (Post.refl w) rfl q⟩
    · exact q.elim
  · exact q.elim
theorem od_eq (hC : X.K = C.K) (hu : X.A.units + 64 < cLine) : OpR X (compareOp .Eq) (rD C dEq) := opR_imp (OpR.or op_eq (op_eqD hu)) fun x y H Q ⟨J, W, d, e, Qd, w, h1, h2, q, k⟩ => by
  unfold dEq at q
  split at q
  · cases h1
    cases h2
    refine .inl ⟨rfl, k _ H J W (.bl _) (Post.refl w) ?_ q⟩
    show V.bl _ = V.bl _
    rw [dec_str, Bool.beq_eq_decide_eq]
  · obtain ⟨⟨p1, p2, z1, z2⟩, q⟩ := q
    rw [hC]
    exact .inr ⟨toPy d, toPy e, da_dp w h1 p1, da_dp w h2 p2, pln_shaped p1 z1, pln_shaped p2 z2, k _ H J W _ (Post.refl w) (by rw [deq_py d e p1 p2]; rfl) q⟩
theorem od_ne (hC : X.K = C.K) (hu : X.A.units + 64 < cLine) : OpR X (compareOp .NotEq) (rD C dNe) := opR_imp (OpR.or op_ne (op_neD hu)) fun x y H Q ⟨J, W, d, e, Qd, w, h1, h2, q, k⟩ => by
  unfold dNe at q
  split at q
  · cases h1
    cases h2
    refine .inl ⟨rfl, k _ H J W (.bl _) (Post.refl w) ?_ q⟩
    show V.bl _ = V.bl _
    rw [dec_str, Bool.beq_eq_decide_eq]
  · obtain ⟨⟨p1, p2, z1, z2⟩, q⟩ := q
    rw [hC]
    exact .inr ⟨toPy d, toPy e, da_dp w h1 p1, da_dp w h2 p2, pln_shaped p1 z1, pln_shaped p2 z2, k _ H J W _ (Post.refl w) (by rw [deq_py d e p1 p2]; rfl) q⟩
theorem od_add (hC : X.K = C.K) : OpR X (binaryOp .Add) (rD C dAdd) := by
  intro pins s σ H x y v u Q I rx ry h
  obtain ⟨J, W, d, e, Qd, w, h1, h2, q, k⟩ := h
  unfold dAdd at q
  split at q
  · exact op_add pins s σ H x y v u Q I rx ry ⟨_, _, h1, h2, k _ H J W (.int _) (Post.refl w) rfl q⟩
  · obtain ⟨a, vs, rfl, ha, hvs⟩ := h1
    obtain ⟨b, ws, rfl, hb, hws⟩ := h2
    refine op_cat pins s σ H _ _ v u Q I rx ry ⟨a, b, vs, ws, rfl, rfl, w.sub _ _ ha, w.sub _ _ hb, by rw [hvs.length, hws.length, ← lim_line]; exact q.1, fun p hp => ?_⟩
    obtain ⟨n1, n2⟩ := new_lst w hp (hvs.append hws)
    exact k _ _ _ _ _ n1 n2 q.2
  · obtain ⟨a, vs, rfl, ha, hvs⟩ := h1
    obtain ⟨b, ws, rfl, hb, hws⟩ := h2
    rename_i xs ys
    refine op_catA pins s σ H _ _ v u Q I rx ry ⟨a, b, vs, ws, rfl, rfl, by rw [hC]; exact w.seqT ha, by rw [hC]; exact w.seqT hb, by rw [hvs.length, hws.length, ← lim_line]; exact q.1, fun e => ?_, fun _ e => ?_, fun _ _ p hp => ?_⟩
    · have e' : xs = [] := by
        have := hvs.length
        rw [e] at this
        exact List.length_eq_zero_iff.mp this.symm
      subst e'
      exact k _ H J W (.tup _) (Post.refl w) ⟨b, ws, rfl, hb, hws⟩ q.2
    · have e' : ys = [] := by
        have := hws.length
        rw [e] at this
        exact List.length_eq_zero_iff.mp this.symm
      subst e'
      exact k _ H J W (.tup _) (Post.refl w) ⟨a, vs, rfl, ha, by simpa using hvs⟩ q.2
    · obtain ⟨n1, n2⟩ := new_tup w hp (hvs.append hws)
      exact k _ _ _ _ _ n1 n2 q.2
  · exact op_add_str pins s σ H x y v u Q I rx ry ⟨_, _, h1, h2, by rw [← lim_line]; exact q.1, k _ H J W (.str _) (Post.refl w) rfl q.2⟩
  · exact q.elim
theorem das_rep {J : Hp} {W : Addr → Prop} {xs : List D} {vs : List V} (h : DAs C J W xs vs) : ∀ n : Nat, DAs C J W (List.replicate n xs).flatten (List.replicate n vs).flatten
  | 0 => rfl
  | n + 1 => by
    rw [List.replicate_succ, List.replicate_succ, List.flatten_cons, List.flatten_cons]
    exact h.append (das_rep h n)
theorem od_mul (hC : X.K = C.K) : OpR X (binaryOp .Mult) (rD C dMul) := by
  intro pins s σ H x y v u Q I rx ry h
  obtain ⟨J, W, d, e, Qd, w, h1, h2, q, k⟩ := h
  unfold dMul at q
  split at q
  · exact op_mul pins s σ H x y v u Q I rx ry ⟨_, _, h1, h2, q.1, k _ H J W (.int _) (Post.refl w) rfl q.2⟩
  · obtain ⟨a, vs, rfl, ha, hvs⟩ := h1
    refine op_rep pins s σ H _ _ v u Q I rx ry ⟨a, _, vs, rfl, h2, w.sub _ _ ha, q.1.1, q.1.2.1, by rw [hvs.length, ← lim_line]; exact q.1.2.2, fun p hp => ?_⟩
    obtain ⟨n1, n2⟩ := new_lst w hp (das_rep hvs _)
    exact k _ _ _ _ _ n1 n2 q.2
  · obtain ⟨a, vs, rfl, ha, hvs⟩ := h1
    have hne : vs ≠ [] := fun e => by
      have := hvs.length
      rw [e] at this
      exact q.1.1 (List.length_eq_zero_iff.mp this.symm)
    rename_i xs kk
    have rep1 : (List.replicate 1 xs).flatten = xs := by simp
    by_cases c1 : kk = 1
    · subst c1
      refine LM.op_repT1 pins s σ H _ _ v u Q I rx ry ⟨a, _, vs, rfl, h2, by rw [hC]; exact w.seqT ha, hne, .inl ⟨rfl, ?_⟩⟩
      exact k _ H J W (.tup xs) (Post.refl w) ⟨a, vs, rfl, ha, hvs⟩ (by have := q.2; rw [show (1 : Int).toNat = 1 from rfl, rep1] at this; exact this)
    by_cases c0 : kk ≤ 0
    · refine LM.op_repT1 pins s σ H _ _ v u Q I rx ry ⟨a, _, vs, rfl, h2, by rw [hC]; exact w.seqT ha, hne, .inr ⟨q.1.2.1, c0, fun p hp => ?_⟩⟩
      obtain ⟨n1, n2⟩ := new_tup (xs := []) (vs := []) w hp rfl
      refine k _ _ _ _ _ n1 n2 ?_
      have := q.2
      rw [show kk.toNat = 0 from by omega] at this
      exact this
    refine op_repT pins s σ H _ _ v u Q I rx ry ⟨a, _, vs, rfl, h2, by rw [hC]; exact w.seqT ha, hne, by omega, q.1.2.2.1, by rw [hvs.length]; exact q.1.2.2.2, fun p hp => ?_⟩
    · obtain ⟨n1, n2⟩ := new_tup w hp (das_rep hvs _)
      exact k _ _ _ _ _ n1 n2 q.2
  · exact q.elim
end
end L2.DL
namespace L2.DL
open PySem PySem.Spec PyProof.Rows

/-! ### expressions -/
abbrev WA' := Env' → (Exc → Prop) → (List D → Prop) → Prop
abbrev WT' := Env' → (Exc → Prop) → (Bool → Prop) → Prop
def wVar (i : Nat) : WE' := fun ρ _ Q => match getS ρ i with
  | some d => Q d
  | none => False
def wCst (d : D) : WE' := fun _ _ Q => Q d
def wBin (r : Op2) (a b : WE') : WE' := fun ρ E Q => a ρ E fun x => b ρ E fun y => r x y Q
def wChain (r r' : Op2) (a b c : WE') : WE' := fun ρ E Q => a ρ E fun x => b ρ E fun y => r x y fun z => match z with
  | .bl true => c ρ E fun u => r' y u Q
  | .bl false => Q (.bl false)
  | _ => False
def wAnd (a b : WE') : WE' := fun ρ E Q => a ρ E fun x => match dTru x with
  | some true => b ρ E Q
  | some false => Q x
  | none => False
def wOr (a b : WE') : WE' := fun ρ E Q => a ρ E fun x => match dTru x with
  | some true => Q x
  | some false => b ρ E Q
  | none => False
def wNot (a : WE') : WE' := fun ρ E Q => a ρ E fun x => match dTru x with
  | some k => Q (.bl (!k))
  | none => False
def wIte (c : WT') (a b : WE') : WE' := fun ρ E Q => c ρ E fun k => match k with
  | true => a ρ E Q
  | false => b ρ E Q
def wNil : WA' := fun _ _ Q => Q []
def wCons (a : WE') (b : WA') : WA' := fun ρ E Q => a ρ E fun d => b ρ E fun ds => Q (d :: ds)
def wTup (a : WA') : WE' := fun ρ E Q => a ρ E fun ds => ds.length ≤ LIM ∧ Q (.tup ds)
def wLst (a : WA') : WE' := fun ρ E Q => a ρ E fun ds => ds.length ≤ LIM ∧ Q (.lst ds)
def wCall (n : Nat) (S : SpD) (a : WA') : WE' := fun ρ E Q => a ρ E fun ds => ds.length = n ∧ S ds E Q
def wCallK (n m : Nat) (perm : List D → List D) (S : SpD) (a : WA') : WE' := fun ρ E Q => a ρ E fun ds => ds.length = m ∧ (perm ds).length = n ∧ S (perm ds) E Q
def wBlt (r : List D → (D → Prop) → Prop) (a : WA') : WE' := fun ρ E Q => a ρ E fun ds => r ds Q
def wMth (r : D → List D → (D → Prop) → Prop) (o : WE') (a : WA') : WE' := fun ρ E Q => o ρ E fun x => a ρ E fun ds => r x ds Q
/-- tests -/
def tTru (a : WE') : WT' := fun ρ E Q => a ρ E fun x => match dTru x with
  | some k => Q k
  | none => False
def tAnd' (a b : WT') : WT' := fun ρ E Q => a ρ E fun k => match k with
  | true => b ρ E Q
  | false => Q false
def tOr' (a b : WT') : WT' := fun ρ E Q => a ρ E fun k => match k with
  | true => Q true
  | false => b ρ E Q
def tNot' (a : WT') : WT' := fun ρ E Q => a ρ E fun k => Q (!k)

def isStar : Expr → Bool
  | .Starred _ _ => true
  | _ => false
theorem star_one {e : Expr} {es : List Expr} {env : Env} (h : isStar e = false) : starEach (e :: es) env = (false, eval e env) :: starEach es env := by
  cases e <;> first
    | rfl
    | cases h
theorem star_none : ∀ {es : List Expr} {env : Env} {pos : Pos}, es.all (fun e => !isStar e) = true → (backTo pos (starEach es env)).any (·.1) = false
  | [], _, _, _ => rfl
  | e :: es, env, pos, h => by
    have h' : isStar e = false ∧ es.all (fun e => !isStar e) = true := by simpa using h
    rw [star_one h'.1]
    show (false || (backTo pos (starEach es env)).any (·.1)) = false
    rw [star_none h'.2]
    rfl
def isSlice : Expr → Bool
  | .Slice _ _ _ _ => true
  | _ => false

section
variable {X : Cx} {C : Cfg} {Wx : WX} {a b c e : Expr} {es : List Expr} {pos p : Pos} {x : Str} {wa wb wc : WE'} {ws : WA'} {i : Nat}
theorem se_var (hN : X.N[i]? = some x) (hv : Vis X.env.scope x) (hd : (x == ("__debug__" : Str)) = false) (hcd : (x == ("__classdict__" : Str)) = false) : PE X (.Name x pos) (tE C Wx (wVar i)) :=
  pe_imp (pe_var hN hv hd hcd) fun σ H Q ⟨J, W, ρ, E, Qd, w, env, h, g⟩ => by
    unfold wVar at h
    split at h
    · rename_i d e
      obtain ⟨v, h1, h2⟩ := env.get i d e
      exact ⟨v, h1, g.ok v H J W d (Post.refl w) h2 h⟩
    · exact h.elim
theorem cst_imp {v : V} {d : D} {σ : St} {H : Hp} {Q : VK} (hv : ∀ J W, DA C J W d v) (h : tE C Wx (wCst d) σ H Q) : tC v σ H Q := by
  obtain ⟨J, W, ρ, E, Qd, w, env, h, g⟩ := h
  exact g.ok v H J W d (Post.refl w) (hv J W) h
theorem se_int {i : Int} {j pos} : PE X (.Constant (.int i) j pos) (tE C Wx (wCst (.int i))) := pe_imp pe_int fun _ _ _ h => cst_imp (d := .int _) (fun _ _ => rfl) h
theorem se_bl {i : Bool} {j pos} : PE X (.Constant (.bool i) j pos) (tE C Wx (wCst (.bl i))) := pe_imp pe_bl fun _ _ _ h => cst_imp (d := .bl _) (fun _ _ => rfl) h
theorem se_non {j pos} : PE X (.Constant .none j pos) (tE C Wx (wCst .non)) := pe_imp pe_non fun _ _ _ h => cst_imp (d := .non) (fun _ _ => rfl) h
theorem se_str {i : Str} {j pos} : PE X (.Constant (.str i) j pos) (tE C Wx (wCst (.str i))) := pe_imp pe_str fun _ _ _ h => cst_imp (d := .str _) (fun _ _ => rfl) h
theorem se_glob {d : D} {v : V} {u : Value} (hg : Gl X x) (hm : X.mg x = some u) (r : RelV v u) (hv : ∀ J W, DA C J W d v) (hd : (x == ("__debug__" : Str)) = false) : PE X (.Name x pos) (tE C Wx (wCst d)) :=
  pe_imp (pe_glob hg hm r hd) fun _ _ _ h => cst_imp hv h
/-- two in a row -/
theorem imp2 {r : Op2} {σ : St} {H : Hp} {Q : VK} (h : tE C Wx (wBin r wa wb) σ H Q) : tOp (rD C r) (tE C Wx wa) (tE C Wx wb) σ H Q := by
  obtain ⟨J, W, ρ, E, Qd, w, env, h, g⟩ := h
  exact ⟨J, W, ρ, E, _, w, env, h, fun v H1 J1 W1 d p da q => ⟨J1, W1, ρ, E, _, p.wk, p.env env, q, fun v2 H2 J2 W2 d2 p2 da2 q2 =>
    ⟨J2, W2, d, d2, Qd, p2.wk, p2.da da, da2, q2, fun v3 H3 J3 W3 d3 p3 da3 q3 => g.ok _ _ _ _ _ (p.trans (p2.trans p3)) da3 q3⟩, (g.behind p).ex⟩, g.ex⟩
theorem se_bin {op : Operator} {r : Op2} (ho : OpR X (binaryOp op) (rD C r)) (ha : PE X a (tE C Wx wa)) (hb : PE X b (tE C Wx wb)) : PE X (.BinOp a op b pos) (tE C Wx (wBin r wa wb)) :=
  pe_imp (pe_op ho ha hb) fun _ _ _ h => imp2 h
theorem se_cmp {op : CmpOp} {r : Op2} (ho : OpR X (compareOp op) (rD C r)) (ha : PE X a (tE C Wx wa)) (hb : PE X b (tE C Wx wb)) (hm : behindInMarks op b = false) : PE X (.Compare a [op] [b] pos) (tE C Wx (wBin r wa wb)) :=
  pe_imp (pe_cmpR ho ha hb hm) fun _ _ _ h => imp2 h
theorem se_chain {op op' : CmpOp} {r r' : Op2} (ho : OpR X (compareOp op) (rD C r)) (ho' : OpR X (compareOp op') (rD C r')) (ha : PE X a (tE C Wx wa)) (hb : PE X b (tE C Wx wb)) (hc : PE X c (tE C Wx wc)) (hm : lastMarks [op, op'] [b, c] = false) :
    PE X (.Compare a [op, op'] [b, c] pos) (tE C Wx (wChain r r' wa wb wc)) :=
  pe_imp (pe_chain ho ho' ha hb hc hm) fun σ H Q ⟨J, W, ρ, E, Qd, w, env, h, g⟩ =>
    ⟨J, W, ρ, E, _, w, env, h, fun v H1 J1 W1 d p da q => ⟨J1, W1, ρ, E, _, p.wk, p.env env, q, fun v2 H2 J2 W2 d2 p2 da2 q2 =>
      ⟨J2, W2, d, d2, _, p2.wk, p2.da da, da2, q2, fun v3 H3 J3 W3 d3 p3 da3 q3 => by
        have pp := p.trans (p2.trans p3)
        cases d3 with
        | bl k =>
          cases k with
          | true =>
            refine ⟨true, da3, ?_⟩
            refine iteT ⟨J3, W3, ρ, E, _, p3.wk, pp.env env, q3, fun v4 H4 J4 W4 d4 p4 da4 q4 => ⟨J4, W4, d2, d4, Qd, p4.wk, p4.da (p3.da da2), da4, q4, fun v5 H5 J5 W5 d5 p5 da5 q5 => g.ok _ _ _ _ _ (pp.trans (p4.trans p5)) da5 q5⟩, (g.behind pp).ex⟩
          | false => exact ⟨false, da3, iteF (g.ok _ _ _ _ (.bl false) pp rfl q3)⟩
        | _ => exact q3.elim⟩, (g.behind p).ex⟩, g.ex⟩
theorem tru_of {J H : Hp} {W : Addr → Prop} (hC : X.K = C.K) (w : Wk C.tq J W H) {d : D} {v : V} {k : Bool} (h : DA C J W d v) (e : dTru d = some k) : TruV X.K v H k := by
  cases d with
  | non => cases h; cases e; rfl
  | bl b => cases h; cases e; rfl
  | int i => cases h; cases e; rfl
  | str y =>
    cases h
    have e : (if y.length ≤ LIM then some ((y.length : Int) != 0) else none) = some k := e
    by_cases hz : y.length ≤ LIM
    · rw [if_pos hz] at e
      cases e
      exact ⟨by rw [← lim_line]; exact hz, rfl⟩
    · rw [if_neg hz] at e
      cases e
  | tup xs =>
    obtain ⟨a, vs, rfl, h2, h3⟩ := h
    cases e
    refine .inr (.inl ⟨vs, by rw [hC]; exact w.seqT h2, ?_⟩)
    have := h3.length
    cases xs <;> cases vs <;> simp_all
  | lst xs =>
    obtain ⟨a, vs, rfl, h2, h3⟩ := h
    cases e
    refine .inl ⟨vs, .inl (.inl (w.sub _ _ h2)), ?_⟩
    have := h3.length
    cases xs <;> cases vs <;> simp_all
  | obj a => cases e
  | fn k cs => cases e
  | scr ns => cases e
  | kt ns => cases e
theorem se_and {r : List Expr} (hC : X.K = C.K) (ha : PE X a (tE C Wx wa)) (hb : PE X (.BoolOp .And (b :: r) pos) (tE C Wx wb)) : PE X (.BoolOp .And (a :: b :: r) pos) (tE C Wx (wAnd wa wb)) :=
  pe_imp (pe_andT ha hb) fun σ H Q ⟨J, W, ρ, E, Qd, w, env, h, g⟩ => ⟨J, W, ρ, E, _, w, env, h, fun v H1 J1 W1 d p da q => by
    cases e : dTru d with
    | none => rw [e] at q; exact q.elim
    | some k =>
      rw [e] at q
      refine ⟨k, tru_of hC p.wk da e, ?_⟩
      cases k with
      | true => exact iteT ⟨J1, W1, ρ, E, Qd, p.wk, p.env env, q, g.behind p⟩
      | false => exact iteF (g.ok _ _ _ _ _ p da q), g.ex⟩
theorem se_or {r : List Expr} (hC : X.K = C.K) (ha : PE X a (tE C Wx wa)) (hb : PE X (.BoolOp .Or (b :: r) pos) (tE C Wx wb)) : PE X (.BoolOp .Or (a :: b :: r) pos) (tE C Wx (wOr wa wb)) :=
  pe_imp (pe_orT ha hb) fun σ H Q ⟨J, W, ρ, E, Qd, w, env, h, g⟩ => ⟨J, W, ρ, E, _, w, env, h, fun v H1 J1 W1 d p da q => by
    cases e : dTru d with
    | none => rw [e] at q; exact q.elim
    | some k =>
      rw [e] at q
      refine ⟨k, tru_of hC p.wk da e, ?_⟩
      cases k with
      | false => exact iteF ⟨J1, W1, ρ, E, Qd, p.wk, p.env env, q, g.behind p⟩
      | true => exact iteT (g.ok _ _ _ _ _ p da q), g.ex⟩
theorem se_one {op : BoolOp} {t : TE} (h : PE X a t) : PE X (.BoolOp op [a] pos) t := pe_one h
theorem se_not (hC : X.K = C.K) (ha : PE X a (tE C Wx wa)) : PE X (.UnaryOp .Not a pos) (tE C Wx (wNot wa)) :=
  pe_imp (pe_notT ha) fun σ H Q ⟨J, W, ρ, E, Qd, w, env, h, g⟩ => ⟨J, W, ρ, E, _, w, env, h, fun v H1 J1 W1 d p da q => by
    cases e : dTru d with
    | none => rw [e] at q; exact q.elim
    | some k =>
      rw [e] at q
      exact ⟨k, tru_of hC p.wk da e, g.ok _ _ _ _ (.bl _) p rfl q⟩, g.ex⟩
def dNeg : D → (D → Prop) → Prop
  | .int i, Q => Q (.int (-i))
  | _, _ => False
def wNeg (a : WE') : WE' := fun ρ E Q => a ρ E fun x => dNeg x Q
theorem se_neg (ha : PE X a (tE C Wx wa)) : PE X (.UnaryOp .USub a pos) (tE C Wx (wNeg wa)) :=
  pe_imp (pe_un un_neg ha) fun σ H Q ⟨J, W, ρ, E, Qd, w, env, h, g⟩ => ⟨J, W, ρ, E, _, w, env, h, fun v H1 J1 W1 d p da q => by
    unfold dNeg at q
    split at q
    · exact ⟨_, da, g.ok _ _ _ _ (.int _) p rfl q⟩
    · exact q.elim, g.ex⟩
/-! tests -/
theorem st_val (hC : X.K = C.K) (ha : PE X a (tE C Wx wa)) (he : ∀ whole, isTrue a X.env whole = (do let v ← whole; standAt a.pos; holding [v] (truthy v))) : PT X a (tT C Wx (tTru wa)) :=
  pt_imp (pt_truth ha he) fun σ H Q ⟨J, W, ρ, E, Qd, w, env, h, g⟩ => ⟨J, W, ρ, E, _, w, env, h, fun v H1 J1 W1 d p da q => by
    cases e : dTru d with
    | none => rw [e] at q; exact q.elim
    | some k =>
      rw [e] at q
      exact ⟨k, tru_of hC p.wk da e, g.ok _ _ _ _ k p rfl q⟩, g.ex⟩
theorem tru_bl {J : Hp} {W : Addr → Prop} {d : D} {v : V} {k : Bool} (h : DA C J W d v) (e : dTru d = some k) (hb : ∃ b, d = .bl b) : v = .bl k := by
  obtain ⟨b, rfl⟩ := hb
  cases e
  exact h
/-- the answer of a comparison is a truth value -/
def OnlyB (r : Op2) : Prop := ∀ d e Q, r d e Q → r d e fun z => (∃ b, z = .bl b) ∧ Q z
theorem st_cmp {op : CmpOp} {r : Op2} (hr : OnlyB r) (ho : OpR X (compareOp op) (rD C r)) (ha : PE X a (tE C Wx wa)) (hb : PE X b (tE C Wx wb)) (hm : behindInMarks op b = false) : PT X (.Compare a [op] [b] pos) (tT C Wx (tTru (wBin r wa wb))) :=
  pt_imp (pt_cmpR ho ha hb hm) fun σ H Q ⟨J, W, ρ, E, Qd, w, env, h, g⟩ => ⟨J, W, ρ, E, _, w, env, h, fun v H1 J1 W1 d p da q => ⟨J1, W1, ρ, E, _, p.wk, p.env env, q, fun v2 H2 J2 W2 d2 p2 da2 q2 =>
    ⟨J2, W2, d, d2, _, p2.wk, p2.da da, da2, hr _ _ _ q2, fun v3 H3 J3 W3 d3 p3 da3 q3 => by
      obtain ⟨⟨b, rfl⟩, q3⟩ := q3
      exact ⟨b, da3, g.ok _ _ _ _ b (p.trans (p2.trans p3)) rfl q3⟩⟩, (g.behind p).ex⟩, g.ex⟩
theorem st_chain {op op' : CmpOp} {r r' : Op2} (hr : OnlyB r') (ho : OpR X (compareOp op) (rD C r)) (ho' : OpR X (compareOp op') (rD C r')) (ha : PE X a (tE C Wx wa)) (hb : PE X b (tE C Wx wb)) (hc : PE X c (tE C Wx wc)) (hm : lastMarks [op, op'] [b, c] = false) :
    PT X (.Compare a [op, op'] [b, c] pos) (tT C Wx (tTru (wChain r r' wa wb wc))) :=
  pt_imp (pt_chain ho ho' ha hb hc hm) fun σ H Q ⟨J, W, ρ, E, Qd, w, env, h, g⟩ =>
    ⟨J, W, ρ, E, _, w, env, h, fun v H1 J1 W1 d p da q => ⟨J1, W1, ρ, E, _, p.wk, p.env env, q, fun v2 H2 J2 W2 d2 p2 da2 q2 =>
      ⟨J2, W2, d, d2, _, p2.wk, p2.da da, da2, q2, fun v3 H3 J3 W3 d3 p3 da3 q3 => by
        have pp := p.trans (p2.trans p3)
        cases d3 with
        | bl k =>
          cases k with
          | true =>
            refine ⟨true, da3, ?_⟩
            refine iteT ⟨J3, W3, ρ, E, _, p3.wk, pp.env env, q3, fun v4 H4 J4 W4 d4 p4 da4 q4 => ⟨J4, W4, d2, d4, _, p4.wk, p4.da (p3.da da2), da4, hr _ _ _ q4, fun v5 H5 J5 W5 d5 p5 da5 q5 => by
              obtain ⟨⟨b, rfl⟩, q5⟩ := q5
              exact ⟨b, da5, g.ok _ _ _ _ b (pp.trans (p4.trans p5)) rfl q5⟩⟩, (g.behind pp).ex⟩
          | false => exact ⟨false, da3, iteF ⟨false, rfl, g.ok _ _ _ _ _ pp rfl q3⟩⟩
        | _ => exact q3.elim⟩, (g.behind p).ex⟩, g.ex⟩
theorem st_not {ta : WT'} (ha : PT X a (tT C Wx ta)) : PT X (.UnaryOp .Not a pos) (tT C Wx (tNot' ta)) :=
  pt_imp (pt_not ha) fun σ H Q ⟨J, W, ρ, E, Qd, w, env, h, g⟩ => ⟨J, W, ρ, E, _, w, env, h, fun v H1 J1 W1 d p da q => by
    cases da
    exact g.ok _ _ _ _ _ p rfl q, g.ex⟩
theorem st_and1 {ta : WT'} (ha : PT X a (tT C Wx ta)) : PW X (.BoolOp .And [a] pos) (tT C Wx ta) := pw_and1 ha
theorem st_or1 {ta : WT'} (ha : PT X a (tT C Wx ta)) : PW X (.BoolOp .Or [a] pos) (tT C Wx ta) := pw_or1 ha
theorem st_and {ta tb : WT'} {r : List Expr} (ha : PT X a (tT C Wx ta)) (hb : PW X (.BoolOp .And (b :: r) pos) (tT C Wx tb)) : PW X (.BoolOp .And (a :: b :: r) pos) (tT C Wx (tAnd' ta tb)) :=
  ⟨fun wh pins s σ H Q I h => (pw_and ha hb).run wh pins s σ H Q I (by
    obtain ⟨J, W, ρ, E, Qd, w, env, h, g⟩ := h
    exact ⟨J, W, ρ, E, _, w, env, h, fun v H1 J1 W1 d p da q => by
      cases da
      cases v with
      | true => exact iteT ⟨J1, W1, ρ, E, Qd, p.wk, p.env env, q, g.behind p⟩
      | false => exact iteF (g.ok _ _ _ _ _ p rfl q), g.ex⟩)⟩
theorem st_or {ta tb : WT'} {r : List Expr} (ha : PT X a (tT C Wx ta)) (hb : PW X (.BoolOp .Or (b :: r) pos) (tT C Wx tb)) : PW X (.BoolOp .Or (a :: b :: r) pos) (tT C Wx (tOr' ta tb)) :=
  ⟨fun wh pins s σ H Q I h => (pw_or ha hb).run wh pins s σ H Q I (by
    obtain ⟨J, W, ρ, E, Qd, w, env, h, g⟩ := h
    exact ⟨J, W, ρ, E, _, w, env, h, fun v H1 J1 W1 d p da q => by
      cases da
      cases v with
      | false => exact iteF ⟨J1, W1, ρ, E, Qd, p.wk, p.env env, q, g.behind p⟩
      | true => exact iteT (g.ok _ _ _ _ _ p rfl q), g.ex⟩)⟩
theorem se_ite {tc : WT'} (hc : PT X c (tT C Wx tc)) (ha : PE X a (tE C Wx wa)) (hb : PE X b (tE C Wx wb)) : PE X (.IfExp c a b pos) (tE C Wx (wIte tc wa wb)) :=
  pe_imp (pe_ifExp hc ha hb) fun σ H Q ⟨J, W, ρ, E, Qd, w, env, h, g⟩ => ⟨J, W, ρ, E, _, w, env, h, fun v H1 J1 W1 d p da q => by
    cases da
    cases v with
    | true => exact iteT ⟨J1, W1, ρ, E, Qd, p.wk, p.env env, q, g.behind p⟩
    | false => exact iteF ⟨J1, W1, ρ, E, Qd, p.wk, p.env env, q, g.behind p⟩, g.ex⟩
/-! arguments, displays -/
theorem sa_nil : PA X [] (tAs C Wx wNil) := pa_imp pa_nil fun σ H Q ⟨J, W, ρ, E, Qd, w, env, h, g⟩ => g.ok [] H J W [] (Post.refl w) rfl h
theorem sa_cons (ha : PE X e (tE C Wx wa)) (hr : PA X es (tAs C Wx ws)) (hs : isStar e = false) : PA X (e :: es) (tAs C Wx (wCons wa ws)) :=
  pa_imp (pa_cons ha hr (star_one hs)) fun σ H Q ⟨J, W, ρ, E, Qd, w, env, h, g⟩ =>
    ⟨J, W, ρ, E, _, w, env, h, fun v H1 J1 W1 d p da q => ⟨J1, W1, ρ, E, _, p.wk, p.env env, q, fun v2 H2 J2 W2 d2 p2 da2 q2 => g.ok _ _ _ _ (d :: d2) (p.trans p2) ⟨v, v2, rfl, p2.da da, da2⟩ q2, (g.behind p).ex⟩, g.ex⟩
def wStar (a : WE') (b : WA') : WA' := fun ρ E Q => a ρ E fun d => match d with
  | .lst xs => b ρ E fun ds => Q (xs ++ ds)
  | .tup xs => b ρ E fun ds => Q (xs ++ ds)
  | _ => False
theorem sa_star {p : Pos} (ha : PE X e (tE C Wx wa)) (hr : PA X es (tAs C Wx ws)) : PA X (.Starred e p :: es) (tAs C Wx (wStar wa ws)) :=
  pa_imp (StX.pa_star ha hr) fun σ H Q ⟨J, W, ρ, E, Qd, w, env, h, g⟩ =>
    ⟨J, W, ρ, E, _, w, env, h, fun v H1 J1 W1 d p da q => by
      cases d with
      | lst xs =>
        obtain ⟨a, vs, rfl, h2, h3⟩ := da
        exact ⟨a, vs, rfl, .inr (SqL.of (p.wk.sub _ _ h2)), J1, W1, ρ, E, _, p.wk, p.env env, q, fun v2 H2 J2 W2 d2 p2 da2 q2 => g.ok _ _ _ _ (xs ++ d2) (p.trans p2) ((p2.das h3).append da2) q2, (g.behind p).ex⟩
      | tup xs =>
        obtain ⟨a, vs, rfl, h2, h3⟩ := da
        exact ⟨a, vs, rfl, .inl (SqT.of (p.wk.sub _ _ h2)), J1, W1, ρ, E, _, p.wk, p.env env, q, fun v2 H2 J2 W2 d2 p2 da2 q2 => g.ok _ _ _ _ (xs ++ d2) (p.trans p2) ((p2.das h3).append da2) q2, (g.behind p).ex⟩
      | _ => exact False.elim q, g.ex⟩
theorem se_tup {x1} (h : PA X es (tAs C Wx ws)) : PE X (.Tuple es x1 pos) (tE C Wx (wTup ws)) :=
  pe_imp (pe_tup h) fun σ H Q ⟨J, W, ρ, E, Qd, w, env, h, g⟩ => ⟨J, W, ρ, E, _, w, env, h, fun v H1 J1 W1 d p da q =>
    ⟨by rw [da.length, ← lim_line]; exact q.1, fun l hl => (new_tup p.wk hl da).elim fun n1 n2 => g.ok _ _ _ _ _ (p.trans n1) n2 q.2⟩, g.ex⟩
theorem se_lst (h : PA X es (tAs C Wx ws)) : PE X (.List es pos) (tE C Wx (wLst ws)) :=
  pe_imp (pe_lst h) fun σ H Q ⟨J, W, ρ, E, Qd, w, env, h, g⟩ => ⟨J, W, ρ, E, _, w, env, h, fun v H1 J1 W1 d p da q =>
    ⟨by rw [da.length, ← lim_line]; exact q.1, fun l hl => (new_lst p.wk hl da).elim fun n1 n2 => g.ok _ _ _ _ _ (p.trans n1) n2 q.2⟩, g.ex⟩
end
end L2.DL
namespace L2.DL
open PySem PySem.Spec PyProof.Rows

mutual
/-- no closure within -/
def noFn : D → Bool
  | .fn _ _ => false
  | .tup xs => noFns xs
  | .lst xs => noFns xs
  | _ => true
def noFns : List D → Bool
  | [] => true
  | d :: ds => noFn d && noFns ds
end
mutual
theorem da_up {C : Cfg} {J : Hp} {W : Addr → Prop} : ∀ {d : D} {v : V}, DA { C with cz := [] } J W d v → DA C J W d v
  | .non, _, h | .bl _, _, h | .int _, _, h | .str _, _, h | .obj _, _, h | .scr _, _, h | .kt _, _, h => h
  | .tup _, _, ⟨a, vs, h1, h2, h3⟩ => ⟨a, vs, h1, h2, das_up h3⟩
  | .lst _, _, ⟨a, vs, h1, h2, h3⟩ => ⟨a, vs, h1, h2, das_up h3⟩
  | .fn _ _, _, ⟨_, _, _, _, _, _, _, _, h, _⟩ => absurd h List.not_mem_nil
theorem das_up {C : Cfg} {J : Hp} {W : Addr → Prop} : ∀ {d : List D} {v : List V}, DAs { C with cz := [] } J W d v → DAs C J W d v
  | [], _, h => h
  | _ :: _, _, ⟨v, r, h1, h2, h3⟩ => ⟨v, r, h1, da_up h2, das_up h3⟩
end
mutual
theorem da_dn {C : Cfg} {J : Hp} {W : Addr → Prop} : ∀ {d : D} {v : V}, DA C J W d v → noFn d = true → DA { C with cz := [] } J W d v
  | .non, _, h, _ | .bl _, _, h, _ | .int _, _, h, _ | .str _, _, h, _ | .obj _, _, h, _ | .scr _, _, h, _ | .kt _, _, h, _ => h
  | .tup _, _, ⟨a, vs, h1, h2, h3⟩, n => ⟨a, vs, h1, h2, das_dn h3 n⟩
  | .lst _, _, ⟨a, vs, h1, h2, h3⟩, n => ⟨a, vs, h1, h2, das_dn h3 n⟩
  | .fn _ _, _, _, n => by cases n
theorem das_dn {C : Cfg} {J : Hp} {W : Addr → Prop} : ∀ {d : List D} {v : List V}, DAs C J W d v → noFns d = true → DAs { C with cz := [] } J W d v
  | [], _, h, _ => h
  | d :: ds, _, ⟨v, r, h1, h2, h3⟩, n => by
    have n' : noFn d = true ∧ noFns ds = true := by simpa [noFns] using n
    exact ⟨v, r, h1, da_dn h2 n'.1, das_dn h3 n'.2⟩
end
theorem exd_up {C : Cfg} {x : Exc} {cls : Value} {d : Option Addr} {J : Hp} {W : Addr → Prop} {H : Hp} (h : ExD { C with cz := [] } x cls d J W H) : ExD C x cls d J W H := by
  obtain ⟨c, h1, h2, h3⟩ := h
  exact ⟨c, h1, h2, fun f hf => (h3 f hf).elim fun dd z => z.elim fun v z => ⟨dd, v, z.1, z.2.1, da_up z.2.2⟩⟩
/-! ### calls of defs -/
/-- the promise of a def over data, as the hand layer's promise -/
def spOf (C : Cfg) (n : Nat) (S : SpD) : Sp := fun vs H Q Ex => ∃ J W ds E Qd, Wk C.tq J W H ∧ DAs C J W ds vs ∧ ds.length = n ∧ S ds E Qd ∧
  (∀ v H' J' W' d, Post C.tq J W H J' W' H' → DA C J' W' d v → Qd d → Q v H') ∧ (∀ x cls dd H' J' W', Post C.tq J W H J' W' H' → ExD C x cls dd J' W' H' → E x → Ex cls dd H')
/-- a def stands in the table -/
structure FnD (P : Program) (w : World) (C : Cfg) (base : Heap) (k : Nat) (x : Str) (ps : List Str) (S : SpD) (f : Addr) (fd : FuncData) : Prop where
  mg : C.mg x = some (.ref f)
  kp : PySem.W.keepIn C.K (.ref f) = true
  bd : Binds C.K fd ps []
  ok : ∀ (A : Around) (outer : List Env) (s : Shared) (H : Hp) (args : Args) (us : List Value) (vs : List V) (Q : VK) (Ex : XK), Room k A → A.guards = some [] → Env0 P w C.K C.mg base A outer s H →
    BindsTo s fd args (ps.zip us) → Vals vs us → spOf C ps.length S vs H Q Ex → codeAny (model P w) A (.call (.ref f) args) (CR (L2.CX P w) outer P w H s Q Ex) s
/-- what a context gives -/
structure Ctx (X : Cx) (C : Cfg) (Wx : WX) (k : Nat) : Prop where
  K : X.K = C.K
  mg : X.mg = C.mg
  room : Room k X.A
  calm : X.calm = true
  nd : X.N.Nodup
  tk : Takes X Wx
  gd : X.A.guards = some []
section
variable {X : Cx} {C : Cfg} {Wx : WX} {a b c e : Expr} {es : List Expr} {pos p : Pos} {x : Str} {wa wb wc : WE'} {ws : WA'} {i k n : Nat} {f : Addr} {fd : FuncData} {ps ks : List Str} {S : SpD}
theorem Ctx.units (T : Ctx X C Wx k) : X.A.units + 65 < cLine := by have := T.room.un; omega
theorem FnD.len {P : Program} {w : World} {C : Cfg} {base : Heap} {k : Nat} {x : Str} {ps : List Str} {S : SpD} {f : Addr} {fd : FuncData} (F : FnD P w C base k x ps S f fd) : True := True.intro
/-- behind the arguments: the call -/
theorem run_D {pins : List (Addr × Obj)} {σ : St} {H : Hp} {s : Shared} {Q : VK} {us : List Value} {vs : List V} {args : Args} {j : Nat} (T : Ctx X C Wx j) (hj : k ≤ j) (F : FnD X.prog X.w C X.base k x ps S f fd)
    (I : Inv X pins σ H s) (hb : BindsTo s fd args (ps.zip us)) (r : Vals vs us) (h : spOf C ps.length S vs H Q fun cls d H' => Wx cls d σ H') : wpAny (model X.prog X.w) X.A (call (.ref f) args.pos args.kw) (EP X pins σ Q) X.xe s := by
  have e0 : Env0 X.prog X.w C.K C.mg X.base X.A X.stack s H := by
    have := I.env0
    rw [T.K, T.mg] at this
    exact this
  refine wpAny_call (codeAny_mono (F.ok X.A X.stack s H args us vs Q _ (T.room.mono hj) T.gd e0 hb r h) fun r s' hq => ?_)
  cases r with
  | error e => exact T.tk e s' (XE.of_call I (fun _ _ _ z => z) hq)
  | ok fl =>
    cases fl with
    | ret u => exact I.after hq
    | next => exact False.elim hq
    | brk => exact False.elim hq
    | cont => exact False.elim hq
theorem sp_go {J H : Hp} {W : Addr → Prop} {σ : St} {E : Exc → Prop} {Qd : D → Prop} {Q : VK} {ds : List D} {vs : List V} (w : Wk C.tq J W H) (da : DAs C J W ds vs) (hn : ds.length = n) (q : S ds E Qd) (g : Go C Wx (DA C) J W σ H E Qd Q) :
    spOf C n S vs H Q fun cls d H' => Wx cls d σ H' := ⟨J, W, ds, E, Qd, w, da, hn, q, g.ok, g.ex⟩
theorem se_call {j : Nat} (T : Ctx X C Wx j) (hj : k ≤ j) (F : FnD X.prog X.w C X.base k x ps S f fd) (hg : Gl X x) (ha : PA X (e :: es) (tAs C Wx ws)) (hs : (e :: es).all (fun e => !isStar e) = true) (hdb : (x == ("__debug__" : Str)) = false) :
    PE X (.Call (.Name x p) (e :: es) [] pos) (tE C Wx (wCall ps.length S ws)) := by
  refine ⟨fun pins s σ H Q I h => ?_⟩
  obtain ⟨J, W, ρ, E, Qd, w, env, h, g⟩ := h
  have hs' : isStar e = false ∧ es.all (fun e => !isStar e) = true := by simpa using hs
  refine wpAny_Call_Name_kw (ld_glob I hg (by rw [T.mg]; exact F.mg) ?_ hdb)
  refine PySem.W.callWith_K (h₀ := X.base) I.ok.mod.kin (by rw [T.K]; exact F.kp) (thn (ha.run pos pins s σ H (fun vs H1 => spOf C ps.length S vs H1 Q fun cls d H' => Wx cls d σ H') I
    ⟨J, W, ρ, E, _, w, env, h, fun v H1 J1 W1 d p da q => sp_go p.wk da q.1 q.2 (g.behind p), g.ex⟩) fun us s1 ⟨vs, H1, I1, r, q⟩ => ⟨I1.kIn, ?_⟩) (star_one hs'.1) (star_none hs'.2)
  have hl : us.length = ps.length := by
    obtain ⟨_, _, ds, _, _, _, da, hn, _⟩ := q
    rw [← r.length, da.length, hn]
  exact run_D (args := ⟨us, []⟩) T hj F I1 (by
    have := F.bd s1 us (by rw [← T.K]; exact I1.kIn) (by simpa using hl)
    simpa using this) r q
theorem se_call0 {j : Nat} (T : Ctx X C Wx j) (hj : k ≤ j) (F : FnD X.prog X.w C X.base k x ps S f fd) (hg : Gl X x) (hps : ps.length = 0) (hdb : (x == ("__debug__" : Str)) = false) :
    PE X (.Call (.Name x p) [] [] pos) (tE C Wx (wCall ps.length S wNil)) := by
  refine ⟨fun pins s σ H Q I h => ?_⟩
  obtain ⟨J, W, ρ, E, Qd, w, env, h, g⟩ := h
  refine wpAny_Call_Name_kw (ld_glob I hg (by rw [T.mg]; exact F.mg) ?_ hdb)
  refine PySem.W.callWith_K0 I.kIn (by rw [T.K]; exact F.kp) ?_
  exact run_D (args := ⟨[], []⟩) (us := []) (vs := []) T hj F I (by
    have := F.bd s [] (by rw [← T.K]; exact I.kIn) (by simpa using hps.symm)
    simpa using this) .nil (sp_go (ds := []) w rfl h.1 h.2 g)
/-! ### from a frame that knows cells: the def called knows none of them -/
abbrev cz0 (C : Cfg) : Cfg := { C with cz := [] }
theorem Ctx.c0 {j : Nat} (T : Ctx X C Wx j) : Ctx X (cz0 C) Wx j := ⟨T.K, T.mg, T.room, T.calm, T.nd, T.tk, T.gd⟩
def wCallP (n : Nat) (S : SpD) (a : WA') : WE' := fun ρ E Q => a ρ E fun ds => ds.length = n ∧ noFns ds = true ∧ S ds E Q
theorem se_callP {j : Nat} (T : Ctx X C Wx j) (hj : k ≤ j) (F : FnD X.prog X.w (cz0 C) X.base k x ps S f fd) (hg : Gl X x) (ha : PA X (e :: es) (tAs C Wx ws)) (hs : (e :: es).all (fun e => !isStar e) = true) (hdb : (x == ("__debug__" : Str)) = false) :
    PE X (.Call (.Name x p) (e :: es) [] pos) (tE C Wx (wCallP ps.length S ws)) := by
  refine ⟨fun pins s σ H Q I h => ?_⟩
  obtain ⟨J, W, ρ, E, Qd, w, env, h, g⟩ := h
  have hs' : isStar e = false ∧ es.all (fun e => !isStar e) = true := by simpa using hs
  refine wpAny_Call_Name_kw (ld_glob I hg (by rw [T.mg]; exact F.mg) ?_ hdb)
  refine PySem.W.callWith_K (h₀ := X.base) I.ok.mod.kin (by rw [T.K]; exact F.kp) (thn (ha.run pos pins s σ H (fun vs H1 => spOf (cz0 C) ps.length S vs H1 Q fun cls d H' => Wx cls d σ H') I
    ⟨J, W, ρ, E, _, w, env, h, fun v H1 J1 W1 d p da q => ⟨J1, W1, d, E, Qd, p.wk, das_dn da q.2.1, q.1, q.2.2, fun v H' J' W' d2 p2 da2 q2 => g.ok _ _ _ _ _ (p.trans p2) (da_up da2) q2, fun x cls dd H' J' W' p2 xd q2 => g.ex x cls dd H' J' W' (p.trans p2) (exd_up xd) q2⟩, g.ex⟩) fun us s1 ⟨vs, H1, I1, r, q⟩ => ⟨I1.kIn, ?_⟩) (star_one hs'.1) (star_none hs'.2)
  have hl : us.length = ps.length := by
    obtain ⟨_, _, ds, _, _, _, da, hn, _⟩ := q
    rw [← r.length, da.length, hn]
  exact run_D (args := ⟨us, []⟩) T.c0 hj F I1 (by
    have := F.bd s1 us (by rw [← T.K]; exact I1.kIn) (by simpa using hl)
    simpa using this) r q
/-! keywords: all by keywords -/
abbrev PKs (X : Cx) (kws : List Keyword) (t : TA) : Prop := PK X kws t
theorem sk_nil : PK X [] (tAs C Wx wNil) := ⟨fun pos pins s σ H Q I h => pk_nil.run pos pins s σ H Q I (by obtain ⟨J, W, ρ, E, Qd, w, env, h, g⟩ := h; exact g.ok [] H J W [] (Post.refl w) rfl h)⟩
theorem sk_cons {nm : Option Str} {kpos : Pos} {kws : List Keyword} (ha : PE X e (tE C Wx wa)) (hr : PK X kws (tAs C Wx ws)) : PK X (⟨nm, e, kpos⟩ :: kws) (tAs C Wx (wCons wa ws)) :=
  ⟨fun pos pins s σ H Q I h => (pk_cons ha hr).run pos pins s σ H Q I (by
    obtain ⟨J, W, ρ, E, Qd, w, env, h, g⟩ := h
    exact ⟨J, W, ρ, E, _, w, env, h, fun v H1 J1 W1 d p da q => ⟨J1, W1, ρ, E, _, p.wk, p.env env, q, fun v2 H2 J2 W2 d2 p2 da2 q2 => g.ok _ _ _ _ (d :: d2) (p.trans p2) ⟨v, v2, rfl, p2.da da, da2⟩ q2, (g.behind p).ex⟩, g.ex⟩)⟩
def kwNames (kws : List Keyword) : List (Option Str) := kws.map fun k => match k with | ⟨n, _, _⟩ => n
theorem kw_some : ∀ {kws : List Keyword} {ks : List Str} {pos : Pos} {env : Env}, kwNames kws = ks.map some →
    (backToKw pos (keywordEach kws env)).all (·.1.isSome) = true ∧ (backToKw pos (keywordEach kws env)).filterMap (·.1) = ks ∧ (backToKw pos (keywordEach kws env)).any (·.1.isNone) = false
  | [], [], _, _, _ => ⟨rfl, rfl, rfl⟩
  | [], _ :: _, _, _, h => by simp [kwNames] at h
  | ⟨n, v, q⟩ :: kws, [], _, _, h => by simp [kwNames] at h
  | ⟨n, v, q⟩ :: kws, k :: ks, pos, env, h => by
    have h' : n = some k ∧ kwNames kws = ks.map some := by simpa [kwNames] using h
    obtain ⟨e, h'⟩ := h'
    subst e
    obtain ⟨h1, h2, h3⟩ := kw_some (pos := pos) (env := env) h'
    refine ⟨?_, ?_, ?_⟩
    · show (true && (backToKw pos (keywordEach kws env)).all (·.1.isSome)) = true
      rw [h1]; rfl
    · show k :: (backToKw pos (keywordEach kws env)).filterMap (·.1) = k :: ks
      rw [h2]
    · show (false || (backToKw pos (keywordEach kws env)).any (·.1.isNone)) = false
      rw [h3]; rfl
/-- picks by places -/
def permD {α : Type} (d0 : α) (pm : List Nat) (ws : List α) : List α := pm.map fun i => ws.getD i d0
theorem permD_vals {pm : List Nat} {zs : List V} {ws : List Value} (h : Vals zs ws) : Vals (permD V.non pm zs) (permD Value.none pm ws) := by
  unfold permD
  induction pm with
  | nil => exact .nil
  | cons i pm ih =>
    refine .cons ?_ ih
    show RelV (zs.getD i V.non) (ws.getD i Value.none)
    cases e : zs[i]? with
    | none =>
      have e2 := h.none_of e
      rw [List.getD_eq_getElem?_getD, List.getD_eq_getElem?_getD, e, e2]
      exact rfl
    | some v =>
      obtain ⟨u, e2, r⟩ := h.get e
      rw [List.getD_eq_getElem?_getD, List.getD_eq_getElem?_getD, e, e2]
      exact r
theorem permD_das {J : Hp} {W : Addr → Prop} {pm : List Nat} {ds : List D} {vs : List V} (h : DAs C J W ds vs) : DAs C J W (permD D.non pm ds) (permD V.non pm vs) := by
  unfold permD
  induction pm with
  | nil => exact rfl
  | cons i pm ih =>
    refine ⟨_, _, rfl, ?_, ih⟩
    show DA C J W (ds.getD i D.non) (vs.getD i V.non)
    cases e : ds[i]? with
    | none =>
      have e2 : vs[i]? = none := by
        rw [List.getElem?_eq_none_iff] at e ⊢
        rw [h.length]; exact e
      rw [List.getD_eq_getElem?_getD, List.getD_eq_getElem?_getD, e, e2]
      rfl
    | some v =>
      obtain ⟨u, e2, r⟩ := h.get e
      rw [List.getD_eq_getElem?_getD, List.getD_eq_getElem?_getD, e, e2]
      exact r
/-- how all arguments by keywords bind -/
def KwB (K : PySem.W.Frag) (fd : FuncData) (ps ks : List Str) (pm : List Nat) : Prop := ∀ (s : Shared) (ws : List Value), K.In s.heap → ws.length = ks.length → BindsTo s fd ⟨[], ks.zip ws⟩ (ps.zip (permD Value.none pm ws))
theorem se_callK {j : Nat} {kws : List Keyword} {pm : List Nat} (T : Ctx X C Wx j) (hj : k ≤ j) (F : FnD X.prog X.w C X.base k x ps S f fd) (hkb : KwB C.K fd ps ks pm) (hg : Gl X x) (ha : PK X kws (tAs C Wx ws)) (hks : kwNames kws = ks.map some) (hdb : (x == ("__debug__" : Str)) = false) :
    PE X (.Call (.Name x p) [] kws pos) (tE C Wx (wCallK ps.length ks.length (permD D.non pm) S ws)) := by
  refine ⟨fun pins s σ H Q I h => ?_⟩
  obtain ⟨J, W, ρ, E, Qd, w, env, h, g⟩ := h
  obtain ⟨k1, k2, k3⟩ := kw_some (pos := pos) (env := X.env) hks
  refine wpAny_Call_Name_kw (ld_glob I hg (by rw [T.mg]; exact F.mg) ?_ hdb)
  refine PySem.W.callWith_KW0 (h₀ := X.base) I.ok.mod.kin (by rw [T.K]; exact F.kp) k1 (thn (ha.run pos pins s σ H (fun vs H1 => vs.length = ks.length ∧ spOf C ps.length S (permD V.non pm vs) H1 Q fun cls d H' => Wx cls d σ H') I
    ⟨J, W, ρ, E, _, w, env, h, fun v H1 J1 W1 d p da q => ⟨by rw [da.length]; exact q.1, sp_go p.wk (permD_das da) q.2.1 q.2.2 (g.behind p)⟩, g.ex⟩) fun us s1 ⟨vs, H1, I1, r, l, q⟩ => ⟨I1.kIn, ?_⟩) (by rw [k3]; rfl)
  rw [k2]
  exact run_D (args := ⟨[], ks.zip us⟩) T hj F I1 (hkb s1 us (by rw [← T.K]; exact I1.kIn) (by rw [← r.length]; exact l)) (permD_vals r) q
end
end L2.DL
namespace L2.DL
open PySem PySem.Spec PyProof.Rows

/-! ### built-ins by values -/
abbrev OpN := List D → (D → Prop) → Prop
def cD (C : Cfg) (r : OpN) : List V → Hp → VK → Prop := fun xs H Q => ∃ J W ds Qd, Wk C.tq J W H ∧ DAs C J W ds xs ∧ r ds Qd ∧ ∀ v H' J' W' d', Post C.tq J W H J' W' H' → DA C J' W' d' v → Qd d' → Q v H'
section
variable {X : Cx} {C : Cfg} {Wx : WX} {a b c e : Expr} {es : List Expr} {pos p q0 : Pos} {x : Str} {wa wb wc : WE'} {ws : WA'} {id T : String} {r : OpN}
theorem blt_imp {σ : St} {H : Hp} {Q : VK} (h : tE C Wx (wBlt r ws) σ H Q) : tCB (cD C r) (tAs C Wx ws) σ H Q := by
  obtain ⟨J, W, ρ, E, Qd, w, env, h, g⟩ := h
  exact ⟨J, W, ρ, E, _, w, env, h, fun v H1 J1 W1 d p da q => ⟨J1, W1, d, Qd, p.wk, da, q, fun v3 H3 J3 W3 d3 p3 da3 q3 => g.ok _ _ _ _ _ (p.trans p3) da3 q3⟩, g.ex⟩
theorem se_blt (hc : CallR X (.builtin id) (cD C r)) (hg : Gl X x) (hm : X.mg x = none) (hv : bootBuiltins x = some (.builtin id)) (ha : PA X (e :: es) (tAs C Wx ws)) (hs : (e :: es).all (fun e => !isStar e) = true) (hn : x ≠ "__name__") (hdb : (x == ("__debug__" : Str)) = false) :
    PE X (.Call (.Name x p) (e :: es) [] pos) (tE C Wx (wBlt r ws)) := by
  have hs' : isStar e = false ∧ es.all (fun e => !isStar e) = true := by simpa using hs
  exact pe_imp (pe_callB hc hg hm hv ha hn hdb (star_one hs'.1) (star_none hs'.2)) fun _ _ _ h => blt_imp h
theorem se_bty (hc : CallR X (.type T) (cD C r)) (hg : Gl X x) (hm : X.mg x = none) (hv : bootBuiltins x = some (.type T)) (ha : PA X (e :: es) (tAs C Wx ws)) (hs : (e :: es).all (fun e => !isStar e) = true) (hn : x ≠ "__name__") (hdb : (x == ("__debug__" : Str)) = false) :
    PE X (.Call (.Name x p) (e :: es) [] pos) (tE C Wx (wBlt r ws)) := by
  have hs' : isStar e = false ∧ es.all (fun e => !isStar e) = true := by simpa using hs
  exact pe_imp (pe_callTy hc hg hm hv ha hn hdb (star_one hs'.1) (star_none hs'.2)) fun _ _ _ h => blt_imp h
theorem se_bfun (hc : CallR X (.builtin id) (cD C r)) (hg : Gl X x) (hm : X.mg x = some (.builtin id)) (ha : PA X (e :: es) (tAs C Wx ws)) (hs : (e :: es).all (fun e => !isStar e) = true) (hdb : (x == ("__debug__" : Str)) = false) :
    PE X (.Call (.Name x p) (e :: es) [] pos) (tE C Wx (wBlt r ws)) := by
  have hs' : isStar e = false ∧ es.all (fun e => !isStar e) = true := by simpa using hs
  exact pe_imp (pe_callBfun hc hg hm ha hdb (star_one hs'.1) (star_none hs'.2)) fun _ _ _ h => blt_imp h
end
/-! the single ones -/
def bLen : OpN
  | [.str x], Q => x.length ≤ LIM ∧ Q (.int x.length)
  | [.tup xs], Q => Q (.int xs.length)
  | [.lst xs], Q => Q (.int xs.length)
  | [.scr ns], Q => Q (.int ns.length)
  | _, _ => False
def bTuple : OpN
  | [.tup xs], Q => Q (.tup xs)
  | [.lst xs], Q => Q (.tup xs)
  | _, _ => False
def bList : OpN
  | [.tup xs], Q => Q (.lst xs)
  | [.lst xs], Q => Q (.lst xs)
  | _, _ => False
def bAbs : OpN
  | [.int i], Q => Q (.int (if i < 0 then -i else i))
  | _, _ => False
def bMax2 : OpN
  | [.int i, .int j], Q => Q (.int (if j > i then j else i))
  | _, _ => False
def bMin2 : OpN
  | [.int i, .int j], Q => Q (.int (if j < i then j else i))
  | _, _ => False
def bInt : OpN
  | [.int i], Q => Q (.int i)
  | [.bl k], Q => Q (.int (if k then 1 else 0))
  | _, _ => False
def bBool : OpN
  | [.int i], Q => Q (.bl (i != 0))
  | [.bl k], Q => Q (.bl k)
  | [.lst xs], Q => Q (.bl (!xs.isEmpty))
  | _, _ => False
def bDivmod : OpN
  | [.int i, .int j], Q => (0 < j ∧ j < 1073741824) ∧ Q (.tup [.int (i / j), .int (i % j)])
  | _, _ => False
def bGcd : OpN
  | [.int i, .int j], Q => Q (.int ((Nat.gcd i.natAbs j.natAbs : Nat) : Int))
  | _, _ => False
def bStr : OpN
  | [.int i], Q => i.natAbs.log2 < 1920 ∧ Q (.str (toString i))
  | _, _ => False
/-- all items ints, bools -/
def intsOf : List D → Option (List Int)
  | [] => some []
  | .int i :: r => (intsOf r).map (i :: ·)
  | _ => none
def blsOf : List D → Option (List Bool)
  | [] => some []
  | .bl i :: r => (blsOf r).map (i :: ·)
  | _ => none
def bAll : OpN
  | [.lst xs], Q => match blsOf xs with
    | some bs => Q (.bl (bs.all id))
    | none => False
  | _, _ => False
def bAny : OpN
  | [.lst xs], Q => match blsOf xs with
    | some bs => Q (.bl (bs.any id))
    | none => False
  | _, _ => False
theorem das_ints {C : Cfg} {J : Hp} {W : Addr → Prop} : ∀ {xs : List D} {vs : List V} {ns : List Int}, DAs C J W xs vs → intsOf xs = some ns → vs = ns.map V.int
  | [], _, _, h, e => by cases h; cases e; rfl
  | .int i :: r, _, ns, h, e => by
    obtain ⟨v, rr, rfl, h1, h2⟩ := h
    obtain ⟨ms, e1, rfl⟩ := Option.map_eq_some_iff.mp (show (intsOf r).map (i :: ·) = some ns from e)
    cases h1
    rw [das_ints h2 e1]; rfl
  | .non :: _, _, _, _, e | .bl _ :: _, _, _, _, e | .str _ :: _, _, _, _, e | .tup _ :: _, _, _, _, e | .lst _ :: _, _, _, _, e | .obj _ :: _, _, _, _, e | .fn _ _ :: _, _, _, _, e | .scr _ :: _, _, _, _, e | .kt _ :: _, _, _, _, e => by cases e
theorem das_bls {C : Cfg} {J : Hp} {W : Addr → Prop} : ∀ {xs : List D} {vs : List V} {ns : List Bool}, DAs C J W xs vs → blsOf xs = some ns → vs = ns.map V.bl
  | [], _, _, h, e => by cases h; cases e; rfl
  | .bl i :: r, _, ns, h, e => by
    obtain ⟨v, rr, rfl, h1, h2⟩ := h
    obtain ⟨ms, e1, rfl⟩ := Option.map_eq_some_iff.mp (show (blsOf r).map (i :: ·) = some ns from e)
    cases h1
    rw [das_bls h2 e1]; rfl
  | .non :: _, _, _, _, e | .int _ :: _, _, _, _, e | .str _ :: _, _, _, _, e | .tup _ :: _, _, _, _, e | .lst _ :: _, _, _, _, e | .obj _ :: _, _, _, _, e | .fn _ _ :: _, _, _, _, e | .scr _ :: _, _, _, _, e | .kt _ :: _, _, _, _, e => by cases e
theorem das_map_int {C : Cfg} {J : Hp} {W : Addr → Prop} : ∀ ns : List Int, DAs C J W (ns.map D.int) (ns.map V.int)
  | [] => rfl
  | i :: r => ⟨_, _, rfl, rfl, das_map_int r⟩
section
variable {X : Cx} {C : Cfg}
theorem das1 {J : Hp} {W : Addr → Prop} {d : D} {vs : List V} (h : DAs C J W [d] vs) : ∃ v, vs = [v] ∧ DA C J W d v := by
  obtain ⟨v, r, rfl, h1, h2⟩ := h
  cases h2
  exact ⟨v, rfl, h1⟩
theorem das2 {J : Hp} {W : Addr → Prop} {d e : D} {vs : List V} (h : DAs C J W [d, e] vs) : ∃ v u, vs = [v, u] ∧ DA C J W d v ∧ DA C J W e u := by
  obtain ⟨v, r, rfl, h1, h2⟩ := h
  obtain ⟨u, r, rfl, h3, h4⟩ := h2
  cases h4
  exact ⟨v, u, rfl, h1, h3⟩
theorem cd_len (hC : X.K = C.K) : CallR X (.builtin "len") (cD C bLen) := callR_imp call_len fun xs H Q ⟨J, W, ds, Qd, w, da, q, k⟩ => by
  unfold bLen at q
  split at q
  · obtain ⟨v, rfl, h⟩ := das1 da
    cases h
    exact ⟨_, _, rfl, ⟨by rw [← lim_line]; exact q.1, rfl⟩, k _ H J W (.int _) (Post.refl w) rfl q.2⟩
  · obtain ⟨v, rfl, a, vs, rfl, h2, h3⟩ := das1 da
    exact ⟨_, _, rfl, .inr ⟨vs, SqT.of (w.sub _ _ h2), rfl⟩, k _ H J W (.int _) (Post.refl w) (by rw [h3.length]; rfl) q⟩
  · obtain ⟨v, rfl, a, vs, rfl, h2, h3⟩ := das1 da
    exact ⟨_, _, rfl, .inl ⟨vs, SqL.of (w.sub _ _ h2), rfl⟩, k _ H J W (.int _) (Post.refl w) (by rw [h3.length]; rfl) q⟩
  · obtain ⟨v, rfl, a, rfl, h2⟩ := das1 da
    exact ⟨_, _, rfl, .inl ⟨_, (by rw [hC]; exact h2.same w.sub), rfl⟩, k _ H J W (.int _) (Post.refl w) (by rw [List.length_map]; rfl) q⟩
  · exact q.elim
theorem cd_tuple : CallR X (.type "tuple") (cD C bTuple) := callR_imp call_tuple_of fun xs H Q ⟨J, W, ds, Qd, w, da, q, k⟩ => by
  unfold bTuple at q
  split at q
  · obtain ⟨v, rfl, a, vs, rfl, h2, h3⟩ := das1 da
    exact ⟨_, vs, rfl, .inr ⟨SqT.of (w.sub _ _ h2), k _ H J W (.tup _) (Post.refl w) ⟨a, vs, rfl, h2, h3⟩ q⟩⟩
  · obtain ⟨v, rfl, a, vs, rfl, h2, h3⟩ := das1 da
    exact ⟨_, vs, rfl, .inl ⟨SqL.of (w.sub _ _ h2), fun l hl => (new_tup w hl h3).elim fun n1 n2 => k _ _ _ _ _ n1 n2 q⟩⟩
  · exact q.elim
theorem cd_list : CallR X (.type "list") (cD C bList) := callR_imp call_list_of fun xs H Q ⟨J, W, ds, Qd, w, da, q, k⟩ => by
  unfold bList at q
  split at q
  · obtain ⟨v, rfl, a, vs, rfl, h2, h3⟩ := das1 da
    exact ⟨_, vs, rfl, .inr (SqT.of (w.sub _ _ h2)), fun l hl => (new_lst w hl h3).elim fun n1 n2 => k _ _ _ _ _ n1 n2 q⟩
  · obtain ⟨v, rfl, a, vs, rfl, h2, h3⟩ := das1 da
    exact ⟨_, vs, rfl, .inl (SqL.of (w.sub _ _ h2)), fun l hl => (new_lst w hl h3).elim fun n1 n2 => k _ _ _ _ _ n1 n2 q⟩
  · exact q.elim
theorem cd_abs : CallR X (.builtin "abs") (cD C bAbs) := callR_imp call_abs fun xs H Q ⟨J, W, ds, Qd, w, da, q, k⟩ => by
  unfold bAbs at q
  split at q
  · obtain ⟨v, rfl, h⟩ := das1 da
    cases h
    exact ⟨_, rfl, k _ H J W (.int _) (Post.refl w) rfl q⟩
  · exact q.elim
theorem cd_max2 (hc : X.calm = true) : CallR X (.builtin "max") (cD C bMax2) := callR_imp (call_max2 hc) fun xs H Q ⟨J, W, ds, Qd, w, da, q, k⟩ => by
  unfold bMax2 at q
  split at q
  · obtain ⟨v, u, rfl, h, h'⟩ := das2 da
    cases h; cases h'
    exact ⟨_, _, rfl, k _ H J W (.int _) (Post.refl w) rfl q⟩
  · exact q.elim
theorem cd_min2 (hc : X.calm = true) : CallR X (.builtin "min") (cD C bMin2) := callR_imp (call_min2 hc) fun xs H Q ⟨J, W, ds, Qd, w, da, q, k⟩ => by
  unfold bMin2 at q
  split at q
  · obtain ⟨v, u, rfl, h, h'⟩ := das2 da
    cases h; cases h'
    exact ⟨_, _, rfl, k _ H J W (.int _) (Post.refl w) rfl q⟩
  · exact q.elim
theorem cd_int : CallR X (.type "int") (cD C bInt) := callR_imp call_int1 fun xs H Q ⟨J, W, ds, Qd, w, da, q, k⟩ => by
  unfold bInt at q
  split at q
  · obtain ⟨v, rfl, h⟩ := das1 da
    cases h
    exact .inl ⟨_, rfl, k _ H J W (.int _) (Post.refl w) rfl q⟩
  · obtain ⟨v, rfl, h⟩ := das1 da
    cases h
    exact .inr ⟨_, rfl, k _ H J W (.int _) (Post.refl w) rfl q⟩
  · exact q.elim
theorem cd_divmod : CallR X (.builtin "divmod") (cD C bDivmod) := callR_imp call_divmod fun xs H Q ⟨J, W, ds, Qd, w, da, q, k⟩ => by
  unfold bDivmod at q
  split at q
  · rename_i i j
    obtain ⟨v, u, rfl, h, h'⟩ := das2 da
    cases h; cases h'
    refine ⟨_, _, rfl, q.1, fun l hl => ?_⟩
    have z : DAs C J W [.int (i / j), .int (i % j)] [.int (i / j), .int (i % j)] := ⟨_, _, rfl, rfl, _, _, rfl, rfl, rfl⟩
    exact (new_tup w hl z).elim fun n1 n2 => k _ _ _ _ _ n1 n2 q.2
  · exact q.elim
theorem cd_gcd : CallR X (.builtin "math.gcd") (cD C bGcd) := callR_imp cr_gcd fun xs H Q ⟨J, W, ds, Qd, w, da, q, k⟩ => by
  unfold bGcd at q
  split at q
  · obtain ⟨v, u, rfl, h, h'⟩ := das2 da
    cases h; cases h'
    exact ⟨_, _, rfl, k _ H J W (.int _) (Post.refl w) rfl q⟩
  · exact q.elim
theorem cd_str : CallR X (.type "str") (cD C bStr) := callR_imp call_str_int fun xs H Q ⟨J, W, ds, Qd, w, da, q, k⟩ => by
  unfold bStr at q
  split at q
  · obtain ⟨v, rfl, h⟩ := das1 da
    cases h
    exact ⟨_, rfl, q.1, k _ H J W (.str _) (Post.refl w) rfl q.2⟩
  · exact q.elim
theorem cd_all (hc : X.calm = true) : CallR X (.builtin "all") (cD C bAll) := callR_imp (cr_all hc) fun xs H Q ⟨J, W, ds, Qd, w, da, q, k⟩ => by
  unfold bAll at q
  split at q
  · obtain ⟨v, rfl, a, vs, rfl, h2, h3⟩ := das1 da
    split at q
    · rename_i bs hb
      exact ⟨a, bs, rfl, SqL.of (by rw [← das_bls h3 hb]; exact w.sub _ _ h2), k _ H J W (.bl _) (Post.refl w) rfl q⟩
    · exact q.elim
  · exact q.elim
theorem cd_any (hc : X.calm = true) : CallR X (.builtin "any") (cD C bAny) := callR_imp (cr_any hc) fun xs H Q ⟨J, W, ds, Qd, w, da, q, k⟩ => by
  unfold bAny at q
  split at q
  · obtain ⟨v, rfl, a, vs, rfl, h2, h3⟩ := das1 da
    split at q
    · rename_i bs hb
      exact ⟨a, bs, rfl, SqL.of (by rw [← das_bls h3 hb]; exact w.sub _ _ h2), k _ H J W (.bl _) (Post.refl w) rfl q⟩
    · exact q.elim
  · exact q.elim
end
/-! isinstance(e, T) -/
/-! sums, least, greatest, in order -/
def bSum : OpN
  | [.lst xs], Q => match intsOf xs with
    | some ns => Q (.int ns.sum)
    | none => False
  | [.tup xs], Q => match intsOf xs with
    | some ns => Q (.int ns.sum)
    | none => False
  | _, _ => False
/-- rows of whole numbers -/
def rowOf : D → Option (List Int)
  | .tup xs => intsOf xs
  | _ => none
def rowsOf : List D → Option (List (List Int))
  | [] => some []
  | d :: ds => match rowOf d, rowsOf ds with
    | some r, some rs => some (r :: rs)
    | _, _ => none
theorem intsOf_eq : ∀ {xs : List D} {ns : List Int}, intsOf xs = some ns → xs = ns.map .int := by
  intro xs
  induction xs with
  | nil => intro ns h; cases h; rfl
  | cons d ds ih =>
    intro ns h
    cases d with
    | int i =>
      have h : (intsOf ds).map (i :: ·) = some ns := h
      obtain ⟨r, h1, rfl⟩ := Option.map_eq_some_iff.mp h
      rw [ih h1]; rfl
    | _ => cases h
theorem rowsOf_eq : ∀ {xs : List D} {rs : List (List Int)}, rowsOf xs = some rs → xs = rs.map fun r => D.tup (r.map .int) := by
  intro xs
  induction xs with
  | nil => intro rs h; cases h; rfl
  | cons d ds ih =>
    intro rs h
    unfold rowsOf at h
    split at h
    · rename_i r rs' h1 h2
      cases h
      cases d with
      | tup ys => rw [List.map_cons, ← ih h2, ← intsOf_eq (show intsOf ys = some r from h1)]
      | _ => cases h1
    · cases h
theorem rows_py : ∀ rs : List (List Int), toPys (rs.map fun r => D.tup (r.map .int)) = rs.map LM.rowY
  | [] => rfl
  | r :: rs => by
    have e : ∀ l : List Int, toPys (l.map D.int) = l.map PyData.int := fun l => by
      induction l with
      | nil => rfl
      | cons x t ih => show toPy (.int x) :: toPys (t.map D.int) = _; rw [ih]; rfl
    show PyData.tuple (toPys (r.map D.int)) :: toPys (rs.map fun r => D.tup (r.map .int)) = _
    rw [rows_py rs, e]; rfl
theorem rows_pln : ∀ rs : List (List Int), plns (rs.map fun r => D.tup (r.map .int)) = true
  | [] => rfl
  | r :: rs => by
    have e : ∀ l : List Int, plns (l.map D.int) = true := fun l => by
      induction l with
      | nil => rfl
      | cons x t ih => show (pln (.int x) && plns (t.map D.int)) = true; rw [ih]; rfl
    show (plns (r.map D.int) && plns (rs.map fun r => D.tup (r.map .int))) = true
    rw [rows_pln rs, e]; rfl
/-- pairs of a number and a row -/
def pairR (p : LM.NR) : D := .tup [.int p.1, .tup (p.2.map .int)]
def prOf : D → Option LM.NR
  | .tup [.int n, .tup xs] => (intsOf xs).map fun r => (n, r)
  | _ => none
def prsOf : List D → Option (List LM.NR)
  | [] => some []
  | d :: ds => match prOf d, prsOf ds with
    | some r, some rs => some (r :: rs)
    | _, _ => none
theorem prOf_eq {d : D} {p : LM.NR} (h : prOf d = some p) : d = pairR p := by
  unfold prOf at h
  split at h
  · obtain ⟨r, h1, rfl⟩ := Option.map_eq_some_iff.mp h
    rw [intsOf_eq h1]; rfl
  · cases h
theorem prsOf_eq : ∀ {xs : List D} {ps : List LM.NR}, prsOf xs = some ps → xs = ps.map pairR := by
  intro xs
  induction xs with
  | nil => intro ps h; cases h; rfl
  | cons d ds ih =>
    intro ps h
    unfold prsOf at h
    split at h
    · rename_i r rs' h1 h2
      cases h
      rw [List.map_cons, ← ih h2, ← prOf_eq h1]
    · cases h
theorem ints_py : ∀ l : List Int, toPys (l.map D.int) = l.map PyData.int
  | [] => rfl
  | x :: t => by show toPy (.int x) :: toPys (t.map D.int) = _; rw [ints_py t]; rfl
theorem ints_pln : ∀ l : List Int, plns (l.map D.int) = true
  | [] => rfl
  | x :: t => by show (pln (.int x) && plns (t.map D.int)) = true; rw [ints_pln t]; rfl
theorem prs_py : ∀ ps : List LM.NR, toPys (ps.map pairR) = ps.map LM.pairY
  | [] => rfl
  | p :: ps => by
    show PyData.tuple [PyData.int p.1, PyData.tuple (toPys (p.2.map D.int))] :: toPys (ps.map pairR) = _
    rw [prs_py ps, ints_py]; rfl
theorem prs_pln : ∀ ps : List LM.NR, plns (ps.map pairR) = true
  | [] => rfl
  | p :: ps => by
    show ((true && (plns (p.2.map D.int) && true)) && plns (ps.map pairR)) = true
    rw [prs_pln ps, ints_pln]; rfl
def bSort : OpN
  | [.lst xs], Q => match intsOf xs with
    | some ns => ∀ ns' : List Int, ns'.Perm ns → ns'.Pairwise (· ≤ ·) → Q (.lst (ns'.map .int))
    | none => match prsOf xs with
      | some ps => Q (.lst ((ps.mergeSort LM.leP).map pairR))
      | none => False
  | [.tup xs], Q => match intsOf xs with
    | some ns => ∀ ns' : List Int, ns'.Perm ns → ns'.Pairwise (· ≤ ·) → Q (.lst (ns'.map .int))
    | none => False
  | _, _ => False
def bMax1 : OpN
  | [.lst xs], Q => match intsOf xs with
    | some ns => 0 < ns.length ∧ ∀ m, m ∈ ns → (∀ y, y ∈ ns → y ≤ m) → Q (.int m)
    | none => False
  | [.tup xs], Q => match intsOf xs with
    | some ns => 0 < ns.length ∧ ∀ m, m ∈ ns → (∀ y, y ∈ ns → y ≤ m) → Q (.int m)
    | none => False
  | _, _ => False
def bMin1 : OpN
  | [.lst xs], Q => match intsOf xs with
    | some ns => 0 < ns.length ∧ ∀ m, m ∈ ns → (∀ y, y ∈ ns → m ≤ y) → Q (.int m)
    | none => match rowsOf xs with
      | some (r :: rs) => Q (.tup ((LM.minR r rs).map .int))
      | _ => False
  | [.tup xs], Q => match intsOf xs with
    | some ns => 0 < ns.length ∧ ∀ m, m ∈ ns → (∀ y, y ∈ ns → m ≤ y) → Q (.int m)
    | none => False
  | _, _ => False
section
variable {X : Cx} {C : Cfg}
theorem cd_sum (hC : X.K = C.K) (hc : X.calm = true) : CallR X (.builtin "sum") (cD C bSum) := callR_imp (CallR.or (cr_sum hc) (LM.cr_sumT hc)) fun xs H Q ⟨J, W, ds, Qd, w, da, q, k⟩ => by
  unfold bSum at q
  split at q
  · obtain ⟨v, rfl, a, vs, rfl, h2, h3⟩ := das1 da
    split at q
    · rename_i ns e
      have := das_ints h3 e
      subst this
      exact .inl ⟨a, ns, rfl, SqL.of (w.sub _ _ h2), k _ H J W (.int _) (Post.refl w) rfl q⟩
    · exact q.elim
  · obtain ⟨v, rfl, a, vs, rfl, h2, h3⟩ := das1 da
    split at q
    · rename_i ns e
      have := das_ints h3 e
      subst this
      exact .inr ⟨a, ns, rfl, SqT.of (w.sub _ _ h2), k _ H J W (.int _) (Post.refl w) rfl q⟩
    · exact q.elim
  · exact q.elim
theorem das_zip {J : Hp} {W : Addr → Prop} : ∀ {vs : List V} {ps : List LM.NR}, DAs C J W (ps.map pairR) vs → ∀ x ∈ vs.zip ps, DA C J W (pairR x.2) x.1
  | [], ps, _, x, hx => by rw [List.zip_nil_left] at hx; cases hx
  | v :: vs, [], _, x, hx => by rw [List.zip_nil_right] at hx; cases hx
  | v :: vs, p :: ps, h, x, hx => by
    rw [List.zip_cons_cons] at hx
    obtain ⟨x0, r0, e, h1, h2⟩ := h
    cases e
    rcases List.mem_cons.mp hx with rfl | hx
    · exact h1
    · exact das_zip h2 x hx
theorem das_pairs {J : Hp} {W : Addr → Prop} : ∀ {L : List (V × LM.NR)}, (∀ x ∈ L, DA C J W (pairR x.2) x.1) → DAs C J W ((L.map (·.2)).map pairR) (L.map (·.1))
  | [], _ => rfl
  | x :: L, h => ⟨x.1, L.map (·.1), rfl, h x List.mem_cons_self, das_pairs fun y hy => h y (List.mem_cons_of_mem _ hy)⟩
theorem srtZ_snd {vs : List V} {ps : List LM.NR} (h : vs.length = ps.length) : (LM.srtZ vs ps).map (·.2) = ps.mergeSort LM.leP := by
  unfold LM.srtZ
  rw [List.map_mergeSort (s := LM.leP) (fun _ _ _ _ => rfl), List.map_snd_zip (by omega)]
theorem cd_sort (hC : X.K = C.K) (hu : X.A.units + 65 < cLine) : CallR X (.builtin "sorted") (cD C bSort) := callR_imp (CallR.or (CallR.or cr_sortedI LM.cr_sortedIT) (LM.cr_sortP hu)) fun xs H Q ⟨J, W, ds, Qd, w, da, q, k⟩ => by
  unfold bSort at q
  split at q
  · obtain ⟨v, rfl, a, vs, rfl, h2, h3⟩ := das1 da
    split at q
    · rename_i ns e
      have := das_ints h3 e
      subst this
      exact .inl (.inl ⟨a, ns, rfl, SqL.of (w.sub _ _ h2), fun ns' p h5 h6 hp => (new_lst w hp (das_map_int ns')).elim fun n1 n2 => k _ _ _ _ _ n1 n2 (q ns' h5 h6)⟩)
    · split at q
      · rename_i ps e
        have e2 := prsOf_eq e
        subst e2
        refine .inr ⟨a, vs, ps, rfl, SqL.of (w.sub _ _ h2), ?_, fun p hp => ?_⟩
        · have := das_dp w h3 (prs_pln ps)
          rw [prs_py] at this
          rw [hC]; exact this
        · have hl : vs.length = ps.length := by rw [h3.length, List.length_map]
          have hz : ∀ x ∈ LM.srtZ vs ps, DA C J W (pairR x.2) x.1 := fun x hx => das_zip h3 x (List.mem_mergeSort.mp hx)
          have hd := das_pairs hz
          rw [srtZ_snd hl] at hd
          exact (new_lst w hp hd).elim fun n1 n2 => k _ _ _ _ _ n1 n2 q
      · exact q.elim
  · obtain ⟨v, rfl, a, vs, rfl, h2, h3⟩ := das1 da
    split at q
    · rename_i ns e
      have := das_ints h3 e
      subst this
      exact .inl (.inr ⟨a, ns, rfl, SqT.of (w.sub _ _ h2), fun ns' p h5 h6 hp => (new_lst w hp (das_map_int ns')).elim fun n1 n2 => k _ _ _ _ _ n1 n2 (q ns' h5 h6)⟩)
    · exact q.elim
  · exact q.elim
theorem cd_max1 (hc : X.calm = true) : CallR X (.builtin "max") (cD C bMax1) := callR_imp (CallR.or (cr_max hc) (LM.cr_maxT hc)) fun xs H Q ⟨J, W, ds, Qd, w, da, q, k⟩ => by
  unfold bMax1 at q
  split at q
  · obtain ⟨v, rfl, a, vs, rfl, h2, h3⟩ := das1 da
    split at q
    · rename_i ns e
      have := das_ints h3 e
      subst this
      exact .inl ⟨a, ns, rfl, SqL.of (w.sub _ _ h2), q.1, fun m h5 h6 => k _ H J W (.int _) (Post.refl w) rfl (q.2 m h5 h6)⟩
    · exact q.elim
  · obtain ⟨v, rfl, a, vs, rfl, h2, h3⟩ := das1 da
    split at q
    · rename_i ns e
      have := das_ints h3 e
      subst this
      exact .inr ⟨a, ns, rfl, SqT.of (w.sub _ _ h2), q.1, fun m h5 h6 => k _ H J W (.int _) (Post.refl w) rfl (q.2 m h5 h6)⟩
    · exact q.elim
  · exact q.elim
theorem cd_min1 (hC : X.K = C.K) (hc : X.calm = true) (hu : X.A.units + 65 < cLine) : CallR X (.builtin "min") (cD C bMin1) := callR_imp (CallR.or (CallR.or (cr_min hc) (LM.cr_minT hc)) (LM.cr_minL hc hu)) fun xs H Q ⟨J, W, ds, Qd, w, da, q, k⟩ => by
  unfold bMin1 at q
  split at q
  · obtain ⟨v, rfl, a, vs, rfl, h2, h3⟩ := das1 da
    split at q
    · rename_i ns e
      have := das_ints h3 e
      subst this
      exact .inl (.inl ⟨a, ns, rfl, SqL.of (w.sub _ _ h2), q.1, fun m h5 h6 => k _ H J W (.int _) (Post.refl w) rfl (q.2 m h5 h6)⟩)
    · split at q
      · rename_i r rs e
        have e2 := rowsOf_eq e
        subst e2
        refine .inr ⟨a, vs, r, rs, rfl, SqL.of (w.sub _ _ h2), ?_, fun i v hv hm => ?_⟩
        · have := das_dp w h3 (rows_pln (r :: rs))
          rw [rows_py] at this
          rw [hC]; exact this
        · obtain ⟨d, hd, hda⟩ := h3.getV hv
          rw [List.getElem?_map, hm] at hd
          cases hd
          exact k v H J W _ (Post.refl w) hda q
      · exact q.elim
  · obtain ⟨v, rfl, a, vs, rfl, h2, h3⟩ := das1 da
    split at q
    · rename_i ns e
      have := das_ints h3 e
      subst this
      exact .inl (.inr ⟨a, ns, rfl, SqT.of (w.sub _ _ h2), q.1, fun m h5 h6 => k _ H J W (.int _) (Post.refl w) rfl (q.2 m h5 h6)⟩)
    · exact q.elim
  · exact q.elim
theorem das_empty {J : Hp} {W : Addr → Prop} {xs : List D} {vs : List V} (h : DAs C J W xs vs) : vs.isEmpty = xs.isEmpty := by
  have := h.length
  cases xs <;> cases vs <;> simp_all
theorem cd_bool : CallR X (.type "bool") (cD C bBool) := callR_imp (CallR.or call_bool1 call_boolL) fun xs H Q ⟨J, W, ds, Qd, w, da, q, k⟩ => by
  unfold bBool at q
  split at q
  · obtain ⟨v, rfl, h⟩ := das1 da
    cases h
    exact .inl (.inl ⟨_, rfl, k _ H J W (.bl _) (Post.refl w) rfl q⟩)
  · obtain ⟨v, rfl, h⟩ := das1 da
    cases h
    exact .inl (.inr ⟨_, rfl, k _ H J W (.bl _) (Post.refl w) rfl q⟩)
  · obtain ⟨v, rfl, a, vs, rfl, h2, h3⟩ := das1 da
    exact .inr ⟨a, vs, rfl, SqL.of (w.sub _ _ h2), k _ H J W (.bl _) (Post.refl w) (by rw [das_empty h3]; rfl) q⟩
  · exact q.elim
/-! in, not in -/
theorem flat_v {J : Hp} {W : Addr → Prop} {d : D} {v : V} (h : DA C J W d v) (f : flatD d = true) : flatV v = true := by
  cases d <;> first
    | (cases h; rfl)
    | cases f
theorem eq_flat {J : Hp} {W : Addr → Prop} {d e : D} {v u : V} (h : DA C J W d v) (h' : DA C J W e u) (f : flatD d = true) (f' : flatD e = true) : eqV v u = deq d e := by
  cases d <;> cases e <;> first
    | (cases (show false = true from f); done)
    | (cases (show false = true from f'); done)
    | (cases h; cases h'; simp [eqV, deq])
theorem in_flat {J : Hp} {W : Addr → Prop} {d : D} {v : V} (h : DA C J W d v) (f : flatD d = true) : ∀ {xs : List D} {vs : List V}, DAs C J W xs vs → xs.all flatD = true → vs.all flatV = true ∧ inV v vs = xs.any fun z => deq z d
  | [], _, e, _ => by cases e; exact ⟨rfl, rfl⟩
  | x :: xs, _, e, fx => by
    obtain ⟨u, r, rfl, e1, e2⟩ := e
    have fx' : flatD x = true ∧ xs.all flatD = true := by simpa using fx
    obtain ⟨i1, i2⟩ := in_flat h f e2 fx'.2
    refine ⟨by simp [flat_v e1 fx'.1, i1], ?_⟩
    show (eqV u v || inV v r) = (deq x d || xs.any fun z => deq z d)
    rw [eq_flat e1 h fx'.1 f, i2]
theorem any_py {d : D} (p : pln d = true) : ∀ xs : List D, plns xs = true → ((toPys xs).any fun z => PyData.eqv z (toPy d)) = xs.any fun z => deq z d
  | [], _ => by simp [toPys]
  | x :: xs, h => by
    have h' : pln x = true ∧ plns xs = true := by simpa [plns] using h
    simp only [toPys, List.any_cons, deq_py x d h'.1 p, any_py p xs h'.2]
theorem od_in (hC : X.K = C.K) (hu : X.A.units + 65 < cLine) : OpR X (compareOp .In) (rD C dIn) := opR_imp (OpR.or op_in_str (OpR.or op_in_seq (op_inD hu))) fun x y H Q ⟨J, W, d, e, Qd, w, h1, h2, q, k⟩ => by
  unfold dIn at q
  split at q
  · cases h1; cases h2
    exact .inl ⟨_, _, rfl, rfl, k _ H J W (.bl _) (Post.refl w) rfl q⟩
  · skip
    obtain ⟨⟨p1, p2, z1, z2⟩, q⟩ := q
    rw [hC]
    exact .inr (.inr ⟨toPy _, toPys _, da_dp w h1 p1, da_dp w h2 p2, pln_shaped p1 z1, pln_shaped (d := .lst _) p2 (by show dpts _ + 1 ≤ 60; omega), k _ H J W (.bl _) (Post.refl w) (by rw [any_py p1 _ p2]; rfl) q⟩)
  · skip
    obtain ⟨⟨f1, f2⟩, q⟩ := q
    obtain ⟨a, vs, rfl, e2, e3⟩ := h2
    obtain ⟨i1, i2⟩ := in_flat h1 f1 e3 f2
    exact .inr (.inl ⟨a, vs, rfl, .inr (SqT.of (w.sub _ _ e2)), flat_v h1 f1, i1, k _ H J W (.bl _) (Post.refl w) (by rw [if_neg Bool.false_ne_true, i2]; rfl) q⟩)
  · exact q.elim
theorem od_notIn (hC : X.K = C.K) (hu : X.A.units + 65 < cLine) : OpR X (compareOp .NotIn) (rD C dNotIn) := opR_imp (OpR.or op_notIn_str (OpR.or op_notIn_seq (op_notInD hu))) fun x y H Q ⟨J, W, d, e, Qd, w, h1, h2, q, k⟩ => by
  unfold dNotIn dIn at q
  split at q
  · cases h1; cases h2
    exact .inl ⟨_, _, rfl, rfl, k _ H J W (.bl _) (Post.refl w) rfl q⟩
  · skip
    obtain ⟨⟨p1, p2, z1, z2⟩, q⟩ := q
    rw [hC]
    exact .inr (.inr ⟨toPy _, toPys _, da_dp w h1 p1, da_dp w h2 p2, pln_shaped p1 z1, pln_shaped (d := .lst _) p2 (by show dpts _ + 1 ≤ 60; omega), k _ H J W (.bl _) (Post.refl w) (by rw [any_py p1 _ p2]; rfl) q⟩)
  · skip
    obtain ⟨⟨f1, f2⟩, q⟩ := q
    obtain ⟨a, vs, rfl, e2, e3⟩ := h2
    obtain ⟨i1, i2⟩ := in_flat h1 f1 e3 f2
    exact .inr (.inl ⟨a, vs, rfl, .inr (SqT.of (w.sub _ _ e2)), flat_v h1 f1, i1, k _ H J W (.bl _) (Post.refl w) (by rw [if_pos rfl, i2]; rfl) q⟩)
  · exact q.elim
end
def dTy : D → Option String
  | .non => some "NoneType"
  | .bl _ => some "bool"
  | .int _ => some "int"
  | .str _ => some "str"
  | .tup _ => some "tuple"
  | .lst _ => some "list"
  | _ => none
def isiB (t T : String) : Bool := t == T || (t == "bool" && T == "int")
def wIsi (T : String) (a : WE') : WE' := fun ρ E Q => a ρ E fun x => match dTy x with
  | some t => Q (.bl (isiB t T))
  | none => False
def isiT : List String := ["int", "bool", "str", "tuple", "list"]
theorem kit_all : ∀ T ∈ isiT, ∀ t ∈ ["NoneType", "bool", "int", "str", "tuple", "list"], kitB t T = some (isiB t T) := by decide +kernel
section
variable {X : Cx} {C : Cfg} {Wx : WX} {a : Expr} {pos p q0 : Pos} {wa : WE'} {T : String}
theorem ty_of {J H : Hp} {W : Addr → Prop} (w : Wk C.tq J W H) {d : D} {v : V} (h : DA C J W d v) {t : String} (e : dTy d = some t) : TyX X.K H v (.type t) ∧ t ∈ ["NoneType", "bool", "int", "str", "tuple", "list"] := by
  cases d with
  | non => cases h; cases e; exact ⟨.base .non, by decide⟩
  | bl b => cases h; cases e; exact ⟨.base (.bl _), by decide⟩
  | int b => cases h; cases e; exact ⟨.base (.int _), by decide⟩
  | str b => cases h; cases e; exact ⟨.base (.str _), by decide⟩
  | tup xs => obtain ⟨a, vs, rfl, h2, h3⟩ := h; cases e; exact ⟨.base (.tup (w.sub _ _ h2)), by decide⟩
  | lst xs => obtain ⟨a, vs, rfl, h2, h3⟩ := h; cases e; exact ⟨.base (.lst (w.sub _ _ h2)), by decide⟩
  | obj a => cases e
  | fn k cs => cases e
  | scr ns => cases e
  | kt ns => cases e
theorem se_isi {xT : Str} (hT : T ∈ isiT) (hb : bootBuiltins xT = some (.type T)) (hx : xT ≠ "__name__") (hxd : (xT == ("__debug__" : Str)) = false) (hgT : Gl X xT) (hmT : X.mg xT = none) (hg : Gl X "isinstance") (hm : X.mg "isinstance" = none) (ha : PE X a (tE C Wx wa)) (hs : isStar a = false) :
    PE X (.Call (.Name "isinstance" p) [a, .Name xT q0] [] pos) (tE C Wx (wIsi T wa)) := by
  have hpa : PA X [a, .Name xT q0] (tCons (tE C Wx wa) (tCons (tC (.ty T)) tNil)) := pa_cons ha (pa_cons (pe_bltn hgT hmT hb rfl hx hxd) pa_nil) (star_one hs)
  refine pe_imp (pe_callB call_isi hg hm boot_isinstance hpa (by decide) (by decide) (star_one hs) (star_none (by simp [isStar]))) fun σ H Q ⟨J, W, ρ, E, Qd, w, env, h, g⟩ => ?_
  refine ⟨J, W, ρ, E, _, w, env, h, fun v H1 J1 W1 d p da q => ?_, g.ex⟩
  cases e : dTy d with
  | none => rw [e] at q; exact q.elim
  | some t =>
    rw [e] at q
    obtain ⟨h1, h2⟩ := ty_of (X := X) p.wk da e
    exact ⟨v, .ty T, _, _, isiB t T, rfl, .ty T, h1, kit_ty (kit_all T hT t h2), g.ok _ _ _ _ (.bl _) p rfl q⟩
end
def dLenSet (d : D) (Q : D → Prop) : Prop := match d with
  | .lst xs => (match intsOf xs with
    | some ns => ns.length ≤ 1000 ∧ Q (.int (LM.ddup ns).length)
    | none => False)
  | .tup xs => (match intsOf xs with
    | some ns => ns.length ≤ 1000 ∧ Q (.int (LM.ddup ns).length)
    | none => False)
  | _ => False
def wLenSet (a : WE') : WE' := fun ρ E Q => a ρ E fun d => dLenSet d Q
theorem se_lenset {X : Cx} {C : Cfg} {Wx : WX} {a : Expr} {wa : WE'} {p p2 q0 pos : Pos} (hC : X.K = C.K) (hc : X.calm = true) (hg : Gl X "len") (hm : X.mg "len" = none) (hg2 : Gl X "set") (hm2 : X.mg "set" = none) (ha : PE X a (tE C Wx wa)) (hs : isStar a = false) :
    PE X (.Call (.Name "len" p) [.Call (.Name "set" p2) [a] [] q0] [] pos) (tE C Wx (wLenSet wa)) :=
  pe_imp (LM.pe_lenSetA hc hg hm hg2 hm2 ha (star_one hs)) fun σ H Q ⟨J, W, ρ, E, Qd, w, env, h, g⟩ => ⟨J, W, ρ, E, _, w, env, h, fun v H1 J1 W1 d p da q => by
      have q : dLenSet d Qd := q
      unfold dLenSet at q
      split at q
      · obtain ⟨b, vs, rfl, h2, h3⟩ := da
        split at q
        · rename_i ns e
          have := das_ints h3 e
          subst this
          exact ⟨b, ns, rfl, .inl (SqL.of (p.wk.sub _ _ h2)), q.1, g.ok _ _ _ _ (.int _) p rfl q.2⟩
        · exact q.elim
      · obtain ⟨b, vs, rfl, h2, h3⟩ := da
        split at q
        · rename_i ns e
          have := das_ints h3 e
          subst this
          exact ⟨b, ns, rfl, .inr (SqT.of (p.wk.sub _ _ h2)), q.1, g.ok _ _ _ _ (.int _) p rfl q.2⟩
        · exact q.elim
      · exact q.elim, g.ex⟩
end L2.DL
namespace L2.DL
open PySem PySem.Spec PyProof.Rows

/-! ### repr -/
def reprOk (d : D) : Prop := pln d = true ∧ dpt d ≤ 60 ∧ (toPy d).showable = true ∧ (toPy d).shown.length ≤ LIM
def bRepr : OpN
  | [d], Q => reprOk d ∧ Q (.str (toPy d).shown)
  | _, _ => False
section
variable {X : Cx} {C : Cfg}
theorem cd_repr (hC : X.K = C.K) (hg : X.A.guards = some []) (hu : X.A.units + 65 < cLine) : CallR X (.builtin "repr") (cD C bRepr) := by
  intro pins s σ H xs us Q I r h
  obtain ⟨J, W, ds, Qd, w, da, q, k⟩ := h
  unfold bRepr at q
  split at q
  · rename_i d
    obtain ⟨v, rfl, h⟩ := das1 da
    obtain ⟨⟨p1, p2, p3, p4⟩, q⟩ := q
    obtain ⟨u, rfl, ru⟩ := vals1 r
    have hdp := da_dp w h p1
    have fin : ∀ h' t tk, (∀ b o, s.heap.get? b = some o → h'.get? b = some o) → EP X pins σ Q (.str (toPy d).shown t) { s with heap := h', toks := tk } := fun h' t tk hk =>
      ⟨.str (toPy d).shown, H, I.kept hk, ⟨_, rfl⟩, k _ H J W (.str _) (Post.refl w) rfl q⟩
    have go : ∀ a, u = .ref a → wpAny (model X.prog X.w) X.A (call (.builtin "repr") [u]) (EP X pins σ Q) X.xe s := fun a e => by
      subst e
      obtain ⟨as, rr⟩ := Dp.reads I (toPy d) v _ (by rw [hC]; exact hdp) ru
      have hd : (toPy d).hasDict = false := PyData.hasDict_of_canLay _ (pln_lay p1)
      exact repr_of_reads' rr p3 (fun e => by rw [hd] at e; cases e) hg (by rw [dpt_py d p1]; omega) (fun _ _ e => e) (fun h' t tk hk => fin h' t tk hk) (by rw [← lim_line]; exact p4)
    cases d with
    | non => cases h; cases ru; exact PySem.P.repr_of_none (fin s.heap _ _ fun _ _ e => e)
    | bl b => cases h; cases ru; exact PySem.P.repr_of_bool (by
        have := fin s.heap s.toks (s.toks + 1) fun _ _ e => e
        simp only [toPy, PyData.shown] at this
        cases b <;> exact this)
    | int i =>
      cases h
      obtain ⟨t, rfl⟩ := ru
      have hz : i.natAbs.log2 < 1920 := by simpa [toPy, PyData.showable] using p3
      exact PySem.P.repr_of_int hz (by
        have := fin s.heap s.toks (s.toks + 1) fun _ _ e => e
        simp only [toPy, PyData.shown] at this
        exact this)
    | str y =>
      cases h
      obtain ⟨t, rfl⟩ := ru
      exact PySem.P.repr_of_str (by
        have := fin s.heap s.toks (s.toks + 1) fun _ _ e => e
        simp only [toPy, PyData.shown] at this
        exact this) (by
        have := p4
        simp only [toPy, PyData.shown] at this
        rw [← lim_line]; exact this)
    | tup ys => obtain ⟨a, vs, rfl, _⟩ := h; exact go a ru
    | lst ys => obtain ⟨a, vs, rfl, _⟩ := h; exact go a ru
    | obj a => cases p1
    | fn k cs => cases p1
    | scr ns => cases p1
    | kt ns => cases p1
  · exact q.elim
end
/-! ### subscripts -/
def dIx : Op2
  | .lst xs, .int i, Q => match atI xs i with
    | some d => Q d
    | none => False
  | .tup xs, .int i, Q => match atI xs i with
    | some d => Q d
    | none => False
  | .str x, .int i, Q => x.length ≤ LIM ∧ match atI x.cps.toList i with
    | some c => Q (.str ⟨#[c]⟩)
    | none => False
  | .scr ns, .int i, Q => match atI ns i with
    | some z => Q (.int z)
    | none => False
  | .obj _, .int i, Q => (0 ≤ i ∧ i < 3) ∧ ∀ z, Q (.int z)
  | _, _, _ => False
theorem atI_map {α β : Type} {f : α → β} {xs : List α} {i : Int} {x : α} (h : atI xs i = some x) : atI (xs.map f) i = some (f x) := by
  unfold atI at h ⊢
  rw [List.length_map]
  cases z : ixN xs.length i with
  | none => rw [z] at h; cases h
  | some j =>
    rw [z] at h
    show (xs.map f)[j]? = some (f x)
    rw [List.getElem?_map, show xs[j]? = some x from h]
    rfl
theorem well_at {x y z i : Int} (h : 0 ≤ i ∧ i < 3) : ∃ u, atI [V.int x, V.int y, V.int z] i = some (V.int u) := by
  have : i = 0 ∨ i = 1 ∨ i = 2 := by omega
  rcases this with rfl | rfl | rfl
  · exact ⟨x, rfl⟩
  · exact ⟨y, rfl⟩
  · exact ⟨z, rfl⟩
section
variable {X : Cx} {C : Cfg} {Wx : WX} {a b c e : Expr} {es : List Expr} {pos p q0 : Pos} {x : Str} {wa wb wc : WE'} {ws : WA'}
theorem das_at {J : Hp} {W : Addr → Prop} {xs : List D} {vs : List V} {i : Int} {d : D} (h : DAs C J W xs vs) (e : atI xs i = some d) : ∃ v, atI vs i = some v ∧ DA C J W d v := by
  unfold atI at e ⊢
  rw [h.length]
  cases z : ixN xs.length i with
  | none => rw [z] at e; cases e
  | some j =>
    rw [z] at e
    exact h.get (i := j) e
theorem se_ix (hC : X.K = C.K) (ha : PE X a (tE C Wx wa)) (hb : PE X b (tE C Wx wb)) (hs : PlainIx b) : PE X (.Subscript a b pos) (tE C Wx (wBin dIx wa wb)) :=
  pe_imp (pe_ix ix_seq ha hb hs) fun σ H Q ⟨J, W, ρ, E, Qd, w, env, h, g⟩ => ⟨J, W, ρ, E, _, w, env, h, fun v H1 J1 W1 d p da q => ⟨J1, W1, ρ, E, _, p.wk, p.env env, q, fun v2 H2 J2 W2 d2 p2 da2 q2 => by
    have pp := p.trans p2
    have da' := p2.da da
    unfold dIx at q2
    split at q2
    · split at q2
      · rename_i xs i d hd
        obtain ⟨a, vs, rfl, h2, h3⟩ := da'
        obtain ⟨v, e1, e2⟩ := das_at h3 hd
        cases da2
        exact .inl ⟨_, vs, _, v, rfl, rfl, SqL.of (p2.wk.sub _ _ h2), e1, g.ok _ _ _ _ _ pp e2 q2⟩
      · exact q2.elim
    · split at q2
      · rename_i xs i d hd
        obtain ⟨a, vs, rfl, h2, h3⟩ := da'
        obtain ⟨v, e1, e2⟩ := das_at h3 hd
        cases da2
        exact .inr (.inl ⟨_, vs, _, v, rfl, rfl, SqT.of (p2.wk.sub _ _ h2), e1, g.ok _ _ _ _ _ pp e2 q2⟩)
      · exact q2.elim
    · obtain ⟨hz, q2⟩ := q2
      split at q2
      · rename_i xs i c hc
        cases da'
        cases da2
        exact .inr (.inr ⟨_, _, c, rfl, rfl, by rw [← lim_line]; exact hz, hc, g.ok _ _ _ _ (.str _) pp rfl q2⟩)
      · exact q2.elim
    · split at q2
      · rename_i ns i z hz
        obtain ⟨a, rfl, h2⟩ := da'
        cases da2
        exact .inl ⟨_, _, _, .int z, rfl, rfl, (by rw [hC]; exact h2.same p2.wk.sub), atI_map hz, g.ok _ _ _ _ (.int z) pp rfl q2⟩
      · exact q2.elim
    · rename_i ad i
      obtain ⟨rfl, h2, h2q⟩ := da'
      cases da2
      obtain ⟨x, y, z, e⟩ := ((p2.wk.well _ h2).2.well h2q).some
      obtain ⟨u, hu⟩ := well_at (x := x) (y := y) (z := z) q2.1
      exact .inl ⟨_, _, _, .int u, rfl, rfl, SqL.of e, hu, g.ok _ _ _ _ (.int u) pp rfl (q2.2 u)⟩
    · exact q2.elim, (g.behind p).ex⟩, g.ex⟩
theorem plainIx_of (h : isSlice b = false) : PlainIx b := by
  intro o i
  cases b <;> first
    | rfl
    | cases h
end
def cutD {α : Type} (xs : List α) (lo hi : Option Int) : List α := (xs.drop (HT.sIx xs.length 0 lo)).take (HT.sIx xs.length xs.length hi - HT.sIx xs.length 0 lo)
def dSl (d : D) (lo hi : Option Int) (Q : D → Prop) : Prop := match d with
  | .lst xs => Q (.lst (cutD xs lo hi))
  | .tup xs => Q (.tup (cutD xs lo hi))
  | .str z => z.length ≤ LIM ∧ Q (.str (cutS z lo hi))
  | .scr ns => Q (.lst ((cutD ns lo hi).map D.int))
  | _ => False
def wPart : Option WE' → Env' → (Exc → Prop) → (Option Int → Prop) → Prop
  | none, _, _, Q => Q none
  | some w, ρ, E, Q => w ρ E fun d => match d with
    | .int i => Q (some i)
    | _ => False
def wSl (a : WE') (lo hi : Option WE') : WE' := fun ρ E Q => a ρ E fun d => wPart lo ρ E fun l => wPart hi ρ E fun h => dSl d l h Q
section
variable {X : Cx} {C : Cfg} {Wx : WX} {a b c e : Expr} {es : List Expr} {pos p q0 p2 : Pos} {x : Str} {wa wb wc : WE'} {ws : WA'} {lo hi : Option Expr} {wl wh : Option WE'}
/-- a part of a slice -/
abbrev tO (C : Cfg) (Wx : WX) (w : Option WE') : TO := tG C Wx (fun _ _ a b => b = a) (wPart w)
theorem so_none : PO X none (tO C Wx none) := ⟨fun pins s σ H Q I h => po_none.run pins s σ H Q I (by
  obtain ⟨J, W, ρ, E, Qd, w, env, h, g⟩ := h
  exact g.ok none H J W none (Post.refl w) rfl h)⟩
theorem so_some (h : PE X e (tE C Wx wa)) : PO X (some e) (tO C Wx (some wa)) := ⟨fun pins s σ H Q I hh => (po_some h).run pins s σ H Q I (by
  obtain ⟨J, W, ρ, E, Qd, w, env, h, g⟩ := hh
  refine ⟨J, W, ρ, E, _, w, env, h, fun v H1 J1 W1 d p da q => ?_, g.ex⟩
  split at q
  · cases da
    exact ⟨_, rfl, g.ok _ _ _ _ (some _) p rfl q⟩
  · exact q.elim)⟩
theorem das_cut {J : Hp} {W : Addr → Prop} {xs : List D} {vs : List V} {lo hi : Option Int} (h : DAs C J W xs vs) : DAs C J W (cutD xs lo hi) (cutV vs lo hi) := by
  unfold cutD cutV
  rw [h.length]
  exact (h.drop _).take _
theorem cut_whole {α : Type} {xs : List α} {lo hi : Option Int} (h : HT.sIx xs.length 0 lo = 0 ∧ HT.sIx xs.length xs.length hi = xs.length) : cutD xs lo hi = xs := by
  unfold cutD
  rw [h.1, h.2]
  simp
theorem se_sl (hC : X.K = C.K) (ha : PE X e (tE C Wx wa)) (hl : PO X lo (tO C Wx wl)) (hh : PO X hi (tO C Wx wh)) : PE X (.Subscript e (.Slice lo hi none p2) pos) (tE C Wx (wSl wa wl wh)) :=
  pe_imp (pe_slice (SlR.or sl_list (SlR.or sl_tupA sl_str)) ha hl hh) fun σ H Q ⟨J, W, ρ, E, Qd, w, env, h, g⟩ => ⟨J, W, ρ, E, _, w, env, h, fun v H1 J1 W1 d p da q =>
    ⟨J1, W1, ρ, E, _, p.wk, p.env env, q, fun l H2 J2 W2 l' p2 e2 q2 => by
      cases e2
      refine ⟨J2, W2, ρ, E, _, p2.wk, (p.trans p2).env env, q2, fun u H3 J3 W3 u' p3 e3 q3 => ?_, (g.behind (p.trans p2)).ex⟩
      cases e3
      have pp := p.trans (p2.trans p3)
      have da' := (p2.trans p3).da da
      cases d with
      | lst xs =>
        obtain ⟨a, vs, rfl, h2, h3⟩ := da'
        exact .inl ⟨a, vs, rfl, SqL.of (p3.wk.sub _ _ h2), fun r hr => (new_lst p3.wk hr (das_cut h3)).elim fun n1 n2 => g.ok _ _ _ _ _ (pp.trans n1) n2 q3⟩
      | tup xs =>
        obtain ⟨a, vs, rfl, h2, h3⟩ := da'
        refine .inr (.inl ⟨a, vs, rfl, SqT.of (p3.wk.sub _ _ h2), fun hw => ?_, fun _ r hr => (new_tup p3.wk hr (das_cut h3)).elim fun n1 n2 => g.ok _ _ _ _ _ (pp.trans n1) n2 q3⟩)
        rw [h3.length] at hw
        have q3 : Qd (.tup (cutD xs l u)) := q3
        rw [cut_whole hw] at q3
        exact g.ok _ _ _ _ (.tup xs) pp ⟨a, vs, rfl, h2, h3⟩ q3
      | str z =>
        cases da'
        have q3 : z.length ≤ LIM ∧ Qd (.str (cutS z l u)) := q3
        exact .inr (.inr ⟨z, rfl, by rw [← lim_line]; exact q3.1, g.ok _ _ _ _ (.str _) pp rfl q3.2⟩)
      | scr ns =>
        obtain ⟨a, rfl, h2⟩ := da'
        refine .inl ⟨a, _, rfl, (by rw [hC]; exact h2.same p3.wk.sub), fun r hr => (new_lst p3.wk hr (xs := (cutD ns l u).map D.int) ?_).elim fun n1 n2 => g.ok _ _ _ _ _ (pp.trans n1) n2 q3⟩
        have : cutV (ns.map V.int) l u = (cutD ns l u).map V.int := by
          unfold cutV cutD
          rw [List.length_map, List.map_take, List.map_drop]
        rw [this]
        exact das_map_int _
      | _ => exact False.elim q3, (g.behind p).ex⟩, g.ex⟩
end

/-! ### backwards -/
def dRev (d : D) (Q : D → Prop) : Prop := match d with
  | .lst xs => Q (.lst xs.reverse)
  | .tup xs => Q (.tup xs.reverse)
  | _ => False
def wRev (a : WE') : WE' := fun ρ E Q => a ρ E fun d => dRev d Q
theorem das_rev {C : Cfg} {J : Hp} {W : Addr → Prop} : ∀ {ds : List D} {vs : List V}, DAs C J W ds vs → DAs C J W ds.reverse vs.reverse
  | [], _, h => by cases h; rfl
  | d :: ds, vs, h => by
    obtain ⟨v, r, rfl, h2, h3⟩ := h
    rw [List.reverse_cons, List.reverse_cons]
    exact DAs.append (das_rev h3) ⟨v, [], rfl, h2, rfl⟩
theorem se_rev {X : Cx} {C : Cfg} {Wx : WX} {e : Expr} {wa : WE'} {k : Nat} {p1 p2 p3 pos : Pos} (ha : PE X e (tE C Wx wa)) : PE X (.Subscript e (.Slice none none (some (.UnaryOp .USub (.Constant (.int 1) k p1) p2)) p3) pos) (tE C Wx (wRev wa)) :=
  pe_imp (LM.pe_revA ha) fun σ H Q ⟨J, W, ρ, E, Qd, w, env, h, g⟩ => ⟨J, W, ρ, E, _, w, env, h, fun v H1 J1 W1 d p da q => by
      cases d with
      | lst xs =>
        obtain ⟨a, vs, rfl, h2, h3⟩ := da
        exact ⟨a, vs, rfl, .inl ⟨SqL.of (p.wk.sub _ _ h2), fun r hr => (new_lst p.wk hr (das_rev h3)).elim fun n1 n2 => g.ok _ _ _ _ _ (p.trans n1) n2 q⟩⟩
      | tup xs =>
        obtain ⟨a, vs, rfl, h2, h3⟩ := da
        exact ⟨a, vs, rfl, .inr ⟨SqT.of (p.wk.sub _ _ h2), fun r hr => (new_tup p.wk hr (das_rev h3)).elim fun n1 n2 => g.ok _ _ _ _ _ (p.trans n1) n2 q⟩⟩
      | _ => exact False.elim q, g.ex⟩

/-! ### what is walked -/
structure ItOk (C : Cfg) (T : It) (J : Hp) (W : Addr → Prop) (items : List D) : Prop where
  go : ∀ i J' W' H', Same J J' → (∀ a, W a → W' a) → Wk C.tq J' W' H' → i < items.length → T.go i H' ∧ ∀ x H'', T.yld i H' x H'' → ∃ d J'', items[i]? = some d ∧ Post C.tq J' W' H' J'' W' H'' ∧ DA C J'' W' d x
  stop : ∀ J' W' H', Same J J' → Wk C.tq J' W' H' → T.stop items.length H'
abbrev tI (C : Cfg) (Wx : WX) (w : WA') : TI := tG C Wx (fun J W items T => ItOk C T J W items) w
theorem it_list {C : Cfg} {J : Hp} {W : Addr → Prop} {xs : List D} {vs : List V} {a : Addr} (h : J a = some (.lst vs)) (da : DAs C J W xs vs) : ItOk C (Itl C.K a) J W xs where
  go := fun i J' W' H' e w k hi => by
    have hv : i < vs.length := by rw [da.length]; exact hi
    have sq : SqL C.K H' a vs := SqL.of (k.sub _ _ (e _ _ h))
    refine ⟨⟨vs, vs[i], sq, by simp [hv]⟩, fun x H'' y => ?_⟩
    obtain ⟨e1, y⟩ := y
    subst e1
    obtain ⟨d, h1, h2⟩ := da.getV (y vs sq)
    exact ⟨d, J', h1, Post.refl k, h2.mono e w⟩
  stop := fun J' W' H' e k => ⟨vs, SqL.of (k.sub _ _ (e _ _ h)), by rw [da.length]; exact Nat.le_refl _⟩
theorem it_tup {C : Cfg} {J : Hp} {W : Addr → Prop} {xs : List D} {vs : List V} {a : Addr} (h : J a = some (.tup vs)) (da : DAs C J W xs vs) : ItOk C (Itt C.K a) J W xs where
  go := fun i J' W' H' e w k hi => by
    have hv : i < vs.length := by rw [da.length]; exact hi
    have sq : SqT C.K H' a vs := SqT.of (k.sub _ _ (e _ _ h))
    refine ⟨⟨vs, vs[i], sq, by simp [hv]⟩, fun x H'' y => ?_⟩
    obtain ⟨e1, y⟩ := y
    subst e1
    obtain ⟨d, h1, h2⟩ := da.getV (y vs sq)
    exact ⟨d, J', h1, Post.refl k, h2.mono e w⟩
  stop := fun J' W' H' e k => ⟨vs, SqT.of (k.sub _ _ (e _ _ h)), by rw [da.length]; exact Nat.le_refl _⟩
theorem kt_get {ns : List Int} {i : Nat} {v : V} (h : (ns.map V.int)[i]? = some v) : ∃ n, (ns.map D.int)[i]? = some (.int n) ∧ v = .int n := by
  rw [List.getElem?_map] at h
  obtain ⟨n, hn, rfl⟩ := Option.map_eq_some_iff.mp h
  exact ⟨n, by rw [List.getElem?_map, hn]; rfl, rfl⟩
theorem it_kt {C : Cfg} {J : Hp} {W : Addr → Prop} {ns : List Int} {a : Addr} (h : KTup C.K a (ns.map V.int)) : ItOk C (Itt C.K a) J W (ns.map D.int) where
  go := fun i J' W' H' e w k hi => by
    have hv : i < (ns.map V.int).length := by rw [List.length_map] at hi ⊢; exact hi
    have sq : SqT C.K H' a (ns.map V.int) := .inr h
    refine ⟨⟨ns.map V.int, (ns.map V.int)[i], sq, by simp [hv]⟩, fun x H'' y => ?_⟩
    obtain ⟨e1, y⟩ := y
    subst e1
    obtain ⟨n, h1, h2⟩ := kt_get (y _ sq)
    exact ⟨.int n, J', h1, Post.refl k, h2⟩
  stop := fun J' W' H' e k => ⟨ns.map V.int, .inr h, by rw [List.length_map, List.length_map]; exact Nat.le_refl _⟩
def rngD (lo : Int) (n : Nat) : List D := (List.range n).map fun k : Nat => D.int (lo + (k : Int))
theorem rngD_len (lo : Int) (n : Nat) : (rngD lo n).length = n := by simp [rngD]
theorem it_rng {C : Cfg} {J : Hp} {W : Addr → Prop} {lo : Int} {n : Nat} : ItOk C (Itr lo n) J W (rngD lo n) where
  go := fun i J' W' H' e w k hi => by
    have hn : i < n := by rw [rngD_len] at hi; exact hi
    refine ⟨hn, fun x H'' y => ?_⟩
    obtain ⟨e1, rfl⟩ := y
    subst e1
    exact ⟨.int (lo + i), J', by simp [rngD, hn], Post.refl k, rfl⟩
  stop := fun J' W' H' e k => by rw [rngD_len]; exact Nat.le_refl _
/-- numbers told by their places -/
def Itf (f : Nat → Int) (n : Nat) : It := ⟨fun i _ => i < n, fun i H x H' => H' = H ∧ x = .int (f i), fun i _ => n ≤ i⟩
def rngF (f : Nat → Int) (n : Nat) : List D := (List.range n).map fun k : Nat => D.int (f k)
theorem rngF_len (f : Nat → Int) (n : Nat) : (rngF f n).length = n := by simp [rngF]
theorem it_rngF {C : Cfg} {J : Hp} {W : Addr → Prop} {f : Nat → Int} {n : Nat} : ItOk C (Itf f n) J W (rngF f n) where
  go := fun i J' W' H' e w k hi => by
    have hn : i < n := by rw [rngF_len] at hi; exact hi
    refine ⟨hn, fun x H'' y => ?_⟩
    obtain ⟨e1, rfl⟩ := y
    subst e1
    exact ⟨.int (f i), J', by simp [rngF, hn], Post.refl k, rfl⟩
  stop := fun J' W' H' e k => by rw [rngF_len]; exact Nat.le_refl _
/-! pairs -/
def enD (xs : List D) : List D := xs.zipIdx.map fun p => .tup [.int (p.2 : Nat), p.1]
def zpD (xs ys : List D) : List D := (xs.zip ys).map fun p => .tup [p.1, p.2]
theorem enD_get {xs : List D} {i : Nat} : (enD xs)[i]? = (xs[i]?).map fun x => .tup [.int (i : Nat), x] := by
  unfold enD
  rw [List.getElem?_map, List.getElem?_zipIdx]
  cases xs[i]? <;> simp
theorem enD_len {xs : List D} : (enD xs).length = xs.length := by simp [enD]
theorem zpD_get {xs ys : List D} {i : Nat} {x y : D} (hx : xs[i]? = some x) (hy : ys[i]? = some y) : (zpD xs ys)[i]? = some (.tup [x, y]) := by
  unfold zpD
  rw [List.getElem?_map, (List.getElem?_zip_eq_some (z := (x, y))).mpr ⟨hx, hy⟩]
  rfl
theorem zpD_len {xs ys : List D} : (zpD xs ys).length = min xs.length ys.length := by simp [zpD]
theorem pair_new {C : Cfg} {J' : Hp} {W' : Addr → Prop} {H' : Hp} {T : Addr} {d e : D} {x y : V} (k : Wk C.tq J' W' H') (hT : H' T = none) (da : DA C J' W' d x) (de : DA C J' W' e y) :
    ∃ J'', Post C.tq J' W' H' J'' W' (upd H' T (.tup [x, y])) ∧ DA C J'' W' (.tup [d, e]) (.ref T) := by
  have p := Post.laid (o := .tup [x, y]) k hT
  exact ⟨_, p, T, [x, y], rfl, upd_same, x, [y], rfl, p.da da, y, [], rfl, p.da de, rfl⟩
theorem it_enumL {C : Cfg} {J : Hp} {W : Addr → Prop} {xs : List D} {vs : List V} {a : Addr} (h : J a = some (.lst vs)) (da : DAs C J W xs vs) : ItOk C (Ite C.K a) J W (enD xs) where
  go := fun i J' W' H' e w k hi => by
    have hv : i < vs.length := by rw [da.length]; rw [enD_len] at hi; exact hi
    have sq : SqL C.K H' a vs := SqL.of (k.sub _ _ (e _ _ h))
    refine ⟨⟨vs, vs[i], sq, by simp [hv]⟩, fun x H'' y => ?_⟩
    obtain ⟨T, v, rfl, hT, rfl, y⟩ := y
    obtain ⟨d, h1, h2⟩ := da.getV (y vs sq)
    obtain ⟨J'', p, q⟩ := pair_new (d := .int (i : Nat)) (x := .int (i : Nat)) k hT rfl (h2.mono e w)
    exact ⟨_, J'', by rw [enD_get, h1]; rfl, p, q⟩
  stop := fun J' W' H' e k => ⟨vs, SqL.of (k.sub _ _ (e _ _ h)), by rw [enD_len, da.length]; exact Nat.le_refl _⟩
theorem it_enumT {C : Cfg} {J : Hp} {W : Addr → Prop} {xs : List D} {vs : List V} {a : Addr} (h : J a = some (.tup vs)) (da : DAs C J W xs vs) : ItOk C (LM.Itte C.K a) J W (enD xs) where
  go := fun i J' W' H' e w k hi => by
    have hv : i < vs.length := by rw [da.length]; rw [enD_len] at hi; exact hi
    have sq : SqT C.K H' a vs := SqT.of (k.sub _ _ (e _ _ h))
    refine ⟨⟨vs, vs[i], sq, by simp [hv]⟩, fun x H'' y => ?_⟩
    obtain ⟨T, v, rfl, hT, rfl, y⟩ := y
    obtain ⟨d, h1, h2⟩ := da.getV (y vs sq)
    obtain ⟨J'', p, q⟩ := pair_new (d := .int (i : Nat)) (x := .int (i : Nat)) k hT rfl (h2.mono e w)
    exact ⟨_, J'', by rw [enD_get, h1]; rfl, p, q⟩
  stop := fun J' W' H' e k => ⟨vs, SqT.of (k.sub _ _ (e _ _ h)), by rw [enD_len, da.length]⟩
theorem it_zipL {C : Cfg} {J : Hp} {W : Addr → Prop} {xs ys : List D} {vs ws : List V} {a b : Addr} (h : J a = some (.lst vs)) (da : DAs C J W xs vs) (h2 : J b = some (.lst ws)) (db : DAs C J W ys ws) : ItOk C (Itz C.K a b) J W (zpD xs ys) where
  go := fun i J' W' H' e w k hi => by
    rw [zpD_len] at hi
    have hv : i < vs.length := by rw [da.length]; omega
    have hw : i < ws.length := by rw [db.length]; omega
    have sq : SqL C.K H' a vs := SqL.of (k.sub _ _ (e _ _ h))
    have sq2 : SqL C.K H' b ws := SqL.of (k.sub _ _ (e _ _ h2))
    refine ⟨⟨vs, ws, vs[i], ws[i], sq, sq2, by simp [hv], by simp [hw]⟩, fun x H'' y => ?_⟩
    obtain ⟨T, v, u, rfl, hT, rfl, y1, y2⟩ := y
    obtain ⟨d, h3, h4⟩ := da.getV (y1 vs sq)
    obtain ⟨d', h5, h6⟩ := db.getV (y2 ws sq2)
    obtain ⟨J'', p, q⟩ := pair_new k hT (h4.mono e w) (h6.mono e w)
    exact ⟨_, J'', zpD_get h3 h5, p, q⟩
  stop := fun J' W' H' e k => ⟨vs, ws, SqL.of (k.sub _ _ (e _ _ h)), SqL.of (k.sub _ _ (e _ _ h2)), by rw [zpD_len, da.length, db.length]; omega⟩
theorem it_zipT {C : Cfg} {J : Hp} {W : Addr → Prop} {xs ys : List D} {vs ws : List V} {a b : Addr} (h : J a = some (.tup vs)) (da : DAs C J W xs vs) (h2 : J b = some (.tup ws)) (db : DAs C J W ys ws) : ItOk C (RZ.ItzT C.K a b) J W (zpD xs ys) where
  go := fun i J' W' H' e w k hi => by
    rw [zpD_len] at hi
    have hv : i < vs.length := by rw [da.length]; omega
    have hw : i < ws.length := by rw [db.length]; omega
    have sq : SqT C.K H' a vs := SqT.of (k.sub _ _ (e _ _ h))
    have sq2 : SqT C.K H' b ws := SqT.of (k.sub _ _ (e _ _ h2))
    refine ⟨⟨vs, ws, vs[i], ws[i], sq, sq2, by simp [hv], by simp [hw]⟩, fun x H'' y => ?_⟩
    obtain ⟨T, v, u, rfl, hT, rfl, y1, y2⟩ := y
    obtain ⟨d, h3, h4⟩ := da.getV (y1 vs sq)
    obtain ⟨d', h5, h6⟩ := db.getV (y2 ws sq2)
    obtain ⟨J'', p, q⟩ := pair_new k hT (h4.mono e w) (h6.mono e w)
    exact ⟨_, J'', zpD_get h3 h5, p, q⟩
  stop := fun J' W' H' e k => ⟨vs, ws, SqT.of (k.sub _ _ (e _ _ h)), SqT.of (k.sub _ _ (e _ _ h2)), by rw [zpD_len, da.length, db.length]; omega⟩
def iEn : List D → (List D → Prop) → Prop
  | [.lst xs], Q => Q (enD xs)
  | [.tup xs], Q => Q (enD xs)
  | _, _ => False
def iZp : List D → (List D → Prop) → Prop
  | [.lst xs, .lst ys], Q => Q (zpD xs ys)
  | [.tup xs, .tup ys], Q => Q (zpD xs ys)
  | _, _ => False
/-- going down -/
def iR3 : List D → (List D → Prop) → Prop
  | [.int i, .int j, .int c], Q => (c = -1 ∧ -(2 ^ 62) ≤ i ∧ i < 2 ^ 62 ∧ -(2 ^ 62) ≤ j ∧ j < 2 ^ 62) ∧ Q (rngF (fun k => i - (k : Nat)) (i - j).toNat)
  | _, _ => False
def wEnum (a : WA') : WA' := fun ρ E Q => a ρ E fun ds => iEn ds Q
def wZip (a : WA') : WA' := fun ρ E Q => a ρ E fun ds => iZp ds Q
def wRng3 (a : WA') : WA' := fun ρ E Q => a ρ E fun ds => iR3 ds Q
def wItems (a : WE') : WA' := fun ρ E Q => a ρ E fun d => match d with
  | .lst xs => Q xs
  | .tup xs => Q xs
  | .kt ns => Q (ns.map .int)
  | _ => False
def iR1 : List D → (List D → Prop) → Prop
  | [.int j], Q => (-(2 ^ 62) ≤ j ∧ j < 2 ^ 62) ∧ Q (rngD 0 j.toNat)
  | _, _ => False
def iR2 : List D → (List D → Prop) → Prop
  | [.int i, .int j], Q => (-(2 ^ 62) ≤ i ∧ i < 2 ^ 62 ∧ -(2 ^ 62) ≤ j ∧ j < 2 ^ 62) ∧ Q (rngD i (j - i).toNat)
  | _, _ => False
def wRng1 (a : WA') : WA' := fun ρ E Q => a ρ E fun ds => iR1 ds Q
def wRng2 (a : WA') : WA' := fun ρ E Q => a ρ E fun ds => iR2 ds Q
section
variable {X : Cx} {C : Cfg} {Wx : WX} {a b c e tg : Expr} {es : List Expr} {pos p q0 p2 : Pos} {x : Str} {wa wb wc : WE'} {ws : WA'}
theorem pi_imp {t t' : TI} (h : PI X tg e t) (i : ∀ σ H R, t' σ H R → t σ H R) : PI X tg e t' := ⟨fun pins s σ H R I q => h.run pins s σ H R I (i σ H R q)⟩
/-- a list or a tuple -/
theorem pi_seq {te : TE} (hl : PE X e te) : PI X tg e (fun σ H R => te σ H fun x H1 => ∃ a, x = .ref a ∧ (((∃ xs, SqL X.K H1 a xs) ∧ R (Itl X.K a) H1) ∨ ((∃ xs, SqT X.K H1 a xs) ∧ R (Itt X.K a) H1))) := by
  refine ⟨fun pins s σ H R I h => ?_⟩
  refine thn (hl.run pins s σ H _ I h) fun v s1 hq => ?_
  obtain ⟨x, H1, I1, r1, a, rfl, hq⟩ := hq
  cases r1
  have fp : ∀ b ∈ [s1.heap.objs.size], FpOk X pins H1 b := fun b hb => by
    obtain rfl : b = s1.heap.objs.size := by simpa using hb
    exact I1.fpOk (Nat.le_refl _) (I1.hok.fresh (Nat.le_refl _))
  rcases hq with ⟨⟨xs, hx⟩, hr⟩ | ⟨⟨xs, hx⟩, hr⟩
  · obtain ⟨its, _, pl, _⟩ := I1.list hx
    exact wpAny_pyIter_list pl.isList ⟨_, [s1.heap.objs.size], _, _, H1, rfl, I1.kept (t' := s1.toks) fun _ _ z => Heap.get?_push_of_some _ z, turn_list a _, ⟨_, Heap.get?_push_size _ rfl, rfl, rfl⟩, fp, hr⟩
  · obtain ⟨its, _, pl, _⟩ := I1.tuple hx
    exact wpAny_pyIter_tuple (show s1.heap.IsTuple a its.toArray from pl) ⟨_, [s1.heap.objs.size], _, _, H1, rfl, I1.kept (t' := s1.toks) fun _ _ z => Heap.get?_push_of_some _ z, turn_tuple a _, ⟨_, Heap.get?_push_size _ rfl, rfl, rfl⟩, fp, hr⟩
theorem si_seq (hC : X.K = C.K) (ha : PE X e (tE C Wx wa)) : PI X tg e (tI C Wx (wItems wa)) :=
  pi_imp (pi_seq ha) fun σ H R ⟨J, W, ρ, E, Qd, w, env, h, g⟩ => ⟨J, W, ρ, E, _, w, env, h, fun v H1 J1 W1 d p da q => by
    cases d with
    | lst xs =>
      obtain ⟨a, vs, rfl, h2, h3⟩ := da
      exact ⟨a, rfl, .inl ⟨⟨vs, SqL.of (p.wk.sub _ _ h2)⟩, g.ok _ _ _ _ xs p (by rw [hC]; exact it_list h2 h3) q⟩⟩
    | tup xs =>
      obtain ⟨a, vs, rfl, h2, h3⟩ := da
      exact ⟨a, rfl, .inr ⟨⟨vs, SqT.of (p.wk.sub _ _ h2)⟩, g.ok _ _ _ _ xs p (by rw [hC]; exact it_tup h2 h3) q⟩⟩
    | kt ns =>
      obtain ⟨a, rfl, h2⟩ := da
      exact ⟨a, rfl, .inr ⟨⟨_, .inr (by rw [hC]; exact h2)⟩, g.ok _ _ _ _ (ns.map D.int) p (by rw [hC]; exact it_kt h2) q⟩⟩
    | _ => exact False.elim q, g.ex⟩
theorem si_rng1 (hg : Gl X "range") (hm : X.mg "range" = none) (ha : PA X [a] (tAs C Wx ws)) (hs : isStar a = false) : PI X tg (.Call (.Name "range" p) [a] [] pos) (tI C Wx (wRng1 ws)) :=
  pi_imp (pi_range1 hg hm ha (star_one hs)) fun σ H R ⟨J, W, ρ, E, Qd, w, env, h, g⟩ => ⟨J, W, ρ, E, _, w, env, h, fun v H1 J1 W1 d p da q => by
    unfold iR1 at q
    split at q
    · obtain ⟨v, rfl, h⟩ := das1 da
      cases h
      exact ⟨_, rfl, q.1.1, q.1.2, g.ok _ _ _ _ _ p it_rng q.2⟩
    · exact q.elim, g.ex⟩
theorem si_rng2 (hg : Gl X "range") (hm : X.mg "range" = none) (ha : PA X [a, b] (tAs C Wx ws)) (hs : isStar a = false) (hs2 : isStar b = false) : PI X tg (.Call (.Name "range" p) [a, b] [] pos) (tI C Wx (wRng2 ws)) :=
  pi_imp (pi_range2 hg hm ha (by rw [star_one hs, star_one hs2]; rfl) (star_one hs2)) fun σ H R ⟨J, W, ρ, E, Qd, w, env, h, g⟩ => ⟨J, W, ρ, E, _, w, env, h, fun v H1 J1 W1 d p da q => by
    unfold iR2 at q
    split at q
    · obtain ⟨v, u, rfl, h, h'⟩ := das2 da
      cases h; cases h'
      exact ⟨_, _, rfl, q.1, g.ok _ _ _ _ _ p it_rng q.2⟩
    · exact q.elim, g.ex⟩
theorem si_enum {elts : List Expr} {kk : Nat} {tpos : Pos} (hC : X.K = C.K) (hg : Gl X "enumerate") (hm : X.mg "enumerate" = none) (ha : PA X [a] (tAs C Wx ws)) (hs : isStar a = false) : PI X (.Tuple elts kk tpos) (.Call (.Name "enumerate" p) [a] [] pos) (tI C Wx (wEnum ws)) :=
  pi_imp (LM.pi_enumA hg hm ha (star_one hs)) fun σ H R ⟨J, W, ρ, E, Qd, w, env, h, g⟩ => ⟨J, W, ρ, E, _, w, env, h, fun v H1 J1 W1 d p da q => by
    unfold iEn at q
    split at q
    · obtain ⟨v, rfl, b, vs, rfl, h2, h3⟩ := das1 da
      exact ⟨b, rfl, .inl ⟨vs, SqL.of (p.wk.sub _ _ h2), g.ok _ _ _ _ _ p (by rw [hC]; exact it_enumL h2 h3) q⟩⟩
    · obtain ⟨v, rfl, b, vs, rfl, h2, h3⟩ := das1 da
      exact ⟨b, rfl, .inr ⟨vs, SqT.of (p.wk.sub _ _ h2), g.ok _ _ _ _ _ p (by rw [hC]; exact it_enumT h2 h3) q⟩⟩
    · exact q.elim, g.ex⟩
theorem si_zip {elts : List Expr} {kk : Nat} {tpos : Pos} (hC : X.K = C.K) (hg : Gl X "zip") (hm : X.mg "zip" = none) (ha : PA X [a, b] (tAs C Wx ws)) (hs : isStar a = false) (hs2 : isStar b = false) : PI X (.Tuple elts kk tpos) (.Call (.Name "zip" p) [a, b] [] pos) (tI C Wx (wZip ws)) :=
  pi_imp (RZ.pi_zipA hg hm ha (by rw [star_one hs]) (by rw [star_one hs2]; rfl)) fun σ H R ⟨J, W, ρ, E, Qd, w, env, h, g⟩ => ⟨J, W, ρ, E, _, w, env, h, fun v H1 J1 W1 d p da q => by
    unfold iZp at q
    split at q
    · obtain ⟨v, u, rfl, ⟨b, vs, rfl, h2, h3⟩, b', ws, rfl, h4, h5⟩ := das2 da
      exact ⟨b, b', vs, ws, rfl, .inl ⟨SqL.of (p.wk.sub _ _ h2), SqL.of (p.wk.sub _ _ h4), g.ok _ _ _ _ _ p (by rw [hC]; exact it_zipL h2 h3 h4 h5) q⟩⟩
    · obtain ⟨v, u, rfl, ⟨b, vs, rfl, h2, h3⟩, b', ws, rfl, h4, h5⟩ := das2 da
      exact ⟨b, b', vs, ws, rfl, .inr ⟨SqT.of (p.wk.sub _ _ h2), SqT.of (p.wk.sub _ _ h4), g.ok _ _ _ _ _ p (by rw [hC]; exact it_zipT h2 h3 h4 h5) q⟩⟩
    · exact q.elim, g.ex⟩
end
end L2.DL
namespace L2.DL
open PySem PySem.Spec PyProof.Rows

/-! ### targets -/
mutual
inductive Pt where
  | nm (i : Nat)
  | tp (ps : Pts)
  deriving DecidableEq
inductive Pts where
  | nil
  | cons (p : Pt) (ps : Pts)
  deriving DecidableEq
end
mutual
def binds : Pt → D → Option (List (Nat × D))
  | .nm i, d => some [(i, d)]
  | .tp ps, d => match d with
    | .tup ds => bindss ps ds
    | _ => none
def bindss : Pts → List D → Option (List (Nat × D))
  | .nil, [] => some []
  | .cons p ps, d :: ds => match binds p d, bindss ps ds with
    | some b, some bs => some (b ++ bs)
    | _, _ => none
  | _, _ => none
end
mutual
def pvars : Pt → List Nat
  | .nm i => [i]
  | .tp ps => pvarss ps
def pvarss : Pts → List Nat
  | .nil => []
  | .cons p ps => pvars p ++ pvarss ps
end
mutual
theorem binds_vars : ∀ {p : Pt} {d : D} {bs : List (Nat × D)}, binds p d = some bs → bs.map (·.1) = pvars p
  | .nm i, d, bs, h => by cases h; rfl
  | .tp ps, d, bs, h => by
    unfold binds at h
    split at h
    · unfold pvars; exact bindss_vars h
    · cases h
theorem bindss_vars : ∀ {p : Pts} {d : List D} {bs : List (Nat × D)}, bindss p d = some bs → bs.map (·.1) = pvarss p
  | .nil, [], bs, h => by cases h; rfl
  | .nil, _ :: _, bs, h => by cases h
  | .cons p ps, [], bs, h => by cases h
  | .cons p ps, d :: ds, bs, h => by
    unfold bindss at h
    split at h
    · rename_i b bs' h1 h2
      cases h
      rw [List.map_append, binds_vars h1, bindss_vars h2]
      rfl
    · cases h
end
def Bound (C : Cfg) (J : Hp) (W : Addr → Prop) : List (Nat × D) → St → St → Prop
  | [], σ, σ' => σ' = σ
  | b :: bs, σ, σ' => ∃ v, DA C J W b.2 v ∧ Bound C J W bs (σ.set b.1 (some v)) σ'
def setB (ρ : Env') (bs : List (Nat × D)) : Env' := bs.foldl (fun ρ b => ρ.set b.1 (some b.2)) ρ
section
variable {C : Cfg} {J H : Hp} {W : Addr → Prop} {σ σ' σ'' : St} {ρ : Env'}
theorem Bound.append : ∀ {bs cs : List (Nat × D)} {σ σ' σ'' : St}, Bound C J W bs σ σ' → Bound C J W cs σ' σ'' → Bound C J W (bs ++ cs) σ σ''
  | [], _, _, _, _, h, h' => by cases h; exact h'
  | b :: bs, cs, _, _, _, h, h' => by
    obtain ⟨v, h1, h2⟩ := h
    exact ⟨v, h1, Bound.append h2 h'⟩
theorem getS_set {ρ : Env'} {i j : Nat} {o : Option D} {d : D} (h : getS (ρ.set i o) j = some d) : (j = i ∧ o = some d ∧ i < ρ.length) ∨ (j ≠ i ∧ getS ρ j = some d) := by
  unfold getS at h ⊢
  by_cases e : i = j
  · subst e
    by_cases hi : i < ρ.length
    · rw [List.getElem?_set_self hi] at h
      exact .inl ⟨rfl, by simpa using h, hi⟩
    · rw [List.getElem?_eq_none (by simpa using hi)] at h; cases h
  · rw [List.getElem?_set_ne e] at h
    exact .inr ⟨fun z => e z.symm, h⟩
theorem EnvOk.set {i : Nat} {d : D} {v : V} (h : EnvOk C J W ρ σ) (da : DA C J W d v) : EnvOk C J W (ρ.set i (some d)) (σ.set i (some v)) where
  len := by simpa using h.len
  get := fun j e x => by
    rcases getS_set x with ⟨rfl, e1, hi⟩ | ⟨ne, x⟩
    · cases e1
      exact ⟨v, by rw [List.getElem?_set_self (Nat.lt_of_lt_of_le hi h.len)], da⟩
    · obtain ⟨u, h1, h2⟩ := h.get j e x
      exact ⟨u, by rw [List.getElem?_set_ne (Ne.symm ne)]; exact h1, h2⟩
theorem Bound.env : ∀ {bs : List (Nat × D)} {ρ : Env'} {σ σ' : St}, Bound C J W bs σ σ' → EnvOk C J W ρ σ → EnvOk C J W (setB ρ bs) σ'
  | [], _, _, _, h, k => by cases h; exact k
  | b :: bs, ρ, σ, _, h, k => by
    obtain ⟨v, h1, h2⟩ := h
    show EnvOk C J W (setB (ρ.set b.1 (some b.2)) bs) _
    exact Bound.env h2 (k.set h1)
theorem wipe_set {i : Nat} {o : Option V} : ∀ {vs : List Nat} {σ : St}, i ∈ vs → wipe (σ.set i o) vs = wipe σ vs
  | [], _, h => by cases h
  | v :: vs, σ, h => by
    unfold wipe
    by_cases e : i = v
    · subst e
      by_cases hm : i ∈ vs
      · rw [wipe_set hm]
      · have : ∀ (l : List Nat) (σ : St), i ∉ l → wipe (σ.set i o) l = (wipe σ l).set i o := by
          intro l
          induction l with
          | nil => intro σ _; rfl
          | cons a l ih =>
            intro σ hn
            have hn' : i ≠ a ∧ i ∉ l := by simpa using hn
            unfold wipe
            rw [ih σ hn'.2, List.set_comm _ _ hn'.1]
        rw [this vs σ hm, List.set_set]
    · have hm : i ∈ vs := by simpa [e] using h
      rw [wipe_set hm]
theorem Bound.wipe : ∀ {bs : List (Nat × D)} {σ σ' : St} {vs : List Nat}, Bound C J W bs σ σ' → (∀ i ∈ bs.map (·.1), i ∈ vs) → wipe σ' vs = wipe σ vs
  | [], _, _, _, h, _ => by cases h; rfl
  | b :: bs, σ, _, vs, h, hv => by
    obtain ⟨v, h1, h2⟩ := h
    rw [Bound.wipe h2 fun i hi => hv i (by simp at hi ⊢; exact .inr hi)]
    exact wipe_set (hv _ (by simp))
/-- slots forgotten -/
def wipeE (ρ : Env') : List Nat → Env'
  | [] => ρ
  | v :: vs => (wipeE ρ vs).set v none
theorem wipeE_len : ∀ vs : List Nat, (wipeE ρ vs).length = ρ.length
  | [] => rfl
  | v :: vs => by unfold wipeE; rw [List.length_set, wipeE_len vs]
theorem EnvOk.wipe (h : EnvOk C J W ρ σ) : ∀ vs : List Nat, EnvOk C J W (wipeE ρ vs) (wipe σ vs)
  | [] => h
  | v :: vs => by
    have ih := h.wipe vs
    refine ⟨by unfold wipeE L2.wipe; simpa using ih.len, fun i d x => ?_⟩
    unfold wipeE at x
    rcases getS_set x with ⟨_, e1, _⟩ | ⟨ne, x⟩
    · cases e1
    · obtain ⟨u, h1, h2⟩ := ih.get i d x
      exact ⟨u, by unfold L2.wipe; rw [List.getElem?_set_ne (Ne.symm ne)]; exact h1, h2⟩
end
def gD (C : Cfg) (p : Pt) : TG := fun v σ H Q => ∃ J W d bs, Wk C.tq J W H ∧ DA C J W d v ∧ binds p d = some bs ∧ ∀ σ', Bound C J W bs σ σ' → Q σ' H
def gDs (C : Cfg) (p : Pts) : TGs := fun v σ H Q => ∃ J W d bs, Wk C.tq J W H ∧ DAs C J W d v ∧ bindss p d = some bs ∧ ∀ σ', Bound C J W bs σ σ' → Q σ' H
section
variable {X : Cx} {C : Cfg} {pos : Pos} {x : Str} {i : Nat} {e : Expr} {es : List Expr} {p : Pt} {ps : Pts}
theorem pg_imp {tg : Expr} {t t' : TG} (h : PG X tg t) (i : ∀ v σ H Q, t' v σ H Q → t v σ H Q) : PG X tg t' := ⟨fun pins s σ H v u Q I r q => h.run pins s σ H v u Q I r (i v σ H Q q)⟩
theorem pgs_imp {tg : List Expr} {t t' : TGs} (h : PGs X tg t) (i : ∀ v σ H Q, t' v σ H Q → t v σ H Q) : PGs X tg t' := ⟨fun pins s σ H v u Q I r q => h.run pins s σ H v u Q I r (i v σ H Q q)⟩
theorem sg_nm (hN : X.N.Nodup) (hi : X.N[i]? = some x) (hx : Loc X.env.scope x) (hf : X.fn x = true ∨ X.env.scope.names.lookup x = some .local) : PG X (.Name x pos) (gD C (.nm i)) :=
  pg_imp (pg_name hN hi hx hf) fun v σ H Q ⟨J, W, d, bs, w, da, hb, q⟩ => by
    cases hb
    exact q _ ⟨v, da, rfl⟩
theorem sgs_nil : PGs X [] (gDs C .nil) := pgs_imp pgs_nil fun v σ H Q ⟨J, W, d, bs, w, da, hb, q⟩ => by
  cases d with
  | nil =>
    cases da
    cases hb
    exact ⟨rfl, q _ rfl⟩
  | cons d ds => cases hb
theorem assign_one (h : isStar e = false) {env : Env} : assignEach (e :: es) env = (false, assign e env) :: assignEach es env := by
  cases e <;> first
    | rfl
    | cases h
theorem sgs_cons (h1 : PG X e (gD C p)) (h2 : PGs X es (gDs C ps)) (hs : isStar e = false) : PGs X (e :: es) (gDs C (.cons p ps)) :=
  pgs_imp (pgs_cons h1 h2 (by rw [assign_one hs]; rfl)) fun v σ H Q ⟨J, W, d, bs, w, da, hb, q⟩ => by
    cases d with
    | nil => cases hb
    | cons d ds =>
      obtain ⟨v, r, rfl, h1, h2⟩ := da
      unfold bindss at hb
      split at hb
      · rename_i b bs' e1 e2
        cases hb
        exact ⟨v, r, rfl, J, W, d, b, w, h1, e1, fun σ1 b1 => ⟨J, W, ds, bs', w, h2, e2, fun σ2 b2 => q σ2 (b1.append b2)⟩⟩
      · cases hb
def noStars (es : List Expr) : Bool := es.all fun e => !isStar e
theorem assign_len : ∀ {es : List Expr} {env : Env}, noStars es = true → (assignEach es env).length = es.length ∧ (assignEach es env).findIdx? (·.1) = none
  | [], _, _ => ⟨rfl, rfl⟩
  | e :: es, env, h => by
    have h' : isStar e = false ∧ noStars es = true := by simpa [noStars] using h
    obtain ⟨h1, h2⟩ := assign_len (env := env) h'.2
    rw [assign_one h'.1]
    exact ⟨by simp [h1], by simp [List.findIdx?_cons, h2]⟩
def ptsLen : Pts → Nat
  | .nil => 0
  | .cons _ ps => ptsLen ps + 1
theorem bindss_len : ∀ {ps : Pts} {ds : List D} {bs : List (Nat × D)}, bindss ps ds = some bs → ds.length = ptsLen ps
  | .nil, [], _, _ => rfl
  | .nil, _ :: _, _, h => by cases h
  | .cons p ps, [], _, h => by cases h
  | .cons p ps, d :: ds, bs, h => by
    unfold bindss at h
    split at h
    · rename_i b bs' h1 h2
      simp [ptsLen, bindss_len h2]
    · cases h
theorem sg_tp {k : Nat} (hK : X.K = C.K) (hc : X.calm = true) (h : PGs X es (gDs C ps)) (hn : noStars es = true) (hl : es.length = ptsLen ps) : PG X (.Tuple es k pos) (gD C (.tp ps)) :=
  pg_imp (pg_tup hc h (assign_len hn).1 (assign_len hn).2) fun v σ H Q ⟨J, W, d, bs, w, da, hb, q⟩ => by
    unfold binds at hb
    split at hb
    · rename_i ds
      obtain ⟨a, vs, rfl, h2, h3⟩ := da
      exact ⟨a, vs, rfl, SqT.of (w.sub _ _ h2), by rw [h3.length, hl, bindss_len hb], J, W, ds, bs, w, h3, hb, q⟩
    · cases hb
end

/-! ### comprehensions -/
def noE : Exc → Prop := fun _ => False
def noWx : WX := fun _ _ _ _ => False
def wYes : WT' := fun _ _ Q => Q true
/-- the turns of a comprehension over given items -/
def wTurns (p : Pt) (tt : WT') (body : Env' → List D → (List D → Prop) → Prop) (ρ : Env') : List D → List D → (List D → Prop) → Prop
  | [], acc, Q => Q acc
  | d :: ds, acc, Q => match binds p d with
    | some bs => tt (setB ρ bs) noE fun k => match k with
      | true => body (setB ρ bs) acc fun acc' => wTurns p tt body ρ ds acc' Q
      | false => wTurns p tt body ρ ds acc Q
    | none => False
def bElt (te : WE') : Env' → List D → (List D → Prop) → Prop := fun ρ acc Q => te ρ noE fun y => acc.length < LIM ∧ Q (acc ++ [y])
def wComp (vs : List Nat) (wi : WA') (p : Pt) (tt : WT') (te : WE') : WE' := fun ρ E Q => wi ρ E fun items => wTurns p tt (bElt te) (wipeE ρ vs) items [] fun acc => Q (.lst acc)
def bIn (vs1 : List Nat) (wi : WA') (p : Pt) (tt : WT') (te : WE') : Env' → List D → (List D → Prop) → Prop := fun ρ acc Q => wi ρ noE fun items => wTurns p tt (bElt te) (wipeE ρ vs1) items acc Q
def wComp2 (vs vs1 : List Nat) (wi : WA') (p : Pt) (tt : WT') (wi1 : WA') (p1 : Pt) (tt1 : WT') (te : WE') : WE' := fun ρ E Q => wi ρ E fun items => wTurns p tt (bIn vs1 wi1 p1 tt1 te) (wipeE ρ vs) items [] fun acc => Q (.lst acc)
section
variable {X : Cx} {C : Cfg} {Wx : WX} {k : Nat}
theorem pts_imp {ifs : List Expr} {t t' : TT} (h : PTs X ifs t) (i : ∀ σ H Q, t' σ H Q → t σ H Q) : PTs X ifs t' := ⟨fun pins s σ H Q I q => h.run pins s σ H Q I (i σ H Q q)⟩
theorem sts_nil : PTs X [] (tT C Wx wYes) := pts_imp pts_nil fun σ H Q ⟨J, W, ρ, E, Qd, w, env, h, g⟩ => g.ok true H J W true (Post.refl w) rfl h
theorem sts_one {c : Expr} {t : WT'} (h : PT X c (tT C Wx t)) : PTs X [c] (tT C Wx t) := pts_one h
theorem Ctx.blk (T : Ctx X C Wx k) (s : Shared) (H : Hp) (scope : Scope) (cenv : Env) (fp : List Addr) : Ctx (X.blk s H scope cenv fp) C noWx k :=
  ⟨T.K, T.mg, T.room, T.calm, T.nd, LamX.takes0, T.gd⟩
/-- the state of a comprehension under way: D its list, not told yet -/
def Und (C : Cfg) (J : Hp) (W : Addr → Prop) (H1 : Hp) (D0 : Addr) (acc : List D) (J' : Hp) (W' : Addr → Prop) (H : Hp) : Prop :=
  Post C.tq J W H1 J' W' H ∧ J' D0 = none ∧ ¬ W' D0 ∧ ∃ vs, H D0 = some (.lst vs) ∧ DAs C J' W' acc vs
theorem Und.behind {J J' J'' H1 H H' : Hp} {W W' W'' : Addr → Prop} {D0 : Addr} {acc : List D} (u : Und C J W H1 D0 acc J' W' H) (p : Post C.tq J' W' H J'' W'' H') : Und C J W H1 D0 acc J'' W'' H' := by
  obtain ⟨u1, u2, u3, vs, u4, u5⟩ := u
  obtain ⟨o1, o2, o3⟩ := p.out u4 u2 u3
  exact ⟨u1.trans p, o1, o2, vs, o3, p.das u5⟩
theorem Und.push {J J' H1 H : Hp} {W W' : Addr → Prop} {D0 : Addr} {acc : List D} {vs : List V} {d : D} {v : V} (h0 : H1 D0 = none) (u : Und C J W H1 D0 acc J' W' H) (hv : H D0 = some (.lst vs)) (da : DA C J' W' d v) :
    Und C J W H1 D0 (acc ++ [d]) J' W' (upd H D0 (.lst (vs ++ [v]))) := by
  obtain ⟨u1, u2, u3, ws, u4, u5⟩ := u
  rw [hv] at u4
  cases u4
  exact ⟨u1.poke h0 u2 u3, u2, u3, _, upd_same, u5.append ⟨v, [], rfl, da, rfl⟩⟩
theorem Und.start {J H1 : Hp} {W : Addr → Prop} {D0 : Addr} (w : Wk C.tq J W H1) (h0 : H1 D0 = none) : Und C J W H1 D0 [] J W (upd H1 D0 (.lst [])) := by
  have hJ : J D0 = none := by
    cases e : J D0 with
    | none => rfl
    | some o => have := w.sub _ _ e; rw [h0] at this; cases this
  have hW : ¬ W D0 := fun z => by have := (w.well _ z).2; rw [h0] at this; exact this.no
  exact ⟨(Post.refl w).poke h0 hJ hW, hJ, hW, [], upd_same, rfl⟩
theorem Und.done {J J' H1 H : Hp} {W W' : Addr → Prop} {D0 : Addr} {acc : List D} (h0 : H1 D0 = none) (u : Und C J W H1 D0 acc J' W' H) : ∃ J'', Post C.tq J W H1 J'' W' H ∧ DA C J'' W' (.lst acc) (.ref D0) := by
  obtain ⟨u1, u2, u3, vs, u4, u5⟩ := u
  exact ⟨_, u1.freeze h0 u2 u3 u4, D0, vs, rfl, upd_same, u5.mono (Post.upd_ext u2) fun _ h => h⟩
end
end L2.DL
namespace L2.DL
open PySem PySem.Spec PyProof.Rows
theorem wipe_swap {σ : St} {i : Nat} : ∀ l : List Nat, (wipe σ l).set i none = wipe (σ.set i none) l
  | [] => rfl
  | a :: l => by
    unfold wipe
    by_cases e : a = i
    · subst e
      rw [List.set_set, ← wipe_swap l, List.set_set]
    · rw [List.set_comm _ _ e, wipe_swap l]
theorem wipe_wipe {σ : St} : ∀ vs : List Nat, wipe (wipe σ vs) vs = wipe σ vs
  | [] => rfl
  | v :: vs => by
    show (wipe ((wipe σ vs).set v none) vs).set v none = (wipe σ vs).set v none
    rw [← wipe_swap, List.set_set, wipe_wipe vs]
section
variable {X : Cx} {C : Cfg} {Wx : WX} {k : Nat}
theorem drop_one {α : Type} {l : List α} {i : Nat} {d : α} (h : l[i]? = some d) : l.drop i = d :: l.drop (i + 1) := by
  obtain ⟨hi, e⟩ := List.getElem?_eq_some_iff.mp h
  rw [List.drop_eq_getElem_cons hi, e]
/-- what a comprehension does, its list handed out as it stands -/
theorem lc_imp {σ : St} {H : Hp} {Q : VK} {J : Hp} {W : Addr → Prop} {ρ : Env'} {E : Exc → Prop} {Qd : List D → Prop} {wi : WA'} {p : Pt} {tt : WT'} {te : WE'} {vs : List Nat} (hv : ∀ i ∈ pvars p, i ∈ vs) (w : Wk C.tq J W H) (env : EnvOk C J W ρ σ)
    (h : wi ρ E fun items => wTurns p tt (bElt te) (wipeE ρ vs) items [] Qd) (ex : ∀ x cls d H' J' W', Post C.tq J W H J' W' H' → ExD C x cls d J' W' H' → E x → Wx cls d σ H')
    (fin : ∀ D0 H1 J1 W1 H' acc J' W', Post C.tq J W H J1 W1 H1 → H1 D0 = none → Und C J1 W1 H1 D0 acc J' W' H' → Qd acc → Q (.ref D0) H') : tLc (tI C Wx wi) (gD C p) (tT C noWx tt) (tE C noWx te) vs σ H Q := by
  refine ⟨J, W, ρ, E, _, w, env, h, fun It0 H1 J1 W1 items p1 hIt hq D0 h0 => ?_, ex⟩
  refine ⟨fun i m H => m = items.length - i ∧ i ≤ items.length ∧ ∃ acc J' W', Und C J1 W1 H1 D0 acc J' W' H ∧ wTurns p tt (bElt te) (wipeE ρ vs) (items.drop i) acc Qd,
    ⟨items.length, by simp, Nat.zero_le _, [], J1, W1, Und.start p1.wk h0, hq⟩, ?_⟩
  rintro i m H ⟨rfl, hi, acc, J', W', u, hw⟩
  by_cases hlt : i < items.length
  · obtain ⟨go, yl⟩ := hIt.go i J' W' H u.1.ext u.1.wsub u.1.wk hlt
    refine .inr ⟨go, fun H' => i + 1 ≤ items.length ∧ ∃ acc J' W', Und C J1 W1 H1 D0 acc J' W' H' ∧ wTurns p tt (bElt te) (wipeE ρ vs) (items.drop (i + 1)) acc Qd, fun H' n => ⟨items.length - (i + 1), by omega, rfl, n.1, n.2⟩, fun x H'' y => ?_⟩
    obtain ⟨d, J2, hd, p2, da⟩ := yl x H'' y
    rw [drop_one hd] at hw
    unfold wTurns at hw
    split at hw
    · rename_i bs hb
      have u2 := u.behind p2
      refine ⟨J2, W', d, bs, u2.1.wk, da, hb, fun σ2 b2 => ⟨?_, ?_⟩⟩
      · rw [b2.wipe (vs := vs) fun j hj => hv j (by rw [← binds_vars hb]; exact hj), wipe_wipe]
      · have env2 : EnvOk C J2 W' (setB (wipeE ρ vs) bs) σ2 := b2.env ((u2.1.env (p1.env env)).wipe vs)
        refine ⟨J2, W', setB (wipeE ρ vs) bs, noE, _, u2.1.wk, env2, hw, fun b H3 J3 W3 b' p3 eb q => ?_, fun _ _ _ _ _ _ _ _ z => z.elim⟩
        cases eb
        have u3 := u2.behind p3
        cases b with
        | true =>
          refine iteT ⟨J3, W3, _, noE, _, u3.1.wk, p3.env env2, q, fun v H8 J8 W8 dd p8 da8 q8 => ?_, fun _ _ _ _ _ _ _ _ z => z.elim⟩
          have u8 := u3.behind p8
          obtain ⟨_, _, _, vs8, h8, h9⟩ := id u8
          exact ⟨vs8, h8, by rw [h9.length, ← lim_line]; exact q8.1, hlt, _, J8, W8, u8.push h0 h8 da8, q8.2⟩
        | false => exact iteF ⟨hlt, acc, J3, W3, u3, q⟩
    · exact hw.elim
  · have e : i = items.length := by omega
    subst e
    rw [List.drop_length] at hw
    exact .inl ⟨hIt.stop J' W' H u.1.ext u.1.wk, fin D0 H1 J1 W1 H acc J' W' p1 h0 u hw⟩
theorem lc2_imp {σ : St} {H : Hp} {Q : VK} {J : Hp} {W : Addr → Prop} {ρ : Env'} {E : Exc → Prop} {Qd : List D → Prop} {wi wi1 : WA'} {p pp1 : Pt} {tt tt1 : WT'} {te : WE'} {vs vs1 : List Nat} (hv : ∀ i ∈ pvars p, i ∈ vs) (hv2 : ∀ i ∈ pvars pp1, i ∈ vs1) (w : Wk C.tq J W H) (env : EnvOk C J W ρ σ)
    (h : wi ρ E fun items => wTurns p tt (bIn vs1 wi1 pp1 tt1 te) (wipeE ρ vs) items [] Qd) (ex : ∀ x cls d H' J' W', Post C.tq J W H J' W' H' → ExD C x cls d J' W' H' → E x → Wx cls d σ H')
    (fin : ∀ D0 H1 J1 W1 H' acc J' W', Post C.tq J W H J1 W1 H1 → H1 D0 = none → Und C J1 W1 H1 D0 acc J' W' H' → Qd acc → Q (.ref D0) H') : tLc2 (tI C Wx wi) (gD C p) (tT C noWx tt) (tI C noWx wi1) (gD C pp1) (tT C noWx tt1) (tE C noWx te) vs vs1 σ H Q := by
  refine ⟨J, W, ρ, E, _, w, env, h, fun It0 H1 J1 W1 items p1 hIt hq D0 h0 => ?_, ex⟩
  refine ⟨fun i m H => m = items.length - i ∧ i ≤ items.length ∧ ∃ acc J' W', Und C J1 W1 H1 D0 acc J' W' H ∧ wTurns p tt (bIn vs1 wi1 pp1 tt1 te) (wipeE ρ vs) (items.drop i) acc Qd,
    ⟨items.length, by simp, Nat.zero_le _, [], J1, W1, Und.start p1.wk h0, hq⟩, ?_⟩
  rintro i m H ⟨rfl, hi, acc, J', W', u, hw⟩
  by_cases hlt : i < items.length
  · obtain ⟨go, yl⟩ := hIt.go i J' W' H u.1.ext u.1.wsub u.1.wk hlt
    refine .inr ⟨go, fun H' => i + 1 ≤ items.length ∧ ∃ acc J' W', Und C J1 W1 H1 D0 acc J' W' H' ∧ wTurns p tt (bIn vs1 wi1 pp1 tt1 te) (wipeE ρ vs) (items.drop (i + 1)) acc Qd, fun H' n => ⟨items.length - (i + 1), by omega, rfl, n.1, n.2⟩, fun x H'' y => ?_⟩
    obtain ⟨d, J2, hd, p2, da⟩ := yl x H'' y
    rw [drop_one hd] at hw
    unfold wTurns at hw
    split at hw
    · rename_i bs hb
      have u2 := u.behind p2
      refine ⟨J2, W', d, bs, u2.1.wk, da, hb, fun σ2 b2 => ⟨?_, ?_⟩⟩
      · rw [b2.wipe (vs := vs) fun j hj => hv j (by rw [← binds_vars hb]; exact hj), wipe_wipe]
      · have env2 : EnvOk C J2 W' (setB (wipeE ρ vs) bs) σ2 := b2.env ((u2.1.env (p1.env env)).wipe vs)
        refine ⟨J2, W', setB (wipeE ρ vs) bs, noE, _, u2.1.wk, env2, hw, fun b H3 J3 W3 b' p3 eb q => ?_, fun _ _ _ _ _ _ _ _ z => z.elim⟩
        cases eb
        have u3 := u2.behind p3
        have env3 := p3.env env2
        cases b with
        | true =>
          refine iteT ⟨J3, W3, setB (wipeE ρ vs) bs, noE, _, u3.1.wk, env3, q, fun It1 H4 J4 W4 items1 p4 hIt1 hq1 => ?_, fun _ _ _ _ _ _ _ _ z => z.elim⟩
          have u4 := u3.behind p4
          have env4 := p4.env env3
          refine ⟨fun j m H => m = items1.length - j ∧ j ≤ items1.length ∧ ∃ acc J' W', Und C J1 W1 H1 D0 acc J' W' H ∧ Same J4 J' ∧ (∀ a, W4 a → W' a) ∧ wTurns pp1 tt1 (bElt te) (wipeE (setB (wipeE ρ vs) bs) vs1) (items1.drop j) acc (fun acc' => wTurns p tt (bIn vs1 wi1 pp1 tt1 te) (wipeE ρ vs) (items.drop (i + 1)) acc' Qd),
            ⟨items1.length, by simp, Nat.zero_le _, acc, J4, W4, u4, Same.refl _, fun _ z => z, hq1⟩, ?_⟩
          rintro j m H ⟨rfl, hj, acc5, J5, W5, u5, sj, sw, hw5⟩
          by_cases hlt1 : j < items1.length
          · obtain ⟨go1, yl1⟩ := hIt1.go j J5 W5 H sj sw u5.1.wk hlt1
            refine .inr ⟨go1, fun H' => j + 1 ≤ items1.length ∧ ∃ acc J' W', Und C J1 W1 H1 D0 acc J' W' H' ∧ Same J4 J' ∧ (∀ a, W4 a → W' a) ∧ wTurns pp1 tt1 (bElt te) (wipeE (setB (wipeE ρ vs) bs) vs1) (items1.drop (j + 1)) acc (fun acc' => wTurns p tt (bIn vs1 wi1 pp1 tt1 te) (wipeE ρ vs) (items.drop (i + 1)) acc' Qd),
              fun H' n => ⟨items1.length - (j + 1), by omega, rfl, n.1, n.2⟩, fun x1 H6 y1 => ?_⟩
            obtain ⟨d1, J6, hd1, p6, da1⟩ := yl1 x1 H6 y1
            rw [drop_one hd1] at hw5
            unfold wTurns at hw5
            split at hw5
            · rename_i bs1 hb1
              have u6 := u5.behind p6
              refine ⟨J6, W5, d1, bs1, u6.1.wk, da1, hb1, fun σ3 b3 => ⟨?_, ?_⟩⟩
              · rw [b3.wipe (vs := vs1) fun j hj => hv2 j (by rw [← binds_vars hb1]; exact hj), wipe_wipe]
              · have env6 : EnvOk C J6 W5 (setB (wipeE (setB (wipeE ρ vs) bs) vs1) bs1) σ3 := b3.env ((env4.mono (sj.trans p6.ext) (fun a z => p6.wsub a (sw a z))).wipe vs1)
                refine ⟨J6, W5, _, noE, _, u6.1.wk, env6, hw5, fun b H7 J7 W7 b' p7 eb q7 => ?_, fun _ _ _ _ _ _ _ _ z => z.elim⟩
                cases eb
                have u7 := u6.behind p7
                have sj7 : Same J4 J7 := (sj.trans p6.ext).trans p7.ext
                have sw7 : ∀ a, W4 a → W7 a := fun a z => p7.wsub a (p6.wsub a (sw a z))
                cases b with
                | true =>
                  refine iteT ⟨J7, W7, _, noE, _, u7.1.wk, p7.env env6, q7, fun v H8 J8 W8 dd p8 da8 q8 => ?_, fun _ _ _ _ _ _ _ _ z => z.elim⟩
                  have u8 := u7.behind p8
                  obtain ⟨_, _, _, vs8, h8, h9⟩ := id u8
                  exact ⟨vs8, h8, by rw [h9.length, ← lim_line]; exact q8.1, hlt1, _, J8, W8, u8.push h0 h8 da8, sj7.trans p8.ext, fun a z => p8.wsub a (sw7 a z), q8.2⟩
                | false => exact iteF ⟨hlt1, acc5, J7, W7, u7, sj7, sw7, q7⟩
            · exact hw5.elim
          · have e : j = items1.length := by omega
            subst e
            rw [List.drop_length] at hw5
            exact .inl ⟨hIt1.stop J5 W5 H sj u5.1.wk, hlt, acc5, J5, W5, u5, hw5⟩
        | false => exact iteF ⟨hlt, acc, J3, W3, u3, q⟩
    · exact hw.elim
  · have e : i = items.length := by omega
    subst e
    rw [List.drop_length] at hw
    exact .inl ⟨hIt.stop J' W' H u.1.ext u.1.wk, fin D0 H1 J1 W1 H acc J' W' p1 h0 u hw⟩
theorem se_comp {elt tg iter : Expr} {ifs : List Expr} {scope : Scope} {own : List (Str × Nat)} {pos : Pos} {wi : WA'} {p : Pt} {tt : WT'} {te : WE'} (T : Ctx X C Wx k) (hi : PI X tg iter (tI C Wx wi)) (ok : BlkOk X.N X.env.scope scope own)
    (hg : ∀ (s : Shared) (H : Hp) (Ca : Addr) (cl : List (Str × Addr)) (fp : List Addr), PG (X.blk s H scope (compEnvC scope cl Ca X.env) fp) tg (gD C p))
    (ht : ∀ (s : Shared) (H : Hp) (Ca : Addr) (cl : List (Str × Addr)) (fp : List Addr), PTs (X.blk s H scope (compEnvC scope cl Ca X.env) fp) ifs (tT C noWx tt))
    (he : ∀ (s : Shared) (H : Hp) (Ca : Addr) (cl : List (Str × Addr)) (fp : List Addr), PE (X.blk s H scope (compEnvC scope cl Ca X.env) fp) elt (tE C noWx te)) (hs : ∀ x, foldedSetIterable iter X.env x = pure x) (hv : ∀ i ∈ pvars p, i ∈ own.map (·.2)) :
    PE X (.ListComp elt [⟨tg, iter, ifs, 0⟩] scope pos) (tE C Wx (wComp (own.map (·.2)) wi p tt te)) :=
  pe_imp (pe_lc T.calm T.nd hi ok hg ht he hs) fun σ H Q ⟨J, W, ρ, E, Qd, w, env, h, g⟩ => lc_imp hv w env h g.ex (fun D0 H1 J1 W1 H' acc J' W' p1 h0 u q => (u.done h0).elim fun J3 z => g.ok _ _ _ _ _ (p1.trans z.1) z.2 q)
theorem se_comp2 {elt tg iter tg1 iter1 : Expr} {ifs ifs1 : List Expr} {scope : Scope} {own : List (Str × Nat)} {vs1 : List Nat} {pos : Pos} {wi wi1 : WA'} {p pp1 : Pt} {tt tt1 : WT'} {te : WE'} (T : Ctx X C Wx k) (hi : PI X tg iter (tI C Wx wi)) (ok : BlkOk X.N X.env.scope scope own) (hv1 : ∀ i ∈ vs1, i ∈ own.map (·.2))
    (hg : ∀ (s : Shared) (H : Hp) (Ca : Addr) (cl : List (Str × Addr)) (fp : List Addr), PG (X.blk s H scope (compEnvC scope cl Ca X.env) fp) tg (gD C p))
    (ht : ∀ (s : Shared) (H : Hp) (Ca : Addr) (cl : List (Str × Addr)) (fp : List Addr), PTs (X.blk s H scope (compEnvC scope cl Ca X.env) fp) ifs (tT C noWx tt))
    (hi1 : ∀ (s : Shared) (H : Hp) (Ca : Addr) (cl : List (Str × Addr)) (fp : List Addr), PI (X.blk s H scope (compEnvC scope cl Ca X.env) fp) tg1 iter1 (tI C noWx wi1))
    (hg1 : ∀ (s : Shared) (H : Hp) (Ca : Addr) (cl : List (Str × Addr)) (fp : List Addr), PG (X.blk s H scope (compEnvC scope cl Ca X.env) fp) tg1 (gD C pp1))
    (ht1 : ∀ (s : Shared) (H : Hp) (Ca : Addr) (cl : List (Str × Addr)) (fp : List Addr), PTs (X.blk s H scope (compEnvC scope cl Ca X.env) fp) ifs1 (tT C noWx tt1))
    (he : ∀ (s : Shared) (H : Hp) (Ca : Addr) (cl : List (Str × Addr)) (fp : List Addr), PE (X.blk s H scope (compEnvC scope cl Ca X.env) fp) elt (tE C noWx te)) (hs : ∀ x, foldedSetIterable iter X.env x = pure x) (hs1 : ∀ env x, foldedSetIterable iter1 env x = pure x)
    (hv : ∀ i ∈ pvars p, i ∈ own.map (·.2)) (hv2 : ∀ i ∈ pvars pp1, i ∈ vs1) :
    PE X (.ListComp elt [⟨tg, iter, ifs, 0⟩, ⟨tg1, iter1, ifs1, 0⟩] scope pos) (tE C Wx (wComp2 (own.map (·.2)) vs1 wi p tt wi1 pp1 tt1 te)) :=
  pe_imp (pe_lc2 T.calm T.nd hi ok hv1 hg ht hi1 hg1 ht1 he hs hs1) fun σ H Q ⟨J, W, ρ, E, Qd, w, env, h, g⟩ => lc2_imp hv hv2 w env h g.ex (fun D0 H1 J1 W1 H' acc J' W' p1 h0 u q => (u.done h0).elim fun J3 z => g.ok _ _ _ _ _ (p1.trans z.1) z.2 q)
end
end L2.DL
namespace L2.DL
open PySem PySem.Spec PyProof.Rows

/-! ### slots of a def: values, or lists of its own that it still changes -/
inductive Sl where
  | no | im (d : D) | ow (xs : List D)
abbrev EnvS := List Sl
def slS : Sl → Option D
  | .im d => some d
  | _ => none
def slF : Sl → Option D
  | .im d => some d
  | .ow xs => some (.lst xs)
  | .no => none
/-- what is read where lists of one's own stay so -/
def strE (ρ : EnvS) : Env' := ρ.map slS
/-- what is read where they count as values -/
def frzE (ρ : EnvS) : Env' := ρ.map slF
def setS (ρ : EnvS) (bs : List (Nat × D)) : EnvS := bs.foldl (fun ρ b => ρ.set b.1 (.im b.2)) ρ
def Own (ρ : EnvS) (σ : St) (a : Addr) : Prop := ∃ (i : Nat) (xs : List D), ρ[i]? = some (Sl.ow xs) ∧ σ[i]? = some (some (V.ref a))
structure SOk (C : Cfg) (J : Hp) (W : Addr → Prop) (H0 H : Hp) (ρ : EnvS) (σ : St) : Prop where
  len : ρ.length ≤ σ.length
  im : ∀ (i : Nat) (d : D), ρ[i]? = some (Sl.im d) → ∃ v, σ[i]? = some (some v) ∧ DA C J W d v
  ow : ∀ (i : Nat) (xs : List D), ρ[i]? = some (Sl.ow xs) → ∃ (a : Addr) (vs : List V), σ[i]? = some (some (V.ref a)) ∧ H a = some (.lst vs) ∧ J a = none ∧ ¬ W a ∧ H0 a = none ∧ DAs C J W xs vs
  ap : ∀ (i j : Nat) (xs ys : List D) (a : Addr), i ≠ j → ρ[i]? = some (Sl.ow xs) → ρ[j]? = some (Sl.ow ys) → σ[i]? = some (some (V.ref a)) → σ[j]? ≠ some (some (V.ref a))
section
variable {C : Cfg} {J J' H0 H H' : Hp} {W W' : Addr → Prop} {ρ : EnvS} {σ : St}
theorem SOk.own (s : SOk C J W H0 H ρ σ) {a : Addr} (h : Own ρ σ a) : ∃ vs, H a = some (.lst vs) ∧ J a = none ∧ ¬ W a ∧ H0 a = none := by
  obtain ⟨i, xs, h1, h2⟩ := h
  obtain ⟨b, vs, e, h3, h4, h5, h6, _⟩ := s.ow i xs h1
  rw [h2] at e
  cases e
  exact ⟨vs, h3, h4, h5, h6⟩
theorem getS_map {f : Sl → Option D} {i : Nat} {d : D} (h : getS (ρ.map f) i = some d) : ∃ s, ρ[i]? = some s ∧ f s = some d := by
  unfold getS at h
  rw [List.getElem?_map] at h
  cases e : ρ[i]? with
  | none => rw [e] at h; cases h
  | some s => rw [e] at h; exact ⟨s, rfl, by simpa using h⟩
theorem SOk.str (s : SOk C J W H0 H ρ σ) : EnvOk C J W (strE ρ) σ where
  len := by unfold strE; simpa using s.len
  get := fun i d h => by
    obtain ⟨x, h1, h2⟩ := getS_map h
    cases x with
    | im e => cases h2; exact s.im i _ h1
    | no => cases h2
    | ow xs => cases h2
theorem SOk.behind (s : SOk C J W H0 H ρ σ) (p : Post C.tq J W H J' W' H') : SOk C J' W' H0 H' ρ σ where
  len := s.len
  im := fun i d h => by
    obtain ⟨v, h1, h2⟩ := s.im i d h
    exact ⟨v, h1, p.da h2⟩
  ow := fun i xs h => by
    obtain ⟨a, vs, h1, h2, h3, h4, h5, h6⟩ := s.ow i xs h
    obtain ⟨o1, o2, o3⟩ := p.out h2 h3 h4
    exact ⟨a, vs, h1, o3, o1, o2, h5, p.das h6⟩
  ap := s.ap
open Classical in
/-- the lists of one's own counted in -/
noncomputable def frzJ (J : Hp) (ρ : EnvS) (σ : St) (H : Hp) : Hp := fun a => if Own ρ σ a then H a else J a
open Classical in
/-- .. and out again -/
noncomputable def thwJ (J : Hp) (ρ : EnvS) (σ : St) : Hp := fun a => if Own ρ σ a then none else J a
theorem frzJ_own {a : Addr} (h : Own ρ σ a) : frzJ J ρ σ H a = H a := by unfold frzJ; rw [if_pos h]
theorem frzJ_not {a : Addr} (h : ¬ Own ρ σ a) : frzJ J ρ σ H a = J a := by unfold frzJ; rw [if_neg h]
theorem thwJ_own {a : Addr} (h : Own ρ σ a) : thwJ J ρ σ a = none := by unfold thwJ; rw [if_pos h]
theorem thwJ_not {a : Addr} (h : ¬ Own ρ σ a) : thwJ J ρ σ a = J a := by unfold thwJ; rw [if_neg h]
theorem SOk.same (s : SOk C J W H0 H ρ σ) : Same J (frzJ J ρ σ H) := fun a o h => by
  have n : ¬ Own ρ σ a := fun z => by
    obtain ⟨_, _, z2, _⟩ := s.own z
    rw [z2] at h; cases h
  rw [frzJ_not n]; exact h
theorem SOk.wkF (s : SOk C J W H0 H ρ σ) (w : Wk C.tq J W H) : Wk C.tq (frzJ J ρ σ H) W H where
  sub := fun a o h => by
    by_cases z : Own ρ σ a
    · rw [frzJ_own z] at h; exact h
    · rw [frzJ_not z] at h; exact w.sub a o h
  well := fun a h => by
    have z : ¬ Own ρ σ a := fun z => (s.own z).elim fun _ q => q.2.2.1 h
    rw [frzJ_not z]; exact ⟨(w.well a h).1, (w.well a h).2.mono s.same⟩
  tab := w.tab
theorem SOk.frz (s : SOk C J W H0 H ρ σ) : EnvOk C (frzJ J ρ σ H) W (frzE ρ) σ where
  len := by unfold frzE; simpa using s.len
  get := fun i d h => by
    obtain ⟨x, h1, h2⟩ := getS_map h
    cases x with
    | im e =>
      cases h2
      obtain ⟨v, h3, h4⟩ := s.im i _ h1
      exact ⟨v, h3, h4.mono s.same fun _ z => z⟩
    | no => cases h2
    | ow xs =>
      cases h2
      obtain ⟨a, vs, h3, h4, h5, h6, h7, h8⟩ := s.ow i xs h1
      exact ⟨.ref a, h3, a, vs, rfl, by rw [frzJ_own ⟨i, xs, h1, h3⟩]; exact h4, h8.mono s.same fun _ z => z⟩
/-- all are immutable for good -/
theorem SOk.postF {J0 : Hp} {W0 : Addr → Prop} (s : SOk C J W H0 H ρ σ) (p : Post C.tq J0 W0 H0 J W H) : Post C.tq J0 W0 H0 (frzJ J ρ σ H) W H where
  ext := p.ext.trans s.same
  wk := s.wkF p.wk
  new := fun a o h => by
    by_cases z : Own ρ σ a
    · exact .inr ((s.own z).elim fun _ q => q.2.2.2)
    · rw [frzJ_not z] at h; exact p.new a o h
  keep := p.keep
  wsub := p.wsub
  wnew := p.wnew
/-- behind an expression that was read with all of them counted in: they are one's own again -/
theorem SOk.thaw (s : SOk C J W H0 H ρ σ) (w : Wk C.tq J W H) (p : Post C.tq (frzJ J ρ σ H) W H J' W' H') : Post C.tq J W H (thwJ J' ρ σ) W' H' where
  ext := fun a o h => by
    have n : ¬ Own ρ σ a := fun z => by
      obtain ⟨_, _, z2, _⟩ := s.own z
      rw [z2] at h; cases h
    rw [thwJ_not n]
    exact p.ext a o (by rw [frzJ_not n]; exact h)
  wk := ⟨fun a o h => by
      by_cases z : Own ρ σ a
      · rw [thwJ_own z] at h; cases h
      · rw [thwJ_not z] at h; exact p.wk.sub a o h,
    fun a h => by
      have z := p.wk.well a h
      refine ⟨?_, z.2.to fun c φ hc => ?_⟩
      rotate_left
      · rw [thwJ_not fun zz => ?_]
        · exact hc
        · obtain ⟨vs, z1, z2, z3, _⟩ := s.own zz
          have z4 := p.keep c _ z1 z3
          rw [p.wk.sub c _ hc] at z4; cases z4
      by_cases q : Own ρ σ a
      · exact thwJ_own q
      · rw [thwJ_not q]; exact z.1,
    p.wk.tab⟩
  new := fun a o h => by
    by_cases z : Own ρ σ a
    · rw [thwJ_own z] at h; cases h
    · rw [thwJ_not z] at h
      rcases p.new a o h with q | q
      · rw [frzJ_not z] at q; exact .inl q
      · exact .inr q
  keep := p.keep
  wsub := p.wsub
  wnew := p.wnew
mutual
/-- no list within -/
def noL : D → Bool
  | .lst _ => false
  | .scr _ => false
  | .fn _ _ => false
  | .tup xs => noLs xs
  | _ => true
def noLs : List D → Bool
  | [] => true
  | d :: ds => noL d && noLs ds
end
theorem own_lst (s : SOk C J W H0 H ρ σ) (p : Post C.tq (frzJ J ρ σ H) W H J' W' H') {a : Addr} (h : Own ρ σ a) : ∃ vs, H' a = some (.lst vs) := by
  obtain ⟨vs, h1, h2, h3, _⟩ := s.own h
  exact ⟨vs, p.keep a _ h1 h3⟩
mutual
theorem SOk.da (s : SOk C J W H0 H ρ σ) (p : Post C.tq (frzJ J ρ σ H) W H J' W' H') : ∀ {d : D} {v : V}, DA C J' W' d v → noL d = true → DA C (thwJ J' ρ σ) W' d v
  | .non, _, h, _ => h
  | .bl _, _, h, _ => h
  | .int _, _, h, _ => h
  | .str _, _, h, _ => h
  | .tup xs, v, h, n => by
    obtain ⟨a, vs, h1, h2, h3⟩ := h
    refine ⟨a, vs, h1, ?_, SOk.das s p h3 n⟩
    rw [thwJ_not fun z => ?_]
    · exact h2
    · obtain ⟨ws, e⟩ := own_lst s p z
      have := p.wk.sub _ _ h2
      rw [e] at this; cases this
  | .lst xs, v, h, n => by cases n
  | .obj a, v, h, _ => h
  | .fn _ _, _, _, n => by cases n
  | .scr _, _, _, n => by cases n
  | .kt _, _, h, _ => h
theorem SOk.das (s : SOk C J W H0 H ρ σ) (p : Post C.tq (frzJ J ρ σ H) W H J' W' H') : ∀ {d : List D} {v : List V}, DAs C J' W' d v → noLs d = true → DAs C (thwJ J' ρ σ) W' d v
  | [], _, h, _ => h
  | d :: ds, vs, h, n => by
    obtain ⟨v, r, h1, h2, h3⟩ := h
    have n' : noL d = true ∧ noLs ds = true := by simpa [noLs] using n
    exact ⟨v, r, h1, SOk.da s p h2 n'.1, SOk.das s p h3 n'.2⟩
end
theorem gS_set {ρ : EnvS} {i j : Nat} {x y : Sl} (h : (ρ.set i x)[j]? = some y) : (j = i ∧ y = x ∧ i < ρ.length) ∨ (j ≠ i ∧ ρ[j]? = some y) := by
  by_cases e : i = j
  · subst e
    by_cases hi : i < ρ.length
    · rw [List.getElem?_set_self hi] at h
      exact .inl ⟨rfl, (Option.some.inj h).symm, hi⟩
    · rw [List.getElem?_eq_none (by simpa using hi)] at h; cases h
  · rw [List.getElem?_set_ne e] at h
    exact .inr ⟨fun z => e z.symm, h⟩
theorem SOk.setIm (s : SOk C J W H0 H ρ σ) {i : Nat} {d : D} {v : V} (da : DA C J W d v) : SOk C J W H0 H (ρ.set i (.im d)) (σ.set i (some v)) where
  len := by simpa using s.len
  im := fun j e x => by
    rcases gS_set x with ⟨rfl, e1, hi⟩ | ⟨ne, x⟩
    · cases e1
      exact ⟨v, by rw [List.getElem?_set_self (Nat.lt_of_lt_of_le hi s.len)], da⟩
    · obtain ⟨u, h1, h2⟩ := s.im j e x
      exact ⟨u, by rw [List.getElem?_set_ne (Ne.symm ne)]; exact h1, h2⟩
  ow := fun j xs x => by
    rcases gS_set x with ⟨_, e1, _⟩ | ⟨ne, x⟩
    · cases e1
    · obtain ⟨a, vs, h1, h2⟩ := s.ow j xs x
      exact ⟨a, vs, by rw [List.getElem?_set_ne (Ne.symm ne)]; exact h1, h2⟩
  ap := fun j k xs ys a ne x y h1 h2 => by
    rcases gS_set x with ⟨_, e1, _⟩ | ⟨n1, x⟩
    · cases e1
    · rcases gS_set y with ⟨_, e1, _⟩ | ⟨n2, y⟩
      · cases e1
      · rw [List.getElem?_set_ne (Ne.symm n1)] at h1
        rw [List.getElem?_set_ne (Ne.symm n2)] at h2
        exact s.ap j k xs ys a ne x y h1 h2
theorem SOk.setOw (s : SOk C J W H0 H ρ σ) {i : Nat} {xs : List D} {vs : List V} {p : Addr} (h1 : H p = some (.lst vs)) (h2 : J p = none) (h3 : ¬ W p) (h4 : H0 p = none) (h5 : DAs C J W xs vs) (h6 : ¬ Own ρ σ p) :
    SOk C J W H0 H (ρ.set i (.ow xs)) (σ.set i (some (.ref p))) where
  len := by simpa using s.len
  im := fun j e x => by
    rcases gS_set x with ⟨_, e1, _⟩ | ⟨ne, x⟩
    · cases e1
    · obtain ⟨u, h1, h2⟩ := s.im j e x
      exact ⟨u, by rw [List.getElem?_set_ne (Ne.symm ne)]; exact h1, h2⟩
  ow := fun j ys x => by
    rcases gS_set x with ⟨rfl, e1, hi⟩ | ⟨ne, x⟩
    · cases e1
      exact ⟨p, vs, by rw [List.getElem?_set_self (Nat.lt_of_lt_of_le hi s.len)], h1, h2, h3, h4, h5⟩
    · obtain ⟨a, vs, h1, h2⟩ := s.ow j ys x
      exact ⟨a, vs, by rw [List.getElem?_set_ne (Ne.symm ne)]; exact h1, h2⟩
  ap := fun j k xs' ys a ne x y e1 e2 => by
    rcases gS_set x with ⟨rfl, _, hi⟩ | ⟨n1, x1⟩
    · rw [List.getElem?_set_self (Nat.lt_of_lt_of_le hi s.len)] at e1
      cases e1
      rcases gS_set y with ⟨z, _, _⟩ | ⟨n2, y⟩
      · exact ne z.symm
      · rw [List.getElem?_set_ne (Ne.symm n2)] at e2
        exact h6 ⟨k, ys, y, e2⟩
    · rw [List.getElem?_set_ne (Ne.symm n1)] at e1
      rcases gS_set y with ⟨rfl, _, hi⟩ | ⟨n2, y⟩
      · rw [List.getElem?_set_self (Nat.lt_of_lt_of_le hi s.len)] at e2
        cases e2
        exact h6 ⟨j, xs', x1, e1⟩
      · rw [List.getElem?_set_ne (Ne.symm n2)] at e2
        exact s.ap j k xs' ys a ne x1 y e1 e2
/-- one of the lists changes -/
theorem SOk.poke (s : SOk C J W H0 H ρ σ) {i : Nat} {xs ys : List D} {us : List V} {a : Addr} (hi : ρ[i]? = some (.ow xs)) (ha : σ[i]? = some (some (.ref a))) (h5 : DAs C J W ys us) :
    SOk C J W H0 (upd H a (.lst us)) (ρ.set i (.ow ys)) σ where
  len := by simpa using s.len
  im := fun j e x => by
    rcases gS_set x with ⟨_, e1, _⟩ | ⟨ne, x⟩
    · cases e1
    · exact s.im j e x
  ow := fun j zs x => by
    rcases gS_set x with ⟨rfl, e1, _⟩ | ⟨ne, x⟩
    · cases e1
      obtain ⟨b, vs, q1, q2, q3, q4, q5, q6⟩ := s.ow j xs hi
      rw [ha] at q1
      cases q1
      exact ⟨a, us, ha, upd_same, q3, q4, q5, h5⟩
    · obtain ⟨b, vs, q1, q2, q3, q4, q5, q6⟩ := s.ow j zs x
      have hb : b ≠ a := fun z => by
        rw [z] at q1
        exact s.ap i j xs zs a (Ne.symm ne) hi x ha q1
      exact ⟨b, vs, q1, by rw [upd_ne hb]; exact q2, q3, q4, q5, q6⟩
  ap := fun j k xs' ys' b ne x y e1 e2 => by
    rcases gS_set x with ⟨rfl, _, _⟩ | ⟨n1, x1⟩
    · rcases gS_set y with ⟨z, _, _⟩ | ⟨n2, y⟩
      · exact ne z.symm
      · exact s.ap j k xs ys' b ne hi y e1 e2
    · rcases gS_set y with ⟨rfl, _, _⟩ | ⟨n2, y⟩
      · exact s.ap j k xs' xs b ne x1 hi e1 e2
      · exact s.ap j k xs' ys' b ne x1 y e1 e2
/-- one of the lists is a value from now on -/
theorem SOk.setFz (s : SOk C J W H0 H ρ σ) {J0 : Hp} {W0 : Addr → Prop} (p : Post C.tq J0 W0 H0 J W H) {i : Nat} {xs : List D} (hi : ρ[i]? = some (.ow xs)) : ∃ J', Post C.tq J0 W0 H0 J' W H ∧ SOk C J' W H0 H (ρ.set i (.im (.lst xs))) σ := by
  obtain ⟨a, vs, q1, q2, q3, q4, q5, q6⟩ := s.ow i xs hi
  have ex : Same J (upd J a (.lst vs)) := Post.upd_ext q3
  refine ⟨upd J a (.lst vs), p.freeze q5 q3 q4 q2, by simpa using s.len, fun j e x => ?_, fun j zs x => ?_, fun j k xs' ys' b ne x y e1 e2 => ?_⟩
  · rcases gS_set x with ⟨rfl, e1, _⟩ | ⟨ne, x⟩
    · cases e1
      exact ⟨.ref a, q1, a, vs, rfl, upd_same, q6.mono ex fun _ z => z⟩
    · obtain ⟨v, h1, h2⟩ := s.im j e x
      exact ⟨v, h1, h2.mono ex fun _ z => z⟩
  · rcases gS_set x with ⟨_, e1, _⟩ | ⟨ne, x⟩
    · cases e1
    · obtain ⟨b, us, r1, r2, r3, r4, r5, r6⟩ := s.ow j zs x
      have hb : b ≠ a := fun z => by
        rw [z] at r1
        exact s.ap i j xs zs a (Ne.symm ne) hi x q1 r1
      exact ⟨b, us, r1, r2, by rw [upd_ne hb]; exact r3, r4, r5, r6.mono ex fun _ z => z⟩
  · rcases gS_set x with ⟨_, e1, _⟩ | ⟨n1, x⟩
    · cases e1
    · rcases gS_set y with ⟨_, e1, _⟩ | ⟨n2, y⟩
      · cases e1
      · exact s.ap j k xs' ys' b ne x y e1 e2
theorem SOk.bound : ∀ {bs : List (Nat × D)} {ρ : EnvS} {σ σ' : St}, Bound C J W bs σ σ' → SOk C J W H0 H ρ σ → SOk C J W H0 H (setS ρ bs) σ'
  | [], _, _, _, h, k => by cases h; exact k
  | b :: bs, ρ, σ, _, h, k => by
    obtain ⟨v, h1, h2⟩ := h
    show SOk C J W H0 H (setS (ρ.set b.1 (.im b.2)) bs) _
    exact SOk.bound h2 (k.setIm h1)
end
end L2.DL
namespace L2.DL
open PySem PySem.Spec PyProof.Rows

/-! ### statements -/
structure En where
  nx : EnvS → Prop
  rt : D → Prop
  bk : EnvS → Prop := fun _ => False
  ct : EnvS → Prop := fun _ => False
  ex : Exc → Prop
abbrev WS := EnvS → En → Prop
structure GoS (C : Cfg) (Wx : WX) (J0 : Hp) (W0 : Addr → Prop) (H0 : Hp) (N : En) (Dd : Ends) : Prop where
  nx : ∀ σ H J W ρ, Post C.tq J0 W0 H0 J W H → SOk C J W H0 H ρ σ → N.nx ρ → Dd.nx σ H
  bk : ∀ σ H J W ρ, Post C.tq J0 W0 H0 J W H → SOk C J W H0 H ρ σ → N.bk ρ → Dd.bk σ H
  ct : ∀ σ H J W ρ, Post C.tq J0 W0 H0 J W H → SOk C J W H0 H ρ σ → N.ct ρ → Dd.ct σ H
  rt : ∀ v H J W d, Post C.tq J0 W0 H0 J W H → DA C J W d v → N.rt d → Dd.rt v H
  ex : ∀ x cls dd σ H J W, Post C.tq J0 W0 H0 J W H → ExD C x cls dd J W H → N.ex x → Wx cls dd σ H
def tS (C : Cfg) (Wx : WX) (w : WS) : TS := fun Dd σ H => ∃ J0 W0 H0 J W ρ N, Post C.tq J0 W0 H0 J W H ∧ SOk C J W H0 H ρ σ ∧ w ρ N ∧ GoS C Wx J0 W0 H0 N Dd
def wNext : WS := fun ρ N => N.nx ρ
def wSeq (a b : WS) : WS := fun ρ N => a ρ { N with nx := fun ρ' => b ρ' N }
def wRet (e : WE') : WS := fun ρ N => e (frzE ρ) N.ex N.rt
def wRetN : WS := fun _ N => N.rt .non
def wExp (e : WE') : WS := fun ρ N => e (frzE ρ) N.ex fun _ => N.nx ρ
def wIf (c : WT') (a b : WS) : WS := fun ρ N => c (frzE ρ) N.ex fun k => match k with
  | true => a ρ N
  | false => b ρ N
/-- target = value: kept apart from one's own lists, or without a list within -/
def wAsg (p : Pt) (e : WE') : WS := fun ρ N => e (strE ρ) N.ex fun d => match binds p d with
  | some bs => N.nx (setS ρ bs)
  | none => False
def wAsgF (p : Pt) (e : WE') : WS := fun ρ N => e (frzE ρ) N.ex fun d => noL d = true ∧ match binds p d with
  | some bs => N.nx (setS ρ bs)
  | none => False
def wFz (i : Nat) : WS := fun ρ N => match ρ[i]? with
  | some (.ow xs) => N.nx (ρ.set i (.im (.lst xs)))
  | _ => False
def wApp (i : Nat) (e : WE') : WS := fun ρ N => match ρ[i]? with
  | some (.ow xs) => e (strE ρ) N.ex fun d => xs.length < LIM ∧ N.nx (ρ.set i (.ow (xs ++ [d])))
  | _ => False
def wAppF (i : Nat) (e : WE') : WS := fun ρ N => match ρ[i]? with
  | some (.ow xs) => e (frzE ρ) N.ex fun d => noL d = true ∧ xs.length < LIM ∧ N.nx (ρ.set i (.ow (xs ++ [d])))
  | _ => False
/-- x[k] = v -/
def wPut (i : Nat) (k v : WE') : WS := fun ρ N => match ρ[i]? with
  | some (.ow xs) => v (strE ρ) N.ex fun d => k (strE ρ) N.ex fun j => (match j with
    | .int j => (match ixN xs.length j with
      | some n => N.nx (ρ.set i (.ow (xs.set n d)))
      | none => False)
    | _ => False)
  | _ => False
def wPutF (i : Nat) (k v : WE') : WS := fun ρ N => match ρ[i]? with
  | some (.ow xs) => v (frzE ρ) N.ex fun d => noL d = true ∧ k (frzE ρ) N.ex fun j => (match j with
    | .int j => (match ixN xs.length j with
      | some n => N.nx (ρ.set i (.ow (xs.set n d)))
      | none => False)
    | _ => False)
  | _ => False
def wForL (p : Pt) (b : WS) : List D → WS
  | [], ρ, N => N.nx ρ
  | d :: ds, ρ, N => match binds p d with
    | some bs => b (setS ρ bs) { N with nx := fun ρ' => wForL p b ds ρ' N, ct := fun ρ' => wForL p b ds ρ' N, bk := N.nx }
    | none => False
def wFor (p : Pt) (i : WA') (b : WS) : WS := fun ρ N => i (strE ρ) N.ex fun ds => wForL p b ds ρ N
/-- over a range, read with one's own lists counted in -/
def wForR (p : Pt) (i : WA') (b : WS) : WS := fun ρ N => i (frzE ρ) N.ex fun ds => wForL p b ds ρ N
def wWhN (c : WT') (b : WS) : Nat → WS
  | 0, _, _ => False
  | n + 1, ρ, N => c (frzE ρ) N.ex fun k => match k with
    | true => b ρ { N with nx := fun ρ' => wWhN c b n ρ' N, ct := fun ρ' => wWhN c b n ρ' N, bk := N.nx }
    | false => N.nx ρ
def wWh (c : WT') (b : WS) : WS := fun ρ N => ∃ n, wWhN c b n ρ N
/-- a new list of one's own -/
def wOwn (i : Nat) (a : WA') : WS := fun ρ N => a (strE ρ) N.ex fun ds => ds.length ≤ LIM ∧ N.nx (ρ.set i (.ow ds))
def wOwnC (i : Nat) (vs : List Nat) (wi : WA') (p : Pt) (tt : WT') (te : WE') : WS := fun ρ N => wi (strE ρ) N.ex fun items => wTurns p tt (bElt te) (wipeE (strE ρ) vs) items [] fun acc => N.nx (ρ.set i (.ow acc))
def wOwnM (i : Nat) (a b : WE') : WS := fun ρ N => a (strE ρ) N.ex fun x => b (strE ρ) N.ex fun y => match x, y with
  | .lst xs, .int k => (-(2 ^ 63) ≤ k ∧ k < 2 ^ 63 ∧ xs.length * k.toNat ≤ LIM) ∧ N.nx (ρ.set i (.ow (List.replicate k.toNat xs).flatten))
  | _, _ => False
def wOwnA (i : Nat) (a b : WE') : WS := fun ρ N => a (strE ρ) N.ex fun x => b (strE ρ) N.ex fun y => match x, y with
  | .lst xs, .lst ys => xs.length + ys.length ≤ LIM ∧ N.nx (ρ.set i (.ow (xs ++ ys)))
  | _, _ => False
/-- x = list(e) -/
def wOwnL (i : Nat) (a : WE') : WS := fun ρ N => a (strE ρ) N.ex fun x => match x with
  | .lst xs => N.nx (ρ.set i (.ow xs))
  | .tup xs => N.nx (ρ.set i (.ow xs))
  | _ => False

structure CtxS (X : Cx) (C : Cfg) (Wx : WX) (k : Nat) : Prop extends Ctx X C Wx k where
  po : PassesOwn (model X.prog X.w) X.A X.env X.xe
def isComp : Expr → Bool
  | .ListComp _ _ _ _ => true
  | .SetComp _ _ _ _ => true
  | .DictComp _ _ _ _ _ => true
  | _ => false
theorem swaps_not {e : Expr} (h : isComp e = false) (t : Option Expr) (l : Nat) (env : Env) : swapsWith e t l env = pure false := by
  cases e <;> first
    | rfl
    | cases h
theorem swaps1 {e : Expr} (h : isComp e = false) (t : Expr) (l : Nat) (env : Env) : swapsWithSole [t] e l env = pure false := by
  cases e <;> first
    | rfl
    | cases h
section
variable {X : Cx} {C : Cfg} {Wx : WX} {k : Nat} {st : Stmt} {rest : List Stmt} {e : Expr} {pos pos' p2 : Pos} {we wa wb : WE'} {w1 w2 wb' : WS} {i : Nat} {x : Str}
theorem pss_imp {sts : List Stmt} {t t' : TS} (h : PSs X sts t) (i : ∀ D σ H, t' D σ H → t D σ H) : PSs X sts t' := ⟨fun pins s σ H D I q => h.run pins s σ H D I (i D σ H q)⟩
theorem GoS.nxt {J0 H0 : Hp} {W0 : Addr → Prop} {N : En} {Dd : Ends} {Nx : EnvS → Prop} {Dx : St → Hp → Prop} (g : GoS C Wx J0 W0 H0 N Dd) (h : ∀ σ H J W ρ, Post C.tq J0 W0 H0 J W H → SOk C J W H0 H ρ σ → Nx ρ → Dx σ H) :
    GoS C Wx J0 W0 H0 { N with nx := Nx } { Dd with nx := Dx } := ⟨h, g.bk, g.ct, g.rt, g.ex⟩
theorem sq_nil : PSs X [] (tS C Wx wNext) := pss_imp pss_nil fun Dd σ H ⟨J0, W0, H0, J, W, ρ, N, p, so, h, g⟩ => g.nx σ H J W ρ p so h
theorem sq_cons (h1 : PS X st (tS C Wx w1)) (h2 : PSs X rest (tS C Wx w2)) : PSs X (st :: rest) (tS C Wx (wSeq w1 w2)) := pss_imp (pss_cons h1 h2) fun Dd σ H ⟨J0, W0, H0, J, W, ρ, N, p, so, h, g⟩ =>
  ⟨J0, W0, H0, J, W, ρ, _, p, so, h, g.nxt fun σ' H' J' W' ρ' p' so' q => ⟨J0, W0, H0, J', W', ρ', N, p', so', q, g⟩⟩
theorem sq_fz (h2 : PSs X rest (tS C Wx w2)) : PSs X rest (tS C Wx (wSeq (wFz i) w2)) := pss_imp h2 fun Dd σ H ⟨J0, W0, H0, J, W, ρ, N, p, so, h, g⟩ => by
  have h : (match ρ[i]? with
    | some (.ow xs) => w2 (ρ.set i (.im (.lst xs))) N
    | _ => False) := h
  split at h
  · rename_i xs hx
    obtain ⟨J', p', so'⟩ := so.setFz p hx
    exact ⟨J0, W0, H0, J', W, _, N, p', so', h, g⟩
  · exact h.elim
theorem ss_pass : PS X (.Pass pos) (tS C Wx wNext) := ps_imp ps_pass fun Dd σ H ⟨J0, W0, H0, J, W, ρ, N, p, so, h, g⟩ => g.nx σ H J W ρ p so h
def wBrk : WS := fun ρ N => N.bk ρ
def wCnt : WS := fun ρ N => N.ct ρ
theorem ss_brk : PS X (.Break pos) (tS C Wx wBrk) := ps_imp ps_break fun Dd σ H ⟨J0, W0, H0, J, W, ρ, N, p, so, h, g⟩ => g.bk σ H J W ρ p so h
theorem ss_cnt : PS X (.Continue pos) (tS C Wx wCnt) := ps_imp ps_continue fun Dd σ H ⟨J0, W0, H0, J, W, ρ, N, p, so, h, g⟩ => g.ct σ H J W ρ p so h
/-- an expression, its lists apart -/
theorem GoS.str {J0 H0 J H : Hp} {W0 W : Addr → Prop} {N : En} {Dd : Ends} {σ : St} {α β : Type} {R : Hp → (Addr → Prop) → α → β → Prop} {Qd : α → Prop} {Q : β → Hp → Prop} (g : GoS C Wx J0 W0 H0 N Dd) (p : Post C.tq J0 W0 H0 J W H)
    (h : ∀ v H' J' W' d, Post C.tq J W H J' W' H' → R J' W' d v → Qd d → Q v H') : Go C Wx R J W σ H N.ex Qd Q := ⟨h, fun x cls d H' J' W' q r h => g.ex x cls d σ H' J' W' (p.trans q) r h⟩
theorem ss_ret (he : PE X e (tE C Wx we)) : PS X (.Return (some e) pos) (tS C Wx (wRet we)) := ps_imp (ps_ret he) fun Dd σ H ⟨J0, W0, H0, J, W, ρ, N, p, so, h, g⟩ =>
  ⟨frzJ J ρ σ H, W, frzE ρ, N.ex, N.rt, so.wkF p.wk, so.frz, h, g.str (so.postF p) fun v H' J' W' d q da r => g.rt v H' J' W' d ((so.postF p).trans q) da r⟩
theorem ss_retN : PS X (.Return none pos) (tS C Wx wRetN) := ps_imp ps_retN fun Dd σ H ⟨J0, W0, H0, J, W, ρ, N, p, so, h, g⟩ => g.rt .non H J W .non p rfl h
theorem ss_exp (he : PE X e (tE C Wx we)) (hc : isComp e = false) : PS X (.Expr e pos) (tS C Wx (wExp we)) := ps_imp (ps_expr he (swaps_not hc _ _ _)) fun Dd σ H ⟨J0, W0, H0, J, W, ρ, N, p, so, h, g⟩ =>
  ⟨frzJ J ρ σ H, W, frzE ρ, N.ex, _, so.wkF p.wk, so.frz, h, g.str (so.postF p) fun v H' J' W' d q da r => g.nx σ H' _ W' ρ (p.trans (so.thaw p.wk q)) (so.behind (so.thaw p.wk q)) r⟩
theorem ss_if {c : Expr} {a b : List Stmt} {tc : WT'} (hc : PT X c (tT C Wx tc)) (ha : PSs X a (tS C Wx w1)) (hb : PSs X b (tS C Wx w2)) : PS X (.If c a b pos) (tS C Wx (wIf tc w1 w2)) := ps_imp (ps_if hc ha hb) fun Dd σ H ⟨J0, W0, H0, J, W, ρ, N, p, so, h, g⟩ =>
  ⟨frzJ J ρ σ H, W, frzE ρ, N.ex, _, so.wkF p.wk, so.frz, h, g.str (so.postF p) fun v H' J' W' d q da r => by
    cases da
    have t := so.thaw p.wk q
    cases v with
    | true => exact iteT ⟨J0, W0, H0, _, W', ρ, N, p.trans t, so.behind t, r, g⟩
    | false => exact iteF ⟨J0, W0, H0, _, W', ρ, N, p.trans t, so.behind t, r, g⟩⟩
/-! assignments -/
theorem asg_imp {pt : Pt} {tgt : TG} {Dd : Ends} {σ : St} {H : Hp} (ht : ∀ v σ H Q, gD C pt v σ H Q → tgt v σ H Q) (h : tS C Wx (wAsg pt we) Dd σ H) : tAsg (tE C Wx we) tgt Dd σ H := by
  obtain ⟨J0, W0, H0, J, W, ρ, N, p, so, h, g⟩ := h
  refine ⟨J, W, strE ρ, N.ex, _, p.wk, so.str, h, g.str p fun v H' J' W' d q da r => ht _ _ _ _ ?_⟩
  split at r
  · rename_i bs hb
    exact ⟨J', W', d, bs, q.wk, da, hb, fun σ' b => g.nx σ' H' J' W' _ (p.trans q) ((so.behind q).bound b) r⟩
  · exact r.elim
theorem asgF_imp {pt : Pt} {tgt : TG} {Dd : Ends} {σ : St} {H : Hp} (ht : ∀ v σ H Q, gD C pt v σ H Q → tgt v σ H Q) (h : tS C Wx (wAsgF pt we) Dd σ H) : tAsg (tE C Wx we) tgt Dd σ H := by
  obtain ⟨J0, W0, H0, J, W, ρ, N, p, so, h, g⟩ := h
  refine ⟨frzJ J ρ σ H, W, frzE ρ, N.ex, _, so.wkF p.wk, so.frz, h, g.str (so.postF p) fun v H' J' W' d q da r => ht _ _ _ _ ?_⟩
  obtain ⟨nl, r⟩ := r
  have t := so.thaw p.wk q
  split at r
  · rename_i bs hb
    exact ⟨_, W', d, bs, t.wk, so.da q da nl, hb, fun σ' b => g.nx σ' H' _ W' _ (p.trans t) ((so.behind t).bound b) r⟩
  · exact r.elim
theorem gD_nm (v : V) (σ : St) (H : Hp) (Q : St → Hp → Prop) (h : gD C (.nm i) v σ H Q) : gName i v σ H Q := by
  obtain ⟨J, W, d, bs, w, da, hb, q⟩ := h
  cases hb
  exact q _ ⟨v, da, rfl⟩
/-- a name; a tuple of targets -/
theorem ss_nm (hN : X.N.Nodup) (hi : X.N[i]? = some x) (hx : Loc X.env.scope x) (hf : X.fn x = true ∨ X.env.scope.names.lookup x = some .local) (he : PE X e (tE C Wx we)) (hc : isComp e = false) : PS X (.Assign [.Name x pos'] e pos) (tS C Wx (wAsg (.nm i) we)) :=
  ps_imp (ps_set hN hi hx he (swaps_not hc _ _ _) hf) fun Dd σ H h => asg_imp gD_nm h
theorem ss_nmF (hN : X.N.Nodup) (hi : X.N[i]? = some x) (hx : Loc X.env.scope x) (hf : X.fn x = true ∨ X.env.scope.names.lookup x = some .local) (he : PE X e (tE C Wx we)) (hc : isComp e = false) : PS X (.Assign [.Name x pos'] e pos) (tS C Wx (wAsgF (.nm i) we)) :=
  ps_imp (ps_set hN hi hx he (swaps_not hc _ _ _) hf) fun Dd σ H h => asgF_imp gD_nm h
theorem ss_tg {tg : Expr} {pt : Pt} (hg : PG X tg (gD C pt)) (he : PE X e (tE C Wx we)) (hs : swapsWithSole [tg] e pos.line X.env = pure false) (hw : swappedStores [tg] e X.env = pure none) (hst : isStar tg = false) : PS X (.Assign [tg] e pos) (tS C Wx (wAsg pt we)) :=
  ps_imp (ps_asg he hg hs hw (by rw [assign_one hst]; rfl)) fun Dd σ H h => asg_imp (fun _ _ _ _ z => z) h
theorem ss_tgF {tg : Expr} {pt : Pt} (hg : PG X tg (gD C pt)) (he : PE X e (tE C Wx we)) (hs : swapsWithSole [tg] e pos.line X.env = pure false) (hw : swappedStores [tg] e X.env = pure none) (hst : isStar tg = false) : PS X (.Assign [tg] e pos) (tS C Wx (wAsgF pt we)) :=
  ps_imp (ps_asg he hg hs hw (by rw [assign_one hst]; rfl)) fun Dd σ H h => asgF_imp (fun _ _ _ _ z => z) h
/-- [e, ..], [.. for ..], xs * n, xs + ys, list(xs) as lists of one's own -/
theorem own_not {J H J0 H0 H' : Hp} {W W' : Addr → Prop} {ρ : EnvS} {σ : St} {a : Addr} (so : SOk C J W H0 H ρ σ) (p : Post C.tq J W H J0 W' H') (h : H' a = none) : ¬ Own ρ σ a := fun z => by
  obtain ⟨vs, h1, h2, h3, _⟩ := so.own z
  rw [p.keep a _ h1 h3] at h; cases h
theorem wk_none {J H : Hp} {W : Addr → Prop} (w : Wk C.tq J W H) {a : Addr} (h : H a = none) : J a = none ∧ ¬ W a := by
  refine ⟨?_, fun z => ?_⟩
  · cases e : J a with
    | none => rfl
    | some o => have z := w.sub _ _ e; rw [h] at z; cases z
  · have q := (w.well _ z).2
    rw [h] at q
    exact q.no
/-- a list just made becomes one of one's own -/
theorem own_new {J J' H H' J0 H0 : Hp} {W W' W0 : Addr → Prop} {ρ : EnvS} {σ : St} {l : Addr} {xs : List D} {vs : List V} {N : En} {Dd : Ends} (g : GoS C Wx J0 W0 H0 N Dd) (p : Post C.tq J0 W0 H0 J W H) (so : SOk C J W H0 H ρ σ) (q : Post C.tq J W H J' W' H') (hl : H' l = none) (da : DAs C J' W' xs vs) (h : N.nx (ρ.set i (.ow xs))) :
    Dd.nx (σ.set i (some (.ref l))) (upd H' l (.lst vs)) := by
  have pq := p.trans q
  obtain ⟨n1, n2⟩ := wk_none q.wk hl
  have h0 : H0 l = none := pq.there hl
  have pk := pq.poke (o := .lst vs) h0 n1 n2
  have so2 : SOk C J' W' H0 (upd H' l (.lst vs)) ρ σ := (so.behind q).behind ((Post.refl q.wk).poke hl n1 n2)
  exact g.nx _ _ J' W' _ pk (so2.setOw upd_same n1 n2 h0 da (own_not so q hl)) h
theorem ss_ownD {es : List Expr} {ws : WA'} (hN : X.N.Nodup) (hi : X.N[i]? = some x) (hx : Loc X.env.scope x) (hf : X.fn x = true ∨ X.env.scope.names.lookup x = some .local) (ha : PA X es (tAs C Wx ws)) : PS X (.Assign [.Name x pos'] (.List es p2) pos) (tS C Wx (wOwn i ws)) :=
  ps_imp (ps_set hN hi hx (pe_lst ha) (swaps_not rfl _ _ _) hf) fun Dd σ H ⟨J0, W0, H0, J, W, ρ, N, p, so, h, g⟩ =>
    ⟨J, W, strE ρ, N.ex, _, p.wk, so.str, h, g.str p fun v H' J' W' d q da r => ⟨by rw [da.length, ← lim_line]; exact r.1, fun l hl => own_new g p so q hl da r.2⟩⟩
theorem ss_ownM {a b : Expr} (hN : X.N.Nodup) (hi : X.N[i]? = some x) (hx : Loc X.env.scope x) (hf : X.fn x = true ∨ X.env.scope.names.lookup x = some .local) (ha : PE X a (tE C Wx wa)) (hb : PE X b (tE C Wx wb)) : PS X (.Assign [.Name x pos'] (.BinOp a .Mult b p2) pos) (tS C Wx (wOwnM i wa wb)) :=
  ps_imp (ps_set hN hi hx (pe_op op_rep ha hb) (swaps_not rfl _ _ _) hf) fun Dd σ H ⟨J0, W0, H0, J, W, ρ, N, p, so, h, g⟩ =>
    ⟨J, W, strE ρ, N.ex, _, p.wk, so.str, h, g.str p fun v H' J' W' d q da r => ⟨J', W', strE ρ, N.ex, _, q.wk, (so.behind q).str, r, g.str (p.trans q) fun v2 H2 J2 W2 d2 q2 da2 r2 => by
      have da' := q2.da da
      split at r2
      · obtain ⟨a, vs, rfl, h2, h3⟩ := da'
        cases da2
        exact ⟨a, _, vs, rfl, rfl, q2.wk.sub _ _ h2, r2.1.1, r2.1.2.1, by rw [h3.length, ← lim_line]; exact r2.1.2.2, fun l hl => own_new g p so (q.trans q2) hl (das_rep h3 _) r2.2⟩
      · exact r2.elim⟩⟩
theorem ss_ownA {a b : Expr} (hN : X.N.Nodup) (hi : X.N[i]? = some x) (hx : Loc X.env.scope x) (hf : X.fn x = true ∨ X.env.scope.names.lookup x = some .local) (ha : PE X a (tE C Wx wa)) (hb : PE X b (tE C Wx wb)) : PS X (.Assign [.Name x pos'] (.BinOp a .Add b p2) pos) (tS C Wx (wOwnA i wa wb)) :=
  ps_imp (ps_set hN hi hx (pe_op op_cat ha hb) (swaps_not rfl _ _ _) hf) fun Dd σ H ⟨J0, W0, H0, J, W, ρ, N, p, so, h, g⟩ =>
    ⟨J, W, strE ρ, N.ex, _, p.wk, so.str, h, g.str p fun v H' J' W' d q da r => ⟨J', W', strE ρ, N.ex, _, q.wk, (so.behind q).str, r, g.str (p.trans q) fun v2 H2 J2 W2 d2 q2 da2 r2 => by
      have da' := q2.da da
      split at r2
      · obtain ⟨a, vs, rfl, h2, h3⟩ := da'
        obtain ⟨b, ws, rfl, h4, h5⟩ := da2
        exact ⟨a, b, vs, ws, rfl, rfl, q2.wk.sub _ _ h2, q2.wk.sub _ _ h4, by rw [h3.length, h5.length, ← lim_line]; exact r2.1, fun l hl => own_new g p so (q.trans q2) hl (h3.append h5) r2.2⟩
      · exact r2.elim⟩⟩
/-! one's own list changes -/
theorem own_at {J H H0 : Hp} {W : Addr → Prop} {ρ : EnvS} {σ : St} {xs : List D} (so : SOk C J W H0 H ρ σ) (hi : ρ[i]? = some (.ow xs)) : ∃ (a : Addr) (vs : List V), σ[i]? = some (some (V.ref a)) ∧ H a = some (.lst vs) ∧ J a = none ∧ ¬ W a ∧ H0 a = none ∧ DAs C J W xs vs := so.ow i xs hi
theorem own_put {J H J0 H0 : Hp} {W W0 : Addr → Prop} {ρ : EnvS} {σ : St} {xs ys : List D} {us : List V} {a : Addr} {N : En} {Dd : Ends} (g : GoS C Wx J0 W0 H0 N Dd) (p : Post C.tq J0 W0 H0 J W H) (so : SOk C J W H0 H ρ σ) (hi : ρ[i]? = some (.ow xs)) (ha : σ[i]? = some (some (.ref a)))
    (da : DAs C J W ys us) (h : N.nx (ρ.set i (.ow ys))) : Dd.nx σ (upd H a (.lst us)) := by
  obtain ⟨b, vs, e, h1, h2, h3, h4, _⟩ := so.ow i xs hi
  rw [ha] at e
  cases e
  exact g.nx _ _ J W _ (p.poke h4 h2 h3) (so.poke hi ha da) h
theorem sl_var {pos : Pos} (hN : X.N[i]? = some x) (hv : Vis X.env.scope x) (hd : (x == ("__debug__" : Str)) = false) (hcd : (x == ("__classdict__" : Str)) = false) : PE X (.Name x pos) (tVar i) := pe_var hN hv hd hcd
theorem ss_app {apos cpos : Pos} (hN : X.N[i]? = some x) (hv : Vis X.env.scope x) (hd : (x == ("__debug__" : Str)) = false) (hcd : (x == ("__classdict__" : Str)) = false) (he : PE X e (tE C Wx we)) (hs : isStar e = false) (hline : (apos.endLine == cpos.line) = true) :
    PS X (.Expr (.Call (.Attribute (.Name x pos') "append" apos) [e] [] cpos) pos) (tS C Wx (wApp i we)) :=
  ps_imp (ps_expr (pe_bm PySem.F.plainAttrs_list PySem.F.slot_list_append PySem.F.type_list_append mt_append (pe_var hN hv hd hcd) (pa_cons he pa_nil (star_one hs)) rfl (by rw [star_one hs]; rfl) hline (star_one hs) rfl) (swaps_not rfl _ _ _)) fun Dd σ H ⟨J0, W0, H0, J, W, ρ, N, p, so, h, g⟩ => by
    unfold wApp at h
    split at h
    · rename_i xs hx
      obtain ⟨a, vs, e1, e2, e3, e4, e5, e6⟩ := so.ow i xs hx
      refine ⟨_, e1, .inl ⟨rfl, vs, SqL.of e2⟩, J, W, strE ρ, N.ex, _, p.wk, so.str, h, g.str p fun v H' J' W' d q da r => ?_⟩
      obtain ⟨o1, o2, o3⟩ := q.out e2 e3 e4
      have so' := so.behind q
      exact ⟨a, vs, v, rfl, rfl, o3, by rw [e6.length, ← lim_line]; exact r.1, own_put g (p.trans q) so' hx e1 ((q.das e6).append (show DAs C J' W' [d] [v] from ⟨v, [], rfl, da, rfl⟩)) r.2⟩
    · exact h.elim
theorem ss_appF {apos cpos : Pos} (hN : X.N[i]? = some x) (hv : Vis X.env.scope x) (hd : (x == ("__debug__" : Str)) = false) (hcd : (x == ("__classdict__" : Str)) = false) (he : PE X e (tE C Wx we)) (hs : isStar e = false) (hline : (apos.endLine == cpos.line) = true) :
    PS X (.Expr (.Call (.Attribute (.Name x pos') "append" apos) [e] [] cpos) pos) (tS C Wx (wAppF i we)) :=
  ps_imp (ps_expr (pe_bm PySem.F.plainAttrs_list PySem.F.slot_list_append PySem.F.type_list_append mt_append (pe_var hN hv hd hcd) (pa_cons he pa_nil (star_one hs)) rfl (by rw [star_one hs]; rfl) hline (star_one hs) rfl) (swaps_not rfl _ _ _)) fun Dd σ H ⟨J0, W0, H0, J, W, ρ, N, p, so, h, g⟩ => by
    unfold wAppF at h
    split at h
    · rename_i xs hx
      obtain ⟨a, vs, e1, e2, e3, e4, e5, e6⟩ := so.ow i xs hx
      refine ⟨_, e1, .inl ⟨rfl, vs, SqL.of e2⟩, frzJ J ρ σ H, W, frzE ρ, N.ex, _, so.wkF p.wk, so.frz, h, g.str (so.postF p) fun v H' J' W' d q da r => ?_⟩
      have t := so.thaw p.wk q
      obtain ⟨o1, o2, o3⟩ := t.out e2 e3 e4
      exact ⟨a, vs, v, rfl, rfl, o3, by rw [e6.length, ← lim_line]; exact r.2.1, own_put g (p.trans t) (so.behind t) hx e1 ((t.das e6).append (show DAs C (thwJ J' ρ σ) W' [d] [v] from ⟨v, [], rfl, so.da q da r.1, rfl⟩)) r.2.2⟩
    · exact h.elim
theorem ixN_V {xs : List D} {vs : List V} {J : Hp} {W : Addr → Prop} {j : Int} {n : Nat} (h : DAs C J W xs vs) (e : ixN xs.length j = some n) : ixN vs.length j = some n := by rw [h.length]; exact e
theorem ss_put {k v : Expr} {tp : Pos} {wk wv : WE'} (hN : X.N[i]? = some x) (hv : Vis X.env.scope x) (hd : (x == ("__debug__" : Str)) = false) (hcd : (x == ("__classdict__" : Str)) = false) (hk : PE X k (tE C Wx wk)) (he : PE X v (tE C Wx wv)) (hsl : isSlice k = false) (hc : isComp v = false) :
    PS X (.Assign [.Subscript (.Name x pos') k tp] v pos) (tS C Wx (wPut i wk wv)) :=
  ps_imp (ps_asg he (pg_sub (pe_var hN hv hd hcd) hk set_list (by intro u; cases k <;> first | rfl | cases hsl)) (swaps1 hc _ _ _) (by cases v <;> rfl) rfl) fun Dd σ H ⟨J0, W0, H0, J, W, ρ, N, p, so, h, g⟩ => by
    unfold wPut at h
    split at h
    · rename_i xs hx
      obtain ⟨a, vs, e1, e2, e3, e4, e5, e6⟩ := so.ow i xs hx
      refine ⟨J, W, strE ρ, N.ex, _, p.wk, so.str, h, g.str p fun v H' J' W' d q da r => ⟨_, e1, J', W', strE ρ, N.ex, _, q.wk, (so.behind q).str, r, g.str (p.trans q) fun u H2 J2 W2 d2 q2 da2 r2 => ?_⟩⟩
      have qq := q.trans q2
      obtain ⟨o1, o2, o3⟩ := qq.out e2 e3 e4
      split at r2
      · split at r2
        · rename_i j n hn
          cases da2
          exact ⟨a, vs, _, n, rfl, rfl, o3, ixN_V e6 hn, own_put g (p.trans qq) (so.behind qq) hx e1 ((qq.das e6).set n (q2.da da)) r2⟩
        · exact r2.elim
      · exact r2.elim
    · exact h.elim
/-- x = y[k], y a list of one's own -/
def wAsgI (i j : Nat) (k : WE') : WS := fun ρ N => match ρ[j]? with
  | some (.ow xs) => k (strE ρ) N.ex fun d => (match d with
    | .int z => (match atI xs z with
      | some e => N.nx (ρ.set i (.im e))
      | none => False)
    | _ => False)
  | _ => False
theorem ss_asgI {k0 : Expr} {y : Str} {py tp : Pos} {wk : WE'} {j : Nat} (hC : X.K = C.K) (hN : X.N.Nodup) (hi : X.N[i]? = some x) (hx : Loc X.env.scope x) (hf : X.fn x = true ∨ X.env.scope.names.lookup x = some .local) (hj : X.N[j]? = some y) (hv : Vis X.env.scope y) (hd : (y == ("__debug__" : Str)) = false) (hcd : (y == ("__classdict__" : Str)) = false) (hk : PE X k0 (tE C Wx wk)) (hsl : isSlice k0 = false) :
    PS X (.Assign [.Name x pos'] (.Subscript (.Name y py) k0 tp) pos) (tS C Wx (wAsgI i j wk)) :=
  ps_imp (ps_set hN hi hx (pe_ix ix_seq (pe_var hj hv hd hcd) hk (plainIx_of hsl)) (swaps_not rfl _ _ _) hf) fun Dd σ H ⟨J0, W0, H0, J, W, ρ, N, p, so, h, g⟩ => by
    unfold wAsgI at h
    split at h
    · rename_i xs hx
      obtain ⟨a, vs, e1, e2, e3, e4, e5, e6⟩ := so.ow j xs hx
      refine ⟨_, e1, J, W, strE ρ, N.ex, _, p.wk, so.str, h, g.str p fun v H' J' W' d q da r => ?_⟩
      obtain ⟨o1, o2, o3⟩ := q.out e2 e3 e4
      split at r
      · split at r
        · rename_i z _ e hz
          cases da
          obtain ⟨u, hu, du⟩ := das_at (q.das e6) hz
          exact .inl ⟨a, vs, z, u, rfl, rfl, SqL.of o3, hu, g.nx _ H' J' W' _ (p.trans q) ((so.behind q).setIm du) r⟩
        · exact r.elim
      · exact r.elim
    · exact h.elim
theorem ss_putF {k v : Expr} {tp : Pos} {wk wv : WE'} (hN : X.N[i]? = some x) (hv : Vis X.env.scope x) (hd : (x == ("__debug__" : Str)) = false) (hcd : (x == ("__classdict__" : Str)) = false) (hk : PE X k (tE C Wx wk)) (he : PE X v (tE C Wx wv)) (hsl : isSlice k = false) (hc : isComp v = false) :
    PS X (.Assign [.Subscript (.Name x pos') k tp] v pos) (tS C Wx (wPutF i wk wv)) :=
  ps_imp (ps_asg he (pg_sub (pe_var hN hv hd hcd) hk set_list (by intro u; cases k <;> first | rfl | cases hsl)) (swaps1 hc _ _ _) (by cases v <;> rfl) rfl) fun Dd σ H ⟨J0, W0, H0, J, W, ρ, N, p, so, h, g⟩ => by
    unfold wPutF at h
    split at h
    · rename_i xs hx
      obtain ⟨a, vs, e1, e2, e3, e4, e5, e6⟩ := so.ow i xs hx
      refine ⟨frzJ J ρ σ H, W, frzE ρ, N.ex, _, so.wkF p.wk, so.frz, h, g.str (so.postF p) fun v H' J' W' d q da r => ?_⟩
      obtain ⟨nl, r⟩ := r
      refine ⟨_, e1, J', W', frzE ρ, N.ex, _, q.wk, q.env so.frz, r, g.str ((so.postF p).trans q) fun u H2 J2 W2 d2 q2 da2 r2 => ?_⟩
      have qq := q.trans q2
      have t := so.thaw p.wk qq
      obtain ⟨o1, o2, o3⟩ := t.out e2 e3 e4
      split at r2
      · split at r2
        · rename_i j n hn
          cases da2
          exact ⟨a, vs, _, n, rfl, rfl, o3, ixN_V e6 hn, own_put g (p.trans t) (so.behind t) hx e1 ((t.das e6).set n (so.da qq (q2.da da) nl)) r2⟩
        · exact r2.elim
      · exact r2.elim
    · exact h.elim
end
end L2.DL
namespace L2.DL
open PySem PySem.Spec PyProof.Rows

/-- ranges: nothing of the heap in them -/
abbrev tIR (C : Cfg) (Wx : WX) (w : WA') : TI := tG C Wx (fun _ _ items T => ∃ f n, T = Itf f n ∧ items = rngF f n) w
section
variable {X : Cx} {C : Cfg} {Wx : WX} {k : Nat} {st : Stmt} {rest : List Stmt} {e tg iter a b : Expr} {pos pos' p2 q0 : Pos} {we wa wb : WE'} {ws : WA'} {w1 w2 wbd : WS} {i : Nat} {x : Str} {wi : WA'} {p : Pt} {body : List Stmt}
theorem si_of_R (h : PI X tg e (tIR C Wx wi)) : PI X tg e (tI C Wx wi) := pi_imp h fun σ H R ⟨J, W, ρ, E, Qd, w, env, h, g⟩ =>
  ⟨J, W, ρ, E, Qd, w, env, h, fun T H' J' W' items p ⟨lo, n, e1, e2⟩ q => g.ok _ _ _ _ _ p (by subst e1; subst e2; exact it_rngF) q, g.ex⟩
theorem si_rng1R (hg : Gl X "range") (hm : X.mg "range" = none) (ha : PA X [a] (tAs C Wx ws)) (hs : isStar a = false) : PI X tg (.Call (.Name "range" q0) [a] [] pos) (tIR C Wx (wRng1 ws)) :=
  pi_imp (pi_range1 hg hm ha (star_one hs)) fun σ H R ⟨J, W, ρ, E, Qd, w, env, h, g⟩ => ⟨J, W, ρ, E, _, w, env, h, fun v H1 J1 W1 d p da q => by
    unfold iR1 at q
    split at q
    · obtain ⟨v, rfl, h⟩ := das1 da
      cases h
      exact ⟨_, rfl, q.1.1, q.1.2, g.ok _ _ _ _ _ p ⟨fun k => _ + (k : Int), _, rfl, rfl⟩ q.2⟩
    · exact q.elim, g.ex⟩
theorem si_rng2R (hg : Gl X "range") (hm : X.mg "range" = none) (ha : PA X [a, b] (tAs C Wx ws)) (hs : isStar a = false) (hs2 : isStar b = false) : PI X tg (.Call (.Name "range" q0) [a, b] [] pos) (tIR C Wx (wRng2 ws)) :=
  pi_imp (pi_range2 hg hm ha (by rw [star_one hs, star_one hs2]; rfl) (star_one hs2)) fun σ H R ⟨J, W, ρ, E, Qd, w, env, h, g⟩ => ⟨J, W, ρ, E, _, w, env, h, fun v H1 J1 W1 d p da q => by
    unfold iR2 at q
    split at q
    · obtain ⟨v, u, rfl, h, h'⟩ := das2 da
      cases h; cases h'
      exact ⟨_, _, rfl, q.1, g.ok _ _ _ _ _ p ⟨fun k => _ + (k : Int), _, rfl, rfl⟩ q.2⟩
    · exact q.elim, g.ex⟩
theorem si_rng3R {c : Expr} (hg : Gl X "range") (hm : X.mg "range" = none) (ha : PA X [a, b, c] (tAs C Wx ws)) (hs : isStar a = false) (hs2 : isStar b = false) (hs3 : isStar c = false) : PI X tg (.Call (.Name "range" q0) [a, b, c] [] pos) (tIR C Wx (wRng3 ws)) :=
  pi_imp (pi_range3 hg hm ha (by rw [star_one hs]) (by rw [star_one hs2, star_one hs3]; rfl)) fun σ H R ⟨J, W, ρ, E, Qd, w, env, h, g⟩ => ⟨J, W, ρ, E, _, w, env, h, fun v H1 J1 W1 d p da q => by
    unfold iR3 at q
    split at q
    · obtain ⟨v, r, rfl, h, h'⟩ := da
      obtain ⟨v2, r2, rfl, h2, h'⟩ := h'
      obtain ⟨v3, r3, rfl, h3, h'⟩ := h'
      cases h'
      cases h; cases h2; cases h3
      obtain ⟨⟨rfl, b1, b2, b3, b4⟩, q⟩ := q
      refine ⟨_, _, _, _, rfl, RgC.neg b1 b2 b3 b4, g.ok _ _ _ _ _ p ⟨fun k => _ + (k : Nat) * (-1), _, rfl, ?_⟩ q⟩
      unfold rngF
      exact List.map_congr_left fun k _ => by simp only [D.int.injEq]; omega
    · exact q.elim, g.ex⟩
/-! ### loops -/
open Classical in
/-- the heap without one's own lists -/
noncomputable def offH (ρ : EnvS) (σ : St) (H : Hp) : Hp := fun a => if Own ρ σ a then none else H a
theorem offH_own {ρ : EnvS} {σ : St} {H : Hp} {a : Addr} (h : Own ρ σ a) : offH ρ σ H a = none := by unfold offH; rw [if_pos h]
theorem offH_not {ρ : EnvS} {σ : St} {H : Hp} {a : Addr} (h : ¬ Own ρ σ a) : offH ρ σ H a = H a := by unfold offH; rw [if_neg h]
theorem SOk.down {J H0 Hb H : Hp} {W : Addr → Prop} {ρ : EnvS} {σ : St} (so : SOk C J W Hb H ρ σ) (h : ∀ a, Hb a = none → H0 a = none) : SOk C J W H0 H ρ σ where
  len := so.len
  im := so.im
  ow := fun i xs hi => by
    obtain ⟨a, vs, h1, h2, h3, h4, h5, h6⟩ := so.ow i xs hi
    exact ⟨a, vs, h1, h2, h3, h4, h _ h5, h6⟩
  ap := so.ap
section
variable {J H0 H : Hp} {W : Addr → Prop} {ρ : EnvS} {σ : St}
theorem SOk.offWk (so : SOk C J W H0 H ρ σ) (w : Wk C.tq J W H) : Wk C.tq J W (offH ρ σ H) where
  sub := fun a o h => by
    by_cases z : Own ρ σ a
    · obtain ⟨_, _, z2, _⟩ := so.own z
      rw [z2] at h; cases h
    · rw [offH_not z]; exact w.sub a o h
  well := fun a h => by
    have z : ¬ Own ρ σ a := fun z => (so.own z).elim fun _ q => q.2.2.1 h
    have := w.well a h
    rw [offH_not z]; exact this
  tab := w.tab
theorem SOk.offP {J0 : Hp} {W0 : Addr → Prop} (so : SOk C J W H0 H ρ σ) (p : Post C.tq J0 W0 H0 J W H) : Post C.tq J0 W0 H0 J W (offH ρ σ H) where
  ext := p.ext
  wk := so.offWk p.wk
  new := p.new
  keep := fun a o h n => by
    have z : ¬ Own ρ σ a := fun z => by
      obtain ⟨_, _, _, _, z2⟩ := so.own z
      rw [z2] at h; cases h
    rw [offH_not z]; exact p.keep a o h n
  wsub := p.wsub
  wnew := p.wnew
theorem SOk.offQ {J0 : Hp} {W0 : Addr → Prop} (so : SOk C J W H0 H ρ σ) (p : Post C.tq J0 W0 H0 J W H) : Post C.tq J W (offH ρ σ H) J W H where
  ext := Same.refl _
  wk := p.wk
  new := fun a o h => .inl h
  keep := fun a o h n => by
    by_cases z : Own ρ σ a
    · rw [offH_own z] at h; cases h
    · rw [offH_not z] at h; exact h
  wsub := fun a h => h
  wnew := fun a h => .inl h
theorem SOk.offS (so : SOk C J W H0 H ρ σ) : SOk C J W (offH ρ σ H) H ρ σ where
  len := so.len
  im := so.im
  ow := fun i xs hi => by
    obtain ⟨a, vs, h1, h2, h3, h4, h5, h6⟩ := so.ow i xs hi
    exact ⟨a, vs, h1, h2, h3, h4, offH_own ⟨i, xs, hi, h1⟩, h6⟩
  ap := so.ap
end
theorem GoS.base {J0 H0 J1 Hb : Hp} {W0 W1 : Addr → Prop} {N : En} {Dd : Ends} (g : GoS C Wx J0 W0 H0 N Dd) (p : Post C.tq J0 W0 H0 J1 W1 Hb) : GoS C Wx J1 W1 Hb N Dd where
  nx := fun σ H J W ρ q s h => g.nx σ H J W ρ (p.trans q) (s.down fun a z => p.there z) h
  bk := fun σ H J W ρ q s h => g.bk σ H J W ρ (p.trans q) (s.down fun a z => p.there z) h
  ct := fun σ H J W ρ q s h => g.ct σ H J W ρ (p.trans q) (s.down fun a z => p.there z) h
  rt := fun v H J W d q s h => g.rt v H J W d (p.trans q) s h
  ex := fun x cls dd σ H J W q s h => g.ex x cls dd σ H J W (p.trans q) s h
/-- the turns of a loop -/
theorem for_turns {J0 H0 J1 H1 : Hp} {W0 W1 : Addr → Prop} {ρ : EnvS} {σ : St} {N : En} {Dd : Ends} {T : It} {items : List D} (g0 : GoS C Wx J0 W0 H0 N Dd)
    (hIt : ItOk C T J1 W1 items) (p0 : Post C.tq J0 W0 H0 J1 W1 H1) (so : SOk C J1 W1 H0 H1 ρ σ) (h : wForL p wbd items ρ N) :
    ∃ W : Nat → Nat → St → Hp → Prop, (∃ m, W 0 m σ H1) ∧ ∀ i m σ H, W i m σ H →
      (T.stop i H ∧ Dd.nx σ H) ∨ (T.go i H ∧ ∃ N' : St → Hp → Prop, (∀ σ' H', N' σ' H' → ∃ m', m' < m ∧ W (i + 1) m' σ' H') ∧ ∀ x H', T.yld i H x H' → gD C p x σ H' fun σ2 H2 => tS C Wx wbd { Dd with nx := N', ct := N', bk := Dd.nx } σ2 H2) := by
  have g := g0.base (so.offP p0)
  have hq := so.offQ p0
  have hs := so.offS
  generalize offH ρ σ H1 = Hb at g hq hs
  refine ⟨fun i m σ H => m = items.length - i ∧ i ≤ items.length ∧ ∃ J' W' ρ', Post C.tq J1 W1 Hb J' W' H ∧ SOk C J' W' Hb H ρ' σ ∧ wForL p wbd (items.drop i) ρ' N, ⟨items.length, by simp, Nat.zero_le _, J1, W1, ρ, hq, hs, h⟩, ?_⟩
  rintro i m σ H ⟨rfl, hi, J', W', ρ', q, s, hw⟩
  by_cases hlt : i < items.length
  · obtain ⟨go, yl⟩ := hIt.go i J' W' H q.ext q.wsub q.wk hlt
    refine .inr ⟨go, fun σ' H' => i + 1 ≤ items.length ∧ ∃ J' W' ρ', Post C.tq J1 W1 Hb J' W' H' ∧ SOk C J' W' Hb H' ρ' σ' ∧ wForL p wbd (items.drop (i + 1)) ρ' N, fun σ' H' n => ⟨items.length - (i + 1), by omega, rfl, n.1, n.2⟩, fun x H'' y => ?_⟩
    obtain ⟨d, J2, hd, p2, da⟩ := yl x H'' y
    rw [drop_one hd] at hw
    unfold wForL at hw
    split at hw
    · rename_i bs hb
      refine ⟨J2, W', d, bs, p2.wk, da, hb, fun σ2 b2 => ⟨J1, W1, Hb, J2, W', _, _, q.trans p2, (s.behind p2).bound b2, hw, ?_⟩⟩
      exact ⟨fun σ3 H3 J3 W3 ρ3 q3 s3 z => ⟨hlt, J3, W3, ρ3, q3, s3, z⟩, fun σ3 H3 J3 W3 ρ3 q3 s3 z => g.nx σ3 H3 J3 W3 ρ3 q3 s3 z, fun σ3 H3 J3 W3 ρ3 q3 s3 z => ⟨hlt, J3, W3, ρ3, q3, s3, z⟩, g.rt, g.ex⟩
    · exact hw.elim
  · have e : i = items.length := by omega
    subst e
    rw [List.drop_length] at hw
    exact .inl ⟨hIt.stop J' W' H q.ext q.wk, g.nx σ H J' W' ρ' q s hw⟩
theorem ss_for (T : CtxS X C Wx k) (hi : PI X tg iter (tI C Wx wi)) (hg : PG X tg (gD C p)) (hb : PSs X body (tS C Wx wbd)) (hs : ∀ x, foldedSetIterable iter X.env x = pure x) : PS X (.For tg iter body [] pos) (tS C Wx (wFor p wi wbd)) :=
  ps_imp (ps_for T.po T.calm hi hg hb hs) fun Dd σ H ⟨J0, W0, H0, J, W, ρ, N, q, so, h, g⟩ =>
    ⟨J, W, strE ρ, N.ex, _, q.wk, so.str, h, g.str q fun It0 H1 J1 W1 items p1 hIt r => for_turns g hIt (q.trans p1) (so.behind p1) r⟩
theorem ss_forR (T : CtxS X C Wx k) (hi : PI X tg iter (tIR C Wx wi)) (hg : PG X tg (gD C p)) (hb : PSs X body (tS C Wx wbd)) (hs : ∀ x, foldedSetIterable iter X.env x = pure x) : PS X (.For tg iter body [] pos) (tS C Wx (wForR p wi wbd)) :=
  ps_imp (ps_for T.po T.calm hi hg hb hs) fun Dd σ H ⟨J0, W0, H0, J, W, ρ, N, q, so, h, g⟩ =>
    ⟨frzJ J ρ σ H, W, frzE ρ, N.ex, _, so.wkF q.wk, so.frz, h, g.str (so.postF q) fun It0 H1 J1 W1 items p1 ⟨lo, n, e1, e2⟩ r => by
      subst e1; subst e2
      have t := so.thaw q.wk p1
      exact for_turns g it_rngF (q.trans t) (so.behind t) r⟩
theorem ss_while {c : Expr} {tc : WT'} (T : CtxS X C Wx k) (hc : PT X c (tT C Wx tc)) (hb : PSs X body (tS C Wx wbd)) : PS X (.While c body [] pos) (tS C Wx (wWh tc wbd)) :=
  ps_imp (ps_while T.po hc hb) fun Dd σ H ⟨J0, W0, H0, J, W, ρ, N, q, so, ⟨n, h⟩, g⟩ => by
    refine ⟨fun m σ H => ∃ J W ρ, Post C.tq J0 W0 H0 J W H ∧ SOk C J W H0 H ρ σ ∧ wWhN tc wbd m ρ N, ⟨n, J, W, ρ, q, so, h⟩, ?_⟩
    rintro m σ H ⟨J, W, ρ, q, so, h⟩
    cases m with
    | zero => exact h.elim
    | succ m =>
      refine ⟨frzJ J ρ σ H, W, frzE ρ, N.ex, _, so.wkF q.wk, so.frz, h, g.str (so.postF q) fun v H' J' W' d p1 da r => ?_⟩
      cases da
      have t := so.thaw q.wk p1
      cases v with
      | true => exact iteT ⟨fun σ' H' => ∃ J W ρ, Post C.tq J0 W0 H0 J W H' ∧ SOk C J W H0 H' ρ σ' ∧ wWhN tc wbd m ρ N, fun σ' H' z => ⟨m, Nat.lt_succ_self _, z⟩, J0, W0, H0, _, W', ρ, _, q.trans t, so.behind t, r,
          ⟨fun σ3 H3 J3 W3 ρ3 q3 s3 z => ⟨J3, W3, ρ3, q3, s3, z⟩, fun σ3 H3 J3 W3 ρ3 q3 s3 z => g.nx σ3 H3 J3 W3 ρ3 q3 s3 z, fun σ3 H3 J3 W3 ρ3 q3 s3 z => ⟨J3, W3, ρ3, q3, s3, z⟩, g.rt, g.ex⟩⟩
      | false => exact iteF (g.nx σ H' _ W' ρ (q.trans t) (so.behind t) r)
end
end L2.DL
namespace L2.DL
open PySem PySem.Spec PyProof.Rows

/-! ### lists of comprehensions as one's own -/
def wOwnC2 (i : Nat) (vs vs1 : List Nat) (wi : WA') (p : Pt) (tt : WT') (wi1 : WA') (p1 : Pt) (tt1 : WT') (te : WE') : WS := fun ρ N => wi (strE ρ) N.ex fun items => wTurns p tt (bIn vs1 wi1 p1 tt1 te) (wipeE (strE ρ) vs) items [] fun acc => N.nx (ρ.set i (.ow acc))
section
variable {X : Cx} {C : Cfg} {Wx : WX} {k : Nat} {e tg iter elt tg1 iter1 a b : Expr} {ifs ifs1 : List Expr} {pos pos' p2 p3 q0 spos : Pos} {we wa wb te : WE'} {ws : WA'} {i : Nat} {x : Str} {wi wi1 : WA'} {p pp1 : Pt} {tt tt1 : WT'} {scope : Scope} {own : List (Str × Nat)} {vs1 : List Nat}
theorem own_of {J J' H H' J0 H0 : Hp} {W W' W0 : Addr → Prop} {ρ : EnvS} {σ : St} {l : Addr} {xs : List D} {vs : List V} {N : En} {Dd : Ends} (g : GoS C Wx J0 W0 H0 N Dd) (p : Post C.tq J0 W0 H0 J W H) (so : SOk C J W H0 H ρ σ) (q : Post C.tq J W H J' W' H') (h0 : H l = none) (hl : H' l = some (.lst vs)) (n1 : J' l = none) (n2 : ¬ W' l)
    (da : DAs C J' W' xs vs) (h : N.nx (ρ.set i (.ow xs))) : Dd.nx (σ.set i (some (.ref l))) H' :=
  g.nx _ _ J' W' _ (p.trans q) ((so.behind q).setOw hl n1 n2 (p.there h0) da (fun z => by
    obtain ⟨us, z1, _⟩ := so.own z
    rw [z1] at h0; cases h0)) h
theorem und_own {J J1 J' H H1 H' J0 H0 : Hp} {W W1 W' W0 : Addr → Prop} {ρ : EnvS} {σ : St} {D0 : Addr} {acc : List D} {N : En} {Dd : Ends} (g : GoS C Wx J0 W0 H0 N Dd) (p : Post C.tq J0 W0 H0 J W H) (so : SOk C J W H0 H ρ σ) (p1 : Post C.tq J W H J1 W1 H1) (h0 : H1 D0 = none) (u : Und C J1 W1 H1 D0 acc J' W' H') (h : N.nx (ρ.set i (.ow acc))) : gName i (.ref D0) σ H' Dd.nx := by
  obtain ⟨u1, u2, u3, vs, u4, u5⟩ := u
  exact own_of g p so (p1.trans u1) (p1.there h0) u4 u2 u3 u5 h
theorem und_im {J J1 J' H H1 H' J0 H0 : Hp} {W W1 W' W0 : Addr → Prop} {ρ : EnvS} {σ : St} {D0 : Addr} {acc : List D} {N : En} {Dd : Ends} (g : GoS C Wx J0 W0 H0 N Dd) (p : Post C.tq J0 W0 H0 J W H) (so : SOk C J W H0 H ρ σ) (p1 : Post C.tq J W H J1 W1 H1) (h0 : H1 D0 = none) (u : Und C J1 W1 H1 D0 acc J' W' H') (h : N.nx (ρ.set i (.im (.lst acc)))) : gName i (.ref D0) σ H' Dd.nx := by
  obtain ⟨J3, p3, d3⟩ := u.done h0
  exact g.nx _ _ J3 W' _ (p.trans (p1.trans p3)) ((so.behind (p1.trans p3)).setIm d3) h
abbrev BlkPG (X : Cx) (scope : Scope) (tg : Expr) (g : TG) : Prop := ∀ (s : Shared) (H : Hp) (Ca : Addr) (cl : List (Str × Addr)) (fp : List Addr), PG (X.blk s H scope (compEnvC scope cl Ca X.env) fp) tg g
abbrev BlkPTs (X : Cx) (scope : Scope) (ifs : List Expr) (t : TT) : Prop := ∀ (s : Shared) (H : Hp) (Ca : Addr) (cl : List (Str × Addr)) (fp : List Addr), PTs (X.blk s H scope (compEnvC scope cl Ca X.env) fp) ifs t
abbrev BlkPE (X : Cx) (scope : Scope) (e : Expr) (t : TE) : Prop := ∀ (s : Shared) (H : Hp) (Ca : Addr) (cl : List (Str × Addr)) (fp : List Addr), PE (X.blk s H scope (compEnvC scope cl Ca X.env) fp) e t
abbrev BlkPI (X : Cx) (scope : Scope) (tg iter : Expr) (t : TI) : Prop := ∀ (s : Shared) (H : Hp) (Ca : Addr) (cl : List (Str × Addr)) (fp : List Addr), PI (X.blk s H scope (compEnvC scope cl Ca X.env) fp) tg iter t
/-- what a clause of a comprehension needs -/
structure LcOk (X : Cx) (C : Cfg) (Wx : WX) (k : Nat) (elt tg iter : Expr) (ifs : List Expr) (scope : Scope) (own : List (Str × Nat)) (wi : WA') (p : Pt) (tt : WT') (te : WE') : Prop where
  hi : PI X tg iter (tI C Wx wi)
  ok : BlkOk X.N X.env.scope scope own
  hg : BlkPG X scope tg (gD C p)
  ht : BlkPTs X scope ifs (tT C noWx tt)
  he : BlkPE X scope elt (tE C noWx te)
  hs : ∀ x, foldedSetIterable iter X.env x = pure x
  hv : ∀ i ∈ pvars p, i ∈ own.map (·.2)
structure Lc2Ok (X : Cx) (C : Cfg) (Wx : WX) (k : Nat) (elt tg iter tg1 iter1 : Expr) (ifs ifs1 : List Expr) (scope : Scope) (own : List (Str × Nat)) (vs1 : List Nat) (wi : WA') (p : Pt) (tt : WT') (wi1 : WA') (pp1 : Pt) (tt1 : WT') (te : WE') : Prop extends LcOk X C Wx k elt tg iter ifs scope own wi p tt te where
  hv1 : ∀ i ∈ vs1, i ∈ own.map (·.2)
  hi1 : BlkPI X scope tg1 iter1 (tI C noWx wi1)
  hg1 : BlkPG X scope tg1 (gD C pp1)
  ht1 : BlkPTs X scope ifs1 (tT C noWx tt1)
  hs1 : ∀ env x, foldedSetIterable iter1 env x = pure x
  hv2 : ∀ i ∈ pvars pp1, i ∈ vs1
theorem se_lc (T : Ctx X C Wx k) (L : LcOk X C Wx k elt tg iter ifs scope own wi p tt te) : PE X (.ListComp elt [⟨tg, iter, ifs, 0⟩] scope pos) (tE C Wx (wComp (own.map (·.2)) wi p tt te)) := se_comp T L.hi L.ok L.hg L.ht L.he L.hs L.hv
theorem se_lc2 (T : Ctx X C Wx k) (L : Lc2Ok X C Wx k elt tg iter tg1 iter1 ifs ifs1 scope own vs1 wi p tt wi1 pp1 tt1 te) : PE X (.ListComp elt [⟨tg, iter, ifs, 0⟩, ⟨tg1, iter1, ifs1, 0⟩] scope pos) (tE C Wx (wComp2 (own.map (·.2)) vs1 wi p tt wi1 pp1 tt1 te)) :=
  se_comp2 T L.hi L.ok L.hv1 L.hg L.ht L.hi1 L.hg1 L.ht1 L.he L.hs L.hs1 L.hv L.hv2
theorem lc_run (T : Ctx X C Wx k) (L : LcOk X C Wx k elt tg iter ifs scope own wi p tt te) : PE X (.ListComp elt [⟨tg, iter, ifs, 0⟩] scope pos) (tLc (tI C Wx wi) (gD C p) (tT C noWx tt) (tE C noWx te) (own.map (·.2))) := pe_lc T.calm T.nd L.hi L.ok L.hg L.ht L.he L.hs
theorem lc2_run (T : Ctx X C Wx k) (L : Lc2Ok X C Wx k elt tg iter tg1 iter1 ifs ifs1 scope own vs1 wi p tt wi1 pp1 tt1 te) : PE X (.ListComp elt [⟨tg, iter, ifs, 0⟩, ⟨tg1, iter1, ifs1, 0⟩] scope pos) (tLc2 (tI C Wx wi) (gD C p) (tT C noWx tt) (tI C noWx wi1) (gD C pp1) (tT C noWx tt1) (tE C noWx te) (own.map (·.2)) vs1) :=
  pe_lc2 T.calm T.nd L.hi L.ok L.hv1 L.hg L.ht L.hi1 L.hg1 L.ht1 L.he L.hs L.hs1
theorem lcS (T : Ctx X C Wx k) (hi : X.N[i]? = some x) (hx : Loc X.env.scope x) (hf : X.fn x = true ∨ X.env.scope.names.lookup x = some .local) (L : LcOk X C Wx k elt tg iter ifs scope own wi p tt te)
    (hw : (swapsWith (.ListComp elt [⟨tg, iter, ifs, 0⟩] scope pos) (some (.Name x pos')) spos.line X.env = pure true ∧ X.env.scope.names.lookup x = some .local) ∨ swapsWith (.ListComp elt [⟨tg, iter, ifs, 0⟩] scope pos) (some (.Name x pos')) spos.line X.env = pure false) :
    PS X (.Assign [.Name x pos'] (.ListComp elt [⟨tg, iter, ifs, 0⟩] scope pos) spos) (tAsg (tLc (tI C Wx wi) (gD C p) (tT C noWx tt) (tE C noWx te) (own.map (·.2))) (gName i)) := by
  rcases hw with ⟨h, hl⟩ | h
  · exact ps_setLc T.calm T.nd hi hl h L.hi L.ok L.hg L.ht L.he L.hs
  · exact ps_set T.nd hi hx (lc_run T L) h hf
theorem lc2S (T : Ctx X C Wx k) (hi : X.N[i]? = some x) (hx : Loc X.env.scope x) (hf : X.fn x = true ∨ X.env.scope.names.lookup x = some .local) (L : Lc2Ok X C Wx k elt tg iter tg1 iter1 ifs ifs1 scope own vs1 wi p tt wi1 pp1 tt1 te)
    (hw : (swapsWith (.ListComp elt [⟨tg, iter, ifs, 0⟩, ⟨tg1, iter1, ifs1, 0⟩] scope pos) (some (.Name x pos')) spos.line X.env = pure true ∧ X.env.scope.names.lookup x = some .local) ∨ swapsWith (.ListComp elt [⟨tg, iter, ifs, 0⟩, ⟨tg1, iter1, ifs1, 0⟩] scope pos) (some (.Name x pos')) spos.line X.env = pure false) :
    PS X (.Assign [.Name x pos'] (.ListComp elt [⟨tg, iter, ifs, 0⟩, ⟨tg1, iter1, ifs1, 0⟩] scope pos) spos) (tAsg (tLc2 (tI C Wx wi) (gD C p) (tT C noWx tt) (tI C noWx wi1) (gD C pp1) (tT C noWx tt1) (tE C noWx te) (own.map (·.2)) vs1) (gName i)) := by
  rcases hw with ⟨h, hl⟩ | h
  · exact ps_setLc2 T.calm T.nd hi hl h L.hi L.ok L.hv1 L.hg L.ht L.hi1 L.hg1 L.ht1 L.he L.hs L.hs1
  · exact ps_set T.nd hi hx (lc2_run T L) h hf
theorem set_im {ρ : EnvS} {d : D} : setS ρ [(i, d)] = ρ.set i (.im d) := rfl
section
variable (T : Ctx X C Wx k) (hi : X.N[i]? = some x) (hx : Loc X.env.scope x) (hf : X.fn x = true ∨ X.env.scope.names.lookup x = some .local)
include T hi hx hf
theorem ss_ownC (L : LcOk X C Wx k elt tg iter ifs scope own wi p tt te)
    (hw : (swapsWith (.ListComp elt [⟨tg, iter, ifs, 0⟩] scope pos) (some (.Name x pos')) spos.line X.env = pure true ∧ X.env.scope.names.lookup x = some .local) ∨ swapsWith (.ListComp elt [⟨tg, iter, ifs, 0⟩] scope pos) (some (.Name x pos')) spos.line X.env = pure false) :
    PS X (.Assign [.Name x pos'] (.ListComp elt [⟨tg, iter, ifs, 0⟩] scope pos) spos) (tS C Wx (wOwnC i (own.map (·.2)) wi p tt te)) :=
  ps_imp (lcS T hi hx hf L hw) fun Dd σ H ⟨J0, W0, H0, J, W, ρ, N, q, so, h, g⟩ => lc_imp L.hv q.wk so.str h (g.str q (R := fun _ _ (_ : Unit) (_ : Unit) => False) (Qd := fun _ => False) (Q := fun _ _ => False) fun _ _ _ _ _ _ z => z.elim).ex fun D0 H1 J1 W1 H' acc J' W' p1 h0 u r => und_own g q so p1 h0 u r
theorem ss_ownC2 (L : Lc2Ok X C Wx k elt tg iter tg1 iter1 ifs ifs1 scope own vs1 wi p tt wi1 pp1 tt1 te)
    (hw : (swapsWith (.ListComp elt [⟨tg, iter, ifs, 0⟩, ⟨tg1, iter1, ifs1, 0⟩] scope pos) (some (.Name x pos')) spos.line X.env = pure true ∧ X.env.scope.names.lookup x = some .local) ∨ swapsWith (.ListComp elt [⟨tg, iter, ifs, 0⟩, ⟨tg1, iter1, ifs1, 0⟩] scope pos) (some (.Name x pos')) spos.line X.env = pure false) :
    PS X (.Assign [.Name x pos'] (.ListComp elt [⟨tg, iter, ifs, 0⟩, ⟨tg1, iter1, ifs1, 0⟩] scope pos) spos) (tS C Wx (wOwnC2 i (own.map (·.2)) vs1 wi p tt wi1 pp1 tt1 te)) :=
  ps_imp (lc2S T hi hx hf L hw) fun Dd σ H ⟨J0, W0, H0, J, W, ρ, N, q, so, h, g⟩ => lc2_imp L.hv L.hv2 q.wk so.str h (g.str q (R := fun _ _ (_ : Unit) (_ : Unit) => False) (Qd := fun _ => False) (Q := fun _ _ => False) fun _ _ _ _ _ _ z => z.elim).ex fun D0 H1 J1 W1 H' acc J' W' p1 h0 u r => und_own g q so p1 h0 u r
/-- told as a value -/
theorem ss_asgC (L : LcOk X C Wx k elt tg iter ifs scope own wi p tt te)
    (hw : (swapsWith (.ListComp elt [⟨tg, iter, ifs, 0⟩] scope pos) (some (.Name x pos')) spos.line X.env = pure true ∧ X.env.scope.names.lookup x = some .local) ∨ swapsWith (.ListComp elt [⟨tg, iter, ifs, 0⟩] scope pos) (some (.Name x pos')) spos.line X.env = pure false) :
    PS X (.Assign [.Name x pos'] (.ListComp elt [⟨tg, iter, ifs, 0⟩] scope pos) spos) (tS C Wx (wAsg (.nm i) (wComp (own.map (·.2)) wi p tt te))) :=
  ps_imp (lcS T hi hx hf L hw) fun Dd σ H ⟨J0, W0, H0, J, W, ρ, N, q, so, h, g⟩ => lc_imp L.hv q.wk so.str h (g.str q (R := fun _ _ (_ : Unit) (_ : Unit) => False) (Qd := fun _ => False) (Q := fun _ _ => False) fun _ _ _ _ _ _ z => z.elim).ex fun D0 H1 J1 W1 H' acc J' W' p1 h0 u r => und_im g q so p1 h0 u r
theorem ss_asgC2 (L : Lc2Ok X C Wx k elt tg iter tg1 iter1 ifs ifs1 scope own vs1 wi p tt wi1 pp1 tt1 te)
    (hw : (swapsWith (.ListComp elt [⟨tg, iter, ifs, 0⟩, ⟨tg1, iter1, ifs1, 0⟩] scope pos) (some (.Name x pos')) spos.line X.env = pure true ∧ X.env.scope.names.lookup x = some .local) ∨ swapsWith (.ListComp elt [⟨tg, iter, ifs, 0⟩, ⟨tg1, iter1, ifs1, 0⟩] scope pos) (some (.Name x pos')) spos.line X.env = pure false) :
    PS X (.Assign [.Name x pos'] (.ListComp elt [⟨tg, iter, ifs, 0⟩, ⟨tg1, iter1, ifs1, 0⟩] scope pos) spos) (tS C Wx (wAsg (.nm i) (wComp2 (own.map (·.2)) vs1 wi p tt wi1 pp1 tt1 te))) :=
  ps_imp (lc2S T hi hx hf L hw) fun Dd σ H ⟨J0, W0, H0, J, W, ρ, N, q, so, h, g⟩ => lc2_imp L.hv L.hv2 q.wk so.str h (g.str q (R := fun _ _ (_ : Unit) (_ : Unit) => False) (Qd := fun _ => False) (Q := fun _ _ => False) fun _ _ _ _ _ _ z => z.elim).ex fun D0 H1 J1 W1 H' acc J' W' p1 h0 u r => und_im g q so p1 h0 u r
end
end
end L2.DL
namespace L2.DL
open PySem PySem.Spec PyProof.Rows

/-! ### a, b = x, y -/
def SlsOk (C : Cfg) (J : Hp) (W : Addr → Prop) (H0 H : Hp) : List Sl → List V → Prop
  | [], vs => vs = []
  | .no :: _, _ => False
  | .im d :: r, vs => ∃ v vr, vs = v :: vr ∧ DA C J W d v ∧ SlsOk C J W H0 H r vr
  | .ow xs :: r, vs => ∃ a us vr, vs = .ref a :: vr ∧ H a = some (.lst us) ∧ J a = none ∧ ¬ W a ∧ H0 a = none ∧ DAs C J W xs us ∧ (∀ (j : Nat) (ys : List D), r[j]? = some (Sl.ow ys) → vr[j]? ≠ some (V.ref a)) ∧ SlsOk C J W H0 H r vr
section
variable {C : Cfg} {J J' H0 Hb H H' : Hp} {W W' : Addr → Prop}
theorem SlsOk.behind (p : Post C.tq J W H J' W' H') : ∀ {ss : List Sl} {vs : List V}, SlsOk C J W H0 H ss vs → SlsOk C J' W' H0 H' ss vs
  | [], _, h => h
  | .no :: _, _, h => h.elim
  | .im d :: r, _, ⟨v, vr, e, da, h⟩ => ⟨v, vr, e, p.da da, SlsOk.behind p h⟩
  | .ow xs :: r, _, ⟨a, us, vr, e, h1, h2, h3, h4, h5, h6, h⟩ => by
    obtain ⟨o1, o2, o3⟩ := p.out h1 h2 h3
    exact ⟨a, us, vr, e, o3, o1, o2, h4, p.das h5, h6, SlsOk.behind p h⟩
theorem SlsOk.down (q : ∀ a, Hb a = none → H0 a = none) : ∀ {ss : List Sl} {vs : List V}, SlsOk C J W Hb H ss vs → SlsOk C J W H0 H ss vs
  | [], _, h => h
  | .no :: _, _, h => h.elim
  | .im d :: r, _, ⟨v, vr, e, da, h⟩ => ⟨v, vr, e, da, SlsOk.down q h⟩
  | .ow xs :: r, _, ⟨a, us, vr, e, h1, h2, h3, h4, h5, h6, h⟩ => ⟨a, us, vr, e, h1, h2, h3, q _ h4, h5, h6, SlsOk.down q h⟩
theorem SlsOk.length : ∀ {ss : List Sl} {vs : List V}, SlsOk C J W H0 H ss vs → vs.length = ss.length
  | [], _, h => by cases h; rfl
  | .no :: _, _, h => h.elim
  | .im d :: r, _, ⟨v, vr, e, da, h⟩ => by subst e; simp [SlsOk.length h]
  | .ow xs :: r, _, ⟨a, us, vr, e, h1, h2, h3, h4, h5, h6, h⟩ => by subst e; simp [SlsOk.length h]
theorem SlsOk.at : ∀ {ss : List Sl} {vs : List V}, SlsOk C J W H0 H ss vs → ∀ {j : Nat} {xs : List D}, ss[j]? = some (.ow xs) → ∃ a, vs[j]? = some (.ref a) ∧ H0 a = none
  | [], _, _, _, _, e => by cases e
  | .no :: _, _, h, _, _, _ => h.elim
  | .im d :: r, _, ⟨v, vr, e, da, h⟩, j, xs, ej => by
    subst e
    cases j with
    | zero => cases ej
    | succ j => exact SlsOk.at h (j := j) (by simpa using ej)
  | .ow ys :: r, _, ⟨a, us, vr, e, h1, h2, h3, h4, h5, h6, h⟩, j, xs, ej => by
    subst e
    cases j with
    | zero => exact ⟨a, rfl, h4⟩
    | succ j => exact SlsOk.at h (j := j) (by simpa using ej)
def setP (ρ : EnvS) : List Nat → List Sl → EnvS
  | i :: is, s :: ss => setP (ρ.set i s) is ss
  | _, _ => ρ
def setV (σ : St) : List Nat → List V → St
  | i :: is, v :: vs => setV (σ.set i (some v)) is vs
  | _, _ => σ
theorem own_set {ρ : EnvS} {σ : St} {i : Nat} {s : Sl} {v : V} {a : Addr} (h : Own (ρ.set i s) (σ.set i (some v)) a) : ((∃ xs, s = .ow xs) ∧ v = .ref a) ∨ Own ρ σ a := by
  obtain ⟨j, xs, h1, h2⟩ := h
  rcases gS_set h1 with ⟨rfl, e1, hi⟩ | ⟨ne, x⟩
  · by_cases hj : j < σ.length
    · rw [List.getElem?_set_self hj] at h2
      exact .inl ⟨⟨xs, e1.symm⟩, Option.some.inj (Option.some.inj h2)⟩
    · rw [List.getElem?_eq_none (by simpa using hj)] at h2; cases h2
  · rw [List.getElem?_set_ne (Ne.symm ne)] at h2
    exact .inr ⟨j, xs, x, h2⟩
theorem par_sok : ∀ {is : List Nat} {ss : List Sl} {vs : List V} {ρ : EnvS} {σ : St}, SOk C J W H0 H ρ σ → SlsOk C J W Hb H ss vs → (∀ a, Hb a = none → H0 a = none) → (∀ (j : Nat) (xs : List D) (a : Addr), ss[j]? = some (Sl.ow xs) → vs[j]? = some (V.ref a) → ¬ Own ρ σ a) →
    SOk C J W H0 H (setP ρ is ss) (setV σ is vs)
  | [], ss, vs, _, _, so, _, _, _ => by
    cases ss <;> cases vs <;> exact so
  | i :: is, [], vs, _, _, so, h, _, _ => by
    cases h; exact so
  | i :: is, .no :: _, vs, _, _, so, h, _, _ => h.elim
  | i :: is, .im d :: r, _, ρ, σ, so, ⟨v, vr, e, da, h⟩, q, no => by
    subst e
    refine par_sok (is := is) (so.setIm (i := i) da) h q fun j xs a h1 h2 z => ?_
    rcases own_set z with ⟨⟨_, e⟩, _⟩ | z
    · cases e
    · exact no (j + 1) xs a (by simpa using h1) (by simpa using h2) z
  | i :: is, .ow ys :: r, _, ρ, σ, so, ⟨a, us, vr, e, h1, h2, h3, h4, h5, h6, h⟩, q, no => by
    subst e
    refine par_sok (is := is) (so.setOw (i := i) h1 h2 h3 (q _ h4) h5 (no 0 ys a rfl rfl)) h q fun j xs b e1 e2 z => ?_
    rcases own_set z with ⟨_, e⟩ | z
    · cases e
      exact h6 j xs e1 e2
    · exact no (j + 1) xs b (by simpa using e1) (by simpa using e2) z
end
abbrev WP := Env' → (Exc → Prop) → (List Sl → Prop) → Prop
def wPnil : WP := fun _ _ Q => Q []
def wPim (a : WE') (r : WP) : WP := fun ρ E Q => a ρ E fun d => r ρ E fun ss => Q (.im d :: ss)
def wPow (a : WA') (r : WP) : WP := fun ρ E Q => a ρ E fun ds => ds.length ≤ LIM ∧ r ρ E fun ss => Q (.ow ds :: ss)
def tP (C : Cfg) (Wx : WX) (w : WP) : TA := fun σ H Q => ∃ H0 J W ρ E Qd, Wk C.tq J W H ∧ (∀ a, H a = none → H0 a = none) ∧ EnvOk C J W ρ σ ∧ w ρ E Qd ∧
  (∀ vs H' J' W' ss, Post C.tq J W H J' W' H' → SlsOk C J' W' H0 H' ss vs → Qd ss → Q vs H') ∧ (∀ x cls d H' J' W', Post C.tq J W H J' W' H' → ExD C x cls d J' W' H' → E x → Wx cls d σ H')
section
variable {X : Cx} {C : Cfg} {Wx : WX} {k : Nat} {e a b c : Expr} {es r : List Expr} {pos px py pz pt p2 : Pos} {we : WE'} {ws : WA'} {wr : WP} {i j l : Nat} {x y z : Str} {kt k2 : Nat}
theorem sp_nil : PA X [] (tP C Wx wPnil) := pa_imp pa_nil fun σ H Q ⟨H0, J, W, ρ, E, Qd, w, hn, env, h, ok, ex⟩ => ok [] H J W [] (Post.refl w) rfl h
theorem sp_im (he : PE X e (tE C Wx we)) (hr : PA X r (tP C Wx wr)) (hs : isStar e = false) : PA X (e :: r) (tP C Wx (wPim we wr)) :=
  pa_imp (pa_cons he hr (star_one hs)) fun σ H Q ⟨H0, J, W, ρ, E, Qd, w, hn, env, h, ok, ex⟩ =>
    ⟨J, W, ρ, E, _, w, env, h, fun v H1 J1 W1 d p da q => ⟨H0, J1, W1, ρ, E, _, p.wk, fun a z => hn a (p.there z), p.env env, q, fun vs H2 J2 W2 ss p2 so q2 => ok _ _ _ _ (.im d :: ss) (p.trans p2) ⟨v, vs, rfl, p2.da da, so⟩ q2, fun x cls dd H' J' W' p2 xd q2 => ex x cls dd H' J' W' (p.trans p2) xd q2⟩, ex⟩
theorem sp_ow (ha : PA X es (tAs C Wx ws)) (hr : PA X r (tP C Wx wr)) : PA X (.List es p2 :: r) (tP C Wx (wPow ws wr)) :=
  pa_imp (pa_cons (pe_lst ha) hr rfl) fun σ H Q ⟨H0, J, W, ρ, E, Qd, w, hn, env, h, ok, ex⟩ =>
    ⟨J, W, ρ, E, _, w, env, h, fun us H1 J1 W1 ds p da q => ⟨by rw [da.length, ← lim_line]; exact q.1, fun l hl => by
      obtain ⟨n1, n2⟩ := wk_none p.wk hl
      have pk : Post C.tq J1 W1 H1 J1 W1 (upd H1 l (.lst us)) := (Post.refl p.wk).poke hl n1 n2
      have pp := p.trans pk
      refine ⟨upd H1 l (.lst us), J1, W1, ρ, E, _, pk.wk, fun _ z => z, pp.env env, q.2, fun vs H2 J2 W2 ss p2 so q2 => ?_, fun x cls dd H' J' W' p2 xd q2 => ex x cls dd H' J' W' (pp.trans p2) xd q2⟩
      have hd : ∀ a, upd H1 l (.lst us) a = none → H0 a = none := fun a z => hn a (pp.there z)
      obtain ⟨o1, o2, o3⟩ := p2.out (a := l) upd_same n1 n2
      refine ok _ _ _ _ (.ow ds :: ss) (pp.trans p2) ⟨l, us, vs, rfl, o3, o1, o2, hn l (p.there hl), p2.das da, fun j ys e1 e2 => ?_, so.down hd⟩ q2
      obtain ⟨b, e3, e4⟩ := so.at e1
      rw [e2] at e3
      cases e3
      rw [upd_same] at e4
      cases e4⟩, ex⟩
def wPowM (a b : WE') (r : WP) : WP := fun ρ E Q => a ρ E fun x => b ρ E fun y => match x, y with
  | .lst xs, .int k => (-(2 ^ 63) ≤ k ∧ k < 2 ^ 63 ∧ xs.length * k.toNat ≤ LIM) ∧ r ρ E fun ss => Q (.ow (List.replicate k.toNat xs).flatten :: ss)
  | _, _ => False
theorem sp_owM {wa wb : WE'} (ha : PE X a (tE C Wx wa)) (hb : PE X b (tE C Wx wb)) (hr : PA X r (tP C Wx wr)) : PA X (.BinOp a .Mult b p2 :: r) (tP C Wx (wPowM wa wb wr)) :=
  pa_imp (pa_cons (pe_op op_rep ha hb) hr rfl) fun σ H Q ⟨H0, J, W, ρ, E, Qd, w, hn, env, h, ok, ex⟩ =>
    ⟨J, W, ρ, E, _, w, env, h, fun v H0' J0' W0' d p0 da0 q0 => ⟨J0', W0', ρ, E, _, p0.wk, p0.env env, q0, fun v2 H1 J1 W1 d2 p1 da2 q => by
      have p := p0.trans p1
      have da' := p1.da da0
      split at q
      · rename_i xs kk
        obtain ⟨a, us0, rfl, h2, h3⟩ := da'
        cases da2
        refine ⟨a, _, us0, rfl, rfl, p1.wk.sub _ _ h2, q.1.1, q.1.2.1, by rw [h3.length, ← lim_line]; exact q.1.2.2, fun l hl => ?_⟩
        obtain ⟨n1, n2⟩ := wk_none p.wk hl
        have dr := das_rep h3 kk.toNat
        generalize (List.replicate kk.toNat us0).flatten = us at dr
        have pk : Post C.tq J1 W1 H1 J1 W1 (upd H1 l (.lst us)) := (Post.refl p.wk).poke hl n1 n2
        have pp := p.trans pk
        refine ⟨upd H1 l (.lst us), J1, W1, ρ, E, _, pk.wk, fun _ z => z, pp.env env, q.2, fun vs H2 J2 W2 ss p2 so q2 => ?_, fun x cls dd H' J' W' p2 xd q2 => ex x cls dd H' J' W' (pp.trans p2) xd q2⟩
        have hd : ∀ a, upd H1 l (.lst us) a = none → H0 a = none := fun a z => hn a (pp.there z)
        obtain ⟨o1, o2, o3⟩ := p2.out (a := l) upd_same n1 n2
        refine ok _ _ _ _ (.ow _ :: ss) (pp.trans p2) ⟨l, us, vs, rfl, o3, o1, o2, hn l (p.there hl), p2.das dr, fun j ys e1 e2 => ?_, so.down hd⟩ q2
        obtain ⟨b, e3, e4⟩ := so.at e1
        rw [e2] at e3
        cases e3
        rw [upd_same] at e4
        cases e4
      · exact q.elim, fun x cls dd H' J' W' p2 xd q2 => ex x cls dd H' J' W' (p0.trans p2) xd q2⟩, ex⟩
def wPar (is : List Nat) (w : WP) : WS := fun ρ N => w (strE ρ) N.ex fun ss => ss.length = is.length ∧ N.nx (setP ρ is ss)
theorem par_imp {is : List Nat} {Dd : Ends} {σ : St} {H : Hp} {Q : List V → Hp → Prop} (h : tS C Wx (wPar is wr) Dd σ H) (hq : ∀ vs H', vs.length = is.length → Dd.nx (setV σ is vs) H' → Q vs H') : tP C Wx wr σ H Q := by
  obtain ⟨J0, W0, H0, J, W, ρ, N, p, so, h, g⟩ := h
  refine ⟨H, J, W, strE ρ, N.ex, _, p.wk, fun _ z => z, so.str, h, fun vs H' J' W' ss q ok r => ?_, fun x cls d H' J' W' q r h => g.ex x cls d σ H' J' W' (p.trans q) r h⟩
  refine hq vs H' (by rw [ok.length, r.1]) (g.nx _ _ J' W' _ (p.trans q) (par_sok (so.behind q) ok (fun a z => p.there z) fun j xs a e1 e2 z => ?_) r.2)
  obtain ⟨b, e3, e4⟩ := ok.at e1
  rw [e2] at e3
  cases e3
  obtain ⟨us, z1, _⟩ := so.own z
  rw [z1] at e4
  cases e4
theorem par_imp2 {is : List Nat} {Dd : Ends} {σ : St} {H : Hp} {Q : List V → Hp → Prop} (h : tS C Wx (wPar is wr) Dd σ H) (hq : ∀ vs H', vs.length = is.length → (∀ p o, H' p = none → Dd.nx (setV σ is vs) (upd H' p o)) → Q vs H') : tP C Wx wr σ H Q := by
  obtain ⟨J0, W0, H0, J, W, ρ, N, p, so, h, g⟩ := h
  refine ⟨H, J, W, strE ρ, N.ex, _, p.wk, fun _ z => z, so.str, h, fun vs H' J' W' ss q ok r => ?_, fun x cls d H' J' W' q r h => g.ex x cls d σ H' J' W' (p.trans q) r h⟩
  refine hq vs H' (by rw [ok.length, r.1]) fun l o hl => ?_
  obtain ⟨n1, n2⟩ := wk_none q.wk hl
  have pk : Post C.tq J' W' H' J' W' (upd H' l o) := (Post.refl q.wk).poke hl n1 n2
  have ok2 := ok.behind pk
  refine g.nx _ _ J' W' _ (p.trans (q.trans pk)) (par_sok (so.behind (q.trans pk)) ok2 (fun a z => p.there z) fun j xs a e1 e2 z => ?_) r.2
  obtain ⟨b, e3, e4⟩ := ok.at e1
  rw [e2] at e3
  cases e3
  obtain ⟨us, z1, _⟩ := so.own z
  rw [z1] at e4
  cases e4
/-- .. of names that a comprehension sees: one store after the other -/
theorem ss_parT (T : Ctx X C Wx k) (hi : X.N[i]? = some x) (hj : X.N[j]? = some y) (hx : Loc X.env.scope x ∧ (X.fn x = true ∨ X.env.scope.names.lookup x = some .local)) (hy : Loc X.env.scope y ∧ (X.fn y = true ∨ X.env.scope.names.lookup y = some .local)) (ha : PA X [a, b] (tP C Wx wr))
    (hs : swapsWithSole [.Tuple [.Name x px, .Name y py] kt pt] (.Tuple [a, b] k2 p2) pos.line X.env = pure false) (hw : swappedStores [.Tuple [.Name x px, .Name y py] kt pt] (.Tuple [a, b] k2 p2) X.env = pure none) :
    PS X (.Assign [.Tuple [.Name x px, .Name y py] kt pt] (.Tuple [a, b] k2 p2) pos) (tS C Wx (wPar [i, j] wr)) :=
  ps_imp (ps_asg (pe_tup ha) (pg_tup (n := 2) T.calm (pgs_cons (pg_name T.nd hi hx.1 hx.2) (pgs_cons (pg_name T.nd hj hy.1 hy.2) pgs_nil))) hs hw rfl) fun Dd σ H h => par_imp2 h fun vs H' hl r => by
    match vs, hl with
    | [v, w], _ => exact ⟨by rw [sizeLine_eq]; show 2 ≤ 16777216; decide, fun p hp => ⟨p, [v, w], rfl, SqT.of upd_same, rfl, v, [w], rfl, w, [], rfl, rfl, r p _ hp⟩⟩
theorem ss_par (T : Ctx X C Wx k) (hi : X.N[i]? = some x) (hj : X.N[j]? = some y) (hij : i ≠ j) (hx : X.env.scope.names.lookup x = some .local) (hy : X.env.scope.names.lookup y = some .local) (ha : PA X [a, b] (tP C Wx wr))
    (hw : swappedStores [.Tuple [.Name x px, .Name y py] kt pt] (.Tuple [a, b] k2 p2) X.env = pure (some [x, y])) :
    PS X (.Assign [.Tuple [.Name x px, .Name y py] kt pt] (.Tuple [a, b] k2 p2) pos) (tS C Wx (wPar [i, j] wr)) :=
  ps_imp (ps_par T.calm T.nd hi hj hij hx hy ha hw rfl) fun Dd σ H h => par_imp h fun vs H' hl r => by
    match vs, hl with
    | [v, w], _ => exact ⟨v, w, rfl, r⟩
theorem ss_par3 (T : Ctx X C Wx k) (hi : X.N[i]? = some x) (hj : X.N[j]? = some y) (hl : X.N[l]? = some z) (hij : i ≠ j) (hil : i ≠ l) (hjl : j ≠ l) (hx : X.env.scope.names.lookup x = some .local) (hy : X.env.scope.names.lookup y = some .local) (hz : X.env.scope.names.lookup z = some .local) (ha : PA X [a, b, c] (tP C Wx wr))
    (hw : swappedStores [.Tuple [.Name x px, .Name y py, .Name z pz] kt pt] (.Tuple [a, b, c] k2 p2) X.env = pure (some [x, y, z])) :
    PS X (.Assign [.Tuple [.Name x px, .Name y py, .Name z pz] kt pt] (.Tuple [a, b, c] k2 p2) pos) (tS C Wx (wPar [i, j, l] wr)) :=
  ps_imp (ps_par3 T.calm T.nd hi hj hl hij hil hjl hx hy hz ha hw rfl) fun Dd σ H h => par_imp h fun vs H' hl r => by
    match vs, hl with
    | [u, v, w], _ => exact ⟨u, v, w, rfl, r⟩
end
/-! ### wells: three ints that a draw changes -/
def wWput (i : Nat) (k v : WE') : WS := fun ρ N => match ρ[i]? with
  | some (.im (.obj _)) => v (strE ρ) N.ex fun d => k (strE ρ) N.ex fun j => (match d, j with
    | .int _, .int j => (0 ≤ j ∧ j < 3) ∧ N.nx ρ
    | _, _ => False)
  | _ => False
/-- w[c], f = e -/
def wWdm (i : Nat) (c : Int) (j : Nat) (e : WE') : WS := fun ρ N => match ρ[i]? with
  | some (.im (.obj _)) => (0 ≤ c ∧ c < 3) ∧ e (strE ρ) N.ex fun d => (match d with
    | .tup [.int _, y] => N.nx (ρ.set j (.im y))
    | _ => False)
  | _ => False
/-- a list of three ints handed out as a well -/
def wRetW (a : WA') : WS := fun ρ N => a (strE ρ) N.ex fun ds => match ds with
  | [.int _, .int _, .int _] => ∀ p, N.rt (.obj p)
  | _ => False
section
variable {X : Cx} {C : Cfg} {Wx : WX} {k : Nat} {e v k0 : Expr} {es : List Expr} {pos px py pz pt p2 : Pos} {we wk : WE'} {ws : WA'} {i j l : Nat} {x y : Str} {kt : Nat} {J J0 H0 H : Hp} {W W0 : Addr → Prop}
theorem tq_none {l : Addr} (w : Wk C.tq J W H) (h : H l = none) : C.tq l = none := by
  cases e : C.tq l with
  | none => rfl
  | some q => exact absurd (w.tab l (by rw [e]; exact fun z => nomatch z)) (wk_none w h).2
theorem well_post {a : Addr} {o : HO} (w : Wk C.tq J W H) (ha : W a) (hq : C.tq a = none) (h : IsWell (some o)) : Post C.tq J W H J W (upd H a o) where
  ext := Same.refl _
  wk := ⟨fun b ob hb => by
      have ne : b ≠ a := fun z => by subst z; rw [(w.well _ ha).1] at hb; cases hb
      rw [upd_ne ne]; exact w.sub b ob hb,
    fun b hb => by
      refine ⟨(w.well b hb).1, ?_⟩
      by_cases z : b = a
      · subst z; rw [upd_same]; exact .of h hq
      · rw [upd_ne z]; exact (w.well b hb).2, w.tab⟩
  new := fun a o h => .inl h
  keep := fun b ob hb n => by
    have ne : b ≠ a := fun z => by subst z; exact n ha
    rw [upd_ne ne]; exact hb
  wsub := fun a h => h
  wnew := fun a h => .inl h
theorem well_new {l : Addr} {o : HO} (p : Post C.tq J0 W0 H0 J W H) (hl : H l = none) (hq : C.tq l = none) (h : IsWell (some o)) : Post C.tq J0 W0 H0 J (fun b => W b ∨ b = l) (upd H l o) where
  ext := p.ext
  wk := ⟨fun b ob hb => by
      have hb' := p.wk.sub b ob hb
      have ne : b ≠ l := fun z => by subst z; rw [hl] at hb'; cases hb'
      rw [upd_ne ne]; exact hb',
    fun b hb => by
      by_cases z : b = l
      · subst z
        refine ⟨(wk_none p.wk hl).1, by rw [upd_same]; exact .of h hq⟩
      · rcases hb with hb | hb
        · rw [upd_ne z]; exact p.wk.well b hb
        · exact absurd hb z,
    fun a ha => .inl (p.wk.tab a ha)⟩
  new := p.new
  keep := fun b ob hb n => by
    have hb' := p.keep b ob hb n
    have ne : b ≠ l := fun z => by subst z; rw [hl] at hb'; cases hb'
    rw [upd_ne ne]; exact hb'
  wsub := fun a h => .inl (p.wsub a h)
  wnew := fun a h => by
    rcases h with h | h
    · exact p.wnew a h
    · subst h; exact .inr (p.there hl)
theorem well_set {x y z u c : Int} (h : 0 ≤ c ∧ c < 3) : ∃ n, ixN [V.int x, V.int y, V.int z].length c = some n ∧ IsWell (some (.lst ([V.int x, V.int y, V.int z].set n (.int u)))) := by
  have : c = 0 ∨ c = 1 ∨ c = 2 := by omega
  rcases this with rfl | rfl | rfl
  · exact ⟨0, rfl, True.intro⟩
  · exact ⟨1, rfl, True.intro⟩
  · exact ⟨2, rfl, True.intro⟩
theorem ss_wput (hN : X.N[i]? = some x) (hv : Vis X.env.scope x) (hd : (x == ("__debug__" : Str)) = false) (hcd : (x == ("__classdict__" : Str)) = false) (hk : PE X k0 (tE C Wx wk)) (he : PE X v (tE C Wx we)) (hsl : isSlice k0 = false) (hc : isComp v = false) :
    PS X (.Assign [.Subscript (.Name x px) k0 pt] v pos) (tS C Wx (wWput i wk we)) :=
  ps_imp (ps_asg he (pg_sub (pe_var hN hv hd hcd) hk set_list (by intro u; cases k0 <;> first | rfl | cases hsl)) (swaps1 hc _ _ _) (by cases v <;> rfl) rfl) fun Dd σ H ⟨J0, W0, H0, J, W, ρ, N, p, so, h, g⟩ => by
    unfold wWput at h
    split at h
    · rename_i a hx
      obtain ⟨va, e1, rfl, hw, hwq⟩ := so.im i _ hx
      refine ⟨J, W, strE ρ, N.ex, _, p.wk, so.str, h, g.str p fun v H' J' W' d q da r => ⟨_, e1, J', W', strE ρ, N.ex, _, q.wk, (so.behind q).str, r, g.str (p.trans q) fun u H2 J2 W2 d2 q2 da2 r2 => ?_⟩⟩
      have qq := q.trans q2
      split at r2
      · rename_i z0 c
        cases da; cases da2
        have hw2 := qq.wsub _ hw
        obtain ⟨x1, x2, x3, eh⟩ := ((q2.wk.well _ hw2).2.well hwq).some
        obtain ⟨n, n1, n2⟩ := well_set (x := x1) (y := x2) (z := x3) (u := z0) r2.1
        have wp := well_post q2.wk hw2 hwq n2
        exact ⟨a, _, _, n, rfl, rfl, eh, n1, g.nx _ _ J2 W2 ρ ((p.trans qq).trans wp) ((so.behind qq).behind wp) r2.2⟩
      · exact r2.elim
    · exact h.elim
def isTupE : Expr → Bool
  | .Tuple _ _ _ => true
  | _ => false
theorem ss_wdm {c : Int} {kc : Nat} {pc : Pos} (T : Ctx X C Wx k) (hN : X.N[i]? = some x) (hv : Vis X.env.scope x) (hd : (x == ("__debug__" : Str)) = false) (hcd : (x == ("__classdict__" : Str)) = false) (hj : X.N[j]? = some y) (hy : Loc X.env.scope y) (hf : X.fn y = true ∨ X.env.scope.names.lookup y = some .local) (he : PE X v (tE C Wx we)) (hc : isComp v = false) (ht : isTupE v = false) :
    PS X (.Assign [.Tuple [.Subscript (.Name x px) (.Constant (.int c) kc pc) pt, .Name y py] kt pz] v pos) (tS C Wx (wWdm i c j we)) :=
  ps_imp (ps_asg he (pg_tup T.calm (pgs_cons (pg_sub (pe_var hN hv hd hcd) (pe_int (i := c)) set_list (by intro u; rfl)) (pgs_cons (pg_name T.nd hj hy hf) pgs_nil rfl) rfl) rfl rfl) (swaps1 hc _ _ _) (by cases v <;> first | rfl | cases ht) rfl) fun Dd σ H ⟨J0, W0, H0, J, W, ρ, N, p, so, h, g⟩ => by
    unfold wWdm at h
    split at h
    · rename_i a hx
      obtain ⟨va, e1, rfl, hw, hwq⟩ := so.im i _ hx
      refine ⟨J, W, strE ρ, N.ex, _, p.wk, so.str, h.2, g.str p fun v H' J' W' d q da r => ?_⟩
      split at r
      · rename_i z0 d2
        obtain ⟨b, vs, rfl, h2, v1, r1, rfl, e2, v2, r2, rfl, e3, e4⟩ := da
        cases e2; cases e4
        have hw2 := q.wsub _ hw
        obtain ⟨x1, x2, x3, eh⟩ := ((q.wk.well _ hw2).2.well hwq).some
        obtain ⟨n, n1, n2⟩ := well_set (x := x1) (y := x2) (z := x3) (u := z0) h.1
        have wp := well_post q.wk hw2 hwq n2
        refine ⟨b, _, rfl, SqT.of (q.wk.sub _ _ h2), rfl, _, _, rfl, _, e1, a, _, _, n, rfl, rfl, eh, n1, _, _, rfl, rfl, ?_⟩
        exact g.nx _ _ J' W' _ ((p.trans q).trans wp) (((so.behind q).behind wp).setIm (wp.da e3)) r
      · exact r.elim
    · exact h.elim
theorem ss_retW (ha : PA X es (tAs C Wx ws)) : PS X (.Return (some (.List es p2)) pos) (tS C Wx (wRetW ws)) := ps_imp (ps_ret (pe_lst ha)) fun Dd σ H ⟨J0, W0, H0, J, W, ρ, N, p, so, h, g⟩ =>
  ⟨J, W, strE ρ, N.ex, _, p.wk, so.str, h, g.str p fun vs H' J' W' ds q da r => by
    split at r
    · obtain ⟨v1, r1, rfl, e1, v2, r2, rfl, e2, v3, r3, rfl, e3, e4⟩ := da
      cases e1; cases e2; cases e3; cases e4
      refine ⟨by show 3 ≤ sizeLine; decide, fun l hl => ?_⟩
      exact g.rt _ _ J' (fun b => W' b ∨ b = l) (.obj l) (well_new (p.trans q) hl (tq_none q.wk hl) True.intro) ⟨rfl, .inr rfl, tq_none q.wk hl⟩ (r l)
    · exact r.elim⟩
end
end L2.DL
namespace L2.DL
open PySem PySem.Spec PyProof.Rows

/-! ### ranges as values -/
def rgvK (tp : Bool) (ds : List D) (Q : D → Prop) : Prop := match ds with
  | [.int j] => (-(2 ^ 62) ≤ j ∧ j ≤ 16777216) ∧ Q (if tp then .tup (rngD 0 j.toNat) else .lst (rngD 0 j.toNat))
  | [.int i, .int j] => (0 ≤ i ∧ i ≤ 16777216 ∧ -(2 ^ 62) ≤ j ∧ j ≤ 16777216) ∧ Q (if tp then .tup (rngD i (j - i).toNat) else .lst (rngD i (j - i).toNat))
  | _ => False
def wRgv (tp : Bool) (a : WA') : WE' := fun ρ E Q => a ρ E fun ds => rgvK tp ds Q
section
variable {X : Cx} {C : Cfg} {Wx : WX} {k : Nat} {e a b : Expr} {es r : List Expr} {pos px py pz pt p2 p1 q0 apos cpos : Pos} {we wa wb : WE'} {ws : WA'} {wr : WP} {i j l : Nat} {x y z : Str}
theorem das_rg {J : Hp} {W : Addr → Prop} {lo : Int} {n : Nat} {hi : Int} (h : (hi - lo).toNat = n) : DAs C J W (rngD lo n) (rgV lo hi) := by
  unfold rgV rngD
  rw [h, show (List.range n).map (fun i => V.int (lo + (i : Nat))) = ((List.range n).map fun i : Nat => lo + (i : Int)).map V.int from by rw [List.map_map]; rfl,
    show (List.range n).map (fun i : Nat => D.int (lo + (i : Int))) = ((List.range n).map fun i : Nat => lo + (i : Int)).map D.int from by rw [List.map_map]; rfl]
  exact das_map_int _
theorem rg_lay {J H : Hp} {W : Addr → Prop} {lo hi : Int} {n : Nat} {tp : Bool} {σ : St} {E : Exc → Prop} {Qd : D → Prop} {Q : VK} (w : Wk C.tq J W H) (hn : (hi - lo).toNat = n) (g : Go C Wx (DA C) J W σ H E Qd Q) (h : Qd (if tp then .tup (rngD lo n) else .lst (rngD lo n))) :
    ∀ q, H q = none → Q (.ref q) (upd H q (if tp then .tup (rgV lo hi) else .lst (rgV lo hi))) := fun q hq => by
  cases tp with
  | true => exact (new_tup w hq (das_rg hn)).elim fun n1 n2 => g.ok _ _ _ _ (.tup _) n1 n2 h
  | false => exact (new_lst w hq (das_rg hn)).elim fun n1 n2 => g.ok _ _ _ _ (.lst _) n1 n2 h
theorem Go.then {α β : Type} {R : Hp → (Addr → Prop) → α → β → Prop} {J J' H H' : Hp} {W W' : Addr → Prop} {σ : St} {E : Exc → Prop} {Qd : α → Prop} {Q : β → Hp → Prop} (g : Go C Wx R J W σ H E Qd Q) (p : Post C.tq J W H J' W' H') : Go C Wx R J' W' σ H' E Qd Q :=
  ⟨fun v H2 J2 W2 d q => g.ok v H2 J2 W2 d (p.trans q), fun x cls d H2 J2 W2 q => g.ex x cls d H2 J2 W2 (p.trans q)⟩
theorem se_rgv1 {tp : Bool} (hc : X.calm = true) (hg : Gl X (if tp then "tuple" else "list")) (hm : X.mg (if tp then "tuple" else "list") = none) (hg2 : Gl X "range") (hm2 : X.mg "range" = none) (ha : PE X a (tE C Wx wa)) (hs : isStar a = false) :
    PE X (.Call (.Name (if tp then "tuple" else "list") px) [.Call (.Name "range" p2) [a] [] q0] [] pos) (tE C Wx (wRgv tp (wCons wa wNil))) := by
  have hr := prg_1 (p := p2) (pos := q0) hg2 hm2 ha (star_one hs)
  have key : ∀ σ H Q, tE C Wx (wRgv tp (wCons wa wNil)) σ H Q → tRg1 (tE C Wx wa) σ H fun a b H1 => RgOk a b ∧ ∀ q, H1 q = none → Q (.ref q) (upd H1 q (if tp then .tup (rgV a b) else .lst (rgV a b))) := fun σ H Q ⟨J, W, ρ, E, Qd, w, env, h, g⟩ =>
    ⟨J, W, ρ, E, _, w, env, h, fun v H1 J1 W1 d p da q => by
      have q : rgvK tp [d] Qd := q
      unfold rgvK at q
      split at q
      · rename_i j e
        cases e
        cases da
        refine ⟨_, rfl, ⟨by omega, by omega, by omega, by omega, by omega⟩, rg_lay p.wk (by rw [Int.sub_zero]) (g.then p) q.2⟩
      · rename_i e; cases e
      · exact q.elim, g.ex⟩
  cases tp with
  | true => exact pe_imp (pe_tupRg hc hg hm hr rfl) key
  | false => exact pe_imp (pe_listRg hc hg hm hr rfl) key
theorem se_rgv2 {tp : Bool} (hc : X.calm = true) (hg : Gl X (if tp then "tuple" else "list")) (hm : X.mg (if tp then "tuple" else "list") = none) (hg2 : Gl X "range") (hm2 : X.mg "range" = none) (ha : PE X a (tE C Wx wa)) (hb : PE X b (tE C Wx wb)) (hs : isStar a = false) (hs2 : isStar b = false) :
    PE X (.Call (.Name (if tp then "tuple" else "list") px) [.Call (.Name "range" p2) [a, b] [] q0] [] pos) (tE C Wx (wRgv tp (wCons wa (wCons wb wNil)))) := by
  have hr := prg_2 (p := p2) (pos := q0) hg2 hm2 ha hb (star_one hs) (star_one hs2) (by rw [star_one hs2]; rfl)
  have key : ∀ σ H Q, tE C Wx (wRgv tp (wCons wa (wCons wb wNil))) σ H Q → tRg2 (tE C Wx wa) (tE C Wx wb) σ H fun a b H1 => RgOk a b ∧ ∀ q, H1 q = none → Q (.ref q) (upd H1 q (if tp then .tup (rgV a b) else .lst (rgV a b))) := fun σ H Q ⟨J, W, ρ, E, Qd, w, env, h, g⟩ =>
    ⟨J, W, ρ, E, _, w, env, h, fun v H1 J1 W1 d p da q => ⟨J1, W1, ρ, E, _, p.wk, p.env env, q, fun u H2 J2 W2 d2 p2 da2 q => by
      have q : rgvK tp [d, d2] Qd := q
      unfold rgvK at q
      split at q
      · rename_i e; cases e
      · rename_i i j e
        cases e
        have da := p2.da da
        cases da
        cases da2
        exact ⟨_, _, rfl, rfl, ⟨by omega, by omega, by omega, by omega, by omega⟩, rg_lay p2.wk rfl (g.then (p.trans p2)) q.2⟩
      · exact q.elim, fun x cls dd H' J' W' q => g.ex x cls dd H' J' W' (p.trans q)⟩, g.ex⟩
  cases tp with
  | true => exact pe_imp (pe_tupRg hc hg hm hr rfl) key
  | false => exact pe_imp (pe_listRg hc hg hm hr rfl) key
/-! ### x = list(e), a list of one's own -/
theorem pe_listRaw (hg : Gl X "list") (hm : X.mg "list" = none) (he : PE X e (tE C Wx we)) (hs : isStar e = false) : PE X (.Call (.Name "list" px) [e] [] p2) (tCB (fun xs H Q => ∃ p ys, xs = [.ref p] ∧ (SqL X.K H p ys ∨ SqT X.K H p ys) ∧ ∀ l, H l = none → Q (.ref l) (upd H l (.lst ys))) (tCons (tE C Wx we) tNil)) :=
  pe_callTy call_list_of hg hm boot_list (pa_cons he pa_nil (star_one hs)) (by decide) (by decide) (star_one hs) rfl
theorem ss_ownL (hN : X.N.Nodup) (hi : X.N[i]? = some x) (hx : Loc X.env.scope x) (hf : X.fn x = true ∨ X.env.scope.names.lookup x = some .local) (hg : Gl X "list") (hm : X.mg "list" = none) (he : PE X e (tE C Wx we)) (hs : isStar e = false) :
    PS X (.Assign [.Name x py] (.Call (.Name "list" px) [e] [] p2) pos) (tS C Wx (wOwnL i we)) :=
  ps_imp (ps_set hN hi hx (pe_listRaw hg hm he hs) (swaps_not rfl _ _ _) hf) fun Dd σ H ⟨J0, W0, H0, J, W, ρ, N, p, so, h, g⟩ =>
    ⟨J, W, strE ρ, N.ex, _, p.wk, so.str, h, g.str p fun v H' J' W' d q da r => by
      have r : (match (generalizing := false) d with
        | .lst xs => N.nx (ρ.set i (.ow xs))
        | .tup xs => N.nx (ρ.set i (.ow xs))
        | _ => False) := r
      split at r
      · obtain ⟨a, vs, rfl, h2, h3⟩ := da
        exact ⟨a, vs, rfl, .inl (SqL.of (q.wk.sub _ _ h2)), fun l hl => own_new g p so q hl h3 r⟩
      · obtain ⟨a, vs, rfl, h2, h3⟩ := da
        exact ⟨a, vs, rfl, .inr (SqT.of (q.wk.sub _ _ h2)), fun l hl => own_new g p so q hl h3 r⟩
      · exact r.elim⟩
def wPowL (a : WE') (r : WP) : WP := fun ρ E Q => a ρ E fun x => match x with
  | .lst xs => r ρ E fun ss => Q (.ow xs :: ss)
  | .tup xs => r ρ E fun ss => Q (.ow xs :: ss)
  | _ => False
theorem sp_owL (hg : Gl X "list") (hm : X.mg "list" = none) (he : PE X e (tE C Wx we)) (hs : isStar e = false) (hr : PA X r (tP C Wx wr)) : PA X (.Call (.Name "list" px) [e] [] p2 :: r) (tP C Wx (wPowL we wr)) :=
  pa_imp (pa_cons (pe_listRaw hg hm he hs) hr rfl) fun σ H Q ⟨H0, J, W, ρ, E, Qd, w, hn, env, h, ok, ex⟩ =>
    ⟨J, W, ρ, E, _, w, env, h, fun v H1 J1 W1 d p da q => by
      have go : ∀ (xs : List D) (us : List V), DAs C J1 W1 xs us → (wr ρ E fun ss => Qd (.ow xs :: ss)) → ∀ l, H1 l = none → tP C Wx wr σ (upd H1 l (.lst us)) (fun vs H2 => Q (.ref l :: vs) H2) := fun xs us da q l hl => by
        obtain ⟨n1, n2⟩ := wk_none p.wk hl
        have pk : Post C.tq J1 W1 H1 J1 W1 (upd H1 l (.lst us)) := (Post.refl p.wk).poke hl n1 n2
        have pp := p.trans pk
        refine ⟨upd H1 l (.lst us), J1, W1, ρ, E, _, pk.wk, fun _ z => z, pp.env env, q, fun vs H2 J2 W2 ss p2 so q2 => ?_, fun x cls dd H' J' W' p2 xd q2 => ex x cls dd H' J' W' (pp.trans p2) xd q2⟩
        have hd : ∀ a, upd H1 l (.lst us) a = none → H0 a = none := fun a z => hn a (pp.there z)
        obtain ⟨o1, o2, o3⟩ := p2.out (a := l) upd_same n1 n2
        refine ok _ _ _ _ (.ow xs :: ss) (pp.trans p2) ⟨l, us, vs, rfl, o3, o1, o2, hn l (p.there hl), p2.das da, fun j ys e1 e2 => ?_, so.down hd⟩ q2
        obtain ⟨b, e3, e4⟩ := so.at e1
        rw [e2] at e3
        cases e3
        rw [upd_same] at e4
        cases e4
      have q : (match (generalizing := false) d with
        | .lst xs => wr ρ E fun ss => Qd (.ow xs :: ss)
        | .tup xs => wr ρ E fun ss => Qd (.ow xs :: ss)
        | _ => False) := q
      split at q
      · obtain ⟨a, vs, rfl, h2, h3⟩ := da
        exact ⟨a, vs, rfl, .inl (SqL.of (p.wk.sub _ _ h2)), go _ _ h3 q⟩
      · obtain ⟨a, vs, rfl, h2, h3⟩ := da
        exact ⟨a, vs, rfl, .inr (SqT.of (p.wk.sub _ _ h2)), go _ _ h3 q⟩
      · exact q.elim, ex⟩
/-! ### found.append(left.pop(e)), both one's own -/
def wAppP (i j : Nat) (e : WE') : WS := fun ρ N => match ρ[i]?, ρ[j]? with
  | some (.ow xs), some (.ow ys) => e (frzE ρ) N.ex fun d => (match d with
    | .int z => (match ixN ys.length z with
      | some n => (match ys[n]? with
        | some d => (i ≠ j ∧ -(2 ^ 63) ≤ z ∧ z < 2 ^ 63 ∧ xs.length < LIM) ∧ N.nx ((ρ.set j (.ow (ys.eraseIdx n))).set i (.ow (xs ++ [d])))
        | none => False)
      | none => False)
    | _ => False)
  | _, _ => False
theorem DAs.eraseIdx {J : Hp} {W : Addr → Prop} : ∀ {ds : List D} {vs : List V} (n : Nat), DAs C J W ds vs → DAs C J W (ds.eraseIdx n) (vs.eraseIdx n)
  | [], _, _, h => by cases h; rfl
  | d :: ds, vs, 0, h => by
    obtain ⟨v, r, rfl, h2, h3⟩ := h
    exact h3
  | d :: ds, vs, n + 1, h => by
    obtain ⟨v, r, rfl, h2, h3⟩ := h
    exact ⟨v, _, rfl, h2, DAs.eraseIdx n h3⟩
theorem ss_appP (hN : X.N[i]? = some x) (hv : Vis X.env.scope x) (hd : (x == ("__debug__" : Str)) = false) (hcd : (x == ("__classdict__" : Str)) = false) (hN2 : X.N[j]? = some y) (hv2 : Vis X.env.scope y) (hd2 : (y == ("__debug__" : Str)) = false) (hcd2 : (y == ("__classdict__" : Str)) = false)
    (he : PE X e (tE C Wx we)) (hs : isStar e = false) (hline : (apos.endLine == cpos.line) = true) (hline2 : (p1.endLine == p2.line) = true) :
    PS X (.Expr (.Call (.Attribute (.Name x px) "append" apos) [.Call (.Attribute (.Name y py) "pop" p1) [e] [] p2] [] cpos) pos) (tS C Wx (wAppP i j we)) :=
  ps_imp (ps_expr (pe_bm PySem.F.plainAttrs_list PySem.F.slot_list_append PySem.F.type_list_append mt_append (pe_var hN hv hd hcd)
      (pa_cons (pe_bm PySem.F.plainAttrs_list PySem.F.slot_list_pop PySem.F.type_list_pop mt_popAt (pe_var hN2 hv2 hd2 hcd2) (pa_cons he pa_nil (star_one hs)) rfl (by rw [star_one hs]; rfl) hline2 (star_one hs) rfl) pa_nil rfl) rfl rfl hline rfl rfl) (swaps_not rfl _ _ _)) fun Dd σ H ⟨J0, W0, H0, J, W, ρ, N, p, so, h, g⟩ => by
    unfold wAppP at h
    split at h
    · rename_i xs ys hx hy
      obtain ⟨a, vs, e1, e2, e3, e4, e5, e6⟩ := so.ow i xs hx
      obtain ⟨b, us, f1, f2, f3, f4, f5, f6⟩ := so.ow j ys hy
      refine ⟨_, e1, .inl ⟨rfl, vs, SqL.of e2⟩, _, f1, .inl ⟨rfl, us, SqL.of f2⟩, frzJ J ρ σ H, W, frzE ρ, N.ex, _, so.wkF p.wk, so.frz, h, g.str (so.postF p) fun v H' J' W' d q da r => ?_⟩
      have t := so.thaw p.wk q
      obtain ⟨o1, o2, o3⟩ := t.out e2 e3 e4
      obtain ⟨r1, r2, r3⟩ := t.out f2 f3 f4
      split at r
      · rename_i z
        split at r
        · rename_i n hn
          split at r
          · rename_i d' hd'
            cases da
            obtain ⟨⟨hij, z1, z2, hl⟩, r⟩ := r
            have ne : a ≠ b := fun e => so.ap i j xs ys a hij hx hy e1 (by rw [e]; exact f1)
            have lu : us.length = ys.length := f6.length
            obtain ⟨v', hv', dv⟩ := (t.das f6).get hd'
            refine ⟨b, us, z, n, v', rfl, rfl, r3, z1, z2, by rw [lu]; exact (L2.ixN_seq hn).1, hv', ?_⟩
            refine ⟨a, vs, v', rfl, rfl, by rw [upd_ne ne]; exact o3, by rw [e6.length, ← lim_line]; exact hl, ?_⟩
            have so1 := so.behind t
            have so2 := so1.poke hy f1 ((t.das f6).eraseIdx n)
            obtain ⟨_, _, y1, y2, y3, y4, y5, _⟩ := so1.ow j ys hy
            rw [f1] at y1
            cases y1
            have p3 := (p.trans t).poke (o := .lst (us.eraseIdx n)) y5 y3 y4
            exact own_put g p3 so2 (by rw [List.getElem?_set_ne (Ne.symm hij)]; exact hx) e1 ((t.das e6).append (show DAs C (thwJ J' ρ σ) W' [d'] [v'] from ⟨v', [], rfl, dv, rfl⟩)) r
          · exact r.elim
        · exact r.elim
      · exact r.elim
    · exact h.elim
/-! ### x[a], x[b] = v, w, x one's own -/
def wPut2 (i : Nat) (k1 k2 v1 v2 : WE') : WS := fun ρ N => match ρ[i]? with
  | some (.ow xs) => v1 (frzE ρ) N.ex fun d1 => v2 (frzE ρ) N.ex fun d2 => (noL d1 = true ∧ noL d2 = true) ∧ k1 (strE ρ) N.ex fun j1 => (match j1 with
    | .int z1 => (match ixN xs.length z1 with
      | some n1 => k2 (strE (ρ.set i (.ow (xs.set n1 d1)))) N.ex fun j2 => (match j2 with
        | .int z2 => (match ixN xs.length z2 with
          | some n2 => N.nx ((ρ.set i (.ow (xs.set n1 d1))).set i (.ow ((xs.set n1 d1).set n2 d2)))
          | none => False)
        | _ => False)
      | none => False)
    | _ => False)
  | _ => False
theorem ss_put2 {k1 k2 v1 v2 : Expr} {kt kv : Nat} {q1 q2 pv : Pos} {wk1 wk2 wv1 wv2 : WE'} (hc : X.calm = true) (hN : X.N[i]? = some x) (hv : Vis X.env.scope x) (hd : (x == ("__debug__" : Str)) = false) (hcd : (x == ("__classdict__" : Str)) = false)
    (hk1 : PE X k1 (tE C Wx wk1)) (hk2 : PE X k2 (tE C Wx wk2)) (h1 : PE X v1 (tE C Wx wv1)) (h2 : PE X v2 (tE C Wx wv2)) (hs1 : isStar v1 = false) (hs2 : isStar v2 = false) (hl1 : isSlice k1 = false) (hl2 : isSlice k2 = false)
    (hw : swappedStores [.Tuple [.Subscript (.Name x p1) k1 q1, .Subscript (.Name x p2) k2 q2] kt pt] (.Tuple [v1, v2] kv pv) X.env = pure none) :
    PS X (.Assign [.Tuple [.Subscript (.Name x p1) k1 q1, .Subscript (.Name x p2) k2 q2] kt pt] (.Tuple [v1, v2] kv pv) pos) (tS C Wx (wPut2 i wk1 wk2 wv1 wv2)) :=
  ps_imp (ps_asg (pe_tup (pa_cons h1 (pa_cons h2 pa_nil (star_one hs2)) (star_one hs1))) (pg_tup (n := 2) hc (pgs_cons (pg_sub (pe_var hN hv hd hcd) hk1 set_list (by intro u; cases k1 <;> first | rfl | cases hl1)) (pgs_cons (pg_sub (pe_var hN hv hd hcd) hk2 set_list (by intro u; cases k2 <;> first | rfl | cases hl2)) pgs_nil))) (swaps1 rfl _ _ _) hw rfl) fun Dd σ H ⟨J0, W0, H0, J, W, ρ, N, p, so, h, g⟩ => by
    unfold wPut2 at h
    split at h
    · rename_i xs hx
      obtain ⟨a, vs, e1, e2, e3, e4, e5, e6⟩ := so.ow i xs hx
      refine ⟨frzJ J ρ σ H, W, frzE ρ, N.ex, _, so.wkF p.wk, so.frz, h, g.str (so.postF p) fun u1 H1 J1 W1 d1 q1 da1 r => ?_⟩
      refine ⟨J1, W1, frzE ρ, N.ex, _, q1.wk, q1.env so.frz, r, g.str ((so.postF p).trans q1) fun u2 H2 J2 W2 d2 q2 da2 r => ?_⟩
      obtain ⟨⟨nl1, nl2⟩, r⟩ := r
      have t := so.thaw p.wk (q1.trans q2)
      have du1 := so.da (q1.trans q2) (q2.da da1) nl1
      have du2 := so.da (q1.trans q2) da2 nl2
      refine ⟨by rw [sizeLine_eq]; show 2 ≤ 16777216; decide, fun T hT => ?_⟩
      obtain ⟨n1, n2⟩ := wk_none t.wk hT
      have pk : Post C.tq (thwJ J2 ρ σ) W2 H2 (thwJ J2 ρ σ) W2 (upd H2 T (.tup [u1, u2])) := (Post.refl t.wk).poke hT n1 n2
      have tt := t.trans pk
      have so3 := so.behind tt
      refine ⟨T, [u1, u2], rfl, SqT.of upd_same, rfl, u1, [u2], rfl, _, e1, _, W2, strE ρ, N.ex, _, tt.wk, so3.str, r, g.str (p.trans tt) fun v H' J' W' d q da r => ?_⟩
      split at r
      · rename_i z1
        split at r
        · rename_i m1 hm1
          cases da
          have tq := tt.trans q
          obtain ⟨o1, o2, o3⟩ := tq.out e2 e3 e4
          refine ⟨a, vs, _, m1, rfl, rfl, o3, ixN_V e6 hm1, ?_⟩
          have dset := (tq.das e6).set m1 ((pk.trans q).da du1)
          have so4 := (so.behind tq).poke hx e1 dset
          obtain ⟨_, _, y1, y2, y3, y4, y5, _⟩ := (so.behind tq).ow i xs hx
          rw [e1] at y1
          cases y1
          have p4 := (p.trans tq).poke (o := .lst (vs.set m1 u1)) y5 y3 y4
          have hx2 : (ρ.set i (.ow (xs.set m1 d1)))[i]? = some (.ow (xs.set m1 d1)) := by
            obtain ⟨hi, _⟩ := List.getElem?_eq_some_iff.mp hx
            rw [List.getElem?_set_self hi]
          refine ⟨u2, [], rfl, _, e1, _, W', strE (ρ.set i (.ow (xs.set m1 d1))), N.ex, _, p4.wk, so4.str, r, g.str p4 fun v3 H3 J3 W3 d3 q3 da3 r3 => ?_⟩
          split at r3
          · rename_i z2
            split at r3
            · rename_i m2 hm2
              cases da3
              obtain ⟨a', vs', f1, f2, f3, f4, f5, f6⟩ := so4.ow i _ hx2
              rw [e1] at f1
              cases f1
              obtain ⟨g1, g2, g3⟩ := q3.out f2 f3 f4
              refine ⟨a, vs', _, m2, rfl, rfl, g3, ixN_V f6 (by rw [List.length_set]; exact hm2), rfl, ?_⟩
              exact own_put g (p4.trans q3) (so4.behind q3) hx2 e1 ((q3.das f6).set m2 (q3.da ((pk.trans q).da du2))) r3
            · exact r3.elim
          · exact r3.elim
        · exact r.elim
      · exact r.elim
    · exact h.elim
end
end L2.DL
namespace L2.DL
open PySem PySem.Spec PyProof.Rows

/-! ### a lambda is made -/
def tLm (C : Cfg) (q : Str) (mk : Addr → LM.LF) : TE := fun σ H Q => ∃ J W, Wk C.tq J W H ∧ ∀ f c' H' J', Post C.tq J W H J' W H' → J' f = some (LM.LamO f (mk c')) → J' c' = some (LamX.CodeO c' q) → Q (.ref f) H'
theorem lam_ext {f : Addr} {F : LM.LF} : ∃ φ, LM.LamO f F = .ext φ := ⟨_, rfl⟩
theorem se_lam {X : Cx} {C : Cfg} {c P : Addr} {ar : Arguments} {bd : Expr} {sc : Scope} {pos : Pos} (TB : LamX.TabB X.base X.mg c P) (hcode : X.env.code = .ref c) (hq : C.tq P = some (X.env.qual ++ "<lambda>"))
    (hdef : defaultsOf ar X.env = ([], [])) (hfree : X.Ok → ∀ y ∈ sc.names, y.2 = .free → ∃ c, X.env.cells.lookup y.1 = some c) :
    PE X (.Lambda ar bd sc pos) (tLm C (X.env.qual ++ "<lambda>") fun c' => ⟨X.env.qual ++ "<lambda>", ar, bd, sc, cloFrom X.env.cells sc.names [], c'⟩) := ⟨fun pins s σ H Q I h => by
  obtain ⟨J, W, w, k⟩ := h
  have hW : W P := w.tab P (by rw [hq]; exact fun z => nomatch z)
  have tabP := (w.well P hW).2
  have jP := (w.well P hW).1
  unfold IsW at tabP
  rw [hq] at tabP
  obtain ⟨ps, hP, ht, hc⟩ := tabP
  refine LM.lam_make I TB hcode hP ht hdef (hfree I.ok) (fun f c' s' hh I' nf => ?_) (fun cv hh => ?_) (fun f c' ps' s' I' nf nc hne ht' hc' => ?_)
  · obtain ⟨c0, e1, e2⟩ := hc pos _ hh
    cases e1
    have nJ := (wk_none w nf).1
    have p := Post.laid (o := LM.LamO f ⟨X.env.qual ++ "<lambda>", ar, bd, sc, cloFrom X.env.cells sc.names [], c'⟩) w nf
    exact ⟨.ref f, _, I', rfl, k f c' _ _ p upd_same (by rw [upd_ne (fun e => by rw [e, nJ] at e2; cases e2)]; exact e2)⟩
  · obtain ⟨c0, e1, e2⟩ := hc pos cv hh
    exact ⟨c0, e1, w.sub _ _ e2⟩
  · have nPc : P ≠ c' := ne_of_none hP nc
    have nPf : P ≠ f := ne_of_none hP nf
    have jc := (wk_none w nc)
    have jf := (wk_none w nf)
    refine ⟨.ref f, _, I', rfl, k f c' _ (upd (upd J c' (LamX.CodeO c' (X.env.qual ++ "<lambda>"))) f (LM.LamO f ⟨X.env.qual ++ "<lambda>", ar, bd, sc, cloFrom X.env.cells sc.names [], c'⟩)) ?_ upd_same (by rw [upd_ne hne.symm, upd_same])⟩
    have ext : Same J (upd (upd J c' (LamX.CodeO c' (X.env.qual ++ "<lambda>"))) f (LM.LamO f ⟨X.env.qual ++ "<lambda>", ar, bd, sc, cloFrom X.env.cells sc.names [], c'⟩)) := fun b o hb => by
      rw [upd_ne (fun e => by rw [e, jf.1] at hb; cases hb), upd_ne (fun e => by rw [e, jc.1] at hb; cases hb)]; exact hb
    refine ⟨ext, ⟨fun b o hb => ?_, fun b hb => ?_, w.tab⟩, fun b o hb => ?_, fun b o hb nb => ?_, fun b hb => hb, fun b hb => .inl hb⟩
    · by_cases e1 : b = f
      · subst e1; rw [upd_same] at hb ⊢; exact hb
      · rw [upd_ne e1] at hb ⊢
        by_cases e2 : b = c'
        · subst e2; rw [upd_same] at hb ⊢; exact hb
        · rw [upd_ne e2] at hb ⊢
          rw [upd_ne (fun e => by rw [e, jP] at hb; cases hb)]
          exact w.sub b o hb
    · have n1 : b ≠ f := fun e => jf.2 (by rw [← e]; exact hb)
      have n2 : b ≠ c' := fun e => jc.2 (by rw [← e]; exact hb)
      rw [upd_ne n1, upd_ne n2, upd_ne n1, upd_ne n2]
      refine ⟨(w.well b hb).1, ?_⟩
      by_cases e : b = P
      · subst e
        rw [upd_same]
        unfold IsW
        rw [hq]
        refine ⟨ps', rfl, ht', fun p' cv hcv => ?_⟩
        rcases hc' p' cv hcv with z | z
        · obtain ⟨c0, z1, z2⟩ := hc p' cv z
          exact ⟨c0, z1, ext _ _ z2⟩
        · exact ⟨c', z, by rw [upd_ne hne.symm, upd_same]⟩
      · rw [upd_ne e]
        exact (w.well b hb).2.mono ext
    · by_cases e1 : b = f
      · exact .inr (by rw [e1]; exact nf)
      · rw [upd_ne e1] at hb
        by_cases e2 : b = c'
        · exact .inr (by rw [e2]; exact nc)
        · rw [upd_ne e2] at hb; exact .inl hb
    · have n3 : b ≠ P := fun e => nb (by rw [e]; exact hW)
      rw [upd_ne (ne_of_none hb nf), upd_ne (ne_of_none hb nc), upd_ne n3]
      exact hb⟩
/-! ### .. and called -/
/-- what is known of cells holds -/
def CzOk (C : Cfg) (h : Heap) (H : Hp) : Prop := ∀ z ∈ C.cz, NdefX.CellsAt z.1 z.2.1 z.2.2 h H
theorem CzOk.later {X : Cx} {C : Cfg} {pins : List (Addr × Obj)} {σ : St} {H : Hp} {s : Shared} (c : CzOk C X.s_0.heap X.H_0) (hx : X.ex = []) (I : Inv X pins σ H s) : CzOk C s.heap H := fun z hz => by
  have D := c z hz
  have kp : ∀ y a, z.1.lookup y = some a → ∀ v, X.s_0.heap.IsCell a v → s.heap.IsCell a v := fun y a e v ⟨o, ho, hd⟩ => by
    obtain ⟨sl, q⟩ := I.base.any ho (D.all y a e).1 (by rw [hx]; exact List.not_mem_nil)
    exact ⟨_, q, hd⟩
  refine ⟨D.len, fun y a e => ?_, D.inj, fun i y e => ?_⟩
  · obtain ⟨n, v, q⟩ := D.all y a e
    refine ⟨?_, v, kp y a e v q⟩
    obtain ⟨o, ho, _⟩ := q
    exact I.base.free a o ho n (by rw [hx]; exact List.not_mem_nil)
  · obtain ⟨a, ha, hv⟩ := D.has i y e
    exact ⟨a, ha, fun v ev => (hv v ev).elim fun u q => ⟨u, q.1, kp y a ha _ q.2⟩⟩
/-- the promise of the lambda k, over what it captured -/
structure FnL (P : Program) (w : World) (C : Cfg) (base : Heap) (kk : Nat) (k : Nat) (S : SpD) : Prop where
  ok : ∀ (A : Around) (outer : List Env) (s : Shared) (H : Hp) (f : Addr) (us : List Value) (vs : List V) (Q : VK) (Ex : XK) (J : Hp) (W : Addr → Prop) (cs ds : List D) (E : Exc → Prop) (Qd : D → Prop), Room kk A → A.guards = some [] → Env0 P w C.K C.mg base A outer s H → CzOk C s.heap H →
    Wk C.tq J W H → DA C J W (.fn k cs) (.ref f) → DAs C J W ds vs → Vals vs us → S (cs ++ ds) E Qd → (∀ v H' J' W' d, Post C.tq J W H J' W' H' → DA C J' W' d v → Qd d → Q v H') →
    (∀ x cls dd H' J' W', Post C.tq J W H J' W' H' → ExD C x cls dd J' W' H' → E x → Ex cls dd H') → codeAny (model P w) A (.call (.ref f) ⟨us, []⟩) (CR (L2.CX P w) outer P w H s Q Ex) s
def wCallV (i : Nat) (L : Nat → SpD) (ws : WA') : WE' := fun ρ E Q => match getS ρ i with
  | some (.fn k cs) => ws ρ E fun ds => L k (cs ++ ds) E Q
  | _ => False
theorem se_callV {X : Cx} {C : Cfg} {Wx : WX} {j kk i : Nat} {x : Str} {e : Expr} {es : List Expr} {p pos : Pos} {ws : WA'} {L : Nat → SpD} (T : Ctx X C Wx j) (hj : kk ≤ j) (hx : X.ex = []) (hc : CzOk C X.s_0.heap X.H_0) (F : ∀ k, FnL X.prog X.w C X.base kk k (L k))
    (hN : X.N[i]? = some x) (hv : Vis X.env.scope x) (hd : (x == ("__debug__" : Str)) = false) (hcd : (x == ("__classdict__" : Str)) = false) (ha : PA X (e :: es) (tAs C Wx ws)) (hs : (e :: es).all (fun e => !isStar e) = true) :
    PE X (.Call (.Name x p) (e :: es) [] pos) (tE C Wx (wCallV i L ws)) := by
  refine ⟨fun pins s σ H Q I h => ?_⟩
  obtain ⟨J, W, ρ, E, Qd, w, env, h, g⟩ := h
  have hs' : isStar e = false ∧ es.all (fun e => !isStar e) = true := by simpa using hs
  unfold wCallV at h
  split at h
  · rename_i k cs hk
    obtain ⟨v0, e0, da0⟩ := env.get i _ hk
    obtain ⟨f, F0, fr, cvs, rfl, f2, f3, f4, f5, f6⟩ := id da0
    refine wpAny_Call_Name_kw (thn ((pe_var (pos := p) hN hv hd hcd).run pins s σ H (fun v H1 => v = .ref f ∧ H1 = H) I ⟨.ref f, e0, rfl, rfl⟩) fun u s1 ⟨v, H1, I1, r1, ev, eH⟩ => ?_)
    subst ev
    subst eH
    obtain rfl : u = Value.ref f := r1
    have at_ : ∀ {σ1 : St} {H1 : Hp} {s1 : Shared}, Inv X pins σ1 H1 s1 → H1 f = some (LM.LamO f F0) → PySem.W.FnAt f s1.heap := fun I1 hf => by
      obtain ⟨pm, ctv, ho⟩ := LM.lamO_at I1.hok hf
      exact ⟨_, _, _, _, ho⟩
    refine PySem.W.callWith_F (first := []) (at_ I1 (w.sub _ _ f2)) (thn (ha.run pos pins s1 σ H1 (fun vs H2 => ∃ J2 W2 ds, Post C.tq J W H1 J2 W2 H2 ∧ DAs C J2 W2 ds vs ∧ L k (cs ++ ds) E Qd) I1
      ⟨J, W, ρ, E, _, w, env, h, fun vs H2 J2 W2 ds p2 da2 q2 => ⟨J2, W2, ds, p2, da2, q2⟩, g.ex⟩) fun us s2 ⟨vs, H2, I2, r, J2, W2, ds, p2, da2, q2⟩ => ⟨at_ I2 (p2.wk.sub _ _ (p2.ext _ _ f2)), ?_⟩) (star_one hs'.1) (star_none hs'.2)
    show wpAny _ _ (call (.ref f) us) _ _ _
    have g2 := g.behind p2
    have e1 : Env0 X.prog X.w C.K C.mg X.base X.A X.stack s2 H2 := by
      have := I2.env0
      rw [T.K, T.mg] at this
      exact this
    refine wpAny_call (codeAny_mono ((F k).ok X.A X.stack s2 H2 f us vs Q (fun cls d H' => Wx cls d σ H') J2 W2 cs ds E Qd (T.room.mono hj) T.gd e1 (hc.later hx I2) p2.wk (p2.da da0) da2 r q2 g2.ok g2.ex) fun r s' hq => ?_)
    cases r with
    | error e => exact T.tk e s' (XE.of_call I2 (fun _ _ _ z => z) hq)
    | ok fl =>
      cases fl with
      | ret u => exact I2.after hq
      | next => exact False.elim hq
      | brk => exact False.elim hq
      | cont => exact False.elim hq
  · exact h.elim
/-! ### a def that gets closures -/
structure FnH (P : Program) (w : World) (C : Cfg) (base : Heap) (k : Nat) (x : Str) (ps : List Str) (S : SpD) (f : Addr) (fd : FuncData) : Prop where
  mg : C.mg x = some (.ref f)
  kp : PySem.W.keepIn C.K (.ref f) = true
  bd : Binds C.K fd ps []
  ok : ∀ (cz : List CZ) (A : Around) (outer : List Env) (s : Shared) (H : Hp) (args : Args) (us : List Value) (vs : List V) (Q : VK) (Ex : XK), Room k A → A.guards = some [] → Env0 P w C.K C.mg base A outer s H → CzOk { C with cz := cz } s.heap H →
    BindsTo s fd args (ps.zip us) → Vals vs us → spOf { C with cz := cz } ps.length S vs H Q Ex → codeAny (model P w) A (.call (.ref f) args) (CR (L2.CX P w) outer P w H s Q Ex) s
end L2.DL
namespace L2.DL
open PySem PySem.Spec PyProof.Rows

/-! ### h(e, .., lambda): the closure made and handed in -/
def capt (ρ : Env') : List Nat → Option (List D)
  | [] => some []
  | j :: js => match getS ρ j, capt ρ js with
    | some d, some ds => some (d :: ds)
    | _, _ => none
theorem capt_ok {C : Cfg} {J : Hp} {W : Addr → Prop} {ρ : Env'} {σ : St} (env : EnvOk C J W ρ σ) : ∀ {js : List Nat} {cs : List D}, capt ρ js = some cs → ∃ vs, js.map (NdefX.slotAt σ) = vs.map some ∧ DAs C J W cs vs
  | [], cs, h => by cases h; exact ⟨[], rfl, rfl⟩
  | j :: js, cs, h => by
    unfold capt at h
    split at h
    · rename_i d ds h1 h2
      cases h
      obtain ⟨vs, e1, e2⟩ := capt_ok env h2
      obtain ⟨v, e3, e4⟩ := env.get j d h1
      exact ⟨v :: vs, by simp [NdefX.slotAt_of e3, e1], v, vs, rfl, e4, e2⟩
    · cases h
def tAL (C : Cfg) (Wx : WX) (ws : WA') (q : Str) (mk : Addr → LM.LF) : TA := fun σ H Q => ∃ J W ρ E Qd, Wk C.tq J W H ∧ EnvOk C J W ρ σ ∧ ws ρ E Qd ∧
  (∀ vs f c' H' J' W' ds, Post C.tq J W H J' W' H' → DAs C J' W' ds vs → J' f = some (LM.LamO f (mk c')) → J' c' = some (LamX.CodeO c' q) → Qd ds → Q (vs ++ [.ref f]) H') ∧
  (∀ x cls d H' J' W', Post C.tq J W H J' W' H' → ExD C x cls d J' W' H' → E x → Wx cls d σ H')
section
variable {X : Cx} {C : Cfg} {Wx : WX} {e lam : Expr} {es : List Expr} {q : Str} {mk : Addr → LM.LF} {wa : WE'} {ws : WA'}
theorem al_nil (hl : PE X lam (tLm C q mk)) (hs : isStar lam = false) : PA X [lam] (tAL C Wx wNil q mk) := pa_imp (pa_cons hl pa_nil (star_one hs)) fun σ H Q ⟨J, W, ρ, E, Qd, w, env, h, ok, ex⟩ =>
  ⟨J, W, w, fun f c' H' J' p e1 e2 => ok [] f c' H' J' W [] p rfl e1 e2 h⟩
theorem al_cons (he : PE X e (tE C Wx wa)) (hr : PA X (es ++ [lam]) (tAL C Wx ws q mk)) (hs : isStar e = false) : PA X (e :: (es ++ [lam])) (tAL C Wx (wCons wa ws) q mk) :=
  pa_imp (pa_cons he hr (star_one hs)) fun σ H Q ⟨J, W, ρ, E, Qd, w, env, h, ok, ex⟩ =>
    ⟨J, W, ρ, E, _, w, env, h, fun v H1 J1 W1 d p da r => ⟨J1, W1, ρ, E, _, p.wk, p.env env, r, fun vs f c' H' J' W' ds p2 da2 e1 e2 r2 => ok (v :: vs) f c' H' J' W' (d :: ds) (p.trans p2) ⟨v, vs, rfl, p2.da da, da2⟩ e1 e2 r2, fun x cls dd H' J' W' p2 xd r2 => ex x cls dd H' J' W' (p.trans p2) xd r2⟩, ex⟩
end
def wCallL (n : Nat) (S : SpD) (ws : WA') (kl : Nat) (js : List Nat) : WE' := fun ρ E Q => ws ρ E fun ds => ds.length + 1 = n ∧ match capt ρ js with
  | some cs => S (ds ++ [.fn kl cs]) (fun x => noFn x.2 = true ∧ E x) (fun d => noFn d = true ∧ Q d)
  | none => False
theorem exd_dn {C : Cfg} {x : Exc} {cls : Value} {d : Option Addr} {J : Hp} {W : Addr → Prop} {H : Hp} (h : ExD C x cls d J W H) (n : noFn x.2 = true) : ExD { C with cz := [] } x cls d J W H := by
  obtain ⟨c, h1, h2, h3⟩ := h
  exact ⟨c, h1, h2, fun f hf => (h3 f hf).elim fun dd z => z.elim fun v z => ⟨dd, v, z.1, z.2.1, da_dn z.2.2 n⟩⟩
theorem se_callL {X : Cx} {C : Cfg} {Wx : WX} {j kk kl : Nat} {x : Str} {ps fr : List Str} {S : SpD} {f : Addr} {fd : FuncData} {e0 : Expr} {q0 : List Expr} {ar : Arguments} {bd : Expr} {sc : Scope} {p pos : Pos} {ws : WA'} {js : List Nat} (T : Ctx X C Wx j) (hcz : C.cz = []) (hj : kk ≤ j) (F : FnH X.prog X.w C X.base kk x ps S f fd) (hg : Gl X x)
    (ha : PA X (e0 :: q0) (tAL C Wx ws (X.env.qual ++ "<lambda>") fun c' => ⟨X.env.qual ++ "<lambda>", ar, bd, sc, cloFrom X.env.cells sc.names [], c'⟩)) (hL : C.lam kl ⟨X.env.qual ++ "<lambda>", ar, bd, sc, fr⟩) (cp : X.Ok → NdefX.Caps X (cloFrom X.env.cells sc.names []) fr js)
    (hs : (e0 :: q0).all (fun e => !isStar e) = true) (hdb : (x == ("__debug__" : Str)) = false) : PE X (.Call (.Name x p) (e0 :: q0) [] pos) (tE C Wx (wCallL ps.length S ws kl js)) := by
  refine ⟨fun pins s σ H Q I h => ?_⟩
  obtain ⟨J, W, ρ, E, Qd, w, env, h, g⟩ := h
  have hs' : isStar e0 = false ∧ q0.all (fun e => !isStar e) = true := by simpa using hs
  refine wpAny_Call_Name_kw (ld_glob I hg (by rw [T.mg]; exact F.mg) ?_ hdb)
  refine PySem.W.callWith_K (h₀ := X.base) I.ok.mod.kin (by rw [T.K]; exact F.kp) (thn (ha.run pos pins s σ H (fun vs H1 => ∃ vs0 f0 c0 J1 W1 ds, vs = vs0 ++ [V.ref f0] ∧ Post C.tq J W H J1 W1 H1 ∧ DAs C J1 W1 ds vs0 ∧ J1 f0 = some (LM.LamO f0 ⟨X.env.qual ++ "<lambda>", ar, bd, sc, cloFrom X.env.cells sc.names [], c0⟩) ∧ J1 c0 = some (LamX.CodeO c0 (X.env.qual ++ "<lambda>")) ∧
      ds.length + 1 = ps.length ∧ ∃ cs, capt ρ js = some cs ∧ S (ds ++ [.fn kl cs]) (fun x => noFn x.2 = true ∧ E x) (fun d => noFn d = true ∧ Qd d)) I
    ⟨J, W, ρ, E, _, w, env, h, fun vs f c' H' J' W' ds p da e1 e2 q => ⟨vs, f, c', J', W', ds, rfl, p, da, e1, e2, q.1, ?_⟩, g.ex⟩) fun us s1 ⟨vs, H1, I1, r, q⟩ => ⟨I1.kIn, ?_⟩) (star_one hs'.1) (star_none hs'.2)
  · have q2 := q.2
    split at q2
    · rename_i cs hc; exact ⟨cs, hc, q2⟩
    · exact q2.elim
  · obtain ⟨vs0, f0, c0, J1, W1, ds, rfl, p1, da, e1, e2, hn, cs, hc, q⟩ := q
    obtain ⟨cvs, c1, c2⟩ := capt_ok (p1.env env) hc
    have cells := NdefX.cells_of I1 (cp I1.ok)
    rw [c1] at cells
    have eC : ({ ({ C with cz := [(cloFrom X.env.cells sc.names [], fr, cvs.map some)] } : Cfg) with cz := [] } : Cfg) = C := by cases C; cases hcz; rfl
    have up : ∀ {ds : List D} {vs : List V} {J : Hp} {W : Addr → Prop}, DAs C J W ds vs → DAs { C with cz := [(cloFrom X.env.cells sc.names [], fr, cvs.map some)] } J W ds vs := fun h => das_up (by rw [eC]; exact h)
    have g1 := g.behind p1
    have e9 : Env0 X.prog X.w C.K C.mg X.base X.A X.stack s1 H1 := by
      have := I1.env0
      rw [T.K, T.mg] at this
      exact this
    have sp : spOf { C with cz := [(cloFrom X.env.cells sc.names [], fr, cvs.map some)] } ps.length S (vs0 ++ [V.ref f0]) H1 Q fun cls d H' => Wx cls d σ H' :=
      ⟨J1, W1, ds ++ [.fn kl cs], _, _, p1.wk, (up da).append (show DAs { C with cz := [(cloFrom X.env.cells sc.names [], fr, cvs.map some)] } J1 W1 [.fn kl cs] [V.ref f0] from ⟨.ref f0, [], rfl, ⟨f0, _, fr, cvs, rfl, e1, e2, hL, List.mem_cons_self .., up c2⟩, rfl⟩), by rw [List.length_append]; exact hn, q,
        fun v H' J' W' d p2 d2 q2 => g1.ok v H' J' W' d p2 (by have z := da_dn d2 q2.1; rw [eC] at z; exact z) q2.2, fun x cls dd H' J' W' p2 xd q2 => g1.ex x cls dd H' J' W' p2 (by have z := exd_dn xd q2.1; rw [eC] at z; exact z) q2.2⟩
    have hl : us.length = ps.length := by
      rw [← r.length, List.length_append, da.length]
      exact hn
    refine wpAny_call (codeAny_mono (F.ok _ X.A X.stack s1 H1 ⟨us, []⟩ us _ Q _ (T.room.mono hj) T.gd e9 (fun z hz => ?_) (by
      have := F.bd s1 us (by rw [← T.K]; exact I1.kIn) (by simpa using hl)
      simpa using this) r sp) fun r s' hq => ?_)
    · cases List.mem_singleton.mp hz
      exact cells
    · cases r with
      | error e => exact T.tk e s' (XE.of_call I1 (fun _ _ _ z => z) hq)
      | ok fl =>
        cases fl with
        | ret u => exact I1.after hq
        | next => exact False.elim hq
        | brk => exact False.elim hq
        | cont => exact False.elim hq
/-- a def that gets closures, called from a frame that got them -/
theorem se_callQ {X : Cx} {C : Cfg} {Wx : WX} {j kk : Nat} {x : Str} {ps : List Str} {S : SpD} {f : Addr} {fd : FuncData} {e0 : Expr} {q0 : List Expr} {p pos : Pos} {ws : WA'} (T : Ctx X C Wx j) (hj : kk ≤ j) (hx : X.ex = []) (hc : CzOk C X.s_0.heap X.H_0) (F : FnH X.prog X.w (cz0 C) X.base kk x ps S f fd) (hg : Gl X x)
    (ha : PA X (e0 :: q0) (tAs C Wx ws)) (hs : (e0 :: q0).all (fun e => !isStar e) = true) (hdb : (x == ("__debug__" : Str)) = false) : PE X (.Call (.Name x p) (e0 :: q0) [] pos) (tE C Wx (wCall ps.length S ws)) := by
  refine ⟨fun pins s σ H Q I h => ?_⟩
  obtain ⟨J, W, ρ, E, Qd, w, env, h, g⟩ := h
  have hs' : isStar e0 = false ∧ q0.all (fun e => !isStar e) = true := by simpa using hs
  have eC : ({ cz0 C with cz := C.cz } : Cfg) = C := by cases C; rfl
  refine wpAny_Call_Name_kw (ld_glob I hg (by rw [T.mg]; exact F.mg) ?_ hdb)
  refine PySem.W.callWith_K (h₀ := X.base) I.ok.mod.kin (by rw [T.K]; exact F.kp) (thn (ha.run pos pins s σ H (fun vs H1 => spOf C ps.length S vs H1 Q fun cls d H' => Wx cls d σ H') I
    ⟨J, W, ρ, E, _, w, env, h, fun v H1 J1 W1 d p da q => sp_go p.wk da q.1 q.2 (g.behind p), g.ex⟩) fun us s1 ⟨vs, H1, I1, r, q⟩ => ⟨I1.kIn, ?_⟩) (star_one hs'.1) (star_none hs'.2)
  have hl : us.length = ps.length := by
    obtain ⟨_, _, ds, _, _, _, da, hn, _⟩ := q
    rw [← r.length, da.length, hn]
  have e9 : Env0 X.prog X.w C.K C.mg X.base X.A X.stack s1 H1 := by
    have := I1.env0
    rw [T.K, T.mg] at this
    exact this
  refine wpAny_call (codeAny_mono (F.ok C.cz X.A X.stack s1 H1 ⟨us, []⟩ us vs Q _ (T.room.mono hj) T.gd e9 (by rw [eC]; exact hc.later hx I1) (by
      have := F.bd s1 us (by rw [← T.K]; exact I1.kIn) (by simpa using hl)
      simpa using this) r (by rw [eC]; exact q)) fun r s' hq => ?_)
  cases r with
  | error e => exact T.tk e s' (XE.of_call I1 (fun _ _ _ z => z) hq)
  | ok fl =>
    cases fl with
    | ret u => exact I1.after hq
    | next => exact False.elim hq
    | brk => exact False.elim hq
    | cont => exact False.elim hq
end L2.DL
namespace L2.DL
open PySem PySem.Spec PyProof.Rows

/-! ### texts of defs, as data -/
inductive BO where
  | add | sub | mul | fdiv | mod | pow | shl | shr | band | bor | bxor | lt | le | gt | ge | is | isNot | eq | ne | inn | notIn
  deriving DecidableEq
def bo : BO → Op2
  | .add => dAdd | .sub => dSub | .mul => dMul | .fdiv => dFdiv | .mod => dMod | .pow => dPow | .shl => dShl | .shr => dShr | .band => dAnd | .bor => dOr | .bxor => dXor
  | .lt => dLt | .le => dLe | .gt => dGt | .ge => dGe | .is => dIs | .isNot => dIsNot | .eq => dEq | .ne => dNe | .inn => dIn | .notIn => dNotIn
inductive Blt where
  | len | tuple | list | abs | max2 | min2 | int | divmod | gcd | str | all | any | repr | bool | sum | sort | max1 | min1
  deriving DecidableEq
def blt : Blt → OpN
  | .len => bLen | .tuple => bTuple | .list => bList | .abs => bAbs | .max2 => bMax2 | .min2 => bMin2 | .int => bInt | .divmod => bDivmod | .gcd => bGcd | .str => bStr | .all => bAll | .any => bAny | .repr => bRepr | .bool => bBool | .sum => bSum | .sort => bSort | .max1 => bMax1 | .min1 => bMin1
mutual
inductive DE where
  | stuck | var (i : Nat) | non | bl (b : Bool) | int (i : Int) | str (s : Str) | kt (ns : List Int) | bin (o : BO) (a b : DE) | chain (o o' : BO) (a b c : DE)
  | and (a b : DE) | or (a b : DE) | not (a : DE) | neg (a : DE) | ite (c : DT) (a b : DE) | tup (a : DEs) | lst (a : DEs)
  | call (f n : Nat) (a : DEs) | callP (f n : Nat) (a : DEs) | callV (i : Nat) (a : DEs) | callQ (f n : Nat) (a : DEs) | callL (f n : Nat) (a : DEs) (kl : Nat) (js : List Nat) | callK (f n m : Nat) (pm : List Nat) (a : DEs) | blt (b : Blt) (a : DEs) | isi (T : String) (a : DE)
  | ix (a b : DE) | rev (a : DE) | lenset (a : DE) | rgv (tp : Bool) (a : DEs) | sl (a : DE) (lo hi : DO) | comp (vs : List Nat) (i : DI) (p : Pt) (t : DT) (e : DE) | comp2 (vs vs1 : List Nat) (i : DI) (p : Pt) (t : DT) (i1 : DI) (p1 : Pt) (t1 : DT) (e : DE)
  deriving DecidableEq
inductive DEs where
  | bad | nil | cons (a : DE) (r : DEs) | star (a : DE) (r : DEs)
  deriving DecidableEq
inductive DO where
  | none | some (e : DE)
  deriving DecidableEq
inductive DT where
  | stuck | yes | val (e : DE) | not (a : DT) | and (a b : DT) | or (a b : DT)
  deriving DecidableEq
inductive DI where
  | items (e : DE) | rng1 (a : DEs) | rng2 (a : DEs) | rng3 (a : DEs) | enum (a : DEs) | zip (a : DEs)
  deriving DecidableEq
end
def wStuck : WE' := fun _ _ _ => False
def aStuck : WA' := fun _ _ _ => False
def tStuck : WT' := fun _ _ _ => False
mutual
def wE (Sg : Nat → SpD) : DE → WE'
  | .stuck => wStuck
  | .var i => wVar i
  | .non => wCst .non
  | .bl b => wCst (.bl b)
  | .int i => wCst (.int i)
  | .str s => wCst (.str s)
  | .kt ns => wCst (.kt ns)
  | .bin o a b => wBin (bo o) (wE Sg a) (wE Sg b)
  | .chain o o' a b c => wChain (bo o) (bo o') (wE Sg a) (wE Sg b) (wE Sg c)
  | .and a b => wAnd (wE Sg a) (wE Sg b)
  | .or a b => wOr (wE Sg a) (wE Sg b)
  | .not a => wNot (wE Sg a)
  | .neg a => wNeg (wE Sg a)
  | .ite c a b => wIte (wT Sg c) (wE Sg a) (wE Sg b)
  | .tup a => wTup (wA Sg a)
  | .lst a => wLst (wA Sg a)
  | .call f n a => wCall n (Sg f) (wA Sg a)
  | .callV i a => wCallV i (fun k => Sg (1000 + k)) (wA Sg a)
  | .callP f n a => wCallP n (Sg f) (wA Sg a)
  | .callQ f n a => wCall n (Sg f) (wA Sg a)
  | .callL f n a kl js => wCallL n (Sg f) (wA Sg a) kl js
  | .callK f n m pm a => wCallK n m (permD D.non pm) (Sg f) (wA Sg a)
  | .blt b a => wBlt (blt b) (wA Sg a)
  | .isi T a => wIsi T (wE Sg a)
  | .ix a b => wBin dIx (wE Sg a) (wE Sg b)
  | .rev a => wRev (wE Sg a)
  | .lenset a => wLenSet (wE Sg a)
  | .rgv tp a => wRgv tp (wA Sg a)
  | .sl a lo hi => wSl (wE Sg a) (wO Sg lo) (wO Sg hi)
  | .comp vs i p t e => wComp vs (wI Sg i) p (wT Sg t) (wE Sg e)
  | .comp2 vs vs1 i p t i1 p1 t1 e => wComp2 vs vs1 (wI Sg i) p (wT Sg t) (wI Sg i1) p1 (wT Sg t1) (wE Sg e)
def wA (Sg : Nat → SpD) : DEs → WA'
  | .bad => aStuck
  | .nil => wNil
  | .cons a r => wCons (wE Sg a) (wA Sg r)
  | .star a r => wStar (wE Sg a) (wA Sg r)
def wO (Sg : Nat → SpD) : DO → Option WE'
  | .none => none
  | .some e => some (wE Sg e)
def wT (Sg : Nat → SpD) : DT → WT'
  | .stuck => tStuck
  | .yes => wYes
  | .val e => tTru (wE Sg e)
  | .not a => tNot' (wT Sg a)
  | .and a b => tAnd' (wT Sg a) (wT Sg b)
  | .or a b => tOr' (wT Sg a) (wT Sg b)
def wI (Sg : Nat → SpD) : DI → WA'
  | .items e => wItems (wE Sg e)
  | .rng1 a => wRng1 (wA Sg a)
  | .rng2 a => wRng2 (wA Sg a)
  | .rng3 a => wRng3 (wA Sg a)
  | .enum a => wEnum (wA Sg a)
  | .zip a => wZip (wA Sg a)
end
/-! ### what is known ahead of a def -/
inductive DC where
  | non | bl (b : Bool) | int (i : Int) | str (s : Str) | kt (ns : List Int)
  deriving DecidableEq
def dcE : DC → DE
  | .non => .non | .bl b => .bl b | .int i => .int i | .str s => .str s | .kt ns => .kt ns
def dcU (K : PySem.W.Frag) (c : DC) (u : Value) : Prop := match c with
  | .non => RelV .non u
  | .bl b => RelV (.bl b) u
  | .int i => RelV (.int i) u
  | .str s => RelV (.str s) u
  | .kt ns => ∃ a, u = .ref a ∧ KTup K a (ns.map V.int)
structure FI where
  name : Str
  ps : List Str
  kw : List (List Str) := []
  hof : Bool := false
  deriving DecidableEq
/-- the defs that may be called, the module's constants, the builtins that nothing hides, what is imported -/
structure Glo where
  tb : List FI
  gl : List (Str × DC) := []
  bl : List Str := []
  gb : List (Str × String) := []
structure Sta where
  G : Glo
  N : List Str
  sc : Scope
  fn : Str → Bool := fun _ => true
  own : List Str := []
  fz : List (Nat × Str) := []
  fl : List Nat := []
  wl : List Str := []
  rw : Bool := false
  hof : Bool := false
  hv : Bool := false
  lamk : Expr → Option (Nat × List Str) := fun _ => none
/-- the places of the parameters among the keywords -/
def pmOf (ps ks : List Str) : List Nat := ps.map fun p => ks.findIdx (· == p)
structure Gk (Sg : Nat → SpD) (G : Glo) (P : Program) (w : World) (C : Cfg) (base : Heap) (k : Nat) : Prop where
  tb : ∀ i fi, G.tb[i]? = some fi → i + 1 ≤ k ∧ ∃ f fd, (fi.hof = false → FnD P w C base (i + 1) fi.name fi.ps (Sg i) f fd) ∧ (fi.hof = true → FnH P w C base (i + 1) fi.name fi.ps (Sg i) f fd) ∧ ∀ ks ∈ fi.kw, KwB C.K fd fi.ps ks (pmOf fi.ps ks)
  gl : ∀ x c, G.gl.lookup x = some c → ∃ u, C.mg x = some u ∧ dcU C.K c u
  bl : ∀ x ∈ G.bl, C.mg x = none
  gb : ∀ x id, G.gb.lookup x = some id → C.mg x = some (.builtin id)
structure Lk (Sg : Nat → SpD) (S : Sta) (X : Cx) (C : Cfg) (Wx : WX) (k : Nat) : Prop extends Ctx X C Wx k where
  N : X.N = S.N
  sc : X.env.scope = S.sc
  fn : ∀ x, S.fn x = true → X.fn x = true
  gk : Gk Sg S.G X.prog X.w (cz0 C) X.base k
  pl : S.hof = false → C.cz = []
  lm : S.hv = true → X.ex = [] ∧ CzOk C X.s_0.heap X.H_0 ∧ ∃ kk, kk ≤ k ∧ ∀ j, FnL X.prog X.w C X.base kk j (Sg (1000 + j))
  mkr : ∀ ar bd sc pos kl fr, S.lamk (.Lambda ar bd sc pos) = some (kl, fr) → (∃ c P, X.env.code = .ref c ∧ LamX.TabB X.base X.mg c P ∧ C.tq P = some (X.env.qual ++ "<lambda>")) ∧ C.lam kl ⟨X.env.qual ++ "<lambda>", ar, bd, sc, fr⟩
/-! ### from a text to its data -/
def slotOf : List Str → Str → Option Nat
  | [], _ => none
  | y :: r, x => if y == x then some 0 else (slotOf r x).map (· + 1)
theorem slotOf_at : ∀ {N : List Str} {x : Str} {i : Nat}, slotOf N x = some i → N[i]? = some x
  | [], _, _, h => by cases h
  | y :: r, x, i, h => by
    unfold slotOf at h
    split at h
    · rename_i e
      cases h
      rw [eq_of_beq e]; rfl
    · cases e : slotOf r x with
      | none => rw [e] at h; cases h
      | some j =>
        rw [e] at h
        cases h
        simpa using slotOf_at e
def dbg (x : Str) : Bool := (x == ("__debug__" : Str)) || (x == ("__classdict__" : Str)) || (x == ("__name__" : Str))
theorem dbg_no {x : Str} (h : dbg x = false) : (x == ("__debug__" : Str)) = false ∧ (x == ("__classdict__" : Str)) = false ∧ x ≠ "__name__" := by
  unfold dbg at h
  have h' : ((x == ("__debug__" : Str)) = false ∧ (x == ("__classdict__" : Str)) = false) ∧ (x == ("__name__" : Str)) = false := by simpa [Bool.or_eq_false_iff] using h
  exact ⟨h'.1.1, h'.1.2, fun e => by subst e; have := h'.2; revert this; decide⟩
def cName (S : Sta) (x : Str) : DE := if dbg x then .stuck else match S.sc.names.lookup x with
  | some .local | some .cell | some .free => (match slotOf S.N x with
    | some i => .var i
    | none => .stuck)
  | some .globalImplicit => (match S.G.gl.lookup x with
    | some c => dcE c
    | none => .stuck)
  | _ => .stuck
def cConst : Const → DE
  | .none => .non
  | .bool b => .bl b
  | .int i => .int i
  | .str s => .str s
  | _ => .stuck
def cOp : Operator → Option BO
  | .Add => some .add | .Sub => some .sub | .Mult => some .mul | .FloorDiv => some .fdiv | .Mod => some .mod | .Pow => some .pow | .LShift => some .shl | .RShift => some .shr | .BitAnd => some .band | .BitOr => some .bor | .BitXor => some .bxor
  | _ => none
def cCmpO : CmpOp → Option BO
  | .Lt => some .lt | .LtE => some .le | .Gt => some .gt | .GtE => some .ge | .Is => some .is | .IsNot => some .isNot | .Eq => some .eq | .NotEq => some .ne | .In => some .inn | .NotIn => some .notIn
def cBin (r : Expr → DE) (a : Expr) (o : Operator) (b : Expr) : DE := match cOp o with
  | some o => .bin o (r a) (r b)
  | none => .stuck
def cCmp (r : Expr → DE) (a : Expr) : List CmpOp → List Expr → DE
  | [o], [b] => (match cCmpO o with
    | some o' => if behindInMarks o b then .stuck else .bin o' (r a) (r b)
    | none => .stuck)
  | [o1, o2], [b, c] => (match cCmpO o1, cCmpO o2 with
    | some o1', some o2' => if lastMarks [o1, o2] [b, c] then .stuck else .chain o1' o2' (r a) (r b) (r c)
    | _, _ => .stuck)
  | _, _ => .stuck
def cBool (r : Expr → DE) : BoolOp → List Expr → DE
  | _, [] => .stuck
  | _, [a] => r a
  | .And, a :: b :: q => .and (r a) (cBool r .And (b :: q))
  | .Or, a :: b :: q => .or (r a) (cBool r .Or (b :: q))
def cUn (r : Expr → DE) : UnaryOp → Expr → DE
  | .Not, a => .not (r a)
  | .USub, a => .neg (r a)
  | _, _ => .stuck
def cA (r : Expr → DE) : List Expr → DEs
  | [] => .nil
  | e :: es => if isStar e then (match e with
    | .Starred a _ => .star (r a) (cA r es)
    | _ => .bad) else .cons (r e) (cA r es)
def cO (r : Expr → DE) : Option Expr → DO
  | none => .none
  | some e => .some (r e)
def cSub (r : Expr → DE) (a : Expr) : Expr → DE
  | .Slice lo hi none _ => .sl (r a) (cO r lo) (cO r hi)
  | .Slice none none (some (.UnaryOp .USub (.Constant (.int i) _ _) _)) _ => if i = 1 then .rev (r a) else .stuck
  | b => if isSlice b then .stuck else .ix (r a) (r b)
def bltNm : Blt → Str
  | .len => "len" | .tuple => "tuple" | .list => "list" | .abs => "abs" | .max2 => "max" | .min2 => "min" | .int => "int" | .divmod => "divmod" | .gcd => "gcd" | .str => "str" | .all => "all" | .any => "any" | .repr => "repr" | .bool => "bool" | .sum => "sum" | .sort => "sorted" | .max1 => "max" | .min1 => "min"
def bltTab : List (Blt × Nat) := [(.len, 1), (.tuple, 1), (.list, 1), (.abs, 1), (.max2, 2), (.min2, 2), (.int, 1), (.divmod, 2), (.str, 1), (.all, 1), (.any, 1), (.repr, 1), (.bool, 1), (.sum, 1), (.sort, 1), (.max1, 1), (.min1, 1)]
/-- builtins by name and number of values -/
def bltOf (x : Str) (n : Nat) : Option Blt := (bltTab.find? fun b => bltNm b.1 == x && b.2 == n).map (·.1)
def noStar (es : List Expr) : Bool := es.all fun e => !isStar e
def fiOf : List FI → Str → Nat → Option (Nat × FI)
  | [], _, _ => none
  | f :: r, x, i => if f.name == x then some (i, f) else fiOf r x (i + 1)
theorem fiOf_at : ∀ {tb : List FI} {x : Str} {i : Nat} {q : Nat × FI}, fiOf tb x i = some q → ∃ j, q.1 = i + j ∧ tb[j]? = some q.2 ∧ q.2.name = x
  | [], _, _, _, h => by cases h
  | f :: r, x, i, q, h => by
    unfold fiOf at h
    split at h
    · rename_i e
      cases h
      exact ⟨0, rfl, rfl, eq_of_beq e⟩
    · obtain ⟨j, h1, h2, h3⟩ := fiOf_at h
      exact ⟨j + 1, by omega, by simpa using h2, h3⟩
def isiName : Str → Option String
  | x => (["int", "bool", "str", "tuple", "list"] : List String).find? fun T => Str.ofString T == x
def kwKeys : List Keyword → Option (List Str)
  | [] => some []
  | ⟨some n, _, _⟩ :: r => (kwKeys r).map (n :: ·)
  | ⟨none, _, _⟩ :: _ => none
def kwVals (r : Expr → DE) : List Keyword → DEs
  | [] => .nil
  | ⟨_, e, _⟩ :: q => .cons (r e) (kwVals r q)
def isGl (S : Sta) (x : Str) : Bool := S.sc.names.lookup x == some .globalImplicit
def cCallN (S : Sta) (r : Expr → DE) (x : Str) (es : List Expr) : DE :=
  if dbg x || !isGl S x || !noStar es then .stuck else
  match fiOf S.G.tb x 0 with
  | some (i, f) => (match es with
    | [] => if f.ps.length = 0 ∧ S.hof = false ∧ f.hof = false then .call i f.ps.length .nil else .stuck
    | e0 :: q => if f.hof then (if S.hv then .callQ i f.ps.length (cA r (e0 :: q)) else .stuck) else if S.hof then .callP i f.ps.length (cA r (e0 :: q)) else .call i f.ps.length (cA r (e0 :: q)))
  | none => match S.G.gb.lookup x with
    | some id => if id = "math.gcd" then (match es with
      | [] => .stuck
      | e0 :: q => .blt .gcd (cA r (e0 :: q))) else .stuck
    | none => if !S.G.bl.contains x then .stuck else match x == ("isinstance" : Str), es with
      | true, [a, .Name tn _] => (match isiName tn with
        | some T => if isGl S tn && S.G.bl.contains tn && !dbg tn then .isi T (r a) else .stuck
        | none => .stuck)
      | _, es => (match bltOf x es.length, es with
        | some b, _ :: _ => .blt b (cA r es)
        | _, _ => .stuck)
def cCallK (S : Sta) (r : Expr → DE) (x : Str) (kws : List Keyword) : DE :=
  if dbg x || !isGl S x || S.hof then .stuck else
  match fiOf S.G.tb x 0, kwKeys kws with
  | some (i, f), some ks => if f.kw.contains ks && !f.hof then .callK i f.ps.length ks.length (pmOf f.ps ks) (kwVals r kws) else .stuck
  | _, _ => .stuck
def cCallV (S : Sta) (r : Expr → DE) (x : Str) (es : List Expr) : DE := match slotOf S.N x, es with
  | some i, e :: q => if S.hv && !dbg x && noStar (e :: q) && (S.sc.names.lookup x == some .local) then .callV i (cA r (e :: q)) else .stuck
  | _, _ => .stuck
/-- arguments that end with a lambda -/
def splitLam : List Expr → Option (List Expr × Expr)
  | [] => none
  | [e] => (match e with
    | .Lambda _ _ _ _ => some ([], e)
    | _ => none)
  | e :: es => (splitLam es).map fun p => (e :: p.1, p.2)
theorem splitLam_eq : ∀ {es a : List Expr} {l : Expr}, splitLam es = some (a, l) → es = a ++ [l]
  | [], _, _, h => by cases h
  | [e], a, l, h => by
    unfold splitLam at h
    split at h
    · cases h; rfl
    · cases h
  | e :: e1 :: es, a, l, h => by
    have h' : (splitLam (e1 :: es)).map (fun p => (e :: p.1, p.2)) = some (a, l) := h
    cases q : splitLam (e1 :: es) with
    | none => rw [q] at h'; cases h'
    | some p =>
      rw [q] at h'
      cases h'
      rw [splitLam_eq q]; rfl
def slotsOf (N : List Str) : List Str → Option (List Nat)
  | [] => some []
  | x :: xs => match slotOf N x, slotsOf N xs with
    | some i, some is => some (i :: is)
    | _, _ => none
theorem slotsOf_at {N : List Str} : ∀ {xs : List Str} {is : List Nat}, slotsOf N xs = some is → is.map (fun j => N[j]?) = xs.map some
  | [], _, h => by cases h; rfl
  | x :: xs, is, h => by
    unfold slotsOf at h
    split at h
    · rename_i i is' h1 h2
      cases h
      show N[i]? :: is'.map (fun j => N[j]?) = some x :: xs.map some
      rw [slotOf_at h1, slotsOf_at h2]
    · cases h
def lamOk (ssc : Scope) (ar : Arguments) (sc : Scope) (fr : List Str) : Bool :=
  ar.defaults.isEmpty && ar.kw_defaults.isEmpty && sc.names.all (fun y => !decide (y.2 = .free) || decide (ssc.names.lookup y.1 = some .cell) || decide (ssc.names.lookup y.1 = some .free)) && fr.all fun y => decide ((y, NameKind.free) ∈ sc.names)
def cCallL (S : Sta) (r : Expr → DE) (x : Str) (a : List Expr) (l : Expr) : DE := match l with
  | .Lambda ar bd sc pos => if dbg x || !isGl S x || !noStar (a ++ [l]) || S.hof then .stuck else (match fiOf S.G.tb x 0, S.lamk (.Lambda ar bd sc pos) with
    | some (i, f), some (kl, fr) => (match slotsOf S.N fr with
      | some js => if f.hof && lamOk S.sc ar sc fr then .callL i f.ps.length (cA r a) kl js else .stuck
      | none => .stuck)
    | _, _ => .stuck)
  | _ => .stuck
def lenSet (x : Str) (es : List Expr) : Option Expr := match es with
  | [.Call (.Name y _) [a] [] _] => if x = "len" ∧ y = "set" then some a else none
  | _ => none
def cLenSet (S : Sta) (r : Expr → DE) (a : Expr) : DE := if isGl S "len" && isGl S "set" && S.G.bl.contains "len" && S.G.bl.contains "set" && !isStar a then .lenset (r a) else .stuck
def rgOf (x : Str) (es : List Expr) : Option (Bool × List Expr) := match es with
  | [.Call (.Name y _) as [] _] => if y = "range" ∧ x = "tuple" then some (true, as) else if y = "range" ∧ x = "list" then some (false, as) else none
  | _ => none
def rgN (tp : Bool) : Str := if tp then "tuple" else "list"
def cRgv (S : Sta) (r : Expr → DE) (tp : Bool) (as : List Expr) : DE := if isGl S (rgN tp) && isGl S "range" && S.G.bl.contains (rgN tp) && S.G.bl.contains "range" && noStar as then (match as with
  | [a] => .rgv tp (.cons (r a) .nil)
  | [a, b] => .rgv tp (.cons (r a) (.cons (r b) .nil))
  | _ => .stuck) else .stuck
def cCall (S : Sta) (r : Expr → DE) (f : Expr) (es : List Expr) (kws : List Keyword) : DE := match f with
  | .Name x _ => (match kws, es with
    | [], es => (match splitLam es with
      | some (a, l) => cCallL S r x a l
      | none => (match lenSet x es with
        | some a => cLenSet S r a
        | none => (match rgOf x es with
        | some (tp, as) => cRgv S r tp as
        | none => if isGl S x then cCallN S r x es else cCallV S r x es)))
    | kws, [] => cCallK S r x kws
    | _, _ => .stuck)
  | _ => .stuck
end L2.DL
namespace L2.DL
open PySem PySem.Spec PyProof.Rows

/-! ### the data of a text tell the truth: parts of expressions -/
def OkE (Sg : Nat → SpD) (S : Sta) (r : Expr → DE) : Prop := ∀ {X : Cx} {C : Cfg} {Wx : WX} {k : Nat}, Lk Sg S X C Wx k → ∀ e, PE X e (tE C Wx (wE Sg (r e)))
def OkT (Sg : Nat → SpD) (S : Sta) (r : Expr → DT) : Prop := ∀ {X : Cx} {C : Cfg} {Wx : WX} {k : Nat}, Lk Sg S X C Wx k → ∀ e, PT X e (tT C Wx (wT Sg (r e)))
section
variable {Sg : Nat → SpD} {S : Sta} {X : Cx} {C : Cfg} {Wx : WX} {k : Nat} {r : Expr → DE} {e a b : Expr} {es : List Expr} {pos : Pos} {x : Str}
theorem pe_stuck : PE X e (tE C Wx wStuck) := ⟨fun pins s σ H Q I ⟨_, _, _, _, _, _, _, h, _⟩ => h.elim⟩
theorem pt_stuck : PT X e (tT C Wx tStuck) := ⟨fun pins s σ H Q I ⟨_, _, _, _, _, _, _, h, _⟩ => h.elim⟩
theorem pa_stuck : PA X es (tAs C Wx aStuck) := ⟨fun pos pins s σ H Q I ⟨_, _, _, _, _, _, _, h, _⟩ => h.elim⟩
theorem Lk.vis (L : Lk Sg S X C Wx k) {kd : NameKind} (h : S.sc.names.lookup x = some kd) (hk : kd = .local ∨ kd = .cell ∨ kd = .free) : Vis X.env.scope x := by
  rw [L.sc]
  unfold Vis
  rw [h]
  rcases hk with rfl | rfl | rfl
  · exact .inl rfl
  · exact .inr (.inl rfl)
  · exact .inr (.inr rfl)
theorem Lk.gl' (L : Lk Sg S X C Wx k) (h : S.sc.names.lookup x = some .globalImplicit) : Gl X x := by
  show X.env.scope.names.lookup x = _
  rw [L.sc]; exact h
theorem Lk.mgN (L : Lk Sg S X C Wx k) (h : x ∈ S.G.bl) : X.mg x = none := by rw [L.mg]; exact L.gk.bl x h
theorem var_ok (L : Lk Sg S X C Wx k) {kd : NameKind} (h : S.sc.names.lookup x = some kd) (hk : kd = .local ∨ kd = .cell ∨ kd = .free) (hd : dbg x = false) :
    PE X (.Name x pos) (tE C Wx (wE Sg (match slotOf S.N x with
    | some i => .var i
    | none => .stuck))) := by
  cases e : slotOf S.N x with
  | none => exact pe_stuck
  | some i => exact se_var (by rw [L.N]; exact slotOf_at e) (L.vis h hk) (dbg_no hd).1 (dbg_no hd).2.1
theorem name_ok (L : Lk Sg S X C Wx k) : PE X (.Name x pos) (tE C Wx (wE Sg (cName S x))) := by
  unfold cName
  split
  · exact pe_stuck
  · rename_i hd
    have hd : dbg x = false := by simpa using hd
    split
    · rename_i h; exact var_ok L h (.inl rfl) hd
    · rename_i h; exact var_ok L h (.inr (.inl rfl)) hd
    · rename_i h; exact var_ok L h (.inr (.inr rfl)) hd
    · rename_i h
      cases e : S.G.gl.lookup x with
      | none => exact pe_stuck
      | some c =>
        obtain ⟨u, h1, h2⟩ := L.gk.gl x c e
        have hm : X.mg x = some u := by rw [L.mg]; exact h1
        cases c with
        | non => exact se_glob (d := .non) (L.gl' h) hm (show RelV .non u from h2) (fun _ _ => rfl) (dbg_no hd).1
        | bl b => exact se_glob (d := .bl b) (L.gl' h) hm (show RelV (.bl b) u from h2) (fun _ _ => rfl) (dbg_no hd).1
        | int i => exact se_glob (d := .int i) (L.gl' h) hm (show RelV (.int i) u from h2) (fun _ _ => rfl) (dbg_no hd).1
        | str s => exact se_glob (d := .str s) (L.gl' h) hm (show RelV (.str s) u from h2) (fun _ _ => rfl) (dbg_no hd).1
        | kt ns =>
          obtain ⟨a, e1, e2⟩ := h2
          exact se_glob (d := .kt ns) (v := .ref a) (L.gl' h) hm e1 (fun _ _ => ⟨a, rfl, e2⟩) (dbg_no hd).1
    · exact pe_stuck
theorem const_ok {c : Const} {j : Nat} : PE X (.Constant c j pos) (tE C Wx (wE Sg (cConst c))) := by
  cases c <;> first
    | exact se_non
    | exact se_bl
    | exact se_int
    | exact se_str
    | exact pe_stuck
theorem op_ok (L : Lk Sg S X C Wx k) {o : Operator} {o' : BO} (h : cOp o = some o') : OpR X (binaryOp o) (rD C (bo o')) := by
  cases o <;> cases h
  · exact od_add L.K
  · exact od_sub
  · exact od_mul L.K
  · exact od_mod
  · exact od_pow
  · exact od_shl
  · exact od_shr
  · exact od_or
  · exact od_xor
  · exact od_and
  · exact od_fdiv
theorem cmp_ok (L : Lk Sg S X C Wx k) {o : CmpOp} {o' : BO} (h : cCmpO o = some o') : OpR X (compareOp o) (rD C (bo o')) := by
  have hu : X.A.units + 64 < cLine := by have := L.toCtx.units; omega
  cases o <;> cases h
  · exact od_eq L.K hu
  · exact od_ne L.K hu
  · exact od_lt
  · exact od_le
  · exact od_gt
  · exact od_ge
  · exact od_is
  · exact od_isNot
  · exact od_in L.K L.toCtx.units
  · exact od_notIn L.K L.toCtx.units
theorem only_ok {o : CmpOp} {o' : BO} (h : cCmpO o = some o') : OnlyB (bo o') := by
  intro d e Q q
  cases o <;> cases h
  all_goals
    simp only [bo] at q ⊢
    first
      | unfold dLt at q ⊢
      | unfold dLe at q ⊢
      | unfold dGt at q ⊢
      | unfold dGe at q ⊢
      | unfold dIs at q ⊢
      | unfold dIsNot at q ⊢
      | unfold dEq at q ⊢
      | unfold dNe at q ⊢
      | unfold dIn at q ⊢
      | unfold dNotIn dIn at q ⊢
    (repeat' split at q) <;> first
      | exact q.elim
      | exact ⟨⟨_, rfl⟩, q⟩
      | exact ⟨q.1, ⟨_, rfl⟩, q.2⟩
      | skip
theorem bin_ok (L : Lk Sg S X C Wx k) (hr : OkE Sg S r) {o : Operator} : PE X (.BinOp a o b pos) (tE C Wx (wE Sg (cBin r a o b))) := by
  unfold cBin
  split
  · rename_i o' h; exact se_bin (op_ok L h) (hr L a) (hr L b)
  · exact pe_stuck
theorem compare_ok (L : Lk Sg S X C Wx k) (hr : OkE Sg S r) {os : List CmpOp} : PE X (.Compare a os es pos) (tE C Wx (wE Sg (cCmp r a os es))) := by
  unfold cCmp
  split
  · split
    · rename_i h
      split
      · exact pe_stuck
      · rename_i hm
        exact se_cmp (cmp_ok L h) (hr L _) (hr L _) (by simpa using hm)
    · exact pe_stuck
  · split
    · rename_i h1 h2
      split
      · exact pe_stuck
      · rename_i hm
        exact se_chain (cmp_ok L h1) (cmp_ok L h2) (hr L _) (hr L _) (hr L _) (by simpa using hm)
    · exact pe_stuck
  · exact pe_stuck
theorem compareT_ok (L : Lk Sg S X C Wx k) (hr : OkE Sg S r) {os : List CmpOp} : PT X (.Compare a os es pos) (tT C Wx (tTru (wE Sg (cCmp r a os es)))) := by
  have st : PT X (.Compare a os es pos) (tT C Wx (tTru (wE Sg .stuck))) := ⟨fun pins s σ H Q I ⟨_, _, _, _, _, _, _, h, _⟩ => h.elim⟩
  unfold cCmp
  split
  · split
    · rename_i h
      split
      · exact st
      · rename_i hm
        exact st_cmp (only_ok h) (cmp_ok L h) (hr L _) (hr L _) (by simpa using hm)
    · exact st
  · split
    · rename_i h1 h2
      split
      · exact st
      · rename_i hm
        exact st_chain (only_ok h2) (cmp_ok L h1) (cmp_ok L h2) (hr L _) (hr L _) (hr L _) (by simpa using hm)
    · exact st
  · exact st
theorem bool_ok (L : Lk Sg S X C Wx k) (hr : OkE Sg S r) : ∀ {o : BoolOp} {es : List Expr}, PE X (.BoolOp o es pos) (tE C Wx (wE Sg (cBool r o es)))
  | o, [] => by
    cases o <;> exact pe_stuck
  | o, [a] => by
    cases o <;> exact se_one (hr L a)
  | .And, a :: b :: q => se_and L.K (hr L a) (bool_ok L hr (o := .And) (es := b :: q))
  | .Or, a :: b :: q => se_or L.K (hr L a) (bool_ok L hr (o := .Or) (es := b :: q))
theorem un_ok (L : Lk Sg S X C Wx k) (hr : OkE Sg S r) {o : UnaryOp} : PE X (.UnaryOp o a pos) (tE C Wx (wE Sg (cUn r o a))) := by
  cases o
  · exact pe_stuck
  · exact se_not L.K (hr L a)
  · exact pe_stuck
  · exact se_neg (hr L a)
theorem args_ok (L : Lk Sg S X C Wx k) (hr : OkE Sg S r) : ∀ {es : List Expr}, PA X es (tAs C Wx (wA Sg (cA r es)))
  | [] => sa_nil
  | e :: es => by
    unfold cA
    split
    · split
      · exact sa_star (hr L _) (args_ok L hr)
      · exact pa_stuck
    · rename_i h
      exact sa_cons (hr L e) (args_ok L hr) (by simpa using h)
theorem opt_ok (L : Lk Sg S X C Wx k) (hr : OkE Sg S r) : ∀ {o : Option Expr}, PO X o (tO C Wx (wO Sg (cO r o)))
  | none => so_none
  | some e => so_some (hr L e)
theorem sub_ok (L : Lk Sg S X C Wx k) (hr : OkE Sg S r) : PE X (.Subscript a b pos) (tE C Wx (wE Sg (cSub r a b))) := by
  unfold cSub
  split
  · exact se_sl L.K (hr L a) (opt_ok L hr) (opt_ok L hr)
  · split
    · rename_i e
      subst e
      exact se_rev (hr L a)
    · exact pe_stuck
  · split
    · exact pe_stuck
    · rename_i h
      exact se_ix L.K (hr L a) (hr L _) (plainIx_of (by simpa using h))
end
end L2.DL
namespace L2.DL
open PySem PySem.Spec PyProof.Rows

/-! ### .. calls -/
theorem kwNames_of : ∀ {kws : List Keyword} {ks : List Str}, kwKeys kws = some ks → kwNames kws = ks.map some
  | [], _, h => by cases h; rfl
  | ⟨some n, e, p⟩ :: q, ks, h => by
    unfold kwKeys at h
    cases e1 : kwKeys q with
    | none => rw [e1] at h; cases h
    | some ks' =>
      rw [e1] at h
      cases h
      show some n :: kwNames q = _
      rw [kwNames_of e1]; rfl
  | ⟨none, e, p⟩ :: q, ks, h => by cases h
theorem isiName_ok {x : Str} {T : String} (h : isiName x = some T) : T ∈ isiT ∧ x = Str.ofString T ∧ bootBuiltins x = some (.type T) := by
  unfold isiName at h
  have h1 := List.mem_of_find?_eq_some h
  have h2 := List.find?_some h
  have e : x = Str.ofString T := (eq_of_beq h2).symm
  subst e
  have : ∀ T ∈ (["int", "bool", "str", "tuple", "list"] : List String), T ∈ isiT ∧ bootBuiltins (Str.ofString T) = some (.type T) := by decide +kernel
  exact ⟨(this T h1).1, rfl, (this T h1).2⟩
section
variable {Sg : Nat → SpD} {S : Sta} {X : Cx} {C : Cfg} {Wx : WX} {k : Nat} {r : Expr → DE} {e a b : Expr} {es : List Expr} {pos p : Pos} {x : Str}
theorem kwv_ok (L : Lk Sg S X C Wx k) (hr : OkE Sg S r) : ∀ {kws : List Keyword}, PK X kws (tAs C Wx (wA Sg (kwVals r kws)))
  | [] => sk_nil
  | ⟨n, e, q⟩ :: kws => sk_cons (hr L e) (kwv_ok L hr)
def bltIs (b : Blt) : Sum String String := match b with
  | .len => .inl "len" | .tuple => .inr "tuple" | .list => .inr "list" | .abs => .inl "abs" | .max2 => .inl "max" | .min2 => .inl "min" | .int => .inr "int" | .divmod => .inl "divmod" | .gcd => .inl "math.gcd" | .str => .inr "str" | .all => .inl "all" | .any => .inl "any" | .repr => .inl "repr" | .bool => .inr "bool" | .sum => .inl "sum" | .sort => .inl "sorted" | .max1 => .inl "max" | .min1 => .inl "min"
theorem blt_call (L : Lk Sg S X C Wx k) (b : Blt) : match bltIs b with
    | .inl id => CallR X (.builtin id) (cD C (blt b))
    | .inr T => CallR X (.type T) (cD C (blt b)) := by
  have hu : X.A.units + 65 < cLine := L.toCtx.units
  cases b
  · exact cd_len L.K
  · exact cd_tuple
  · exact cd_list
  · exact cd_abs
  · exact cd_max2 L.calm
  · exact cd_min2 L.calm
  · exact cd_int
  · exact cd_divmod
  · exact cd_gcd
  · exact cd_str
  · exact cd_all L.calm
  · exact cd_any L.calm
  · exact cd_repr L.K L.gd hu
  · exact cd_bool
  · exact cd_sum L.K L.calm
  · exact cd_sort L.K hu
  · exact cd_max1 L.calm
  · exact cd_min1 L.K L.calm hu
theorem blt_boot : ∀ b : Blt, b ≠ .gcd → bootBuiltins (bltNm b) = (match bltIs b with
    | .inl id => some (.builtin id)
    | .inr T => some (.type T)) := by
  intro b h
  cases b <;> first
    | exact absurd rfl h
    | decide +kernel
theorem bltOf_ok {n : Nat} {b : Blt} (h : bltOf x n = some b) : bltNm b = x ∧ b ≠ .gcd := by
  unfold bltOf at h
  cases e : List.find? (fun b : Blt × Nat => bltNm b.1 == x && b.2 == n) bltTab with
  | none => rw [e] at h; cases h
  | some q =>
    rw [e] at h
    cases h
    have h1 := List.mem_of_find?_eq_some e
    have h2 := List.find?_some e
    have h2' : (bltNm q.1 == x) = true ∧ (q.2 == n) = true := by simpa using h2
    have : ∀ q ∈ bltTab, q.1 ≠ .gcd := by decide
    exact ⟨eq_of_beq h2'.1, this q h1⟩
theorem isGl_ok (L : Lk Sg S X C Wx k) (h : isGl S x = true) : Gl X x := L.gl' (eq_of_beq h)
theorem bl_ok (L : Lk Sg S X C Wx k) (h : S.G.bl.contains x = true) : X.mg x = none := L.mgN (List.contains_iff_mem.mp h)
theorem Lk.c0 (L : Lk Sg S X C Wx k) (h : S.hof = false) : cz0 C = C := by
  have := L.pl h
  cases C
  cases this
  rfl
theorem callN_ok (L : Lk Sg S X C Wx k) (hr : OkE Sg S r) : PE X (.Call (.Name x p) es [] pos) (tE C Wx (wE Sg (cCallN S r x es))) := by
  unfold cCallN
  split
  · exact pe_stuck
  · rename_i h0
    have h0 : (dbg x = false ∧ isGl S x = true) ∧ noStar es = true := by simpa using h0
    have hgl := isGl_ok L h0.1.2
    have hdb := dbg_no h0.1.1
    split
    · rename_i i f hf
      obtain ⟨j, h1, h2, h3⟩ := fiOf_at hf
      have e1 : i = j := by simpa using h1
      subst e1
      have h3' : f.name = x := h3
      obtain ⟨hk, fa, fd, F0, F1, _⟩ := L.gk.tb i f h2
      rw [h3'] at F0 F1
      split
      · split
        · rename_i hl
          have F := F0 hl.2.2
          rw [L.c0 hl.2.1] at F
          exact se_call0 L.toCtx hk F hgl hl.1 hdb.1
        · exact pe_stuck
      · split
        · rename_i hf1
          split
          · rename_i hv
            obtain ⟨q1, q2, _⟩ := L.lm hv
            exact se_callQ L.toCtx hk q1 q2 (F1 hf1) hgl (args_ok L hr) h0.2 hdb.1
          · exact pe_stuck
        · rename_i hf1
          have F := F0 (by simpa using hf1)
          split
          · exact se_callP L.toCtx hk F hgl (args_ok L hr) h0.2 hdb.1
          · rename_i hh
            rw [L.c0 (by simpa using hh)] at F
            exact se_call L.toCtx hk F hgl (args_ok L hr) h0.2 hdb.1
    · split
      · rename_i id hid
        split
        · rename_i e1
          subst e1
          split
          · exact pe_stuck
          · exact se_bfun cd_gcd hgl (by rw [L.mg]; exact L.gk.gb x _ hid) (args_ok L hr) h0.2 hdb.1
        · exact pe_stuck
      · split
        · exact pe_stuck
        · rename_i hb
          have hmx := bl_ok L (by simpa using hb : S.G.bl.contains x = true)
          split
          · rename_i _ a t tp hx _
            split
            · rename_i T hT
              split
              · rename_i hc
                have hc' : (isGl S t = true ∧ S.G.bl.contains t = true) ∧ dbg t = false := by simpa using hc
                obtain ⟨q1, q2, q3⟩ := isiName_ok hT
                have hxe : x = "isinstance" := eq_of_beq hx
                subst hxe
                have hs : isStar a = false := by
                  have := h0.2
                  simp only [noStar, List.all_cons, Bool.and_eq_true] at this
                  simpa using this.1
                exact se_isi q1 q3 (dbg_no hc'.2).2.2 (dbg_no hc'.2).1 (isGl_ok L hc'.1.1) (bl_ok L hc'.1.2) hgl hmx (hr L a) hs
              · exact pe_stuck
            · exact pe_stuck
          · split
            · rename_i b e0 q _ _ hb2
              obtain ⟨n1, n2⟩ := bltOf_ok hb2
              subst n1
              have hcall := blt_call L b
              have hboot := blt_boot b n2
              cases hi : bltIs b with
              | inl id =>
                rw [hi] at hcall hboot
                exact se_blt hcall hgl hmx hboot (args_ok L hr) h0.2 hdb.2.2 hdb.1
              | inr T =>
                rw [hi] at hcall hboot
                exact se_bty hcall hgl hmx hboot (args_ok L hr) h0.2 hdb.2.2 hdb.1
            · exact pe_stuck
theorem callK_ok (L : Lk Sg S X C Wx k) (hr : OkE Sg S r) {kws : List Keyword} : PE X (.Call (.Name x p) [] kws pos) (tE C Wx (wE Sg (cCallK S r x kws))) := by
  unfold cCallK
  split
  · exact pe_stuck
  · rename_i h0
    have h0' : (dbg x = false ∧ isGl S x = true) ∧ S.hof = false := by simpa using h0
    have h0 := h0'.1
    have hc0 := L.c0 h0'.2
    split
    · rename_i i f ks hf hk
      split
      · rename_i hc
        obtain ⟨j, h1, h2, h3⟩ := fiOf_at hf
        have e1 : i = j := by simpa using h1
        subst e1
        have h3' : f.name = x := h3
        obtain ⟨hk1, fa, fd, F0, _, hkw⟩ := L.gk.tb i f h2
        have hc := (Bool.and_eq_true _ _ ▸ hc : f.kw.contains ks = true ∧ (!f.hof) = true)
        have F := F0 (by simpa using hc.2)
        rw [h3'] at F
        rw [hc0] at F
        exact se_callK L.toCtx hk1 F (hkw ks (List.contains_iff_mem.mp hc.1)) (isGl_ok L h0.2) (kwv_ok L hr) (kwNames_of hk) (dbg_no h0.1).1
      · exact pe_stuck
    · exact pe_stuck
theorem callV_ok (L : Lk Sg S X C Wx k) (hr : OkE Sg S r) : PE X (.Call (.Name x p) es [] pos) (tE C Wx (wE Sg (cCallV S r x es))) := by
  unfold cCallV
  split
  · rename_i i e q hi
    split
    · rename_i hc
      have hc' : ((S.hv = true ∧ dbg x = false) ∧ noStar (e :: q) = true) ∧ S.sc.names.lookup x = some .local := by simpa using hc
      obtain ⟨h1, h2, kk, h3, h4⟩ := L.lm hc'.1.1.1
      have hd := dbg_no hc'.1.1.2
      exact se_callV L.toCtx h3 h1 h2 h4 (by rw [L.N]; exact slotOf_at hi) (L.vis hc'.2 (.inl rfl)) hd.1 hd.2.1 (args_ok L hr) hc'.1.2
    · exact pe_stuck
  · exact pe_stuck
theorem al_ok {q : Str} {mk : Addr → LM.LF} {lam : Expr} (L : Lk Sg S X C Wx k) (hr : OkE Sg S r) (hl : PE X lam (tLm C q mk)) (hs : isStar lam = false) : ∀ {a : List Expr}, noStar (a ++ [lam]) = true → PA X (a ++ [lam]) (tAL C Wx (wA Sg (cA r a)) q mk)
  | [], _ => al_nil hl hs
  | e :: es, h => by
    have h' : isStar e = false ∧ noStar (es ++ [lam]) = true := by simpa [noStar] using h
    unfold cA
    rw [if_neg (by rw [h'.1]; exact Bool.false_ne_true)]
    exact al_cons (hr L e) (al_ok L hr hl hs h'.2) h'.1
theorem callL_ok (L : Lk Sg S X C Wx k) (hr : OkE Sg S r) {a : List Expr} {l : Expr} : PE X (.Call (.Name x p) (a ++ [l]) [] pos) (tE C Wx (wE Sg (cCallL S r x a l))) := by
  unfold cCallL
  split
  · rename_i ar bd sc pos2
    split
    · exact pe_stuck
    · rename_i h0
      have h0' : ((dbg x = false ∧ isGl S x = true) ∧ noStar (a ++ [.Lambda ar bd sc pos2]) = true) ∧ S.hof = false := by simpa using h0
      split
      · rename_i i f kl fr hf hk
        split
        · rename_i js hjs
          split
          · rename_i hc
            have hc' : f.hof = true ∧ lamOk S.sc ar sc fr = true := by simpa using hc
            have hc2 := hc'.2
            unfold lamOk at hc2
            simp only [Bool.and_eq_true, Bool.or_eq_true, Bool.not_eq_true', decide_eq_true_eq, decide_eq_false_iff_not, List.all_eq_true, List.isEmpty_iff] at hc2
            obtain ⟨⟨⟨d1, d2⟩, d3⟩, d4⟩ := hc2
            obtain ⟨j, h1, h2, h3⟩ := fiOf_at hf
            have e1 : i = j := by simpa using h1
            subst e1
            have h3' : f.name = x := h3
            obtain ⟨hk1, fa, fd, _, F1, _⟩ := L.gk.tb i f h2
            have F := F1 hc'.1
            rw [h3', L.c0 h0'.2] at F
            obtain ⟨⟨c, P, m1, m2, m3⟩, m4⟩ := L.mkr ar bd sc pos2 kl fr hk
            have hfree : ∀ y ∈ sc.names, y.2 = .free → X.env.scope.names.lookup y.1 = some .cell ∨ X.env.scope.names.lookup y.1 = some .free := fun y hy e => by
              rw [L.sc]
              rcases d3 y hy with (z | z) | z
              · exact absurd e z
              · exact .inl z
              · exact .inr z
            have hdef : defaultsOf ar X.env = ([], []) := by
              obtain ⟨_, _, _, _, _, _, _⟩ := ar
              simp only at d1 d2
              subst d1 d2
              rfl
            have hlam := se_lam (C := C) (bd := bd) (pos := pos2) m2 m1 m3 hdef fun ok y hy e => (hfree y hy e).elim (fun z => ok.has _ (.inl z)) fun z => ok.has _ (.inr z)
            have ha := al_ok (a := a) L hr hlam rfl h0'.1.2
            have hst : (a ++ [Expr.Lambda ar bd sc pos2]).all (fun e => !isStar e) = true := h0'.1.2
            revert ha hst
            generalize cA r a = ca
            cases a with
            | nil => exact fun ha hst => se_callL L.toCtx (L.pl h0'.2) hk1 F (isGl_ok L h0'.1.1.2) ha m4 (fun ok => NdefX.Caps.made ok hfree d4 (by rw [L.N]; exact slotsOf_at hjs)) hst (dbg_no h0'.1.1.1).1
            | cons e0 q0 => exact fun ha hst => se_callL L.toCtx (L.pl h0'.2) hk1 F (isGl_ok L h0'.1.1.2) ha m4 (fun ok => NdefX.Caps.made ok hfree d4 (by rw [L.N]; exact slotsOf_at hjs)) hst (dbg_no h0'.1.1.1).1
          · exact pe_stuck
        · exact pe_stuck
      · exact pe_stuck
  · exact pe_stuck
theorem lenset_ok (L : Lk Sg S X C Wx k) (hr : OkE Sg S r) (h : lenSet x es = some a) : PE X (.Call (.Name x p) es [] pos) (tE C Wx (wE Sg (cLenSet S r a))) := by
  unfold lenSet at h
  split at h
  · rename_i y p2 a' q
    split at h
    · rename_i e
      cases h
      obtain ⟨e1, e2⟩ := e
      subst e1 e2
      unfold cLenSet
      split
      · rename_i hc
        have hc' : (((isGl S "len" = true ∧ isGl S "set" = true) ∧ S.G.bl.contains "len" = true) ∧ S.G.bl.contains "set" = true) ∧ isStar a = false := by simpa only [Bool.and_eq_true, Bool.not_eq_true'] using hc
        exact se_lenset L.K L.calm (isGl_ok L hc'.1.1.1.1) (bl_ok L hc'.1.1.2) (isGl_ok L hc'.1.1.1.2) (bl_ok L hc'.1.2) (hr L a) hc'.2
      · exact pe_stuck
    · cases h
  · cases h
theorem rgv_ok (L : Lk Sg S X C Wx k) (hr : OkE Sg S r) {tp : Bool} {as : List Expr} (h : rgOf x es = some (tp, as)) : PE X (.Call (.Name x p) es [] pos) (tE C Wx (wE Sg (cRgv S r tp as))) := by
  unfold rgOf at h
  split at h
  · rename_i y p2 as' q
    have hx : y = "range" ∧ x = rgN tp ∧ as' = as := by
      split at h
      · rename_i e
        cases h
        exact ⟨e.1, e.2, rfl⟩
      · split at h
        · rename_i e
          cases h
          exact ⟨e.1, e.2, rfl⟩
        · cases h
    obtain ⟨rfl, rfl, rfl⟩ := hx
    unfold cRgv
    split
    · rename_i hc
      have hc' : (((isGl S (rgN tp) = true ∧ isGl S "range" = true) ∧ S.G.bl.contains (rgN tp) = true) ∧ S.G.bl.contains "range" = true) ∧ noStar as' = true := by simpa only [Bool.and_eq_true] using hc
      split
      · rename_i a
        have hs : isStar a = false := by simpa [noStar] using hc'.2
        exact se_rgv1 L.calm (isGl_ok L hc'.1.1.1.1) (bl_ok L hc'.1.1.2) (isGl_ok L hc'.1.1.1.2) (bl_ok L hc'.1.2) (hr L a) hs
      · rename_i a b
        have hs : isStar a = false ∧ isStar b = false := by simpa [noStar] using hc'.2
        exact se_rgv2 L.calm (isGl_ok L hc'.1.1.1.1) (bl_ok L hc'.1.1.2) (isGl_ok L hc'.1.1.1.2) (bl_ok L hc'.1.2) (hr L a) (hr L b) hs.1 hs.2
      · exact pe_stuck
    · exact pe_stuck
  · cases h
theorem call_ok (L : Lk Sg S X C Wx k) (hr : OkE Sg S r) {f : Expr} {kws : List Keyword} : PE X (.Call f es kws pos) (tE C Wx (wE Sg (cCall S r f es kws))) := by
  unfold cCall
  split
  · split
    · split
      · rename_i hsp
        rw [splitLam_eq hsp]
        exact callL_ok L hr
      · split
        · rename_i hl
          exact lenset_ok L hr hl
        · split
          · rename_i hl
            exact rgv_ok L hr hl
          · split
            · exact callN_ok L hr
            · exact callV_ok L hr
    · exact callK_ok L hr
    · exact pe_stuck
  · exact pe_stuck
end
end L2.DL
namespace L2.DL
open PySem PySem.Spec PyProof.Rows

/-! ### whole expressions -/
def isSet : Expr → Bool
  | .Set _ _ _ => true
  | _ => false
theorem folded_not {e : Expr} (h : isSet e = false) (env : Env) (x : Value) : foldedSetIterable e env x = pure x := by
  cases e <;> first
    | rfl
    | cases h
def tgtOk (S : Sta) (x : Str) : Bool := match S.sc.names.lookup x with
  | some .local => true
  | some .cell => S.fn x
  | _ => false
def cPs (r : Expr → Option Pt) : List Expr → Option Pts
  | [] => some .nil
  | e :: es => match r e, cPs r es with
    | some p, some ps => some (.cons p ps)
    | _, _ => none
def cP : Nat → Sta → Expr → Option Pt
  | 0, _, _ => none
  | n + 1, S, e => match e with
    | .Name x _ => if tgtOk S x then (slotOf S.N x).map .nm else none
    | .Tuple es _ _ => if noStars es then (cPs (cP n S) es).map .tp else none
    | _ => none
def cBoolT (r : Expr → DT) : BoolOp → List Expr → DT
  | _, [] => .stuck
  | _, [a] => r a
  | .And, a :: b :: q => .and (r a) (cBoolT r .And (b :: q))
  | .Or, a :: b :: q => .or (r a) (cBoolT r .Or (b :: q))
def cT (r : Expr → DE) : Nat → Expr → DT
  | 0, _ => .stuck
  | n + 1, e => match e with
    | .UnaryOp .Not a _ => .not (cT r n a)
    | .BoolOp o es _ => cBoolT (cT r n) o es
    | .Compare a os es _ => .val (cCmp r a os es)
    | .IfExp _ _ _ _ => .stuck
    | e => .val (r e)
def cTs (r : Expr → DT) : List Expr → DT
  | [] => .yes
  | [c] => r c
  | _ => .stuck
def isTgT : Expr → Bool
  | .Tuple _ _ _ => true
  | _ => false
theorem isTgT_eq {e : Expr} (h : isTgT e = true) : ∃ es k p, e = .Tuple es k p := by
  cases e <;> first
    | exact ⟨_, _, _, rfl⟩
    | cases h
def cIB (S : Sta) (r : Expr → DE) (tg e : Expr) : DI := match e with
  | .Call (.Name x _) es [] _ => (match es with
      | [a] => if x == ("enumerate" : Str) && isGl S x && S.G.bl.contains x && isTgT tg && !isStar a then .enum (cA r [a]) else .items (r e)
      | [a, b] => if x == ("zip" : Str) && isGl S x && S.G.bl.contains x && isTgT tg && !isStar a && !isStar b then .zip (cA r [a, b]) else .items (r e)
      | _ => .items (r e))
  | e => .items (r e)
def cI (S : Sta) (r : Expr → DE) (tg e : Expr) : DI := match e with
  | .Call (.Name x _) es [] _ => if x == ("range" : Str) && isGl S x && S.G.bl.contains x then (match es with
      | [a] => if isStar a then .items .stuck else .rng1 (cA r [a])
      | [a, b] => if isStar a || isStar b then .items .stuck else .rng2 (cA r [a, b])
      | [a, b, c] => if isStar a || isStar b || isStar c then .items .stuck else .rng3 (cA r [a, b, c])
      | _ => .items .stuck) else cIB S r tg e
  | e => cIB S r tg e
def blkS (S : Sta) (scope : Scope) : Sta := { S with sc := relS scope S.sc, fn := fun x => scope.names.lookup x == some .cell, hv := false, lamk := fun _ => none }
def blkOwn (S : Sta) (scope : Scope) : List (Str × Nat) := scope.names.filterMap fun y => if y.2 = .local ∨ y.2 = .cell then (slotOf S.N y.1).map fun i => (y.1, i) else none
def blkOk (N : List Str) (sc scope : Scope) (own : List (Str × Nat)) : Bool :=
  decide (scope.kind = .function) && decide (∀ y ∈ scope.names, scope.names.lookup y.1 = some y.2) && decide (∀ p ∈ own, N[p.2]? = some p.1) &&
  decide (∀ y ∈ scope.names, y.2 = .free → sc.names.lookup y.1 = some .cell ∨ sc.names.lookup y.1 = some .free) && decide (∀ y ∈ scope.names, y.2 = .local ∨ y.2 = .cell → y.1 ∈ own.map (·.1) ∨ y.1 ∉ N)
theorem blkOk_ok {N : List Str} {sc scope : Scope} {own : List (Str × Nat)} (h : blkOk N sc scope own = true) : BlkOk N sc scope own := by
  unfold blkOk at h
  have h' := h
  simp only [Bool.and_eq_true, decide_eq_true_eq] at h'
  exact ⟨h'.1.1.1.1, h'.1.1.1.2, h'.1.1.2, h'.1.2, h'.2⟩
inductive LC where
  | bad
  | one (vs : List Nat) (i : DI) (p : Pt) (t : DT) (e : DE)
  | two (vs vs1 : List Nat) (i : DI) (p : Pt) (t : DT) (i1 : DI) (p1 : Pt) (t1 : DT) (e : DE)
  deriving DecidableEq
def lcE : LC → DE
  | .bad => .stuck
  | .one vs i p t e => .comp vs i p t e
  | .two vs vs1 i p t i1 p1 t1 e => .comp2 vs vs1 i p t i1 p1 t1 e
def allIn (a b : List Nat) : Bool := a.all fun i => b.contains i
def cLC (n : Nat) (r : Sta → Expr → DE) (S : Sta) (elt : Expr) (gs : List Comprehension) (scope : Scope) : LC :=
  if !blkOk S.N S.sc scope (blkOwn S scope) then .bad else match gs with
  | [⟨tg, iter, ifs, a⟩] => (match cP n (blkS S scope) tg with
    | some p => if a = 0 ∧ isSet iter = false ∧ allIn (pvars p) ((blkOwn S scope).map (·.2)) = true then .one ((blkOwn S scope).map (·.2)) (cI S (r S) tg iter) p (cTs (cT (r (blkS S scope)) n) ifs) (r (blkS S scope) elt) else .bad
    | none => .bad)
  | [⟨tg, iter, ifs, a⟩, ⟨tg1, iter1, ifs1, a1⟩] => (match cP n (blkS S scope) tg, cP n (blkS S scope) tg1 with
    | some p, some p1 => if a = 0 ∧ a1 = 0 ∧ isSet iter = false ∧ isSet iter1 = false ∧ allIn (pvars p) ((blkOwn S scope).map (·.2)) = true ∧ allIn (pvars p1) ((blkOwn S scope).map (·.2)) = true then
        .two ((blkOwn S scope).map (·.2)) (pvars p1) (cI S (r S) tg iter) p (cTs (cT (r (blkS S scope)) n) ifs) (cI (blkS S scope) (r (blkS S scope)) tg1 iter1) p1 (cTs (cT (r (blkS S scope)) n) ifs1) (r (blkS S scope) elt) else .bad
    | _, _ => .bad)
  | _ => .bad
def cE : Nat → Sta → Expr → DE
  | 0, _, _ => .stuck
  | n + 1, S, e => match e with
    | .Name x _ => cName S x
    | .Constant c _ _ => cConst c
    | .BinOp a o b _ => cBin (cE n S) a o b
    | .Compare a os bs _ => cCmp (cE n S) a os bs
    | .BoolOp o es _ => cBool (cE n S) o es
    | .UnaryOp o a _ => cUn (cE n S) o a
    | .IfExp c a b _ => .ite (cT (cE n S) n c) (cE n S a) (cE n S b)
    | .Tuple es _ _ => .tup (cA (cE n S) es)
    | .List es _ => .lst (cA (cE n S) es)
    | .Subscript a b _ => cSub (cE n S) a b
    | .Call f es ks _ => cCall S (cE n S) f es ks
    | .ListComp elt gs scope _ => lcE (cLC n (cE n) S elt gs scope)
    | _ => .stuck

/-! ### .. and that they tell the truth -/
section
variable {Sg : Nat → SpD} {S : Sta} {X : Cx} {C : Cfg} {Wx : WX} {k n : Nat} {r : Expr → DE} {e a b elt tg iter : Expr} {es : List Expr} {pos p : Pos} {x : Str} {scope : Scope}
theorem tgt_ok (L : Lk Sg S X C Wx k) (h : tgtOk S x = true) : Loc X.env.scope x ∧ (X.fn x = true ∨ X.env.scope.names.lookup x = some .local) := by
  unfold tgtOk at h
  rw [L.sc]
  unfold Loc
  split at h
  · rename_i e; exact ⟨.inl e, .inr e⟩
  · rename_i e; exact ⟨.inr e, .inl (L.fn x h)⟩
  · cases h
theorem ps_ok {q : Expr → Option Pt} (hq : ∀ e p, q e = some p → PG X e (gD C p)) : ∀ {es : List Expr} {ps : Pts}, cPs q es = some ps → noStars es = true → PGs X es (gDs C ps) ∧ es.length = ptsLen ps
  | [], _, h, _ => by cases h; exact ⟨sgs_nil, rfl⟩
  | e :: es, ps, h, hs => by
    have hs' : isStar e = false ∧ noStars es = true := by simpa [noStars] using hs
    unfold cPs at h
    split at h
    · rename_i p ps' h1 h2
      cases h
      obtain ⟨g1, g2⟩ := ps_ok hq h2 hs'.2
      exact ⟨sgs_cons (hq e p h1) g1 hs'.1, by simp [ptsLen, g2]⟩
    · cases h
theorem cP_ok (L : Lk Sg S X C Wx k) : ∀ {n : Nat} {e : Expr} {p : Pt}, cP n S e = some p → PG X e (gD C p)
  | 0, _, _, h => by cases h
  | n + 1, e, p, h => by
    unfold cP at h
    split at h
    · split at h
      · rename_i x _ ht
        cases hs : slotOf S.N x with
        | none => rw [hs] at h; cases h
        | some i =>
          rw [hs] at h
          cases h
          exact sg_nm L.nd (by rw [L.N]; exact slotOf_at hs) (tgt_ok L ht).1 (tgt_ok L ht).2
      · cases h
    · split at h
      · rename_i es _ _ hs
        cases hp : cPs (cP n S) es with
        | none => rw [hp] at h; cases h
        | some ps =>
          rw [hp] at h
          cases h
          obtain ⟨g1, g2⟩ := ps_ok (fun e p he => cP_ok L he) hp hs
          exact sg_tp L.K L.calm g1 hs g2
      · cases h
    · cases h
theorem boolT_ok {q : Expr → DT} (hq : ∀ e, PT X e (tT C Wx (wT Sg (q e)))) : ∀ {o : BoolOp} {es : List Expr}, PW X (.BoolOp o es pos) (tT C Wx (wT Sg (cBoolT q o es)))
  | o, [] => by
    refine ⟨fun wh pins s σ H Q I ⟨_, _, _, _, _, _, _, h, _⟩ => ?_⟩
    cases o <;> exact h.elim
  | .And, [a] => st_and1 (hq a)
  | .Or, [a] => st_or1 (hq a)
  | .And, a :: b :: l => st_and (hq a) (boolT_ok hq (o := .And) (es := b :: l))
  | .Or, a :: b :: l => st_or (hq a) (boolT_ok hq (o := .Or) (es := b :: l))
theorem cT_ok (L : Lk Sg S X C Wx k) (hr : OkE Sg S r) : ∀ (n : Nat) (e : Expr), PT X e (tT C Wx (wT Sg (cT r n e)))
  | 0, _ => pt_stuck
  | n + 1, e => by
    unfold cT
    split
    · exact st_not (cT_ok L hr n _)
    · exact (boolT_ok (cT_ok L hr n)).pt
    · exact compareT_ok L hr
    · exact pt_stuck
    · refine st_val L.K (hr L _) fun whole => ?_
      rename_i h1 h2 h3 h4
      cases e <;> first
        | rfl
        | (rename_i o a p; cases o <;> first
            | rfl
            | exact (h1 _ _ rfl).elim)
        | exact (h2 _ _ _ rfl).elim
        | exact (h3 _ _ _ _ rfl).elim
        | exact (h4 _ _ _ _ rfl).elim
theorem cTs_ok {q : Expr → DT} (hq : ∀ e, PT X e (tT C Wx (wT Sg (q e)))) : ∀ {es : List Expr}, PTs X es (tT C Wx (wT Sg (cTs q es)))
  | [] => sts_nil
  | [c] => sts_one (hq c)
  | _ :: _ :: _ => ⟨fun pins s σ H Q I ⟨_, _, _, _, _, _, _, h, _⟩ => h.elim⟩
/-! iterators, comprehensions -/
def isRng : DI → Bool
  | .rng1 _ | .rng2 _ | .rng3 _ => true
  | _ => false
theorem iB_ok (L : Lk Sg S X C Wx k) (hr : OkE Sg S r) : PI X tg e (tI C Wx (wI Sg (cIB S r tg e))) ∧ isRng (cIB S r tg e) = false := by
  unfold cIB
  split
  · rename_i x _ es _
    split
    · rename_i a
      split
      · rename_i hc
        have hc' : (((x == ("enumerate" : Str)) = true ∧ isGl S x = true) ∧ S.G.bl.contains x = true) ∧ isTgT tg = true ∧ isStar a = false := by simpa [and_assoc] using hc
        have hx : x = "enumerate" := eq_of_beq hc'.1.1.1
        subst hx
        obtain ⟨es, kk, tp, rfl⟩ := isTgT_eq hc'.2.1
        exact ⟨si_enum L.K (isGl_ok L hc'.1.1.2) (bl_ok L hc'.1.2) (args_ok L hr) hc'.2.2, rfl⟩
      · exact ⟨si_seq L.K (hr L _), rfl⟩
    · rename_i a b
      split
      · rename_i hc
        have hc' : (((x == ("zip" : Str)) = true ∧ isGl S x = true) ∧ S.G.bl.contains x = true) ∧ isTgT tg = true ∧ isStar a = false ∧ isStar b = false := by simpa [and_assoc] using hc
        have hx : x = "zip" := eq_of_beq hc'.1.1.1
        subst hx
        obtain ⟨es, kk, tp, rfl⟩ := isTgT_eq hc'.2.1
        exact ⟨si_zip L.K (isGl_ok L hc'.1.1.2) (bl_ok L hc'.1.2) (args_ok L hr) hc'.2.2.1 hc'.2.2.2, rfl⟩
      · exact ⟨si_seq L.K (hr L _), rfl⟩
    · exact ⟨si_seq L.K (hr L _), rfl⟩
  · exact ⟨si_seq L.K (hr L _), rfl⟩
theorem iA_ok (L : Lk Sg S X C Wx k) (hr : OkE Sg S r) : PI X tg e (tIR C Wx (wI Sg (cI S r tg e))) ∨ (PI X tg e (tI C Wx (wI Sg (cI S r tg e))) ∧ isRng (cI S r tg e) = false) := by
  unfold cI
  split
  · rename_i x _ es _
    split
    · rename_i hc
      have hc' : ((x == ("range" : Str)) = true ∧ isGl S x = true) ∧ S.G.bl.contains x = true := by simpa using hc
      have hx : x = "range" := eq_of_beq hc'.1.1
      subst hx
      split
      · split
        · exact .inr ⟨si_seq L.K pe_stuck, rfl⟩
        · rename_i hs
          exact .inl (si_rng1R (isGl_ok L hc'.1.2) (bl_ok L hc'.2) (args_ok L hr) (by simpa using hs))
      · split
        · exact .inr ⟨si_seq L.K pe_stuck, rfl⟩
        · rename_i hs
          rename_i a b
          have hs' : isStar a = false ∧ isStar b = false := by simpa using hs
          exact .inl (si_rng2R (isGl_ok L hc'.1.2) (bl_ok L hc'.2) (args_ok L hr) hs'.1 hs'.2)
      · split
        · exact .inr ⟨si_seq L.K pe_stuck, rfl⟩
        · rename_i hs
          rename_i a b c
          have hs' : (isStar a = false ∧ isStar b = false) ∧ isStar c = false := by simpa using hs
          exact .inl (si_rng3R (isGl_ok L hc'.1.2) (bl_ok L hc'.2) (args_ok L hr) hs'.1.1 hs'.1.2 hs'.2)
      · exact .inr ⟨si_seq L.K pe_stuck, rfl⟩
    · exact .inr (iB_ok L hr)
  · exact .inr (iB_ok L hr)
theorem iR_ok (L : Lk Sg S X C Wx k) (hr : OkE Sg S r) (h : isRng (cI S r tg e) = true) : PI X tg e (tIR C Wx (wI Sg (cI S r tg e))) := by
  rcases iA_ok (tg := tg) (e := e) L hr with q | q
  · exact q
  · rw [h] at q; exact absurd q.2 (by simp)
theorem i_ok (L : Lk Sg S X C Wx k) (hr : OkE Sg S r) : PI X tg e (tI C Wx (wI Sg (cI S r tg e))) := by
  rcases iA_ok (tg := tg) (e := e) L hr with q | q
  · exact si_of_R q
  · exact q.1
theorem Lk.blk (L : Lk Sg S X C Wx k) (s : Shared) (H : Hp) (Ca : Addr) (cl : List (Str × Addr)) (fp : List Addr) : Lk Sg (blkS S scope) (X.blk s H scope (compEnvC scope cl Ca X.env) fp) C noWx k where
  toCtx := L.toCtx.blk s H scope _ fp
  N := L.N
  sc := by
    show relS scope X.env.scope = relS scope S.sc
    rw [L.sc]
  fn := fun x h => h
  gk := L.gk
  pl := L.pl
  lm := fun h => nomatch h
  mkr := fun _ _ _ _ _ _ h => nomatch h
theorem allIn_ok {a b : List Nat} (h : allIn a b = true) : ∀ i ∈ a, i ∈ b := fun i hi => List.contains_iff_mem.mp (List.all_eq_true.mp h i hi)
/-- a comprehension's data -/
inductive LcTold (X : Cx) (C : Cfg) (Wx : WX) (k : Nat) (Sg : Nat → SpD) (elt : Expr) (scope : Scope) : List Comprehension → LC → Prop where
  | bad {gs} : LcTold X C Wx k Sg elt scope gs .bad
  | one {tg iter ifs own i p t e} : LcOk X C Wx k elt tg iter ifs scope own (wI Sg i) p (wT Sg t) (wE Sg e) → LcTold X C Wx k Sg elt scope [⟨tg, iter, ifs, 0⟩] (.one (own.map (·.2)) i p t e)
  | two {tg iter tg1 iter1 ifs ifs1 own vs1 i p t i1 p1 t1 e} : Lc2Ok X C Wx k elt tg iter tg1 iter1 ifs ifs1 scope own vs1 (wI Sg i) p (wT Sg t) (wI Sg i1) p1 (wT Sg t1) (wE Sg e) → LcTold X C Wx k Sg elt scope [⟨tg, iter, ifs, 0⟩, ⟨tg1, iter1, ifs1, 0⟩] (.two (own.map (·.2)) vs1 i p t i1 p1 t1 e)
theorem cLC_ok {q : Sta → Expr → DE} (L : Lk Sg S X C Wx k) (hq : ∀ S, OkE Sg S (q S)) (gs : List Comprehension) : LcTold X C Wx k Sg elt scope gs (cLC n q S elt gs scope) := by
  unfold cLC
  split
  · exact .bad
  · rename_i h0
    have ok : BlkOk X.N X.env.scope scope (blkOwn S scope) := by
      rw [L.N, L.sc]
      exact blkOk_ok (by simpa using h0)
    split
    · split
      · rename_i p hp
        split
        · rename_i hc
          obtain ⟨rfl, h1, h2⟩ := hc
          exact .one ⟨i_ok L (hq S), ok, fun s H Ca cl fp => cP_ok (L.blk s H Ca cl fp) hp, fun s H Ca cl fp => cTs_ok (cT_ok (L.blk s H Ca cl fp) (hq _) n), fun s H Ca cl fp => hq _ (L.blk s H Ca cl fp) elt, folded_not h1 _, allIn_ok h2⟩
        · exact .bad
      · exact .bad
    · split
      · rename_i p p1 hp hp1
        split
        · rename_i hc
          obtain ⟨rfl, rfl, h1, h2, h3, h4⟩ := hc
          exact .two ⟨⟨i_ok L (hq S), ok, fun s H Ca cl fp => cP_ok (L.blk s H Ca cl fp) hp, fun s H Ca cl fp => cTs_ok (cT_ok (L.blk s H Ca cl fp) (hq _) n), fun s H Ca cl fp => hq _ (L.blk s H Ca cl fp) elt, folded_not h1 _, allIn_ok h3⟩,
            allIn_ok h4, fun s H Ca cl fp => i_ok (L.blk s H Ca cl fp) (hq _), fun s H Ca cl fp => cP_ok (L.blk s H Ca cl fp) hp1, fun s H Ca cl fp => cTs_ok (cT_ok (L.blk s H Ca cl fp) (hq _) n), fun env => folded_not h2 env, fun _ h => h⟩
        · exact .bad
      · exact .bad
    · exact .bad
theorem lcE_ok {gs : List Comprehension} {l : LC} (T : Ctx X C Wx k) (h : LcTold X C Wx k Sg elt scope gs l) : PE X (.ListComp elt gs scope pos) (tE C Wx (wE Sg (lcE l))) := by
  cases h with
  | bad => exact pe_stuck
  | one h => exact se_lc T h
  | two h => exact se_lc2 T h
theorem cE_ok : ∀ (n : Nat) (S : Sta), OkE Sg S (cE n S)
  | 0, S, _, _, _, _, L, e => pe_stuck
  | n + 1, S, X, C, Wx, k, L, e => by
    have ih := cE_ok n
    unfold cE
    split
    · exact name_ok L
    · exact const_ok
    · exact bin_ok L (ih S)
    · exact compare_ok L (ih S)
    · exact bool_ok L (ih S)
    · exact un_ok L (ih S)
    · exact se_ite (cT_ok L (ih S) n _) (ih S L _) (ih S L _)
    · exact se_tup (args_ok L (ih S))
    · exact se_lst (args_ok L (ih S))
    · exact sub_ok L (ih S)
    · exact call_ok L (ih S)
    · exact lcE_ok L.toCtx (cLC_ok L ih _)
    · exact pe_stuck
end
end L2.DL
namespace L2.DL
open PySem PySem.Spec PyProof.Rows

/-! ### statements -/
inductive DP where
  | bad | nil | im (e : DE) (r : DP) | ow (a : DEs) (r : DP) | owM (a b : DE) (r : DP) | owL (a : DE) (r : DP)
  deriving DecidableEq
inductive DS where
  | stuck | next | brk | cnt | retN | seq (a b : DS) | ret (e : DE) | exp (e : DE) | ifs (t : DT) (a b : DS) | asg (p : Pt) (e : DE) | asgF (p : Pt) (e : DE) | asgI (i j : Nat) (k : DE) | fz (i : Nat)
  | app (i : Nat) (e : DE) | appF (i : Nat) (e : DE) | put (i : Nat) (k v : DE) | putF (i : Nat) (k v : DE) | for_ (p : Pt) (i : DI) (b : DS) | forR (p : Pt) (i : DI) (b : DS) | while_ (t : DT) (b : DS)
  | own (i : Nat) (a : DEs) | ownM (i : Nat) (a b : DE) | ownA (i : Nat) (a b : DE) | ownC (i : Nat) (l : LC) | ownL (i : Nat) (a : DE) | appP (i j : Nat) (e : DE) | put2 (i : Nat) (k1 k2 v1 v2 : DE) | par (is : List Nat) (p : DP) | wput (i : Nat) (k v : DE) | wdm (i : Nat) (c : Int) (j : Nat) (e : DE) | retW (a : DEs)
  deriving DecidableEq
def wP (Sg : Nat → SpD) : DP → WP
  | .bad => fun _ _ _ => False
  | .nil => wPnil
  | .im e r => wPim (wE Sg e) (wP Sg r)
  | .ow a r => wPow (wA Sg a) (wP Sg r)
  | .owM a b r => wPowM (wE Sg a) (wE Sg b) (wP Sg r)
  | .owL a r => wPowL (wE Sg a) (wP Sg r)
def sStuck : WS := fun _ _ => False
def wLC (Sg : Nat → SpD) (i : Nat) : LC → WS
  | .bad => sStuck
  | .one vs it p t e => wOwnC i vs (wI Sg it) p (wT Sg t) (wE Sg e)
  | .two vs vs1 it p t i1 p1 t1 e => wOwnC2 i vs vs1 (wI Sg it) p (wT Sg t) (wI Sg i1) p1 (wT Sg t1) (wE Sg e)
def wS (Sg : Nat → SpD) : DS → WS
  | .stuck => sStuck
  | .next => wNext
  | .brk => wBrk
  | .cnt => wCnt
  | .retN => wRetN
  | .seq a b => wSeq (wS Sg a) (wS Sg b)
  | .ret e => wRet (wE Sg e)
  | .exp e => wExp (wE Sg e)
  | .ifs t a b => wIf (wT Sg t) (wS Sg a) (wS Sg b)
  | .asg p e => wAsg p (wE Sg e)
  | .asgF p e => wAsgF p (wE Sg e)
  | .asgI i j k => wAsgI i j (wE Sg k)
  | .fz i => wFz i
  | .app i e => wApp i (wE Sg e)
  | .appF i e => wAppF i (wE Sg e)
  | .put i k v => wPut i (wE Sg k) (wE Sg v)
  | .putF i k v => wPutF i (wE Sg k) (wE Sg v)
  | .for_ p i b => wFor p (wI Sg i) (wS Sg b)
  | .forR p i b => wForR p (wI Sg i) (wS Sg b)
  | .while_ t b => wWh (wT Sg t) (wS Sg b)
  | .own i a => wOwn i (wA Sg a)
  | .ownM i a b => wOwnM i (wE Sg a) (wE Sg b)
  | .ownA i a b => wOwnA i (wE Sg a) (wE Sg b)
  | .ownC i l => wLC Sg i l
  | .ownL i a => wOwnL i (wE Sg a)
  | .appP i j e => wAppP i j (wE Sg e)
  | .put2 i k1 k2 v1 v2 => wPut2 i (wE Sg k1) (wE Sg k2) (wE Sg v1) (wE Sg v2)
  | .par is p => wPar is (wP Sg p)
  | .wput i k v => wWput i (wE Sg k) (wE Sg v)
  | .wdm i c j e => wWdm i c j (wE Sg e)
  | .retW a => wRetW (wA Sg a)
def visOk (S : Sta) (x : Str) : Bool := !dbg x && (S.sc.names.lookup x == some .local || S.sc.names.lookup x == some .cell || S.sc.names.lookup x == some .free)
/-- list(e): what it takes -/
def lok (S : Sta) : Bool := isGl S "list" && S.G.bl.contains "list"
def lstOf (e : Expr) : Option Expr := match e with
  | .Call (.Name f _) [a] [] _ => if f = "list" ∧ isStar a = false then some a else none
  | _ => none
/-- y.pop(e), y one's own -/
def popOf (S : Sta) (e : Expr) : Option (Str × Expr) := match e with
  | .Call (.Attribute (.Name y _) m p1) [a] [] p2 => if m = "pop" ∧ S.own.contains y = true ∧ visOk S y = true ∧ isStar a = false ∧ (p1.endLine == p2.line) = true then some (y, a) else none
  | _ => none
def cEx (n : Nat) (S : Sta) (fl : Bool) (e : Expr) : DS := match e with
  | .Call (.Attribute (.Name x p1) m p2) [a] [] p3 => if m == ("append" : Str) && S.own.contains x then (match slotOf S.N x with
      | some i => if visOk S x && !isStar a && p2.endLine == p3.line then (match popOf S a with
        | some (y, e) => (match slotOf S.N y with
          | some j => .appP i j (cE n S e)
          | none => .stuck)
        | none => if fl then .appF i (cE n S a) else .app i (cE n S a)) else .stuck
      | none => .stuck) else .stuck
  | e => if isComp e then .stuck else .exp (cE n S e)
def ownIx (S : Sta) (v : Expr) : Option (Str × Expr) := match v with
  | .Subscript (.Name y _) k _ => if S.own.contains y then some (y, k) else none
  | _ => none
def cAsgI (n : Nat) (S : Sta) (i : Nat) (y : Str) (k : Expr) : DS := match slotOf S.N y with
  | some j => if visOk S y && !isSlice k then .asgI i j (cE n S k) else .stuck
  | none => .stuck
def cNm (n : Nat) (S : Sta) (fl : Bool) (x : Str) (v : Expr) : DS := if !tgtOk S x then .stuck else match slotOf S.N x with
  | none => .stuck
  | some i => if S.own.contains x then (match v with
    | .List es _ => .own i (cA (cE n S) es)
    | .BinOp a .Mult b _ => .ownM i (cE n S a) (cE n S b)
    | .BinOp a .Add b _ => .ownA i (cE n S a) (cE n S b)
    | .ListComp elt gs scope _ => .ownC i (cLC n (cE n) S elt gs scope)
    | v => (match lstOf v with
      | some a => if lok S then .ownL i (cE n S a) else .stuck
      | none => .stuck)) else (match ownIx S v with
    | some (y, k) => cAsgI n S i y k
    | none => (match v with
      | .ListComp elt gs scope _ => .asg (.nm i) (lcE (cLC n (cE n) S elt gs scope))
      | v => if isComp v then .stuck else if fl then .asgF (.nm i) (cE n S v) else .asg (.nm i) (cE n S v)))
def cPut (n : Nat) (S : Sta) (fl : Bool) (x : Str) (k v : Expr) : DS := match slotOf S.N x with
  | none => .stuck
  | some i => if visOk S x && !isSlice k && !isComp v && S.own.contains x then (if fl then .putF i (cE n S k) (cE n S v) else .put i (cE n S k) (cE n S v)) else .stuck
def cWput (n : Nat) (S : Sta) (x : Str) (k v : Expr) : DS := match slotOf S.N x with
  | none => .stuck
  | some i => if visOk S x && !isSlice k && !isComp v then .wput i (cE n S k) (cE n S v) else .stuck
def cWdm (n : Nat) (S : Sta) (x : Str) (c : Int) (y : Str) (v : Expr) : DS := match slotOf S.N x, slotOf S.N y with
  | some i, some j => if visOk S x && tgtOk S y && !isComp v && !isTupE v then .wdm i c j (cE n S v) else .stuck
  | _, _ => .stuck
def cRet (n : Nat) (S : Sta) (e : Expr) : DS := match S.rw, e with
  | true, .List es _ => .retW (cA (cE n S) es)
  | _, e => .ret (cE n S e)
def cDP (lk : Bool) (r : Expr → DE) (ow : List Bool) : List Expr → DP
  | [] => .nil
  | e :: es => match ow with
    | true :: ow => (match e with
      | .List xs _ => .ow (cA r xs) (cDP lk r ow es)
      | .BinOp a .Mult b _ => .owM (r a) (r b) (cDP lk r ow es)
      | e => (match lstOf e with
        | some a => if lk then .owL (r a) (cDP lk r ow es) else .bad
        | none => .bad))
    | _ :: ow => if isStar e then .bad else .im (r e) (cDP lk r ow es)
    | [] => .bad
def lcl (S : Sta) (x : Str) : Bool := S.sc.names.lookup x == some .local
def swOk (S : Sta) (vs : List Expr) : Bool := decide (S.sc.kind = .function) && !vs.all (foldedForSure 8) && !vs.all (constantsAlone 8) && noStar vs
def nmOf : Expr → Option (Str × Nat)
  | .Name x p => some (x, p.line)
  | _ => none
/-- a tuple's stores one after the other, from the left -/
def swNo (S : Sta) (ts : List Expr) (v : Expr) : Bool := match v with
  | .Tuple vs _ _ => decide (S.sc.kind = .function) && noStar vs && (!(ts.length == 2 || ts.length == 3) || vs.length != ts.length || vs.all (foldedForSure 8) || ts.any (fun t => match t with
    | .Name x _ => !lcl S x
    | _ => true))
  | _ => true
def cTup (n : Nat) (S : Sta) (fl : Bool) (ts : List Expr) (v : Expr) : DS :=
  let seqS : DS := if swNo S ts v && !isComp v then (match cP n S (.Tuple ts 0 default) with
      | some p => if fl then .asgF p (cE n S v) else .asg p (cE n S v)
      | none => .stuck) else .stuck
  match ts, v with
  | [.Name x px, .Name y py], .Tuple [a, b] _ _ => if lcl S x && lcl S y && x != y && px.line == py.line && swOk S [a, b] then (match slotOf S.N x, slotOf S.N y with
      | some i, some j => if i = j then .stuck else .par [i, j] (cDP (lok S) (cE n S) [S.own.contains x, S.own.contains y] [a, b])
      | _, _ => .stuck) else if tgtOk S x && tgtOk S y && swNo S ts v && (S.own.contains x || S.own.contains y) then (match slotOf S.N x, slotOf S.N y with
      | some i, some j => .par [i, j] (cDP (lok S) (cE n S) [S.own.contains x, S.own.contains y] [a, b])
      | _, _ => .stuck) else seqS
  | [.Name x px, .Name y py, .Name z pz], .Tuple [a, b, c] _ _ => if lcl S x && lcl S y && lcl S z && x != y && x != z && y != z && px.line == py.line && px.line == pz.line && swOk S [a, b, c] then (match slotOf S.N x, slotOf S.N y, slotOf S.N z with
      | some i, some j, some l => if i = j ∨ i = l ∨ j = l then .stuck else .par [i, j, l] (cDP (lok S) (cE n S) [S.own.contains x, S.own.contains y, S.own.contains z] [a, b, c])
      | _, _, _ => .stuck) else seqS
  | [.Subscript (.Name x _) k1 _, .Subscript (.Name y _) k2 _], .Tuple [a, b] _ _ => if x = y ∧ S.own.contains x = true then (match slotOf S.N x with
      | some i => if visOk S x && !isSlice k1 && !isSlice k2 && noStar [a, b] && swNo S ts v then .put2 i (cE n S k1) (cE n S k2) (cE n S a) (cE n S b) else .stuck
      | none => .stuck) else seqS
  | _, _ => seqS
def cAs (n : Nat) (S : Sta) (fl : Bool) (t v : Expr) : DS := match t with
  | .Name x _ => cNm n S fl x v
  | .Subscript (.Name x _) k _ => if S.wl.contains x then cWput n S x k v else cPut n S fl x k v
  | .Tuple [.Subscript (.Name x _) (.Constant (.int c) _ _) _, .Name y _] _ _ => cWdm n S x c y v
  | .Tuple ts _ _ => cTup n S fl ts v
  | _ => .stuck
def lineOf : Stmt → Nat
  | .Return _ p | .Assign _ _ p | .For _ _ _ _ p | .While _ _ _ p | .If _ _ _ p | .Expr _ p => p.line
  | _ => 0
def fzs (S : Sta) (l : Nat) (d : DS) : List (Nat × Str) → DS
  | [] => d
  | (m, x) :: r => if m = l then (match slotOf S.N x with
    | some i => .seq (.fz i) (fzs S l d r)
    | none => fzs S l d r) else fzs S l d r
def cSs (S : Sta) (r : Stmt → DS) : List Stmt → DS
  | [] => .next
  | st :: rest => fzs S (lineOf st) (.seq (r st) (cSs S r rest)) S.fz
def cS : Nat → Sta → Stmt → DS
  | 0, _, _ => .stuck
  | n + 1, S, st => match st with
    | .Return none _ => .retN
    | .Return (some e) _ => cRet n S e
    | .Pass _ => .next
    | .Break _ => .brk
    | .Continue _ => .cnt
    | .If c a b _ => .ifs (cT (cE n S) n c) (cSs S (cS n S) a) (cSs S (cS n S) b)
    | .While c b [] _ => .while_ (cT (cE n S) n c) (cSs S (cS n S) b)
    | .For tg it b [] _ => (match cP n S tg with
      | some p => if isSet it then .stuck else if isRng (cI S (cE n S) tg it) then .forR p (cI S (cE n S) tg it) (cSs S (cS n S) b) else .for_ p (cI S (cE n S) tg it) (cSs S (cS n S) b)
      | none => .stuck)
    | .Expr e p => cEx n S (S.fl.contains p.line) e
    | .Assign [t] v p => cAs n S (S.fl.contains p.line) t v
    | _ => .stuck
end L2.DL
namespace L2.DL
open PySem PySem.Spec PyProof.Rows

structure LkS (Sg : Nat → SpD) (S : Sta) (X : Cx) (C : Cfg) (Wx : WX) (k : Nat) : Prop extends Lk Sg S X C Wx k where
  po : PassesOwn (model X.prog X.w) X.A X.env X.xe
section
variable {Sg : Nat → SpD} {S : Sta} {X : Cx} {C : Cfg} {Wx : WX} {k n : Nat} {r : Expr → DE} {e a b elt tg iter t v : Expr} {es ts : List Expr} {pos p px py pz p2 : Pos} {x y z : Str} {scope : Scope} {st : Stmt} {sts : List Stmt} {fl : Bool}
theorem LkS.s (L : LkS Sg S X C Wx k) : CtxS X C Wx k := { L.toCtx with po := L.po }
theorem ps_stuck : PS X st (tS C Wx sStuck) := ⟨fun pins s σ H D I ⟨_, _, _, _, _, _, _, _, _, h, _⟩ => h.elim⟩
theorem vis_ok (L : LkS Sg S X C Wx k) (h : visOk S x = true) : Vis X.env.scope x ∧ (x == ("__debug__" : Str)) = false ∧ (x == ("__classdict__" : Str)) = false := by
  unfold visOk at h
  have h' : dbg x = false ∧ ((S.sc.names.lookup x = some .local ∨ S.sc.names.lookup x = some .cell) ∨ S.sc.names.lookup x = some .free) := by simpa using h
  refine ⟨?_, (dbg_no h'.1).1, (dbg_no h'.1).2.1⟩
  rw [L.sc]
  rcases h'.2 with (q | q) | q
  · exact .inl q
  · exact .inr (.inl q)
  · exact .inr (.inr q)
theorem cEx_ok (L : LkS Sg S X C Wx k) : PS X (.Expr e pos) (tS C Wx (wS Sg (cEx n S fl e))) := by
  unfold cEx
  split
  · split
    · rename_i x p1 m p2 a p3 hm
      have hm' : (m == ("append" : Str)) = true ∧ S.own.contains x = true := by simpa using hm
      have hme := eq_of_beq hm'.1
      subst hme
      split
      · rename_i i hi
        split
        · rename_i hc
          have hc' : (visOk S x = true ∧ isStar a = false) ∧ (p2.endLine == p3.line) = true := by simpa using hc
          obtain ⟨v1, v2, v3⟩ := vis_ok L hc'.1.1
          have hN : X.N[i]? = some x := by rw [L.N]; exact slotOf_at hi
          split
          · rename_i y e hp
            unfold popOf at hp
            split at hp
            · split at hp
              · rename_i hq
                cases hp
                obtain ⟨q1, q2, q3, q4, q5⟩ := hq
                subst q1
                split
                · rename_i j hj
                  obtain ⟨w1, w2, w3⟩ := vis_ok L q3
                  exact ss_appP hN v1 v2 v3 (by rw [L.N]; exact slotOf_at hj) w1 w2 w3 (cE_ok n S L.toLk _) q4 hc'.2 q5
                · exact ps_stuck
              · cases hp
            · cases hp
          split
          · exact ss_appF hN v1 v2 v3 (cE_ok n S L.toLk _) hc'.1.2 hc'.2
          · exact ss_app hN v1 v2 v3 (cE_ok n S L.toLk _) hc'.1.2 hc'.2
        · exact ps_stuck
      · exact ps_stuck
    · exact ps_stuck
  · split
    · exact ps_stuck
    · rename_i h
      exact ss_exp (cE_ok n S L.toLk _) (by simpa using h)
theorem swaps_lc {gs : List Comprehension} {l : Nat} : (swapsWith (.ListComp elt gs scope pos) (some (.Name x p)) l X.env = pure true ∧ X.env.scope.names.lookup x = some .local) ∨ swapsWith (.ListComp elt gs scope pos) (some (.Name x p)) l X.env = pure false := by
  have e : swapsWith (.ListComp elt gs scope pos) (some (.Name x p)) l X.env = pure (X.env.blockKind == .function && X.env.kindOf x == some .local && p.line == pos.line && !(scope.names.any fun (n, k) => n == x && (k == .local || k == .cell))) := rfl
  rw [e]
  cases h : (X.env.blockKind == .function && X.env.kindOf x == some .local && p.line == pos.line && !(scope.names.any fun (n, k) => n == x && (k == .local || k == .cell))) with
  | false => exact .inr rfl
  | true =>
    have h' := h
    simp only [Bool.and_eq_true] at h'
    exact .inl ⟨rfl, eq_of_beq h'.1.1.2⟩
theorem lstOf_eq {e a : Expr} (h : lstOf e = some a) : ∃ px q0, e = .Call (.Name "list" px) [a] [] q0 ∧ isStar a = false := by
  unfold lstOf at h
  split at h
  · split at h
    · rename_i q
      cases h
      obtain ⟨q1, q2⟩ := q
      subst q1
      exact ⟨_, _, rfl, q2⟩
    · cases h
  · cases h
theorem lok_ok (L : Lk Sg S X C Wx k) (h : lok S = true) : Gl X "list" ∧ X.mg "list" = none := by
  have h' : isGl S "list" = true ∧ S.G.bl.contains "list" = true := by simpa only [lok, Bool.and_eq_true] using h
  exact ⟨isGl_ok L h'.1, bl_ok L h'.2⟩
theorem cNm_ok (L : LkS Sg S X C Wx k) : PS X (.Assign [.Name x p] v pos) (tS C Wx (wS Sg (cNm n S fl x v))) := by
  unfold cNm
  split
  · exact ps_stuck
  · rename_i ht
    have ht : tgtOk S x = true := by simpa using ht
    obtain ⟨hx, hf⟩ := tgt_ok L.toLk ht
    split
    · exact ps_stuck
    · rename_i i hi
      have hN : X.N[i]? = some x := by rw [L.N]; exact slotOf_at hi
      have hE : ∀ e, PE X e (tE C Wx (wE Sg (cE n S e))) := fun e => cE_ok n S L.toLk e
      have hA : ∀ es, PA X es (tAs C Wx (wA Sg (cA (cE n S) es))) := fun es => args_ok L.toLk (cE_ok n S)
      split
      · split
        · exact ss_ownD L.nd hN hx hf (hA _)
        · exact ss_ownM L.nd hN hx hf (hE _) (hE _)
        · exact ss_ownA L.nd hN hx hf (hE _) (hE _)
        · rename_i elt gs scope _
          generalize hl : cLC n (cE n) S elt gs scope = l
          have h := cLC_ok (elt := elt) (scope := scope) (n := n) L.toLk (cE_ok n) gs
          rw [hl] at h
          cases h with
          | bad => exact ps_stuck
          | one h => exact ss_ownC L.toCtx hN hx hf h swaps_lc
          | two h => exact ss_ownC2 L.toCtx hN hx hf h swaps_lc
        · split
          · rename_i a hl
            split
            · rename_i hk
              obtain ⟨px, q0, rfl, hs⟩ := lstOf_eq hl
              obtain ⟨k1, k2⟩ := lok_ok L.toLk hk
              exact ss_ownL L.nd hN hx hf k1 k2 (hE _) hs
            · exact ps_stuck
          · exact ps_stuck
      · split
        · rename_i y k0 hy
          unfold ownIx at hy
          split at hy
          · split at hy
            · cases hy
              unfold cAsgI
              split
              · rename_i j hj
                split
                · rename_i hc
                  have hc' : visOk S y = true ∧ isSlice k0 = false := by simpa using hc
                  obtain ⟨v1, v2, v3⟩ := vis_ok L hc'.1
                  exact ss_asgI L.K L.nd hN hx hf (by rw [L.N]; exact slotOf_at hj) v1 v2 v3 (hE _) hc'.2
                · exact ps_stuck
              · exact ps_stuck
            · cases hy
          · cases hy
        · split
          · rename_i elt gs scope _ _
            generalize hl : cLC n (cE n) S elt gs scope = l
            have h := cLC_ok (elt := elt) (scope := scope) (n := n) L.toLk (cE_ok n) gs
            rw [hl] at h
            cases h with
            | bad => exact ⟨fun pins s σ H D I ⟨_, _, _, _, _, _, _, _, _, h, _⟩ => h.elim⟩
            | one h => exact ss_asgC L.toCtx hN hx hf h swaps_lc
            | two h => exact ss_asgC2 L.toCtx hN hx hf h swaps_lc
          · split
            · exact ps_stuck
            · rename_i hc
              split
              · exact ss_nmF L.nd hN hx hf (hE _) (by simpa using hc)
              · exact ss_nm L.nd hN hx hf (hE _) (by simpa using hc)
theorem cPut_ok {k0 : Expr} (L : LkS Sg S X C Wx k) : PS X (.Assign [.Subscript (.Name x p) k0 p2] v pos) (tS C Wx (wS Sg (cPut n S fl x k0 v))) := by
  unfold cPut
  split
  · exact ps_stuck
  · rename_i i hi
    split
    · rename_i hc
      have hc' : ((visOk S x = true ∧ isSlice k0 = false) ∧ isComp v = false) ∧ S.own.contains x = true := by simpa using hc
      obtain ⟨v1, v2, v3⟩ := vis_ok L hc'.1.1.1
      have hN : X.N[i]? = some x := by rw [L.N]; exact slotOf_at hi
      split
      · exact ss_putF hN v1 v2 v3 (cE_ok n S L.toLk _) (cE_ok n S L.toLk _) hc'.1.1.2 hc'.1.2
      · exact ss_put hN v1 v2 v3 (cE_ok n S L.toLk _) (cE_ok n S L.toLk _) hc'.1.1.2 hc'.1.2
    · exact ps_stuck
theorem dp_ok (L : LkS Sg S X C Wx k) (hr : OkE Sg S r) : ∀ {es : List Expr} {ow : List Bool}, PA X es (tP C Wx (wP Sg (cDP (lok S) r ow es)))
  | [], ow => by
    unfold cDP
    exact sp_nil
  | e :: es, ow => by
    have bad : PA X (e :: es) (tP C Wx (wP Sg .bad)) := ⟨fun pos pins s σ H Q I ⟨_, _, _, _, _, _, _, _, _, h, _⟩ => h.elim⟩
    unfold cDP
    split
    · split
      · exact sp_ow (args_ok L.toLk hr) (dp_ok L hr)
      · exact sp_owM (hr L.toLk _) (hr L.toLk _) (dp_ok L hr)
      · split
        · rename_i a hl
          split
          · rename_i hk
            obtain ⟨px, q0, rfl, hs⟩ := lstOf_eq hl
            obtain ⟨k1, k2⟩ := lok_ok L.toLk hk
            exact sp_owL k1 k2 (hr L.toLk _) hs (dp_ok L hr)
          · exact bad
        · exact bad
    · split
      · exact bad
      · rename_i hs
        exact sp_im (hr L.toLk e) (dp_ok L hr) (by simpa using hs)
    · exact bad
theorem fzs_ok {d : DS} {l : Nat} (L : LkS Sg S X C Wx k) (h : PSs X sts (tS C Wx (wS Sg d))) : ∀ {q : List (Nat × Str)}, PSs X sts (tS C Wx (wS Sg (fzs S l d q)))
  | [] => h
  | (m, x) :: q => by
    unfold fzs
    split
    · split
      · exact sq_fz (fzs_ok L h)
      · exact fzs_ok L h
    · exact fzs_ok L h
theorem cSs_ok {q : Stmt → DS} (L : LkS Sg S X C Wx k) (hq : ∀ st, PS X st (tS C Wx (wS Sg (q st)))) : ∀ {sts : List Stmt}, PSs X sts (tS C Wx (wS Sg (cSs S q sts)))
  | [] => sq_nil
  | st :: rest => fzs_ok (d := .seq (q st) (cSs S q rest)) L (sq_cons (hq st) (cSs_ok L hq))
/-! tuples -/
theorem lcl_ok (L : LkS Sg S X C Wx k) (h : lcl S x = true) : X.env.scope.names.lookup x = some .local := by
  rw [L.sc]; exact eq_of_beq h
theorem bk_fun {env : Env} (h : env.scope.kind = .function) : env.blockKind = .function := by
  unfold Env.blockKind
  rw [h]; rfl
theorem any_star {vs : List Expr} (h : noStar vs = true) : (vs.any fun | .Starred .. => true | _ => false) = false := by
  unfold noStar at h
  rw [List.any_eq_false]
  intro e he
  have := List.all_eq_true.mp h e he
  cases e <;> first
    | (simp [isStar] at this; done)
    | (intro z; cases z; done)
theorem sw2 {env : Env} {kt k2 : Nat} (hk : env.scope.kind = .function) (hx : env.scope.names.lookup x = some .local) (hy : env.scope.names.lookup y = some .local) (hxy : (x != y) = true) (hl : (px.line == py.line) = true) (h1 : [a, b].all (foldedForSure 8) = false) (h2 : [a, b].all (constantsAlone 8) = false) (h3 : noStar [a, b] = true) :
    swappedStores [.Tuple [.Name x px, .Name y py] kt p] (.Tuple [a, b] k2 p2) env = pure (some [x, y]) := by
  unfold swappedStores
  have hb := bk_fun hk
  have kx : env.kindOf x = some .local := hx
  have ky : env.kindOf y = some .local := hy
  have hne : ¬ (x = y) := by simpa using hxy
  have hne' : (x == y) = false := by simpa using hne
  have hne2 : (y == x) = false := by simpa using fun z => hne z.symm
  have hl' : px.line = py.line := by simpa using hl
  have e1 : (Expr.Name x px).pos = px := rfl
  dsimp only
  have en : List.filterMap (fun t => match t with
      | Expr.Name id pos => if (env.kindOf id == some NameKind.local && pos.line == (Option.map (fun t : Expr => t.pos.line) [Expr.Name x px, Expr.Name y py].head?).getD 0) = true then some id else none
      | _ => none) [Expr.Name x px, Expr.Name y py] = [x, y] := by
    simp [kx, ky, e1, hl']
  have ed : [x, y].eraseDups = [x, y] := by simp [List.eraseDups_cons, hne, hne', hne2]
  rw [if_neg, if_neg, if_neg, if_neg, if_neg]
  · exact congrArg (fun l => pure (some l)) en
  · intro z; rw [h2] at z; cases z
  · intro z; rw [h1] at z; cases z
  · intro z
    have z : ([x, y].length != 2 || [x, y].eraseDups.length != [x, y].length) = true := by rw [← en]; exact z
    rw [ed] at z
    cases z
  · intro z
    have z' := any_star h3
    rw [show ([a, b].any fun | .Starred .. => true | _ => false) = true from z] at z'
    cases z'
  · rw [hb]
    exact Bool.false_ne_true
theorem sw3 {env : Env} {kt k2 : Nat} {c : Expr} (hk : env.scope.kind = .function) (hx : env.scope.names.lookup x = some .local) (hy : env.scope.names.lookup y = some .local) (hz : env.scope.names.lookup z = some .local) (hxy : (x != y) = true) (hxz : (x != z) = true) (hyz : (y != z) = true) (hl : (px.line == py.line) = true) (hlz : (px.line == pz.line) = true) (h1 : [a, b, c].all (foldedForSure 8) = false) (h2 : [a, b, c].all (constantsAlone 8) = false) (h3 : noStar [a, b, c] = true) :
    swappedStores [.Tuple [.Name x px, .Name y py, .Name z pz] kt p] (.Tuple [a, b, c] k2 p2) env = pure (some [x, y, z]) := by
  unfold swappedStores
  have hb := bk_fun hk
  have kx : env.kindOf x = some .local := hx
  have ky : env.kindOf y = some .local := hy
  have kz : env.kindOf z = some .local := hz
  have nxz : ¬ (x = z) := by simpa using hxz
  have nyz : ¬ (y = z) := by simpa using hyz
  have nzx : ¬ (z = x) := fun e => nxz e.symm
  have nzy : ¬ (z = y) := fun e => nyz e.symm
  have hlz' : px.line = pz.line := by simpa using hlz
  have hly' : py.line = pz.line := by rw [← hlz']; exact (by simpa using hl : px.line = py.line).symm
  have hne : ¬ (x = y) := by simpa using hxy
  have hne' : (x == y) = false := by simpa using hne
  have hne2 : (y == x) = false := by simpa using fun z => hne z.symm
  have hl' : px.line = py.line := by simpa using hl
  have e1 : (Expr.Name x px).pos = px := rfl
  dsimp only
  have en : List.filterMap (fun t => match t with
      | Expr.Name id pos => if (env.kindOf id == some NameKind.local && pos.line == (Option.map (fun t : Expr => t.pos.line) [Expr.Name x px, Expr.Name y py, Expr.Name z pz].head?).getD 0) = true then some id else none
      | _ => none) [Expr.Name x px, Expr.Name y py, Expr.Name z pz] = [x, y, z] := by
    simp [kx, ky, kz, e1, hl', hlz', hly']
  have ed : [x, y, z].eraseDups = [x, y, z] := by
    have q1 : (z == x) = false := by simpa using nzx
    have q2 : (z == y) = false := by simpa using nzy
    simp only [List.eraseDups_cons, List.filter_cons, List.filter_nil, hne2, q1, q2, Bool.not_false, if_true, List.eraseDups_nil]
  rw [if_neg, if_neg, if_neg, if_neg, if_neg]
  · exact congrArg (fun l => pure (some l)) en
  · intro u; rw [h2] at u; cases u
  · intro u; rw [h1] at u; cases u
  · intro u
    have u : ([x, y, z].length != 3 || [x, y, z].eraseDups.length != [x, y, z].length) = true := by rw [← en]; exact u
    rw [ed] at u
    cases u
  · intro u
    have z' := any_star h3
    rw [show ([a, b, c].any fun | .Starred .. => true | _ => false) = true from u] at z'
    cases z'
  · rw [hb]
    exact Bool.false_ne_true
theorem fm_lt {α β : Type} {f : α → Option β} : ∀ {l : List α}, (l.any fun t => (f t).isNone) = true → (l.filterMap f).length < l.length
  | [], h => by cases h
  | a :: l, h => by
    have hle : (l.filterMap f).length ≤ l.length := List.length_filterMap_le f l
    cases e : f a with
    | none => rw [List.filterMap_cons_none e]; exact Nat.lt_succ_of_le hle
    | some b =>
      rw [List.filterMap_cons_some e]
      have h' : (l.any fun t => (f t).isNone) = true := by simpa [e] using h
      exact Nat.succ_lt_succ (fm_lt h')
theorem swN {env : Env} {kt : Nat} (hsc : env.scope = S.sc) (h : swNo S ts v = true) : swappedStores [.Tuple ts kt p] v env = pure none := by
  cases v with
  | Tuple vs k2 p2 =>
    have h' : (S.sc.kind = .function ∧ noStar vs = true) ∧ (((!(ts.length == 2 || ts.length == 3) || vs.length != ts.length) || vs.all (foldedForSure 8)) || ts.any (fun t => match t with
      | .Name x _ => !lcl S x
      | _ => true)) = true := by
      unfold swNo at h
      rw [Bool.and_eq_true, Bool.and_eq_true, decide_eq_true_eq] at h
      exact h
    obtain ⟨⟨hk, hs⟩, h⟩ := h'
    have hb : env.blockKind = .function := bk_fun (by rw [hsc]; exact hk)
    unfold swappedStores
    dsimp only
    by_cases c1 : (!(ts.length == 2 || ts.length == 3) || vs.length != ts.length || env.blockKind != ScopeKind.function) = true
    · rw [if_pos c1]
    · rw [if_neg c1, if_neg (by rw [Bool.not_eq_true]; exact any_star hs)]
      split
      · rfl
      · rename_i c3
        split
        · rfl
        · rename_i c4
          exfalso
          rw [hb] at c1
          have c1' : (!(ts.length == 2 || ts.length == 3) || vs.length != ts.length) = false := by
            cases q : (!(ts.length == 2 || ts.length == 3) || vs.length != ts.length) with
            | false => rfl
            | true => rw [q] at c1; exact absurd rfl c1
          have c4' : vs.all (foldedForSure 8) = false := by simpa using c4
          rw [c1', c4'] at h
          have h : ts.any (fun t => match t with
            | .Name x _ => !lcl S x
            | _ => true) = true := by simpa using h
          refine c3 ?_
          have q := fm_lt (f := fun t : Expr => match t with
            | .Name id pos => if (env.kindOf id == some NameKind.local && pos.line == (ts.head?.map (·.pos.line)).getD 0) = true then some id else none
            | _ => none) (l := ts) (by
              rw [List.any_eq_true] at h ⊢
              obtain ⟨t, ht, hq⟩ := h
              refine ⟨t, ht, ?_⟩
              cases t <;> first
                | rfl
                | (rename_i id pos
                   have hq' : (S.sc.names.lookup id == some NameKind.local) = false := by simpa [lcl] using hq
                   have : (env.kindOf id == some NameKind.local) = false := by
                     show (env.scope.names.lookup id == some NameKind.local) = false
                     rw [hsc]; exact hq'
                   simp [this]))
          rw [Bool.or_eq_true]
          exact .inl (bne_iff_ne.mpr (Nat.ne_of_lt q))
  | _ => rfl
theorem cP_tup {kt : Nat} {pt : Pt} (L : LkS Sg S X C Wx k) (h : cP n S (.Tuple ts 0 default) = some pt) : PG X (.Tuple ts kt p) (gD C pt) := by
  cases n with
  | zero => cases h
  | succ n =>
    refine cP_ok L.toLk (n := n + 1) (S := S) ?_
    unfold cP at h ⊢
    exact h
theorem own_eq {x : Str} (h : (x != y) = true) : True := True.intro
theorem cTup_ok {kt : Nat} (L : LkS Sg S X C Wx k) : PS X (.Assign [.Tuple ts kt p] v pos) (tS C Wx (wS Sg (cTup n S fl ts v))) := by
  have seqS : PS X (.Assign [.Tuple ts kt p] v pos) (tS C Wx (wS Sg (if swNo S ts v && !isComp v then (match cP n S (.Tuple ts 0 default) with
      | some p => if fl then .asgF p (cE n S v) else .asg p (cE n S v)
      | none => .stuck) else .stuck))) := by
    split
    · rename_i hc
      have hc' : swNo S ts v = true ∧ isComp v = false := by simpa using hc
      split
      · rename_i pt hp
        split
        · exact ss_tgF (cP_tup L hp) (cE_ok n S L.toLk v) (swaps1 hc'.2 _ _ _) (swN L.sc hc'.1) rfl
        · exact ss_tg (cP_tup L hp) (cE_ok n S L.toLk v) (swaps1 hc'.2 _ _ _) (swN L.sc hc'.1) rfl
      · exact ps_stuck
    · exact ps_stuck
  unfold cTup
  dsimp only
  split
  · split
    · rename_i x px y py a b _ _ hc
      have hc' : (((lcl S x = true ∧ lcl S y = true) ∧ (x != y) = true) ∧ (px.line == py.line) = true) ∧ swOk S [a, b] = true := by simpa only [Bool.and_eq_true] using hc
      obtain ⟨⟨⟨⟨h1, h2⟩, h3⟩, h4⟩, h5⟩ := hc'
      have h5' : ((S.sc.kind = .function ∧ [a, b].all (foldedForSure 8) = false) ∧ [a, b].all (constantsAlone 8) = false) ∧ noStar [a, b] = true := by
        unfold swOk at h5
        simpa only [Bool.and_eq_true, decide_eq_true_eq, Bool.not_eq_true'] using h5
      split
      · rename_i i j hi hj
        split
        · exact ps_stuck
        · rename_i hij
          exact ss_par L.toCtx (by rw [L.N]; exact slotOf_at hi) (by rw [L.N]; exact slotOf_at hj) hij (lcl_ok L h1) (lcl_ok L h2) (dp_ok L (cE_ok n S))
            (sw2 (by rw [L.sc]; exact h5'.1.1.1) (lcl_ok L h1) (lcl_ok L h2) h3 h4 h5'.1.1.2 h5'.1.2 h5'.2)
      · exact ps_stuck
    · split
      · rename_i x px y py a b k2 p2 _ hc
        have hc' : ((tgtOk S x = true ∧ tgtOk S y = true) ∧ swNo S [.Name x px, .Name y py] (.Tuple [a, b] k2 p2) = true) ∧ (S.own.contains x || S.own.contains y) = true := by simpa only [Bool.and_eq_true] using hc
        split
        · rename_i i j hi hj
          exact ss_parT L.toCtx (by rw [L.N]; exact slotOf_at hi) (by rw [L.N]; exact slotOf_at hj) (tgt_ok L.toLk hc'.1.1.1) (tgt_ok L.toLk hc'.1.1.2) (dp_ok L (cE_ok n S)) (swaps1 rfl _ _ _) (swN L.sc hc'.1.2)
        · exact ps_stuck
      · exact seqS
  · split
    · rename_i x px y py z pz a b c _ _ hc
      have hc' : ((((((((lcl S x = true ∧ lcl S y = true) ∧ lcl S z = true) ∧ (x != y) = true) ∧ (x != z) = true) ∧ (y != z) = true) ∧ (px.line == py.line) = true) ∧ (px.line == pz.line) = true) ∧ swOk S [a, b, c] = true) := by simpa only [Bool.and_eq_true] using hc
      obtain ⟨⟨⟨⟨⟨⟨⟨⟨h1, h2⟩, h2z⟩, h3⟩, h3z⟩, h3w⟩, h4⟩, h4z⟩, h5⟩ := hc'
      have h5' : ((S.sc.kind = .function ∧ [a, b, c].all (foldedForSure 8) = false) ∧ [a, b, c].all (constantsAlone 8) = false) ∧ noStar [a, b, c] = true := by
        unfold swOk at h5
        simpa only [Bool.and_eq_true, decide_eq_true_eq, Bool.not_eq_true'] using h5
      split
      · rename_i i j l hi hj hl
        split
        · exact ps_stuck
        · rename_i hij
          exact ss_par3 L.toCtx (by rw [L.N]; exact slotOf_at hi) (by rw [L.N]; exact slotOf_at hj) (by rw [L.N]; exact slotOf_at hl) (fun e => hij (.inl e)) (fun e => hij (.inr (.inl e))) (fun e => hij (.inr (.inr e))) (lcl_ok L h1) (lcl_ok L h2) (lcl_ok L h2z) (dp_ok L (cE_ok n S))
            (sw3 (by rw [L.sc]; exact h5'.1.1.1) (lcl_ok L h1) (lcl_ok L h2) (lcl_ok L h2z) h3 h3z h3w h4 h4z h5'.1.1.2 h5'.1.2 h5'.2)
      · exact ps_stuck
    · exact seqS
  · split
    · rename_i x p1 k1 q1 y p2 k2 q2 a b kv pv hxy
      obtain ⟨rfl, ho⟩ := hxy
      split
      · rename_i i hi
        split
        · rename_i hc
          have hc' : (((visOk S x = true ∧ isSlice k1 = false) ∧ isSlice k2 = false) ∧ noStar [a, b] = true) ∧ swNo S [.Subscript (.Name x p1) k1 q1, .Subscript (.Name x p2) k2 q2] (.Tuple [a, b] kv pv) = true := by simpa only [Bool.and_eq_true, Bool.not_eq_true'] using hc
          obtain ⟨v1, v2, v3⟩ := vis_ok L hc'.1.1.1.1
          have hs : isStar a = false ∧ isStar b = false := by simpa [noStar] using hc'.1.2
          exact ss_put2 L.calm (by rw [L.N]; exact slotOf_at hi) v1 v2 v3 (cE_ok n S L.toLk _) (cE_ok n S L.toLk _) (cE_ok n S L.toLk _) (cE_ok n S L.toLk _) hs.1 hs.2 hc'.1.1.1.2 hc'.1.1.2 (swN L.sc hc'.2)
        · exact ps_stuck
      · exact ps_stuck
    · exact seqS
  · exact seqS
theorem cWput_ok {k0 : Expr} (L : LkS Sg S X C Wx k) : PS X (.Assign [.Subscript (.Name x p) k0 p2] v pos) (tS C Wx (wS Sg (cWput n S x k0 v))) := by
  unfold cWput
  split
  · exact ps_stuck
  · rename_i i hi
    split
    · rename_i hc
      have hc' : (visOk S x = true ∧ isSlice k0 = false) ∧ isComp v = false := by simpa using hc
      obtain ⟨v1, v2, v3⟩ := vis_ok L hc'.1.1
      exact ss_wput (by rw [L.N]; exact slotOf_at hi) v1 v2 v3 (cE_ok n S L.toLk _) (cE_ok n S L.toLk _) hc'.1.2 hc'.2
    · exact ps_stuck
theorem cWdm_ok {c : Int} {kc kt : Nat} {pc pt : Pos} (L : LkS Sg S X C Wx k) : PS X (.Assign [.Tuple [.Subscript (.Name x px) (.Constant (.int c) kc pc) pt, .Name y py] kt pz] v pos) (tS C Wx (wS Sg (cWdm n S x c y v))) := by
  unfold cWdm
  split
  · rename_i i j hi hj
    split
    · rename_i hc
      have hc' : ((visOk S x = true ∧ tgtOk S y = true) ∧ isComp v = false) ∧ isTupE v = false := by simpa using hc
      obtain ⟨v1, v2, v3⟩ := vis_ok L hc'.1.1.1
      obtain ⟨t1, t2⟩ := tgt_ok L.toLk hc'.1.1.2
      exact ss_wdm L.toCtx (by rw [L.N]; exact slotOf_at hi) v1 v2 v3 (by rw [L.N]; exact slotOf_at hj) t1 t2 (cE_ok n S L.toLk _) hc'.1.2 hc'.2
    · exact ps_stuck
  · exact ps_stuck
theorem cRet_ok (L : LkS Sg S X C Wx k) : PS X (.Return (some e) pos) (tS C Wx (wS Sg (cRet n S e))) := by
  unfold cRet
  split
  · exact ss_retW (args_ok L.toLk (cE_ok n S))
  · exact ss_ret (cE_ok n S L.toLk _)
theorem cAs_ok (L : LkS Sg S X C Wx k) : PS X (.Assign [t] v pos) (tS C Wx (wS Sg (cAs n S fl t v))) := by
  unfold cAs
  split
  · exact cNm_ok L
  · split
    · exact cWput_ok L
    · exact cPut_ok L
  · exact cWdm_ok L
  · exact cTup_ok L
  · exact ps_stuck
theorem cS_ok : ∀ (n : Nat) (L : LkS Sg S X C Wx k) (st : Stmt), PS X st (tS C Wx (wS Sg (cS n S st)))
  | 0, L, st => ps_stuck
  | n + 1, L, st => by
    have hE : ∀ e, PE X e (tE C Wx (wE Sg (cE n S e))) := fun e => cE_ok n S L.toLk e
    have hT : ∀ e, PT X e (tT C Wx (wT Sg (cT (cE n S) n e))) := fun e => cT_ok L.toLk (cE_ok n S) n e
    have hS : ∀ sts, PSs X sts (tS C Wx (wS Sg (cSs S (cS n S) sts))) := fun sts => cSs_ok L (cS_ok n L)
    unfold cS
    split
    · exact ss_retN
    · exact cRet_ok L
    · exact ss_pass
    · exact ss_brk
    · exact ss_cnt
    · exact ss_if (hT _) (hS _) (hS _)
    · exact ss_while L.s (hT _) (hS _)
    · split
      · rename_i pt hp
        split
        · exact ps_stuck
        · rename_i hs
          split
          · rename_i hR
            exact ss_forR L.s (iR_ok L.toLk (cE_ok n S) hR) (cP_ok L.toLk hp) (hS _) (folded_not (by simpa using hs) _)
          · exact ss_for L.s (i_ok L.toLk (cE_ok n S)) (cP_ok L.toLk hp) (hS _) (folded_not (by simpa using hs) _)
      · exact ps_stuck
    · exact cEx_ok L
    · exact cAs_ok L
    · exact ps_stuck
/-- a body -/
def cBody (n : Nat) (S : Sta) (sts : List Stmt) : DS := cSs S (cS n S) sts
theorem cBody_ok (n : Nat) (L : LkS Sg S X C Wx k) : PSs X sts (tS C Wx (wS Sg (cBody n S sts))) := cSs_ok L (cS_ok n L)
end
end L2.DL
namespace L2.DL
open PySem PySem.Spec PyProof.Rows

abbrev cf1 (K : PySem.W.Frag) (mg : Str → Option Value) (tq : Addr → Option Str) (lam : Nat → LamD → Prop) : Cfg := { K := K, mg := mg, fld := fun _ => none, tq := tq, lam := lam }
/-- the slots at a def's entry -/
def entry (N : List Str) (ds : List D) : EnvS := ds.map .im ++ List.replicate (N.length - ds.length) .no
theorem entry_ok {C : Cfg} {J H : Hp} {W : Addr → Prop} {N : List Str} {ds : List D} {vs : List V} (da : DAs C J W ds vs) : SOk C J W H H (entry N ds) (L2.start N vs) := by
  have hl := da.length
  have no : ∀ (i : Nat) (xs : List D), (entry N ds)[i]? = some (Sl.ow xs) → False := fun i xs h => by
    unfold entry at h
    rcases List.mem_append.mp (List.mem_of_getElem? h) with q | q
    · obtain ⟨d, _, e⟩ := List.mem_map.mp q
      cases e
    · cases (List.mem_replicate.mp q).2
  refine ⟨?_, fun i d h => ?_, fun i xs h => (no i xs h).elim, fun i j xs ys a _ h _ _ => (no i xs h).elim⟩
  · unfold entry L2.start
    simp [hl]
  · unfold entry at h
    unfold L2.start
    by_cases hi : i < ds.length
    · rw [List.getElem?_append_left (by simpa using hi), List.getElem?_map] at h
      cases e : ds[i]? with
      | none => rw [e] at h; cases h
      | some d' =>
        rw [e] at h
        cases h
        obtain ⟨v, h1, h2⟩ := da.get e
        refine ⟨v, ?_, h2⟩
        have hv : i < vs.length := by rw [hl]; exact hi
        rw [List.getElem?_append_left (by simpa using hv), List.getElem?_map, h1]
        rfl
    · rw [List.getElem?_append_right (by simpa using Nat.le_of_not_lt hi)] at h
      cases (List.mem_replicate.mp (List.mem_of_getElem? h)).2
/-- what a def's body must do -/
def bodyW (Sg : Nat → SpD) (N : List Str) (d : DS) (ds : List D) (E : Exc → Prop) (Q : D → Prop) : Prop := wS Sg d (entry N ds) { nx := fun _ => Q .non, rt := Q, ex := E }
theorem gk_mono {Sg : Nat → SpD} {G : Glo} {P : Program} {w : World} {C : Cfg} {base : Heap} {j k : Nat} (g : Gk Sg G P w C base j) (h : j ≤ k) : Gk Sg G P w C base k :=
  ⟨fun i fi e => ⟨Nat.le_trans (g.tb i fi e).1 h, (g.tb i fi e).2⟩, g.gl, g.bl, g.gb⟩
theorem fnD_of {Sg : Nat → SpD} {P : Program} {w : World} {C : Cfg} {base : Heap} {k : Nat} {x : Str} {ps : List Str} {f : Addr} {name qual : Str} {params : Arguments} {body : List Stmt} {scope : Scope} {dV kV doc pm cdv ct oc : Value} {an od : Option Addr} {osl : Array (Option Value)}
    (S : Sta) (n : Nat) (d : DS) (SP : SpD)
    (lk : C.K.lookup f = some ⟨oc, od, .func (PySem.W.fnOf name qual params body scope dV kV doc pm an cdv ct), osl⟩) (hcd : PySem.W.codeIn C.K cdv qual = true) (mgf : C.mg x = some (.ref f)) (kp : PySem.W.keepIn C.K (.ref f) = true)
    (bd : Binds C.K (PySem.W.fnOf name qual params body scope dV kV doc pm an cdv ct) ps []) (hcz : C.cz = []) (hhv : S.hv = false)
    (hmk : ∀ ar bd sc pos kl fr, S.lamk (.Lambda ar bd sc pos) = some (kl, fr) → (∃ c P, cdv = .ref c ∧ LamX.TabB base C.mg c P ∧ C.tq P = some ((qual ++ ".<locals>.") ++ "<lambda>")) ∧ C.lam kl ⟨(qual ++ ".<locals>.") ++ "<lambda>", ar, bd, sc, fr⟩) (sco : FnScope S.N ps scope) (hsc : S.sc = scope) (gk : Gk Sg S.G P w C base k) (hd : cBody n S body = d)
    (hsp : ∀ ds E Q, ds.length = ps.length → SP ds E Q → bodyW Sg S.N d ds E Q) :
    FnD P w C base (k + 1) x ps SP f (PySem.W.fnOf name qual params body scope dV kV doc pm an cdv ct) where
  mg := mgf
  kp := kp
  bd := bd
  ok := fun A outer s H args us vs Q Ex hr hg e0 hb r ⟨J, W, ds, E, Qd, wk, da, hn, sp, hok, hex⟩ => by
    refine LamX.run_ofS (N := S.N) (ps := ps) lk hcd sco hr e0 hb r (by rw [da.length, hn]) fun hr' => ?_
    subst hsc
    refine ⟨_, cBody_ok (Sg := Sg) (S := S) (C := C) (k := k) (Wx := fun cls d _ H => Ex cls d H) n
      (LkS.mk ⟨⟨rfl, rfl, hr', rfl, sco.nd, takes_of rfl rfl rfl rfl, hg⟩, rfl, rfl, fun _ _ => rfl, (by rw [show cz0 C = C from by cases C; cases hcz; rfl]; exact gk), fun _ => hcz, fun h => (by rw [hhv] at h; cases h), hmk⟩ (passes_of rfl)), ?_⟩
    rw [hd]
    exact ⟨J, W, H, J, W, _, _, Post.refl wk, entry_ok da, hsp ds E Qd hn sp, ⟨fun σ H' J' W' ρ p so q => hok .non H' J' W' .non p rfl q, fun σ H' J' W' ρ p so q => q.elim, fun σ H' J' W' ρ p so q => q.elim, fun v H' J' W' d p da q => hok v H' J' W' d p da q, fun x cls dd σ H' J' W' p xd q => hex x cls dd H' J' W' p xd q⟩⟩
end L2.DL
namespace L2.DL
open PySem PySem.Spec PyProof.Rows

/-! ### a lambda keeps its promise -/
theorem env_two {C : Cfg} {J : Hp} {W : Addr → Prop} {N : List Str} {ds cs : List D} {vs us : List V} (h1 : DAs C J W ds vs) (h2 : DAs C J W cs us) : EnvOk C J W ((ds ++ cs).map some) (NdefX.startF N vs (us.map some)) := by
  have l1 := h1.length
  have l2 := h2.length
  have hh := h1.append h2
  refine ⟨?_, fun i d h => ?_⟩
  · unfold NdefX.startF
    simp only [List.length_map, List.length_append, List.length_replicate]
    omega
  · unfold getS at h
    rw [List.getElem?_map] at h
    cases e : (ds ++ cs)[i]? with
    | none => rw [e] at h; cases h
    | some d' =>
      rw [e] at h
      cases h
      obtain ⟨v, h3, h4⟩ := hh.get e
      refine ⟨v, ?_, h4⟩
      have hi : i < (vs ++ us).length := (List.getElem?_eq_some_iff.mp h3).1
      unfold NdefX.startF
      rw [← List.append_assoc, ← List.map_append, List.getElem?_append_left (by simpa using hi), List.getElem?_map, h3]
      rfl
theorem fnL_of {Sg : Nat → SpD} {P : Program} {w : World} {C : Cfg} {base : Heap} {kk k : Nat} {ps lfr : List Str} {SP : SpD} (S : Sta) (n : Nat) (d : DE) (hL : ∀ L, C.lam k L → L.fr = lfr ∧ L.sc = S.sc ∧ cE n S L.bd = d ∧
      ∀ (cl : List (Str × Addr)) (c : Addr) (pm ctv : Value) (us : List Value), us.length = ps.length → bindArgs (PySem.W.kla_fn "<lambda>" L.q L.ar L.bd L.sc cl pm (.ref c) ctv) ⟨us, []⟩ = pure (ps.zip us))
    (sc0 : NdefX.NScope S.N ps lfr S.sc) (hof : S.hof = true) (hhv : S.hv = false) (hfn : ∀ x, S.fn x = false) (hlk : S.lamk = fun _ => none) (gk : Gk Sg S.G P w (cz0 C) base kk)
    (hlen : ∀ all E Q, SP all E Q → all.length = lfr.length + ps.length) (hsp : ∀ cs ds E Q, ds.length = ps.length → cs.length = lfr.length → SP (cs ++ ds) E Q → DL.wE Sg d ((ds ++ cs).map some) E Q) : FnL P w C base (kk + 1) k SP where
  ok := fun A outer s H f us vs Q Ex J W cs ds E Qd hr hg e0 hc wk da das r sp hok hex => by
    obtain ⟨f', F, fr, cvs, e1, f2, f3, f4, f5, f6⟩ := da
    cases e1
    obtain ⟨rfl, esc, hd, hb⟩ := hL _ f4
    simp only at esc hd hb
    have sc : NdefX.NScope S.N ps fr F.sc := by rw [esc]; exact sc0
    have hsc : S.sc = F.sc := esc.symm
    have C0 := hc _ f5
    have lc : cs.length = fr.length := by
      have := C0.len
      rw [List.length_map, f6.length] at this
      exact this
    have hl : ds.length = ps.length := by
      have z := hlen _ _ _ sp
      rw [List.length_append] at z
      have z2 : cs.length = fr.length := lc
      simp only at z
      omega
    refine LM.lam_run (N := S.N) (ps := ps) (fr := fr) (ws := cvs.map some) (vs := vs) sc (hb F.cl F.c) hr e0 (wk.sub _ _ f2) (wk.sub _ _ f3) C0 r (by rw [das.length, hl]) fun hr' => ⟨cE_ok (Sg := Sg) n S (C := C) (k := kk) (Wx := fun cls d _ H => Ex cls d H)
      ⟨⟨rfl, rfl, hr', rfl, sc.nd, takes_of rfl rfl rfl rfl, hg⟩, rfl, hsc.symm, fun x hx => (by rw [hfn x] at hx; cases hx), gk, fun hh => (by rw [hof] at hh; cases hh), fun hh => (by rw [hhv] at hh; cases hh), fun _ _ _ _ _ _ hh => (by rw [hlk] at hh; cases hh)⟩ F.bd, ?_⟩
    refine ⟨J, W, (ds ++ cs).map some, E, Qd, wk, env_two das f6, ?_, ⟨fun v H' J' W' d p da q => hok v H' J' W' d p da q, fun x cls dd H' J' W' p xd q => hex x cls dd H' J' W' p xd q⟩⟩
    rw [hd]
    exact hsp cs ds E Qd hl lc sp
theorem fnH_of {Sg : Nat → SpD} {P : Program} {w : World} {C : Cfg} {base : Heap} {k kk : Nat} {x : Str} {ps : List Str} {f : Addr} {name qual : Str} {params : Arguments} {body : List Stmt} {scope : Scope} {dV kV doc pm cdv ct oc : Value} {an od : Option Addr} {osl : Array (Option Value)}
    (S : Sta) (n : Nat) (d : DS) (SP : SpD)
    (lk : C.K.lookup f = some ⟨oc, od, .func (PySem.W.fnOf name qual params body scope dV kV doc pm an cdv ct), osl⟩) (hcd : PySem.W.codeIn C.K cdv qual = true) (mgf : C.mg x = some (.ref f)) (kp : PySem.W.keepIn C.K (.ref f) = true)
    (bd : Binds C.K (PySem.W.fnOf name qual params body scope dV kV doc pm an cdv ct) ps []) (hcz : C.cz = []) (hof : S.hof = true) (hlk : S.lamk = fun _ => none) (sco : FnScope S.N ps scope) (hsc : S.sc = scope) (gk : Gk Sg S.G P w C base k) (hkk : kk ≤ k)
    (hl : ∀ (cz : List CZ) (j : Nat), FnL P w { C with cz := cz } base kk j (Sg (1000 + j))) (hd : cBody n S body = d) (hsp : ∀ ds E Q, ds.length = ps.length → SP ds E Q → bodyW Sg S.N d ds E Q) :
    FnH P w C base (k + 1) x ps SP f (PySem.W.fnOf name qual params body scope dV kV doc pm an cdv ct) where
  mg := mgf
  kp := kp
  bd := bd
  ok := fun cz A outer s H args us vs Q Ex hr hg e0 hz hb r ⟨J, W, ds, E, Qd, wk, da, hn, sp, hok, hex⟩ => by
    refine LamX.run_ofS (N := S.N) (ps := ps) lk hcd sco hr e0 hb r (by rw [da.length, hn]) fun hr' => ?_
    subst hsc
    refine ⟨_, cBody_ok (Sg := Sg) (S := S) (C := { C with cz := cz }) (k := k) (Wx := fun cls d _ H => Ex cls d H) n
      (LkS.mk ⟨⟨rfl, rfl, hr', rfl, sco.nd, takes_of rfl rfl rfl rfl, hg⟩, rfl, rfl, fun _ _ => rfl, (by rw [show cz0 { C with cz := cz } = C from by cases C; cases hcz; rfl]; exact gk), fun h => (by rw [hof] at h; cases h), fun _ => ⟨rfl, hz, kk, hkk, hl cz⟩, fun _ _ _ _ _ _ hh => (by rw [hlk] at hh; cases hh)⟩ (passes_of rfl)), ?_⟩
    rw [hd]
    exact ⟨J, W, H, J, W, _, _, Post.refl wk, entry_ok da, hsp ds E Qd hn sp, ⟨fun σ H' J' W' ρ p so q => hok .non H' J' W' .non p rfl q, fun σ H' J' W' ρ p so q => q.elim, fun σ H' J' W' ρ p so q => q.elim, fun v H' J' W' d p da q => hok v H' J' W' d p da q, fun x cls dd σ H' J' W' p xd q => hex x cls dd H' J' W' p xd q⟩⟩
end L2.DL
namespace L2.DL
open PySem PySem.Spec PyProof.Rows

/-! ### the law's own call -/
def SPlaw : SpD := fun ds _ Q => (∃ ns : List Int, ds = [.scr ns] ∧ ns.length ≤ 63) ∧ Q (.bl true)
abbrev GoodEnd (t t' : Shared) (r : Result) : Prop := r = .ok (.ret (.bool true)) ∧ OldK t.heap t'.heap ∧ t'.os = t.os ∧ AllBare t'.gens
/-- makers: their code objects, the tables, the names -/
abbrev Tabs' := List (Addr × Addr × Str)
def tqOf (cs : Tabs') : Addr → Option Str := fun a => (cs.find? fun p => p.2.1 == a).map (·.2.2)
theorem tqOf_mem {cs : Tabs'} {a : Addr} (h : tqOf cs a ≠ none) : a ∈ cs.map (·.2.1) := by
  unfold tqOf at h
  cases e : cs.find? fun p => p.2.1 == a with
  | none => rw [e] at h; exact absurd rfl h
  | some p => exact List.mem_map.mpr ⟨p, List.mem_of_find?_eq_some e, eq_of_beq (List.find?_some (p := fun p : Addr × Addr × Str => p.2.1 == a) e)⟩
theorem tqOf_some {cs : Tabs'} {a : Addr} (h : a ∈ cs.map (·.2.1)) : ∃ q, tqOf cs a = some q := by
  unfold tqOf
  cases e : cs.find? fun p => p.2.1 == a with
  | some p => exact ⟨_, rfl⟩
  | none =>
    obtain ⟨p, hp, rfl⟩ := List.mem_map.mp h
    have := List.find?_eq_none.mp e p hp
    simp at this
section
variable {P : Program} {w : World} {C : Cfg} {mb : Str → Option Value} {k : Nat} {fa a : Addr} {t : Shared} {us : List Value} {ns : List Int} {cs : Tabs'}
/-- what is known of the makers' tables -/
structure TabsOk (K : PySem.W.Frag) (cs : Tabs') (h : Heap) : Prop where
  emp : ∀ p ∈ cs, h.get? p.2.1 = some { cls := .none, data := .fields #[] }
  out : ∀ p ∈ cs, K.lookup p.2.1 = none
  hd : ∀ p ∈ cs, PySem.W.CodeHd h p.1 p.2.1
abbrev BMain (mg : Str → Option Value) (h : Heap) : Prop := ∃ bm ob, mg "__builtins__" = some (.ref bm) ∧ bm ≠ builtinsNs ∧ h.get? bm = some ob ∧ ob.cls = .type "module" ∧ ob.dict = some builtinsNs ∧ ob.data = .plain
theorem law_from (htq : C.tq = tqOf cs) (TO : TabsOk C.K cs t.heap) (hbm : BMain C.mg t.heap) (H : Hp) (hH : ∀ b ∈ cs.map (·.2.1), H b = some (.tbl #[])) (only : ∀ b o, H b = some o → (b = a ∧ ∃ ob xs, o = .frz ob (.lst xs)) ∨ (b ∈ cs.map (·.2.1) ∧ o = .tbl #[]))
    (sq : ∀ J : Hp, J a = H a → SqL C.K J a (ns.map V.int)) (hok : HOk P w H t.heap) (apart : H a ≠ none → C.K.lookup a = none)
    (kin : C.K.In t.heap) (nsm : t.heap.Ns mainGlobals C.mg) (nsb : t.heap.Ns builtinsNs mb) (bbt : ∀ y : Str, y ≠ "__name__" → mb y = bootBuiltins y) (lim : t.heap.NoLimit) (gs : t.gens = #[])
    (oa : t.heap.get? a = some { cls := .type "list", data := .seq us.toArray }) (il : ns.length ≤ 63) (rm : Room k callerA)
    (F : ∀ B : Heap, C.K.In B → B.Ns mainGlobals C.mg → (∀ p ∈ cs, LamX.TabB B C.mg p.1 p.2.1) → ∃ fd, FnD P w C B k "law" ["script"] SPlaw fa fd) :
    codeAny (model P w) callerA (.call (.ref fa) ⟨[.ref a], []⟩) (fun r t' => GoodEnd t t' r) t := by
  have isT : ∀ b ∈ cs.map (·.2.1), t.heap.get? b = some { cls := .none, data := .fields #[] } := fun b hb => by
    obtain ⟨p, hp, e⟩ := List.mem_map.mp hb
    rw [← e]; exact TO.emp p hp
  have aT : a ∉ cs.map (·.2.1) := fun z => by
    have q := isT a z
    rw [oa] at q
    have z' : Data.seq us.toArray _ = Data.fields #[] := congrArg Obj.data (Option.some.inj q)
    cases z'
  have noD : ∀ {b : Addr} {o : Obj}, t.heap.get? b = some o → (∀ vs n, o.data ≠ .seq vs n) → o.data ≠ .fields #[] → H b = none := fun {b o} e h1 h2 => by
    cases q : H b with
    | none => rfl
    | some u =>
      rcases only b u q with ⟨e', _⟩ | ⟨e', _⟩
      · rw [e', oa] at e
        cases e
        exact (h1 _ _ rfl).elim
      · rw [isT b e'] at e
        cases e
        exact (h2 rfl).elim
  have stays : ∀ {b : Addr} {o : Obj}, t.heap.get? b = some o → H b = none → (hidT t.heap H).get? b = some o := fun e n => hidT_get e n
  have noA : ∀ {b : Addr} {o : Obj} {es : Array DictEntry} {ep : Nat}, t.heap.get? b = some o → o.data = .dict es ep → H b = none := fun {b o es ep} e d =>
    noD e (fun vs n z => by rw [d] at z; cases z) fun z => by rw [d] at z; cases z
  have nsK : ∀ {b : Addr} {m : Str → Option Value}, t.heap.Ns b m → (hidT t.heap H).Ns b m := fun {b m} q => by
    obtain ⟨o, es, ep, e1, e2, e3⟩ := q
    exact ⟨o, es, ep, stays e1 (noA e1 e2), e2, e3⟩
  have kinB : C.K.In (hidT t.heap H) := fun b o e => stays (kin b o e) (by
    cases q : H b with
    | none => rfl
    | some u =>
      rcases only b u q with ⟨e', _⟩ | ⟨e', _⟩
      · rw [e'] at e q
        rw [apart (by rw [q]; simp)] at e
        cases e
      · obtain ⟨p, hp, ep⟩ := List.mem_map.mp e'
        rw [← ep, TO.out p hp] at e
        cases e)
  have hmod : Mod C.K C.mg (hidT t.heap H) := by
    obtain ⟨mc, l1, l2⟩ := lim
    exact ⟨kinB, nsK nsm, ⟨mb, nsK nsb, bbt⟩, ⟨mc, nsK l1, l2⟩⟩
  have TB : ∀ p ∈ cs, LamX.TabB (hidT t.heap H) C.mg p.1 p.2.1 := fun p hp => by
    have hTp := TO.emp p hp
    refine ⟨?_, ?_, fun z => ?_⟩
    · obtain ⟨o, us, file, tf, flags, tg, inF, text, tt, e1, r1, r2, r3, r4, r5, r6, r7, r8, hne⟩ := TO.hd p hp
      refine ⟨o, us, file, tf, flags, tg, inF, text, tt, stays e1 (noD e1 (fun vs n z => ?_) fun z => ?_), r1, r2, r3, r4, r5, r6, r7, r8, hne⟩
      · rw [r2] at z
        cases z
      · rw [r2] at z
        cases z
        simp at r3
    · obtain ⟨bm, ob, b1, b2, b3, b4, b5, b6⟩ := hbm
      have nG : bm ≠ mainGlobals := fun q => by
        obtain ⟨o, es, ep, e, hd, _⟩ := nsm
        rw [q, e] at b3
        cases b3
        rw [hd] at b6
        cases b6
      have nP : bm ≠ p.2.1 := fun q => by
        rw [q, hTp] at b3
        cases b3
        cases b6
      refine ⟨bm, ob, b1, b2, nG, nP, stays b3 (noD b3 (fun vs n z => ?_) fun z => ?_), b4, b5, b6⟩
      · rw [b6] at z
        cases z
      · rw [b6] at z
        cases z
    · obtain ⟨o, es, ep, e, hd, _⟩ := nsm
      rw [z, hTp] at e
      cases e
      cases hd
  obtain ⟨fd, FD⟩ := F _ kinB (nsK nsm) TB
  have env : Env0 P w C.K C.mg (hidT t.heap H) callerA [] t H :=
    ⟨rfl, hmod, fun b o e => of_hidT e, Nat.le_of_eq (hidT_size _ _), True.intro, fun b hb => (List.not_mem_nil hb).elim, hok, .of_eq gs⟩
  have wk : Wk C.tq (fun b => if b ∈ cs.map (·.2.1) then none else H b) (fun b => b ∈ cs.map (·.2.1)) H := by
    refine ⟨fun b o e => ?_, fun b hb => ⟨if_pos hb, ?_⟩, fun b hb => ?_⟩
    · by_cases z : b ∈ cs.map (·.2.1)
      · have e' := (if_pos z).symm.trans e
        cases e'
      · exact (if_neg z).symm.trans e
    · obtain ⟨q, hq⟩ := tqOf_some hb
      unfold IsW
      rw [htq, hq, hH b hb]
      exact ⟨#[], rfl, True.intro, fun pos cv hc => by
        have z : codeAmong pos [] = some cv := hc
        simp [codeAmong] at z⟩
    · rw [htq] at hb
      exact tqOf_mem hb
  refine codeAny_mono (FD.ok callerA [] t H ⟨[.ref a], []⟩ [.ref a] [.ref a] (fun v H' => v = .bl true ∧ HOk P w H t.heap) (fun _ _ _ => False) rm rfl env (by simpa using FD.bd t [.ref a] kin rfl) (.cons rfl .nil)
    ⟨_, _, [.scr ns], fun _ => False, fun d => d = .bl true, wk, ⟨_, _, rfl, ⟨a, rfl, sq _ (if_neg aT)⟩, rfl⟩, rfl, ⟨⟨ns, rfl, il⟩, rfl⟩,
      fun v H' J' W' d p da q => ⟨by subst q; exact da, hok⟩, fun x cls dd H' J' W' p xd q => q.elim⟩) fun r t' h => ?_
  match r, h with
  | .error e, ⟨_, _, _, _, _, _, _, _, _, _, _, _, z⟩ => exact z.elim
  | .ok .next, h => exact h.elim
  | .ok .brk, h => exact h.elim
  | .ok .cont, h => exact h.elim
  | .ok (.ret u), ⟨v, H', hos, hbare, hun, hok', hr, hv, _⟩ =>
    subst hv
    obtain rfl : u = Value.bool true := hr
    have key : ∀ b o, b ∉ cs.map (·.2.1) → t.heap.get? b = some o → t'.heap.get? b = some o := fun b o nb e => by
      cases q : H b with
      | none => exact hun.keep b o e q (fun z => nomatch z) (fun z => nomatch z)
      | some u =>
        rcases only b u q with ⟨_, ob, xs, rfl⟩ | ⟨z, _⟩
        · have g1 := (hok b _ q).1
          have g2 := (hok' b _ (hun.frzs b ob _ q)).1
          rw [e] at g1
          cases g1
          exact g2
        · exact absurd z nb
    have grown : ∀ p ∈ cs, ∃ more : Array Value, t'.heap.get? p.2.1 = some { cls := .none, data := .fields more } := fun p hp => by
      obtain ⟨more, z⟩ := hun.tbls p.2.1 #[] (hH _ (List.mem_map.mpr ⟨p, hp, rfl⟩))
      exact ⟨_, hok' p.2.1 _ z⟩
    refine ⟨rfl, ⟨fun b o e => ?_, fun b o e => ?_⟩, hos, hbare⟩
    · by_cases hb : b ∈ cs.map (·.2.1)
      · obtain ⟨p, hp, ep⟩ := List.mem_map.mp hb
        obtain ⟨more, hm⟩ := grown p hp
        rw [← ep] at e ⊢
        rw [TO.emp p hp] at e
        cases e
        exact .inr (.inl ⟨((TO.hd p hp).tab (TO.emp p hp)).isCodeTable, rfl, #[], more, rfl, by rw [Array.empty_append]; exact hm⟩)
      · exact .inl (key b o hb e)
    · by_cases hb : b ∈ cs.map (·.2.1)
      · obtain ⟨p, hp, ep⟩ := List.mem_map.mp hb
        obtain ⟨more, hm⟩ := grown p hp
        rw [← ep]
        exact ⟨_, hm⟩
      · exact ⟨o, key b o hb e⟩
theorem law_end (htq : C.tq = tqOf cs) (TO : TabsOk C.K cs t.heap) (hbm : BMain C.mg t.heap) (kin : C.K.In t.heap) (nsm : t.heap.Ns mainGlobals C.mg) (nsb : t.heap.Ns builtinsNs mb) (bbt : ∀ y : Str, y ≠ "__name__" → mb y = bootBuiltins y) (lim : t.heap.NoLimit) (gs : t.gens = #[])
    (oa : t.heap.get? a = some { cls := .type "list", data := .seq us.toArray }) (ia : IntsAre us ns) (il : ns.length ≤ 63) (rm : Room k callerA)
    (F : ∀ B : Heap, C.K.In B → B.Ns mainGlobals C.mg → (∀ p ∈ cs, LamX.TabB B C.mg p.1 p.2.1) → ∃ fd, FnD P w C B k "law" ["script"] SPlaw fa fd) :
    codeAny (model P w) callerA (.call (.ref fa) ⟨[.ref a], []⟩) (fun r t' => GoodEnd t t' r) t := by
  have rv := vals_ints ia
  have hl : ns.length ≤ sizeLine := Nat.le_trans il (by decide)
  have isT : ∀ b ∈ cs.map (·.2.1), t.heap.get? b = some { cls := .none, data := .fields #[] } := fun b hb => by
    obtain ⟨p, hp, e⟩ := List.mem_map.mp hb
    rw [← e]; exact TO.emp p hp
  have aT : a ∉ cs.map (·.2.1) := fun z => by
    have q := isT a z
    rw [oa] at q
    have z' : Data.seq us.toArray _ = Data.fields #[] := congrArg Obj.data (Option.some.inj q)
    cases z'
  cases hk : C.K.lookup a with
  | some o =>
    have e := kin a o hk
    rw [oa] at e
    cases e
    have at_ : ∀ b o, (if b ∈ cs.map (·.2.1) then some (HO.tbl #[]) else none) = some o → b ∈ cs.map (·.2.1) ∧ o = .tbl #[] := fun b o z => by
      by_cases hb : b ∈ cs.map (·.2.1)
      · have z' := (if_pos hb).symm.trans z
        cases z'; exact ⟨hb, rfl⟩
      · have z' := (if_neg hb).symm.trans z
        cases z'
    exact law_from htq TO hbm (fun b => if b ∈ cs.map (·.2.1) then some (.tbl #[]) else none) (fun b hb => if_pos hb) (fun b o z => .inr (at_ b o z)) (fun J _ => .inr ⟨_, us.toArray, _, hk, rfl, rfl, rfl, by rw [List.size_toArray, ia.length]; exact hl, by simpa using rv⟩)
      (fun b u z => by
        obtain ⟨hb, rfl⟩ := at_ b u z
        exact isT b hb) (fun z => absurd (if_neg aT) z) kin nsm nsb bbt lim gs oa il rm F
  | none =>
    have at_ : ∀ b o, (if b = a then some (HO.frz { cls := .type "list", data := .seq us.toArray } (.lst (ns.map V.int))) else if b ∈ cs.map (·.2.1) then some (HO.tbl #[]) else none) = some o → (b = a ∧ o = .frz { cls := .type "list", data := .seq us.toArray } (.lst (ns.map V.int))) ∨ (b ∈ cs.map (·.2.1) ∧ o = .tbl #[]) := fun b o z => by
      by_cases hb : b = a
      · have z' := (if_pos hb).symm.trans z
        cases z'; exact .inl ⟨hb, rfl⟩
      · have z1 := (if_neg hb).symm.trans z
        by_cases hb2 : b ∈ cs.map (·.2.1)
        · have z' := (if_pos hb2).symm.trans z1
          cases z'; exact .inr ⟨hb2, rfl⟩
        · have z' := (if_neg hb2).symm.trans z1
          cases z'
    refine law_from htq TO hbm (fun b => if b = a then some (.frz { cls := .type "list", data := .seq us.toArray } (.lst (ns.map V.int))) else if b ∈ cs.map (·.2.1) then some (.tbl #[]) else none)
      (fun b hb => (if_neg (show ¬ b = a from fun z => aT (by rw [← z]; exact hb))).trans (if_pos hb)) (fun b o z => (at_ b o z).elim (fun q => .inl ⟨q.1, _, _, q.2⟩) .inr) (fun J hJ => .inl (.inr ⟨_, hJ.trans (if_pos rfl)⟩)) (fun b u z => ?_) (fun _ => hk) kin nsm nsb bbt lim gs oa il rm F
    rcases at_ b u z with ⟨rfl, rfl⟩ | ⟨hb, rfl⟩
    · exact ⟨oa, by rw [List.length_map]; exact hl, us, _, rv, oa⟩
    · exact isT b hb
end
/-- a maker: the def at fa, its code object, its table, which is not written out -/
structure MkrAt (K : PySem.W.Frag) (p : Addr × Addr × Str) (x : Str) : Prop where
  at_ : ∃ (f : Addr) (o : Obj) (fd : FuncData), PySem.W.nsIn K mainGlobals x = some (some (.ref f)) ∧ K.lookup f = some o ∧ o.data = .func fd ∧ fd.code = .ref p.1
  tab : ∃ (e : Value) (dd : Option Addr) (vs : Array Value) (sl : Array (Option Value)), K.lookup p.1 = some ⟨e, dd, .fields vs, sl⟩ ∧ vs[11]? = some (.ref p.2.1)
  out : K.lookup p.2.1 = none
theorem tabs_of {q : Program} {loose : List Str} {mean : ExcName → Option Value} {mg mb : Str → Option Value} {h : Heap} {K : PySem.W.Frag} {cs : Tabs'} (T : Top q loose mean mg mb h) (KX : K.In h)
    (M : ∀ p ∈ cs, ∃ x, MkrAt K p x ∧ ((recsOf q).any fun e => e.name == x) = true) : TabsOk K cs h := by
  have key : ∀ p ∈ cs, h.get? p.2.1 = some { cls := .none, data := .fields #[] } ∧ PySem.W.CodeHd h p.1 p.2.1 := fun p hp => by
    obtain ⟨x, m, hr⟩ := M p hp
    obtain ⟨f, o, fd, m1, m2, m3, m4⟩ := m.at_
    obtain ⟨e, dd, vs, sl, m5, m6⟩ := m.tab
    obtain ⟨dL, hm, hn1⟩ := List.any_eq_true.mp hr
    have hn2 : dL.name = x := beq_iff_eq.mp hn1
    obtain ⟨a', o', fd', c', P', h1, h2, h3, h4, h5, h6⟩ := T.tab dL hm
    rw [hn2, PySem.W.mg_of KX T.g m1] at h1
    cases h1
    rw [KX _ _ m2] at h2
    cases h2
    rw [m3] at h3
    cases h3
    rw [m4] at h4
    cases h4
    have hd := PySem.W.CodeHd.of h5 h6
    obtain ⟨⟨oc, vc, e1, _, e3, e4⟩, hP⟩ := h6
    rw [KX _ _ m5] at e1
    cases e1
    cases e3
    rw [m6] at e4
    cases e4
    exact ⟨hP, hd⟩
  exact ⟨fun p hp => (key p hp).1, fun p hp => (M p hp).elim fun x z => z.1.out, fun p hp => (key p hp).2⟩
/-- the goal that k_head leaves, from the law's promise -/
theorem walk_D {l : PySem.W.OpenLaw} {n k : Nat} {q : Program} {loose : List Str} {XP : (Str → Option Value) → Heap → Prop} {YP : World → Heap → Prop} {d : DefRec} {K : Params → PySem.W.Frag} {lam : Nat → LamD → Prop}
    (hn : l.most = some n) (h63 : n ≤ 63) (hdf : d.params.defaults = []) (rm : Room k callerA) (hname : d.name = "law") (hY : ∀ (w : World) (h : Heap), YP w h → (K w.params).In h)
    (F : ∀ (w : World) (mg : Str → Option Value) (fa : Addr) (h : Heap), (K w.params).In h → h.Ns mainGlobals mg → mg "law" = some (.ref fa) →
      ∃ cs : Tabs', (∀ p ∈ cs, ∃ x, MkrAt (K w.params) p x ∧ ((recsOf q).any fun e => e.name == x) = true) ∧ ∀ B : Heap, (K w.params).In B → B.Ns mainGlobals mg → (∀ p ∈ cs, LamX.TabB B mg p.1 p.2.1) → ∃ fd, FnD l.prog w (cf1 (K w.params) mg (tqOf cs) lam) B k "law" ["script"] SPlaw fa fd) :
    PySem.W.WalkO q loose XP YP l.row.toRowW d [] (fun f vs => PySem.call f vs) :=
  Att.attach_call hn hdf fun w s₀ t mg mb fa o pm cd doc a us ns G Y ho hd hcd hmg oa ia il gs => by
    have kin := hY w _ Y
    rw [hname] at hmg
    obtain ⟨cs, M, F'⟩ := F w mg fa _ kin G.T.g hmg
    exact law_end (C := cf1 (K w.params) mg (tqOf cs) lam) (cs := cs) rfl (tabs_of G.T kin M) G.T.bmain kin G.T.g G.T.b G.T.builtins G.T.nolimit gs oa ia (Nat.le_trans il h63) rm F'
/-! ### lambdas, by their texts -/
structure LamK where
  S : Sta
  n : Nat
  d : DE
  ps : List Str
  fr : List Str
def argN : Arg → Str
  | ⟨x, _, _⟩ => x
def arsIs (ar : Arguments) (ps : List Str) : Bool := ar.posonlyargs.isEmpty && ar.vararg.isNone && ar.kwonlyargs.isEmpty && ar.kw_defaults.isEmpty && ar.kwarg.isNone && ar.defaults.isEmpty && decide (ar.args.map argN = ps)
theorem arsIs_eq {ar : Arguments} {ps : List Str} (h : arsIs ar ps = true) : ∃ as, ar = ⟨[], as, none, [], [], none, []⟩ ∧ as.map argN = ps := by
  unfold arsIs at h
  simp only [Bool.and_eq_true, List.isEmpty_iff, Option.isNone_iff_eq_none, decide_eq_true_eq] at h
  obtain ⟨⟨⟨⟨⟨⟨h1, h2⟩, h3⟩, h4⟩, h5⟩, h6⟩, h7⟩ := h
  obtain ⟨a, b, c, d, e, f, g⟩ := ar
  simp only at h1 h2 h3 h4 h5 h6 h7
  subst h1 h2 h3 h4 h5 h6
  exact ⟨b, rfl, h7⟩
theorem ars2 {ar : Arguments} {x y : Str} (h : arsIs ar [x, y] = true) : ∃ a1 p1 a2 p2, ar = ⟨[], [⟨x, a1, p1⟩, ⟨y, a2, p2⟩], none, [], [], none, []⟩ := by
  obtain ⟨as, rfl, e'⟩ := arsIs_eq h
  match as, e' with
  | [⟨x', a1, p1⟩, ⟨y', a2, p2⟩], e' =>
    have : x' = x ∧ y' = y := by simpa [argN] using e'
    obtain ⟨rfl, rfl⟩ := this
    exact ⟨a1, p1, a2, p2, rfl⟩
theorem ars1 {ar : Arguments} {x : Str} (h : arsIs ar [x] = true) : ∃ a1 p1, ar = ⟨[], [⟨x, a1, p1⟩], none, [], [], none, []⟩ := by
  obtain ⟨as, rfl, e'⟩ := arsIs_eq h
  match as, e' with
  | [⟨x', a1, p1⟩], e' =>
    have : x' = x := by simpa [argN] using e'
    subst this
    exact ⟨a1, p1, rfl⟩
def lamIs (lk : LamK) (L : LamD) : Prop := L.fr = lk.fr ∧ L.sc = lk.S.sc ∧ cE lk.n lk.S L.bd = lk.d ∧ arsIs L.ar lk.ps = true
def lamsOf (ls : List LamK) : Nat → LamD → Prop := fun k L => match ls[k]? with
  | some lk => lamIs lk L
  | none => False
def lamkOf (k : Nat) (lk : LamK) : Expr → Option (Nat × List Str)
  | .Lambda ar bd sc _ => if sc = lk.S.sc ∧ cE lk.n lk.S bd = lk.d ∧ arsIs ar lk.ps = true then some (k, lk.fr) else none
  | _ => none
theorem lamkOf_ok {ls : List LamK} {k kl : Nat} {lk : LamK} {ar : Arguments} {bd : Expr} {sc : Scope} {pos : Pos} {fr : List Str} {q : Str} (hk : ls[k]? = some lk) (h : lamkOf k lk (.Lambda ar bd sc pos) = some (kl, fr)) : lamsOf ls kl ⟨q, ar, bd, sc, fr⟩ := by
  have h' : (if sc = lk.S.sc ∧ cE lk.n lk.S bd = lk.d ∧ arsIs ar lk.ps = true then some (k, lk.fr) else none) = some (kl, fr) := h
  by_cases hc : sc = lk.S.sc ∧ cE lk.n lk.S bd = lk.d ∧ arsIs ar lk.ps = true
  · rw [if_pos hc] at h'
    cases h'
    unfold lamsOf
    rw [hk]
    exact ⟨rfl, hc.1, hc.2.1, hc.2.2⟩
  · rw [if_neg hc] at h'
    cases h'
def BindL (ps : List Str) : Prop := ∀ (L : LamD), arsIs L.ar ps = true → ∀ (cl : List (Str × Addr)) (c : Addr) (pm ctv : Value) (us : List Value), us.length = ps.length → bindArgs (PySem.W.kla_fn "<lambda>" L.q L.ar L.bd L.sc cl pm (.ref c) ctv) ⟨us, []⟩ = pure (ps.zip us)
theorem fnL_none {P : Program} {w : World} {C : Cfg} {base : Heap} {kk k : Nat} {SP : SpD} (h : ∀ L, ¬ C.lam k L) : FnL P w C base kk k SP where
  ok := fun A outer s H f us vs Q Ex J W cs ds E Qd hr hg e0 hc wk da => by
    obtain ⟨f', F, fr, cvs, e1, f2, f3, f4, f5, f6⟩ := da
    exact absurd f4 (h _)
/-! ### the defs, one after the other -/
/-- a def as the top has written it -/
def FnAt (K : PySem.W.Frag) (x : Str) (st : Stmt) : Prop := ∃ (f : Addr) (oc kV dc pm cd ct : Value) (od an : Option Addr) (sl : Array (Option Value)),
  PySem.W.nsIn K mainGlobals x = some (some (.ref f)) ∧ K.lookup f = some ⟨oc, od, .func (PySem.W.fnOf x x (defArgs st) (defBody st) (defScope st) .none kV dc pm an cd ct), sl⟩ ∧ PySem.W.codeIn K cd x = true ∧ PySem.W.keepIn K (.ref f) = true
theorem FnAt.of {K : PySem.W.Frag} {x : Str} {st : Stmt} {f : Addr} {oc kV dc pm cd ct : Value} {od an : Option Addr} {sl : Array (Option Value)} (a : PySem.W.nsIn K mainGlobals x = some (some (.ref f)))
    (l : K.lookup f = some ⟨oc, od, .func (PySem.W.fnOf x x (defArgs st) (defBody st) (defScope st) .none kV dc pm an cd ct), sl⟩) (c : PySem.W.codeIn K cd x = true) (k : PySem.W.keepIn K (.ref f) = true) : FnAt K x st := ⟨f, oc, kV, dc, pm, cd, ct, od, an, sl, a, l, c, k⟩
def FnAtC (K : PySem.W.Frag) (x : Str) (st : Stmt) (c : Addr) : Prop := ∃ (f : Addr) (oc kV dc pm ct : Value) (od an : Option Addr) (sl : Array (Option Value)),
  PySem.W.nsIn K mainGlobals x = some (some (.ref f)) ∧ K.lookup f = some ⟨oc, od, .func (PySem.W.fnOf x x (defArgs st) (defBody st) (defScope st) .none kV dc pm an (.ref c) ct), sl⟩ ∧ PySem.W.codeIn K (.ref c) x = true ∧ PySem.W.keepIn K (.ref f) = true
theorem FnAtC.of {K : PySem.W.Frag} {x : Str} {st : Stmt} {f c : Addr} {oc kV dc pm ct : Value} {od an : Option Addr} {sl : Array (Option Value)} (a : PySem.W.nsIn K mainGlobals x = some (some (.ref f)))
    (l : K.lookup f = some ⟨oc, od, .func (PySem.W.fnOf x x (defArgs st) (defBody st) (defScope st) .none kV dc pm an (.ref c) ct), sl⟩) (cc : PySem.W.codeIn K (.ref c) x = true) (k : PySem.W.keepIn K (.ref f) = true) : FnAtC K x st c := ⟨f, oc, kV, dc, pm, ct, od, an, sl, a, l, cc, k⟩
theorem FnAtC.mkr {K : PySem.W.Frag} {x q : Str} {st : Stmt} {c Pt : Addr} {e : Value} {dd : Option Addr} {vs : Array Value} {sl : Array (Option Value)} (A : FnAtC K x st c) (h1 : K.lookup c = some ⟨e, dd, .fields vs, sl⟩) (h2 : vs[11]? = some (.ref Pt)) (h3 : K.lookup Pt = none) : MkrAt K (c, Pt, q) x := by
  obtain ⟨f, oc, kV, dc, pm, ct, od, an, sl, a, l, _, _⟩ := A
  exact ⟨⟨f, _, _, a, l, rfl, rfl⟩, ⟨e, dd, vs, _, h1, h2⟩, h3⟩
theorem MkrAt.of {K : PySem.W.Frag} {x q : Str} {f c Pt : Addr} {oc : Value} {od : Option Addr} {fd : FuncData} {osl : Array (Option Value)} {e : Value} {dd : Option Addr} {vs : Array Value} {sl : Array (Option Value)} (a : PySem.W.nsIn K mainGlobals x = some (some (.ref f)))
    (l : K.lookup f = some ⟨oc, od, .func fd, osl⟩) (r : fd.code = .ref c) (h1 : K.lookup c = some ⟨e, dd, .fields vs, sl⟩) (h2 : vs[11]? = some (.ref Pt)) (h3 : K.lookup Pt = none) : MkrAt K (c, Pt, q) x := ⟨⟨f, _, fd, a, l, rfl, r⟩, ⟨e, dd, vs, sl, h1, h2⟩, h3⟩
def BindOk (fi : FI) (st : Stmt) : Prop := (∀ (kV doc pm : Value) (an : Option Addr) (cdv ct : Value) (us : List Value), us.length = fi.ps.length → bindArgs (PySem.W.fnOf fi.name fi.name (defArgs st) (defBody st) (defScope st) .none kV doc pm an cdv ct) ⟨us, []⟩ = pure (fi.ps.zip us)) ∧
  ∀ ks ∈ fi.kw, ∀ (kV doc pm : Value) (an : Option Addr) (cdv ct : Value) (ws : List Value), ws.length = ks.length → bindArgs (PySem.W.fnOf fi.name fi.name (defArgs st) (defBody st) (defScope st) .none kV doc pm an cdv ct) ⟨[], ks.zip ws⟩ = pure (fi.ps.zip (permD Value.none (pmOf fi.ps ks) ws))
/-- what the top says of the other names -/
structure TopOk (K : PySem.W.Frag) (G : Glo) : Prop where
  gl : ∀ p ∈ G.gl, ∃ u, PySem.W.nsIn K mainGlobals p.1 = some (some u) ∧ dcU K p.2 u
  bl : ∀ x ∈ G.bl, PySem.W.nsIn K mainGlobals x = some none
  gb : ∀ p ∈ G.gb, PySem.W.nsIn K mainGlobals p.1 = some (some (.builtin p.2))
theorem gl_int {K : PySem.W.Frag} {x : Str} {i : Int} {t : Tok} (h : PySem.W.nsIn K mainGlobals x = some (some (.int i t))) : ∃ u, PySem.W.nsIn K mainGlobals x = some (some u) ∧ dcU K (.int i) u := ⟨_, h, t, rfl⟩
theorem gl_str {K : PySem.W.Frag} {x i : Str} {t : Tok} (h : PySem.W.nsIn K mainGlobals x = some (some (.str i t))) : ∃ u, PySem.W.nsIn K mainGlobals x = some (some u) ∧ dcU K (.str i) u := ⟨_, h, t, rfl⟩
theorem gl_bl {K : PySem.W.Frag} {x : Str} {i : Bool} (h : PySem.W.nsIn K mainGlobals x = some (some (.bool i))) : ∃ u, PySem.W.nsIn K mainGlobals x = some (some u) ∧ dcU K (.bl i) u := ⟨_, h, rfl⟩
theorem gl_non {K : PySem.W.Frag} {x : Str} (h : PySem.W.nsIn K mainGlobals x = some (some .none)) : ∃ u, PySem.W.nsIn K mainGlobals x = some (some u) ∧ dcU K .non u := ⟨_, h, rfl⟩
theorem gl_kt {K : PySem.W.Frag} {x : Str} {a : Addr} {ns : List Int} {d : Option Addr} {its : Array Value} {n : Nat} {sl : Array (Option Value)} (h : PySem.W.nsIn K mainGlobals x = some (some (.ref a))) (l : K.lookup a = some ⟨.type "tuple", d, .seq its n, sl⟩) (q : its.size ≤ sizeLine ∧ Vals (ns.map V.int) its.toList) :
    ∃ u, PySem.W.nsIn K mainGlobals x = some (some u) ∧ dcU K (.kt ns) u := ⟨_, h, a, rfl, _, its, n, l, rfl, rfl, q⟩
theorem mem_of_lookup {β : Type} : ∀ {l : List (Str × β)} {x : Str} {b : β}, l.lookup x = some b → (x, b) ∈ l
  | [], _, _, h => by cases h
  | (y, c) :: r, x, b, h => by
    rw [List.lookup_cons] at h
    split at h
    · rename_i e
      cases h
      rw [eq_of_beq e]
      exact List.mem_cons_self ..
    · exact List.mem_cons_of_mem _ (mem_of_lookup h)
section
variable {Sg : Nat → SpD} {P : Program} {w : World} {K : PySem.W.Frag} {mg : Str → Option Value} {base h : Heap} {k : Nat} {tb : List FI} {gl : List (Str × DC)} {bl : List Str} {gb : List (Str × String)} {tq : Addr → Option Str} {lam : Nat → LamD → Prop}
theorem gk_start (X : K.In h) (N : h.Ns mainGlobals mg) (T : TopOk K ⟨tb, gl, bl, gb⟩) : Gk Sg ⟨tb.take 0, gl, bl, gb⟩ P w (cf1 K mg tq lam) base 0 where
  tb := fun i fi e => by rw [List.take_zero] at e; cases e
  gl := fun x c e => by
    obtain ⟨u, h1, h2⟩ := T.gl _ (mem_of_lookup e)
    exact ⟨u, PySem.W.mg_of X N h1, h2⟩
  bl := fun x e => PySem.W.mg_none_of X N (T.bl x e)
  gb := fun x id e => PySem.W.mg_of X N (T.gb _ (mem_of_lookup e))
theorem gk_step {fi : FI} {st : Stmt} (S : Sta) {d : DS} {n : Nat} (X : K.In h) (N : h.Ns mainGlobals mg) (hfi : tb[k]? = some fi) (A : FnAt K fi.name st) (sco : FnScope S.N fi.ps (defScope st)) (bi : BindOk fi st) (hd : cBody n S (defBody st) = d)
    (hG : S.G = ⟨tb.take k, gl, bl, gb⟩) (hsc : S.sc = defScope st) (hhv : S.hv = false) (hlk : S.lamk = fun _ => none) (hof : fi.hof = false) (b : ∀ ds E Q, ds.length = fi.ps.length → Sg k ds E Q → bodyW Sg S.N d ds E Q)
    (g : Gk Sg ⟨tb.take k, gl, bl, gb⟩ P w (cf1 K mg tq lam) base k) : Gk Sg ⟨tb.take (k + 1), gl, bl, gb⟩ P w (cf1 K mg tq lam) base (k + 1) where
  tb := fun i fj e0 => by
    have e : (tb.take (k + 1))[i]? = some fj := e0
    clear e0
    rw [List.getElem?_take] at e
    split at e
    · rename_i hi
      by_cases hk : i = k
      · subst hk
        rw [hfi] at e
        cases e
        obtain ⟨f, oc, kV, dc, pm, cd, ct, od, an, sl, h1, h2, h3, h4⟩ := A
        refine ⟨Nat.le_refl _, f, _, fun _ => fnD_of S n d (Sg i) h2 h3 (PySem.W.mg_of X N h1) h4 (.all (bi.1 kV dc pm an cd ct)) rfl hhv (fun _ _ _ _ _ _ h => by rw [hlk] at h; cases h) sco hsc (by rw [hG]; exact g) hd b, fun h => (by rw [hof] at h; cases h), fun ks hks s ws _ hl => .of_eq (bi.2 ks hks kV dc pm an cd ct ws hl)⟩
      · obtain ⟨q1, q2⟩ := g.tb i fj (by
          show (tb.take k)[i]? = some fj
          rw [List.getElem?_take, if_pos (by omega)]; exact e)
        exact ⟨by omega, q2⟩
    · cases e
  gl := g.gl
  bl := g.bl
  gb := g.gb
/-- a def that makes a lambda -/
theorem gk_stepM {fi : FI} {st : Stmt} {c Pt : Addr} {kl : Nat} {lk : LamK} {ls : List LamK} (S : Sta) {d : DS} {n : Nat} (X : K.In h) (N : h.Ns mainGlobals mg) (hfi : tb[k]? = some fi) (A : FnAtC K fi.name st c) (sco : FnScope S.N fi.ps (defScope st)) (bi : BindOk fi st) (hd : cBody n S (defBody st) = d)
    (hG : S.G = ⟨tb.take k, gl, bl, gb⟩) (hsc : S.sc = defScope st) (hhv : S.hv = false) (hlk : S.lamk = lamkOf kl lk) (hof : fi.hof = false) (hls : ls[kl]? = some lk) (TB : LamX.TabB base mg c Pt) (hq : tq Pt = some ((fi.name ++ ".<locals>.") ++ "<lambda>"))
    (b : ∀ ds E Q, ds.length = fi.ps.length → Sg k ds E Q → bodyW Sg S.N d ds E Q)
    (g : Gk Sg ⟨tb.take k, gl, bl, gb⟩ P w (cf1 K mg tq (lamsOf ls)) base k) : Gk Sg ⟨tb.take (k + 1), gl, bl, gb⟩ P w (cf1 K mg tq (lamsOf ls)) base (k + 1) where
  tb := fun i fj e0 => by
    have e : (tb.take (k + 1))[i]? = some fj := e0
    clear e0
    rw [List.getElem?_take] at e
    split at e
    · rename_i hi
      by_cases hk : i = k
      · subst hk
        rw [hfi] at e
        cases e
        obtain ⟨f, oc, kV, dc, pm, ct, od, an, sl, h1, h2, h3, h4⟩ := A
        refine ⟨Nat.le_refl _, f, _, fun _ => fnD_of S n d (Sg i) h2 h3 (PySem.W.mg_of X N h1) h4 (.all (bi.1 kV dc pm an _ ct)) rfl hhv (fun ar bd sc pos kl' fr h => by
          rw [hlk] at h
          exact ⟨⟨c, Pt, rfl, TB, hq⟩, lamkOf_ok hls h⟩) sco hsc (by rw [hG]; exact g) hd b, fun h => (by rw [hof] at h; cases h), fun ks hks s ws _ hl => .of_eq (bi.2 ks hks kV dc pm an _ ct ws hl)⟩
      · obtain ⟨q1, q2⟩ := g.tb i fj (by
          show (tb.take k)[i]? = some fj
          rw [List.getElem?_take, if_pos (by omega)]; exact e)
        exact ⟨by omega, q2⟩
    · cases e
  gl := g.gl
  bl := g.bl
  gb := g.gb
/-- a def that gets closures -/
theorem gk_stepH {fi : FI} {st : Stmt} {kk : Nat} (S : Sta) {d : DS} {n : Nat} (X : K.In h) (N : h.Ns mainGlobals mg) (hfi : tb[k]? = some fi) (A : FnAt K fi.name st) (sco : FnScope S.N fi.ps (defScope st)) (bi : BindOk fi st) (hd : cBody n S (defBody st) = d)
    (hG : S.G = ⟨tb.take k, gl, bl, gb⟩) (hsc : S.sc = defScope st) (hof : S.hof = true) (hlk : S.lamk = fun _ => none) (hoi : fi.hof = true) (hkk : kk ≤ k)
    (hl : ∀ (cz : List CZ) (j : Nat), FnL P w { cf1 K mg tq lam with cz := cz } base kk j (Sg (1000 + j))) (b : ∀ ds E Q, ds.length = fi.ps.length → Sg k ds E Q → bodyW Sg S.N d ds E Q)
    (g : Gk Sg ⟨tb.take k, gl, bl, gb⟩ P w (cf1 K mg tq lam) base k) : Gk Sg ⟨tb.take (k + 1), gl, bl, gb⟩ P w (cf1 K mg tq lam) base (k + 1) where
  tb := fun i fj e0 => by
    have e : (tb.take (k + 1))[i]? = some fj := e0
    clear e0
    rw [List.getElem?_take] at e
    split at e
    · rename_i hi
      by_cases hk : i = k
      · subst hk
        rw [hfi] at e
        cases e
        obtain ⟨f, oc, kV, dc, pm, cd, ct, od, an, sl, h1, h2, h3, h4⟩ := A
        refine ⟨Nat.le_refl _, f, _, fun h => (by rw [hoi] at h; cases h), fun _ => fnH_of S n d (Sg i) h2 h3 (PySem.W.mg_of X N h1) h4 (.all (bi.1 kV dc pm an cd ct)) rfl hof hlk sco hsc (by rw [hG]; exact g) hkk hl hd b, fun ks hks s ws _ hl => .of_eq (bi.2 ks hks kV dc pm an cd ct ws hl)⟩
      · obtain ⟨q1, q2⟩ := g.tb i fj (by
          show (tb.take k)[i]? = some fj
          rw [List.getElem?_take, if_pos (by omega)]; exact e)
        exact ⟨by omega, q2⟩
    · cases e
  gl := g.gl
  bl := g.bl
  gb := g.gb
/-- the promise of a lambda of the list -/
theorem fnL_step {kl : Nat} {lk : LamK} {ls : List LamK} {SP : SpD} {cz : List CZ} (hls : ls[kl]? = some lk) (sc0 : NdefX.NScope lk.S.N lk.ps lk.fr lk.S.sc) (hG : lk.S.G = ⟨tb.take k, gl, bl, gb⟩) (hof : lk.S.hof = true) (hhv : lk.S.hv = false) (hfn : ∀ x, lk.S.fn x = false) (hlk : lk.S.lamk = fun _ => none) (bi : BindL lk.ps)
    (hlen : ∀ all E Q, SP all E Q → all.length = lk.fr.length + lk.ps.length) (hsp : ∀ cs ds E Q, ds.length = lk.ps.length → cs.length = lk.fr.length → SP (cs ++ ds) E Q → DL.wE Sg lk.d ((ds ++ cs).map some) E Q)
    (g : Gk Sg ⟨tb.take k, gl, bl, gb⟩ P w (cf1 K mg tq (lamsOf ls)) base k) : FnL P w { cf1 K mg tq (lamsOf ls) with cz := cz } base (k + 1) kl SP :=
  fnL_of (C := { cf1 K mg tq (lamsOf ls) with cz := cz }) lk.S lk.n lk.d (fun L h => by
    have h' : lamIs lk L := by
      have : lamsOf ls kl L := h
      unfold lamsOf at this
      rw [hls] at this
      exact this
    exact ⟨h'.1, h'.2.1, h'.2.2.1, bi L h'.2.2.2⟩) sc0 hof hhv hfn hlk (by rw [hG]; exact g) hlen hsp
/-- the law among them -/
theorem law_in {fi : FI} {fa : Addr} (g : Gk Sg ⟨tb.take (k + 1), gl, bl, gb⟩ P w (cf1 K mg tq lam) base (k + 1)) (hfi : tb[k]? = some fi) (hn : fi.name = "law") (hp : fi.ps = ([("script" : Str)] : List Str)) (hs : Sg k = SPlaw) (hoi : fi.hof = false) (hmg : mg "law" = some (.ref fa)) :
    ∃ fd, FnD P w (cf1 K mg tq lam) base (k + 1) "law" ["script"] SPlaw fa fd := by
  obtain ⟨_, f, fd, F, _⟩ := g.tb k fi (by
    show (tb.take (k + 1))[k]? = some fi
    rw [List.getElem?_take, if_pos (Nat.lt_succ_self _)]; exact hfi)
  have F := F hoi
  rw [hn, hp, hs] at F
  have e := F.mg
  rw [show (cf1 K mg tq lam).mg "law" = some (.ref fa) from hmg] at e
  cases e
  exact ⟨fd, F⟩
end
end L2.DL
namespace L2.DL
open PySem PySem.Spec PyProof.Rows

/-! ### equations for reading -/
theorem dTru_non : dTru .non = some false := rfl
theorem dTru_bl {b : Bool} : dTru (.bl b) = some b := rfl
theorem dTru_int {i : Int} : dTru (.int i) = some (i != 0) := rfl
theorem dTru_tup {xs : List D} : dTru (.tup xs) = some (!xs.isEmpty) := rfl
theorem dTru_lst {xs : List D} : dTru (.lst xs) = some (!xs.isEmpty) := rfl
theorem dTy_non : dTy .non = some "NoneType" := rfl
theorem dTy_bl {b : Bool} : dTy (.bl b) = some "bool" := rfl
theorem dTy_int {i : Int} : dTy (.int i) = some "int" := rfl
theorem dTy_str {s : Str} : dTy (.str s) = some "str" := rfl
theorem dTy_tup {xs : List D} : dTy (.tup xs) = some "tuple" := rfl
theorem dTy_lst {xs : List D} : dTy (.lst xs) = some "list" := rfl
theorem isi_ii : isiB "int" "int" = true := by decide
theorem isi_ib : isiB "int" "bool" = false := by decide
theorem isi_tt : isiB "tuple" "tuple" = true := by decide
theorem isi_bi : isiB "bool" "int" = true := by decide
theorem isi_bb : isiB "bool" "bool" = true := by decide
theorem deq_int {i j : Int} : deq (.int i) (.int j) = (i == j) := by simp only [deq]
theorem dEq_int {i j : Int} {Q : D → Prop} : dEq (.int i) (.int j) Q = Q (.bl (i == j)) := by
  show ((pln (.int i) = true ∧ pln (.int j) = true ∧ dpt (.int i) ≤ 60 ∧ dpt (.int j) ≤ 60) ∧ Q (.bl (deq (.int i) (.int j)))) = _
  rw [deq_int]
  simp [pln, dpt]
theorem dNe_int {i j : Int} {Q : D → Prop} : dNe (.int i) (.int j) Q = Q (.bl (!(i == j))) := by
  show ((pln (.int i) = true ∧ pln (.int j) = true ∧ dpt (.int i) ≤ 60 ∧ dpt (.int j) ≤ 60) ∧ Q (.bl (!deq (.int i) (.int j)))) = _
  rw [deq_int]
  simp [pln, dpt]
theorem dEq_str {x y : Str} {Q : D → Prop} : dEq (.str x) (.str y) Q = Q (.bl (decide (x = y))) := rfl
/-! ### comprehensions -/
theorem turns_D {p : Pt} {tt : WT'} {te : WE'} {ρ : Env'} {Q : List D → Prop} (c : D → Bool) (v : D → D) : ∀ {items acc : List D},
    (∀ d ∈ items, ∃ bs, binds p d = some bs ∧ (∀ Q' : Bool → Prop, Q' (c d) → tt (setB ρ bs) noE Q') ∧ (c d = true → ∀ Q' : D → Prop, Q' (v d) → te (setB ρ bs) noE Q')) → acc.length + items.length ≤ LIM →
    Q (acc ++ (items.filter c).map v) → wTurns p tt (bElt te) ρ items acc Q
  | [], acc, _, _, q => by simpa [wTurns] using q
  | d :: ds, acc, h, hl, q => by
    obtain ⟨bs, e, h1, h2⟩ := h d (List.mem_cons_self ..)
    have hl' : acc.length + (ds.length + 1) ≤ LIM := hl
    unfold wTurns
    rw [e]
    refine h1 _ ?_
    cases hc : c d with
    | false =>
      refine turns_D c v (fun x hx => h x (List.mem_cons_of_mem _ hx)) (by omega) ?_
      rw [List.filter_cons_of_neg (by rw [hc]; exact Bool.false_ne_true)] at q
      exact q
    | true =>
      refine h2 hc _ ⟨by omega, ?_⟩
      refine turns_D c v (fun x hx => h x (List.mem_cons_of_mem _ hx)) (by rw [List.length_append]; simp; omega) ?_
      rw [List.filter_cons_of_pos hc] at q
      simpa using q
def zr (lo : Int) (n : Nat) : List Int := (List.range n).map fun k : Nat => lo + (k : Int)
theorem rng_zr (lo : Int) (n : Nat) : rngD lo n = (zr lo n).map .int := by simp [rngD, zr]
theorem mem_zr {lo k : Int} {n : Nat} : k ∈ zr lo n ↔ lo ≤ k ∧ k < lo + n := by
  simp only [zr, List.mem_map, List.mem_range]
  constructor
  · rintro ⟨j, hj, rfl⟩; omega
  · rintro ⟨h1, h2⟩
    exact ⟨(k - lo).toNat, by omega, by omega⟩
theorem zr_len (lo : Int) (n : Nat) : (zr lo n).length = n := by simp [zr]
/-- one whole number a turn -/
theorem turns_Z {i : Nat} {tt : WT'} {te : WE'} {ρ : Env'} {Q : List D → Prop} (c : Int → Bool) (v : Int → D) {ks : List Int} {acc : List D} (h1 : ∀ k ∈ ks, ∀ Q' : Bool → Prop, Q' (c k) → tt (setB ρ [(i, .int k)]) noE Q')
    (h2 : ∀ k ∈ ks, c k = true → ∀ Q' : D → Prop, Q' (v k) → te (setB ρ [(i, .int k)]) noE Q') (hl : acc.length + ks.length ≤ LIM) (q : Q (acc ++ (ks.filter c).map v)) : wTurns (.nm i) tt (bElt te) ρ (ks.map .int) acc Q := by
  refine turns_D (fun d => match d with | .int k => c k | _ => false) (fun d => match d with | .int k => v k | _ => .non) (fun d hd => ?_) (by rw [List.length_map]; exact hl) ?_
  · obtain ⟨k, hk, rfl⟩ := List.mem_map.mp hd
    exact ⟨_, rfl, h1 k hk, h2 k hk⟩
  · rw [List.filter_map, List.map_map]
    exact q
/-! ### loops -/
theorem forL_inv {p : Pt} {b : WS} {N : En} (I : Nat → EnvS → Prop) : ∀ {items : List D} {n : Nat} {ρ : EnvS}, I n ρ →
    (∀ j d, items[j]? = some d → ∀ ρ, I (n + j) ρ → ∀ M : EnvS → Prop, (∀ ρ', I (n + j + 1) ρ' → M ρ') → ∃ bs, binds p d = some bs ∧ b (setS ρ bs) { nx := M, rt := N.rt, bk := N.nx, ct := M, ex := N.ex }) → (∀ ρ, I (n + items.length) ρ → N.nx ρ) → wForL p b items ρ N
  | [], n, ρ, h0, _, he => he ρ h0
  | d :: ds, n, ρ, h0, hs, he => by
    unfold wForL
    obtain ⟨bs, e, hb⟩ := hs 0 d rfl ρ h0 (fun ρ' => wForL p b ds ρ' N) fun ρ' h => forL_inv I (n := n + 1) h (fun j d hj ρ hI M hM => hs (j + 1) d (by simpa using hj) ρ (by rw [show n + (j + 1) = n + 1 + j from by omega]; exact hI) M fun ρ' z => hM ρ' (by rw [show n + 1 + j + 1 = n + (j + 1) + 1 from by omega]; exact z))
      fun ρ z => he ρ (by rw [List.length_cons, show n + (ds.length + 1) = n + 1 + ds.length from by omega]; exact z)
    rw [e]
    exact hb
/-! ### small data: what repr takes -/
mutual
def sm : D → Bool
  | .non | .bl _ => true
  | .int i => decide (-999999999999 ≤ i ∧ i ≤ 999999999999)
  | .str x => PyData.strOk x
  | .tup xs => sms xs
  | .lst xs => sms xs
  | _ => false
def sms : List D → Bool
  | [] => true
  | d :: ds => sm d && sms ds
end
mutual
def wt : D → Nat
  | .int _ => 40
  | .str x => x.cps.size
  | .tup xs => wts xs
  | .lst xs => wts xs
  | _ => 0
def wts : List D → Nat
  | [] => 0
  | d :: ds => wt d + 1 + wts ds
end
mutual
theorem sm_all : ∀ d : D, sm d = true → pln d = true ∧ (toPy d).showable = true ∧ (toPy d).intsShort 13 = true ∧ (toPy d).weight ≤ wt d
  | .non, _ => by simp [pln, toPy, PyData.showable, PyData.intsShort, PyData.weight, wt]
  | .bl _, _ => by simp [pln, toPy, PyData.showable, PyData.intsShort, PyData.weight, wt]
  | .int i, h => by
    have h : -999999999999 ≤ i ∧ i ≤ 999999999999 := by simpa [sm] using h
    have h2 : i.natAbs < 2 ^ 40 := by omega
    have h3 : i.natAbs.log2 ≤ 39 := by
      by_cases z : i.natAbs = 0
      · rw [z]; decide
      · have := (Nat.log2_lt z).mpr h2
        omega
    refine ⟨rfl, ?_, ?_, ?_⟩
    · simp only [toPy, PyData.showable, decide_eq_true_eq]; omega
    · simp only [toPy, PyData.intsShort, decide_eq_true_eq]; exact PyData.shown_int_le2 h.1 h.2
    · simp only [toPy, PyData.weight, wt]
      split
      · omega
      · omega
  | .str x, h => by
    have h : PyData.strOk x = true := by simpa [sm] using h
    exact ⟨by simpa [pln] using h, by simp [toPy, PyData.showable], by simp [toPy, PyData.intsShort], by simp [toPy, PyData.weight, wt]⟩
  | .tup xs, h => by
    obtain ⟨h1, h2, h3, h4⟩ := sms_all xs (by simpa [sm] using h)
    exact ⟨by simpa [pln] using h1, by simpa [toPy, PyData.showable] using h2, by simpa [toPy, PyData.intsShort] using h3, by simpa [toPy, PyData.weight, wt] using h4⟩
  | .lst xs, h => by
    obtain ⟨h1, h2, h3, h4⟩ := sms_all xs (by simpa [sm] using h)
    exact ⟨by simpa [pln] using h1, by simpa [toPy, PyData.showable] using h2, by simpa [toPy, PyData.intsShort] using h3, by simpa [toPy, PyData.weight, wt] using h4⟩
  | .obj _, h => by simp [sm] at h
  | .fn _ _, h => by simp [sm] at h
  | .scr _, h => by simp [sm] at h
  | .kt _, h => by simp [sm] at h
theorem sms_all : ∀ d : List D, sms d = true → plns d = true ∧ PyData.showableAll (toPys d) = true ∧ PyData.intsShortAll 13 (toPys d) = true ∧ PyData.weightAll (toPys d) ≤ wts d
  | [], _ => by simp [plns, toPys, PyData.showableAll, PyData.intsShortAll, PyData.weightAll, wts]
  | d :: ds, h => by
    have h' : sm d = true ∧ sms ds = true := by simpa [sms] using h
    obtain ⟨a1, a2, a3, a4⟩ := sm_all d h'.1
    obtain ⟨b1, b2, b3, b4⟩ := sms_all ds h'.2
    refine ⟨by simp [plns, a1, b1], by simp [toPys, PyData.showableAll, a2, b2], by simp [toPys, PyData.intsShortAll, a3, b3], ?_⟩
    simp only [toPys, PyData.weightAll, wts]
    omega
end
theorem reprOk_of {d : D} (h : sm d = true) (hd : dpt d ≤ 60) (hw : wt d ≤ 1048576) : reprOk d := by
  obtain ⟨h1, h2, h3, h4⟩ := sm_all d h
  refine ⟨h1, hd, h2, Nat.le_trans (shown_le13 ?_ h3) (by decide)⟩
  show (PyData.canLay0 (toPy d) && decide (PyData.depth (toPy d) ≤ 64) && decide (PyData.weight (toPy d) ≤ 2 ^ 20)) = true
  have e : (2 : Nat) ^ 20 = 1048576 := by decide
  simp only [Bool.and_eq_true, decide_eq_true_eq]
  exact ⟨⟨pln_lay h1, by rw [dpt_py d h1]; omega⟩, by omega⟩
theorem sms_ints {ns : List Int} (h : ∀ n ∈ ns, -999999999999 ≤ n ∧ n ≤ 999999999999) : sms (ns.map .int) = true := by
  induction ns with
  | nil => rfl
  | cons n r ih =>
    have h1 := h n (List.mem_cons_self ..)
    have h2 := ih fun m hm => h m (List.mem_cons_of_mem _ hm)
    simp only [List.map_cons, sms, sm, h2, Bool.and_true, decide_eq_true_eq]
    exact h1
theorem wts_ints {ns : List Int} : wts (ns.map .int) = 41 * ns.length := by
  induction ns with
  | nil => rfl
  | cons n r ih =>
    simp only [List.map_cons, wts, wt, ih, List.length_cons]
    omega
theorem dpts_ints {ns : List Int} : dpts (ns.map .int) = 0 := by
  induction ns with
  | nil => rfl
  | cons n r ih => simp only [List.map_cons, dpts, dpt, ih, Nat.max_self]
theorem deq_refl_ints {ns : List Int} : deqs (ns.map .int) (ns.map .int) = true := by
  induction ns with
  | nil => simp [deqs]
  | cons n r ih => simp [deqs, deq, ih]
/-- a list against the empty one -/
theorem dNe_nil {ns : List Int} {Q : D → Prop} : dNe (.lst (ns.map .int)) (.lst []) Q ↔ (plns (ns.map .int) = true) ∧ Q (.bl (!ns.isEmpty)) := by
  show ((pln (.lst (ns.map .int)) = true ∧ pln (.lst []) = true ∧ dpt (.lst (ns.map .int)) ≤ 60 ∧ dpt (.lst []) ≤ 60) ∧ Q (.bl (!deq (.lst (ns.map .int)) (.lst [])))) ↔ _
  have e : deq (.lst (ns.map .int)) (.lst []) = ns.isEmpty := by cases ns <;> simp [deq, deqs]
  rw [e]
  simp [pln, plns, dpt, dpts, dpts_ints]
theorem plns_ints {ns : List Int} : plns (ns.map .int) = true := by
  induction ns with
  | nil => rfl
  | cons n r ih => simp [plns, pln, ih]
theorem atI_zero {α : Type} {xs : List α} {x : α} (h : xs.head? = some x) : atI xs 0 = some x := by
  cases xs with
  | nil => cases h
  | cons y r =>
    cases h
    unfold atI ixN
    simp
/-! ### a body, statement by statement: what comes behind waits until the slots are known -/
def Hd (w : WS) (ρ : EnvS) (N : En) : Prop := w ρ N
theorem Hd_cons {w : WS} {s : Sl} {ρ : EnvS} {N : En} : Hd w (s :: ρ) N = w (s :: ρ) N := rfl
section
variable {Sg : Nat → SpD} {ρ : EnvS} {N : En} {e k v : DE} {a b : DS} {t : DT} {p : Pt} {i j : Nat} {it : DI} {as : DEs} {l : LC} {is : List Nat} {dp : DP} {c : Int} {e2 : DE}
theorem u_stuck : wS Sg .stuck ρ N = False := propext Iff.rfl
theorem u_next : wS Sg .next ρ N = N.nx ρ := propext Iff.rfl
theorem u_brk : wS Sg .brk ρ N = N.bk ρ := propext Iff.rfl
theorem u_cnt : wS Sg .cnt ρ N = N.ct ρ := propext Iff.rfl
theorem u_retN : wS Sg .retN ρ N = N.rt .non := propext Iff.rfl
theorem u_seq : wS Sg (.seq a b) ρ N = wS Sg a ρ { nx := fun ρ' => Hd (wS Sg b) ρ' N, rt := N.rt, bk := N.bk, ct := N.ct, ex := N.ex } := propext Iff.rfl
theorem u_ret : wS Sg (.ret e) ρ N = wRet (DL.wE Sg e) ρ N := propext Iff.rfl
theorem u_exp : wS Sg (.exp e) ρ N = wExp (DL.wE Sg e) ρ N := propext Iff.rfl
theorem u_ifs : wS Sg (.ifs t a b) ρ N = (DL.wT Sg t (frzE ρ) N.ex fun k => match k with
  | true => wS Sg a ρ N
  | false => wS Sg b ρ N) := propext Iff.rfl
theorem u_asg : wS Sg (.asg p e) ρ N = wAsg p (DL.wE Sg e) ρ N := propext Iff.rfl
theorem u_asgF : wS Sg (.asgF p e) ρ N = wAsgF p (DL.wE Sg e) ρ N := propext Iff.rfl
theorem u_fz : wS Sg (.fz i) ρ N = wFz i ρ N := propext Iff.rfl
theorem u_app : wS Sg (.app i e) ρ N = wApp i (DL.wE Sg e) ρ N := propext Iff.rfl
theorem u_appF : wS Sg (.appF i e) ρ N = wAppF i (DL.wE Sg e) ρ N := propext Iff.rfl
theorem u_put : wS Sg (.put i k v) ρ N = wPut i (DL.wE Sg k) (DL.wE Sg v) ρ N := propext Iff.rfl
theorem u_putF : wS Sg (.putF i k v) ρ N = wPutF i (DL.wE Sg k) (DL.wE Sg v) ρ N := propext Iff.rfl
theorem u_for : wS Sg (.for_ p it b) ρ N = (wI Sg it (strE ρ) N.ex fun ds => wForL p (wS Sg b) ds ρ N) := propext Iff.rfl
theorem u_forR : wS Sg (.forR p it b) ρ N = (wI Sg it (frzE ρ) N.ex fun ds => wForL p (wS Sg b) ds ρ N) := propext Iff.rfl
theorem u_while : wS Sg (.while_ t b) ρ N = wWh (DL.wT Sg t) (wS Sg b) ρ N := propext Iff.rfl
theorem u_own : wS Sg (.own i as) ρ N = wOwn i (wA Sg as) ρ N := propext Iff.rfl
theorem u_ownM : wS Sg (.ownM i e e2) ρ N = wOwnM i (DL.wE Sg e) (DL.wE Sg e2) ρ N := propext Iff.rfl
theorem u_ownA : wS Sg (.ownA i e e2) ρ N = wOwnA i (DL.wE Sg e) (DL.wE Sg e2) ρ N := propext Iff.rfl
theorem u_ownC : wS Sg (.ownC i l) ρ N = wLC Sg i l ρ N := propext Iff.rfl
theorem u_ownL : wS Sg (.ownL i e) ρ N = wOwnL i (DL.wE Sg e) ρ N := propext Iff.rfl
theorem u_appP : wS Sg (.appP i j e) ρ N = wAppP i j (DL.wE Sg e) ρ N := propext Iff.rfl
theorem u_put2 {k1 k2 v1 v2 : DE} : wS Sg (.put2 i k1 k2 v1 v2) ρ N = wPut2 i (DL.wE Sg k1) (DL.wE Sg k2) (DL.wE Sg v1) (DL.wE Sg v2) ρ N := propext Iff.rfl
theorem u_asgI : wS Sg (.asgI i j e) ρ N = wAsgI i j (DL.wE Sg e) ρ N := propext Iff.rfl
theorem u_par : wS Sg (.par is dp) ρ N = wPar is (wP Sg dp) ρ N := propext Iff.rfl
theorem u_wput : wS Sg (.wput i k v) ρ N = wWput i (DL.wE Sg k) (DL.wE Sg v) ρ N := propext Iff.rfl
theorem u_wdm : wS Sg (.wdm i c j e) ρ N = wWdm i c j (DL.wE Sg e) ρ N := propext Iff.rfl
theorem u_retW : wS Sg (.retW as) ρ N = wRetW (wA Sg as) ρ N := propext Iff.rfl
end
theorem atI_mem {α : Type} {xs : List α} {z : Int} (h1 : 0 ≤ z) (h2 : z < xs.length) : ∃ x ∈ xs, atI xs z = some x := by
  have hz : z.toNat < xs.length := by omega
  refine ⟨xs[z.toNat], List.getElem_mem hz, ?_⟩
  unfold atI ixN
  rw [if_pos h1, if_pos h2]
  simp [hz]
end L2.DL
namespace L2.DL
open PySem PySem.Spec PyProof.Rows

/-! ### what values are -/
def plv : D → Bool
  | .obj _ | .fn _ _ | .scr _ | .kt _ => false
  | _ => true
def loB : D → Int → Bool
  | .int l, a => decide (l ≤ a)
  | _, _ => true
def hiB : D → Int → Bool
  | .int l, a => decide (a ≤ l)
  | _, _ => true
def bnd : D → Bool
  | .non | .int _ => true
  | _ => false
def intB : D → Bool
  | .int _ => true
  | _ => false
def numB (v lo hi : D) : Bool := match v with
  | .int a => loB lo a && hiB hi a
  | _ => false
def tupB : D → Bool
  | .tup _ => true
  | _ => false
theorem isi_all : ∀ t ∈ (["NoneType", "bool", "int", "str", "tuple", "list"] : List String), ∀ T ∈ (["int", "bool", "str", "tuple", "list"] : List String), isiB t T = (t == T || (t == "bool" && T == "int")) := fun _ _ _ _ => rfl
theorem isi_ni : isiB "NoneType" "int" = false := by decide
theorem isi_nb : isiB "NoneType" "bool" = false := by decide
theorem isi_nt : isiB "NoneType" "tuple" = false := by decide
theorem isi_ns : isiB "NoneType" "str" = false := by decide
theorem isi_nl : isiB "NoneType" "list" = false := by decide
theorem isi_si : isiB "str" "int" = false := by decide
theorem isi_sb : isiB "str" "bool" = false := by decide
theorem isi_st : isiB "str" "tuple" = false := by decide
theorem isi_ss : isiB "str" "str" = true := by decide
theorem isi_sl : isiB "str" "list" = false := by decide
theorem isi_ti : isiB "tuple" "int" = false := by decide
theorem isi_tb : isiB "tuple" "bool" = false := by decide
theorem isi_ts : isiB "tuple" "str" = false := by decide
theorem isi_tl : isiB "tuple" "list" = false := by decide
theorem isi_li : isiB "list" "int" = false := by decide
theorem isi_lb : isiB "list" "bool" = false := by decide
theorem isi_lt : isiB "list" "tuple" = false := by decide
theorem isi_ls : isiB "list" "str" = false := by decide
theorem isi_ll : isiB "list" "list" = true := by decide
theorem isi_it : isiB "int" "tuple" = false := by decide
theorem isi_is : isiB "int" "str" = false := by decide
theorem isi_il : isiB "int" "list" = false := by decide
theorem isi_bt : isiB "bool" "tuple" = false := by decide
theorem isi_bs : isiB "bool" "str" = false := by decide
theorem isi_bl : isiB "bool" "list" = false := by decide
/-! ### slices -/
theorem sIx_some {n d : Nat} {i : Int} (h : 0 ≤ i) : HT.sIx n d (some i) = min i.toNat n := by
  show (if i < 0 then (i + (n : Int)).toNat else min i.toNat n) = _
  rw [if_neg (by omega)]
theorem cut_to {α : Type} {xs : List α} {j : Int} (h : 0 ≤ j) : cutD xs none (some j) = xs.take j.toNat := by
  unfold cutD
  rw [sIx_some h]
  show (xs.drop 0).take (min j.toNat xs.length - 0) = _
  rw [List.drop_zero, Nat.sub_zero]
  by_cases z : j.toNat ≤ xs.length
  · rw [Nat.min_eq_left z]
  · rw [Nat.min_eq_right (by omega), List.take_of_length_le (Nat.le_refl _), List.take_of_length_le (by omega)]
theorem cut_from {α : Type} {xs : List α} {j : Int} (h : 0 ≤ j) : cutD xs (some j) none = xs.drop j.toNat := by
  unfold cutD
  rw [sIx_some h]
  show (xs.drop (min j.toNat xs.length)).take (xs.length - min j.toNat xs.length) = _
  by_cases z : j.toNat ≤ xs.length
  · rw [Nat.min_eq_left z, List.take_of_length_le (by rw [List.length_drop]; exact Nat.le_refl _)]
  · rw [Nat.min_eq_right (by omega), List.drop_of_length_le (by omega), List.drop_of_length_le (by omega), List.take_nil]
theorem cut_mid {α : Type} {xs : List α} {i j : Int} (h : 0 ≤ i) (h2 : 0 ≤ j) (h3 : i ≤ j) (h4 : j ≤ xs.length) : cutD xs (some i) (some j) = (xs.drop i.toNat).take (j.toNat - i.toNat) := by
  unfold cutD
  rw [sIx_some h, sIx_some h2, Nat.min_eq_left (by omega), Nat.min_eq_left (by omega)]
/-! ### comprehensions that draw: each turn some value -/
theorem turns_A {p : Pt} {te : WE'} {ρ : Env'} {Q : List D → Prop} (P : D → Prop) : ∀ {items acc : List D},
    (∀ d ∈ items, ∃ bs, binds p d = some bs ∧ ∀ Q' : D → Prop, (∀ v, P v → Q' v) → te (setB ρ bs) noE Q') → acc.length + items.length ≤ LIM →
    (∀ vs : List D, vs.length = items.length → (∀ v ∈ vs, P v) → Q (acc ++ vs)) → wTurns p wYes (bElt te) ρ items acc Q
  | [], acc, _, _, q => by simpa [wTurns] using q [] rfl (fun _ h => absurd h List.not_mem_nil)
  | d :: ds, acc, h, hl, q => by
    obtain ⟨bs, e, h2⟩ := h d (List.mem_cons_self ..)
    have hl' : acc.length + (ds.length + 1) ≤ LIM := hl
    unfold wTurns
    rw [e]
    refine h2 _ fun v pv => ⟨by omega, ?_⟩
    refine turns_A P (fun x hx => h x (List.mem_cons_of_mem _ hx)) (by rw [List.length_append]; simp; omega) fun vs hv pvs => ?_
    have := q (v :: vs) (by rw [List.length_cons, hv]; rfl) (fun u hu => by
      rcases List.mem_cons.mp hu with rfl | hu
      · exact pv
      · exact pvs u hu)
    simpa using this
/-- the values are whole numbers -/
theorem ints_of {P : Int → Prop} : ∀ {vs : List D}, (∀ v ∈ vs, ∃ n, v = .int n ∧ P n) → ∃ ns : List Int, vs = ns.map .int ∧ ∀ n ∈ ns, P n
  | [], _ => ⟨[], rfl, fun _ h => absurd h List.not_mem_nil⟩
  | v :: vs, h => by
    obtain ⟨n, rfl, pn⟩ := h v (List.mem_cons_self ..)
    obtain ⟨ns, rfl, q⟩ := ints_of (vs := vs) fun u hu => h u (List.mem_cons_of_mem _ hu)
    exact ⟨n :: ns, rfl, fun m hm => by
      rcases List.mem_cons.mp hm with rfl | hm
      · exact pn
      · exact q m hm⟩
/-! ### the first wrong index -/
def mB : D → Nat → Bool
  | .int k, i => decide (k ≤ (i : Int))
  | _, _ => false
def badB (m : D) (p : D → List D → Bool) (xs : List D) (i : Nat) : Bool := mB m i || !(match xs[i]? with
  | some x => p x (xs.take i)
  | none => true)
def wrongD (v m : D) (p : D → List D → Bool) : D := match v with
  | .tup xs => (match (List.range xs.length).find? (badB m p xs) with
    | some i => .lst [.int (i : Nat)]
    | none => .lst [])
  | _ => .lst [.non]
/-- none of them is wrong -/
def okAll (v m : D) (p : D → List D → Bool) : Bool := match v with
  | .tup xs => (List.range xs.length).all fun i => !badB m p xs i
  | _ => false
theorem find_rng {f : Nat → Bool} {n j : Nat} (h : ∀ i, i < j → f i = false) (hj : f j = true) (hn : j < n) : (List.range n).find? f = some j := by
  rw [List.find?_range_eq_some]
  exact ⟨hj, List.mem_range.mpr hn, fun i hi => by rw [h i hi]; rfl⟩
theorem find_none {f : Nat → Bool} {n : Nat} (h : ∀ i, i < n → f i = false) : (List.range n).find? f = none := by
  rw [List.find?_range_eq_none]
  intro i hi
  rw [h i hi]; rfl
/-- [] for right ones -/
theorem wrong_ok {v m : D} {p : D → List D → Bool} : (∃ x, wrongD v m p = .lst [x] ∧ okAll v m p = false ∧ (x = .non ∨ ∃ i : Int, x = .int i)) ∨ (wrongD v m p = .lst [] ∧ okAll v m p = true) := by
  cases v with
  | tup xs =>
    unfold wrongD okAll
    cases e : (List.range xs.length).find? (badB m p xs) with
    | some i =>
      refine .inl ⟨.int (i : Nat), by show (match List.find? (badB m p xs) (List.range xs.length) with | some i => D.lst [.int (i : Nat)] | none => D.lst []) = _; rw [e], ?_, .inr ⟨_, rfl⟩⟩
      rw [Bool.eq_false_iff]
      intro z
      have h1 := List.find?_some e
      have h2 := List.all_eq_true.mp z i (List.mem_of_find?_eq_some e)
      rw [h1] at h2
      cases h2
    | none =>
      refine .inr ⟨by show (match List.find? (badB m p xs) (List.range xs.length) with | some i => D.lst [.int (i : Nat)] | none => D.lst []) = _; rw [e], ?_⟩
      rw [List.all_eq_true]
      intro i hi
      have := List.find?_eq_none.mp e i hi
      simpa using this
  | _ => exact .inl ⟨_, rfl, rfl, .inl rfl⟩
theorem dEq_lst1 {x : D} {Q : D → Prop} (h : pln x = true) (h2 : dpt x ≤ 50) : dEq (.lst [x]) (.lst []) Q ↔ Q (.bl false) := by
  show ((pln (.lst [x]) = true ∧ pln (.lst []) = true ∧ dpt (.lst [x]) ≤ 60 ∧ dpt (.lst []) ≤ 60) ∧ Q (.bl (deq (.lst [x]) (.lst [])))) ↔ _
  have e : deq (.lst [x]) (.lst []) = false := by simp [deq, deqs]
  rw [e]
  have : pln (.lst [x]) = true ∧ pln (.lst []) = true ∧ dpt (.lst [x]) ≤ 60 ∧ dpt (.lst []) ≤ 60 := by
    refine ⟨by simp [pln, plns, h], by simp [pln, plns], ?_, by simp [dpt, dpts]⟩
    simp only [dpt, dpts]
    omega
  exact ⟨fun q => q.2, fun q => ⟨this, q⟩⟩
theorem dEq_lst0 {Q : D → Prop} : dEq (.lst []) (.lst []) Q ↔ Q (.bl true) := by
  show ((pln (.lst []) = true ∧ pln (.lst []) = true ∧ dpt (.lst []) ≤ 60 ∧ dpt (.lst []) ≤ 60) ∧ Q (.bl (deq (.lst []) (.lst [])))) ↔ _
  have e : deq (.lst []) (.lst []) = true := by simp [deq, deqs]
  rw [e]
  exact ⟨fun q => q.2, fun q => ⟨by simp [pln, plns, dpt, dpts], q⟩⟩
/-- wrong_..(..) == [] -/
theorem dEq_wrong {v m : D} {p : D → List D → Bool} {Q : D → Prop} (h : Q (.bl (okAll v m p))) : dEq (wrongD v m p) (.lst []) Q := by
  rcases wrong_ok (v := v) (m := m) (p := p) with ⟨x, e, e2, hx⟩ | ⟨e, e2⟩
  · rw [e, dEq_lst1 (by rcases hx with rfl | ⟨i, rfl⟩ <;> rfl) (by rcases hx with rfl | ⟨i, rfl⟩ <;> simp [dpt])]
    rw [e2] at h; exact h
  · rw [e, dEq_lst0]
    rw [e2] at h; exact h
/-- for at in wrong_..(..): nothing for right ones -/
theorem wrong_nil {v m : D} {p : D → List D → Bool} (h : okAll v m p = true) : wrongD v m p = .lst [] := by
  rcases wrong_ok (v := v) (m := m) (p := p) with ⟨x, e, e2, hx⟩ | ⟨e, e2⟩
  · rw [h] at e2; cases e2
  · exact e
/-! ### rows, picks, lots -/
def rowP (c : Int) (x : D) (_ : List D) : Bool := numB x (.int 0) (.int (c - 1))
def rowB (c : Int) (v : D) : Bool := okAll v (.int 24) (rowP c)
theorem rowB_tup {c : Int} {xs : List D} : rowB c (.tup xs) = (decide (xs.length ≤ 24) && xs.all fun x => numB x (.int 0) (.int (c - 1))) := by
  rw [Bool.eq_iff_iff]
  unfold rowB okAll
  simp only [List.all_eq_true, List.mem_range, Bool.and_eq_true, decide_eq_true_eq]
  constructor
  · intro h
    refine ⟨?_, fun x hx => ?_⟩
    · by_cases z : xs.length ≤ 24
      · exact z
      · have := h 24 (by omega)
        unfold badB mB at this
        simp at this
    · obtain ⟨i, hi, rfl⟩ := List.mem_iff_getElem.mp hx
      have := h i hi
      unfold badB mB rowP at this
      rw [List.getElem?_eq_getElem hi] at this
      simp only [Bool.not_or, Bool.not_not, Bool.and_eq_true] at this
      exact this.2
  · rintro ⟨h1, h2⟩ i hi
    unfold badB mB rowP
    rw [List.getElem?_eq_getElem hi]
    simp only [Bool.not_or, Bool.not_not, Bool.and_eq_true]
    refine ⟨?_, h2 _ (List.getElem_mem hi)⟩
    rw [decide_eq_false (by omega)]
    rfl
theorem rowB_ints {c : Int} {ns : List Int} (h : ns.length ≤ 24) (h2 : ∀ n ∈ ns, 0 ≤ n ∧ n < c) : rowB c (.tup (ns.map .int)) = true := by
  rw [rowB_tup]
  simp only [List.length_map, decide_eq_true h, Bool.true_and, List.all_eq_true]
  intro x hx
  obtain ⟨n, hn, rfl⟩ := List.mem_map.mp hx
  have := h2 n hn
  unfold numB loB hiB
  simp only [Bool.and_eq_true, decide_eq_true_eq]
  omega
end L2.DL
namespace L2.DL
/-- told kinds, no closure within -/
def vlB (d : D) : Bool := plv d && noFn d
theorem vl_int {i : Int} : vlB (.int i) = true := rfl
theorem noFns_map {ns : List Int} : noFns (ns.map .int) = true := by
  induction ns with
  | nil => rfl
  | cons n r ih => simp [noFns, noFn, ih]
theorem noFn_wrong {v m : D} {p : D → List D → Bool} : noFn (wrongD v m p) = true := by
  rcases wrong_ok (v := v) (m := m) (p := p) with ⟨x, e, _, hx⟩ | ⟨e, _⟩
  · rw [e]
    rcases hx with rfl | ⟨i, rfl⟩ <;> rfl
  · rw [e]; rfl
/-- a value whose elements, if it is a tuple, are told kinds -/
def elB : D → Bool
  | .tup xs => xs.all vlB
  | _ => true
def vtB (d : D) : Bool := plv d && elB d
theorem vtB_elim {d : D} (h : vtB d = true) : plv d = true ∧ elB d = true := by simpa [vtB] using h
theorem vt_ints {ns : List Int} : vtB (.tup (ns.map .int)) = true := by
  simp only [vtB, elB, plv, Bool.true_and, List.all_eq_true]
  intro x hx
  obtain ⟨n, _, rfl⟩ := List.mem_map.mp hx
  rfl
/-! ### ints against the empty ones -/
theorem dEq_lstI {ns : List Int} {Q : D → Prop} : dEq (.lst (ns.map .int)) (.lst []) Q ↔ Q (.bl ns.isEmpty) := by
  show ((pln (.lst (ns.map .int)) = true ∧ pln (.lst []) = true ∧ dpt (.lst (ns.map .int)) ≤ 60 ∧ dpt (.lst []) ≤ 60) ∧ Q (.bl (deq (.lst (ns.map .int)) (.lst [])))) ↔ _
  have e : deq (.lst (ns.map .int)) (.lst []) = ns.isEmpty := by cases ns <;> simp [deq, deqs]
  rw [e]
  exact ⟨fun q => q.2, fun q => ⟨by simp [pln, plns, dpt, dpts, dpts_ints, plns_ints], q⟩⟩
theorem dEq_tupI {ns : List Int} {Q : D → Prop} : dEq (.tup (ns.map .int)) (.tup []) Q ↔ Q (.bl ns.isEmpty) := by
  show ((pln (.tup (ns.map .int)) = true ∧ pln (.tup []) = true ∧ dpt (.tup (ns.map .int)) ≤ 60 ∧ dpt (.tup []) ≤ 60) ∧ Q (.bl (deq (.tup (ns.map .int)) (.tup [])))) ↔ _
  have e : deq (.tup (ns.map .int)) (.tup []) = ns.isEmpty := by cases ns <;> simp [deq, deqs]
  rw [e]
  exact ⟨fun q => q.2, fun q => ⟨by simp [pln, plns, dpt, dpts, dpts_ints, plns_ints], q⟩⟩
theorem dNe_lstI {ns : List Int} {Q : D → Prop} : dNe (.lst (ns.map .int)) (.lst []) Q ↔ Q (.bl (!ns.isEmpty)) := by
  rw [dNe_nil]
  exact ⟨fun q => q.2, fun q => ⟨plns_ints, q⟩⟩
theorem dNe_tupI {ns : List Int} {Q : D → Prop} : dNe (.tup (ns.map .int)) (.tup []) Q ↔ Q (.bl (!ns.isEmpty)) := by
  show ((pln (.tup (ns.map .int)) = true ∧ pln (.tup []) = true ∧ dpt (.tup (ns.map .int)) ≤ 60 ∧ dpt (.tup []) ≤ 60) ∧ Q (.bl (!deq (.tup (ns.map .int)) (.tup [])))) ↔ _
  have e : deq (.tup (ns.map .int)) (.tup []) = ns.isEmpty := by cases ns <;> simp [deq, deqs]
  rw [e]
  exact ⟨fun q => q.2, fun q => ⟨by simp [pln, plns, dpt, dpts, dpts_ints, plns_ints], q⟩⟩
theorem mem_cut {α : Type} {xs : List α} {lo hi : Option Int} {x : α} (h : x ∈ cutD xs lo hi) : x ∈ xs := List.mem_of_mem_drop (List.mem_of_mem_take h)
theorem cut_len {α : Type} {xs : List α} {lo hi : Option Int} : (cutD xs lo hi).length ≤ xs.length := by
  unfold cutD
  rw [List.length_take, List.length_drop]
  omega
theorem cut_map {α β : Type} {f : α → β} {xs : List α} {lo hi : Option Int} : cutD (xs.map f) lo hi = (cutD xs lo hi).map f := by
  unfold cutD
  rw [List.length_map, List.map_take, List.map_drop]
theorem intsOf_map {ns : List Int} : intsOf (ns.map .int) = some ns := by
  induction ns with
  | nil => rfl
  | cons n r ih =>
    show (intsOf (r.map .int)).map (n :: ·) = _
    rw [ih]; rfl
end L2.DL
namespace L2.DL
/-- a tuple is not too long -/
def elN : D → Prop
  | .tup xs => xs.length ≤ 1000
  | _ => True
end L2.DL
namespace L2.DL
open PySem PySem.Spec PyProof.Rows
/-! ### the data read from outside in -/
section
variable {Sg : Nat → SpD} {ρ : Env'} {E : Exc → Prop} {Q : D → Prop} {QA : List D → Prop} {QT : Bool → Prop} {QO : Option Int → Prop} {a b c e : DE} {as r : DEs} {t t1 : DT} {o o' : BO} {i f n m kl : Nat} {js pm vs vs1 : List Nat} {lo hi : DO} {it it1 : DI} {p p1 : Pt} {bl : Blt} {T : String} {z : Int} {s : Str} {k : Bool}
theorem e_stuck : DL.wE Sg .stuck ρ E Q = False := propext Iff.rfl
theorem e_var : DL.wE Sg (.var i) ρ E Q = (match getS ρ i with
  | some d => Q d
  | none => False) := propext Iff.rfl
theorem e_non : DL.wE Sg .non ρ E Q = Q .non := propext Iff.rfl
theorem e_bl : DL.wE Sg (.bl k) ρ E Q = Q (.bl k) := propext Iff.rfl
theorem e_int : DL.wE Sg (.int z) ρ E Q = Q (.int z) := propext Iff.rfl
theorem e_str : DL.wE Sg (.str s) ρ E Q = Q (.str s) := propext Iff.rfl
theorem e_kt {ns : List Int} : DL.wE Sg (.kt ns) ρ E Q = Q (.kt ns) := propext Iff.rfl
theorem e_bin : DL.wE Sg (.bin o a b) ρ E Q = DL.wE Sg a ρ E fun x => DL.wE Sg b ρ E fun y => bo o x y Q := propext Iff.rfl
theorem e_chain : DL.wE Sg (.chain o o' a b c) ρ E Q = DL.wE Sg a ρ E fun x => DL.wE Sg b ρ E fun y => bo o x y fun z => match z with
  | .bl true => DL.wE Sg c ρ E fun u => bo o' y u Q
  | .bl false => Q (.bl false)
  | _ => False := propext Iff.rfl
theorem e_and : DL.wE Sg (.and a b) ρ E Q = DL.wE Sg a ρ E fun x => match dTru x with
  | some true => DL.wE Sg b ρ E Q
  | some false => Q x
  | none => False := propext Iff.rfl
theorem e_or : DL.wE Sg (.or a b) ρ E Q = DL.wE Sg a ρ E fun x => match dTru x with
  | some true => Q x
  | some false => DL.wE Sg b ρ E Q
  | none => False := propext Iff.rfl
theorem e_not : DL.wE Sg (.not a) ρ E Q = DL.wE Sg a ρ E fun x => match dTru x with
  | some k => Q (.bl (!k))
  | none => False := propext Iff.rfl
theorem e_neg : DL.wE Sg (.neg a) ρ E Q = DL.wE Sg a ρ E fun x => dNeg x Q := propext Iff.rfl
theorem e_ite : DL.wE Sg (.ite t a b) ρ E Q = DL.wT Sg t ρ E fun k => match k with
  | true => DL.wE Sg a ρ E Q
  | false => DL.wE Sg b ρ E Q := propext Iff.rfl
theorem e_tup : DL.wE Sg (.tup as) ρ E Q = wA Sg as ρ E fun ds => ds.length ≤ LIM ∧ Q (.tup ds) := propext Iff.rfl
theorem e_lst : DL.wE Sg (.lst as) ρ E Q = wA Sg as ρ E fun ds => ds.length ≤ LIM ∧ Q (.lst ds) := propext Iff.rfl
theorem e_call : DL.wE Sg (.call f n as) ρ E Q = wA Sg as ρ E fun ds => ds.length = n ∧ Sg f ds E Q := propext Iff.rfl
theorem e_callP : DL.wE Sg (.callP f n as) ρ E Q = wA Sg as ρ E fun ds => ds.length = n ∧ noFns ds = true ∧ Sg f ds E Q := propext Iff.rfl
theorem e_callQ : DL.wE Sg (.callQ f n as) ρ E Q = wA Sg as ρ E fun ds => ds.length = n ∧ Sg f ds E Q := propext Iff.rfl
theorem e_callV : DL.wE Sg (.callV i as) ρ E Q = (match getS ρ i with
  | some (.fn k cs) => wA Sg as ρ E fun ds => Sg (1000 + k) (cs ++ ds) E Q
  | _ => False) := propext Iff.rfl
theorem e_callL : DL.wE Sg (.callL f n as kl js) ρ E Q = wA Sg as ρ E fun ds => ds.length + 1 = n ∧ match capt ρ js with
  | some cs => Sg f (ds ++ [.fn kl cs]) (fun x => noFn x.2 = true ∧ E x) (fun d => noFn d = true ∧ Q d)
  | none => False := propext Iff.rfl
theorem e_callK : DL.wE Sg (.callK f n m pm as) ρ E Q = wA Sg as ρ E fun ds => ds.length = m ∧ (permD D.non pm ds).length = n ∧ Sg f (permD D.non pm ds) E Q := propext Iff.rfl
theorem e_blt : DL.wE Sg (.blt bl as) ρ E Q = wA Sg as ρ E fun ds => blt bl ds Q := propext Iff.rfl
theorem e_isi : DL.wE Sg (.isi T a) ρ E Q = DL.wE Sg a ρ E fun x => match dTy x with
  | some t => Q (.bl (isiB t T))
  | none => False := propext Iff.rfl
theorem e_ix : DL.wE Sg (.ix a b) ρ E Q = DL.wE Sg a ρ E fun x => DL.wE Sg b ρ E fun y => dIx x y Q := propext Iff.rfl
theorem e_rev : DL.wE Sg (.rev a) ρ E Q = DL.wE Sg a ρ E fun d => dRev d Q := propext Iff.rfl
theorem e_rgv {tp : Bool} : DL.wE Sg (.rgv tp as) ρ E Q = wA Sg as ρ E fun ds => rgvK tp ds Q := propext Iff.rfl
theorem e_lenset : DL.wE Sg (.lenset a) ρ E Q = DL.wE Sg a ρ E fun d => dLenSet d Q := propext Iff.rfl
theorem e_sl : DL.wE Sg (.sl a lo hi) ρ E Q = DL.wE Sg a ρ E fun d => wPart (wO Sg lo) ρ E fun l => wPart (wO Sg hi) ρ E fun h => dSl d l h Q := propext Iff.rfl
theorem e_part0 : wPart (wO Sg .none) ρ E QO = QO none := propext Iff.rfl
theorem e_part1 : wPart (wO Sg (.some a)) ρ E QO = DL.wE Sg a ρ E fun d => match d with
  | .int i => QO (some i)
  | _ => False := propext Iff.rfl
theorem e_comp : DL.wE Sg (.comp vs it p t e) ρ E Q = wComp vs (wI Sg it) p (DL.wT Sg t) (DL.wE Sg e) ρ E Q := propext Iff.rfl
theorem e_nil : wA Sg .nil ρ E QA = QA [] := propext Iff.rfl
theorem e_cons : wA Sg (.cons a r) ρ E QA = DL.wE Sg a ρ E fun d => wA Sg r ρ E fun ds => QA (d :: ds) := propext Iff.rfl
theorem e_star : wA Sg (.star a r) ρ E QA = DL.wE Sg a ρ E fun d => match d with
  | .lst xs => wA Sg r ρ E fun ds => QA (xs ++ ds)
  | .tup xs => wA Sg r ρ E fun ds => QA (xs ++ ds)
  | _ => False := propext Iff.rfl
theorem t_yes : DL.wT Sg .yes ρ E QT = wYes ρ E QT := propext Iff.rfl
theorem t_val : DL.wT Sg (.val a) ρ E QT = DL.wE Sg a ρ E fun x => match dTru x with
  | some k => QT k
  | none => False := propext Iff.rfl
theorem t_not : DL.wT Sg (.not t) ρ E QT = DL.wT Sg t ρ E fun k => QT (!k) := propext Iff.rfl
theorem t_and : DL.wT Sg (.and t t1) ρ E QT = DL.wT Sg t ρ E fun k => match k with
  | true => DL.wT Sg t1 ρ E QT
  | false => QT false := propext Iff.rfl
theorem t_or : DL.wT Sg (.or t t1) ρ E QT = DL.wT Sg t ρ E fun k => match k with
  | true => QT true
  | false => DL.wT Sg t1 ρ E QT := propext Iff.rfl
theorem i_items : wI Sg (.items a) ρ E QA = DL.wE Sg a ρ E fun d => match d with
  | .lst xs => QA xs
  | .tup xs => QA xs
  | .kt ns => QA (ns.map .int)
  | _ => False := propext Iff.rfl
theorem i_rng1 : wI Sg (.rng1 as) ρ E QA = wA Sg as ρ E fun ds => iR1 ds QA := propext Iff.rfl
theorem i_rng2 : wI Sg (.rng2 as) ρ E QA = wA Sg as ρ E fun ds => iR2 ds QA := propext Iff.rfl
theorem i_rng3 : wI Sg (.rng3 as) ρ E QA = wA Sg as ρ E fun ds => iR3 ds QA := propext Iff.rfl
theorem i_enum : wI Sg (.enum as) ρ E QA = wA Sg as ρ E fun ds => iEn ds QA := propext Iff.rfl
theorem i_zip : wI Sg (.zip as) ρ E QA = wA Sg as ρ E fun ds => iZp ds QA := propext Iff.rfl
end
section
variable {Sg : Nat → SpD} {ρ : EnvS} {N : En} {e e2 k v : DE} {a b : DS} {t : DT} {p : Pt} {i j : Nat} {it : DI} {as : DEs} {l : LC} {is : List Nat} {dp : DP} {c : Int}
theorem s_seq : wS Sg (.seq a b) ρ N = wS Sg a ρ { nx := fun ρ' => Hd (wS Sg b) ρ' N, rt := N.rt, bk := N.bk, ct := N.ct, ex := N.ex } := propext Iff.rfl
theorem s_ret : wS Sg (.ret e) ρ N = DL.wE Sg e (frzE ρ) N.ex N.rt := propext Iff.rfl
theorem s_exp : wS Sg (.exp e) ρ N = DL.wE Sg e (frzE ρ) N.ex fun _ => N.nx ρ := propext Iff.rfl
theorem s_asg : wS Sg (.asg p e) ρ N = DL.wE Sg e (strE ρ) N.ex fun d => match binds p d with
  | some bs => N.nx (setS ρ bs)
  | none => False := propext Iff.rfl
theorem s_asgF : wS Sg (.asgF p e) ρ N = DL.wE Sg e (frzE ρ) N.ex fun d => noL d = true ∧ match binds p d with
  | some bs => N.nx (setS ρ bs)
  | none => False := propext Iff.rfl
theorem s_own : wS Sg (.own i as) ρ N = wA Sg as (strE ρ) N.ex fun ds => ds.length ≤ LIM ∧ N.nx (ρ.set i (.ow ds)) := propext Iff.rfl
theorem s_par : wS Sg (.par is dp) ρ N = wP Sg dp (strE ρ) N.ex fun ss => ss.length = is.length ∧ N.nx (setP ρ is ss) := propext Iff.rfl
theorem s_retW : wS Sg (.retW as) ρ N = wA Sg as (strE ρ) N.ex fun ds => match ds with
  | [.int _, .int _, .int _] => ∀ p, N.rt (.obj p)
  | _ => False := propext Iff.rfl
theorem s_for : wS Sg (.for_ p it b) ρ N = wI Sg it (strE ρ) N.ex fun ds => wForL p (wS Sg b) ds ρ N := propext Iff.rfl
theorem s_forR : wS Sg (.forR p it b) ρ N = wI Sg it (frzE ρ) N.ex fun ds => wForL p (wS Sg b) ds ρ N := propext Iff.rfl
end
section
variable {Sg : Nat → SpD} {ρ : Env'} {E : Exc → Prop} {QP : List Sl → Prop} {e : DE} {as : DEs} {r : DP}
theorem p_nil : wP Sg .nil ρ E QP = QP [] := propext Iff.rfl
theorem p_im : wP Sg (.im e r) ρ E QP = DL.wE Sg e ρ E fun d => wP Sg r ρ E fun ss => QP (.im d :: ss) := propext Iff.rfl
theorem p_owM {a b : DE} : wP Sg (.owM a b r) ρ E QP = DL.wE Sg a ρ E fun x => DL.wE Sg b ρ E fun y => match x, y with
  | .lst xs, .int k => (-(2 ^ 63) ≤ k ∧ k < 2 ^ 63 ∧ xs.length * k.toNat ≤ LIM) ∧ wP Sg r ρ E fun ss => QP (.ow (List.replicate k.toNat xs).flatten :: ss)
  | _, _ => False := propext Iff.rfl
theorem p_owL {a : DE} : wP Sg (.owL a r) ρ E QP = DL.wE Sg a ρ E fun x => match x with
  | .lst xs => wP Sg r ρ E fun ss => QP (.ow xs :: ss)
  | .tup xs => wP Sg r ρ E fun ss => QP (.ow xs :: ss)
  | _ => False := propext Iff.rfl
theorem p_ow : wP Sg (.ow as r) ρ E QP = wA Sg as ρ E fun ds => ds.length ≤ LIM ∧ wP Sg r ρ E fun ss => QP (.ow ds :: ss) := propext Iff.rfl
end
end L2.DL
namespace L2.DL
/-! ### the operators -/
open PySem PySem.Spec PyProof.Rows
theorem o_dAdd0 {Q : D → Prop} : dAdd (.int i) (.int j) Q = (Q (.int (i + j))) := propext Iff.rfl
theorem o_dAdd1 {Q : D → Prop} : dAdd (.lst xs) (.lst ys) Q = (xs.length + ys.length ≤ LIM ∧ Q (.lst (xs ++ ys))) := propext Iff.rfl
theorem o_dAdd2 {Q : D → Prop} : dAdd (.tup xs) (.tup ys) Q = (xs.length + ys.length ≤ LIM ∧ Q (.tup (xs ++ ys))) := propext Iff.rfl
theorem o_dAdd3 {Q : D → Prop} : dAdd (.str x) (.str y) Q = (x.length + y.length ≤ LIM ∧ Q (.str (x ++ y))) := propext Iff.rfl
theorem o_dSub0 {Q : D → Prop} : dSub (.int i) (.int j) Q = (Q (.int (i - j))) := propext Iff.rfl
theorem o_dMul0 {Q : D → Prop} : dMul (.int i) (.int j) Q = (((-(2 ^ 64) < i ∧ i < 2 ^ 64) ∨ (-(2 ^ 64) < j ∧ j < 2 ^ 64)) ∧ Q (.int (i * j))) := propext Iff.rfl
theorem o_dMul1 {Q : D → Prop} : dMul (.lst xs) (.int k) Q = ((-(2 ^ 63) ≤ k ∧ k < 2 ^ 63 ∧ xs.length * k.toNat ≤ LIM) ∧ Q (.lst (List.replicate k.toNat xs).flatten)) := propext Iff.rfl
theorem o_dMul2 {Q : D → Prop} : dMul (.tup xs) (.int k) Q = ((xs ≠ [] ∧ -(2 ^ 63) ≤ k ∧ k ≤ 1000 ∧ xs.length ≤ 1000) ∧ Q (.tup (List.replicate k.toNat xs).flatten)) := propext Iff.rfl
theorem o_dFdiv0 {Q : D → Prop} : dFdiv (.int i) (.int j) Q = ((0 < j ∧ j < 1073741824) ∧ Q (.int (i / j))) := propext Iff.rfl
theorem o_dMod0 {Q : D → Prop} : dMod (.int i) (.int j) Q = (0 < j ∧ Q (.int (i % j))) := propext Iff.rfl
theorem o_dPow0 {Q : D → Prop} : dPow (.int i) (.int j) Q = ((0 ≤ j ∧ j ≤ 1000000 ∧ i.natAbs < 2 ^ 64) ∧ Q (.int (i ^ j.toNat))) := propext Iff.rfl
theorem o_dShl0 {Q : D → Prop} : dShl (.int i) (.int j) Q = ((0 ≤ j ∧ j ≤ 1000000 ∧ i.natAbs < 2 ^ 64) ∧ Q (.int (i * 2 ^ j.toNat))) := propext Iff.rfl
theorem o_dShr0 {Q : D → Prop} : dShr (.int i) (.int j) Q = (0 ≤ j ∧ Q (.int (i / 2 ^ j.toNat))) := propext Iff.rfl
theorem o_dAnd0 {Q : D → Prop} : dAnd (.int i) (.int j) Q = (Q (.int (Builtin.bitAnd i j))) := propext Iff.rfl
theorem o_dOr0 {Q : D → Prop} : dOr (.int i) (.int j) Q = (Q (.int (Builtin.bitOr i j))) := propext Iff.rfl
theorem o_dXor0 {Q : D → Prop} : dXor (.int i) (.int j) Q = (Q (.int (Builtin.bitXor i j))) := propext Iff.rfl
theorem o_dLt0 {Q : D → Prop} : dLt (.int i) (.int j) Q = (Q (.bl (decide (i < j)))) := propext Iff.rfl
theorem o_dLe0 {Q : D → Prop} : dLe (.int i) (.int j) Q = (Q (.bl (decide (i ≤ j)))) := propext Iff.rfl
theorem o_dGt0 {Q : D → Prop} : dGt (.int i) (.int j) Q = (Q (.bl (decide (j < i)))) := propext Iff.rfl
theorem o_dGe0 {Q : D → Prop} : dGe (.int i) (.int j) Q = (Q (.bl (decide (j ≤ i)))) := propext Iff.rfl
theorem o_dIs0 {Q : D → Prop} : dIs d .non Q = (Q (.bl (isNon d))) := propext Iff.rfl
theorem o_dIsNot0 {Q : D → Prop} : dIsNot d .non Q = (Q (.bl (!isNon d))) := propext Iff.rfl
theorem o_dIs1 {a b : Bool} {Q : D → Prop} : dIs (.bl a) (.bl b) Q = (Q (.bl (decide (a = b)))) := propext Iff.rfl
theorem o_dIsNot1 {a b : Bool} {Q : D → Prop} : dIsNot (.bl a) (.bl b) Q = (Q (.bl (!decide (a = b)))) := propext Iff.rfl
theorem o_bLen0 {Q : D → Prop} : bLen [.str x] Q = (x.length ≤ LIM ∧ Q (.int x.length)) := propext Iff.rfl
theorem o_bLen1 {Q : D → Prop} : bLen [.tup xs] Q = (Q (.int xs.length)) := propext Iff.rfl
theorem o_bLen2 {Q : D → Prop} : bLen [.lst xs] Q = (Q (.int xs.length)) := propext Iff.rfl
theorem o_bLen3 {Q : D → Prop} : bLen [.scr ns] Q = (Q (.int ns.length)) := propext Iff.rfl
theorem o_bTuple0 {Q : D → Prop} : bTuple [.tup xs] Q = (Q (.tup xs)) := propext Iff.rfl
theorem o_bTuple1 {Q : D → Prop} : bTuple [.lst xs] Q = (Q (.tup xs)) := propext Iff.rfl
theorem o_bList0 {Q : D → Prop} : bList [.tup xs] Q = (Q (.lst xs)) := propext Iff.rfl
theorem o_bList1 {Q : D → Prop} : bList [.lst xs] Q = (Q (.lst xs)) := propext Iff.rfl
theorem o_bAbs0 {Q : D → Prop} : bAbs [.int i] Q = (Q (.int (if i < 0 then -i else i))) := propext Iff.rfl
theorem o_bMax20 {Q : D → Prop} : bMax2 [.int i, .int j] Q = (Q (.int (if j > i then j else i))) := propext Iff.rfl
theorem o_bMin20 {Q : D → Prop} : bMin2 [.int i, .int j] Q = (Q (.int (if j < i then j else i))) := propext Iff.rfl
theorem o_bInt0 {Q : D → Prop} : bInt [.int i] Q = (Q (.int i)) := propext Iff.rfl
theorem o_bInt1 {Q : D → Prop} : bInt [.bl k] Q = (Q (.int (if k then 1 else 0))) := propext Iff.rfl
theorem o_bBool0 {Q : D → Prop} : bBool [.int i] Q = (Q (.bl (i != 0))) := propext Iff.rfl
theorem o_bBool1 {Q : D → Prop} : bBool [.bl k] Q = (Q (.bl k)) := propext Iff.rfl
theorem o_bBool2 {Q : D → Prop} : bBool [.lst xs] Q = (Q (.bl (!xs.isEmpty))) := propext Iff.rfl
theorem o_bDivmod0 {Q : D → Prop} : bDivmod [.int i, .int j] Q = ((0 < j ∧ j < 1073741824) ∧ Q (.tup [.int (i / j), .int (i % j)])) := propext Iff.rfl
theorem o_bGcd0 {Q : D → Prop} : bGcd [.int i, .int j] Q = (Q (.int ((Nat.gcd i.natAbs j.natAbs : Nat) : Int))) := propext Iff.rfl
theorem o_bStr0 {Q : D → Prop} : bStr [.int i] Q = (i.natAbs.log2 < 1920 ∧ Q (.str (toString i))) := propext Iff.rfl
theorem o_bAll0 {Q : D → Prop} : bAll [.lst xs] Q = (match blsOf xs with
    | some bs => Q (.bl (bs.all id))
    | none => False) := propext Iff.rfl
theorem o_bAny0 {Q : D → Prop} : bAny [.lst xs] Q = (match blsOf xs with
    | some bs => Q (.bl (bs.any id))
    | none => False) := propext Iff.rfl
theorem o_bSum0 {Q : D → Prop} : bSum [.lst xs] Q = (match intsOf xs with
    | some ns => Q (.int ns.sum)
    | none => False) := propext Iff.rfl
theorem o_bSum1 {Q : D → Prop} : bSum [.tup xs] Q = (match intsOf xs with
    | some ns => Q (.int ns.sum)
    | none => False) := propext Iff.rfl
theorem o_bSort0 {Q : D → Prop} : bSort [.lst xs] Q = (match intsOf xs with
    | some ns => ∀ ns' : List Int, ns'.Perm ns → ns'.Pairwise (· ≤ ·) → Q (.lst (ns'.map .int))
    | none => match prsOf xs with
      | some ps => Q (.lst ((ps.mergeSort LM.leP).map pairR))
      | none => False) := propext Iff.rfl
theorem o_bSort1 {Q : D → Prop} : bSort [.tup xs] Q = (match intsOf xs with
    | some ns => ∀ ns' : List Int, ns'.Perm ns → ns'.Pairwise (· ≤ ·) → Q (.lst (ns'.map .int))
    | none => False) := propext Iff.rfl
theorem o_bMax10 {Q : D → Prop} : bMax1 [.lst xs] Q = (match intsOf xs with
    | some ns => 0 < ns.length ∧ ∀ m, m ∈ ns → (∀ y, y ∈ ns → y ≤ m) → Q (.int m)
    | none => False) := propext Iff.rfl
theorem o_bMax11 {Q : D → Prop} : bMax1 [.tup xs] Q = (match intsOf xs with
    | some ns => 0 < ns.length ∧ ∀ m, m ∈ ns → (∀ y, y ∈ ns → y ≤ m) → Q (.int m)
    | none => False) := propext Iff.rfl
theorem o_bMin10 {Q : D → Prop} : bMin1 [.lst xs] Q = (match intsOf xs with
    | some ns => 0 < ns.length ∧ ∀ m, m ∈ ns → (∀ y, y ∈ ns → m ≤ y) → Q (.int m)
    | none => match rowsOf xs with
      | some (r :: rs) => Q (.tup ((LM.minR r rs).map .int))
      | _ => False) := propext Iff.rfl
theorem o_bMin11 {Q : D → Prop} : bMin1 [.tup xs] Q = (match intsOf xs with
    | some ns => 0 < ns.length ∧ ∀ m, m ∈ ns → (∀ y, y ∈ ns → m ≤ y) → Q (.int m)
    | none => False) := propext Iff.rfl
theorem o_bRepr0 {Q : D → Prop} : bRepr [d] Q = (reprOk d ∧ Q (.str (toPy d).shown)) := propext Iff.rfl
theorem o_dIx0 {Q : D → Prop} : dIx (.lst xs) (.int i) Q = (match atI xs i with
    | some d => Q d
    | none => False) := propext Iff.rfl
theorem o_dIx1 {Q : D → Prop} : dIx (.tup xs) (.int i) Q = (match atI xs i with
    | some d => Q d
    | none => False) := propext Iff.rfl
theorem o_dIx2 {Q : D → Prop} : dIx (.str x) (.int i) Q = (x.length ≤ LIM ∧ match atI x.cps.toList i with
    | some c => Q (.str ⟨#[c]⟩)
    | none => False) := propext Iff.rfl
theorem o_dIx3 {Q : D → Prop} : dIx (.scr ns) (.int i) Q = (match atI ns i with
    | some z => Q (.int z)
    | none => False) := propext Iff.rfl
theorem o_dIx4 {Q : D → Prop} : dIx (.obj w0) (.int i) Q = ((0 ≤ i ∧ i < 3) ∧ ∀ z, Q (.int z)) := propext Iff.rfl
theorem o_iEn0 {Q : List D → Prop} : iEn [.lst xs] Q = (Q (enD xs)) := propext Iff.rfl
theorem o_iEn1 {Q : List D → Prop} : iEn [.tup xs] Q = (Q (enD xs)) := propext Iff.rfl
theorem o_iZp0 {Q : List D → Prop} : iZp [.lst xs, .lst ys] Q = (Q (zpD xs ys)) := propext Iff.rfl
theorem o_iZp1 {Q : List D → Prop} : iZp [.tup xs, .tup ys] Q = (Q (zpD xs ys)) := propext Iff.rfl
theorem o_iR30 {Q : List D → Prop} : iR3 [.int i, .int j, .int c] Q = ((c = -1 ∧ -(2 ^ 62) ≤ i ∧ i < 2 ^ 62 ∧ -(2 ^ 62) ≤ j ∧ j < 2 ^ 62) ∧ Q (rngF (fun k => i - (k : Nat)) (i - j).toNat)) := propext Iff.rfl
theorem o_iR10 {Q : List D → Prop} : iR1 [.int j] Q = ((-(2 ^ 62) ≤ j ∧ j < 2 ^ 62) ∧ Q (rngD 0 j.toNat)) := propext Iff.rfl
theorem o_iR20 {Q : List D → Prop} : iR2 [.int i, .int j] Q = ((-(2 ^ 62) ≤ i ∧ i < 2 ^ 62 ∧ -(2 ^ 62) ≤ j ∧ j < 2 ^ 62) ∧ Q (rngD i (j - i).toNat)) := propext Iff.rfl
theorem o_dRev0 {xs : List D} {Q : D → Prop} : dRev (.lst xs) Q = Q (.lst xs.reverse) := propext Iff.rfl
theorem o_dRev1 {xs : List D} {Q : D → Prop} : dRev (.tup xs) Q = Q (.tup xs.reverse) := propext Iff.rfl
theorem o_rg1 {j : Int} {Q : D → Prop} : rgvK true [.int j] Q = ((-(2 ^ 62) ≤ j ∧ j ≤ 16777216) ∧ Q (.tup (rngD 0 j.toNat))) := propext Iff.rfl
theorem o_rg2 {j : Int} {Q : D → Prop} : rgvK false [.int j] Q = ((-(2 ^ 62) ≤ j ∧ j ≤ 16777216) ∧ Q (.lst (rngD 0 j.toNat))) := propext Iff.rfl
theorem o_rg3 {i j : Int} {Q : D → Prop} : rgvK true [.int i, .int j] Q = ((0 ≤ i ∧ i ≤ 16777216 ∧ -(2 ^ 62) ≤ j ∧ j ≤ 16777216) ∧ Q (.tup (rngD i (j - i).toNat))) := propext Iff.rfl
theorem o_rg4 {i j : Int} {Q : D → Prop} : rgvK false [.int i, .int j] Q = ((0 ≤ i ∧ i ≤ 16777216 ∧ -(2 ^ 62) ≤ j ∧ j ≤ 16777216) ∧ Q (.lst (rngD i (j - i).toNat))) := propext Iff.rfl
theorem o_dLs0 {xs : List D} {Q : D → Prop} : dLenSet (.lst xs) Q = (match intsOf xs with
    | some ns => ns.length ≤ 1000 ∧ Q (.int (LM.ddup ns).length)
    | none => False) := propext Iff.rfl
theorem o_dLs1 {xs : List D} {Q : D → Prop} : dLenSet (.tup xs) Q = (match intsOf xs with
    | some ns => ns.length ≤ 1000 ∧ Q (.int (LM.ddup ns).length)
    | none => False) := propext Iff.rfl
theorem o_dSl0 {xs : List D} {lo hi : Option Int} {Q : D → Prop} : dSl (.lst xs) lo hi Q = Q (.lst (cutD xs lo hi)) := propext Iff.rfl
theorem o_dSl1 {xs : List D} {lo hi : Option Int} {Q : D → Prop} : dSl (.tup xs) lo hi Q = Q (.tup (cutD xs lo hi)) := propext Iff.rfl
theorem o_dSl2 {z : Str} {lo hi : Option Int} {Q : D → Prop} : dSl (.str z) lo hi Q = (z.length ≤ LIM ∧ Q (.str (cutS z lo hi))) := propext Iff.rfl
theorem o_dSl3 {ns : List Int} {lo hi : Option Int} {Q : D → Prop} : dSl (.scr ns) lo hi Q = Q (.lst ((cutD ns lo hi).map D.int)) := propext Iff.rfl
theorem o_dNeg {i : Int} {Q : D → Prop} : dNeg (.int i) Q = Q (.int (-i)) := propext Iff.rfl
theorem o_dEqs {x y : Str} {Q : D → Prop} : dEq (.str x) (.str y) Q = Q (.bl (decide (x = y))) := propext Iff.rfl
end L2.DL
namespace L2.DL
open PySem PySem.Spec PyProof.Rows
theorem e_comp2 {Sg : Nat → SpD} {ρ : Env'} {E : Exc → Prop} {Q : D → Prop} {vs vs1 : List Nat} {it it1 : DI} {p p1 : Pt} {t t1 : DT} {e : DE} : DL.wE Sg (.comp2 vs vs1 it p t it1 p1 t1 e) ρ E Q = wComp2 vs vs1 (wI Sg it) p (DL.wT Sg t) (wI Sg it1) p1 (DL.wT Sg t1) (DL.wE Sg e) ρ E Q := propext Iff.rfl
/-- comprehensions, each turn some more elements -/
theorem turns_F {p : Pt} {tt : WT'} {body : Env' → List D → (List D → Prop) → Prop} {ρ : Env'} {Q : List D → Prop} (c : D → Bool) (g : D → List D) : ∀ {items acc : List D},
    (∀ d ∈ items, ∃ bs, binds p d = some bs ∧ (∀ Q' : Bool → Prop, Q' (c d) → tt (setB ρ bs) noE Q') ∧ (c d = true → ∀ (a : List D) (Q' : List D → Prop), a.length + (g d).length ≤ LIM → Q' (a ++ g d) → body (setB ρ bs) a Q')) →
    acc.length + ((items.filter c).flatMap g).length ≤ LIM → Q (acc ++ (items.filter c).flatMap g) → wTurns p tt body ρ items acc Q
  | [], acc, _, _, q => by simpa [wTurns] using q
  | d :: ds, acc, h, hl, q => by
    obtain ⟨bs, e, h1, h2⟩ := h d (List.mem_cons_self ..)
    unfold wTurns
    rw [e]
    refine h1 _ ?_
    cases hc : c d with
    | false =>
      rw [List.filter_cons_of_neg (by rw [hc]; exact Bool.false_ne_true)] at q hl
      exact turns_F c g (fun x hx => h x (List.mem_cons_of_mem _ hx)) hl q
    | true =>
      rw [List.filter_cons_of_pos hc, List.flatMap_cons] at q hl
      rw [List.length_append] at hl
      refine h2 hc _ _ (by omega) ?_
      refine turns_F c g (fun x hx => h x (List.mem_cons_of_mem _ hx)) (by rw [List.length_append]; omega) ?_
      rw [List.append_assoc]
      exact q
end L2.DL
namespace L2.DL
open PySem PySem.Spec PyProof.Rows
theorem o_dNes {x y : Str} {Q : D → Prop} : dNe (.str x) (.str y) Q = Q (.bl (!decide (x = y))) := propext Iff.rfl
theorem filter_all {α : Type} {xs : List α} : xs.filter (fun _ => true) = xs := List.filter_eq_self.mpr fun _ _ => rfl
/-- items by their own kind -/
theorem turns_M {α : Type} {p : Pt} {tt : WT'} {te : WE'} {ρ : Env'} {Q : List D → Prop} (f : α → D) (c : α → Bool) (v : α → D) : ∀ {L : List α} {acc : List D},
    (∀ l ∈ L, ∃ bs, binds p (f l) = some bs ∧ (∀ Q' : Bool → Prop, Q' (c l) → tt (setB ρ bs) noE Q') ∧ (c l = true → ∀ Q' : D → Prop, Q' (v l) → te (setB ρ bs) noE Q')) → acc.length + L.length ≤ LIM →
    Q (acc ++ (L.filter c).map v) → wTurns p tt (bElt te) ρ (L.map f) acc Q
  | [], acc, _, _, q => by simpa [wTurns] using q
  | d :: ds, acc, h, hl, q => by
    obtain ⟨bs, e, h1, h2⟩ := h d (List.mem_cons_self ..)
    have hl' : acc.length + (ds.length + 1) ≤ LIM := hl
    rw [List.map_cons]
    unfold wTurns
    rw [e]
    refine h1 _ ?_
    cases hc : c d with
    | false =>
      refine turns_M f c v (fun x hx => h x (List.mem_cons_of_mem _ hx)) (by omega) ?_
      rw [List.filter_cons_of_neg (by rw [hc]; exact Bool.false_ne_true)] at q
      exact q
    | true =>
      refine h2 hc _ ⟨by omega, ?_⟩
      refine turns_M f c v (fun x hx => h x (List.mem_cons_of_mem _ hx)) (by rw [List.length_append]; simp; omega) ?_
      rw [List.filter_cons_of_pos hc] at q
      simpa using q
theorem rng_get {lo : Int} {n k : Nat} {d : D} (h : (rngD lo n)[k]? = some d) : k < n ∧ d = .int (lo + (k : Int)) := by
  unfold rngD at h
  rw [List.getElem?_map] at h
  obtain ⟨j, hj, rfl⟩ := Option.map_eq_some_iff.mp h
  obtain ⟨h1, h2⟩ := List.getElem?_eq_some_iff.mp hj
  rw [List.length_range] at h1
  rw [List.getElem_range] at h2
  exact ⟨h1, by rw [h2]⟩
theorem atI_nat {α : Type} {xs : List α} {k : Nat} : atI xs (k : Int) = xs[k]? := by
  unfold atI ixN
  by_cases h : k < xs.length
  · rw [if_pos (by omega), if_pos (by omega)]
    simp
  · rw [if_pos (by omega), if_neg (by omega), List.getElem?_eq_none (by omega)]
    rfl
theorem atI_last {α : Type} {xs : List α} {x : α} : atI (xs ++ [x]) (-1) = some x := by
  unfold atI ixN
  rw [if_neg (by omega), List.length_append]
  simp only [List.length_cons, List.length_nil]
  rw [if_pos (by omega)]
  simp only [Option.bind_some]
  rw [show (-1 + ((xs.length + (0 + 1) : Nat) : Int)).toNat = xs.length from by omega]
  simp
theorem dEq_lstN {xs : List D} {Q : D → Prop} (h : plns xs = true) (h2 : dpts xs ≤ 50) : dEq (.lst xs) (.lst []) Q ↔ Q (.bl xs.isEmpty) := by
  show ((pln (.lst xs) = true ∧ pln (.lst []) = true ∧ dpt (.lst xs) ≤ 60 ∧ dpt (.lst []) ≤ 60) ∧ Q (.bl (deq (.lst xs) (.lst [])))) ↔ _
  have e : deq (.lst xs) (.lst []) = xs.isEmpty := by cases xs <;> simp [deq, deqs]
  rw [e]
  refine ⟨fun q => q.2, fun q => ⟨⟨by simp [pln, h], by simp [pln, plns], ?_, by simp [dpt, dpts]⟩, q⟩⟩
  simp only [dpt]
  omega
theorem plns_all {xs : List D} : (∀ x ∈ xs, pln x = true) → plns xs = true := by
  induction xs with
  | nil => intro _; rfl
  | cons x r ih => intro h; simp [plns, h x (List.mem_cons_self ..), ih fun y hy => h y (List.mem_cons_of_mem _ hy)]
theorem dpts_all {xs : List D} {n : Nat} : (∀ x ∈ xs, dpt x ≤ n) → dpts xs ≤ n := by
  induction xs with
  | nil => intro _; simp [dpts]
  | cons x r ih =>
    intro h
    have h1 := h x (List.mem_cons_self ..)
    have h2 := ih fun y hy => h y (List.mem_cons_of_mem _ hy)
    simp only [dpts]
    omega
theorem sms_all' {xs : List D} : (∀ x ∈ xs, sm x = true) → sms xs = true := by
  induction xs with
  | nil => intro _; rfl
  | cons x r ih => intro h; simp [sms, h x (List.mem_cons_self ..), ih fun y hy => h y (List.mem_cons_of_mem _ hy)]
theorem wts_all {xs : List D} {n : Nat} : (∀ x ∈ xs, wt x ≤ n) → wts xs ≤ (n + 1) * xs.length := by
  induction xs with
  | nil => intro _; simp [wts]
  | cons x r ih =>
    intro h
    have h1 := h x (List.mem_cons_self ..)
    have h2 := ih fun y hy => h y (List.mem_cons_of_mem _ hy)
    simp only [wts, List.length_cons, Nat.mul_add]
    omega
end L2.DL
namespace L2.DL
theorem atI_mapF {α β : Type} {f : α → β} {xs : List α} {i : Int} : atI (xs.map f) i = (atI xs i).map f := by
  unfold atI
  rw [List.length_map]
  cases ixN xs.length i with
  | none => rfl
  | some n => simp
end L2.DL
namespace L2.DL
open PySem PySem.Spec PyProof.Rows
/-! ### marks, tallies -/
def mvM (c m x : Int) : Int := Builtin.bitAnd (Builtin.bitOr (m * 2 ^ x.toNat) (m / 2 ^ (c - x).toNat)) (1 * 2 ^ c.toNat - 1)
def gI (l : List Int) (k : Int) : Int := l.getD k.toNat 0
theorem atI_gI {l : List Int} {k : Int} (h1 : 0 ≤ k) (h2 : k < l.length) : atI (l.map D.int) k = some (.int (gI l k)) := by
  rw [atI_mapF]
  unfold atI ixN gI
  rw [if_pos h1, if_pos h2]
  simp only [Option.bind_some, List.getD_eq_getElem?_getD]
  rw [List.getElem?_eq_getElem (by omega)]
  rfl
/-- one hour more -/
def tyS (c : Int) (l : List Int) (x : Int) : List Int := (zr 0 c.toNat).map fun k => gI l k + gI l ((k - x) % c)
def ty0 (c : Int) : List Int := 1 :: List.replicate (c - 1).toNat 0
def tyF (c : Int) (ns : List Int) : List Int := ns.foldl (tyS c) (ty0 c)
theorem tyF_app {c n : Int} {ns : List Int} : tyF c (ns ++ [n]) = tyS c (tyF c ns) n := by unfold tyF; rw [List.foldl_append]; rfl
theorem tyF_len' {c : Int} (hc : 0 < c) : ∀ {ns : List Int} {l : List Int}, l.length = c.toNat → (ns.foldl (tyS c) l).length = c.toNat
  | [], _, h => h
  | n :: ns, l, _ => tyF_len' hc (ns := ns) (l := tyS c l n) (by unfold tyS; rw [List.length_map, zr_len])
theorem tyF_len {c : Int} {ns : List Int} (hc : 0 < c) : (tyF c ns).length = c.toNat := tyF_len' hc (by unfold ty0; rw [List.length_cons, List.length_replicate]; omega)
def rowD (r : List Int) : D := .tup (r.map .int)
def lastI (r : List Int) : Int := r.getLast?.getD 0
theorem atI_neg1 {r : List Int} (h : r ≠ []) : atI (r.map D.int) (-1) = some (.int (lastI r)) := by
  obtain ⟨q, x, rfl⟩ : ∃ q x, r = q ++ [x] := ⟨r.dropLast, r.getLast h, (List.dropLast_concat_getLast h).symm⟩
  rw [List.map_append, List.map_singleton, atI_last]
  simp [lastI]
/-- rising rows, one hour longer -/
def riL (c : Int) (rows : List (List Int)) : List (List Int) := rows.flatMap fun r => (zr (lastI r) (c - lastI r).toNat).map fun x => r ++ [x]
end L2.DL
/-! What picks come to, in plain words. -/
namespace L2.TH
open PySem L2 L2.DL

/-! ### bits -/
theorem band_nat {a b : Nat} : Builtin.bitAnd (a : Int) (b : Int) = ((a &&& b : Nat) : Int) := by
  unfold Builtin.bitAnd
  rw [decide_eq_true (Int.natCast_nonneg a), decide_eq_true (Int.natCast_nonneg b)]
  rfl
theorem bor_nat {a b : Nat} : Builtin.bitOr (a : Int) (b : Int) = ((a ||| b : Nat) : Int) := by
  unfold Builtin.bitOr Builtin.bitAnd Builtin.bitNot
  rw [decide_eq_false (by omega), decide_eq_false (by omega)]
  show -(-((((- (-(a : Int) - 1) - 1).toNat ||| (- (-(b : Int) - 1) - 1).toNat : Nat)) : Int) - 1) - 1 = _
  rw [show (- (-(a : Int) - 1) - 1).toNat = a from by omega, show (- (-(b : Int) - 1) - 1).toNat = b from by omega]
  omega
def hb (m k : Int) : Bool := Builtin.bitAnd (m / 2 ^ k.toNat) 1 == 1
theorem hb_nat {m k : Nat} : hb (m : Int) (k : Int) = m.testBit k := by
  unfold hb
  have e : ((m : Int) / 2 ^ ((k : Int)).toNat) = ((m / 2 ^ k : Nat) : Int) := by
    rw [Int.toNat_natCast, Int.natCast_ediv, Int.natCast_pow]
    rfl
  rw [e, show (1 : Int) = ((1 : Nat) : Int) from rfl, band_nat, Nat.and_one_is_mod, Nat.testBit_eq_decide_div_mod_eq, Bool.eq_iff_iff]
  simp only [beq_iff_eq, decide_eq_true_eq]
  omega
theorem mvM_nat {c m x : Nat} (h : x ≤ c) : mvM (c : Int) (m : Int) (x : Int) = (((m * 2 ^ x ||| m / 2 ^ (c - x)) &&& (2 ^ c - 1) : Nat) : Int) := by
  unfold mvM
  have e1 : ((m : Int) * 2 ^ ((x : Int)).toNat) = ((m * 2 ^ x : Nat) : Int) := by
    rw [Int.toNat_natCast, Int.natCast_mul, Int.natCast_pow]
    rfl
  have e2 : ((m : Int) / 2 ^ ((c : Int) - (x : Int)).toNat) = ((m / 2 ^ (c - x) : Nat) : Int) := by
    rw [show ((c : Int) - (x : Int)).toNat = c - x from by omega, Int.natCast_ediv, Int.natCast_pow]
    rfl
  have e3 : ((1 : Int) * 2 ^ ((c : Int)).toNat - 1) = ((2 ^ c - 1 : Nat) : Int) := by
    rw [Int.toNat_natCast, Int.one_mul]
    have : 0 < 2 ^ c := Nat.two_pow_pos c
    rw [Int.natCast_sub this, Int.natCast_pow]
    rfl
  rw [e1, e2, e3, bor_nat, band_nat]
theorem mvM_bound {c m x : Int} (hc : 0 ≤ c) (hm : 0 ≤ m) (hx : 0 ≤ x ∧ x ≤ c) : 0 ≤ mvM c m x ∧ mvM c m x < 2 ^ c.toNat := by
  obtain ⟨c, rfl⟩ := Int.eq_ofNat_of_zero_le hc
  obtain ⟨m, rfl⟩ := Int.eq_ofNat_of_zero_le hm
  obtain ⟨x, rfl⟩ := Int.eq_ofNat_of_zero_le hx.1
  rw [mvM_nat (by omega)]
  refine ⟨by omega, ?_⟩
  have h1 : (m * 2 ^ x ||| m / 2 ^ (c - x)) &&& (2 ^ c - 1) ≤ 2 ^ c - 1 := Nat.and_le_right
  have h2 : 0 < 2 ^ c := Nat.two_pow_pos c
  rw [Int.toNat_natCast, show ((2 : Int) ^ c) = ((2 ^ c : Nat) : Int) from by rw [Int.natCast_pow]; rfl]
  omega
theorem hb_mvM {c m x k : Int} (hm : 0 ≤ m ∧ m < 2 ^ c.toNat) (hx : 0 ≤ x ∧ x < c) (hk : 0 ≤ k ∧ k < c) : hb (mvM c m x) k = hb m ((k - x) % c) := by
  obtain ⟨c, rfl⟩ := Int.eq_ofNat_of_zero_le (show 0 ≤ c by omega)
  obtain ⟨m, rfl⟩ := Int.eq_ofNat_of_zero_le hm.1
  obtain ⟨x, rfl⟩ := Int.eq_ofNat_of_zero_le hx.1
  obtain ⟨k, rfl⟩ := Int.eq_ofNat_of_zero_le hk.1
  have hm2 : m < 2 ^ c := by
    have := hm.2
    rw [Int.toNat_natCast, show ((2 : Int) ^ c) = ((2 ^ c : Nat) : Int) from by rw [Int.natCast_pow]; rfl] at this
    omega
  have hx2 : x < c := by omega
  have hk2 : k < c := by omega
  rw [mvM_nat (by omega), hb_nat]
  have hi : ∀ j, c ≤ j → m.testBit j = false := fun j hj => Nat.testBit_lt_two_pow (Nat.lt_of_lt_of_le hm2 (Nat.pow_le_pow_right (by omega) hj))
  have eL : ((m * 2 ^ x ||| m / 2 ^ (c - x)) &&& (2 ^ c - 1)).testBit k = ((decide (x ≤ k) && m.testBit (k - x)) || m.testBit (k + (c - x))) := by
    rw [Nat.testBit_and, Nat.testBit_or, Nat.testBit_two_pow_sub_one, decide_eq_true hk2, Bool.and_true, Nat.testBit_mul_two_pow, Nat.testBit_div_two_pow]
  rw [eL]
  by_cases h : x ≤ k
  · have e : (((k : Int) - (x : Int)) % (c : Int)) = ((k - x : Nat) : Int) := by
      rw [show ((k : Int) - (x : Int)) = ((k - x : Nat) : Int) from by omega]
      exact Int.emod_eq_of_lt (by omega) (by omega)
    rw [e, hb_nat, decide_eq_true h, hi (k + (c - x)) (by omega)]
    simp
  · have e : (((k : Int) - (x : Int)) % (c : Int)) = ((k + (c - x) : Nat) : Int) := by
      rw [show ((k : Int) - (x : Int)) = ((k + (c - x) : Nat) : Int) + (c : Int) * (-1) from by omega, Int.add_mul_emod_self_left]
      exact Int.emod_eq_of_lt (by omega) (by omega)
    rw [e, hb_nat, decide_eq_false h]
    simp
theorem hb_bor {a b k : Int} (ha : 0 ≤ a) (hb' : 0 ≤ b) (hk : 0 ≤ k) : hb (Builtin.bitOr a b) k = (hb a k || hb b k) := by
  obtain ⟨a, rfl⟩ := Int.eq_ofNat_of_zero_le ha
  obtain ⟨b, rfl⟩ := Int.eq_ofNat_of_zero_le hb'
  obtain ⟨k, rfl⟩ := Int.eq_ofNat_of_zero_le hk
  rw [bor_nat, hb_nat, hb_nat, hb_nat, Nat.testBit_or]
theorem bor_bound {a b : Int} {n : Nat} (ha : 0 ≤ a ∧ a < 2 ^ n) (hb' : 0 ≤ b ∧ b < 2 ^ n) : 0 ≤ Builtin.bitOr a b ∧ Builtin.bitOr a b < 2 ^ n := by
  obtain ⟨a, rfl⟩ := Int.eq_ofNat_of_zero_le ha.1
  obtain ⟨b, rfl⟩ := Int.eq_ofNat_of_zero_le hb'.1
  have e : ((2 : Int) ^ n) = ((2 ^ n : Nat) : Int) := by rw [Int.natCast_pow]; rfl
  rw [bor_nat, e]
  rw [e] at ha hb'
  have := Nat.or_lt_two_pow (x := a) (y := b) (n := n) (by omega) (by omega)
  omega
theorem hb_pow {x k : Int} (hx : 0 ≤ x) (hk : 0 ≤ k) : hb (1 * 2 ^ x.toNat) k = decide (k = x) := by
  obtain ⟨x, rfl⟩ := Int.eq_ofNat_of_zero_le hx
  obtain ⟨k, rfl⟩ := Int.eq_ofNat_of_zero_le hk
  rw [Int.one_mul, Int.toNat_natCast, show ((2 : Int) ^ x) = ((2 ^ x : Nat) : Int) from by rw [Int.natCast_pow]; rfl, hb_nat, Nat.testBit_two_pow, Bool.eq_iff_iff]
  simp only [decide_eq_true_eq]
  omega
theorem hb_zero {k : Int} (hk : 0 ≤ k) : hb 0 k = false := by
  obtain ⟨k, rfl⟩ := Int.eq_ofNat_of_zero_le hk
  rw [show (0 : Int) = ((0 : Nat) : Int) from rfl, hb_nat, Nat.zero_testBit]

/-! ### lists -/
theorem gZ {α : Type} {f : Int → α} {n : Nat} {k : Int} (h : 0 ≤ k ∧ k < n) : atI ((zr 0 n).map f) k = some (f k) := by
  unfold atI ixN
  rw [if_pos h.1, List.length_map, zr_len, if_pos h.2]
  unfold zr
  simp only [Option.bind_some, List.map_map, List.getElem?_map]
  rw [List.getElem?_range (by omega)]
  simp only [Option.map_some, Function.comp]
  rw [show (0 : Int) + ((k.toNat : Nat) : Int) = k from by omega]
theorem gR {α : Type} {f : Nat → α} {n : Nat} {k : Int} (h : 0 ≤ k ∧ k < n) : atI ((List.range n).map f) k = some (f k.toNat) := by
  unfold atI ixN
  rw [if_pos h.1, List.length_map, List.length_range, if_pos h.2]
  simp only [Option.bind_some, List.getElem?_map]
  rw [List.getElem?_range (by omega)]
  rfl
theorem init_zr {α : Type} {a b : α} {m : Nat} : (zr 0 (m + 1)).map (fun k => if k = 0 then a else b) = a :: List.replicate m b := by
  unfold zr
  rw [List.range_succ_eq_map, List.map_cons, List.map_cons]
  congr 1
  rw [List.map_map, List.map_map]
  apply List.ext_getElem
  · simp
  · intro i h1 h2
    rw [List.getElem_map, List.getElem_replicate]
    simp only [Function.comp]
    rw [if_neg (by omega)]
theorem rep1 {α : Type} {a : α} {m : Nat} : (List.replicate m [a]).flatten = List.replicate m a := by
  induction m with
  | zero => rfl
  | succ m ih => rw [List.replicate_succ, List.flatten_cons, ih]; rfl
def tls {α : Type} : List α → List (List α)
  | [] => [[]]
  | x :: t => (x :: t) :: tls t
theorem tls_len {α : Type} : ∀ l : List α, (tls l).length = l.length + 1
  | [] => rfl
  | x :: t => by
    show (tls t).length + 1 = _
    rw [tls_len t]; rfl
theorem tls_at {α : Type} : ∀ {l : List α} {i : Nat}, i ≤ l.length → (tls l)[i]? = some (l.drop i)
  | [], 0, _ => rfl
  | x :: t, 0, _ => rfl
  | x :: t, i + 1, h => by
    show (tls t)[i]? = some (t.drop i)
    exact tls_at (by simpa using h)
theorem tls_atI {α β : Type} {f : List α → β} {l : List α} {i : Int} (h : 0 ≤ i ∧ i ≤ l.length) : atI ((tls l).map f) i = some (f (l.drop i.toNat)) := by
  unfold atI ixN
  rw [if_pos h.1, List.length_map, tls_len, if_pos (by omega)]
  simp only [Option.bind_some, List.getElem?_map]
  rw [tls_at (by omega)]
  rfl
theorem tls_cons {α : Type} (l : List α) : ∃ r, tls l = l :: r := by
  cases l with
  | nil => exact ⟨_, rfl⟩
  | cons x t => exact ⟨_, rfl⟩
/-- one item more, from behind -/
theorem rev_step {α : Type} {l : List α} {j : Nat} {x : α} (h : l.reverse[j]? = some x) : j < l.length ∧ l.drop (l.length - (j + 1)) = x :: l.drop (l.length - j) := by
  have hj : j < l.length := by
    have := (List.getElem?_eq_some_iff.mp h).1
    simpa using this
  refine ⟨hj, ?_⟩
  rw [List.getElem?_reverse hj] at h
  have := drop_one h
  rw [show l.length - 1 - j = l.length - (j + 1) from by omega] at this
  rw [this, show l.length - (j + 1) + 1 = l.length - j from by omega]

/-! ### picks by their sizes -/
section
variable {α : Type} (sub : Int → α → Int)
/-- whether just so many come to k -/
def cB : List α → Nat → Int → Bool
  | [], s, k => s == 0 && decide (k = 0)
  | _ :: t, 0, k => cB t 0 k
  | x :: t, s + 1, k => cB t (s + 1) k || cB t s (sub k x)
def fmin : Option Nat → Option Nat → Option Nat
  | a, none => a
  | none, some b => some (b + 1)
  | some a, some b => some (if b + 1 < a then b + 1 else a)
/-- the fewest that come to k -/
def fw : List α → Int → Option Nat
  | [], k => if k = 0 then some 0 else none
  | x :: t, k => fmin (fw t k) (fw t (sub k x))
/-- the least indexes of so many that come to due -/
def gr : List α → Nat → Nat → Int → List Nat
  | [], _, _, _ => []
  | _ :: _, _, 0, _ => []
  | x :: t, i, l + 1, due => if cB sub t l (sub due x) then i :: gr t (i + 1) l (sub due x) else gr t (i + 1) (l + 1) due
variable {sub}
theorem cB_zero : ∀ {l : List α} {k : Int}, cB sub l 0 k = decide (k = 0)
  | [], k => by simp [cB]
  | x :: t, k => by
    unfold cB
    exact cB_zero
theorem cB_len : ∀ {l : List α} {s : Nat} {k : Int}, cB sub l s k = true → s ≤ l.length
  | [], s, k, h => by
    unfold cB at h
    simp at h
    simp [h.1]
  | x :: t, 0, k, h => by simp
  | x :: t, s + 1, k, h => by
    unfold cB at h
    rw [Bool.or_eq_true] at h
    rcases h with h | h
    · have := cB_len h
      rw [List.length_cons]; omega
    · have := cB_len h
      rw [List.length_cons]; omega
theorem fmin_le {a b : Option Nat} {n : Nat} (h : fmin a b = some n) : (∀ x, a = some x → n ≤ x) ∧ (∀ y, b = some y → n ≤ y + 1) ∧ (a = some n ∨ ∃ y, b = some y ∧ n = y + 1) := by
  cases a with
  | none =>
    cases b with
    | none => cases h
    | some b => cases h; exact ⟨fun _ z => (nomatch z), fun y z => (by cases z; omega), .inr ⟨b, rfl, rfl⟩⟩
  | some a =>
    cases b with
    | none => cases h; exact ⟨fun _ z => (by cases z; omega), fun _ z => (nomatch z), .inl rfl⟩
    | some b =>
      have h' : (if b + 1 < a then b + 1 else a) = n := Option.some.inj h
      split at h'
      · exact ⟨fun _ z => (by cases z; omega), fun _ z => (by cases z; omega), .inr ⟨b, rfl, h'.symm⟩⟩
      · exact ⟨fun _ z => (by cases z; omega), fun _ z => (by cases z; omega), .inl (by rw [h'])⟩
theorem fmin_some {a b : Option Nat} : (a.isSome ∨ b.isSome) → (fmin a b).isSome := by
  cases a <;> cases b <;> simp [fmin]
theorem fw_cB : ∀ {l : List α} {k : Int} {f : Nat}, fw sub l k = some f → cB sub l f k = true ∧ f ≤ l.length
  | [], k, f, h => by
    unfold fw at h
    split at h
    · cases h; simp [cB, *]
    · cases h
  | x :: t, k, f, h => by
    unfold fw at h
    obtain ⟨_, _, h3⟩ := fmin_le h
    rcases h3 with h3 | ⟨y, h3, rfl⟩
    · have := fw_cB h3
      refine ⟨?_, by rw [List.length_cons]; omega⟩
      cases f with
      | zero => unfold cB; exact this.1
      | succ f => unfold cB; rw [this.1]; rfl
    · have := fw_cB h3
      refine ⟨?_, by rw [List.length_cons]; omega⟩
      unfold cB; rw [this.1, Bool.or_true]
theorem cB_fw : ∀ {l : List α} {k : Int} {s : Nat}, cB sub l s k = true → ∃ f, fw sub l k = some f ∧ f ≤ s
  | [], k, s, h => by
    unfold cB at h
    simp at h
    exact ⟨0, by simp [fw, h.2], by omega⟩
  | x :: t, k, s, h => by
    have key : (∃ f, fw sub t k = some f ∧ f ≤ s) ∨ ∃ f, fw sub t (sub k x) = some f ∧ f + 1 ≤ s := by
      cases s with
      | zero => unfold cB at h; exact .inl (cB_fw h)
      | succ s =>
        unfold cB at h
        rw [Bool.or_eq_true] at h
        rcases h with h | h
        · exact .inl (cB_fw h)
        · obtain ⟨f, h1, h2⟩ := cB_fw h
          exact .inr ⟨f, h1, by omega⟩
    have hs : (fw sub (x :: t) k).isSome := by
      unfold fw
      refine fmin_some ?_
      rcases key with ⟨f, h1, _⟩ | ⟨f, h1, _⟩
      · exact .inl (by rw [h1]; rfl)
      · exact .inr (by rw [h1]; rfl)
    obtain ⟨f, hf⟩ := Option.isSome_iff_exists.mp hs
    refine ⟨f, hf, ?_⟩
    unfold fw at hf
    obtain ⟨h1, h2, _⟩ := fmin_le hf
    rcases key with ⟨g, k1, k2⟩ | ⟨g, k1, k2⟩
    · have := h1 g k1; omega
    · have := h2 g k1; omega
/-- the fewest is the first size -/
theorem fw_first {l : List α} {k : Int} {s : Nat} (h : cB sub l s k = true) (h2 : ∀ j, j < s → cB sub l j k = false) : fw sub l k = some s := by
  obtain ⟨f, h3, h4⟩ := cB_fw h
  rcases Nat.lt_or_eq_of_le h4 with h5 | h5
  · have := (fw_cB h3).1
    rw [h2 f h5] at this; cases this
  · rw [h3, h5]
theorem fw_none {l : List α} {k : Int} (h : ∀ s, s ≤ l.length → cB sub l s k = false) : fw sub l k = none := by
  cases e : fw sub l k with
  | none => rfl
  | some f =>
    have := fw_cB e
    rw [h f this.2] at this; cases this.1
theorem fw_lt {l : List α} {k : Int} {f j : Nat} (h : fw sub l k = some f) (hj : j < f) : cB sub l j k = false := by
  cases e : cB sub l j k with
  | false => rfl
  | true =>
    obtain ⟨g, h1, h2⟩ := cB_fw e
    rw [h] at h1; cases h1; omega
theorem gr_len : ∀ {l : List α} {i s : Nat} {k : Int}, cB sub l s k = true → (gr sub l i s k).length = s
  | [], i, s, k, h => by
    have := cB_len h
    simp at this
    subst this; rfl
  | x :: t, i, 0, k, h => rfl
  | x :: t, i, s + 1, k, h => by
    unfold cB at h
    unfold gr
    split
    · rename_i e
      rw [List.length_cons, gr_len e]
    · rename_i e
      rw [Bool.or_eq_true] at h
      exact gr_len (h.resolve_right (by simpa using e))
theorem gr_zero {l : List α} {i : Nat} {k : Int} : gr sub l i 0 k = [] := by cases l <;> rfl
theorem gr_lt : ∀ {l : List α} {i s : Nat} {k : Int}, ∀ x ∈ gr sub l i s k, i ≤ x ∧ x < i + l.length
  | [], i, s, k, x, h => by cases h
  | y :: t, i, 0, k, x, h => by cases h
  | y :: t, i, s + 1, k, x, h => by
    unfold gr at h
    rw [List.length_cons]
    split at h
    · rcases List.mem_cons.mp h with rfl | h
      · omega
      · have := gr_lt x h; omega
    · have := gr_lt x h; omega
/-- the greedy step: the first index with which one less is left -/
theorem gr_next : ∀ {l : List α} {i s : Nat} {k : Int}, cB sub l (s + 1) k = true → ∃ p x t, l = p ++ x :: t ∧ cB sub t s (sub k x) = true ∧ gr sub l i (s + 1) k = (i + p.length) :: gr sub t (i + p.length + 1) s (sub k x) ∧
    (∀ q y u, l = q ++ y :: u → q.length < p.length → cB sub u s (sub k y) = false) ∧ (fw sub l k = some (s + 1) → fw sub t (sub k x) = some s)
  | [], i, s, k, h => by
    unfold cB at h
    simp at h
  | x :: t, i, s, k, h => by
    unfold cB at h
    rw [Bool.or_eq_true] at h
    cases e : cB sub t s (sub k x) with
    | true =>
      refine ⟨[], x, t, rfl, e, ?_, fun q y u _ hq => absurd hq (Nat.not_lt_zero _), fun hf => ?_⟩
      · show (if cB sub t s (sub k x) then i :: gr sub t (i + 1) s (sub k x) else _) = _
        rw [e]; rfl
      · refine fw_first e fun j hj => ?_
        cases e2 : cB sub t j (sub k x) with
        | false => rfl
        | true =>
          have : cB sub (x :: t) (j + 1) k = true := by unfold cB; rw [e2, Bool.or_true]
          rw [fw_lt hf (by omega)] at this; cases this
    | false =>
      have h1 : cB sub t (s + 1) k = true := h.resolve_right (by rw [e]; exact Bool.false_ne_true)
      obtain ⟨p, y, u, rfl, h2, h3, h4, h5⟩ := gr_next (i := i + 1) h1
      refine ⟨x :: p, y, u, rfl, h2, ?_, fun q z v hq hl => ?_, fun hf => ?_⟩
      · show (if cB sub (p ++ y :: u) s (sub k x) then _ else gr sub (p ++ y :: u) (i + 1) (s + 1) k) = _
        rw [e, if_neg Bool.false_ne_true, h3, List.length_cons, show i + 1 + p.length = i + (p.length + 1) from by omega]
      · cases q with
        | nil =>
          cases hq
          exact e
        | cons a q =>
          have := List.cons.inj hq
          exact h4 q z v this.2 (by simpa using hl)
      · refine h5 (fw_first h1 fun j hj => ?_)
        cases e2 : cB sub (p ++ y :: u) j k with
        | false => rfl
        | true =>
          have : cB sub (x :: (p ++ y :: u)) j k = true := by
            cases j with
            | zero => unfold cB; exact e2
            | succ j => unfold cB; rw [e2]; rfl
          rw [fw_lt hf hj] at this; cases this
end
/-! ### clocks -/
def sb (c : Int) (k x : Int) : Int := (k - x) % c
theorem sb_in {c k x : Int} (hc : 0 < c) : 0 ≤ sb c k x ∧ sb c k x < c := ⟨Int.emod_nonneg _ (by omega), Int.emod_lt_of_pos _ hc⟩
/-- the others come to the rest of the whole -/
theorem cB_dual {c : Int} (hc : 0 < c) : ∀ {l : List Int} {s : Nat} {k : Int}, s ≤ l.length → 0 ≤ k → k < c → cB (sb c) l s k = cB (sb c) l (l.length - s) ((l.sum - k) % c)
  | [], s, k, h, h1, h2 => by
    have : s = 0 := by simpa using h
    subst this
    show (0 == 0 && decide (k = 0)) = (0 == 0 && decide ((0 - k) % c = 0))
    congr 2
    refine propext ⟨fun e => by subst e; simp, fun e => ?_⟩
    have := Int.emod_emod_of_dvd
    rcases Int.lt_or_eq_of_le h1 with h3 | h3
    · have e2 : (0 - k) % c = c - k := by
        rw [show 0 - k = (c - k) + c * (-1) from by omega, Int.add_mul_emod_self_left]
        exact Int.emod_eq_of_lt (by omega) (by omega)
      omega
    · exact h3.symm
  | x :: t, s, k, h, h1, h2 => by
    have hs : ∀ k, 0 ≤ sb c k x ∧ sb c k x < c := fun k => sb_in hc
    have m2 : 0 ≤ ((x :: t).sum - k) % c ∧ ((x :: t).sum - k) % c < c := ⟨Int.emod_nonneg _ (by omega), Int.emod_lt_of_pos _ hc⟩
    have eA : sb c (((x :: t).sum - k) % c) x = (t.sum - k) % c := by
      unfold sb
      rw [Int.emod_sub_emod, List.sum_cons]
      congr 1; omega
    have eB : (t.sum - sb c k x) % c = ((x :: t).sum - k) % c := by
      unfold sb
      rw [Int.sub_emod_emod, List.sum_cons]
      congr 1; omega
    rw [List.length_cons] at h ⊢
    cases s with
    | zero =>
      rw [Nat.sub_zero]
      unfold cB
      rw [cB_dual hc (Nat.zero_le _) h1 h2, Nat.sub_zero, eA]
      cases e : cB (sb c) t (t.length + 1) (((x :: t).sum - k) % c) with
      | false => simp
      | true => have := cB_len e; omega
    | succ s =>
      have e1 : cB (sb c) t s (sb c k x) = cB (sb c) t (t.length - s) (((x :: t).sum - k) % c) := by
        rw [cB_dual hc (by omega) (hs k).1 (hs k).2, eB]
      rw [show t.length + 1 - (s + 1) = t.length - s from by omega]
      by_cases hsl : s + 1 ≤ t.length
      · have e2 : cB (sb c) t (s + 1) k = cB (sb c) t (t.length - (s + 1)) ((t.sum - k) % c) := cB_dual hc hsl h1 h2
        rw [show t.length - s = (t.length - (s + 1)) + 1 from by omega] at e1 ⊢
        show (cB (sb c) t (s + 1) k || cB (sb c) t s (sb c k x)) = (cB (sb c) t (t.length - (s + 1) + 1) (((x :: t).sum - k) % c) || cB (sb c) t (t.length - (s + 1)) (sb c (((x :: t).sum - k) % c) x))
        rw [e1, e2, eA, Bool.or_comm]
      · have e2 : cB (sb c) t (s + 1) k = false := by
          cases e : cB (sb c) t (s + 1) k with
          | false => rfl
          | true => have := cB_len e; omega
        rw [show t.length - s = 0 from by omega] at e1 ⊢
        show (cB (sb c) t (s + 1) k || cB (sb c) t s (sb c k x)) = cB (sb c) t 0 (((x :: t).sum - k) % c)
        rw [e1, e2, Bool.false_or]
/-- the mark of what just so many come to -/
def mk (c : Int) : List Int → Nat → Int
  | [], s => if s = 0 then 1 else 0
  | _ :: t, 0 => mk c t 0
  | x :: t, s + 1 => Builtin.bitOr (mk c t (s + 1)) (mvM c (mk c t s) x)
theorem mk_ok {c : Int} (hc : 0 < c) : ∀ {l : List Int} {s : Nat}, (∀ x ∈ l, 0 ≤ x ∧ x < c) → (0 ≤ mk c l s ∧ mk c l s < 2 ^ c.toNat) ∧ ∀ k, 0 ≤ k → k < c → hb (mk c l s) k = cB (sb c) l s k
  | [], s, _ => by
    have e : (2 : Int) ^ c.toNat = ((2 ^ c.toNat : Nat) : Int) := by rw [Int.natCast_pow]; rfl
    have : 0 < 2 ^ c.toNat := Nat.two_pow_pos _
    have h1 : 1 < 2 ^ c.toNat := Nat.one_lt_two_pow (by omega)
    unfold mk
    rw [e]
    split
    · rename_i h
      subst h
      refine ⟨by omega, fun k h1 _ => ?_⟩
      rw [show (1 : Int) = 1 * 2 ^ (0 : Int).toNat from rfl, hb_pow (by omega) h1]
      simp [cB]
    · rename_i h
      refine ⟨by omega, fun k h1 _ => ?_⟩
      rw [hb_zero h1]
      simp [cB, h]
  | x :: t, 0, h => by
    unfold mk cB
    exact mk_ok hc fun y hy => h y (List.mem_cons_of_mem _ hy)
  | x :: t, s + 1, h => by
    have hx := h x List.mem_cons_self
    obtain ⟨b1, q1⟩ := mk_ok hc (l := t) (s := s + 1) fun y hy => h y (List.mem_cons_of_mem _ hy)
    obtain ⟨b2, q2⟩ := mk_ok hc (l := t) (s := s) fun y hy => h y (List.mem_cons_of_mem _ hy)
    have b3 := mvM_bound (c := c) (m := mk c t s) (x := x) (by omega) b2.1 ⟨hx.1, by omega⟩
    unfold mk cB
    refine ⟨bor_bound b1 b3, fun k h1 h2 => ?_⟩
    have hs := sb_in (k := k) (x := x) hc
    rw [hb_bor b1.1 b3.1 h1, q1 k h1 h2, hb_mvM b2 hx ⟨h1, h2⟩]
    show (_ || hb (mk c t s) (sb c k x)) = _
    rw [q2 _ hs.1 hs.2]
/-- the mark of what some come to -/
def smF (c : Int) (l : List Int) : Int := l.foldl (fun f x => Builtin.bitOr (Builtin.bitOr f (mvM c f x)) (1 * 2 ^ x.toNat)) 0
theorem smF_app {c x : Int} {l : List Int} : smF c (l ++ [x]) = Builtin.bitOr (Builtin.bitOr (smF c l) (mvM c (smF c l) x)) (1 * 2 ^ x.toNat) := by unfold smF; rw [List.foldl_append]; rfl
theorem pow_lt {c x : Int} (hx : 0 ≤ x ∧ x < c) : 0 ≤ (1 : Int) * 2 ^ x.toNat ∧ (1 : Int) * 2 ^ x.toNat < 2 ^ c.toNat := by
  rw [Int.one_mul, show (2 : Int) ^ x.toNat = ((2 ^ x.toNat : Nat) : Int) from by rw [Int.natCast_pow]; rfl, show (2 : Int) ^ c.toNat = ((2 ^ c.toNat : Nat) : Int) from by rw [Int.natCast_pow]; rfl]
  have := Nat.pow_lt_pow_right (a := 2) (by omega) (show x.toNat < c.toNat by omega)
  exact ⟨Int.natCast_nonneg _, Int.ofNat_lt.mpr this⟩
/-- some pick of an index or more comes to k -/
def anyB (c : Int) (l : List Int) (k : Int) : Prop := ∃ s, 0 < s ∧ cB (sb c) l s k = true
/-- one more hour at the end -/
theorem cB_snoc {c : Int} : ∀ {l : List Int} {x : Int} {s : Nat} {k : Int}, 0 < c → 0 ≤ k → k < c → cB (sb c) (l ++ [x]) s k = (cB (sb c) l s k || (decide (0 < s) && cB (sb c) l (s - 1) (sb c k x)))
  | [], x, 0, k, hc, h1, h2 => by simp [cB]
  | [], x, s + 1, k, hc, h1, h2 => by simp [cB]
  | y :: t, x, 0, k, hc, h1, h2 => by
    show cB (sb c) (t ++ [x]) 0 k = _
    rw [cB_zero, cB_zero]
    simp
  | y :: t, x, s + 1, k, hc, h1, h2 => by
    have hs := sb_in (k := k) (x := y) hc
    have e : sb c (sb c k y) x = sb c (sb c k x) y := by
      unfold sb
      rw [Int.emod_sub_emod, Int.emod_sub_emod]
      congr 1; omega
    show (cB (sb c) (t ++ [x]) (s + 1) k || cB (sb c) (t ++ [x]) s (sb c k y)) = _
    rw [cB_snoc hc h1 h2, cB_snoc hc hs.1 hs.2, e]
    show ((cB (sb c) t (s + 1) k || (decide (0 < s + 1) && cB (sb c) t (s + 1 - 1) (sb c k x))) || (cB (sb c) t s (sb c k y) || (decide (0 < s) && cB (sb c) t (s - 1) (sb c (sb c k x) y)))) = ((cB (sb c) t (s + 1) k || cB (sb c) t s (sb c k y)) || (decide (0 < s + 1) && cB (sb c) (y :: t) (s + 1 - 1) (sb c k x)))
    rw [decide_eq_true (show 0 < s + 1 by omega), Bool.true_and, Bool.true_and, Nat.add_sub_cancel]
    cases s with
    | zero =>
      rw [cB_zero (l := y :: t), cB_zero (l := t) (k := sb c k x)]
      simp only [Nat.lt_irrefl, decide_false, Bool.false_and, Bool.or_false]
      generalize cB (sb c) t (0 + 1) k = a
      generalize cB (sb c) t 0 (sb c k y) = b
      generalize decide (sb c k x = 0) = d
      cases a <;> cases b <;> cases d <;> rfl
    | succ s =>
      rw [decide_eq_true (show 0 < s + 1 by omega), Bool.true_and, Nat.add_sub_cancel]
      show _ = (_ || (cB (sb c) t (s + 1) (sb c k x) || cB (sb c) t s (sb c (sb c k x) y)))
      generalize cB (sb c) t (s + 1 + 1) k = a
      generalize cB (sb c) t (s + 1) (sb c k x) = b
      generalize cB (sb c) t (s + 1) (sb c k y) = d
      generalize cB (sb c) t s (sb c (sb c k x) y) = e
      cases a <;> cases b <;> cases d <;> cases e <;> rfl
theorem rev_ind {α : Type} {P : List α → Prop} (h0 : P []) (h1 : ∀ l x, P l → P (l ++ [x])) : ∀ l, P l := by
  intro l
  have : ∀ n, ∀ l : List α, l.length = n → P l := by
    intro n
    induction n with
    | zero => intro l hl; rw [List.length_eq_zero_iff.mp hl]; exact h0
    | succ n ih =>
      intro l hl
      have hne : l ≠ [] := fun e => by subst e; cases hl
      rw [← List.dropLast_concat_getLast hne]
      exact h1 _ _ (ih _ (by rw [List.length_dropLast, hl]; rfl))
  exact this _ l rfl
theorem smF_ok {c : Int} (hc : 0 < c) : ∀ {l : List Int}, (∀ x ∈ l, 0 ≤ x ∧ x < c) → (0 ≤ smF c l ∧ smF c l < 2 ^ c.toNat) ∧ ∀ k, 0 ≤ k → k < c → (hb (smF c l) k = true ↔ anyB c l k) := by
  intro l
  refine rev_ind (P := fun l => (∀ x ∈ l, 0 ≤ x ∧ x < c) → (0 ≤ smF c l ∧ smF c l < 2 ^ c.toNat) ∧ ∀ k, 0 ≤ k → k < c → (hb (smF c l) k = true ↔ anyB c l k)) ?_ (fun l x ih => ?_) l
  · intro _
    have e : (2 : Int) ^ c.toNat = ((2 ^ c.toNat : Nat) : Int) := by rw [Int.natCast_pow]; rfl
    have : 0 < 2 ^ c.toNat := Nat.two_pow_pos _
    refine ⟨by show 0 ≤ (0 : Int) ∧ (0 : Int) < _; rw [e]; omega, fun k h1 _ => ?_⟩
    show hb 0 k = true ↔ _
    rw [hb_zero h1]
    refine ⟨fun z => (nomatch z), fun ⟨s, h2, h3⟩ => ?_⟩
    have := cB_len h3
    simp at this
    omega
  · intro h
    have hx := h x (List.mem_append_right _ List.mem_cons_self)
    obtain ⟨b, q⟩ := ih fun y hy => h y (List.mem_append_left _ hy)
    have b2 := mvM_bound (c := c) (m := smF c l) (x := x) (by omega) b.1 ⟨hx.1, by omega⟩
    have b3 := pow_lt hx
    have b4 := bor_bound b b2
    rw [smF_app]
    refine ⟨bor_bound b4 b3, fun k h1 h2 => ?_⟩
    have hs := sb_in (k := k) (x := x) hc
    rw [hb_bor b4.1 b3.1 h1, hb_bor b.1 b2.1 h1, hb_mvM b hx ⟨h1, h2⟩, hb_pow hx.1 h1, Bool.or_eq_true, Bool.or_eq_true, decide_eq_true_eq, q k h1 h2]
    show (_ ∨ hb (smF c l) (sb c k x) = true) ∨ _ ↔ _
    rw [q _ hs.1 hs.2]
    unfold anyB
    constructor
    · rintro ((⟨s, h3, h4⟩ | ⟨s, h3, h4⟩) | rfl)
      · exact ⟨s, h3, by rw [cB_snoc hc h1 h2, h4]; rfl⟩
      · exact ⟨s + 1, by omega, by rw [cB_snoc hc h1 h2, Nat.add_sub_cancel, h4, decide_eq_true (by omega)]; simp⟩
      · refine ⟨1, by omega, ?_⟩
        rw [cB_snoc hc h1 h2, cB_zero]
        have : sb c k k = 0 := by unfold sb; simp
        rw [this]
        simp
    · rintro ⟨s, h3, h4⟩
      rw [cB_snoc hc h1 h2, Bool.or_eq_true, Bool.and_eq_true] at h4
      rcases h4 with h4 | ⟨_, h4⟩
      · exact .inl (.inl ⟨s, h3, h4⟩)
      · by_cases s1 : s = 1
        · subst s1
          rw [Nat.sub_self, cB_zero, decide_eq_true_eq] at h4
          refine .inr ?_
          unfold sb at h4
          have := Int.emod_eq_emod_iff_emod_sub_eq_zero (m := k) (n := c) (k := x) |>.mpr h4
          rw [Int.emod_eq_of_lt h1 h2, Int.emod_eq_of_lt hx.1 hx.2] at this
          exact this
        · exact .inl (.inr ⟨s - 1, by omega, h4⟩)
/-! ### tables as data -/
def okR (c : Int) (ns : List Int) : Prop := (2 ≤ c ∧ c ≤ 24) ∧ ns.length ≤ 24 ∧ ∀ n ∈ ns, 0 ≤ n ∧ n < c
def nO : Option Nat → D
  | none => .non
  | some n => .int (n : Int)
def natD (n : Nat) : D := .int (n : Int)
def tabD (c : Int) (t : List Int) : D := .lst ((zr 0 c.toNat).map fun k => nO (fw (sb c) t k))
def jbD (c : Int) (m : Nat) (t : List Int) : D := .lst ((List.range (m + 1)).map fun s => .int (mk c t s))
def caR (c : Int) (t : List Int) (s : Nat) : D := .lst ((zr 0 c.toNat).map fun k => .bl (cB (sb c) t s k))
def caD (c : Int) (t : List Int) : D := .lst ((List.range (t.length + 1)).map (caR c t))
def ftD (c : Int) (ns : List Int) (k : Int) : D := match fw (sb c) ns k with
  | none => .non
  | some f => .tup ((gr (sb c) ns 0 f k).map natD)
theorem dEq_nO {o : Option Nat} {j : Int} {Q : D → Prop} : dEq (nO o) (.int j) Q = Q (.bl (match o with | none => false | some n => (n : Int) == j)) := by
  cases o with
  | none =>
    show ((pln .non = true ∧ pln (.int j) = true ∧ dpt .non ≤ 60 ∧ dpt (.int j) ≤ 60) ∧ Q (.bl (deq .non (.int j)))) = _
    have : deq .non (.int j) = false := by simp only [deq]
    rw [this]
    simp [pln, dpt]
  | some n => exact dEq_int
theorem tab_at {c k : Int} {t : List Int} (h : 0 ≤ k ∧ k < c) : atI ((zr 0 c.toNat).map fun k => nO (fw (sb c) t k)) k = some (nO (fw (sb c) t k)) := gZ ⟨h.1, by omega⟩
theorem mem_in {c x : Int} {ns : List Int} {i : Nat} (ok : okR c ns) (h : ns[i]? = some x) : 0 ≤ x ∧ x < c := ok.2.2 x (List.mem_of_getElem? h)
theorem drop_in {c : Int} {ns : List Int} (ok : okR c ns) (i : Nat) : ∀ x ∈ ns.drop i, 0 ≤ x ∧ x < c := fun x hx => ok.2.2 x (List.mem_of_mem_drop hx)
theorem whole_all {c : Int} {ns : List Int} (hc : 0 < c) : cB (sb c) ns ns.length (ns.sum % c) = true := by
  have := cB_dual (c := c) hc (l := ns) (s := 0) (k := 0) (Nat.zero_le _) (Int.le_refl _) hc
  rw [cB_zero, Nat.sub_zero, Int.sub_zero] at this
  rw [← this]; rfl
/-- a loop of so many turns -/
theorem wh_go {c : WT'} {b : WS} {N : En} (I : Nat → EnvS → Prop) (hs : ∀ n ρ, I (n + 1) ρ → ∀ (M : EnvS → Prop) (F : Prop), (∀ ρ', I n ρ' → M ρ') → c (frzE ρ) N.ex fun k => match k with
      | true => b ρ { N with nx := M, ct := M, bk := N.nx }
      | false => F) (he : ∀ ρ, I 0 ρ → ∀ T : Prop, c (frzE ρ) N.ex fun k => match k with
      | true => T
      | false => N.nx ρ) : ∀ {n : Nat} {ρ : EnvS}, I n ρ → wWhN c b (n + 1) ρ N
  | 0, ρ, h => he ρ h _
  | n + 1, ρ, h => hs n ρ h _ _ fun ρ' h' => wh_go I hs he h'
theorem gL {α β : Type} {f : α → β} {l : List α} {i : Int} {x : α} (h : 0 ≤ i) (hx : l[i.toNat]? = some x) : atI (l.map f) i = some (f x) := by
  have hl := (List.getElem?_eq_some_iff.mp hx).1
  unfold atI ixN
  rw [if_pos h, List.length_map, if_pos (by omega)]
  simp only [Option.bind_some, List.getElem?_map]
  rw [hx]; rfl
theorem nO_dec {o : Option Nat} {j : Int} (hj : 0 ≤ j) : (match o with | none => false | some n => (n : Int) == j) = decide (o = some j.toNat) := by
  cases o with
  | none => simp
  | some n =>
    rw [Bool.eq_iff_iff]
    simp only [beq_iff_eq, decide_eq_true_eq, Option.some.injEq]
    omega
theorem zr_at {lo : Int} {n i : Nat} : (zr lo n)[i]? = if i < n then some (lo + (i : Int)) else none := by
  unfold zr
  rw [List.getElem?_map]
  by_cases h : i < n
  · rw [List.getElem?_range h, if_pos h]; rfl
  · rw [List.getElem?_eq_none (by simpa using h), if_neg h]; rfl
theorem zr_split {lo : Int} {n m : Nat} (h : m < n) : zr lo n = zr lo m ++ (lo + m) :: zr (lo + m + 1) (n - m - 1) := by
  apply List.ext_getElem?
  intro i
  rw [zr_at]
  by_cases hi : i < m
  · rw [List.getElem?_append_left (by rw [zr_len]; exact hi), zr_at, if_pos hi, if_pos (by omega)]
  · rw [List.getElem?_append_right (by rw [zr_len]; omega), zr_len]
    by_cases e : i = m
    · subst e
      rw [Nat.sub_self, if_pos h]; rfl
    · obtain ⟨q, rfl⟩ : ∃ q, i = m + q + 1 := ⟨i - m - 1, by omega⟩
      rw [show m + q + 1 - m = q + 1 from by omega, List.getElem?_cons_succ, zr_at]
      by_cases h3 : m + q + 1 < n
      · rw [if_pos h3, if_pos (by omega)]
        congr 1; omega
      · rw [if_neg h3, if_neg (by omega)]
theorem zr_first {lo : Int} {n m : Nat} {c : Int → Bool} (h : m < n) (h0 : ∀ k, lo ≤ k → k < lo + m → c k = false) (h1 : c (lo + m) = true) : ∃ r, (zr lo n).filter c = (lo + m) :: r := by
  rw [zr_split h, List.filter_append]
  have : (zr lo m).filter c = [] := by
    rw [List.filter_eq_nil_iff]
    intro k hk
    obtain ⟨k1, k2⟩ := mem_zr.mp hk
    rw [h0 k k1 k2]
    exact Bool.false_ne_true
  rw [this, List.nil_append, List.filter_cons, h1]
  exact ⟨_, rfl⟩
theorem atI_head {α : Type} {x : α} {l : List α} : atI (x :: l) 0 = some x := by
  unfold atI ixN
  rw [if_pos (by omega), if_pos (by rw [List.length_cons]; omega)]
  rfl
theorem tab_init {c : Int} (hc : 2 ≤ c) : D.lst (.int 0 :: List.replicate (c - 1).toNat .non) = tabD c [] := by
  unfold tabD
  rw [show c.toNat = (c - 1).toNat + 1 from by omega, ← init_zr (a := D.int 0) (b := D.non) (m := (c - 1).toNat)]
  congr 1
  apply List.map_congr_left
  intro k _
  unfold fw
  split <;> rfl
theorem caR_init {c : Int} (hc : 2 ≤ c) : D.lst (.bl true :: List.replicate (c - 1).toNat (.bl false)) = caR c [] 0 := by
  unfold caR
  rw [show c.toNat = (c - 1).toNat + 1 from by omega, ← init_zr (a := D.bl true) (b := D.bl false) (m := (c - 1).toNat)]
  congr 1
  apply List.map_congr_left
  intro k _
  unfold cB
  split <;> simp [*]
theorem jb_init {c : Int} {m : Nat} : D.lst (.int 1 :: List.replicate m (.int 0)) = jbD c m [] := by
  unfold jbD
  rw [List.range_succ_eq_map, List.map_cons, List.map_map]
  congr 1
  congr 1
  apply List.ext_getElem
  · simp
  · intro i h1 h2
    simp [mk]
/-- the last of the tables -/
theorem tls_last {β : Type} {f : List Int → β} {t : List Int} : atI ((tls t).reverse.map f) (-1) = some (f t) := by
  obtain ⟨r, hr⟩ := tls_cons t
  rw [hr, List.reverse_cons, List.map_append, List.map_singleton, atI_last]
theorem tls_snoc {β : Type} {f : List Int → β} {x : Int} {t : List Int} : (tls (x :: t)).reverse.map f = (tls t).reverse.map f ++ [f (x :: t)] := by
  show ((x :: t) :: tls t).reverse.map f = _
  rw [List.reverse_cons, List.map_append, List.map_singleton]
theorem ca_false {c : Int} {t : List Int} {s : Nat} (h : t.length < s) : caR c t s = .lst (List.replicate c.toNat (.bl false)) := by
  unfold caR
  congr 1
  apply List.ext_getElem
  · simp [zr_len]
  · intro i h1 h2
    rw [List.getElem_map, List.getElem_replicate]
    congr 1
    cases e : cB (sb c) t s _ with
    | false => rfl
    | true => have := cB_len e; omega
theorem ca_at {c k : Int} {t : List Int} {s : Nat} (h : 0 ≤ k ∧ k < c) : atI ((zr 0 c.toNat).map fun k => D.bl (cB (sb c) t s k)) k = some (.bl (cB (sb c) t s k)) := gZ ⟨h.1, by omega⟩
theorem drop_at {α : Type} {ns p t : List α} {x : α} {i : Nat} (h : ns.drop i = p ++ x :: t) : ns[i + p.length]? = some x ∧ ns.drop (i + p.length + 1) = t ∧ i + p.length < ns.length := by
  have h1 : ns[i + p.length]? = some x := by
    rw [← List.getElem?_drop, h, List.getElem?_append_right (Nat.le_refl _), Nat.sub_self]; rfl
  refine ⟨h1, ?_, (List.getElem?_eq_some_iff.mp h1).1⟩
  have : (ns.drop i).drop (p.length + 1) = t := by
    rw [h, ← List.drop_drop, List.drop_left]; rfl
  rw [List.drop_drop] at this
  exact this
theorem pre_at {α : Type} {ns : List α} {i j : Nat} (h1 : i ≤ j) (h2 : j < ns.length) : ∃ q y, ns.drop i = q ++ y :: ns.drop (j + 1) ∧ q.length = j - i ∧ ns[j]? = some y := by
  refine ⟨(ns.drop i).take (j - i), ns[j], ?_, ?_, List.getElem?_eq_getElem h2⟩
  · have := List.take_append_drop (j - i) (ns.drop i)
    rw [List.drop_drop, show i + (j - i) = j from by omega, List.drop_eq_getElem_cons h2] at this
    exact this.symm
  · rw [List.length_take, List.length_drop]; omega
theorem rngF_get {f : Nat → Int} {n k : Nat} {d : D} (h : (rngF f n)[k]? = some d) : k < n ∧ d = .int (f k) := by
  unfold rngF at h
  rw [List.getElem?_map] at h
  obtain ⟨j, hj, rfl⟩ := Option.map_eq_some_iff.mp h
  obtain ⟨h1, h2⟩ := List.getElem?_eq_some_iff.mp hj
  rw [List.length_range] at h1
  rw [List.getElem_range] at h2
  exact ⟨h1, by rw [h2]⟩
theorem rngF_len {f : Nat → Int} {n : Nat} : (rngF f n).length = n := by unfold rngF; rw [List.length_map, List.length_range]
theorem jb_row {c x : Int} {t : List Int} {m : Nat} : D.lst (.int (mk c t 0) :: (zr 1 m).map (fun s => .int (Builtin.bitOr (mk c t s.toNat) (mvM c (mk c t (s - 1).toNat) x)))) = jbD c m (x :: t) := by
  unfold jbD zr
  rw [List.range_succ_eq_map, List.map_cons, List.map_map, List.map_map]
  congr 1
  congr 1
  apply List.map_congr_left
  intro s _
  simp only [Function.comp]
  rw [show (1 + (s : Int)).toNat = s + 1 from by omega, show (1 + (s : Int) - 1).toNat = s from by omega]
  rfl
theorem ix_ca {c k : Int} {t : List Int} {s : Nat} {Q : D → Prop} (h : 0 ≤ k ∧ k < c) : dIx (caR c t s) (.int k) Q = Q (.bl (cB (sb c) t s k)) := by
  unfold caR
  show (match atI _ k with | some d => Q d | none => False) = _
  rw [ca_at h]
theorem ix_rep {k : Int} {n : Nat} {d : D} {Q : D → Prop} (h : 0 ≤ k ∧ k < n) : dIx (.lst (List.replicate n d)) (.int k) Q = Q d := by
  show (match atI _ k with | some d => Q d | none => False) = _
  have : atI (List.replicate n d) k = some d := by
    unfold atI ixN
    rw [if_pos h.1, List.length_replicate, if_pos h.2]
    simp only [Option.bind_some]
    rw [List.getElem?_replicate, if_pos (by omega)]
  rw [this]
theorem p24 {c : Int} (h : c ≤ 24) : (2 : Int) ^ c.toNat ≤ 2 ^ 24 := by
  have := Nat.pow_le_pow_right (n := 2) (by omega) (show c.toNat ≤ 24 by omega)
  have e : (2 : Int) ^ c.toNat = ((2 ^ c.toNat : Nat) : Int) := by rw [Int.natCast_pow]; rfl
  rw [e]; exact Int.ofNat_le.mpr this
end L2.TH
namespace L2.TH
open PySem L2 L2.DL
theorem srt_uq : ∀ {a b : List Int}, a.Perm b → a.Pairwise (· ≤ ·) → b.Pairwise (· ≤ ·) → a = b := by
  intro a
  induction a with
  | nil => intro b h _ _; exact (List.nil_perm.mp h).symm
  | cons x t ih =>
    intro b h h1 h2
    cases b with
    | nil => exact absurd h.symm (List.not_perm_nil_cons _ _)
    | cons y s =>
      have e : x = y := by
        have m1 : x ∈ y :: s := h.mem_iff.mp List.mem_cons_self
        have m2 : y ∈ x :: t := h.symm.mem_iff.mp List.mem_cons_self
        have p1 := List.pairwise_cons.mp h1
        have p2 := List.pairwise_cons.mp h2
        rcases List.mem_cons.mp m1 with rfl | m1
        · rfl
        · rcases List.mem_cons.mp m2 with rfl | m2
          · rfl
          · have := p1.1 _ m2
            have := p2.1 _ m1
            omega
      subst e
      rw [ih (List.Perm.cons_inv h) (List.pairwise_cons.mp h1).2 (List.pairwise_cons.mp h2).2]
/-- in order -/
def srt (l : List Int) : List Int := l.mergeSort (fun a b => decide (a ≤ b))
theorem srt_perm (l : List Int) : (srt l).Perm l := List.mergeSort_perm _ _
theorem srt_pw (l : List Int) : (srt l).Pairwise (· ≤ ·) := by
  have := List.pairwise_mergeSort (le := fun a b : Int => decide (a ≤ b)) (by intro a b c; simp; omega) (by intro a b; simp; omega) l
  exact this.imp fun h => of_decide_eq_true h
theorem srt_uniq {l ns : List Int} (h1 : ns.Perm l) (h2 : ns.Pairwise (· ≤ ·)) : ns = srt l := srt_uq (h1.trans (srt_perm l).symm) h2 (srt_pw l)
theorem srt_congr {a b : List Int} (h : a.Perm b) : srt a = srt b := srt_uniq ((srt_perm a).trans h) (srt_pw a)
/-- how many picks come to k -/
def tk (c : Int) (ns : List Int) (k : Int) : Int := gI (tyF c ns) k
theorem gI_zr {f : Int → Int} {n : Nat} {k : Int} (h : 0 ≤ k ∧ k < n) : gI ((zr 0 n).map f) k = f k := by
  unfold gI zr
  rw [List.getD_eq_getElem?_getD, List.getElem?_map, List.getElem?_map, List.getElem?_range (by omega)]
  simp only [Option.map_some, Option.getD_some]
  congr 1; omega
theorem tk_snoc {c x k : Int} {ns : List Int} (h : 0 ≤ k ∧ k < c) : tk c (ns ++ [x]) k = tk c ns k + tk c ns (sb c k x) := by
  unfold tk
  rw [tyF_app]
  exact gI_zr (f := fun k => gI (tyF c ns) k + gI (tyF c ns) ((k - x) % c)) ⟨h.1, by omega⟩
theorem tk_nil {c k : Int} (h : 0 ≤ k ∧ k < c) : tk c [] k = if k = 0 then 1 else 0 := by
  unfold tk gI
  show (1 :: List.replicate (c - 1).toNat (0 : Int)).getD k.toNat 0 = _
  by_cases h0 : k = 0
  · subst h0; rfl
  · rw [if_neg h0]
    obtain ⟨m, hm⟩ : ∃ m, k.toNat = m + 1 := ⟨k.toNat - 1, by omega⟩
    rw [hm, List.getD_cons_succ, List.getD_eq_getElem?_getD, List.getElem?_replicate]
    split <;> rfl
theorem sb_comm {c k x y : Int} : sb c (sb c k x) y = sb c (sb c k y) x := by
  unfold sb
  rw [Int.emod_sub_emod, Int.emod_sub_emod]
  congr 1; omega
theorem tk_mid {c x : Int} {p : List Int} (hc : 0 < c) : ∀ (s : List Int) {k : Int}, 0 ≤ k ∧ k < c → tk c (p ++ x :: s) k = tk c (p ++ s) k + tk c (p ++ s) (sb c k x) := by
  refine rev_ind ?_ ?_
  · intro k h
    rw [List.append_nil]
    exact tk_snoc h
  · intro s y ih k h
    rw [show p ++ x :: (s ++ [y]) = (p ++ x :: s) ++ [y] from by simp, ← List.append_assoc, tk_snoc h, tk_snoc h, tk_snoc (sb_in hc), ih h, ih (sb_in hc), sb_comm (x := x) (y := y)]
    omega
theorem tk_low {c : Int} (hc : 0 < c) : ∀ (ns : List Int) {k : Int}, 0 ≤ k ∧ k < c → (if k = 0 then 1 else 0) ≤ tk c ns k := by
  refine rev_ind ?_ ?_
  · intro k h; rw [tk_nil h]; exact Int.le_refl _
  · intro s y ih k h
    rw [tk_snoc h]
    have h1 := ih h
    have h2 := ih (sb_in (k := k) (x := y) hc)
    split at h1 <;> split at h2 <;> omega
theorem sb_zero {c k x : Int} (h : 0 ≤ k ∧ k < c) (hx : 0 ≤ x ∧ x < c) : sb c k x = 0 ↔ k = x := by
  unfold sb
  rw [← Int.emod_eq_emod_iff_emod_sub_eq_zero, Int.emod_eq_of_lt h.1 h.2, Int.emod_eq_of_lt hx.1 hx.2]
/-- marks tell where picks come -/
theorem sm_tk {c : Int} (hc : 0 < c) : ∀ (l : List Int), (∀ x ∈ l, 0 ≤ x ∧ x < c) → ∀ k, 0 ≤ k → k < c → (hb (smF c l) k = true ↔ (if k = 0 then 1 else 0) < tk c l k) := by
  refine rev_ind ?_ (fun l x ih => ?_)
  · intro _ k h1 h2
    rw [tk_nil ⟨h1, h2⟩]
    show hb 0 k = true ↔ _
    rw [hb_zero h1]
    exact ⟨fun z => (nomatch z), fun z => absurd z (Int.lt_irrefl _)⟩
  · intro h k h1 h2
    have hx := h x (List.mem_append_right _ List.mem_cons_self)
    have hl : ∀ y ∈ l, 0 ≤ y ∧ y < c := fun y hy => h y (List.mem_append_left _ hy)
    have b := (smF_ok hc hl).1
    have b2 := mvM_bound (c := c) (m := smF c l) (x := x) (by omega) b.1 ⟨hx.1, by omega⟩
    have b3 := pow_lt hx
    have b4 := bor_bound b b2
    have hs := sb_in (k := k) (x := x) hc
    rw [smF_app, hb_bor b4.1 b3.1 h1, hb_bor b.1 b2.1 h1, hb_mvM b hx ⟨h1, h2⟩, hb_pow hx.1 h1, Bool.or_eq_true, Bool.or_eq_true, decide_eq_true_eq, ih hl k h1 h2, tk_snoc ⟨h1, h2⟩]
    show (_ ∨ hb (smF c l) (sb c k x) = true) ∨ _ ↔ _
    rw [ih hl _ hs.1 hs.2]
    have l1 := tk_low hc l ⟨h1, h2⟩
    have l2 := tk_low hc l hs
    have z := sb_zero ⟨h1, h2⟩ hx
    by_cases e : sb c k x = 0
    · rw [if_pos e] at l2 ⊢
      have := z.mp e
      have : 0 < tk c l (sb c k x) := by omega
      refine ⟨fun _ => by omega, fun _ => by right; assumption⟩
    · rw [if_neg e] at l2 ⊢
      have : k ≠ x := fun q => e (z.mpr q)
      refine ⟨fun q => ?_, fun q => ?_⟩
      · rcases q with (q | q) | q <;> omega
      · by_cases q2 : 0 < tk c l (sb c k x)
        · exact .inl (.inr q2)
        · exact .inl (.inl (by omega))
/-- the mark of what picks come to, the empty one too -/
def rcF (c : Int) (l : List Int) : Int := l.foldl (fun f x => Builtin.bitOr f (mvM c f x)) 1
theorem rcF_app {c x : Int} {l : List Int} : rcF c (l ++ [x]) = Builtin.bitOr (rcF c l) (mvM c (rcF c l) x) := by unfold rcF; rw [List.foldl_append]; rfl
theorem rc_tk {c : Int} (hc : 0 < c) : ∀ (l : List Int), (∀ x ∈ l, 0 ≤ x ∧ x < c) → (0 ≤ rcF c l ∧ rcF c l < 2 ^ c.toNat) ∧ ∀ k, 0 ≤ k → k < c → (hb (rcF c l) k = true ↔ 0 < tk c l k) := by
  refine rev_ind ?_ (fun l x ih => ?_)
  · intro _
    have p := pow_lt (c := c) (x := 0) ⟨by omega, hc⟩
    refine ⟨p, fun k h1 h2 => ?_⟩
    rw [tk_nil ⟨h1, h2⟩]
    show hb (1 * 2 ^ (0 : Int).toNat) k = true ↔ _
    rw [hb_pow (by omega) h1, decide_eq_true_eq]
    by_cases e : k = 0
    · rw [if_pos e]; exact ⟨fun _ => by decide, fun _ => e⟩
    · rw [if_neg e]; exact ⟨fun q => absurd q e, fun q => absurd q (Int.lt_irrefl _)⟩
  · intro h
    have hx := h x (List.mem_append_right _ List.mem_cons_self)
    have hl : ∀ y ∈ l, 0 ≤ y ∧ y < c := fun y hy => h y (List.mem_append_left _ hy)
    obtain ⟨b, ih⟩ := ih hl
    have b2 := mvM_bound (c := c) (m := rcF c l) (x := x) (by omega) b.1 ⟨hx.1, by omega⟩
    rw [rcF_app]
    refine ⟨bor_bound b b2, fun k h1 h2 => ?_⟩
    have hs := sb_in (k := k) (x := x) hc
    rw [hb_bor b.1 b2.1 h1, hb_mvM b hx ⟨h1, h2⟩, Bool.or_eq_true, ih k h1 h2, tk_snoc ⟨h1, h2⟩]
    show _ ∨ hb (rcF c l) (sb c k x) = true ↔ _
    rw [ih _ hs.1 hs.2]
    have l1 := tk_low hc l ⟨h1, h2⟩
    have l2 := tk_low hc l hs
    have m1 : 0 ≤ tk c l k := by split at l1 <;> omega
    have m2 : 0 ≤ tk c l (sb c k x) := by split at l2 <;> omega
    refine ⟨fun q => ?_, fun q => ?_⟩
    · rcases q with q | q <;> omega
    · by_cases q2 : 0 < tk c l k
      · exact .inl q2
      · exact .inr (by omega)
theorem tk_high {c : Int} (hc : 0 < c) : ∀ (ns : List Int) {k : Int}, 0 ≤ k ∧ k < c → tk c ns k ≤ ((2 ^ ns.length : Nat) : Int) := by
  refine rev_ind ?_ ?_
  · intro k h; rw [tk_nil h]; split <;> decide
  · intro s y ih k h
    rw [tk_snoc h, List.length_append, List.length_singleton, Nat.pow_succ]
    have h1 := ih h
    have h2 := ih (sb_in (k := k) (x := y) hc)
    omega
theorem smD_tk {c : Int} (hc : 0 < c) {ns : List Int} (hl : ns.length ≤ 30) {k : Int} (h : 0 ≤ k ∧ k < c) : -999999999999 ≤ tk c ns k ∧ tk c ns k ≤ 999999999999 := by
  have h1 := tk_high hc ns h
  have h2 := tk_low hc ns h
  have h3 := Nat.pow_le_pow_right (n := 2) (by omega) hl
  have h4 : (2 : Nat) ^ 30 ≤ 999999999999 := by decide
  refine ⟨by split at h2 <;> omega, by omega⟩
/-- the others -/
def oth (ns : List Int) (i : Nat) : List Int := ns.take i ++ ns.drop (i + 1)
theorem oth_at {ns : List Int} {i : Nat} {x : Int} (h : ns[i]? = some x) : ns = ns.take i ++ x :: ns.drop (i + 1) := by
  obtain ⟨h1, h2⟩ := List.getElem?_eq_some_iff.mp h
  rw [← h2, ← List.drop_eq_getElem_cons h1, List.take_append_drop]
theorem oth_mem {ns : List Int} {i : Nat} {y : Int} (h : y ∈ oth ns i) : y ∈ ns := by
  rcases List.mem_append.mp h with h | h
  · exact List.mem_of_mem_take h
  · exact List.mem_of_mem_drop h
theorem oth_len {ns : List Int} {i : Nat} (h : i < ns.length) : (oth ns i).length + 1 = ns.length := by
  unfold oth
  rw [List.length_append, List.length_take, List.length_drop]
  omega
theorem opp_sb {c x : Int} : (c - x) % c = sb c 0 x := by
  unfold sb
  rw [show c - x = (0 - x) + c from by omega, Int.add_emod_right]
theorem tk_oth {c k x : Int} {ns : List Int} {i : Nat} (hc : 0 < c) (hi : ns[i]? = some x) (h : 0 ≤ k ∧ k < c) : tk c ns k = tk c (oth ns i) k + tk c (oth ns i) (sb c k x) := by
  have := tk_mid (c := c) (x := x) (p := ns.take i) hc (ns.drop (i + 1)) h
  rw [← oth_at hi] at this
  exact this
/-- each pick that comes to nought has the index -/
def nd (c : Int) (ns : List Int) (i : Nat) : Bool := hb (smF c ns) 0 && !hb (smF c (oth ns i)) 0
/-- how many have it -/
def thN (c : Int) (ns : List Int) (i : Nat) : Int := tk c (oth ns i) (sb c 0 (gI ns (i : Int)))
theorem gI_at {ns : List Int} {i : Nat} {x : Int} (h : ns[i]? = some x) : gI ns (i : Int) = x := by
  unfold gI
  rw [List.getD_eq_getElem?_getD, show ((i : Int)).toNat = i from by omega, h]; rfl
theorem nd_eq {c : Int} {ns : List Int} {i : Nat} (hc : 0 < c) (hi : i < ns.length) (hb' : ∀ x ∈ ns, 0 ≤ x ∧ x < c) : nd c ns i = (decide (0 < tk c ns 0 - 1) && decide (thN c ns i = tk c ns 0 - 1)) := by
  have h0 : (0 : Int) ≤ 0 ∧ (0 : Int) < c := ⟨by omega, hc⟩
  have hx : ns[i]? = some ns[i] := List.getElem?_eq_getElem hi
  have s1 := sm_tk hc ns hb' 0 h0.1 h0.2
  have s2 := sm_tk hc (oth ns i) (fun y hy => hb' y (oth_mem hy)) 0 h0.1 h0.2
  have l2 := tk_low hc (oth ns i) h0
  have e := tk_oth hc hx h0
  rw [if_pos rfl] at s1 s2 l2
  unfold nd thN
  rw [gI_at hx]
  rw [Bool.eq_iff_iff, Bool.and_eq_true, Bool.and_eq_true, s1, Bool.not_eq_true', ← Bool.not_eq_true, s2, decide_eq_true_eq, decide_eq_true_eq]
  omega
/-- an index of the others, as one of the row -/
def bk (i : Nat) (j : Nat) : Int := if (j : Int) < (i : Int) then (j : Int) else (j : Int) + 1
theorem oth_ok {c : Int} {ns : List Int} {i : Nat} (ok : okR c ns) (hi : i < ns.length) : okR c (oth ns i) := ⟨ok.1, by have := oth_len hi; have := ok.2.1; omega, fun y hy => ok.2.2 y (oth_mem hy)⟩
/-- the hour that is due -/
def dueI (c : Int) (ns : List Int) (i : Nat) : Int := sb c 0 (gI ns (i : Int))
/-- the first pick through an index -/
def thD (c : Int) (ns : List Int) (i : Nat) : D := match fw (sb c) (oth ns i) (dueI c ns i) with
  | none => .non
  | some f => .tup ((srt ((i : Int) :: (gr (sb c) (oth ns i) 0 f (dueI c ns i)).map (bk i))).map .int)
theorem dNe_bl {a b : Bool} {Q : D → Prop} : dNe (.bl a) (.bl b) Q ↔ Q (.bl (!(a == b))) := ⟨fun h => h.2, fun h => ⟨⟨rfl, rfl, Nat.zero_le _, Nat.zero_le _⟩, h⟩⟩
theorem dEq_bl {a b : Bool} {Q : D → Prop} : dEq (.bl a) (.bl b) Q ↔ Q (.bl (a == b)) := ⟨fun h => h.2, fun h => ⟨⟨rfl, rfl, Nat.zero_le _, Nat.zero_le _⟩, h⟩⟩
theorem hd_set {b : WS} {ρ : EnvS} {N : En} (i : Nat) (s : Sl) (h : ρ[i]? = some s) (q : Hd b (ρ.set i s) N) : Hd b ρ N := by
  obtain ⟨h1, h2⟩ := List.getElem?_eq_some_iff.mp h
  rw [← h2, List.set_getElem_self] at q
  exact q
/-! ### small data -/
def smD (d : D) : Prop := sm d = true ∧ dpt d ≤ 8 ∧ wt d ≤ 4000
theorem smD_repr {l : List D} (h : ∀ d ∈ l, smD d) (hl : l.length ≤ 100) : reprOk (.lst l) := by
  refine reprOk_of ?_ ?_ ?_
  · simp only [sm]; exact sms_all' fun x hx => (h x hx).1
  · have := dpts_all (xs := l) fun x hx => (h x hx).2.1
    simp only [dpt]; omega
  · have := wts_all (xs := l) fun x hx => (h x hx).2.2
    have e : (4000 + 1) * l.length ≤ (4000 + 1) * 100 := Nat.mul_le_mul_left _ hl
    simp only [wt]; omega
theorem smD_non : smD .non := ⟨rfl, by simp [dpt], by simp [wt]⟩
theorem smD_bl {b : Bool} : smD (.bl b) := ⟨rfl, by simp [dpt], by simp [wt]⟩
theorem smD_int {n : Int} (h : -999999999999 ≤ n ∧ n ≤ 999999999999) : smD (.int n) := ⟨by simp only [sm, decide_eq_true_eq]; exact h, by simp [dpt], by simp [wt]⟩
theorem smD_nat {n : Nat} (h : n ≤ 999999999999) : smD (natD n) := smD_int ⟨by omega, by omega⟩
theorem smD_ints {l : List Int} (h : ∀ n ∈ l, -999999999999 ≤ n ∧ n ≤ 999999999999) (hl : l.length ≤ 90) : smD (.tup (l.map .int)) :=
  ⟨by simp only [sm]; exact sms_ints h, by simp only [dpt, dpts_ints]; omega, by simp only [wt, wts_ints]; omega⟩
theorem natD_map {l : List Nat} : l.map natD = (l.map fun n : Nat => (n : Int)).map .int := by rw [List.map_map]; rfl
theorem smD_nats {l : List Nat} (h : ∀ n ∈ l, n ≤ 999999999999) (hl : l.length ≤ 90) : smD (.tup (l.map natD)) := by
  rw [natD_map]
  refine smD_ints (fun n hn => ?_) (by rw [List.length_map]; exact hl)
  obtain ⟨m, hm, rfl⟩ := List.mem_map.mp hn
  have := h m hm
  omega
theorem smD_gr {α : Type} {sub : Int → α → Int} {l : List α} {i s : Nat} {k : Int} (h : cB sub l s k = true) (hl : l.length ≤ 90) (hi : i ≤ 1000) : smD (.tup ((gr sub l i s k).map natD)) := by
  refine smD_nats (fun n hn => ?_) (by rw [gr_len h]; have := cB_len h; omega)
  have := gr_lt n hn
  omega
theorem smD_ft {c k : Int} {ns : List Int} (ok : okR c ns) : smD (ftD c ns k) := by
  unfold ftD
  cases e : fw (sb c) ns k with
  | none => exact smD_non
  | some f => exact smD_gr (fw_cB e).1 (by have := ok.2.1; omega) (by omega)
theorem smD_th {c : Int} {ns : List Int} {i : Nat} (ok : okR c ns) (hi : i < ns.length) : smD (thD c ns i) := by
  unfold thD
  have ok2 := oth_ok ok hi
  have hl := ok.2.1
  cases e : fw (sb c) (oth ns i) (dueI c ns i) with
  | none => exact smD_non
  | some f =>
    have h1 := (fw_cB e).1
    have hp := srt_perm ((i : Int) :: (gr (sb c) (oth ns i) 0 f (dueI c ns i)).map (bk i))
    refine smD_ints (fun n hn => ?_) ?_
    · rcases List.mem_cons.mp (hp.mem_iff.mp hn) with rfl | hn
      · omega
      · obtain ⟨m, hm, rfl⟩ := List.mem_map.mp hn
        have := gr_lt m hm
        have := ok2.2.1
        unfold bk
        split <;> omega
    · rw [hp.length_eq, List.length_cons, List.length_map, gr_len h1]
      have := cB_len h1
      have := ok2.2.1
      omega
end L2.TH
namespace L2.TH
open PySem L2 L2.DL
def listLt : List Int → List Int → Bool
  | [], [] => false
  | [], _ :: _ => true
  | _ :: _, [] => false
  | x :: xs, y :: ys => if x = y then listLt xs ys else decide (x < y)
def minR (r : List Int) (rs : List (List Int)) : List Int := rs.foldl (fun a y => if listLt y a = true then y else a) r
theorem lt_irr : ∀ a : List Int, listLt a a = false
  | [] => rfl
  | x :: a => by unfold listLt; rw [if_pos rfl, lt_irr a]
theorem lt_tri : ∀ {a b : List Int}, listLt a b = false → listLt b a = false → a = b
  | [], [], _, _ => rfl
  | [], _ :: _, h, _ => by cases h
  | _ :: _, [], _, h => by cases h
  | x :: a, y :: b, h1, h2 => by
    unfold listLt at h1 h2
    by_cases e : x = y
    · subst e
      rw [if_pos rfl] at h1 h2
      rw [lt_tri h1 h2]
    · rw [if_neg e] at h1
      rw [if_neg (fun z => e z.symm)] at h2
      simp only [decide_eq_false_iff_not] at h1 h2
      omega
theorem lt_tr : ∀ {a b c : List Int}, listLt a b = true → listLt b c = true → listLt a c = true
  | [], [], _, h, _ => by cases h
  | [], _ :: _, [], _, h => by cases h
  | [], _ :: _, _ :: _, _, _ => rfl
  | _ :: _, [], _, h, _ => by cases h
  | _ :: _, _ :: _, [], _, h => by cases h
  | x :: a, y :: b, z :: c, h1, h2 => by
    unfold listLt at h1 h2 ⊢
    by_cases e : x = y
    · subst e
      rw [if_pos rfl] at h1
      by_cases f : x = z
      · subst f
        rw [if_pos rfl] at h2 ⊢
        exact lt_tr h1 h2
      · rw [if_neg f] at h2 ⊢
        exact h2
    · rw [if_neg e, decide_eq_true_eq] at h1
      by_cases f : y = z
      · subst f
        rw [if_neg e, decide_eq_true_eq]
        exact h1
      · rw [if_neg f, decide_eq_true_eq] at h2
        rw [if_neg (by omega), decide_eq_true_eq]
        omega
theorem minR_ok : ∀ {rs : List (List Int)} {r : List Int}, minR r rs ∈ r :: rs ∧ ∀ y ∈ r :: rs, listLt y (minR r rs) = false := by
  intro rs
  induction rs with
  | nil =>
    intro r
    refine ⟨List.mem_cons_self, fun y hy => ?_⟩
    rw [List.mem_singleton.mp hy]; exact lt_irr r
  | cons x t ih =>
    intro r
    show minR (if listLt x r = true then x else r) t ∈ _ ∧ _
    obtain ⟨h1, h2⟩ := ih (r := if listLt x r = true then x else r)
    have e : minR r (x :: t) = minR (if listLt x r = true then x else r) t := rfl
    refine ⟨?_, fun y hy => ?_⟩
    · rcases List.mem_cons.mp h1 with h | h
      · rw [h]; split
        · exact List.mem_cons_of_mem _ List.mem_cons_self
        · exact List.mem_cons_self
      · exact List.mem_cons_of_mem _ (List.mem_cons_of_mem _ h)
    · rw [e]
      have h0 := h2 _ List.mem_cons_self
      generalize minR (if listLt x r = true then x else r) t = m at *
      have key : ∀ z w : List Int, listLt z m = false → listLt w z = false → listLt w m = false := fun z w a b => by
        cases c : listLt w m with
        | false => rfl
        | true =>
          cases d : listLt z w with
          | true => rw [lt_tr d c] at a; cases a
          | false => rw [lt_tri b d] at c; rw [c] at a; cases a
      rcases List.mem_cons.mp hy with rfl | hy
      · by_cases c : listLt x y = true
        · rw [if_pos c] at h0
          refine key x y h0 ?_
          cases d : listLt y x with
          | false => rfl
          | true => rw [← lt_irr x]; exact (lt_tr c d).symm
        · rw [if_neg c] at h0; exact h0
      · rcases List.mem_cons.mp hy with rfl | hy
        · by_cases c : listLt y r = true
          · rw [if_pos c] at h0; exact h0
          · rw [if_neg c] at h0
            exact key r y h0 (by simpa using c)
        · exact h2 y (List.mem_cons_of_mem _ hy)
theorem minR_set {r s : List Int} {rs ss : List (List Int)} (h1 : ∀ x ∈ r :: rs, x ∈ s :: ss) (h2 : ∀ x ∈ s :: ss, x ∈ r :: rs) : minR r rs = minR s ss := by
  obtain ⟨a1, a2⟩ := minR_ok (r := r) (rs := rs)
  obtain ⟨b1, b2⟩ := minR_ok (r := s) (rs := ss)
  exact lt_tri (b2 _ (h1 _ a1)) (a2 _ (h2 _ b1))
theorem lt_eq : ∀ a b : List Int, W.listLt a b = listLt a b
  | [], [] => rfl
  | [], _ :: _ => rfl
  | _ :: _, [] => rfl
  | x :: a, y :: b => by
    show (if x = y then W.listLt a b else decide (x < y)) = (if x = y then listLt a b else decide (x < y))
    rw [lt_eq a b]
theorem minR_eq {r : List Int} {rs : List (List Int)} : LM.minR r rs = minR r rs := by
  unfold LM.minR minR
  congr 1
  funext a y
  rw [lt_eq]
/-- the units -/
def uN (c : Int) : List Int := (zr 0 c.toNat).filter fun k => (Int.gcd k c : Int) == 1
def uChk (c : Int) : Bool := (uN c).contains 1 && (uN c).all fun u => ((uN c).all fun v => (uN c).contains (u * v % c)) && (uN c).any fun v => u * v % c == 1
theorem uChk_all : (zr 2 23).all uChk = true := by decide +kernel
theorem uN_in {c u : Int} (hc : 2 ≤ c) (h : u ∈ uN c) : 0 ≤ u ∧ u < c := by
  have := mem_zr.mp (List.mem_filter.mp h).1
  omega
theorem uN_ok {c : Int} (hc : 2 ≤ c ∧ c ≤ 24) : 1 ∈ uN c ∧ ∀ u ∈ uN c, (∀ v ∈ uN c, u * v % c ∈ uN c) ∧ ∃ v ∈ uN c, u * v % c = 1 := by
  have h := List.all_eq_true.mp uChk_all c (mem_zr.mpr (by omega))
  unfold uChk at h
  simp only [Bool.and_eq_true, List.all_eq_true, List.any_eq_true, List.contains_iff_mem, beq_iff_eq] at h
  exact h
theorem em1 {a b c : Int} : a % c * b % c = a * b % c := by rw [Int.mul_emod, Int.emod_emod, ← Int.mul_emod]
theorem em2 {a b c : Int} : a * (b % c) % c = a * b % c := by rw [Int.mul_emod, Int.emod_emod, ← Int.mul_emod]
/-- a row times a unit, rising -/
def tmul (c : Int) (ns : List Int) (u : Int) : List Int := ns.map fun h => h * u % c
def tmF (c : Int) (ns : List Int) (u : Int) : List Int := srt (tmul c ns u)
theorem tmul_tmul {c u v : Int} {ns : List Int} : tmul c (tmul c ns u) v = tmul c ns (u * v % c) := by
  unfold tmul
  rw [List.map_map]
  refine List.map_congr_left fun h _ => ?_
  show (h * u % c) * v % c = h * (u * v % c) % c
  rw [em1, em2, Int.mul_assoc]
theorem tmF_perm {c u : Int} {a b : List Int} (h : a.Perm b) : tmF c a u = tmF c b u := srt_congr (h.map _)
theorem tmF_tmF {c u v : Int} {ns : List Int} : tmF c (tmF c ns u) v = tmF c ns (u * v % c) := by
  rw [show tmF c (tmF c ns u) v = tmF c (tmul c ns u) v from tmF_perm (srt_perm _)]
  show srt (tmul c (tmul c ns u) v) = _
  rw [tmul_tmul]; rfl
theorem tmF_srt {c u : Int} {ns : List Int} : tmF c (srt ns) u = tmF c ns u := tmF_perm (srt_perm _)
theorem tmF_one {c : Int} {ns : List Int} (h : ∀ x ∈ ns, 0 ≤ x ∧ x < c) : tmF c ns 1 = srt ns := by
  unfold tmF tmul
  congr 1
  have : ns.map (fun h => h * 1 % c) = ns.map id := List.map_congr_left fun x hx => by rw [Int.mul_one, Int.emod_eq_of_lt (h x hx).1 (h x hx).2]; rfl
  rw [this, List.map_id]
/-- the least form -/
def mfR (c : Int) (ns : List Int) : List Int := match (uN c).map (tmF c ns) with
  | r :: rs => minR r rs
  | [] => []
def ubR (c : Int) (ns ms : List Int) : List Int := (uN c).filter fun u => decide (tmF c ns u = srt ms)
theorem uN_cons {c : Int} (hc : 2 ≤ c ∧ c ≤ 24) : ∃ u us, uN c = u :: us := by
  cases e : uN c with
  | nil => have := (uN_ok hc).1; rw [e] at this; cases this
  | cons u us => exact ⟨u, us, rfl⟩
theorem mfR_cons {c u : Int} {us ns : List Int} (h : uN c = u :: us) : mfR c ns = minR (tmF c ns u) (us.map (tmF c ns)) := by
  unfold mfR; rw [h]; rfl
theorem alike_iff {c : Int} {ns ms : List Int} (hc : 2 ≤ c ∧ c ≤ 24) (hn : ∀ x ∈ ns, 0 ≤ x ∧ x < c) (hm : ∀ x ∈ ms, 0 ≤ x ∧ x < c) : (∃ u ∈ uN c, tmF c ns u = srt ms) ↔ mfR c ns = mfR c ms := by
  obtain ⟨o1, o2⟩ := uN_ok hc
  obtain ⟨u0, us, e⟩ := uN_cons hc
  have L : ∀ l, tmF c l u0 :: us.map (tmF c l) = (uN c).map (tmF c l) := fun l => by rw [e]; rfl
  rw [mfR_cons e, mfR_cons e]
  constructor
  · rintro ⟨u, hu, h⟩
    refine minR_set (fun x hx => ?_) (fun x hx => ?_)
    · rw [L] at hx ⊢
      obtain ⟨v, hv, rfl⟩ := List.mem_map.mp hx
      obtain ⟨w, hw, ew⟩ := (o2 u hu).2
      refine List.mem_map.mpr ⟨w * v % c, (o2 w hw).1 v hv, ?_⟩
      rw [← tmF_srt, ← h, tmF_tmF, em2, ← Int.mul_assoc, Int.mul_emod, ew]
      have := uN_in hc.1 hv
      rw [show 1 * (v % c) % c = v from by rw [Int.one_mul, Int.emod_emod, Int.emod_eq_of_lt this.1 this.2]]
    · rw [L] at hx ⊢
      obtain ⟨v, hv, rfl⟩ := List.mem_map.mp hx
      refine List.mem_map.mpr ⟨u * v % c, (o2 u hu).1 v hv, ?_⟩
      rw [← tmF_tmF, h, tmF_srt]
  · intro h
    have m1 := (minR_ok (r := tmF c ns u0) (rs := us.map (tmF c ns))).1
    have m2 := (minR_ok (r := tmF c ms u0) (rs := us.map (tmF c ms))).1
    rw [L] at m1 m2
    rw [← h] at m2
    obtain ⟨u, hu, e1⟩ := List.mem_map.mp m1
    obtain ⟨v, hv, e2⟩ := List.mem_map.mp m2
    obtain ⟨w, hw, ew⟩ := (o2 v hv).2
    refine ⟨u * w % c, (o2 u hu).1 w hw, ?_⟩
    rw [← tmF_tmF, e1, ← e2, tmF_tmF, ew, tmF_one hm]
theorem tk_cons {c x k : Int} {l : List Int} (hc : 0 < c) (h : 0 ≤ k ∧ k < c) : tk c (x :: l) k = tk c l k + tk c l (sb c k x) := tk_mid (p := []) hc l h
theorem tk_perm {c : Int} (hc : 0 < c) {a b : List Int} (h : a.Perm b) : ∀ {k : Int}, 0 ≤ k ∧ k < c → tk c a k = tk c b k := by
  induction h with
  | nil => intro k _; rfl
  | cons x _ ih => intro k hk; rw [tk_cons hc hk, tk_cons hc hk, ih hk, ih (sb_in hc)]
  | swap x y l =>
    intro k hk
    rw [tk_cons hc hk, tk_cons hc hk, tk_cons hc hk, tk_cons hc hk, tk_cons hc (sb_in hc), tk_cons hc (sb_in hc), sb_comm]
    omega
  | trans _ _ i1 i2 => intro k hk; rw [i1 hk, i2 hk]
theorem tk_unit {c u w : Int} (hc : 0 < c) (hw : u * w % c = 1) : ∀ (l : List Int) {k : Int}, 0 ≤ k ∧ k < c → tk c (tmul c l u) (k * u % c) = tk c l k
  | [], k, hk => by
    have b := Int.emod_nonneg (k * u) (show c ≠ 0 by omega)
    have b2 := Int.emod_lt_of_pos (k * u) hc
    show tk c [] _ = _
    rw [tk_nil ⟨b, b2⟩, tk_nil hk]
    by_cases e : k = 0
    · subst e
      rw [Int.zero_mul, Int.zero_emod]
    · rw [if_neg e, if_neg]
      intro z
      have : (k * u % c) * w % c = k := by
        rw [em1, Int.mul_assoc, Int.mul_emod, hw, Int.mul_one, Int.emod_emod, Int.emod_eq_of_lt hk.1 hk.2]
      rw [z, Int.zero_mul, Int.zero_emod] at this
      exact e this.symm
  | x :: l, k, hk => by
    have b := Int.emod_nonneg (k * u) (show c ≠ 0 by omega)
    have b2 := Int.emod_lt_of_pos (k * u) hc
    show tk c (x * u % c :: tmul c l u) _ = _
    rw [tk_cons hc ⟨b, b2⟩, tk_cons hc hk, tk_unit hc hw l hk]
    have : sb c (k * u % c) (x * u % c) = sb c k x * u % c := by
      unfold sb
      rw [← Int.sub_emod, em1, Int.sub_mul]
    rw [this, tk_unit hc hw l (sb_in hc)]
theorem free_alike {c u : Int} {ns ms : List Int} (hc : 2 ≤ c ∧ c ≤ 24) (hu : u ∈ uN c) (h : tmF c ns u = srt ms) : tk c ns 0 = tk c ms 0 := by
  have hc0 : 0 < c := by omega
  have h0 : (0 : Int) ≤ 0 ∧ (0 : Int) < c := ⟨by omega, hc0⟩
  obtain ⟨w, _, ew⟩ := ((uN_ok hc).2 u hu).2
  rw [← tk_unit hc0 ew ns h0, Int.zero_mul, Int.zero_emod, ← tk_perm hc0 (srt_perm ms) h0, ← h]
  exact (tk_perm hc0 (srt_perm _) h0).symm

theorem rowsOf_map : ∀ rs : List (List Int), rowsOf (rs.map fun r => D.tup (r.map .int)) = some rs
  | [] => rfl
  | r :: rs => by
    show (match rowOf (.tup (r.map .int)), rowsOf (rs.map fun r => D.tup (r.map .int)) with
      | some r, some rs => some (r :: rs)
      | _, _ => none) = _
    rw [rowsOf_map rs]
    show (match intsOf (r.map .int), some rs with
      | some r, some rs => some (r :: rs)
      | _, _ => none) = _
    rw [intsOf_map]
/-- min of the forms -/
theorem min_forms {c : Int} (hc : 2 ≤ c ∧ c ≤ 24) {ns : List Int} {Q : D → Prop} : bMin1 [.lst ((uN c).map fun u => .tup ((tmF c ns u).map .int))] Q = Q (.tup ((mfR c ns).map .int)) := by
  obtain ⟨u, us, e⟩ := uN_cons hc
  rw [mfR_cons e, ← minR_eq, e, o_bMin10, List.map_cons]
  rw [show intsOf (D.tup ((tmF c ns u).map .int) :: us.map fun u => D.tup ((tmF c ns u).map .int)) = none from rfl]
  have := rowsOf_map (tmF c ns u :: us.map (tmF c ns))
  rw [List.map_cons, List.map_map] at this
  show (match rowsOf (D.tup ((tmF c ns u).map .int) :: us.map ((fun r => D.tup (r.map .int)) ∘ tmF c ns)) with
    | some (r :: rs) => Q (.tup ((LM.minR r rs).map .int))
    | _ => False) = _
  rw [this]
theorem deqs_ints : ∀ a b : List Int, deqs (a.map .int) (b.map .int) = decide (a = b)
  | [], [] => rfl
  | [], y :: b => rfl
  | x :: a, [] => rfl
  | x :: a, y :: b => by
    show ((x == y) && deqs (a.map .int) (b.map .int)) = _
    rw [deqs_ints a b, Bool.eq_iff_iff, Bool.and_eq_true, beq_iff_eq, decide_eq_true_eq, decide_eq_true_eq, List.cons.injEq]
theorem pln_ints : ∀ a : List Int, plns (a.map .int) = true
  | [] => rfl
  | x :: a => by show (pln (.int x) && plns (a.map .int)) = true; rw [pln_ints a]; rfl
theorem dEq_rows {a b : List Int} {Q : D → Prop} : dEq (.tup (a.map .int)) (.tup (b.map .int)) Q ↔ Q (.bl (decide (a = b))) := by
  rw [← deqs_ints]
  exact ⟨fun h => h.2, fun h => ⟨⟨pln_ints a, pln_ints b, by simp only [dpt, dpts_ints]; omega, by simp only [dpt, dpts_ints]; omega⟩, h⟩⟩
end L2.TH
namespace L2.TH
open PySem L2 L2.DL
/-! ### signs -/
def okE (n : Nat) (es : List Int) : Prop := es.length = n ∧ ∀ s ∈ es, s = -1 ∨ s = 0 ∨ s = 1
def okG (sg : List Int) : Prop := ∀ s ∈ sg, s = -1 ∨ s = 0 ∨ s = 1
def mvS (c m x s : Int) : Int := if s = 0 then m else mvM c m (if s > 0 then x else sb c 0 x)
def mS (c : Int) (sg : List Int) : List Int → Int
  | [] => 1
  | x :: t => sg.foldl (fun f s => Builtin.bitOr f (mvS c (mS c sg t) x s)) 0
def sB (c : Int) (sg : List Int) : List Int → Int → Bool
  | [], k => k == 0
  | x :: t, k => sg.any fun s => sB c sg t ((k - s * x) % c)
theorem em_sub {a b c : Int} : (a - b % c) % c = (a - b) % c := by rw [Int.sub_emod, Int.emod_emod, ← Int.sub_emod]
theorem mvS_ok {c m x s : Int} (hc : 0 < c) (hm : 0 ≤ m ∧ m < 2 ^ c.toNat) (hx : 0 ≤ x ∧ x < c) (hs : s = -1 ∨ s = 0 ∨ s = 1) : (0 ≤ mvS c m x s ∧ mvS c m x s < 2 ^ c.toNat) ∧ ∀ k, 0 ≤ k → k < c → hb (mvS c m x s) k = hb m ((k - s * x) % c) := by
  rcases hs with rfl | rfl | rfl
  · have h2 := sb_in (k := 0) (x := x) hc
    have e : mvS c m x (-1) = mvM c m (sb c 0 x) := by
      unfold mvS
      rw [if_neg (by decide), if_neg (by decide)]
    rw [e]
    refine ⟨mvM_bound (by omega) hm.1 ⟨h2.1, by omega⟩, fun k k1 k2 => ?_⟩
    rw [hb_mvM hm h2 ⟨k1, k2⟩]
    unfold sb
    rw [em_sub]
    congr 2; omega
  · have e : mvS c m x 0 = m := by unfold mvS; rw [if_pos rfl]
    rw [e]
    refine ⟨hm, fun k k1 k2 => ?_⟩
    rw [Int.zero_mul, Int.sub_zero, Int.emod_eq_of_lt k1 k2]
  · have e : mvS c m x 1 = mvM c m x := by
      unfold mvS
      rw [if_neg (by decide), if_pos (by decide)]
    rw [e]
    refine ⟨mvM_bound (by omega) hm.1 ⟨hx.1, by omega⟩, fun k k1 k2 => ?_⟩
    rw [hb_mvM hm hx ⟨k1, k2⟩, Int.one_mul]
theorem fold_ok {c m x : Int} (hc : 0 < c) (hm : 0 ≤ m ∧ m < 2 ^ c.toNat) (hx : 0 ≤ x ∧ x < c) : ∀ {sg : List Int} {f : Int}, okG sg → (0 ≤ f ∧ f < 2 ^ c.toNat) →
    (0 ≤ sg.foldl (fun f s => Builtin.bitOr f (mvS c m x s)) f ∧ sg.foldl (fun f s => Builtin.bitOr f (mvS c m x s)) f < 2 ^ c.toNat) ∧ ∀ k, 0 ≤ k → k < c → hb (sg.foldl (fun f s => Builtin.bitOr f (mvS c m x s)) f) k = (hb f k || sg.any fun s => hb m ((k - s * x) % c))
  | [], f, _, hf => ⟨hf, fun k _ _ => by simp⟩
  | s :: r, f, hg, hf => by
    obtain ⟨b, q⟩ := mvS_ok hc hm hx (hg s List.mem_cons_self)
    have b2 := bor_bound hf b
    obtain ⟨b3, q3⟩ := fold_ok hc hm hx (sg := r) (f := Builtin.bitOr f (mvS c m x s)) (fun y hy => hg y (List.mem_cons_of_mem _ hy)) b2
    refine ⟨b3, fun k k1 k2 => ?_⟩
    rw [List.foldl_cons, q3 k k1 k2, hb_bor hf.1 b.1 k1, q k k1 k2, List.any_cons, Bool.or_assoc]
theorem mS_ok {c : Int} (hc : 0 < c) {sg : List Int} (hg : okG sg) : ∀ {l : List Int}, (∀ x ∈ l, 0 ≤ x ∧ x < c) → (0 ≤ mS c sg l ∧ mS c sg l < 2 ^ c.toNat) ∧ ∀ k, 0 ≤ k → k < c → hb (mS c sg l) k = sB c sg l k
  | [], _ => by
    have p := pow_lt (c := c) (x := 0) ⟨by omega, hc⟩
    refine ⟨p, fun k h1 h2 => ?_⟩
    show hb (1 * 2 ^ (0 : Int).toNat) k = (k == 0)
    rw [hb_pow (by omega) h1, Bool.eq_iff_iff, decide_eq_true_eq, beq_iff_eq]
  | x :: t, hl => by
    obtain ⟨b, q⟩ := mS_ok hc hg (l := t) fun y hy => hl y (List.mem_cons_of_mem _ hy)
    have z : (0 : Int) ≤ 0 ∧ (0 : Int) < 2 ^ c.toNat := ⟨Int.le_refl _, by
      have p := pow_lt (c := c) (x := 0) ⟨by omega, hc⟩
      omega⟩
    obtain ⟨b2, q2⟩ := fold_ok hc b (hl x List.mem_cons_self) hg z
    refine ⟨b2, fun k k1 k2 => ?_⟩
    show hb (sg.foldl (fun f s => Builtin.bitOr f (mvS c (mS c sg t) x s)) 0) k = sg.any fun s => sB c sg t ((k - s * x) % c)
    rw [q2 k k1 k2, hb_zero k1, Bool.false_or]
    congr 1
    funext s
    exact q _ (Int.emod_nonneg _ (by omega)) (Int.emod_lt_of_pos _ hc)
theorem sB_snoc {c : Int} {sg : List Int} {x : Int} : ∀ {l : List Int} {k : Int}, sB c sg (l ++ [x]) k = sg.any fun s => sB c sg l ((k - s * x) % c)
  | [], k => rfl
  | y :: t, k => by
    show (sg.any fun s => sB c sg (t ++ [x]) ((k - s * y) % c)) = sg.any fun s => sg.any fun r => sB c sg t (((k - s * x) % c - r * y) % c)
    rw [Bool.eq_iff_iff, List.any_eq_true, List.any_eq_true]
    have sw : ∀ s r : Int, ((k - s * y) % c - r * x) % c = ((k - r * x) % c - s * y) % c := fun s r => by
      rw [Int.emod_sub_emod, Int.emod_sub_emod]
      congr 1; omega
    constructor
    · rintro ⟨s, hs, h⟩
      rw [sB_snoc, List.any_eq_true] at h
      obtain ⟨r, hr, h⟩ := h
      rw [sw] at h
      exact ⟨r, hr, List.any_eq_true.mpr ⟨s, hs, h⟩⟩
    · rintro ⟨r, hr, h⟩
      obtain ⟨s, hs, h⟩ := List.any_eq_true.mp h
      refine ⟨s, hs, ?_⟩
      rw [sB_snoc, List.any_eq_true]
      exact ⟨r, hr, by rw [sw]; exact h⟩
/-- all signs of so many -/
def sgA (sg : List Int) : Nat → List (List Int)
  | 0 => [[]]
  | n + 1 => (sgA sg n).flatMap fun r => sg.map fun s => r ++ [s]
def dotS : List Int → List Int → Int
  | x :: l, s :: e => x * s + dotS l e
  | _, _ => 0
theorem sg_len {sg : List Int} : ∀ {n : Nat} {e : List Int}, e ∈ sgA sg n → e.length = n ∧ ∀ s ∈ e, s ∈ sg
  | 0, e, h => by rw [List.mem_singleton.mp h]; exact ⟨rfl, fun _ h => absurd h List.not_mem_nil⟩
  | n + 1, e, h => by
    obtain ⟨r, hr, h⟩ := List.mem_flatMap.mp h
    obtain ⟨s, hs, rfl⟩ := List.mem_map.mp h
    obtain ⟨h1, h2⟩ := sg_len hr
    refine ⟨by rw [List.length_append, h1]; rfl, fun y hy => ?_⟩
    rcases List.mem_append.mp hy with hy | hy
    · exact h2 y hy
    · rw [List.mem_singleton.mp hy]; exact hs
theorem sg_count {sg : List Int} : ∀ n : Nat, (sgA sg n).length = sg.length ^ n
  | 0 => rfl
  | n + 1 => by
    show ((sgA sg n).flatMap fun r => sg.map fun s => r ++ [s]).length = _
    rw [List.length_flatMap]
    have : ∀ l : List (List Int), (l.map fun r => (sg.map fun s => r ++ [s]).length).sum = l.length * sg.length := fun l => by
      induction l with
      | nil => simp
      | cons a r ih => rw [List.map_cons, List.sum_cons, ih, List.length_map, List.length_cons, Nat.add_mul, Nat.one_mul, Nat.add_comm]
    rw [this, sg_count n, Nat.pow_succ]
theorem dot_snoc {x s : Int} : ∀ {l e : List Int}, e.length = l.length → dotS (l ++ [x]) (e ++ [s]) = dotS l e + x * s
  | [], [], _ => by show x * s + 0 = 0 + x * s; omega
  | y :: l, t :: e, h => by
    have := dot_snoc (x := x) (s := s) (l := l) (e := e) (by simpa using h)
    show y * t + dotS (l ++ [x]) (e ++ [s]) = y * t + dotS l e + x * s
    omega
theorem sB_all {c : Int} (hc : 0 < c) {sg : List Int} : ∀ (l : List Int) {k : Int}, 0 ≤ k ∧ k < c → (sB c sg l k = true ↔ ∃ e ∈ sgA sg l.length, dotS l e % c = k) := by
  refine rev_ind ?_ (fun l x ih => ?_)
  · intro k hk
    show (k == 0) = true ↔ ∃ e ∈ [[]], dotS [] e % c = k
    rw [beq_iff_eq]
    constructor
    · rintro rfl
      exact ⟨[], List.mem_cons_self, Int.zero_emod c⟩
    · rintro ⟨e, he, h⟩
      rw [List.mem_singleton.mp he] at h
      rw [← h]; exact Int.zero_emod c
  · intro k hk
    have key : ∀ d s : Int, (d % c = (k - s * x) % c ↔ (d + x * s) % c = k) := fun d s => by
      constructor
      · intro h
        have : (d + x * s) % c = (d % c + x * s) % c := by rw [Int.emod_add_emod]
        rw [this, h, Int.emod_add_emod, Int.mul_comm x s, show k - s * x + s * x = k from by omega, Int.emod_eq_of_lt hk.1 hk.2]
      · intro h
        rw [← h, Int.emod_sub_emod, Int.mul_comm s x, show d + x * s - x * s = d from by omega]
    rw [sB_snoc, List.any_eq_true, List.length_append, List.length_singleton]
    constructor
    · rintro ⟨s, hs, h⟩
      obtain ⟨e, he, h⟩ := (ih ⟨Int.emod_nonneg _ (by omega), Int.emod_lt_of_pos _ hc⟩).mp h
      refine ⟨e ++ [s], List.mem_flatMap.mpr ⟨e, he, List.mem_map.mpr ⟨s, hs, rfl⟩⟩, ?_⟩
      rw [dot_snoc (sg_len he).1]
      exact (key _ _).mp h
    · rintro ⟨e', he, h⟩
      obtain ⟨e, he2, h'⟩ := List.mem_flatMap.mp he
      obtain ⟨s, hs, rfl⟩ := List.mem_map.mp h'
      rw [dot_snoc (sg_len he2).1] at h
      have he := he2
      exact ⟨s, hs, (ih ⟨Int.emod_nonneg _ (by omega), Int.emod_lt_of_pos _ hc⟩).mpr ⟨e, he, (key _ _).mpr h⟩⟩
theorem dot_zip : ∀ {l e : List Int}, ((l.zip e).map fun p => p.1 * p.2).sum = dotS l e
  | [], _ => by cases ‹List Int› <;> rfl
  | _ :: _, [] => rfl
  | x :: l, s :: e => by
    rw [List.zip_cons_cons, List.map_cons, List.sum_cons, dot_zip]; rfl
theorem gI_get {l : List Int} {i : Nat} {x : Int} (h : l[i]? = some x) : gI l (i : Int) = x := gI_at h
theorem dot_zr {l e : List Int} (h : e.length = l.length) : ((zr 0 l.length).map fun k => gI l k * gI e k).sum = dotS l e := by
  rw [← dot_zip]
  congr 1
  refine List.ext_getElem? fun i => ?_
  rw [List.getElem?_map, List.getElem?_map, zr_at]
  by_cases hi : i < l.length
  · rw [if_pos hi]
    obtain ⟨x, hx⟩ : ∃ x, l[i]? = some x := ⟨_, List.getElem?_eq_getElem hi⟩
    obtain ⟨s, hs⟩ : ∃ s, e[i]? = some s := ⟨_, List.getElem?_eq_getElem (by omega)⟩
    rw [List.getElem?_zip_eq_some (z := (x, s)) |>.mpr ⟨hx, hs⟩]
    show some (gI l (0 + (i : Int)) * gI e (0 + (i : Int))) = some (x * s)
    rw [Int.zero_add, gI_get hx, gI_get hs]
  · rw [if_neg hi, List.getElem?_eq_none (by rw [List.length_zip]; omega)]; rfl
end L2.TH
namespace L2.TH
open PySem L2 L2.DL
def lotR (c m : Int) : List Int := (zr 0 c.toNat).filter fun k => hb m k
/-- the hours that come of signs -/
def lotS (c : Int) (sg l : List Int) : List Int := (zr 0 c.toNat).filter fun k => sB c sg l k
theorem lot_eq {c : Int} (hc : 0 < c) {sg : List Int} (hg : okG sg) {l : List Int} (hl : ∀ x ∈ l, 0 ≤ x ∧ x < c) : lotR c (mS c sg l) = lotS c sg l := by
  refine List.filter_congr fun k hk => ?_
  rw [mem_zr] at hk
  exact (mS_ok hc hg hl).2 k hk.1 (by omega)
theorem lotS_nil {c : Int} (hc : 0 < c) {sg : List Int} : lotS c sg [] = [0] := by
  unfold lotS
  obtain ⟨n, e⟩ : ∃ n, c.toNat = n + 1 := ⟨c.toNat - 1, by omega⟩
  rw [e, zr_split (m := 0) (by omega), List.filter_append]
  show [] ++ List.filter _ _ = _
  rw [List.nil_append, List.filter_cons_of_pos (by rfl)]
  congr 1
  refine List.filter_eq_nil_iff.mpr fun k hk => ?_
  rw [mem_zr] at hk
  show ¬ (k == 0) = true
  rw [beq_iff_eq]; omega
theorem mem_lotS {c : Int} {sg l : List Int} {k : Int} (hc : 0 < c) : k ∈ lotS c sg l ↔ (0 ≤ k ∧ k < c) ∧ sB c sg l k = true := by
  unfold lotS
  rw [List.mem_filter, mem_zr]
  constructor
  · rintro ⟨h, h2⟩; exact ⟨⟨h.1, by omega⟩, h2⟩
  · rintro ⟨h, h2⟩; exact ⟨⟨h.1, by omega⟩, h2⟩
theorem any_mem {xs : List Int} {k : Int} : (xs.any fun z => z == k) = decide (k ∈ xs) := by
  rw [Bool.eq_iff_iff, List.any_eq_true, decide_eq_true_eq]
  constructor
  · rintro ⟨x, hx, e⟩; rw [← eq_of_beq e]; exact hx
  · intro h; exact ⟨k, h, beq_self_eq_true k⟩
theorem dIn_ints {k : Int} {xs : List Int} {Q : D → Prop} : dIn (.int k) (.lst (xs.map .int)) Q ↔ Q (.bl (decide (k ∈ xs))) := by
  have e : ((xs.map D.int).any fun z => deq z (.int k)) = decide (k ∈ xs) := by
    rw [List.any_map, ← any_mem]
    exact congrArg (fun f => xs.any f) (funext fun z => deq_int)
  show ((pln (.int k) = true ∧ plns (xs.map .int) = true ∧ dpt (.int k) ≤ 60 ∧ dpts (xs.map .int) ≤ 59) ∧ Q (.bl ((xs.map D.int).any fun z => deq z (.int k)))) ↔ _
  rw [e]
  exact ⟨fun q => q.2, fun q => ⟨⟨rfl, plns_ints, by simp [dpt], by rw [dpts_ints]; omega⟩, q⟩⟩
/-- one hour more, by both signs -/
theorem lot_step {c x : Int} (hc : 0 < c) {l : List Int} : ((zr 0 c.toNat).filter fun k => decide (k ∈ (lotS c [-1, 1] l).map (fun o => (o + x) % c) ++ (lotS c [-1, 1] l).map (fun o => (o - x) % c))) = lotS c [-1, 1] (l ++ [x]) := by
  refine List.filter_congr fun k hk => ?_
  rw [mem_zr] at hk
  have hk' : 0 ≤ k ∧ k < c := ⟨hk.1, by omega⟩
  rw [sB_snoc, Bool.eq_iff_iff, decide_eq_true_eq, List.mem_append, List.mem_map, List.mem_map]
  have b : ∀ y : Int, 0 ≤ y % c ∧ y % c < c := fun y => ⟨Int.emod_nonneg _ (by omega), Int.emod_lt_of_pos _ hc⟩
  have e1 : k - -1 * x = k + x := by omega
  have e2 : k - 1 * x = k - x := by omega
  show _ ↔ (sB c [-1, 1] l ((k - -1 * x) % c) || (sB c [-1, 1] l ((k - 1 * x) % c) || false)) = true
  rw [Bool.or_false, e1, e2, Bool.or_eq_true]
  constructor
  · rintro (⟨o, ho, h⟩ | ⟨o, ho, h⟩)
    · rw [mem_lotS hc] at ho
      right
      rw [← h, Int.emod_sub_emod, show o + x - x = o from by omega, Int.emod_eq_of_lt ho.1.1 ho.1.2]
      exact ho.2
    · rw [mem_lotS hc] at ho
      left
      rw [← h, Int.emod_add_emod, show o - x + x = o from by omega, Int.emod_eq_of_lt ho.1.1 ho.1.2]
      exact ho.2
  · rintro (h | h)
    · exact .inr ⟨(k + x) % c, (mem_lotS hc).mpr ⟨b _, h⟩, by rw [Int.emod_sub_emod, show k + x - x = k from by omega, Int.emod_eq_of_lt hk'.1 hk'.2]⟩
    · exact .inl ⟨(k - x) % c, (mem_lotS hc).mpr ⟨b _, h⟩, by rw [Int.emod_add_emod, show k - x + x = k from by omega, Int.emod_eq_of_lt hk'.1 hk'.2]⟩
theorem lot_all {c : Int} (hc : 0 < c) {sg l : List Int} : ((zr 0 c.toNat).filter fun k => decide (k ∈ (sgA sg l.length).map fun e => dotS l e % c)) = lotS c sg l := by
  refine List.filter_congr fun k hk => ?_
  rw [mem_zr] at hk
  rw [Bool.eq_iff_iff, decide_eq_true_eq, List.mem_map, sB_all hc l ⟨hk.1, by omega⟩]
end L2.TH
namespace L2.TH
open PySem L2 L2.DL
/-! ### least signs -/
theorem fm_one {α β : Type} {f : α → β} : ∀ l : List α, (l.flatMap fun s => [f s]) = l.map f
  | [] => rfl
  | a :: l => by rw [List.flatMap_cons, fm_one l]; rfl
theorem sgA_cons {sg : List Int} : ∀ n : Nat, sgA sg (n + 1) = sg.flatMap fun s => (sgA sg n).map (s :: ·)
  | 0 => by
    show ([[]] : List (List Int)).flatMap (fun r => sg.map fun s => r ++ [s]) = sg.flatMap fun s => [[s]]
    rw [fm_one, List.flatMap_singleton]; rfl
  | n + 1 => by
    show (sgA sg (n + 1)).flatMap (fun r => sg.map fun s => r ++ [s]) = sg.flatMap fun s => ((sgA sg n).flatMap fun r => sg.map fun s => r ++ [s]).map (s :: ·)
    rw [sgA_cons n, List.flatMap_assoc]
    congr 1; funext s
    rw [List.flatMap_map, List.map_flatMap]
    congr 1; funext r
    rw [List.map_map]; rfl
theorem mem_sgA {sg : List Int} : ∀ {n : Nat} {e : List Int}, e ∈ sgA sg n ↔ e.length = n ∧ ∀ s ∈ e, s ∈ sg
  | 0, e => by
    show e ∈ [[]] ↔ _
    rw [List.mem_singleton]
    constructor
    · rintro rfl; exact ⟨rfl, fun _ h => absurd h List.not_mem_nil⟩
    · rintro ⟨h, _⟩; exact List.length_eq_zero_iff.mp h
  | n + 1, e => by
    rw [sgA_cons, List.mem_flatMap]
    constructor
    · rintro ⟨s, hs, h⟩
      obtain ⟨r, hr, rfl⟩ := List.mem_map.mp h
      obtain ⟨h1, h2⟩ := mem_sgA.mp hr
      refine ⟨by rw [List.length_cons, h1], fun y hy => ?_⟩
      rcases List.mem_cons.mp hy with rfl | hy
      · exact hs
      · exact h2 y hy
    · rintro ⟨h1, h2⟩
      cases e with
      | nil => cases h1
      | cons s r => exact ⟨s, h2 s List.mem_cons_self, List.mem_map.mpr ⟨r, mem_sgA.mpr ⟨by simpa using h1, fun y hy => h2 y (List.mem_cons_of_mem _ hy)⟩, rfl⟩⟩
def lf (c : Int) (sg : List Int) : List Int → Int → Option (List Int)
  | [], k => if k = 0 then some [] else none
  | x :: t, k => sg.findSome? fun s => (lf c sg t ((k - s * x) % c)).map (s :: ·)
theorem dot_key {c x s d k : Int} (hk : 0 ≤ k ∧ k < c) : ((x * s + d) % c == k) = (d % c == (k - s * x) % c) := by
  rw [Bool.eq_iff_iff, beq_iff_eq, beq_iff_eq]
  constructor
  · intro h
    rw [← h, Int.emod_sub_emod, Int.mul_comm s x, show x * s + d - x * s = d from by omega]
  · intro h
    have : (x * s + d) % c = (x * s + d % c) % c := by rw [Int.add_emod_emod]
    rw [this, h, Int.add_emod_emod, Int.mul_comm x s, show s * x + (k - s * x) = k from by omega, Int.emod_eq_of_lt hk.1 hk.2]
theorem lf_find {c : Int} (hc : 0 < c) {sg : List Int} : ∀ (l : List Int) {k : Int}, 0 ≤ k ∧ k < c → ((sgA sg l.length).find? fun e => dotS l e % c == k) = lf c sg l k
  | [], k, hk => by
    show ([[]] : List (List Int)).find? (fun e => dotS [] e % c == k) = if k = 0 then some [] else none
    have e0 : (dotS [] [] % c == k) = decide (k = 0) := by
      show ((0 : Int) % c == k) = _
      rw [Int.zero_emod, Bool.eq_iff_iff, beq_iff_eq, decide_eq_true_eq]; omega
    by_cases h : k = 0
    · rw [List.find?_cons_of_pos (by rw [e0]; exact decide_eq_true h), if_pos h]
    · rw [List.find?_cons_of_neg (by rw [e0, decide_eq_false h]; exact Bool.false_ne_true), if_neg h]; rfl
  | x :: t, k, hk => by
    rw [List.length_cons, sgA_cons, List.find?_flatMap]
    show _ = sg.findSome? fun s => (lf c sg t ((k - s * x) % c)).map (s :: ·)
    congr 1; funext s
    rw [List.find?_map, ← lf_find hc t ⟨Int.emod_nonneg _ (by omega), Int.emod_lt_of_pos _ hc⟩]
    congr 2; funext e
    exact dot_key hk
theorem fs_some {α β : Type} {f : α → Option β} : ∀ l : List α, (l.findSome? f).isSome = l.any fun a => (f a).isSome
  | [] => rfl
  | a :: l => by
    rw [List.findSome?_cons, List.any_cons, ← fs_some l]
    cases f a <;> rfl
theorem lf_sB {c : Int} {sg : List Int} : ∀ (l : List Int) {k : Int}, (lf c sg l k).isSome = sB c sg l k
  | [], k => by
    show (if k = 0 then some ([] : List Int) else none).isSome = (k == 0)
    by_cases h : k = 0
    · rw [if_pos h, h]; rfl
    · rw [if_neg h]
      exact (beq_eq_false_iff_ne.mpr h).symm
  | x :: t, k => by
    show (sg.findSome? fun s => (lf c sg t ((k - s * x) % c)).map (s :: ·)).isSome = sg.any fun s => sB c sg t ((k - s * x) % c)
    rw [fs_some]
    congr 1; funext s
    rw [← lf_sB t, Option.isSome_map]
theorem dot_take {x s : Int} : ∀ {ns p t : List Int}, ns.drop p.length = x :: t → dotS ns (p ++ [s]) = dotS ns p + x * s
  | y :: ns, a :: p, t, h => by
    have := dot_take (x := x) (s := s) (ns := ns) (p := p) (t := t) (by simpa using h)
    show y * a + dotS ns (p ++ [s]) = y * a + dotS ns p + x * s
    omega
  | y :: ns, [], t, h => by
    have h' : y = x := by simpa using congrArg List.head? h
    subst h'
    show y * s + dotS ns [] = dotS (y :: ns) [] + y * s
    have e1 : ∀ l : List Int, dotS l [] = 0 := fun l => by cases l <;> rfl
    rw [e1, e1]; omega
  | [], p, t, h => by simp at h
/-- the first of those that can go on -/
theorem fs_first {f : Int → Option (List Int)} : ∀ {sg : List Int} {q : List Int}, sg.findSome? f = some q → ∃ s r, (sg.filter fun s => (f s).isSome) = s :: r ∧ f s = some q
  | [], q, h => by cases h
  | s :: r, q, h => by
    rw [List.findSome?_cons] at h
    cases e : f s with
    | some b =>
      rw [e] at h
      exact ⟨s, _, List.filter_cons_of_pos (by rw [e]; rfl), by rw [e]; exact h⟩
    | none =>
      rw [e] at h
      obtain ⟨s', r', h1, h2⟩ := fs_first (sg := r) h
      exact ⟨s', r', by rw [List.filter_cons_of_neg (by rw [e]; exact Bool.false_ne_true)]; exact h1, h2⟩
/-- what is told: the rest of the signs from such a beginning -/
def canB (c : Int) (sg ns p : List Int) : Bool := sB c sg (ns.drop p.length) ((0 - dotS ns p) % c)
def stepI (c : Int) (sg ns p fin : List Int) : Prop := ∃ q, lf c sg (ns.drop p.length) ((0 - dotS ns p) % c) = some q ∧ p ++ q = fin
theorem step_go {c : Int} {sg ns p fin : List Int} (h : p.length < ns.length) (I : stepI c sg ns p fin) : ∃ s r, (sg.filter fun s => canB c sg ns (p ++ [s])) = s :: r ∧ stepI c sg ns (p ++ [s]) fin := by
  obtain ⟨q, h1, h2⟩ := I
  obtain ⟨x, hx⟩ : ∃ x, ns.drop p.length = x :: ns.drop (p.length + 1) := ⟨_, List.drop_eq_getElem_cons h⟩
  rw [hx] at h1
  have h1 : (sg.findSome? fun s => (lf c sg (ns.drop (p.length + 1)) (((0 - dotS ns p) % c - s * x) % c)).map (s :: ·)) = some q := h1
  obtain ⟨s, r, h3, h4⟩ := fs_first h1
  have e : ∀ s : Int, ((0 - dotS ns p) % c - s * x) % c = (0 - dotS ns (p ++ [s])) % c := fun s => by
    rw [Int.emod_sub_emod, dot_take hx, Int.mul_comm s x]; congr 1; omega
  have e2 : ∀ s : Int, ((lf c sg (ns.drop (p.length + 1)) (((0 - dotS ns p) % c - s * x) % c)).map (s :: ·)).isSome = canB c sg ns (p ++ [s]) := fun s => by
    rw [Option.isSome_map, lf_sB, e]
    unfold canB
    rw [List.length_append]; rfl
  refine ⟨s, r, by rw [← h3]; exact List.filter_congr fun s _ => (e2 s).symm, ?_⟩
  rw [e] at h4
  obtain ⟨q', h5, rfl⟩ := Option.map_eq_some_iff.mp h4
  refine ⟨q', by rw [List.length_append]; exact h5, by rw [List.append_assoc]; exact h2⟩
theorem step_end {c : Int} {sg ns p fin : List Int} (h : p.length = ns.length) (I : stepI c sg ns p fin) : p = fin := by
  obtain ⟨q, h1, h2⟩ := I
  rw [h, List.drop_length] at h1
  have h1 : (if (0 - dotS ns p) % c = 0 then some [] else none) = some q := h1
  split at h1
  · cases h1; rw [← h2, List.append_nil]
  · cases h1
/-! ### signs, not all 0 -/
def nf (c : Int) : List Int → Option (List Int)
  | [] => none
  | x :: t => match lf c [-1, 0, 1] t (x % c) with
    | some e => some (-1 :: e)
    | none => (nf c t).map (0 :: ·)
theorem neg_sB {c : Int} : ∀ (l : List Int) {k : Int}, sB c [-1, 0, 1] l (k % c) = sB c [-1, 0, 1] l ((-k) % c)
  | [], k => by
    show (k % c == 0) = ((-k) % c == 0)
    rw [Bool.eq_iff_iff, beq_iff_eq, beq_iff_eq]
    constructor
    · intro h; exact Int.emod_eq_zero_of_dvd (Int.dvd_neg.mpr (Int.dvd_of_emod_eq_zero h))
    · intro h; exact Int.emod_eq_zero_of_dvd (Int.dvd_neg.mp (Int.dvd_of_emod_eq_zero h))
  | x :: t, k => by
    show (sB c _ t ((k % c - -1 * x) % c) || (sB c _ t ((k % c - 0 * x) % c) || (sB c _ t ((k % c - 1 * x) % c) || false))) = (sB c _ t (((-k) % c - -1 * x) % c) || (sB c _ t (((-k) % c - 0 * x) % c) || (sB c _ t (((-k) % c - 1 * x) % c) || false)))
    simp only [Int.emod_sub_emod]
    rw [neg_sB t (k := k - -1 * x), neg_sB t (k := k - 0 * x), neg_sB t (k := k - 1 * x), show -(k - -1 * x) = -k - 1 * x from by omega, show -(k - 0 * x) = -k - 0 * x from by omega, show -(k - 1 * x) = -k - -1 * x from by omega]
    generalize sB c [-1, 0, 1] t ((-k - -1 * x) % c) = a
    generalize sB c [-1, 0, 1] t ((-k - 0 * x) % c) = b
    generalize sB c [-1, 0, 1] t ((-k - 1 * x) % c) = d
    cases a <;> cases b <;> cases d <;> rfl
def nzB (e : List Int) : Bool := e.any fun s => s != 0
theorem nf_find {c : Int} (hc : 0 < c) : ∀ (l : List Int), ((sgA [-1, 0, 1] l.length).find? fun e => dotS l e % c == 0 && nzB e) = nf c l
  | [] => rfl
  | x :: t => by
    have hk : (0 : Int) ≤ 0 ∧ (0 : Int) < c := ⟨Int.le_refl _, hc⟩
    have b : ∀ y : Int, 0 ≤ y % c ∧ y % c < c := fun y => ⟨Int.emod_nonneg _ (by omega), Int.emod_lt_of_pos _ hc⟩
    rw [List.length_cons, sgA_cons, List.find?_flatMap]
    have p : ∀ s : Int, s ≠ 0 → ((sgA [-1, 0, 1] t.length).map (s :: ·)).find? (fun e => dotS (x :: t) e % c == 0 && nzB e) = (lf c [-1, 0, 1] t ((0 - s * x) % c)).map (s :: ·) := fun s hs => by
      rw [List.find?_map, ← lf_find hc t (b _)]
      congr 2; funext e
      show (((x * s + dotS t e) % c == 0) && (s != 0 || nzB e)) = _
      rw [dot_key hk, show (s != 0) = true from by simpa using hs, Bool.true_or, Bool.and_true]
    have z : ((sgA [-1, 0, 1] t.length).map ((0 : Int) :: ·)).find? (fun e => dotS (x :: t) e % c == 0 && nzB e) = (nf c t).map (0 :: ·) := by
      rw [List.find?_map, ← nf_find hc t]
      congr 2; funext e
      show (((x * 0 + dotS t e) % c == 0) && (false || nzB e)) = _
      rw [Bool.false_or, Int.mul_zero, Int.zero_add]
    rw [List.findSome?_cons, p (-1) (by decide), List.findSome?_cons, z, List.findSome?_cons, p 1 (by decide), show (0 - -1 * x : Int) = x from by omega, show (0 - 1 * x : Int) = -x from by omega]
    show _ = match lf c [-1, 0, 1] t (x % c) with
      | some e => some (-1 :: e)
      | none => (nf c t).map (0 :: ·)
    cases e1 : lf c [-1, 0, 1] t (x % c) with
    | some e => rfl
    | none =>
      have n1 : lf c [-1, 0, 1] t ((-x) % c) = none := by
        have := neg_sB (c := c) t (k := x)
        rw [← lf_sB, ← lf_sB, e1] at this
        cases e2 : lf c [-1, 0, 1] t ((-x) % c) with
        | none => rfl
        | some e => rw [e2] at this; cases this
      rw [n1]
      cases nf c t <;> rfl
/-- so many noughts, then - 1 -/
def zS (i : Nat) : List Int := List.replicate i 0 ++ [-1]
theorem dot_zero : ∀ {l : List Int} {i : Nat}, dotS l (List.replicate i 0) = 0
  | [], _ => by cases ‹Nat› <;> rfl
  | _ :: _, 0 => rfl
  | x :: l, i + 1 => by
    rw [List.replicate_succ]
    show x * 0 + dotS l (List.replicate i 0) = 0
    rw [dot_zero]; omega
theorem dot_zS {ns : List Int} {i : Nat} {x : Int} (h : ns[i]? = some x) : dotS ns (zS i) = -x := by
  obtain ⟨hi, e⟩ := List.getElem?_eq_some_iff.mp h
  have hd : ns.drop (List.replicate i (0 : Int)).length = x :: ns.drop (i + 1) := by rw [List.length_replicate, List.drop_eq_getElem_cons hi, e]
  unfold zS
  rw [dot_take hd, dot_zero]; omega
theorem zS_len {i : Nat} : (zS i).length = i + 1 := by unfold zS; rw [List.length_append, List.length_replicate]; rfl
theorem zS_lt : ∀ {i j : Nat}, i < j → listLt (zS j) (zS i) = false
  | 0, j + 1, _ => rfl
  | i + 1, j + 1, h => by
    show listLt (0 :: zS j) (0 :: zS i) = false
    unfold listLt
    rw [if_pos rfl]
    exact zS_lt (by omega)
theorem minR_first {r : List Int} : ∀ {rs : List (List Int)}, (∀ y ∈ rs, listLt y r = false) → minR r rs = r
  | [], _ => rfl
  | y :: rs, h => by
    unfold minR
    rw [List.foldl_cons, if_neg (by rw [h y List.mem_cons_self]; exact Bool.false_ne_true)]
    exact minR_first fun z hz => h z (List.mem_cons_of_mem _ hz)
/-- where - 1 can be the first one -/
def begA (c : Int) (ns : List Int) (i : Nat) : Bool := canB c [-1, 0, 1] ns (zS i)
theorem beg_eq {c : Int} {ns : List Int} {i : Nat} {x : Int} (h : ns[i]? = some x) : begA c ns i = sB c [-1, 0, 1] (ns.drop (i + 1)) (x % c) := by
  unfold begA canB
  rw [dot_zS h, zS_len, show (0 - -x : Int) = x from by omega]
theorem nf_none {c : Int} : ∀ {ns : List Int}, (∀ i, i < ns.length → begA c ns i = false) → nf c ns = none
  | [], _ => rfl
  | x :: t, h => by
    have h0 := h 0 (by simp)
    rw [beg_eq (x := x) rfl, ← lf_sB] at h0
    have h0 : (lf c [-1, 0, 1] t (x % c)).isSome = false := h0
    have ht : nf c t = none := nf_none fun i hi => by
      have hx : t[i]? = some t[i] := List.getElem?_eq_getElem hi
      have := h (i + 1) (by rw [List.length_cons]; omega)
      rw [beg_eq (x := t[i]) (by simpa using hx)] at this
      rw [beg_eq hx]
      exact this
    show (match lf c [-1, 0, 1] t (x % c) with
      | some e => some (-1 :: e)
      | none => (nf c t).map (0 :: ·)) = none
    cases e : lf c [-1, 0, 1] t (x % c) with
    | some e => rw [e] at h0; cases h0
    | none => rw [ht]; rfl
theorem nf_some {c : Int} : ∀ {ns : List Int} {i : Nat}, i < ns.length → begA c ns i = true → (∀ j, j < i → begA c ns j = false) → ∃ fin, nf c ns = some fin ∧ stepI c [-1, 0, 1] ns (zS i) fin
  | x :: t, 0, _, h, _ => by
    have h0 := h
    rw [beg_eq (x := x) rfl, ← lf_sB] at h0
    have h0 : (lf c [-1, 0, 1] t (x % c)).isSome = true := h0
    obtain ⟨q, hq⟩ := Option.isSome_iff_exists.mp h0
    refine ⟨-1 :: q, by
      show (match lf c [-1, 0, 1] t (x % c) with
      | some e => some (-1 :: e)
      | none => (nf c t).map (0 :: ·)) = _
      rw [hq], q, ?_, rfl⟩
    rw [dot_zS (x := x) rfl, show (0 - -x : Int) = x from by omega]
    exact hq
  | x :: t, i + 1, hi, h, hn => by
    have hi' : i < t.length := by simpa using hi
    have sh : ∀ j, j < t.length → begA c (x :: t) (j + 1) = begA c t j := fun j hj => by
      have hx : t[j]? = some t[j] := List.getElem?_eq_getElem hj
      rw [beg_eq (x := t[j]) (by simpa using hx), beg_eq hx]
      rfl
    obtain ⟨fin, h1, q, h2, h3⟩ := nf_some hi' (by rw [← sh i hi']; exact h) fun j hj => by rw [← sh j (by omega)]; exact hn (j + 1) (by omega)
    have h0 := hn 0 (by omega)
    rw [beg_eq (x := x) rfl, ← lf_sB] at h0
    have h0 : (lf c [-1, 0, 1] t (x % c)).isSome = false := h0
    refine ⟨0 :: fin, ?_, q, ?_, ?_⟩
    · show (match lf c [-1, 0, 1] t (x % c) with
      | some e => some (-1 :: e)
      | none => (nf c t).map (0 :: ·)) = _
      cases e : lf c [-1, 0, 1] t (x % c) with
      | some e => rw [e] at h0; cases h0
      | none => rw [h1]; rfl
    · have hx : t[i]? = some t[i] := List.getElem?_eq_getElem hi'
      rw [dot_zS hx] at h2
      rw [dot_zS (x := t[i]) (by simpa using hx)]
      exact h2
    · rw [← h3]
      unfold zS
      rw [List.replicate_succ]; rfl
/-! ### more beginnings than hours -/
theorem nd_le : ∀ {a b : List Int}, a.Nodup → (∀ x ∈ a, x ∈ b) → a.length ≤ b.length
  | [], _, _, _ => Nat.zero_le _
  | x :: a, b, h, s => by
    have hx := s x List.mem_cons_self
    obtain ⟨h1, h2⟩ := List.nodup_cons.mp h
    have := nd_le (b := b.erase x) h2 fun y hy => (List.mem_erase_of_ne (fun e => h1 (by rw [← e]; exact hy))).mpr (s y (List.mem_cons_of_mem _ hy))
    rw [List.length_erase_of_mem hx] at this
    have := List.length_pos_of_mem hx
    rw [List.length_cons]; omega
theorem ph {α : Type} {c : Int} (hc : 0 < c) {L : List α} {f : α → Int} (hn : L.Nodup) (hf : ∀ a ∈ L, 0 ≤ f a ∧ f a < c) (hl : c < L.length) : ∃ a ∈ L, ∃ b ∈ L, a ≠ b ∧ f a = f b := by
  refine Classical.byContradiction fun h => ?_
  have nd : (L.map f).Nodup := by
    unfold List.Nodup
    rw [List.pairwise_map]
    refine List.Pairwise.imp_of_mem (fun {a b} ha hb hab e => h ⟨a, ha, b, hb, hab, e⟩) hn
  have sub : ∀ x ∈ L.map f, x ∈ zr 0 c.toNat := fun x hx => by
    obtain ⟨a, ha, rfl⟩ := List.mem_map.mp hx
    have := hf a ha
    rw [mem_zr]; omega
  have := nd_le nd sub
  rw [List.length_map, zr_len] at this
  omega
theorem sgA_nodup {sg : List Int} (h : sg.Nodup) : ∀ n : Nat, (sgA sg n).Nodup
  | 0 => by show ([[]] : List (List Int)).Nodup; simp
  | n + 1 => by
    show ((sgA sg n).flatMap fun r => sg.map fun s => r ++ [s]).Nodup
    unfold List.Nodup
    rw [List.pairwise_flatMap]
    refine ⟨fun r _ => ?_, ?_⟩
    · rw [List.pairwise_map]
      exact List.Pairwise.imp (fun {a b} hab e => hab (by simpa using e)) h
    · refine List.Pairwise.imp (fun {a b} hab x hx y hy e => hab ?_) (sgA_nodup h n)
      obtain ⟨s, _, rfl⟩ := List.mem_map.mp hx
      obtain ⟨t, _, rfl⟩ := List.mem_map.mp hy
      exact (List.append_inj' e rfl).1
def sbL : List Int → List Int → List Int
  | a :: p, b :: q => (a - b) :: sbL p q
  | _, _ => []
theorem dot_sb : ∀ {l p q : List Int}, p.length = l.length → q.length = l.length → dotS l (sbL p q) = dotS l p - dotS l q
  | [], [], [], _, _ => rfl
  | x :: l, a :: p, b :: q, h1, h2 => by
    have := dot_sb (l := l) (p := p) (q := q) (by simpa using h1) (by simpa using h2)
    show x * (a - b) + dotS l (sbL p q) = x * a + dotS l p - (x * b + dotS l q)
    rw [Int.mul_sub]; omega
theorem sbL_mem : ∀ {n : Nat} {p q : List Int}, p ∈ sgA [0, 1] n → q ∈ sgA [0, 1] n → sbL p q ∈ sgA [-1, 0, 1] n ∧ (nzB (sbL p q) = false → p = q)
  | 0, p, q, h1, h2 => by
    rw [List.mem_singleton.mp h1, List.mem_singleton.mp h2]
    exact ⟨List.mem_cons_self, fun _ => rfl⟩
  | n + 1, p, q, h1, h2 => by
    obtain ⟨l1, m1⟩ := mem_sgA.mp h1
    obtain ⟨l2, m2⟩ := mem_sgA.mp h2
    cases p with
    | nil => cases l1
    | cons a p =>
      cases q with
      | nil => cases l2
      | cons b q =>
        obtain ⟨i1, i2⟩ := sbL_mem (mem_sgA.mpr ⟨by simpa using l1, fun y hy => m1 y (List.mem_cons_of_mem _ hy)⟩ : p ∈ sgA [0, 1] n) (mem_sgA.mpr ⟨by simpa using l2, fun y hy => m2 y (List.mem_cons_of_mem _ hy)⟩ : q ∈ sgA [0, 1] n)
        obtain ⟨j1, j2⟩ := mem_sgA.mp i1
        have ha : a = 0 ∨ a = 1 := by simpa using m1 a List.mem_cons_self
        have hb : b = 0 ∨ b = 1 := by simpa using m2 b List.mem_cons_self
        refine ⟨mem_sgA.mpr ⟨by show (sbL p q).length + 1 = n + 1; rw [j1], fun y hy => ?_⟩, fun e => ?_⟩
        · rcases List.mem_cons.mp (show y ∈ (a - b) :: sbL p q from hy) with rfl | hy
          · rcases ha with rfl | rfl <;> rcases hb with rfl | rfl <;> simp
          · exact j2 y hy
        · have e : ((a - b != 0) || nzB (sbL p q)) = false := e
          rw [Bool.or_eq_false_iff] at e
          have e1 : a - b = 0 := by simpa using e.1
          rw [i2 e.2, show a = b from by omega]
theorem nf_full {c : Int} (hc : 0 < c) {l : List Int} (h : c < ((2 ^ l.length : Nat) : Int)) : nf c l ≠ none := by
  obtain ⟨p, hp, q, hq, ne, e⟩ := ph (c := c) hc (f := fun e => dotS l e % c) (sgA_nodup (sg := [0, 1]) (by decide) l.length) (fun a _ => ⟨Int.emod_nonneg _ (by omega), Int.emod_lt_of_pos _ hc⟩) (by rw [sg_count]; exact h)
  rw [← nf_find hc]
  intro z
  have e : dotS l p % c = dotS l q % c := e
  have := List.find?_eq_none.mp z (sbL p q) (sbL_mem hp hq).1
  rw [dot_sb (sg_len hp).1 (sg_len hq).1, Bool.and_eq_true, beq_iff_eq] at this
  have h2 : nzB (sbL p q) = true := by
    cases e3 : nzB (sbL p q) with
    | true => rfl
    | false => exact absurd ((sbL_mem hp hq).2 e3) ne
  exact this ⟨by rw [Int.sub_emod, e, Int.sub_self, Int.zero_emod], h2⟩
/-! ### 1, 2, 4 .. -/
def dbS (c : Int) (s : List Int × Int) : List Int × Int := if 2 * s.2 ≤ c then (s.1 ++ [s.2], 2 * s.2) else s
def dbN (c : Int) : Nat → List Int × Int
  | 0 => ([], 1)
  | n + 1 => dbS c (dbN c n)
def dbChk (c : Int) : Bool := (nf c (dbN c 12).1).isNone && decide ((dbN c 12).1.length ≤ 12) && (dbN c 12).1.all fun x => decide (0 ≤ x ∧ x < c)
theorem db_all : (zr 2 23).all dbChk = true := by decide +kernel
theorem db_ok {c : Int} (h : 2 ≤ c ∧ c ≤ 24) : nf c (dbN c 12).1 = none ∧ (dbN c 12).1.length ≤ 12 ∧ ∀ x ∈ (dbN c 12).1, 0 ≤ x ∧ x < c := by
  have := List.all_eq_true.mp db_all c (mem_zr.mpr (by omega))
  unfold dbChk at this
  rw [Bool.and_eq_true, Bool.and_eq_true, List.all_eq_true, decide_eq_true_eq, Option.isNone_iff_eq_none] at this
  exact ⟨this.1.1, this.1.2, fun x hx => of_decide_eq_true (this.2 x hx)⟩
theorem db_len {c : Int} : ∀ n : Nat, (dbN c n).1.length ≤ n
  | 0 => Nat.le_refl _
  | n + 1 => by
    have := db_len (c := c) n
    show (dbS c (dbN c n)).1.length ≤ n + 1
    unfold dbS
    split
    · rw [List.length_append]; simp only [List.length_singleton]; omega
    · omega
end L2.TH
namespace L2.TH
open PySem L2 L2.DL
def lfD (o : Option (List Int)) : D := match o with
  | some e => rowD e
  | none => .non
theorem opp_em {c d : Int} : (c - d % c) % c = (0 - d) % c := by rw [opp_sb]; unfold sb; exact em_sub
theorem nz_filter : ∀ e : List Int, (!(e.filter fun s => s != 0).isEmpty) = nzB e
  | [] => rfl
  | s :: e => by
    have := nz_filter e
    unfold nzB at this ⊢
    rw [List.any_cons, ← this]
    rw [List.filter_cons]
    cases s != 0 <;> rfl
theorem nf_head {c : Int} (hc : 0 < c) {l : List Int} : (((sgA [-1, 0, 1] l.length).filter fun e => dotS l e % c == 0).filter nzB).head? = nf c l := by
  rw [List.filter_filter, List.head?_filter, ← nf_find hc]
  congr 1; funext e
  exact Bool.and_comm ..
theorem lf_head {c : Int} (hc : 0 < c) {sg l : List Int} : ((sgA sg l.length).filter fun e => dotS l e % c == 0).head? = lf c sg l 0 := by
  rw [List.head?_filter, lf_find hc l ⟨Int.le_refl _, hc⟩]
theorem dNe_rows {L : List (List Int)} {Q : D → Prop} : dNe (.lst (L.map rowD)) (.lst []) Q ↔ Q (.bl (!L.isEmpty)) := by
  have h1 : plns (L.map rowD) = true := plns_all fun x hx => by
    obtain ⟨e, _, rfl⟩ := List.mem_map.mp hx
    show pln (.tup (e.map .int)) = true
    simp [pln, plns_ints]
  have h2 : dpts (L.map rowD) ≤ 50 := dpts_all fun x hx => by
    obtain ⟨e, _, rfl⟩ := List.mem_map.mp hx
    show dpt (.tup (e.map .int)) ≤ 50
    simp [dpt, dpts_ints]
  show ((pln (.lst (L.map rowD)) = true ∧ pln (.lst []) = true ∧ dpt (.lst (L.map rowD)) ≤ 60 ∧ dpt (.lst []) ≤ 60) ∧ Q (.bl (!deq (.lst (L.map rowD)) (.lst [])))) ↔ _
  have e : deq (.lst (L.map rowD)) (.lst []) = L.isEmpty := by cases L <;> simp [deq, deqs]
  rw [e]
  refine ⟨fun q => q.2, fun q => ⟨⟨by simp [pln, h1], by simp [pln, plns], ?_, by simp [dpt, dpts]⟩, q⟩⟩
  simp only [dpt]
  omega
theorem dEq_rowsN {L : List (List Int)} {Q : D → Prop} : dEq (.lst (L.map rowD)) (.lst []) Q ↔ Q (.bl L.isEmpty) := by
  have h1 : plns (L.map rowD) = true := plns_all fun x hx => by
    obtain ⟨e, _, rfl⟩ := List.mem_map.mp hx
    show pln (.tup (e.map .int)) = true
    simp [pln, plns_ints]
  have h2 : dpts (L.map rowD) ≤ 50 := dpts_all fun x hx => by
    obtain ⟨e, _, rfl⟩ := List.mem_map.mp hx
    show dpt (.tup (e.map .int)) ≤ 50
    simp [dpt, dpts_ints]
  rw [dEq_lstN h1 h2]
  cases L <;> rfl
theorem smD_row {e : List Int} (h : ∀ s ∈ e, s = -1 ∨ s = 0 ∨ s = 1) (hl : e.length ≤ 90) : smD (rowD e) := smD_ints (fun n hn => by have := h n hn; omega) hl
theorem smD_lf {c : Int} (hc : 0 < c) {sg l : List Int} (hg : okG sg) (hl : l.length ≤ 24) : smD (lfD (lf c sg l 0)) := by
  cases e : lf c sg l 0 with
  | none => exact smD_non
  | some q =>
    rw [← lf_find hc l ⟨Int.le_refl _, hc⟩] at e
    obtain ⟨h1, h2⟩ := sg_len (List.mem_of_find?_eq_some e)
    exact smD_row (fun s hs => hg s (h2 s hs)) (by omega)
theorem okG2 : okG [-1, 1] := by
  intro s hs
  simp only [List.mem_cons, List.mem_nil_iff, or_false] at hs
  omega
theorem okG3 : okG [-1, 0, 1] := by
  intro s hs
  simp only [List.mem_cons, List.mem_nil_iff, or_false] at hs
  omega
theorem smD_nf {c : Int} (hc : 0 < c) {l : List Int} (hl : l.length ≤ 24) : smD (lfD (nf c l)) := by
  cases e : nf c l with
  | none => exact smD_non
  | some q =>
    rw [← nf_find hc] at e
    obtain ⟨h1, h2⟩ := sg_len (List.mem_of_find?_eq_some e)
    exact smD_row (fun s hs => okG3 s (h2 s hs)) (by omega)
end L2.TH
namespace L2.TH
theorem first_true {f : Nat → Bool} : ∀ n : Nat, (∀ i, i < n → f i = false) ∨ ∃ m, m < n ∧ f m = true ∧ ∀ j, j < m → f j = false
  | 0 => .inl fun i h => absurd h (Nat.not_lt_zero _)
  | n + 1 => by
    rcases first_true (f := f) n with h | ⟨m, h1, h2, h3⟩
    · cases e : f n with
      | true => exact .inr ⟨n, by omega, e, h⟩
      | false =>
        refine .inl fun i hi => ?_
        rcases Nat.lt_or_eq_of_le (show i ≤ n by omega) with h4 | h4
        · exact h i h4
        · rw [h4]; exact e
    · exact .inr ⟨m, by omega, h2, h3⟩
end L2.TH
namespace L2.TH
open PySem L2 L2.DL
/-! ### how many nought picks at least -/
def ngL (c : Int) (l : List Int) : List Int := l.map fun a => (-a) % c
theorem mB' {c : Int} (hc : 0 < c) (y : Int) : 0 ≤ y % c ∧ y % c < c := ⟨Int.emod_nonneg _ (by omega), Int.emod_lt_of_pos _ hc⟩
theorem tk_flip {c : Int} (hc : 0 < c) {B : List Int} : ∀ (A : List Int) {k : Int}, 0 ≤ k ∧ k < c → tk c (ngL c A ++ B) k = tk c (A ++ B) ((k + A.sum) % c)
  | [], k, hk => by
    show tk c B k = tk c B ((k + 0) % c)
    rw [Int.add_zero, Int.emod_eq_of_lt hk.1 hk.2]
  | a :: A, k, hk => by
    show tk c ((-a) % c :: (ngL c A ++ B)) k = tk c (a :: (A ++ B)) ((k + (a :: A).sum) % c)
    rw [tk_cons hc hk, tk_cons hc (mB' hc _), tk_flip hc A hk, tk_flip hc A (by unfold sb; exact mB' hc _), List.sum_cons]
    unfold sb
    rw [Int.emod_add_emod, show k - -a % c + A.sum = k + A.sum - -a % c from by omega, em_sub, Int.emod_sub_emod, show k + A.sum - -a = k + (a + A.sum) from by omega, show k + (a + A.sum) - a = k + A.sum from by omega]
    omega
theorem sum_take_seg {l : List Int} {i j : Nat} (h : i ≤ j) : (l.take j).sum = (l.take i).sum + ((l.take j).drop i).sum := by
  rw [← List.sum_append]
  conv => lhs; rw [← List.take_append_drop i (l.take j), List.take_take, Nat.min_eq_left h]
theorem seg_nought {c : Int} (hc : 0 < c) {l : List Int} (h : c ≤ l.length) : ∃ P x A R, l = P ++ x :: A ++ R ∧ (x + A.sum) % c = 0 := by
  obtain ⟨a, ha, b, hb, ne, e⟩ := ph (c := c) hc (L := List.range (l.length + 1)) (f := fun i => (l.take i).sum % c) List.nodup_range (fun a _ => mB' hc _) (by rw [List.length_range]; omega)
  rw [List.mem_range] at ha hb
  have key : ∀ i j : Nat, i < j → j ≤ l.length → (l.take i).sum % c = (l.take j).sum % c → ∃ P x A R, l = P ++ x :: A ++ R ∧ (x + A.sum) % c = 0 := fun i j hij hj e => by
    have hd : (l.take j).drop i ≠ [] := fun z => by
      have := congrArg List.length z
      rw [List.length_drop, List.length_take, List.length_nil] at this
      omega
    obtain ⟨x, A, hx⟩ : ∃ x A, (l.take j).drop i = x :: A := by
      cases q : (l.take j).drop i with
      | nil => exact absurd q hd
      | cons x A => exact ⟨x, A, rfl⟩
    refine ⟨l.take i, x, A, l.drop j, ?_, ?_⟩
    · rw [← hx]
      have : (l.take j).take i = l.take i := by rw [List.take_take, Nat.min_eq_left (by omega)]
      rw [← this, List.take_append_drop, List.take_append_drop]
    · have := sum_take_seg (l := l) (i := i) (j := j) (by omega)
      rw [hx, List.sum_cons] at this
      rw [show x + A.sum = (l.take j).sum - (l.take i).sum from by omega, Int.sub_emod, e, Int.sub_self, Int.zero_emod]
  rcases Nat.lt_or_gt_of_ne ne with h1 | h1
  · exact key a b h1 (by omega) e
  · exact key b a h1 (by omega) e.symm
theorem olson {c : Int} (hc : 0 < c) : ∀ (n : Nat) (l : List Int), l.length = n → c ≤ (n : Int) + 1 → ((2 ^ (n + 1 - c.toNat) : Nat) : Int) ≤ tk c l 0
  | 0, l, hl, h => by
    have := tk_low hc l (k := 0) ⟨Int.le_refl _, hc⟩
    rw [if_pos rfl] at this
    rw [show 0 + 1 - c.toNat = 0 from by omega]
    exact this
  | n + 1, l, hl, h => by
    by_cases hn : c ≤ (n : Int) + 1
    · obtain ⟨P, x, A, R, e, hs⟩ := seg_nought hc (l := l) (by rw [hl]; omega)
      have pm : l.Perm (x :: (A ++ (P ++ R))) := by
        rw [e]
        have : (P ++ x :: A ++ R).Perm (x :: A ++ (P ++ R)) := by
          rw [List.append_assoc]
          exact (List.perm_append_comm_assoc ..)
        exact this
      have hlen : (A ++ (P ++ R)).length = n := by
        have := pm.length_eq
        rw [hl, List.length_cons] at this
        omega
      have z : (0 : Int) ≤ 0 ∧ (0 : Int) < c := ⟨Int.le_refl _, hc⟩
      have i1 := olson hc n _ hlen hn
      have i2 := olson hc n (ngL c A ++ (P ++ R)) (by rw [← hlen]; unfold ngL; simp only [List.length_append, List.length_map]) hn
      rw [tk_flip hc A z, Int.zero_add] at i2
      have e2 : A.sum % c = sb c 0 x := by
        unfold sb
        have := Int.emod_emod_of_dvd
        have q : (A.sum - (0 - x)) % c = 0 := by rw [show A.sum - (0 - x) = x + A.sum from by omega]; exact hs
        exact (Int.emod_emod_of_dvd A.sum (Int.dvd_refl c)).symm.trans (by
          rw [Int.emod_emod]
          exact Int.emod_eq_emod_iff_emod_sub_eq_zero.mpr q)
      rw [e2] at i2
      rw [tk_perm hc pm z, tk_cons hc z, show n + 1 + 1 - c.toNat = (n + 1 - c.toNat) + 1 from by omega, Nat.pow_succ]
      omega
    · have := tk_low hc l (k := 0) ⟨Int.le_refl _, hc⟩
      rw [if_pos rfl] at this
      rw [show n + 1 + 1 - c.toNat = 0 from by omega]
      exact this
/-! ### all together -/
theorem zr_nodup {lo : Int} {n : Nat} : (zr lo n).Nodup := by
  unfold zr List.Nodup
  rw [List.pairwise_map]
  exact List.Pairwise.imp (fun {a b} h e => h (by omega)) List.nodup_range
theorem perm_of {a b : List Int} (h : a.Nodup) (s : ∀ x ∈ a, x ∈ b) (hb : b.Nodup) (hl : a.length = b.length) : a.Perm b := by
  refine (List.perm_ext_iff_of_nodup h hb).mpr fun x => ⟨s x, fun hx => ?_⟩
  refine Classical.byContradiction fun nx => ?_
  have := nd_le (a := x :: a) (b := b) (List.nodup_cons.mpr ⟨nx, h⟩) (fun y hy => by
    rcases List.mem_cons.mp hy with rfl | hy
    · exact hx
    · exact s y hy)
  rw [List.length_cons] at this
  omega
theorem shift_perm {c x : Int} (hc : 0 < c) : ((zr 0 c.toNat).map fun k => (k - x) % c).Perm (zr 0 c.toNat) := by
  refine perm_of ?_ (fun y hy => ?_) zr_nodup (by rw [List.length_map])
  · unfold List.Nodup
    rw [List.pairwise_map]
    refine List.Pairwise.imp_of_mem (fun {a b} ha hb h e => h ?_) zr_nodup
    rw [mem_zr] at ha hb
    have h1 : ((a - x) % c + x) % c = a := by rw [Int.emod_add_emod, show a - x + x = a from by omega, Int.emod_eq_of_lt (by omega) (by omega)]
    have h2 : ((b - x) % c + x) % c = b := by rw [Int.emod_add_emod, show b - x + x = b from by omega, Int.emod_eq_of_lt (by omega) (by omega)]
    rw [← h1, e, h2]
  · obtain ⟨k, hk, rfl⟩ := List.mem_map.mp hy
    have := mB' hc (k - x)
    rw [mem_zr]; omega
theorem sumI_perm {a b : List Int} (h : a.Perm b) : a.sum = b.sum := by
  induction h with
  | nil => rfl
  | cons x _ ih => rw [List.sum_cons, List.sum_cons, ih]
  | swap x y l => simp only [List.sum_cons]; omega
  | trans _ _ i1 i2 => rw [i1, i2]
theorem gI_id {l : List Int} {n : Nat} (h : l.length = n) : (zr 0 n).map (gI l) = l := by
  refine List.ext_getElem? fun i => ?_
  rw [List.getElem?_map, zr_at]
  by_cases hi : i < n
  · rw [if_pos hi]
    show some (gI l (0 + (i : Int))) = _
    rw [Int.zero_add]
    obtain ⟨x, hx⟩ : ∃ x, l[i]? = some x := ⟨_, List.getElem?_eq_getElem (by omega)⟩
    rw [hx, gI_get hx]
  · rw [if_neg hi, List.getElem?_eq_none (by omega)]; rfl
theorem ty_sum {c : Int} (hc : 0 < c) : ∀ ns : List Int, (tyF c ns).sum = ((2 ^ ns.length : Nat) : Int) := by
  refine rev_ind ?_ (fun l x ih => ?_)
  · show (1 :: List.replicate (c - 1).toNat 0 : List Int).sum = 1
    rw [List.sum_cons]
    have : ∀ n : Nat, (List.replicate n (0 : Int)).sum = 0 := fun n => by
      induction n with
      | zero => rfl
      | succ n ih => rw [List.replicate_succ, List.sum_cons, ih]; rfl
    rw [this]; rfl
  · rw [tyF_app]
    unfold tyS
    have add : ∀ (L : List Int) (f g : Int → Int), (L.map fun k => f k + g k).sum = (L.map f).sum + (L.map g).sum := fun L f g => by
      induction L with
      | nil => rfl
      | cons a L ih => simp only [List.map_cons, List.sum_cons, ih]; omega
    rw [add (zr 0 c.toNat) (gI (tyF c l)) (fun k => gI (tyF c l) ((k - x) % c)), show (zr 0 c.toNat).map (fun k => gI (tyF c l) ((k - x) % c)) = ((zr 0 c.toNat).map fun k => (k - x) % c).map (gI (tyF c l)) from by rw [List.map_map]; rfl,
      sumI_perm ((shift_perm (x := x) hc).map (gI (tyF c l))), gI_id (tyF_len hc), ih, List.length_append, List.length_singleton, Nat.pow_succ]
    omega
/-! ### as lists -/
theorem ty_ext {c : Int} (hc : 0 < c) {a b : List Int} (h : ∀ k, 0 ≤ k → k < c → tk c a k = tk c b k) : tyF c a = tyF c b := by
  rw [← gI_id (tyF_len hc (ns := a)), ← gI_id (tyF_len hc (ns := b))]
  refine List.map_congr_left fun k hk => ?_
  rw [mem_zr] at hk
  exact h k hk.1 (by omega)
theorem ty_perm {c : Int} (hc : 0 < c) {a b : List Int} (h : a.Perm b) : tyF c a = tyF c b := ty_ext hc fun k h1 h2 => tk_perm hc h ⟨h1, h2⟩
theorem ty_zero {c : Int} (hc : 0 < c) {l : List Int} : tyF c (l ++ [0]) = (tyF c l).map fun o => 2 * o := by
  rw [← gI_id (tyF_len hc (ns := l ++ [0]))]
  conv => rhs; rw [← gI_id (tyF_len hc (ns := l)), List.map_map]
  refine List.map_congr_left fun k hk => ?_
  rw [mem_zr] at hk
  show tk c (l ++ [0]) k = 2 * tk c l k
  rw [tk_snoc ⟨hk.1, by omega⟩, show sb c k 0 = k from by unfold sb; rw [Int.sub_zero, Int.emod_eq_of_lt hk.1 (by omega)]]
  omega
/-- the counts, put where a unit leads -/
def dueT (c u : Int) (ns : List Int) (j : Nat) : List Int := (zr 0 c.toNat).map fun i => if ((zr 0 j).any fun h => h * u % c == i) then tk c (tmul c ns u) i else 0
theorem due_0 {c u : Int} {ns : List Int} : dueT c u ns 0 = List.replicate c.toNat 0 := by
  unfold dueT
  rw [show (zr 0 0) = [] from rfl]
  refine List.ext_getElem? fun i => ?_
  rw [List.getElem?_map, zr_at, List.getElem?_replicate]
  split <;> rfl
theorem due_step {c u w : Int} (hc : 0 < c) (hw : u * w % c = 1) {ns : List Int} {j : Nat} (hj : (j : Int) < c) : (dueT c u ns j).set ((j : Int) * u % c).toNat (tk c ns j) = dueT c u ns (j + 1) := by
  have b := mB' hc ((j : Int) * u)
  refine List.ext_getElem? fun i => ?_
  have ez : zr 0 (j + 1) = zr 0 j ++ [(j : Int)] := by
    rw [zr_split (m := j) (by omega), show j + 1 - j - 1 = 0 from by omega, Int.zero_add]; rfl
  have et : tk c ns j = tk c (tmul c ns u) ((j : Int) * u % c) := (tk_unit hc hw ns ⟨by omega, hj⟩).symm
  unfold dueT
  rw [List.getElem?_set, List.length_map, zr_len, List.getElem?_map, List.getElem?_map, zr_at]
  by_cases hi : i < c.toNat
  · rw [if_pos hi]
    show _ = some (if ((zr 0 (j + 1)).any fun h => h * u % c == 0 + (i : Int)) then tk c (tmul c ns u) (0 + (i : Int)) else 0)
    rw [ez, List.any_append, Int.zero_add]
    by_cases h : ((j : Int) * u % c).toNat = i
    · rw [if_pos h, if_pos (by omega)]
      have e : (j : Int) * u % c = (i : Int) := by omega
      rw [et, e, show ([(j : Int)].any fun h => h * u % c == (i : Int)) = true from by simp [e], Bool.or_true, if_pos rfl]
    · rw [if_neg h, show ([(j : Int)].any fun h => h * u % c == (i : Int)) = false from by
        simp only [List.any_cons, List.any_nil, Bool.or_false, beq_eq_false_iff_ne]
        omega, Bool.or_false]
      rfl
  · rw [if_neg hi]
    split
    · rw [if_neg (by omega)]; rfl
    · rfl
theorem due_all {c u w : Int} (hc : 0 < c) (hw : u * w % c = 1) {ns : List Int} : dueT c u ns c.toNat = tyF c (tmul c ns u) := by
  unfold dueT
  rw [← gI_id (tyF_len hc (ns := tmul c ns u))]
  refine List.map_congr_left fun i hi => ?_
  rw [mem_zr] at hi
  rw [if_pos]
  · rfl
  · rw [List.any_eq_true]
    have b := mB' hc (i * w)
    refine ⟨i * w % c, mem_zr.mpr (by omega), ?_⟩
    rw [beq_iff_eq, em1, Int.mul_assoc, Int.mul_comm w u, Int.mul_emod, hw, Int.mul_one, Int.emod_emod, Int.emod_eq_of_lt hi.1 (by omega)]
end L2.TH
namespace L2.TH
theorem er_perm {α : Type} : ∀ {l : List α} {i : Nat} (h : i < l.length), (l[i] :: l.eraseIdx i).Perm l
  | x :: l, 0, _ => List.Perm.refl _
  | x :: l, i + 1, h => by
    have h' : i < l.length := by simpa using h
    show (l[i] :: x :: l.eraseIdx i).Perm (x :: l)
    exact (List.Perm.swap ..).trans (List.Perm.cons x (er_perm (by simpa using h)))
end L2.TH
namespace L2.TH
open PySem L2 L2.DL
def unI : D → Int
  | .int n => n
  | _ => 0
theorem perm_ints {ys : List D} {ns : List Int} (h : ys.Perm (ns.map .int)) : ∃ ms : List Int, ys = ms.map .int ∧ ms.Perm ns := by
  obtain ⟨ms, rfl, _⟩ := L2.DL.ints_of (P := fun _ => True) (vs := ys) fun v hv => by
    obtain ⟨n, _, rfl⟩ := List.mem_map.mp (h.mem_iff.mp hv)
    exact ⟨n, rfl, True.intro⟩
  refine ⟨ms, rfl, ?_⟩
  have := h.map unI
  rw [List.map_map, List.map_map, show unI ∘ D.int = id from rfl, List.map_id, List.map_id] at this
  exact this
end L2.TH
namespace L2.TH
open PySem L2 L2.DL
/-! ### orders of all hours -/
def isO (c : Int) (ns : List Int) : Prop := ns.Perm (zr 0 c.toNat)
theorem isO_len {c : Int} {ns : List Int} (h : isO c ns) : ns.length = c.toNat := by rw [h.length_eq, zr_len]
theorem isO_mem {c : Int} {ns : List Int} (h : isO c ns) {x : Int} (hx : x ∈ ns) : 0 ≤ x ∧ x < c := by
  have := h.mem_iff.mp hx
  rw [mem_zr] at this
  omega
theorem isO_nd {c : Int} {ns : List Int} (h : isO c ns) : ns.Nodup := h.nodup_iff.mpr zr_nodup
theorem isO_ok {c : Int} {ns : List Int} (hc : 2 ≤ c ∧ c ≤ 24) (h : isO c ns) : okR c ns := ⟨hc, by rw [isO_len h]; omega, fun _ hx => isO_mem h hx⟩
def gcdI (a b : Int) : Int := ((Nat.gcd a.toNat b.toNat : Nat) : Int)
theorem gcdI_step {a b : Int} (ha : 0 ≤ a) (hb : 0 < b) : gcdI b (a % b) = gcdI a b := by
  obtain ⟨m, rfl⟩ := Int.eq_ofNat_of_zero_le ha
  obtain ⟨n, rfl⟩ := Int.eq_ofNat_of_zero_le (Int.le_of_lt hb)
  unfold gcdI
  rw [← Int.natCast_emod, Int.toNat_natCast, Int.toNat_natCast, Int.toNat_natCast]
  congr 1
  rw [Nat.gcd_comm n, ← Nat.gcd_rec, Nat.gcd_comm]
theorem gcdI_zero {a : Int} (ha : 0 ≤ a) : gcdI a 0 = a := by
  unfold gcdI
  show ((Nat.gcd a.toNat 0 : Nat) : Int) = a
  rw [Nat.gcd_zero_right]; omega
def unL (c : Int) : List Int := (zr 1 (c - 1).toNat).filter fun k => gcdI c k == 1
theorem unL_in {c u : Int} (hc : 2 ≤ c) (h : u ∈ unL c) : u ∈ uN c := by
  obtain ⟨h1, h2⟩ := List.mem_filter.mp h
  rw [mem_zr] at h1
  refine List.mem_filter.mpr ⟨mem_zr.mpr (by omega), ?_⟩
  have e : (Int.gcd u c : Int) = gcdI c u := by
    unfold gcdI Int.gcd
    rw [Nat.gcd_comm, show u.natAbs = u.toNat from by omega, show c.natAbs = c.toNat from by omega]
  rw [e]
  exact h2
theorem unL_ne {c : Int} (hc : 2 ≤ c) : unL c ≠ [] := fun h => by
  have : (1 : Int) ∈ unL c := List.mem_filter.mpr ⟨mem_zr.mpr (by omega), by
    unfold gcdI
    rw [show (1 : Int).toNat = 1 from rfl, Nat.gcd_one_right]; rfl⟩
  rw [h] at this
  exact absurd this List.not_mem_nil
theorem line_perm {c u f : Int} (hc : 2 ≤ c ∧ c ≤ 24) (hu : u ∈ uN c) : isO c ((zr 0 c.toNat).map fun k => (u * k + f) % c) := by
  have h0 : 0 < c := by omega
  obtain ⟨w, _, hw⟩ := ((uN_ok hc).2 u hu).2
  refine perm_of ?_ (fun y hy => ?_) zr_nodup (by rw [List.length_map])
  · unfold List.Nodup
    rw [List.pairwise_map]
    refine List.Pairwise.imp_of_mem (fun {a b} ha hb h e => h ?_) zr_nodup
    rw [mem_zr] at ha hb
    have key : ∀ k, 0 ≤ k → k < c → (((u * k + f) % c - f) * w) % c = k := fun k h1 h2 => by
      rw [Int.mul_emod, Int.emod_sub_emod, show u * k + f - f = u * k from by omega, ← Int.mul_emod, Int.mul_assoc, Int.mul_comm k w, ← Int.mul_assoc, Int.mul_emod, hw, Int.one_mul, Int.emod_emod, Int.emod_eq_of_lt h1 h2]
    rw [← key a (by omega) (by omega), e, key b (by omega) (by omega)]
  · obtain ⟨k, _, rfl⟩ := List.mem_map.mp hy
    have := mB' h0 (u * k + f)
    rw [mem_zr]; omega
theorem enD_ints {ns : List Int} : enD (ns.map D.int) = (zr 0 ns.length).map fun k => D.tup [.int k, .int (gI ns k)] := by
  refine List.ext_getElem? fun i => ?_
  rw [enD_get, List.getElem?_map, List.getElem?_map, zr_at]
  by_cases hi : i < ns.length
  · rw [if_pos hi]
    obtain ⟨x, hx⟩ : ∃ x, ns[i]? = some x := ⟨_, List.getElem?_eq_getElem hi⟩
    rw [hx]
    show some (D.tup [.int (i : Nat), .int x]) = some (D.tup [.int (0 + (i : Int)), .int (gI ns (0 + (i : Int)))])
    rw [Int.zero_add, gI_get hx]
  · rw [if_neg hi, List.getElem?_eq_none (by omega)]; rfl
/-- whether no two are alike -/
def unl (l : List Int) : Bool := ((LM.ddup l).length : Int) == (l.length : Int)
def fuL (c : Int) (ns : List Int) : List Int := (zr 0 ns.length).map fun k => (k + gI ns k) % c
def doL (c : Int) (ns : List Int) : List Int := (zr 0 ns.length).map fun k => (gI ns k - k) % c
def notP (c : Int) (x : D) (bs : List D) : Bool := numB x (.int 0) (.int (c - 1)) && !(bs.any fun z => deq z x)
theorem order_ok {c : Int} {ns : List Int} (h0 : 0 ≤ c) (h : isO c ns) : okAll (.tup (ns.map .int)) (.int c) (notP c) = true := by
  unfold okAll
  rw [List.all_eq_true]
  intro i hi
  rw [List.mem_range, List.length_map] at hi
  have hl := isO_len h
  unfold badB mB notP
  rw [List.getElem?_map, List.getElem?_eq_getElem hi]
  simp only [Option.map_some]
  rw [decide_eq_false (by omega), Bool.false_or, Bool.not_not, Bool.and_eq_true]
  have b := isO_mem h (List.getElem_mem hi)
  refine ⟨by unfold numB loB hiB; simp only [Bool.and_eq_true, decide_eq_true_eq]; omega, ?_⟩
  rw [Bool.not_eq_true', List.any_eq_false, ← List.map_take]
  intro z hz e
  obtain ⟨y, hy, rfl⟩ := List.mem_map.mp hz
  rw [deq_int, beq_iff_eq] at e
  obtain ⟨j, hj, ej⟩ := List.getElem_of_mem hy
  rw [List.length_take] at hj
  rw [List.getElem_take] at ej
  have := List.pairwise_iff_getElem.mp (isO_nd h) j i (by omega) hi (by omega)
  exact this (by rw [ej, e])
theorem dIn_tup {k : Int} {xs : List Int} {Q : D → Prop} : dIn (.int k) (.tup (xs.map .int)) Q ↔ Q (.bl ((xs.map D.int).any fun z => deq z (.int k))) := by
  show ((flatD (.int k) = true ∧ (xs.map D.int).all flatD = true) ∧ Q (.bl ((xs.map D.int).any fun z => deq z (.int k)))) ↔ _
  exact ⟨fun q => q.2, fun q => ⟨⟨rfl, by rw [List.all_map, List.all_eq_true]; intro _ _; rfl⟩, q⟩⟩
end L2.TH
namespace L2.TH
/-- how many turns of the greatest common divisor -/
def gs (a b : Nat) : Nat := if h : b = 0 then 0 else gs b (a % b) + 1
termination_by b
decreasing_by exact Nat.mod_lt _ (by omega)
theorem gs_zero {a b : Nat} (h : gs a b = 0) : b = 0 := by
  unfold gs at h
  split at h
  · assumption
  · omega
theorem gs_succ {a b n : Nat} (h : gs a b = n + 1) : 0 < b ∧ gs b (a % b) = n := by
  unfold gs at h
  split at h
  · omega
  · exact ⟨by omega, by omega⟩
end L2.TH
namespace K33
open PySem L2 L2.DL
def top (i : Nat) : Stmt := PySem.Challenge.pw_hourpicks_k33_whole_full_turns_and_doubl.main.body.getD i (.Pass ⟨0, 0, 0, 0⟩)
def TB : List FI := [⟨"is_whole", ["value"], [], false⟩, ⟨"is_number", ["value", "low", "high"], [], false⟩, ⟨"is_tuple_of", ["value", "many"], [], false⟩, ⟨"is_hour", ["clock", "value"], [], false⟩, ⟨"is_clock_form", ["value"], [], false⟩, ⟨"wrong_at", ["value", "most", "is_right"], [], true⟩, ⟨"wrong_for_all", ["value", "many", "is_right"], [], true⟩, ⟨"check_clock", ["value"], [], false⟩, ⟨"check_order_of", ["clock", "value"], [], false⟩, ⟨"check_order", ["clock", "order"], [], false⟩, ⟨"are_all_unlike", ["values"], [], false⟩, ⟨"is_full_in", ["clock", "order"], [], false⟩, ⟨"is_double_in", ["clock", "order"], [], false⟩, ⟨"is_full_turn", ["clock", "order"], [["order", "clock"]], false⟩, ⟨"is_double_turn", ["clock", "order"], [["order", "clock"]], false⟩, ⟨"_law_pail", ["script", "turn"], [], false⟩, ⟨"_law_deal", ["pail", "top"], [], false⟩, ⟨"_law_any", ["pail", "some"], [], false⟩, ⟨"_law_shuffled", ["pail", "some"], [], false⟩, ⟨"_law_divisor", ["a", "b"], [], false⟩, ⟨"_law_right", ["pail"], [], false⟩, ⟨"law", ["script"], [], false⟩]
def GL : List (Str × DC) := [("LEAST_CLOCK", (.int 2)), ("MOST_CLOCK", (.int 24))]
def BL : List Str := ["len", "tuple", "list", "abs", "max", "min", "int", "divmod", "all", "repr", "range", "isinstance", "bool", "enumerate", "set"]
def GB : List (Str × String) := []
def GG (n : Nat) : Glo := ⟨TB.take n, GL, BL, GB⟩
/-! lambda 0 of check_order_of: slots 0:each 1:before 2:clock -/
def dl_0 : DE := (.and (.callP 3 2 (.cons (.var 2) (.cons (.var 0) .nil))) (.bin .notIn (.var 0) (.var 1)))
def L_0 : LamK := ⟨{ G := GG 4, N := ["each", "before", "clock"], sc := ⟨.function, [("each", .local), ("before", .local), ("clock", .free), ("is_hour", .globalImplicit)], false, false, []⟩, fn := fun _ => false, hof := true }, 20, dl_0, ["each", "before"], ["clock"]⟩
def LAMS : List LamK := [L_0]
/-! 0 is_whole(value) slots 0:value -/
def N_is_whole : List Str := ["value"]
def S_is_whole : Sta := { G := GG 0, N := N_is_whole, sc := defScope (top 1) }
def d_is_whole : DS := (.seq (.ret (.and (.isi "int" (.var 0)) (.not (.isi "bool" (.var 0))))) .next)
theorem c_is_whole : cBody 30 S_is_whole (defBody (top 1)) = d_is_whole := by decide +kernel
/-! 1 is_number(value, low, high) slots 0:value 1:low 2:high -/
def N_is_number : List Str := ["value", "low", "high"]
def S_is_number : Sta := { G := GG 1, N := N_is_number, sc := defScope (top 2) }
def d_is_number : DS := (.seq (.ifs (.or (.not (.val (.call 0 1 (.cons (.var 0) .nil)))) (.and (.val (.bin .isNot (.var 1) .non)) (.val (.bin .lt (.var 0) (.var 1))))) (.seq (.ret (.bl false)) .next) .next) (.seq (.ret (.or (.bin .is (.var 2) .non) (.bin .le (.var 0) (.var 2)))) .next))
theorem c_is_number : cBody 30 S_is_number (defBody (top 2)) = d_is_number := by decide +kernel
/-! 2 is_tuple_of(value, many) slots 0:value 1:many -/
def N_is_tuple_of : List Str := ["value", "many"]
def S_is_tuple_of : Sta := { G := GG 2, N := N_is_tuple_of, sc := defScope (top 3) }
def d_is_tuple_of : DS := (.seq (.ret (.and (.isi "tuple" (.var 0)) (.bin .eq (.blt .len (.cons (.var 0) .nil)) (.var 1)))) .next)
theorem c_is_tuple_of : cBody 30 S_is_tuple_of (defBody (top 3)) = d_is_tuple_of := by decide +kernel
/-! 3 is_hour(clock, value) slots 0:clock 1:value -/
def N_is_hour : List Str := ["clock", "value"]
def S_is_hour : Sta := { G := GG 3, N := N_is_hour, sc := defScope (top 10) }
def d_is_hour : DS := (.seq (.ret (.call 1 3 (.cons (.var 1) (.cons (.int 0) (.cons (.bin .sub (.var 0) (.int 1)) .nil))))) .next)
theorem c_is_hour : cBody 30 S_is_hour (defBody (top 10)) = d_is_hour := by decide +kernel
/-! 4 is_clock_form(value) slots 0:value -/
def N_is_clock_form : List Str := ["value"]
def S_is_clock_form : Sta := { G := GG 4, N := N_is_clock_form, sc := defScope (top 9) }
def d_is_clock_form : DS := (.seq (.ret (.call 1 3 (.cons (.var 0) (.cons (.int 2) (.cons (.int 24) .nil))))) .next)
theorem c_is_clock_form : cBody 30 S_is_clock_form (defBody (top 9)) = d_is_clock_form := by decide +kernel
/-! 5 wrong_at(value, most, is_right) slots 0:value 1:most 2:is_right 3:at 4:each -/
def N_wrong_at : List Str := ["value", "most", "is_right", "at", "each"]
def S_wrong_at : Sta := { G := GG 5, N := N_wrong_at, sc := defScope (top 4), hof := true, hv := true }
def d_wrong_at : DS := (.seq (.ifs (.not (.val (.isi "tuple" (.var 0)))) (.seq (.ret (.lst (.cons .non .nil))) .next) .next) (.seq (.for_ (.tp (.cons (.nm 3) (.cons (.nm 4) .nil))) (.enum (.cons (.var 0) .nil)) (.seq (.ifs (.or (.and (.val (.bin .isNot (.var 1) .non)) (.val (.bin .ge (.var 3) (.var 1)))) (.not (.val (.callV 2 (.cons (.var 4) (.cons (.sl (.var 0) .none (.some (.var 3))) .nil)))))) (.seq (.ret (.lst (.cons (.var 3) .nil))) .next) .next) .next)) (.seq (.ret (.lst .nil)) .next)))
theorem c_wrong_at : cBody 30 S_wrong_at (defBody (top 4)) = d_wrong_at := by decide +kernel
/-! 6 wrong_for_all(value, many, is_right) slots 0:value 1:many 2:is_right -/
def N_wrong_for_all : List Str := ["value", "many", "is_right"]
def S_wrong_for_all : Sta := { G := GG 6, N := N_wrong_for_all, sc := defScope (top 5), hof := true, hv := true }
def d_wrong_for_all : DS := (.seq (.ret (.ite (.val (.callP 2 2 (.cons (.var 0) (.cons (.var 1) .nil)))) (.callQ 5 3 (.cons (.var 0) (.cons (.var 1) (.cons (.var 2) .nil)))) (.lst (.cons .non .nil)))) .next)
theorem c_wrong_for_all : cBody 30 S_wrong_for_all (defBody (top 5)) = d_wrong_for_all := by decide +kernel
/-! 7 check_clock(value) slots 0:value -/
def N_check_clock : List Str := ["value"]
def S_check_clock : Sta := { G := GG 7, N := N_check_clock, sc := defScope (top 16) }
def d_check_clock : DS := (.seq (.ifs (.not (.val (.call 4 1 (.cons (.var 0) .nil)))) (.seq .stuck .next) .next) .next)
theorem c_check_clock : cBody 30 S_check_clock (defBody (top 16)) = d_check_clock := by decide +kernel
/-! 8 check_order_of(clock, value) slots 0:clock 1:value 2:at -/
def N_check_order_of : List Str := ["clock", "value", "at"]
def S_check_order_of : Sta := { G := GG 8, N := N_check_order_of, sc := defScope (top 17), lamk := lamkOf 0 L_0 }
def d_check_order_of : DS := (.seq (.for_ (.nm 2) (.items (.callL 6 3 (.cons (.var 1) (.cons (.var 0) .nil)) 0 [0])) (.seq .stuck .next)) .next)
theorem c_check_order_of : cBody 30 S_check_order_of (defBody (top 17)) = d_check_order_of := by decide +kernel
/-! 9 check_order(clock, order) slots 0:clock 1:order -/
def N_check_order : List Str := ["clock", "order"]
def S_check_order : Sta := { G := GG 9, N := N_check_order, sc := defScope (top 18) }
def d_check_order : DS := (.seq (.exp (.call 7 1 (.cons (.var 0) .nil))) (.seq (.exp (.call 8 2 (.cons (.var 0) (.cons (.var 1) .nil)))) .next))
theorem c_check_order : cBody 30 S_check_order (defBody (top 18)) = d_check_order := by decide +kernel
/-! 10 are_all_unlike(values) slots 0:values -/
def N_are_all_unlike : List Str := ["values"]
def S_are_all_unlike : Sta := { G := GG 10, N := N_are_all_unlike, sc := defScope (top 20) }
def d_are_all_unlike : DS := (.seq (.ret (.bin .eq (.lenset (.var 0)) (.blt .len (.cons (.var 0) .nil)))) .next)
theorem c_are_all_unlike : cBody 30 S_are_all_unlike (defBody (top 20)) = d_are_all_unlike := by decide +kernel
/-! 11 is_full_in(clock, order) slots 0:clock 1:order 2:at 3:hour -/
def N_is_full_in : List Str := ["clock", "order", "at", "hour"]
def S_is_full_in : Sta := { G := GG 11, N := N_is_full_in, sc := defScope (top 21) }
def d_is_full_in : DS := (.seq (.ret (.call 10 1 (.cons (.comp [2, 3] (.enum (.cons (.var 1) .nil)) (.tp (.cons (.nm 2) (.cons (.nm 3) .nil))) .yes (.bin .mod (.bin .add (.var 2) (.var 3)) (.var 0))) .nil))) .next)
theorem c_is_full_in : cBody 30 S_is_full_in (defBody (top 21)) = d_is_full_in := by decide +kernel
/-! 12 is_double_in(clock, order) slots 0:clock 1:order 2:at 3:hour -/
def N_is_double_in : List Str := ["clock", "order", "at", "hour"]
def S_is_double_in : Sta := { G := GG 12, N := N_is_double_in, sc := defScope (top 22) }
def d_is_double_in : DS := (.seq (.ret (.and (.call 11 2 (.cons (.var 0) (.cons (.var 1) .nil))) (.call 10 1 (.cons (.comp [2, 3] (.enum (.cons (.var 1) .nil)) (.tp (.cons (.nm 2) (.cons (.nm 3) .nil))) .yes (.bin .mod (.bin .sub (.var 3) (.var 2)) (.var 0))) .nil)))) .next)
theorem c_is_double_in : cBody 30 S_is_double_in (defBody (top 22)) = d_is_double_in := by decide +kernel
/-! 13 is_full_turn(clock, order) slots 0:clock 1:order -/
def N_is_full_turn : List Str := ["clock", "order"]
def S_is_full_turn : Sta := { G := GG 13, N := N_is_full_turn, sc := defScope (top 23) }
def d_is_full_turn : DS := (.seq (.exp (.call 9 2 (.cons (.var 0) (.cons (.var 1) .nil)))) (.seq (.ret (.call 11 2 (.cons (.var 0) (.cons (.var 1) .nil)))) .next))
theorem c_is_full_turn : cBody 30 S_is_full_turn (defBody (top 23)) = d_is_full_turn := by decide +kernel
/-! 14 is_double_turn(clock, order) slots 0:clock 1:order -/
def N_is_double_turn : List Str := ["clock", "order"]
def S_is_double_turn : Sta := { G := GG 14, N := N_is_double_turn, sc := defScope (top 24) }
def d_is_double_turn : DS := (.seq (.exp (.call 9 2 (.cons (.var 0) (.cons (.var 1) .nil)))) (.seq (.ret (.call 12 2 (.cons (.var 0) (.cons (.var 1) .nil)))) .next))
theorem c_is_double_turn : cBody 30 S_is_double_turn (defBody (top 24)) = d_is_double_turn := by decide +kernel
/-! 15 _law_pail(script, turn) slots 0:script 1:turn 2:mixed 3:cell 4:own -/
def N__law_pail : List Str := ["script", "turn", "mixed", "cell", "own"]
def S__law_pail : Sta := { G := GG 15, N := N__law_pail, sc := defScope (top 26), rw := true }
def d__law_pail : DS := (.seq (.asg (.nm 2) (.bin .add (.int 85009) (.bin .mul (.int 9803) (.var 1)))) (.seq (.for_ (.nm 3) (.items (.sl (.var 0) .none (.some (.int 12)))) (.seq (.asg (.nm 2) (.bin .mod (.blt .int (.cons (.bin .add (.bin .add (.bin .mul (.var 2) (.int 56003)) (.bin .mul (.bin .mod (.blt .int (.cons (.var 3) .nil)) (.int 2147483489)) (.int 13))) (.int 7)) .nil)) (.int 2147483489))) .next)) (.seq (.asg (.nm 4) (.ite (.val (.bin .lt (.var 1) (.blt .len (.cons (.var 0) .nil)))) (.blt .int (.cons (.ix (.var 0) (.var 1)) .nil)) (.int 0))) (.seq (.asg (.nm 2) (.bin .mod (.blt .int (.cons (.bin .add (.bin .add (.bin .mul (.var 2) (.int 89)) (.bin .mul (.bin .mod (.var 4) (.int 2147483489)) (.int 66029))) (.int 11)) .nil)) (.int 2147483489))) (.seq (.retW (.cons (.ite (.or (.val (.bin .lt (.var 4) (.int 0))) (.val (.bin .ge (.var 4) (.bin .pow (.int 10) (.int 15))))) (.blt .abs (.cons (.var 4) .nil)) (.int 0)) (.cons (.var 2) (.cons (.int 0) .nil)))) .next)))))
theorem c__law_pail : cBody 30 S__law_pail (defBody (top 26)) = d__law_pail := by decide +kernel
/-! 16 _law_deal(pail, top) slots 0:pail 1:top 2:figure 3:mixed -/
def N__law_deal : List Str := ["pail", "top", "figure", "mixed"]
def S__law_deal : Sta := { G := GG 16, N := N__law_deal, sc := defScope (top 27), wl := ["pail"] }
def d__law_deal : DS := (.seq (.ifs (.val (.bin .gt (.ix (.var 0) (.int 0)) (.int 0))) (.seq (.wdm 0 0 2 (.blt .divmod (.cons (.ix (.var 0) (.int 0)) (.cons (.var 1) .nil)))) (.seq (.ret (.var 2)) .next)) .next) (.seq (.wput 0 (.int 2) (.bin .add (.ix (.var 0) (.int 2)) (.int 1))) (.seq (.asg (.nm 3) (.bin .mod (.blt .int (.cons (.bin .add (.bin .mul (.ix (.var 0) (.int 1)) (.int 22501)) (.bin .mul (.int 10903) (.ix (.var 0) (.int 2)))) .nil)) (.int 2147483489))) (.seq (.wput 0 (.int 1) (.bin .mod (.blt .int (.cons (.bin .add (.bin .mul (.var 3) (.bin .add (.bin .mod (.blt .int (.cons (.var 3) .nil)) (.int 5023)) (.int 30011))) (.bin .mul (.int 31) (.ix (.var 0) (.int 2)))) .nil)) (.int 2147483489))) (.seq (.ret (.bin .mod (.blt .int (.cons (.bin .fdiv (.ix (.var 0) (.int 1)) (.int 389)) .nil)) (.var 1))) .next)))))
theorem c__law_deal : cBody 30 S__law_deal (defBody (top 27)) = d__law_deal := by decide +kernel
/-! 17 _law_any(pail, some) slots 0:pail 1:some -/
def N__law_any : List Str := ["pail", "some"]
def S__law_any : Sta := { G := GG 17, N := N__law_any, sc := defScope (top 28) }
def d__law_any : DS := (.seq (.ret (.ix (.var 1) (.call 16 2 (.cons (.var 0) (.cons (.blt .len (.cons (.var 1) .nil)) .nil))))) .next)
theorem c__law_any : cBody 30 S__law_any (defBody (top 28)) = d__law_any := by decide +kernel
/-! 18 _law_shuffled(pail, some) slots 0:pail 1:some 2:left 3:found 4:turn -/
def N__law_shuffled : List Str := ["pail", "some", "left", "found", "turn"]
def S__law_shuffled : Sta := { G := GG 18, N := N__law_shuffled, sc := defScope (top 29), own := ["found", "left"], fl := [83] }
def d__law_shuffled : DS := (.seq (.par [2, 3] (.owL (.var 1) (.ow .nil .nil))) (.seq (.forR (.nm 4) (.rng1 (.cons (.blt .len (.cons (.var 2) .nil)) .nil)) (.seq (.appP 3 2 (.call 16 2 (.cons (.var 0) (.cons (.blt .len (.cons (.var 2) .nil)) .nil)))) .next)) (.seq (.ret (.var 3)) .next)))
theorem c__law_shuffled : cBody 30 S__law_shuffled (defBody (top 29)) = d__law_shuffled := by decide +kernel
/-! 19 _law_divisor(a, b) slots 0:a 1:b -/
def N__law_divisor : List Str := ["a", "b"]
def S__law_divisor : Sta := { G := GG 19, N := N__law_divisor, sc := defScope (top 30) }
def d__law_divisor : DS := (.seq (.while_ (.val (.bin .gt (.var 1) (.int 0))) (.seq (.par [0, 1] (.im (.var 1) (.im (.bin .mod (.var 0) (.var 1)) .nil))) .next)) (.seq (.ret (.var 0)) .next))
theorem c__law_divisor : cBody 30 S__law_divisor (defBody (top 30)) = d__law_divisor := by decide +kernel
/-! 20 _law_right(pail) slots 0:pail 1:lap 2:clock 3:units 4:step 5:off 6:line 7:near 8:a 9:b 10:order 11:full 12:double 13:told 14:more 15:own 16:k -/
def N__law_right : List Str := ["pail", "lap", "clock", "units", "step", "off", "line", "near", "a", "b", "order", "full", "double", "told", "more", "own", "k"]
def S__law_right : Sta := { G := GG 20, N := N__law_right, sc := defScope (top 31), own := ["near"], fz := [(98, "near")], fl := [97] }
def d__law_right : DS := (.seq (.forR (.nm 1) (.rng1 (.cons (.int 12) .nil)) (.seq (.asg (.nm 2) (.bin .add (.int 2) (.call 16 2 (.cons (.var 0) (.cons (.int 23) .nil))))) (.seq (.asg (.nm 3) (.comp [15] (.rng2 (.cons (.int 1) (.cons (.var 2) .nil))) (.nm 15) (.val (.bin .eq (.call 19 2 (.cons (.var 2) (.cons (.var 15) .nil))) (.int 1))) (.var 15))) (.seq (.asg (.tp (.cons (.nm 4) (.cons (.nm 5) .nil))) (.tup (.cons (.call 17 2 (.cons (.var 0) (.cons (.var 3) .nil))) (.cons (.call 16 2 (.cons (.var 0) (.cons (.var 2) .nil))) .nil)))) (.seq (.asg (.nm 6) (.comp [16] (.rng1 (.cons (.var 2) .nil)) (.nm 16) .yes (.bin .mod (.bin .add (.bin .mul (.var 4) (.var 16)) (.var 5)) (.var 2)))) (.seq (.ownL 7 (.var 6)) (.seq (.par [8, 9] (.im (.call 16 2 (.cons (.var 0) (.cons (.var 2) .nil))) (.im (.call 16 2 (.cons (.var 0) (.cons (.var 2) .nil))) .nil))) (.seq (.put2 7 (.var 8) (.var 9) (.ix (.var 7) (.var 9)) (.ix (.var 7) (.var 8))) (.seq (.fz 7) (.seq (.for_ (.nm 10) (.items (.tup (.cons (.blt .tuple (.cons (.var 6) .nil)) (.cons (.blt .tuple (.cons (.var 7) .nil)) (.cons (.blt .tuple (.cons (.call 18 2 (.cons (.var 0) (.cons (.var 6) .nil))) .nil)) (.cons (.rgv true (.cons (.var 2) .nil)) .nil)))))) (.seq (.asg (.nm 11) (.bin .eq (.lenset (.comp [16] (.rng1 (.cons (.var 2) .nil)) (.nm 16) .yes (.bin .mod (.bin .add (.var 16) (.ix (.var 10) (.var 16))) (.var 2)))) (.var 2))) (.seq (.asg (.nm 12) (.and (.var 11) (.bin .eq (.lenset (.comp [16] (.rng1 (.cons (.var 2) .nil)) (.nm 16) .yes (.bin .mod (.bin .sub (.ix (.var 10) (.var 16)) (.var 16)) (.var 2)))) (.var 2)))) (.seq (.asg (.nm 13) (.lst (.cons (.call 13 2 (.cons (.var 2) (.cons (.var 10) .nil))) (.cons (.call 14 2 (.cons (.var 2) (.cons (.var 10) .nil))) .nil)))) (.seq (.asg (.nm 14) (.lst (.cons (.callK 13 2 2 [1, 0] (.cons (.var 10) (.cons (.var 2) .nil))) (.cons (.callK 14 2 2 [1, 0] (.cons (.var 10) (.cons (.var 2) .nil))) .nil)))) (.seq (.ifs (.val (.bin .ne (.blt .repr (.cons (.lst (.cons (.var 13) (.cons (.var 14) .nil))) .nil)) (.blt .repr (.cons (.bin .mul (.lst (.cons (.lst (.cons (.var 11) (.cons (.var 12) .nil))) .nil)) (.int 2)) .nil)))) (.seq (.ret (.bl false)) .next) .next) .next)))))) .next)))))))))) (.seq (.ret (.bl true)) .next))
theorem c__law_right : cBody 30 S__law_right (defBody (top 31)) = d__law_right := by decide +kernel
/-! 21 law(script) slots 0:script 1:turn -/
def N_law : List Str := ["script", "turn"]
def S_law : Sta := { G := GG 21, N := N_law, sc := defScope (top 32) }
def d_law : DS := (.seq (.ret (.blt .all (.cons (.comp [1] (.rng1 (.cons (.blt .max2 (.cons (.int 2) (.cons (.blt .min2 (.cons (.blt .len (.cons (.var 0) .nil)) (.cons (.int 3) .nil))) .nil))) .nil)) (.nm 1) .yes (.call 20 1 (.cons (.call 15 2 (.cons (.var 0) (.cons (.var 1) .nil))) .nil))) .nil))) .next)
theorem c_law : cBody 30 S_law (defBody (top 32)) = d_law := by decide +kernel
end K33
namespace K33
open PySem L2 L2.DL
def F_is_whole : FI := ⟨"is_whole", ["value"], [], false⟩
theorem sc_is_whole : FnScope N_is_whole F_is_whole.ps (defScope (top 1)) := ⟨rfl, rfl, rfl, by decide +kernel, rfl, by decide +kernel, by decide +kernel⟩
theorem bi_is_whole : BindOk F_is_whole (top 1) := ⟨fun _ _ _ _ _ _ us hl => match us, hl with | [_], _ => rfl, fun ks h => absurd h List.not_mem_nil⟩
def F_is_number : FI := ⟨"is_number", ["value", "low", "high"], [], false⟩
theorem sc_is_number : FnScope N_is_number F_is_number.ps (defScope (top 2)) := ⟨rfl, rfl, rfl, by decide +kernel, rfl, by decide +kernel, by decide +kernel⟩
theorem bi_is_number : BindOk F_is_number (top 2) := ⟨fun _ _ _ _ _ _ us hl => match us, hl with | [_, _, _], _ => rfl, fun ks h => absurd h List.not_mem_nil⟩
def F_is_tuple_of : FI := ⟨"is_tuple_of", ["value", "many"], [], false⟩
theorem sc_is_tuple_of : FnScope N_is_tuple_of F_is_tuple_of.ps (defScope (top 3)) := ⟨rfl, rfl, rfl, by decide +kernel, rfl, by decide +kernel, by decide +kernel⟩
theorem bi_is_tuple_of : BindOk F_is_tuple_of (top 3) := ⟨fun _ _ _ _ _ _ us hl => match us, hl with | [_, _], _ => rfl, fun ks h => absurd h List.not_mem_nil⟩
def F_is_hour : FI := ⟨"is_hour", ["clock", "value"], [], false⟩
theorem sc_is_hour : FnScope N_is_hour F_is_hour.ps (defScope (top 10)) := ⟨rfl, rfl, rfl, by decide +kernel, rfl, by decide +kernel, by decide +kernel⟩
theorem bi_is_hour : BindOk F_is_hour (top 10) := ⟨fun _ _ _ _ _ _ us hl => match us, hl with | [_, _], _ => rfl, fun ks h => absurd h List.not_mem_nil⟩
def F_is_clock_form : FI := ⟨"is_clock_form", ["value"], [], false⟩
theorem sc_is_clock_form : FnScope N_is_clock_form F_is_clock_form.ps (defScope (top 9)) := ⟨rfl, rfl, rfl, by decide +kernel, rfl, by decide +kernel, by decide +kernel⟩
theorem bi_is_clock_form : BindOk F_is_clock_form (top 9) := ⟨fun _ _ _ _ _ _ us hl => match us, hl with | [_], _ => rfl, fun ks h => absurd h List.not_mem_nil⟩
def F_wrong_at : FI := ⟨"wrong_at", ["value", "most", "is_right"], [], true⟩
theorem sc_wrong_at : FnScope N_wrong_at F_wrong_at.ps (defScope (top 4)) := ⟨rfl, rfl, rfl, by decide +kernel, rfl, by decide +kernel, by decide +kernel⟩
theorem bi_wrong_at : BindOk F_wrong_at (top 4) := ⟨fun _ _ _ _ _ _ us hl => match us, hl with | [_, _, _], _ => rfl, fun ks h => absurd h List.not_mem_nil⟩
def F_wrong_for_all : FI := ⟨"wrong_for_all", ["value", "many", "is_right"], [], true⟩
theorem sc_wrong_for_all : FnScope N_wrong_for_all F_wrong_for_all.ps (defScope (top 5)) := ⟨rfl, rfl, rfl, by decide +kernel, rfl, by decide +kernel, by decide +kernel⟩
theorem bi_wrong_for_all : BindOk F_wrong_for_all (top 5) := ⟨fun _ _ _ _ _ _ us hl => match us, hl with | [_, _, _], _ => rfl, fun ks h => absurd h List.not_mem_nil⟩
def F_check_clock : FI := ⟨"check_clock", ["value"], [], false⟩
theorem sc_check_clock : FnScope N_check_clock F_check_clock.ps (defScope (top 16)) := ⟨rfl, rfl, rfl, by decide +kernel, rfl, by decide +kernel, by decide +kernel⟩
theorem bi_check_clock : BindOk F_check_clock (top 16) := ⟨fun _ _ _ _ _ _ us hl => match us, hl with | [_], _ => rfl, fun ks h => absurd h List.not_mem_nil⟩
def F_check_order_of : FI := ⟨"check_order_of", ["clock", "value"], [], false⟩
theorem sc_check_order_of : FnScope N_check_order_of F_check_order_of.ps (defScope (top 17)) := ⟨rfl, rfl, rfl, by decide +kernel, rfl, by decide +kernel, by decide +kernel⟩
theorem bi_check_order_of : BindOk F_check_order_of (top 17) := ⟨fun _ _ _ _ _ _ us hl => match us, hl with | [_, _], _ => rfl, fun ks h => absurd h List.not_mem_nil⟩
def F_check_order : FI := ⟨"check_order", ["clock", "order"], [], false⟩
theorem sc_check_order : FnScope N_check_order F_check_order.ps (defScope (top 18)) := ⟨rfl, rfl, rfl, by decide +kernel, rfl, by decide +kernel, by decide +kernel⟩
theorem bi_check_order : BindOk F_check_order (top 18) := ⟨fun _ _ _ _ _ _ us hl => match us, hl with | [_, _], _ => rfl, fun ks h => absurd h List.not_mem_nil⟩
def F_are_all_unlike : FI := ⟨"are_all_unlike", ["values"], [], false⟩
theorem sc_are_all_unlike : FnScope N_are_all_unlike F_are_all_unlike.ps (defScope (top 20)) := ⟨rfl, rfl, rfl, by decide +kernel, rfl, by decide +kernel, by decide +kernel⟩
theorem bi_are_all_unlike : BindOk F_are_all_unlike (top 20) := ⟨fun _ _ _ _ _ _ us hl => match us, hl with | [_], _ => rfl, fun ks h => absurd h List.not_mem_nil⟩
def F_is_full_in : FI := ⟨"is_full_in", ["clock", "order"], [], false⟩
theorem sc_is_full_in : FnScope N_is_full_in F_is_full_in.ps (defScope (top 21)) := ⟨rfl, rfl, rfl, by decide +kernel, rfl, by decide +kernel, by decide +kernel⟩
theorem bi_is_full_in : BindOk F_is_full_in (top 21) := ⟨fun _ _ _ _ _ _ us hl => match us, hl with | [_, _], _ => rfl, fun ks h => absurd h List.not_mem_nil⟩
def F_is_double_in : FI := ⟨"is_double_in", ["clock", "order"], [], false⟩
theorem sc_is_double_in : FnScope N_is_double_in F_is_double_in.ps (defScope (top 22)) := ⟨rfl, rfl, rfl, by decide +kernel, rfl, by decide +kernel, by decide +kernel⟩
theorem bi_is_double_in : BindOk F_is_double_in (top 22) := ⟨fun _ _ _ _ _ _ us hl => match us, hl with | [_, _], _ => rfl, fun ks h => absurd h List.not_mem_nil⟩
def F_is_full_turn : FI := ⟨"is_full_turn", ["clock", "order"], [["order", "clock"]], false⟩
theorem sc_is_full_turn : FnScope N_is_full_turn F_is_full_turn.ps (defScope (top 23)) := ⟨rfl, rfl, rfl, by decide +kernel, rfl, by decide +kernel, by decide +kernel⟩
theorem bi_is_full_turn : BindOk F_is_full_turn (top 23) := ⟨fun _ _ _ _ _ _ us hl => match us, hl with | [_, _], _ => rfl, List.forall_mem_cons.mpr ⟨fun _ _ _ _ _ _ ws hl => match ws, hl with | [_, _], _ => by rw [show pmOf F_is_full_turn.ps ["order", "clock"] = [1, 0] from by decide +kernel]; rfl, fun _ h => absurd h List.not_mem_nil⟩⟩
def F_is_double_turn : FI := ⟨"is_double_turn", ["clock", "order"], [["order", "clock"]], false⟩
theorem sc_is_double_turn : FnScope N_is_double_turn F_is_double_turn.ps (defScope (top 24)) := ⟨rfl, rfl, rfl, by decide +kernel, rfl, by decide +kernel, by decide +kernel⟩
theorem bi_is_double_turn : BindOk F_is_double_turn (top 24) := ⟨fun _ _ _ _ _ _ us hl => match us, hl with | [_, _], _ => rfl, List.forall_mem_cons.mpr ⟨fun _ _ _ _ _ _ ws hl => match ws, hl with | [_, _], _ => by rw [show pmOf F_is_double_turn.ps ["order", "clock"] = [1, 0] from by decide +kernel]; rfl, fun _ h => absurd h List.not_mem_nil⟩⟩
def F__law_pail : FI := ⟨"_law_pail", ["script", "turn"], [], false⟩
theorem sc__law_pail : FnScope N__law_pail F__law_pail.ps (defScope (top 26)) := ⟨rfl, rfl, rfl, by decide +kernel, rfl, by decide +kernel, by decide +kernel⟩
theorem bi__law_pail : BindOk F__law_pail (top 26) := ⟨fun _ _ _ _ _ _ us hl => match us, hl with | [_, _], _ => rfl, fun ks h => absurd h List.not_mem_nil⟩
def F__law_deal : FI := ⟨"_law_deal", ["pail", "top"], [], false⟩
theorem sc__law_deal : FnScope N__law_deal F__law_deal.ps (defScope (top 27)) := ⟨rfl, rfl, rfl, by decide +kernel, rfl, by decide +kernel, by decide +kernel⟩
theorem bi__law_deal : BindOk F__law_deal (top 27) := ⟨fun _ _ _ _ _ _ us hl => match us, hl with | [_, _], _ => rfl, fun ks h => absurd h List.not_mem_nil⟩
def F__law_any : FI := ⟨"_law_any", ["pail", "some"], [], false⟩
theorem sc__law_any : FnScope N__law_any F__law_any.ps (defScope (top 28)) := ⟨rfl, rfl, rfl, by decide +kernel, rfl, by decide +kernel, by decide +kernel⟩
theorem bi__law_any : BindOk F__law_any (top 28) := ⟨fun _ _ _ _ _ _ us hl => match us, hl with | [_, _], _ => rfl, fun ks h => absurd h List.not_mem_nil⟩
def F__law_shuffled : FI := ⟨"_law_shuffled", ["pail", "some"], [], false⟩
theorem sc__law_shuffled : FnScope N__law_shuffled F__law_shuffled.ps (defScope (top 29)) := ⟨rfl, rfl, rfl, by decide +kernel, rfl, by decide +kernel, by decide +kernel⟩
theorem bi__law_shuffled : BindOk F__law_shuffled (top 29) := ⟨fun _ _ _ _ _ _ us hl => match us, hl with | [_, _], _ => rfl, fun ks h => absurd h List.not_mem_nil⟩
def F__law_divisor : FI := ⟨"_law_divisor", ["a", "b"], [], false⟩
theorem sc__law_divisor : FnScope N__law_divisor F__law_divisor.ps (defScope (top 30)) := ⟨rfl, rfl, rfl, by decide +kernel, rfl, by decide +kernel, by decide +kernel⟩
theorem bi__law_divisor : BindOk F__law_divisor (top 30) := ⟨fun _ _ _ _ _ _ us hl => match us, hl with | [_, _], _ => rfl, fun ks h => absurd h List.not_mem_nil⟩
def F__law_right : FI := ⟨"_law_right", ["pail"], [], false⟩
theorem sc__law_right : FnScope N__law_right F__law_right.ps (defScope (top 31)) := ⟨rfl, rfl, rfl, by decide +kernel, rfl, by decide +kernel, by decide +kernel⟩
theorem bi__law_right : BindOk F__law_right (top 31) := ⟨fun _ _ _ _ _ _ us hl => match us, hl with | [_], _ => rfl, fun ks h => absurd h List.not_mem_nil⟩
def F_law : FI := ⟨"law", ["script"], [], false⟩
theorem sc_law : FnScope N_law F_law.ps (defScope (top 32)) := ⟨rfl, rfl, rfl, by decide +kernel, rfl, by decide +kernel, by decide +kernel⟩
theorem bi_law : BindOk F_law (top 32) := ⟨fun _ _ _ _ _ _ us hl => match us, hl with | [_], _ => rfl, fun ks h => absurd h List.not_mem_nil⟩
theorem bl_0 : BindL L_0.ps := fun L h cl c pm ctv us hl => by
  obtain ⟨a1, p1, a2, p2, e⟩ := ars2 h
  rw [e]
  match us, hl with
  | [_, _], _ => rfl
end K33
namespace K33
open PySem L2 L2.DL L2.TH
/-! ### specifications -/
def SL_0 : SpD := fun ds _ Q => match ds with
  | [.int c, .int x, .tup bs] => (∃ ns : List Int, bs = ns.map .int) ∧ Q (.bl (notP c (.int x) bs))
  | _ => False
def SLs : Nat → SpD := fun i => [SL_0].getD i (fun _ _ _ => False)
def Sp_is_whole : SpD := fun ds _ Q => match ds with
  | [v] => plv v = true ∧ Q (.bl (intB v))
  | _ => False
def Sp_is_number : SpD := fun ds _ Q => match ds with
  | [v, l, u] => (plv v = true ∧ bnd l = true ∧ bnd u = true) ∧ Q (.bl (numB v l u))
  | _ => False
def Sp_is_tuple_of : SpD := fun ds _ Q => match ds with
  | [.tup xs, .int n] => Q (.bl ((xs.length : Int) == n))
  | _ => False
def Sp_is_hour : SpD := fun ds _ Q => match ds with
  | [.int c, v] => plv v = true ∧ Q (.bl (numB v (.int 0) (.int (c - 1))))
  | _ => False
def Sp_is_clock_form : SpD := fun ds _ Q => match ds with
  | [v] => plv v = true ∧ Q (.bl (numB v (.int 2) (.int 24)))
  | _ => False
def Sp_wrong_at : SpD := fun ds _ Q => match ds with
  | [v, m, .fn k cs] => (plv v = true ∧ bnd m = true) ∧ ∃ p : D → List D → Bool, (∀ xs, v = .tup xs → ∀ (i : Nat) x, xs[i]? = some x → ∀ (E' : Exc → Prop) (Q' : D → Prop), Q' (.bl (p x (xs.take i))) → SLs k (cs ++ [x, .tup (xs.take i)]) E' Q') ∧ Q (wrongD v m p)
  | _ => False
def Sp_wrong_for_all : SpD := fun ds _ Q => match ds with
  | [.tup xs, .int m, .fn k cs] => ((xs.length : Int) = m ∧ noFns xs = true) ∧ ∃ p : D → List D → Bool, (∀ (i : Nat) x, xs[i]? = some x → ∀ (E' : Exc → Prop) (Q' : D → Prop), Q' (.bl (p x (xs.take i))) → SLs k (cs ++ [x, .tup (xs.take i)]) E' Q') ∧ Q (wrongD (.tup xs) (.int m) p)
  | _ => False
def Sp_check_clock : SpD := fun ds _ Q => match ds with
  | [.int c] => (2 ≤ c ∧ c ≤ 24) ∧ Q .non
  | _ => False
def Sp__law_pail : SpD := fun ds _ Q => match ds with
  | [.scr ns, .int lap] => (ns.length ≤ 63 ∧ 0 ≤ lap ∧ lap < 3) ∧ ∀ p, Q (.obj p)
  | _ => False
def Sp__law_deal : SpD := fun ds _ Q => match ds with
  | [.obj _, .int l] => (0 < l ∧ l < 1073741824) ∧ ∀ z, 0 ≤ z → z < l → Q (.int z)
  | _ => False
def Sp__law_any : SpD := fun ds _ Q => match ds with
  | [.obj _, .tup xs] => (xs ≠ [] ∧ xs.length < 1073741824) ∧ ∀ d ∈ xs, Q d
  | [.obj _, .lst xs] => (xs ≠ [] ∧ xs.length < 1073741824) ∧ ∀ d ∈ xs, Q d
  | _ => False
def Sp__law_shuffled : SpD := fun ds _ Q => match ds with
  | [.obj _, .tup xs] => xs.length ≤ 1000 ∧ ∀ ys : List D, ys.Perm xs → Q (.lst ys)
  | [.obj _, .lst xs] => xs.length ≤ 1000 ∧ ∀ ys : List D, ys.Perm xs → Q (.lst ys)
  | _ => False

def Sp_check_order_of : SpD := fun ds _ Q => match ds with
  | [.int c, .tup xs] => (∃ ns : List Int, xs = ns.map .int ∧ isO c ns ∧ 2 ≤ c ∧ c ≤ 24) ∧ Q .non
  | _ => False
def SpO (f : Int → List Int → D) : SpD := fun ds _ Q => match ds with
  | [.int c, .tup xs] => ∃ ns : List Int, xs = ns.map .int ∧ isO c ns ∧ (2 ≤ c ∧ c ≤ 24) ∧ Q (f c ns)
  | _ => False
def Sp_check_order : SpD := SpO fun _ _ => .non
def Sp_are_all_unlike : SpD := fun ds _ Q => match ds with
  | [.lst xs] => ∃ ns : List Int, xs = ns.map .int ∧ ns.length ≤ 1000 ∧ Q (.bl (unl ns))
  | _ => False
def Sp_is_full_in : SpD := SpO fun c ns => .bl (unl (fuL c ns))
def Sp_is_double_in : SpD := SpO fun c ns => .bl (unl (fuL c ns) && unl (doL c ns))
def Sp_is_full_turn : SpD := SpO fun c ns => .bl (unl (fuL c ns))
def Sp_is_double_turn : SpD := SpO fun c ns => .bl (unl (fuL c ns) && unl (doL c ns))
def Sp__law_divisor : SpD := fun ds _ Q => match ds with
  | [.int a, .int b] => ((0 ≤ a ∧ a < 1073741824) ∧ 0 ≤ b ∧ b < 1073741824) ∧ Q (.int (gcdI a b))
  | _ => False
def Sp__law_right : SpD := fun ds _ Q => match ds with
  | [.obj _] => Q (.bl true)
  | _ => False
def Sg : Nat → SpD := fun i => if i < 1000 then [Sp_is_whole, Sp_is_number, Sp_is_tuple_of, Sp_is_hour, Sp_is_clock_form, Sp_wrong_at, Sp_wrong_for_all, Sp_check_clock, Sp_check_order_of, Sp_check_order, Sp_are_all_unlike, Sp_is_full_in, Sp_is_double_in, Sp_is_full_turn, Sp_is_double_turn, Sp__law_pail, Sp__law_deal, Sp__law_any, Sp__law_shuffled, Sp__law_divisor, Sp__law_right, SPlaw].getD i (fun _ _ _ => False) else SLs (i - 1000)
theorem sg_is_whole : Sg 0 = Sp_is_whole := rfl
theorem sg_is_number : Sg 1 = Sp_is_number := rfl
theorem sg_is_tuple_of : Sg 2 = Sp_is_tuple_of := rfl
theorem sg_is_hour : Sg 3 = Sp_is_hour := rfl
theorem sg_is_clock_form : Sg 4 = Sp_is_clock_form := rfl
theorem sg_wrong_at : Sg 5 = Sp_wrong_at := rfl
theorem sg_wrong_for_all : Sg 6 = Sp_wrong_for_all := rfl
theorem sg_check_clock : Sg 7 = Sp_check_clock := rfl
theorem sg_check_order_of : Sg 8 = Sp_check_order_of := rfl
theorem sg_check_order : Sg 9 = Sp_check_order := rfl
theorem sg_are_all_unlike : Sg 10 = Sp_are_all_unlike := rfl
theorem sg_is_full_in : Sg 11 = Sp_is_full_in := rfl
theorem sg_is_double_in : Sg 12 = Sp_is_double_in := rfl
theorem sg_is_full_turn : Sg 13 = Sp_is_full_turn := rfl
theorem sg_is_double_turn : Sg 14 = Sp_is_double_turn := rfl
theorem sg__law_pail : Sg 15 = Sp__law_pail := rfl
theorem sg__law_deal : Sg 16 = Sp__law_deal := rfl
theorem sg__law_any : Sg 17 = Sp__law_any := rfl
theorem sg__law_shuffled : Sg 18 = Sp__law_shuffled := rfl
theorem sg__law_divisor : Sg 19 = Sp__law_divisor := rfl
theorem sg__law_right : Sg 20 = Sp__law_right := rfl
theorem sg_law : Sg 21 = SPlaw := rfl
theorem sgl {k : Nat} : Sg (1000 + k) = SLs k := by
  show (if 1000 + k < 1000 then _ else SLs (1000 + k - 1000)) = _
  rw [if_neg (by omega), Nat.add_sub_cancel_left]

theorem ll_0 : ∀ all E Q, Sg (1000 + 0) all E Q → all.length = L_0.fr.length + L_0.ps.length := by
  intro all E Q h
  rw [sgl] at h
  change SL_0 all E Q at h
  unfold SL_0 at h
  split at h
  · rfl
  · exact h.elim
theorem lb_0 : ∀ cs ds E Q, ds.length = L_0.ps.length → cs.length = L_0.fr.length → Sg (1000 + 0) (cs ++ ds) E Q → DL.wE Sg L_0.d ((ds ++ cs).map some) E Q := by
  intro cs ds E Q h1 h2 h
  match cs, ds, h1, h2 with
  | [c], [x, y], _, _ =>
    rw [sgl] at h
    change SL_0 [c, x, y] E Q at h
    unfold SL_0 at h
    split at h
    · rename_i e
      cases e
      obtain ⟨⟨ns, rfl⟩, h⟩ := h
      show DL.wE Sg dl_0 _ E Q
      simp only [bodyW, Hd_cons, ↓e_stuck, ↓e_var, ↓e_non, ↓e_bl, ↓e_int, ↓e_str, ↓e_kt, ↓e_bin, ↓e_chain, ↓e_and, ↓e_or, ↓e_not, ↓e_neg, ↓e_ite, ↓e_tup, ↓e_lst, ↓e_call, ↓e_callP, ↓e_callQ, ↓e_callV, ↓e_callL, ↓e_callK, ↓e_blt, ↓e_isi, ↓e_ix, ↓e_rev, ↓e_lenset, ↓e_rgv, ↓e_sl, ↓e_part0, ↓e_part1, ↓e_comp, ↓e_comp2, wComp2, ↓e_nil, ↓e_cons, ↓e_star, ↓t_yes, ↓t_val, ↓t_not, ↓t_and, ↓t_or, ↓i_items, ↓i_rng1, ↓i_rng2, ↓i_rng3, ↓i_enum, ↓i_zip, ↓s_seq, ↓s_ret, ↓s_exp, ↓s_asg, ↓s_asgF, ↓s_own, ↓s_par, ↓s_retW, ↓s_for, ↓s_forR, ↓p_nil, ↓p_im, ↓p_ow, ↓p_owM, ↓p_owL, ↓u_stuck, ↓u_next, ↓u_brk, ↓u_cnt, ↓u_retN, ↓u_ifs, u_fz, u_app, u_appF, u_put, u_putF, u_asgI, wAsgI, u_while, u_ownM, u_ownA, u_ownC, u_ownL, u_appP, u_put2, wOwnL, wAppP, wPut2, u_wput, u_wdm, wLC, wFz, wApp, wAppF, wPut, wPutF, wOwnM, wOwnA, setP, wComp, wYes, wWput, wWdm, capt, bo, blt, dTru_non, dTru_bl, dTru_int, dTru_tup, dTru_lst, dTy_non, dTy_bl, dTy_int, dTy_str, dTy_tup, dTy_lst, isi_ii, isi_ib, isi_tt, isi_bi, isi_bb, isi_ni, isi_nb, isi_nt, isi_ns, isi_nl, isi_si, isi_sb, isi_st, isi_ss, isi_sl, isi_ti, isi_tb, isi_ts, isi_tl, isi_li, isi_lb, isi_lt, isi_ls, isi_ll, isi_it, isi_is, isi_il, isi_bt, isi_bs, isi_bl, binds, bindss, setS, setB, getS, entry, strE, frzE, slS, slF, wipeE, dEq_int, dNe_int, DL.isNon, bRepr, permD, o_dAdd0, o_dAdd1, o_dAdd2, o_dAdd3, o_dSub0, o_dMul0, o_dMul1, o_dMul2, o_dFdiv0, o_dMod0, o_dPow0, o_dShl0, o_dShr0, o_dAnd0, o_dOr0, o_dXor0, o_dLt0, o_dLe0, o_dGt0, o_dGe0, o_dIs0, o_dIsNot0, o_dIs1, o_dIsNot1, o_bLen0, o_bLen1, o_bLen2, o_bLen3, o_bTuple0, o_bTuple1, o_bList0, o_bList1, o_bAbs0, o_bMax20, o_bMin20, o_bInt0, o_bInt1, o_bBool0, o_bBool1, o_bBool2, o_bDivmod0, o_bGcd0, o_bStr0, o_bAll0, o_bAny0, o_bSum0, o_bSum1, o_bSort0, o_bSort1, o_bMax10, o_bMax11, o_bMin10, o_bMin11, o_bRepr0, o_dIx0, o_dIx1, o_dIx2, o_dIx3, o_dIx4, o_iEn0, o_iEn1, o_iZp0, o_iZp1, o_iR30, o_iR10, o_iR20, o_dRev0, o_dRev1, o_rg1, o_rg2, o_rg3, o_rg4, o_dLs0, o_dLs1, o_dSl0, o_dSl1, o_dSl2, o_dSl3, o_dNeg, o_dEqs, o_dNes, List.map_cons, List.map_nil, List.length_cons, List.length_nil, List.foldl_cons, List.foldl_nil, List.getElem?_cons_zero, List.getElem?_cons_succ, List.getElem?_nil, List.set_cons_zero, List.set_cons_succ, List.replicate, List.append_nil, List.nil_append, List.cons_append, Option.join_some, Option.join_none, Option.bind_some, id_eq, Nat.sub_self, Nat.add_sub_cancel, Nat.reduceAdd, Nat.reduceSub, Option.getD_some, List.getD_cons_zero, List.getD_cons_succ, List.getD_nil, Bool.not_true, Bool.not_false, Bool.false_eq_true, true_and, and_true, Bool.true_and, Bool.and_true, reduceCtorEq, if_false, if_true, decide_true, decide_false, Nat.zero_add, Nat.le_refl, dl_0, sg_is_hour, Sp_is_hour]
      unfold notP at h
      refine ⟨rfl, rfl, ?_⟩
      generalize numB (.int _) (.int 0) (.int _) = b at h ⊢
      cases b with
      | false => exact h
      | true =>
        show dNotIn _ _ _
        unfold dNotIn
        rw [dIn_tup]
        exact h
    · exact h.elim

theorem b_is_whole : ∀ ds E Q, ds.length = F_is_whole.ps.length → Sg 0 ds E Q → bodyW Sg S_is_whole.N d_is_whole ds E Q := by
  intro ds E Q hlen h
  clear hlen
  change Sp_is_whole ds E Q at h
  unfold Sp_is_whole at h
  split at h
  · rename_i v
    (show bodyW Sg N_is_whole d_is_whole [v] E Q; simp only [bodyW, Hd_cons, ↓e_stuck, ↓e_var, ↓e_non, ↓e_bl, ↓e_int, ↓e_str, ↓e_kt, ↓e_bin, ↓e_chain, ↓e_and, ↓e_or, ↓e_not, ↓e_neg, ↓e_ite, ↓e_tup, ↓e_lst, ↓e_call, ↓e_callP, ↓e_callQ, ↓e_callV, ↓e_callL, ↓e_callK, ↓e_blt, ↓e_isi, ↓e_ix, ↓e_rev, ↓e_lenset, ↓e_rgv, ↓e_sl, ↓e_part0, ↓e_part1, ↓e_comp, ↓e_comp2, wComp2, ↓e_nil, ↓e_cons, ↓e_star, ↓t_yes, ↓t_val, ↓t_not, ↓t_and, ↓t_or, ↓i_items, ↓i_rng1, ↓i_rng2, ↓i_rng3, ↓i_enum, ↓i_zip, ↓s_seq, ↓s_ret, ↓s_exp, ↓s_asg, ↓s_asgF, ↓s_own, ↓s_par, ↓s_retW, ↓s_for, ↓s_forR, ↓p_nil, ↓p_im, ↓p_ow, ↓p_owM, ↓p_owL, ↓u_stuck, ↓u_next, ↓u_brk, ↓u_cnt, ↓u_retN, ↓u_ifs, u_fz, u_app, u_appF, u_put, u_putF, u_asgI, wAsgI, u_while, u_ownM, u_ownA, u_ownC, u_ownL, u_appP, u_put2, wOwnL, wAppP, wPut2, u_wput, u_wdm, wLC, wFz, wApp, wAppF, wPut, wPutF, wOwnM, wOwnA, setP, wComp, wYes, wWput, wWdm, capt, bo, blt, dTru_non, dTru_bl, dTru_int, dTru_tup, dTru_lst, dTy_non, dTy_bl, dTy_int, dTy_str, dTy_tup, dTy_lst, isi_ii, isi_ib, isi_tt, isi_bi, isi_bb, isi_ni, isi_nb, isi_nt, isi_ns, isi_nl, isi_si, isi_sb, isi_st, isi_ss, isi_sl, isi_ti, isi_tb, isi_ts, isi_tl, isi_li, isi_lb, isi_lt, isi_ls, isi_ll, isi_it, isi_is, isi_il, isi_bt, isi_bs, isi_bl, binds, bindss, setS, setB, getS, entry, strE, frzE, slS, slF, wipeE, dEq_int, dNe_int, DL.isNon, bRepr, permD, o_dAdd0, o_dAdd1, o_dAdd2, o_dAdd3, o_dSub0, o_dMul0, o_dMul1, o_dMul2, o_dFdiv0, o_dMod0, o_dPow0, o_dShl0, o_dShr0, o_dAnd0, o_dOr0, o_dXor0, o_dLt0, o_dLe0, o_dGt0, o_dGe0, o_dIs0, o_dIsNot0, o_dIs1, o_dIsNot1, o_bLen0, o_bLen1, o_bLen2, o_bLen3, o_bTuple0, o_bTuple1, o_bList0, o_bList1, o_bAbs0, o_bMax20, o_bMin20, o_bInt0, o_bInt1, o_bBool0, o_bBool1, o_bBool2, o_bDivmod0, o_bGcd0, o_bStr0, o_bAll0, o_bAny0, o_bSum0, o_bSum1, o_bSort0, o_bSort1, o_bMax10, o_bMax11, o_bMin10, o_bMin11, o_bRepr0, o_dIx0, o_dIx1, o_dIx2, o_dIx3, o_dIx4, o_iEn0, o_iEn1, o_iZp0, o_iZp1, o_iR30, o_iR10, o_iR20, o_dRev0, o_dRev1, o_rg1, o_rg2, o_rg3, o_rg4, o_dLs0, o_dLs1, o_dSl0, o_dSl1, o_dSl2, o_dSl3, o_dNeg, o_dEqs, o_dNes, List.map_cons, List.map_nil, List.length_cons, List.length_nil, List.foldl_cons, List.foldl_nil, List.getElem?_cons_zero, List.getElem?_cons_succ, List.getElem?_nil, List.set_cons_zero, List.set_cons_succ, List.replicate, List.append_nil, List.nil_append, List.cons_append, Option.join_some, Option.join_none, Option.bind_some, id_eq, Nat.sub_self, Nat.add_sub_cancel, Nat.reduceAdd, Nat.reduceSub, Option.getD_some, List.getD_cons_zero, List.getD_cons_succ, List.getD_nil, Bool.not_true, Bool.not_false, Bool.false_eq_true, true_and, and_true, Bool.true_and, Bool.and_true, reduceCtorEq, if_false, if_true, decide_true, decide_false, Nat.zero_add, Nat.le_refl, d_is_whole, N_is_whole])
    obtain ⟨h1, h⟩ := h
    cases v with
    | obj _ => cases h1
    | fn _ _ => cases h1
    | scr _ => cases h1
    | kt _ => cases h1
    | _ => simp only [bodyW, Hd_cons, ↓e_stuck, ↓e_var, ↓e_non, ↓e_bl, ↓e_int, ↓e_str, ↓e_kt, ↓e_bin, ↓e_chain, ↓e_and, ↓e_or, ↓e_not, ↓e_neg, ↓e_ite, ↓e_tup, ↓e_lst, ↓e_call, ↓e_callP, ↓e_callQ, ↓e_callV, ↓e_callL, ↓e_callK, ↓e_blt, ↓e_isi, ↓e_ix, ↓e_rev, ↓e_lenset, ↓e_rgv, ↓e_sl, ↓e_part0, ↓e_part1, ↓e_comp, ↓e_comp2, wComp2, ↓e_nil, ↓e_cons, ↓e_star, ↓t_yes, ↓t_val, ↓t_not, ↓t_and, ↓t_or, ↓i_items, ↓i_rng1, ↓i_rng2, ↓i_rng3, ↓i_enum, ↓i_zip, ↓s_seq, ↓s_ret, ↓s_exp, ↓s_asg, ↓s_asgF, ↓s_own, ↓s_par, ↓s_retW, ↓s_for, ↓s_forR, ↓p_nil, ↓p_im, ↓p_ow, ↓p_owM, ↓p_owL, ↓u_stuck, ↓u_next, ↓u_brk, ↓u_cnt, ↓u_retN, ↓u_ifs, u_fz, u_app, u_appF, u_put, u_putF, u_asgI, wAsgI, u_while, u_ownM, u_ownA, u_ownC, u_ownL, u_appP, u_put2, wOwnL, wAppP, wPut2, u_wput, u_wdm, wLC, wFz, wApp, wAppF, wPut, wPutF, wOwnM, wOwnA, setP, wComp, wYes, wWput, wWdm, capt, bo, blt, dTru_non, dTru_bl, dTru_int, dTru_tup, dTru_lst, dTy_non, dTy_bl, dTy_int, dTy_str, dTy_tup, dTy_lst, isi_ii, isi_ib, isi_tt, isi_bi, isi_bb, isi_ni, isi_nb, isi_nt, isi_ns, isi_nl, isi_si, isi_sb, isi_st, isi_ss, isi_sl, isi_ti, isi_tb, isi_ts, isi_tl, isi_li, isi_lb, isi_lt, isi_ls, isi_ll, isi_it, isi_is, isi_il, isi_bt, isi_bs, isi_bl, binds, bindss, setS, setB, getS, entry, strE, frzE, slS, slF, wipeE, dEq_int, dNe_int, DL.isNon, bRepr, permD, o_dAdd0, o_dAdd1, o_dAdd2, o_dAdd3, o_dSub0, o_dMul0, o_dMul1, o_dMul2, o_dFdiv0, o_dMod0, o_dPow0, o_dShl0, o_dShr0, o_dAnd0, o_dOr0, o_dXor0, o_dLt0, o_dLe0, o_dGt0, o_dGe0, o_dIs0, o_dIsNot0, o_dIs1, o_dIsNot1, o_bLen0, o_bLen1, o_bLen2, o_bLen3, o_bTuple0, o_bTuple1, o_bList0, o_bList1, o_bAbs0, o_bMax20, o_bMin20, o_bInt0, o_bInt1, o_bBool0, o_bBool1, o_bBool2, o_bDivmod0, o_bGcd0, o_bStr0, o_bAll0, o_bAny0, o_bSum0, o_bSum1, o_bSort0, o_bSort1, o_bMax10, o_bMax11, o_bMin10, o_bMin11, o_bRepr0, o_dIx0, o_dIx1, o_dIx2, o_dIx3, o_dIx4, o_iEn0, o_iEn1, o_iZp0, o_iZp1, o_iR30, o_iR10, o_iR20, o_dRev0, o_dRev1, o_rg1, o_rg2, o_rg3, o_rg4, o_dLs0, o_dLs1, o_dSl0, o_dSl1, o_dSl2, o_dSl3, o_dNeg, o_dEqs, o_dNes, List.map_cons, List.map_nil, List.length_cons, List.length_nil, List.foldl_cons, List.foldl_nil, List.getElem?_cons_zero, List.getElem?_cons_succ, List.getElem?_nil, List.set_cons_zero, List.set_cons_succ, List.replicate, List.append_nil, List.nil_append, List.cons_append, Option.join_some, Option.join_none, Option.bind_some, id_eq, Nat.sub_self, Nat.add_sub_cancel, Nat.reduceAdd, Nat.reduceSub, Option.getD_some, List.getD_cons_zero, List.getD_cons_succ, List.getD_nil, Bool.not_true, Bool.not_false, Bool.false_eq_true, true_and, and_true, Bool.true_and, Bool.and_true, reduceCtorEq, if_false, if_true, decide_true, decide_false, Nat.zero_add, Nat.le_refl]; exact h
  · exact h.elim
theorem b_is_number : ∀ ds E Q, ds.length = F_is_number.ps.length → Sg 1 ds E Q → bodyW Sg S_is_number.N d_is_number ds E Q := by
  intro ds E Q hlen h
  clear hlen
  change Sp_is_number ds E Q at h
  unfold Sp_is_number at h
  split at h
  · rename_i v l u
    (show bodyW Sg N_is_number d_is_number [v, l, u] E Q; simp only [bodyW, Hd_cons, ↓e_stuck, ↓e_var, ↓e_non, ↓e_bl, ↓e_int, ↓e_str, ↓e_kt, ↓e_bin, ↓e_chain, ↓e_and, ↓e_or, ↓e_not, ↓e_neg, ↓e_ite, ↓e_tup, ↓e_lst, ↓e_call, ↓e_callP, ↓e_callQ, ↓e_callV, ↓e_callL, ↓e_callK, ↓e_blt, ↓e_isi, ↓e_ix, ↓e_rev, ↓e_lenset, ↓e_rgv, ↓e_sl, ↓e_part0, ↓e_part1, ↓e_comp, ↓e_comp2, wComp2, ↓e_nil, ↓e_cons, ↓e_star, ↓t_yes, ↓t_val, ↓t_not, ↓t_and, ↓t_or, ↓i_items, ↓i_rng1, ↓i_rng2, ↓i_rng3, ↓i_enum, ↓i_zip, ↓s_seq, ↓s_ret, ↓s_exp, ↓s_asg, ↓s_asgF, ↓s_own, ↓s_par, ↓s_retW, ↓s_for, ↓s_forR, ↓p_nil, ↓p_im, ↓p_ow, ↓p_owM, ↓p_owL, ↓u_stuck, ↓u_next, ↓u_brk, ↓u_cnt, ↓u_retN, ↓u_ifs, u_fz, u_app, u_appF, u_put, u_putF, u_asgI, wAsgI, u_while, u_ownM, u_ownA, u_ownC, u_ownL, u_appP, u_put2, wOwnL, wAppP, wPut2, u_wput, u_wdm, wLC, wFz, wApp, wAppF, wPut, wPutF, wOwnM, wOwnA, setP, wComp, wYes, wWput, wWdm, capt, bo, blt, dTru_non, dTru_bl, dTru_int, dTru_tup, dTru_lst, dTy_non, dTy_bl, dTy_int, dTy_str, dTy_tup, dTy_lst, isi_ii, isi_ib, isi_tt, isi_bi, isi_bb, isi_ni, isi_nb, isi_nt, isi_ns, isi_nl, isi_si, isi_sb, isi_st, isi_ss, isi_sl, isi_ti, isi_tb, isi_ts, isi_tl, isi_li, isi_lb, isi_lt, isi_ls, isi_ll, isi_it, isi_is, isi_il, isi_bt, isi_bs, isi_bl, binds, bindss, setS, setB, getS, entry, strE, frzE, slS, slF, wipeE, dEq_int, dNe_int, DL.isNon, bRepr, permD, o_dAdd0, o_dAdd1, o_dAdd2, o_dAdd3, o_dSub0, o_dMul0, o_dMul1, o_dMul2, o_dFdiv0, o_dMod0, o_dPow0, o_dShl0, o_dShr0, o_dAnd0, o_dOr0, o_dXor0, o_dLt0, o_dLe0, o_dGt0, o_dGe0, o_dIs0, o_dIsNot0, o_dIs1, o_dIsNot1, o_bLen0, o_bLen1, o_bLen2, o_bLen3, o_bTuple0, o_bTuple1, o_bList0, o_bList1, o_bAbs0, o_bMax20, o_bMin20, o_bInt0, o_bInt1, o_bBool0, o_bBool1, o_bBool2, o_bDivmod0, o_bGcd0, o_bStr0, o_bAll0, o_bAny0, o_bSum0, o_bSum1, o_bSort0, o_bSort1, o_bMax10, o_bMax11, o_bMin10, o_bMin11, o_bRepr0, o_dIx0, o_dIx1, o_dIx2, o_dIx3, o_dIx4, o_iEn0, o_iEn1, o_iZp0, o_iZp1, o_iR30, o_iR10, o_iR20, o_dRev0, o_dRev1, o_rg1, o_rg2, o_rg3, o_rg4, o_dLs0, o_dLs1, o_dSl0, o_dSl1, o_dSl2, o_dSl3, o_dNeg, o_dEqs, o_dNes, List.map_cons, List.map_nil, List.length_cons, List.length_nil, List.foldl_cons, List.foldl_nil, List.getElem?_cons_zero, List.getElem?_cons_succ, List.getElem?_nil, List.set_cons_zero, List.set_cons_succ, List.replicate, List.append_nil, List.nil_append, List.cons_append, Option.join_some, Option.join_none, Option.bind_some, id_eq, Nat.sub_self, Nat.add_sub_cancel, Nat.reduceAdd, Nat.reduceSub, Option.getD_some, List.getD_cons_zero, List.getD_cons_succ, List.getD_nil, Bool.not_true, Bool.not_false, Bool.false_eq_true, true_and, and_true, Bool.true_and, Bool.and_true, reduceCtorEq, if_false, if_true, decide_true, decide_false, Nat.zero_add, Nat.le_refl, d_is_number, N_is_number, sg_is_whole, Sp_is_whole])
    obtain ⟨⟨h1, h2, h3⟩, h⟩ := h
    refine ⟨h1, ?_⟩
    cases v with
    | int a =>
      simp only [intB, bodyW, Hd_cons, ↓e_stuck, ↓e_var, ↓e_non, ↓e_bl, ↓e_int, ↓e_str, ↓e_kt, ↓e_bin, ↓e_chain, ↓e_and, ↓e_or, ↓e_not, ↓e_neg, ↓e_ite, ↓e_tup, ↓e_lst, ↓e_call, ↓e_callP, ↓e_callQ, ↓e_callV, ↓e_callL, ↓e_callK, ↓e_blt, ↓e_isi, ↓e_ix, ↓e_rev, ↓e_lenset, ↓e_rgv, ↓e_sl, ↓e_part0, ↓e_part1, ↓e_comp, ↓e_comp2, wComp2, ↓e_nil, ↓e_cons, ↓e_star, ↓t_yes, ↓t_val, ↓t_not, ↓t_and, ↓t_or, ↓i_items, ↓i_rng1, ↓i_rng2, ↓i_rng3, ↓i_enum, ↓i_zip, ↓s_seq, ↓s_ret, ↓s_exp, ↓s_asg, ↓s_asgF, ↓s_own, ↓s_par, ↓s_retW, ↓s_for, ↓s_forR, ↓p_nil, ↓p_im, ↓p_ow, ↓p_owM, ↓p_owL, ↓u_stuck, ↓u_next, ↓u_brk, ↓u_cnt, ↓u_retN, ↓u_ifs, u_fz, u_app, u_appF, u_put, u_putF, u_asgI, wAsgI, u_while, u_ownM, u_ownA, u_ownC, u_ownL, u_appP, u_put2, wOwnL, wAppP, wPut2, u_wput, u_wdm, wLC, wFz, wApp, wAppF, wPut, wPutF, wOwnM, wOwnA, setP, wComp, wYes, wWput, wWdm, capt, bo, blt, dTru_non, dTru_bl, dTru_int, dTru_tup, dTru_lst, dTy_non, dTy_bl, dTy_int, dTy_str, dTy_tup, dTy_lst, isi_ii, isi_ib, isi_tt, isi_bi, isi_bb, isi_ni, isi_nb, isi_nt, isi_ns, isi_nl, isi_si, isi_sb, isi_st, isi_ss, isi_sl, isi_ti, isi_tb, isi_ts, isi_tl, isi_li, isi_lb, isi_lt, isi_ls, isi_ll, isi_it, isi_is, isi_il, isi_bt, isi_bs, isi_bl, binds, bindss, setS, setB, getS, entry, strE, frzE, slS, slF, wipeE, dEq_int, dNe_int, DL.isNon, bRepr, permD, o_dAdd0, o_dAdd1, o_dAdd2, o_dAdd3, o_dSub0, o_dMul0, o_dMul1, o_dMul2, o_dFdiv0, o_dMod0, o_dPow0, o_dShl0, o_dShr0, o_dAnd0, o_dOr0, o_dXor0, o_dLt0, o_dLe0, o_dGt0, o_dGe0, o_dIs0, o_dIsNot0, o_dIs1, o_dIsNot1, o_bLen0, o_bLen1, o_bLen2, o_bLen3, o_bTuple0, o_bTuple1, o_bList0, o_bList1, o_bAbs0, o_bMax20, o_bMin20, o_bInt0, o_bInt1, o_bBool0, o_bBool1, o_bBool2, o_bDivmod0, o_bGcd0, o_bStr0, o_bAll0, o_bAny0, o_bSum0, o_bSum1, o_bSort0, o_bSort1, o_bMax10, o_bMax11, o_bMin10, o_bMin11, o_bRepr0, o_dIx0, o_dIx1, o_dIx2, o_dIx3, o_dIx4, o_iEn0, o_iEn1, o_iZp0, o_iZp1, o_iR30, o_iR10, o_iR20, o_dRev0, o_dRev1, o_rg1, o_rg2, o_rg3, o_rg4, o_dLs0, o_dLs1, o_dSl0, o_dSl1, o_dSl2, o_dSl3, o_dNeg, o_dEqs, o_dNes, List.map_cons, List.map_nil, List.length_cons, List.length_nil, List.foldl_cons, List.foldl_nil, List.getElem?_cons_zero, List.getElem?_cons_succ, List.getElem?_nil, List.set_cons_zero, List.set_cons_succ, List.replicate, List.append_nil, List.nil_append, List.cons_append, Option.join_some, Option.join_none, Option.bind_some, id_eq, Nat.sub_self, Nat.add_sub_cancel, Nat.reduceAdd, Nat.reduceSub, Option.getD_some, List.getD_cons_zero, List.getD_cons_succ, List.getD_nil, Bool.not_true, Bool.not_false, Bool.false_eq_true, true_and, and_true, Bool.true_and, Bool.and_true, reduceCtorEq, if_false, if_true, decide_true, decide_false, Nat.zero_add, Nat.le_refl]
      cases l with
      | non =>
        simp only [bodyW, Hd_cons, ↓e_stuck, ↓e_var, ↓e_non, ↓e_bl, ↓e_int, ↓e_str, ↓e_kt, ↓e_bin, ↓e_chain, ↓e_and, ↓e_or, ↓e_not, ↓e_neg, ↓e_ite, ↓e_tup, ↓e_lst, ↓e_call, ↓e_callP, ↓e_callQ, ↓e_callV, ↓e_callL, ↓e_callK, ↓e_blt, ↓e_isi, ↓e_ix, ↓e_rev, ↓e_lenset, ↓e_rgv, ↓e_sl, ↓e_part0, ↓e_part1, ↓e_comp, ↓e_comp2, wComp2, ↓e_nil, ↓e_cons, ↓e_star, ↓t_yes, ↓t_val, ↓t_not, ↓t_and, ↓t_or, ↓i_items, ↓i_rng1, ↓i_rng2, ↓i_rng3, ↓i_enum, ↓i_zip, ↓s_seq, ↓s_ret, ↓s_exp, ↓s_asg, ↓s_asgF, ↓s_own, ↓s_par, ↓s_retW, ↓s_for, ↓s_forR, ↓p_nil, ↓p_im, ↓p_ow, ↓p_owM, ↓p_owL, ↓u_stuck, ↓u_next, ↓u_brk, ↓u_cnt, ↓u_retN, ↓u_ifs, u_fz, u_app, u_appF, u_put, u_putF, u_asgI, wAsgI, u_while, u_ownM, u_ownA, u_ownC, u_ownL, u_appP, u_put2, wOwnL, wAppP, wPut2, u_wput, u_wdm, wLC, wFz, wApp, wAppF, wPut, wPutF, wOwnM, wOwnA, setP, wComp, wYes, wWput, wWdm, capt, bo, blt, dTru_non, dTru_bl, dTru_int, dTru_tup, dTru_lst, dTy_non, dTy_bl, dTy_int, dTy_str, dTy_tup, dTy_lst, isi_ii, isi_ib, isi_tt, isi_bi, isi_bb, isi_ni, isi_nb, isi_nt, isi_ns, isi_nl, isi_si, isi_sb, isi_st, isi_ss, isi_sl, isi_ti, isi_tb, isi_ts, isi_tl, isi_li, isi_lb, isi_lt, isi_ls, isi_ll, isi_it, isi_is, isi_il, isi_bt, isi_bs, isi_bl, binds, bindss, setS, setB, getS, entry, strE, frzE, slS, slF, wipeE, dEq_int, dNe_int, DL.isNon, bRepr, permD, o_dAdd0, o_dAdd1, o_dAdd2, o_dAdd3, o_dSub0, o_dMul0, o_dMul1, o_dMul2, o_dFdiv0, o_dMod0, o_dPow0, o_dShl0, o_dShr0, o_dAnd0, o_dOr0, o_dXor0, o_dLt0, o_dLe0, o_dGt0, o_dGe0, o_dIs0, o_dIsNot0, o_dIs1, o_dIsNot1, o_bLen0, o_bLen1, o_bLen2, o_bLen3, o_bTuple0, o_bTuple1, o_bList0, o_bList1, o_bAbs0, o_bMax20, o_bMin20, o_bInt0, o_bInt1, o_bBool0, o_bBool1, o_bBool2, o_bDivmod0, o_bGcd0, o_bStr0, o_bAll0, o_bAny0, o_bSum0, o_bSum1, o_bSort0, o_bSort1, o_bMax10, o_bMax11, o_bMin10, o_bMin11, o_bRepr0, o_dIx0, o_dIx1, o_dIx2, o_dIx3, o_dIx4, o_iEn0, o_iEn1, o_iZp0, o_iZp1, o_iR30, o_iR10, o_iR20, o_dRev0, o_dRev1, o_rg1, o_rg2, o_rg3, o_rg4, o_dLs0, o_dLs1, o_dSl0, o_dSl1, o_dSl2, o_dSl3, o_dNeg, o_dEqs, o_dNes, List.map_cons, List.map_nil, List.length_cons, List.length_nil, List.foldl_cons, List.foldl_nil, List.getElem?_cons_zero, List.getElem?_cons_succ, List.getElem?_nil, List.set_cons_zero, List.set_cons_succ, List.replicate, List.append_nil, List.nil_append, List.cons_append, Option.join_some, Option.join_none, Option.bind_some, id_eq, Nat.sub_self, Nat.add_sub_cancel, Nat.reduceAdd, Nat.reduceSub, Option.getD_some, List.getD_cons_zero, List.getD_cons_succ, List.getD_nil, Bool.not_true, Bool.not_false, Bool.false_eq_true, true_and, and_true, Bool.true_and, Bool.and_true, reduceCtorEq, if_false, if_true, decide_true, decide_false, Nat.zero_add, Nat.le_refl]
        cases u with
        | non => simp only [bodyW, Hd_cons, ↓e_stuck, ↓e_var, ↓e_non, ↓e_bl, ↓e_int, ↓e_str, ↓e_kt, ↓e_bin, ↓e_chain, ↓e_and, ↓e_or, ↓e_not, ↓e_neg, ↓e_ite, ↓e_tup, ↓e_lst, ↓e_call, ↓e_callP, ↓e_callQ, ↓e_callV, ↓e_callL, ↓e_callK, ↓e_blt, ↓e_isi, ↓e_ix, ↓e_rev, ↓e_lenset, ↓e_rgv, ↓e_sl, ↓e_part0, ↓e_part1, ↓e_comp, ↓e_comp2, wComp2, ↓e_nil, ↓e_cons, ↓e_star, ↓t_yes, ↓t_val, ↓t_not, ↓t_and, ↓t_or, ↓i_items, ↓i_rng1, ↓i_rng2, ↓i_rng3, ↓i_enum, ↓i_zip, ↓s_seq, ↓s_ret, ↓s_exp, ↓s_asg, ↓s_asgF, ↓s_own, ↓s_par, ↓s_retW, ↓s_for, ↓s_forR, ↓p_nil, ↓p_im, ↓p_ow, ↓p_owM, ↓p_owL, ↓u_stuck, ↓u_next, ↓u_brk, ↓u_cnt, ↓u_retN, ↓u_ifs, u_fz, u_app, u_appF, u_put, u_putF, u_asgI, wAsgI, u_while, u_ownM, u_ownA, u_ownC, u_ownL, u_appP, u_put2, wOwnL, wAppP, wPut2, u_wput, u_wdm, wLC, wFz, wApp, wAppF, wPut, wPutF, wOwnM, wOwnA, setP, wComp, wYes, wWput, wWdm, capt, bo, blt, dTru_non, dTru_bl, dTru_int, dTru_tup, dTru_lst, dTy_non, dTy_bl, dTy_int, dTy_str, dTy_tup, dTy_lst, isi_ii, isi_ib, isi_tt, isi_bi, isi_bb, isi_ni, isi_nb, isi_nt, isi_ns, isi_nl, isi_si, isi_sb, isi_st, isi_ss, isi_sl, isi_ti, isi_tb, isi_ts, isi_tl, isi_li, isi_lb, isi_lt, isi_ls, isi_ll, isi_it, isi_is, isi_il, isi_bt, isi_bs, isi_bl, binds, bindss, setS, setB, getS, entry, strE, frzE, slS, slF, wipeE, dEq_int, dNe_int, DL.isNon, bRepr, permD, o_dAdd0, o_dAdd1, o_dAdd2, o_dAdd3, o_dSub0, o_dMul0, o_dMul1, o_dMul2, o_dFdiv0, o_dMod0, o_dPow0, o_dShl0, o_dShr0, o_dAnd0, o_dOr0, o_dXor0, o_dLt0, o_dLe0, o_dGt0, o_dGe0, o_dIs0, o_dIsNot0, o_dIs1, o_dIsNot1, o_bLen0, o_bLen1, o_bLen2, o_bLen3, o_bTuple0, o_bTuple1, o_bList0, o_bList1, o_bAbs0, o_bMax20, o_bMin20, o_bInt0, o_bInt1, o_bBool0, o_bBool1, o_bBool2, o_bDivmod0, o_bGcd0, o_bStr0, o_bAll0, o_bAny0, o_bSum0, o_bSum1, o_bSort0, o_bSort1, o_bMax10, o_bMax11, o_bMin10, o_bMin11, o_bRepr0, o_dIx0, o_dIx1, o_dIx2, o_dIx3, o_dIx4, o_iEn0, o_iEn1, o_iZp0, o_iZp1, o_iR30, o_iR10, o_iR20, o_dRev0, o_dRev1, o_rg1, o_rg2, o_rg3, o_rg4, o_dLs0, o_dLs1, o_dSl0, o_dSl1, o_dSl2, o_dSl3, o_dNeg, o_dEqs, o_dNes, List.map_cons, List.map_nil, List.length_cons, List.length_nil, List.foldl_cons, List.foldl_nil, List.getElem?_cons_zero, List.getElem?_cons_succ, List.getElem?_nil, List.set_cons_zero, List.set_cons_succ, List.replicate, List.append_nil, List.nil_append, List.cons_append, Option.join_some, Option.join_none, Option.bind_some, id_eq, Nat.sub_self, Nat.add_sub_cancel, Nat.reduceAdd, Nat.reduceSub, Option.getD_some, List.getD_cons_zero, List.getD_cons_succ, List.getD_nil, Bool.not_true, Bool.not_false, Bool.false_eq_true, true_and, and_true, Bool.true_and, Bool.and_true, reduceCtorEq, if_false, if_true, decide_true, decide_false, Nat.zero_add, Nat.le_refl]; exact h
        | int u => simp only [bodyW, Hd_cons, ↓e_stuck, ↓e_var, ↓e_non, ↓e_bl, ↓e_int, ↓e_str, ↓e_kt, ↓e_bin, ↓e_chain, ↓e_and, ↓e_or, ↓e_not, ↓e_neg, ↓e_ite, ↓e_tup, ↓e_lst, ↓e_call, ↓e_callP, ↓e_callQ, ↓e_callV, ↓e_callL, ↓e_callK, ↓e_blt, ↓e_isi, ↓e_ix, ↓e_rev, ↓e_lenset, ↓e_rgv, ↓e_sl, ↓e_part0, ↓e_part1, ↓e_comp, ↓e_comp2, wComp2, ↓e_nil, ↓e_cons, ↓e_star, ↓t_yes, ↓t_val, ↓t_not, ↓t_and, ↓t_or, ↓i_items, ↓i_rng1, ↓i_rng2, ↓i_rng3, ↓i_enum, ↓i_zip, ↓s_seq, ↓s_ret, ↓s_exp, ↓s_asg, ↓s_asgF, ↓s_own, ↓s_par, ↓s_retW, ↓s_for, ↓s_forR, ↓p_nil, ↓p_im, ↓p_ow, ↓p_owM, ↓p_owL, ↓u_stuck, ↓u_next, ↓u_brk, ↓u_cnt, ↓u_retN, ↓u_ifs, u_fz, u_app, u_appF, u_put, u_putF, u_asgI, wAsgI, u_while, u_ownM, u_ownA, u_ownC, u_ownL, u_appP, u_put2, wOwnL, wAppP, wPut2, u_wput, u_wdm, wLC, wFz, wApp, wAppF, wPut, wPutF, wOwnM, wOwnA, setP, wComp, wYes, wWput, wWdm, capt, bo, blt, dTru_non, dTru_bl, dTru_int, dTru_tup, dTru_lst, dTy_non, dTy_bl, dTy_int, dTy_str, dTy_tup, dTy_lst, isi_ii, isi_ib, isi_tt, isi_bi, isi_bb, isi_ni, isi_nb, isi_nt, isi_ns, isi_nl, isi_si, isi_sb, isi_st, isi_ss, isi_sl, isi_ti, isi_tb, isi_ts, isi_tl, isi_li, isi_lb, isi_lt, isi_ls, isi_ll, isi_it, isi_is, isi_il, isi_bt, isi_bs, isi_bl, binds, bindss, setS, setB, getS, entry, strE, frzE, slS, slF, wipeE, dEq_int, dNe_int, DL.isNon, bRepr, permD, o_dAdd0, o_dAdd1, o_dAdd2, o_dAdd3, o_dSub0, o_dMul0, o_dMul1, o_dMul2, o_dFdiv0, o_dMod0, o_dPow0, o_dShl0, o_dShr0, o_dAnd0, o_dOr0, o_dXor0, o_dLt0, o_dLe0, o_dGt0, o_dGe0, o_dIs0, o_dIsNot0, o_dIs1, o_dIsNot1, o_bLen0, o_bLen1, o_bLen2, o_bLen3, o_bTuple0, o_bTuple1, o_bList0, o_bList1, o_bAbs0, o_bMax20, o_bMin20, o_bInt0, o_bInt1, o_bBool0, o_bBool1, o_bBool2, o_bDivmod0, o_bGcd0, o_bStr0, o_bAll0, o_bAny0, o_bSum0, o_bSum1, o_bSort0, o_bSort1, o_bMax10, o_bMax11, o_bMin10, o_bMin11, o_bRepr0, o_dIx0, o_dIx1, o_dIx2, o_dIx3, o_dIx4, o_iEn0, o_iEn1, o_iZp0, o_iZp1, o_iR30, o_iR10, o_iR20, o_dRev0, o_dRev1, o_rg1, o_rg2, o_rg3, o_rg4, o_dLs0, o_dLs1, o_dSl0, o_dSl1, o_dSl2, o_dSl3, o_dNeg, o_dEqs, o_dNes, List.map_cons, List.map_nil, List.length_cons, List.length_nil, List.foldl_cons, List.foldl_nil, List.getElem?_cons_zero, List.getElem?_cons_succ, List.getElem?_nil, List.set_cons_zero, List.set_cons_succ, List.replicate, List.append_nil, List.nil_append, List.cons_append, Option.join_some, Option.join_none, Option.bind_some, id_eq, Nat.sub_self, Nat.add_sub_cancel, Nat.reduceAdd, Nat.reduceSub, Option.getD_some, List.getD_cons_zero, List.getD_cons_succ, List.getD_nil, Bool.not_true, Bool.not_false, Bool.false_eq_true, true_and, and_true, Bool.true_and, Bool.and_true, reduceCtorEq, if_false, if_true, decide_true, decide_false, Nat.zero_add, Nat.le_refl]; exact h
        | _ => cases h3
      | int l =>
        simp only [bodyW, Hd_cons, ↓e_stuck, ↓e_var, ↓e_non, ↓e_bl, ↓e_int, ↓e_str, ↓e_kt, ↓e_bin, ↓e_chain, ↓e_and, ↓e_or, ↓e_not, ↓e_neg, ↓e_ite, ↓e_tup, ↓e_lst, ↓e_call, ↓e_callP, ↓e_callQ, ↓e_callV, ↓e_callL, ↓e_callK, ↓e_blt, ↓e_isi, ↓e_ix, ↓e_rev, ↓e_lenset, ↓e_rgv, ↓e_sl, ↓e_part0, ↓e_part1, ↓e_comp, ↓e_comp2, wComp2, ↓e_nil, ↓e_cons, ↓e_star, ↓t_yes, ↓t_val, ↓t_not, ↓t_and, ↓t_or, ↓i_items, ↓i_rng1, ↓i_rng2, ↓i_rng3, ↓i_enum, ↓i_zip, ↓s_seq, ↓s_ret, ↓s_exp, ↓s_asg, ↓s_asgF, ↓s_own, ↓s_par, ↓s_retW, ↓s_for, ↓s_forR, ↓p_nil, ↓p_im, ↓p_ow, ↓p_owM, ↓p_owL, ↓u_stuck, ↓u_next, ↓u_brk, ↓u_cnt, ↓u_retN, ↓u_ifs, u_fz, u_app, u_appF, u_put, u_putF, u_asgI, wAsgI, u_while, u_ownM, u_ownA, u_ownC, u_ownL, u_appP, u_put2, wOwnL, wAppP, wPut2, u_wput, u_wdm, wLC, wFz, wApp, wAppF, wPut, wPutF, wOwnM, wOwnA, setP, wComp, wYes, wWput, wWdm, capt, bo, blt, dTru_non, dTru_bl, dTru_int, dTru_tup, dTru_lst, dTy_non, dTy_bl, dTy_int, dTy_str, dTy_tup, dTy_lst, isi_ii, isi_ib, isi_tt, isi_bi, isi_bb, isi_ni, isi_nb, isi_nt, isi_ns, isi_nl, isi_si, isi_sb, isi_st, isi_ss, isi_sl, isi_ti, isi_tb, isi_ts, isi_tl, isi_li, isi_lb, isi_lt, isi_ls, isi_ll, isi_it, isi_is, isi_il, isi_bt, isi_bs, isi_bl, binds, bindss, setS, setB, getS, entry, strE, frzE, slS, slF, wipeE, dEq_int, dNe_int, DL.isNon, bRepr, permD, o_dAdd0, o_dAdd1, o_dAdd2, o_dAdd3, o_dSub0, o_dMul0, o_dMul1, o_dMul2, o_dFdiv0, o_dMod0, o_dPow0, o_dShl0, o_dShr0, o_dAnd0, o_dOr0, o_dXor0, o_dLt0, o_dLe0, o_dGt0, o_dGe0, o_dIs0, o_dIsNot0, o_dIs1, o_dIsNot1, o_bLen0, o_bLen1, o_bLen2, o_bLen3, o_bTuple0, o_bTuple1, o_bList0, o_bList1, o_bAbs0, o_bMax20, o_bMin20, o_bInt0, o_bInt1, o_bBool0, o_bBool1, o_bBool2, o_bDivmod0, o_bGcd0, o_bStr0, o_bAll0, o_bAny0, o_bSum0, o_bSum1, o_bSort0, o_bSort1, o_bMax10, o_bMax11, o_bMin10, o_bMin11, o_bRepr0, o_dIx0, o_dIx1, o_dIx2, o_dIx3, o_dIx4, o_iEn0, o_iEn1, o_iZp0, o_iZp1, o_iR30, o_iR10, o_iR20, o_dRev0, o_dRev1, o_rg1, o_rg2, o_rg3, o_rg4, o_dLs0, o_dLs1, o_dSl0, o_dSl1, o_dSl2, o_dSl3, o_dNeg, o_dEqs, o_dNes, List.map_cons, List.map_nil, List.length_cons, List.length_nil, List.foldl_cons, List.foldl_nil, List.getElem?_cons_zero, List.getElem?_cons_succ, List.getElem?_nil, List.set_cons_zero, List.set_cons_succ, List.replicate, List.append_nil, List.nil_append, List.cons_append, Option.join_some, Option.join_none, Option.bind_some, id_eq, Nat.sub_self, Nat.add_sub_cancel, Nat.reduceAdd, Nat.reduceSub, Option.getD_some, List.getD_cons_zero, List.getD_cons_succ, List.getD_nil, Bool.not_true, Bool.not_false, Bool.false_eq_true, true_and, and_true, Bool.true_and, Bool.and_true, reduceCtorEq, if_false, if_true, decide_true, decide_false, Nat.zero_add, Nat.le_refl]
        have h : Q (.bl (decide (l ≤ a) && hiB u a)) := h
        by_cases c : a < l
        · rw [decide_eq_true c]
          rw [decide_eq_false (by omega)] at h
          exact h
        · rw [decide_eq_false c]
          rw [decide_eq_true (by omega), Bool.true_and] at h
          cases u with
          | non => simp only [bodyW, Hd_cons, ↓e_stuck, ↓e_var, ↓e_non, ↓e_bl, ↓e_int, ↓e_str, ↓e_kt, ↓e_bin, ↓e_chain, ↓e_and, ↓e_or, ↓e_not, ↓e_neg, ↓e_ite, ↓e_tup, ↓e_lst, ↓e_call, ↓e_callP, ↓e_callQ, ↓e_callV, ↓e_callL, ↓e_callK, ↓e_blt, ↓e_isi, ↓e_ix, ↓e_rev, ↓e_lenset, ↓e_rgv, ↓e_sl, ↓e_part0, ↓e_part1, ↓e_comp, ↓e_comp2, wComp2, ↓e_nil, ↓e_cons, ↓e_star, ↓t_yes, ↓t_val, ↓t_not, ↓t_and, ↓t_or, ↓i_items, ↓i_rng1, ↓i_rng2, ↓i_rng3, ↓i_enum, ↓i_zip, ↓s_seq, ↓s_ret, ↓s_exp, ↓s_asg, ↓s_asgF, ↓s_own, ↓s_par, ↓s_retW, ↓s_for, ↓s_forR, ↓p_nil, ↓p_im, ↓p_ow, ↓p_owM, ↓p_owL, ↓u_stuck, ↓u_next, ↓u_brk, ↓u_cnt, ↓u_retN, ↓u_ifs, u_fz, u_app, u_appF, u_put, u_putF, u_asgI, wAsgI, u_while, u_ownM, u_ownA, u_ownC, u_ownL, u_appP, u_put2, wOwnL, wAppP, wPut2, u_wput, u_wdm, wLC, wFz, wApp, wAppF, wPut, wPutF, wOwnM, wOwnA, setP, wComp, wYes, wWput, wWdm, capt, bo, blt, dTru_non, dTru_bl, dTru_int, dTru_tup, dTru_lst, dTy_non, dTy_bl, dTy_int, dTy_str, dTy_tup, dTy_lst, isi_ii, isi_ib, isi_tt, isi_bi, isi_bb, isi_ni, isi_nb, isi_nt, isi_ns, isi_nl, isi_si, isi_sb, isi_st, isi_ss, isi_sl, isi_ti, isi_tb, isi_ts, isi_tl, isi_li, isi_lb, isi_lt, isi_ls, isi_ll, isi_it, isi_is, isi_il, isi_bt, isi_bs, isi_bl, binds, bindss, setS, setB, getS, entry, strE, frzE, slS, slF, wipeE, dEq_int, dNe_int, DL.isNon, bRepr, permD, o_dAdd0, o_dAdd1, o_dAdd2, o_dAdd3, o_dSub0, o_dMul0, o_dMul1, o_dMul2, o_dFdiv0, o_dMod0, o_dPow0, o_dShl0, o_dShr0, o_dAnd0, o_dOr0, o_dXor0, o_dLt0, o_dLe0, o_dGt0, o_dGe0, o_dIs0, o_dIsNot0, o_dIs1, o_dIsNot1, o_bLen0, o_bLen1, o_bLen2, o_bLen3, o_bTuple0, o_bTuple1, o_bList0, o_bList1, o_bAbs0, o_bMax20, o_bMin20, o_bInt0, o_bInt1, o_bBool0, o_bBool1, o_bBool2, o_bDivmod0, o_bGcd0, o_bStr0, o_bAll0, o_bAny0, o_bSum0, o_bSum1, o_bSort0, o_bSort1, o_bMax10, o_bMax11, o_bMin10, o_bMin11, o_bRepr0, o_dIx0, o_dIx1, o_dIx2, o_dIx3, o_dIx4, o_iEn0, o_iEn1, o_iZp0, o_iZp1, o_iR30, o_iR10, o_iR20, o_dRev0, o_dRev1, o_rg1, o_rg2, o_rg3, o_rg4, o_dLs0, o_dLs1, o_dSl0, o_dSl1, o_dSl2, o_dSl3, o_dNeg, o_dEqs, o_dNes, List.map_cons, List.map_nil, List.length_cons, List.length_nil, List.foldl_cons, List.foldl_nil, List.getElem?_cons_zero, List.getElem?_cons_succ, List.getElem?_nil, List.set_cons_zero, List.set_cons_succ, List.replicate, List.append_nil, List.nil_append, List.cons_append, Option.join_some, Option.join_none, Option.bind_some, id_eq, Nat.sub_self, Nat.add_sub_cancel, Nat.reduceAdd, Nat.reduceSub, Option.getD_some, List.getD_cons_zero, List.getD_cons_succ, List.getD_nil, Bool.not_true, Bool.not_false, Bool.false_eq_true, true_and, and_true, Bool.true_and, Bool.and_true, reduceCtorEq, if_false, if_true, decide_true, decide_false, Nat.zero_add, Nat.le_refl]; exact h
          | int u => simp only [bodyW, Hd_cons, ↓e_stuck, ↓e_var, ↓e_non, ↓e_bl, ↓e_int, ↓e_str, ↓e_kt, ↓e_bin, ↓e_chain, ↓e_and, ↓e_or, ↓e_not, ↓e_neg, ↓e_ite, ↓e_tup, ↓e_lst, ↓e_call, ↓e_callP, ↓e_callQ, ↓e_callV, ↓e_callL, ↓e_callK, ↓e_blt, ↓e_isi, ↓e_ix, ↓e_rev, ↓e_lenset, ↓e_rgv, ↓e_sl, ↓e_part0, ↓e_part1, ↓e_comp, ↓e_comp2, wComp2, ↓e_nil, ↓e_cons, ↓e_star, ↓t_yes, ↓t_val, ↓t_not, ↓t_and, ↓t_or, ↓i_items, ↓i_rng1, ↓i_rng2, ↓i_rng3, ↓i_enum, ↓i_zip, ↓s_seq, ↓s_ret, ↓s_exp, ↓s_asg, ↓s_asgF, ↓s_own, ↓s_par, ↓s_retW, ↓s_for, ↓s_forR, ↓p_nil, ↓p_im, ↓p_ow, ↓p_owM, ↓p_owL, ↓u_stuck, ↓u_next, ↓u_brk, ↓u_cnt, ↓u_retN, ↓u_ifs, u_fz, u_app, u_appF, u_put, u_putF, u_asgI, wAsgI, u_while, u_ownM, u_ownA, u_ownC, u_ownL, u_appP, u_put2, wOwnL, wAppP, wPut2, u_wput, u_wdm, wLC, wFz, wApp, wAppF, wPut, wPutF, wOwnM, wOwnA, setP, wComp, wYes, wWput, wWdm, capt, bo, blt, dTru_non, dTru_bl, dTru_int, dTru_tup, dTru_lst, dTy_non, dTy_bl, dTy_int, dTy_str, dTy_tup, dTy_lst, isi_ii, isi_ib, isi_tt, isi_bi, isi_bb, isi_ni, isi_nb, isi_nt, isi_ns, isi_nl, isi_si, isi_sb, isi_st, isi_ss, isi_sl, isi_ti, isi_tb, isi_ts, isi_tl, isi_li, isi_lb, isi_lt, isi_ls, isi_ll, isi_it, isi_is, isi_il, isi_bt, isi_bs, isi_bl, binds, bindss, setS, setB, getS, entry, strE, frzE, slS, slF, wipeE, dEq_int, dNe_int, DL.isNon, bRepr, permD, o_dAdd0, o_dAdd1, o_dAdd2, o_dAdd3, o_dSub0, o_dMul0, o_dMul1, o_dMul2, o_dFdiv0, o_dMod0, o_dPow0, o_dShl0, o_dShr0, o_dAnd0, o_dOr0, o_dXor0, o_dLt0, o_dLe0, o_dGt0, o_dGe0, o_dIs0, o_dIsNot0, o_dIs1, o_dIsNot1, o_bLen0, o_bLen1, o_bLen2, o_bLen3, o_bTuple0, o_bTuple1, o_bList0, o_bList1, o_bAbs0, o_bMax20, o_bMin20, o_bInt0, o_bInt1, o_bBool0, o_bBool1, o_bBool2, o_bDivmod0, o_bGcd0, o_bStr0, o_bAll0, o_bAny0, o_bSum0, o_bSum1, o_bSort0, o_bSort1, o_bMax10, o_bMax11, o_bMin10, o_bMin11, o_bRepr0, o_dIx0, o_dIx1, o_dIx2, o_dIx3, o_dIx4, o_iEn0, o_iEn1, o_iZp0, o_iZp1, o_iR30, o_iR10, o_iR20, o_dRev0, o_dRev1, o_rg1, o_rg2, o_rg3, o_rg4, o_dLs0, o_dLs1, o_dSl0, o_dSl1, o_dSl2, o_dSl3, o_dNeg, o_dEqs, o_dNes, List.map_cons, List.map_nil, List.length_cons, List.length_nil, List.foldl_cons, List.foldl_nil, List.getElem?_cons_zero, List.getElem?_cons_succ, List.getElem?_nil, List.set_cons_zero, List.set_cons_succ, List.replicate, List.append_nil, List.nil_append, List.cons_append, Option.join_some, Option.join_none, Option.bind_some, id_eq, Nat.sub_self, Nat.add_sub_cancel, Nat.reduceAdd, Nat.reduceSub, Option.getD_some, List.getD_cons_zero, List.getD_cons_succ, List.getD_nil, Bool.not_true, Bool.not_false, Bool.false_eq_true, true_and, and_true, Bool.true_and, Bool.and_true, reduceCtorEq, if_false, if_true, decide_true, decide_false, Nat.zero_add, Nat.le_refl]; exact h
          | _ => cases h3
      | _ => cases h2
    | _ => exact h
  · exact h.elim
theorem b_is_tuple_of : ∀ ds E Q, ds.length = F_is_tuple_of.ps.length → Sg 2 ds E Q → bodyW Sg S_is_tuple_of.N d_is_tuple_of ds E Q := by
  intro ds E Q hlen h
  clear hlen
  change Sp_is_tuple_of ds E Q at h
  unfold Sp_is_tuple_of at h
  split at h
  · rename_i xs n
    (show bodyW Sg N_is_tuple_of d_is_tuple_of [.tup xs, .int n] E Q; simp only [bodyW, Hd_cons, ↓e_stuck, ↓e_var, ↓e_non, ↓e_bl, ↓e_int, ↓e_str, ↓e_kt, ↓e_bin, ↓e_chain, ↓e_and, ↓e_or, ↓e_not, ↓e_neg, ↓e_ite, ↓e_tup, ↓e_lst, ↓e_call, ↓e_callP, ↓e_callQ, ↓e_callV, ↓e_callL, ↓e_callK, ↓e_blt, ↓e_isi, ↓e_ix, ↓e_rev, ↓e_lenset, ↓e_rgv, ↓e_sl, ↓e_part0, ↓e_part1, ↓e_comp, ↓e_comp2, wComp2, ↓e_nil, ↓e_cons, ↓e_star, ↓t_yes, ↓t_val, ↓t_not, ↓t_and, ↓t_or, ↓i_items, ↓i_rng1, ↓i_rng2, ↓i_rng3, ↓i_enum, ↓i_zip, ↓s_seq, ↓s_ret, ↓s_exp, ↓s_asg, ↓s_asgF, ↓s_own, ↓s_par, ↓s_retW, ↓s_for, ↓s_forR, ↓p_nil, ↓p_im, ↓p_ow, ↓p_owM, ↓p_owL, ↓u_stuck, ↓u_next, ↓u_brk, ↓u_cnt, ↓u_retN, ↓u_ifs, u_fz, u_app, u_appF, u_put, u_putF, u_asgI, wAsgI, u_while, u_ownM, u_ownA, u_ownC, u_ownL, u_appP, u_put2, wOwnL, wAppP, wPut2, u_wput, u_wdm, wLC, wFz, wApp, wAppF, wPut, wPutF, wOwnM, wOwnA, setP, wComp, wYes, wWput, wWdm, capt, bo, blt, dTru_non, dTru_bl, dTru_int, dTru_tup, dTru_lst, dTy_non, dTy_bl, dTy_int, dTy_str, dTy_tup, dTy_lst, isi_ii, isi_ib, isi_tt, isi_bi, isi_bb, isi_ni, isi_nb, isi_nt, isi_ns, isi_nl, isi_si, isi_sb, isi_st, isi_ss, isi_sl, isi_ti, isi_tb, isi_ts, isi_tl, isi_li, isi_lb, isi_lt, isi_ls, isi_ll, isi_it, isi_is, isi_il, isi_bt, isi_bs, isi_bl, binds, bindss, setS, setB, getS, entry, strE, frzE, slS, slF, wipeE, dEq_int, dNe_int, DL.isNon, bRepr, permD, o_dAdd0, o_dAdd1, o_dAdd2, o_dAdd3, o_dSub0, o_dMul0, o_dMul1, o_dMul2, o_dFdiv0, o_dMod0, o_dPow0, o_dShl0, o_dShr0, o_dAnd0, o_dOr0, o_dXor0, o_dLt0, o_dLe0, o_dGt0, o_dGe0, o_dIs0, o_dIsNot0, o_dIs1, o_dIsNot1, o_bLen0, o_bLen1, o_bLen2, o_bLen3, o_bTuple0, o_bTuple1, o_bList0, o_bList1, o_bAbs0, o_bMax20, o_bMin20, o_bInt0, o_bInt1, o_bBool0, o_bBool1, o_bBool2, o_bDivmod0, o_bGcd0, o_bStr0, o_bAll0, o_bAny0, o_bSum0, o_bSum1, o_bSort0, o_bSort1, o_bMax10, o_bMax11, o_bMin10, o_bMin11, o_bRepr0, o_dIx0, o_dIx1, o_dIx2, o_dIx3, o_dIx4, o_iEn0, o_iEn1, o_iZp0, o_iZp1, o_iR30, o_iR10, o_iR20, o_dRev0, o_dRev1, o_rg1, o_rg2, o_rg3, o_rg4, o_dLs0, o_dLs1, o_dSl0, o_dSl1, o_dSl2, o_dSl3, o_dNeg, o_dEqs, o_dNes, List.map_cons, List.map_nil, List.length_cons, List.length_nil, List.foldl_cons, List.foldl_nil, List.getElem?_cons_zero, List.getElem?_cons_succ, List.getElem?_nil, List.set_cons_zero, List.set_cons_succ, List.replicate, List.append_nil, List.nil_append, List.cons_append, Option.join_some, Option.join_none, Option.bind_some, id_eq, Nat.sub_self, Nat.add_sub_cancel, Nat.reduceAdd, Nat.reduceSub, Option.getD_some, List.getD_cons_zero, List.getD_cons_succ, List.getD_nil, Bool.not_true, Bool.not_false, Bool.false_eq_true, true_and, and_true, Bool.true_and, Bool.and_true, reduceCtorEq, if_false, if_true, decide_true, decide_false, Nat.zero_add, Nat.le_refl, d_is_tuple_of, N_is_tuple_of])
    exact h
  · exact h.elim
theorem b_is_hour : ∀ ds E Q, ds.length = F_is_hour.ps.length → Sg 3 ds E Q → bodyW Sg S_is_hour.N d_is_hour ds E Q := by
  intro ds E Q hlen h
  clear hlen
  change Sp_is_hour ds E Q at h
  unfold Sp_is_hour at h
  split at h
  · rename_i c v
    (show bodyW Sg N_is_hour d_is_hour [.int c, v] E Q; simp only [bodyW, Hd_cons, ↓e_stuck, ↓e_var, ↓e_non, ↓e_bl, ↓e_int, ↓e_str, ↓e_kt, ↓e_bin, ↓e_chain, ↓e_and, ↓e_or, ↓e_not, ↓e_neg, ↓e_ite, ↓e_tup, ↓e_lst, ↓e_call, ↓e_callP, ↓e_callQ, ↓e_callV, ↓e_callL, ↓e_callK, ↓e_blt, ↓e_isi, ↓e_ix, ↓e_rev, ↓e_lenset, ↓e_rgv, ↓e_sl, ↓e_part0, ↓e_part1, ↓e_comp, ↓e_comp2, wComp2, ↓e_nil, ↓e_cons, ↓e_star, ↓t_yes, ↓t_val, ↓t_not, ↓t_and, ↓t_or, ↓i_items, ↓i_rng1, ↓i_rng2, ↓i_rng3, ↓i_enum, ↓i_zip, ↓s_seq, ↓s_ret, ↓s_exp, ↓s_asg, ↓s_asgF, ↓s_own, ↓s_par, ↓s_retW, ↓s_for, ↓s_forR, ↓p_nil, ↓p_im, ↓p_ow, ↓p_owM, ↓p_owL, ↓u_stuck, ↓u_next, ↓u_brk, ↓u_cnt, ↓u_retN, ↓u_ifs, u_fz, u_app, u_appF, u_put, u_putF, u_asgI, wAsgI, u_while, u_ownM, u_ownA, u_ownC, u_ownL, u_appP, u_put2, wOwnL, wAppP, wPut2, u_wput, u_wdm, wLC, wFz, wApp, wAppF, wPut, wPutF, wOwnM, wOwnA, setP, wComp, wYes, wWput, wWdm, capt, bo, blt, dTru_non, dTru_bl, dTru_int, dTru_tup, dTru_lst, dTy_non, dTy_bl, dTy_int, dTy_str, dTy_tup, dTy_lst, isi_ii, isi_ib, isi_tt, isi_bi, isi_bb, isi_ni, isi_nb, isi_nt, isi_ns, isi_nl, isi_si, isi_sb, isi_st, isi_ss, isi_sl, isi_ti, isi_tb, isi_ts, isi_tl, isi_li, isi_lb, isi_lt, isi_ls, isi_ll, isi_it, isi_is, isi_il, isi_bt, isi_bs, isi_bl, binds, bindss, setS, setB, getS, entry, strE, frzE, slS, slF, wipeE, dEq_int, dNe_int, DL.isNon, bRepr, permD, o_dAdd0, o_dAdd1, o_dAdd2, o_dAdd3, o_dSub0, o_dMul0, o_dMul1, o_dMul2, o_dFdiv0, o_dMod0, o_dPow0, o_dShl0, o_dShr0, o_dAnd0, o_dOr0, o_dXor0, o_dLt0, o_dLe0, o_dGt0, o_dGe0, o_dIs0, o_dIsNot0, o_dIs1, o_dIsNot1, o_bLen0, o_bLen1, o_bLen2, o_bLen3, o_bTuple0, o_bTuple1, o_bList0, o_bList1, o_bAbs0, o_bMax20, o_bMin20, o_bInt0, o_bInt1, o_bBool0, o_bBool1, o_bBool2, o_bDivmod0, o_bGcd0, o_bStr0, o_bAll0, o_bAny0, o_bSum0, o_bSum1, o_bSort0, o_bSort1, o_bMax10, o_bMax11, o_bMin10, o_bMin11, o_bRepr0, o_dIx0, o_dIx1, o_dIx2, o_dIx3, o_dIx4, o_iEn0, o_iEn1, o_iZp0, o_iZp1, o_iR30, o_iR10, o_iR20, o_dRev0, o_dRev1, o_rg1, o_rg2, o_rg3, o_rg4, o_dLs0, o_dLs1, o_dSl0, o_dSl1, o_dSl2, o_dSl3, o_dNeg, o_dEqs, o_dNes, List.map_cons, List.map_nil, List.length_cons, List.length_nil, List.foldl_cons, List.foldl_nil, List.getElem?_cons_zero, List.getElem?_cons_succ, List.getElem?_nil, List.set_cons_zero, List.set_cons_succ, List.replicate, List.append_nil, List.nil_append, List.cons_append, Option.join_some, Option.join_none, Option.bind_some, id_eq, Nat.sub_self, Nat.add_sub_cancel, Nat.reduceAdd, Nat.reduceSub, Option.getD_some, List.getD_cons_zero, List.getD_cons_succ, List.getD_nil, Bool.not_true, Bool.not_false, Bool.false_eq_true, true_and, and_true, Bool.true_and, Bool.and_true, reduceCtorEq, if_false, if_true, decide_true, decide_false, Nat.zero_add, Nat.le_refl, d_is_hour, N_is_hour, sg_is_number, Sp_is_number])
    exact ⟨⟨h.1, rfl, rfl⟩, h.2⟩
  · exact h.elim
theorem b_is_clock_form : ∀ ds E Q, ds.length = F_is_clock_form.ps.length → Sg 4 ds E Q → bodyW Sg S_is_clock_form.N d_is_clock_form ds E Q := by
  intro ds E Q hlen h
  clear hlen
  change Sp_is_clock_form ds E Q at h
  unfold Sp_is_clock_form at h
  split at h
  · rename_i v
    (show bodyW Sg N_is_clock_form d_is_clock_form [v] E Q; simp only [bodyW, Hd_cons, ↓e_stuck, ↓e_var, ↓e_non, ↓e_bl, ↓e_int, ↓e_str, ↓e_kt, ↓e_bin, ↓e_chain, ↓e_and, ↓e_or, ↓e_not, ↓e_neg, ↓e_ite, ↓e_tup, ↓e_lst, ↓e_call, ↓e_callP, ↓e_callQ, ↓e_callV, ↓e_callL, ↓e_callK, ↓e_blt, ↓e_isi, ↓e_ix, ↓e_rev, ↓e_lenset, ↓e_rgv, ↓e_sl, ↓e_part0, ↓e_part1, ↓e_comp, ↓e_comp2, wComp2, ↓e_nil, ↓e_cons, ↓e_star, ↓t_yes, ↓t_val, ↓t_not, ↓t_and, ↓t_or, ↓i_items, ↓i_rng1, ↓i_rng2, ↓i_rng3, ↓i_enum, ↓i_zip, ↓s_seq, ↓s_ret, ↓s_exp, ↓s_asg, ↓s_asgF, ↓s_own, ↓s_par, ↓s_retW, ↓s_for, ↓s_forR, ↓p_nil, ↓p_im, ↓p_ow, ↓p_owM, ↓p_owL, ↓u_stuck, ↓u_next, ↓u_brk, ↓u_cnt, ↓u_retN, ↓u_ifs, u_fz, u_app, u_appF, u_put, u_putF, u_asgI, wAsgI, u_while, u_ownM, u_ownA, u_ownC, u_ownL, u_appP, u_put2, wOwnL, wAppP, wPut2, u_wput, u_wdm, wLC, wFz, wApp, wAppF, wPut, wPutF, wOwnM, wOwnA, setP, wComp, wYes, wWput, wWdm, capt, bo, blt, dTru_non, dTru_bl, dTru_int, dTru_tup, dTru_lst, dTy_non, dTy_bl, dTy_int, dTy_str, dTy_tup, dTy_lst, isi_ii, isi_ib, isi_tt, isi_bi, isi_bb, isi_ni, isi_nb, isi_nt, isi_ns, isi_nl, isi_si, isi_sb, isi_st, isi_ss, isi_sl, isi_ti, isi_tb, isi_ts, isi_tl, isi_li, isi_lb, isi_lt, isi_ls, isi_ll, isi_it, isi_is, isi_il, isi_bt, isi_bs, isi_bl, binds, bindss, setS, setB, getS, entry, strE, frzE, slS, slF, wipeE, dEq_int, dNe_int, DL.isNon, bRepr, permD, o_dAdd0, o_dAdd1, o_dAdd2, o_dAdd3, o_dSub0, o_dMul0, o_dMul1, o_dMul2, o_dFdiv0, o_dMod0, o_dPow0, o_dShl0, o_dShr0, o_dAnd0, o_dOr0, o_dXor0, o_dLt0, o_dLe0, o_dGt0, o_dGe0, o_dIs0, o_dIsNot0, o_dIs1, o_dIsNot1, o_bLen0, o_bLen1, o_bLen2, o_bLen3, o_bTuple0, o_bTuple1, o_bList0, o_bList1, o_bAbs0, o_bMax20, o_bMin20, o_bInt0, o_bInt1, o_bBool0, o_bBool1, o_bBool2, o_bDivmod0, o_bGcd0, o_bStr0, o_bAll0, o_bAny0, o_bSum0, o_bSum1, o_bSort0, o_bSort1, o_bMax10, o_bMax11, o_bMin10, o_bMin11, o_bRepr0, o_dIx0, o_dIx1, o_dIx2, o_dIx3, o_dIx4, o_iEn0, o_iEn1, o_iZp0, o_iZp1, o_iR30, o_iR10, o_iR20, o_dRev0, o_dRev1, o_rg1, o_rg2, o_rg3, o_rg4, o_dLs0, o_dLs1, o_dSl0, o_dSl1, o_dSl2, o_dSl3, o_dNeg, o_dEqs, o_dNes, List.map_cons, List.map_nil, List.length_cons, List.length_nil, List.foldl_cons, List.foldl_nil, List.getElem?_cons_zero, List.getElem?_cons_succ, List.getElem?_nil, List.set_cons_zero, List.set_cons_succ, List.replicate, List.append_nil, List.nil_append, List.cons_append, Option.join_some, Option.join_none, Option.bind_some, id_eq, Nat.sub_self, Nat.add_sub_cancel, Nat.reduceAdd, Nat.reduceSub, Option.getD_some, List.getD_cons_zero, List.getD_cons_succ, List.getD_nil, Bool.not_true, Bool.not_false, Bool.false_eq_true, true_and, and_true, Bool.true_and, Bool.and_true, reduceCtorEq, if_false, if_true, decide_true, decide_false, Nat.zero_add, Nat.le_refl, d_is_clock_form, N_is_clock_form, sg_is_number, Sp_is_number])
    exact ⟨⟨h.1, rfl, rfl⟩, h.2⟩
  · exact h.elim
theorem b_wrong_at : ∀ ds E Q, ds.length = F_wrong_at.ps.length → Sg 5 ds E Q → bodyW Sg S_wrong_at.N d_wrong_at ds E Q := by
  intro ds E Q hlen h
  clear hlen
  change Sp_wrong_at ds E Q at h
  unfold Sp_wrong_at at h
  split at h
  · rename_i v m k cs
    obtain ⟨⟨h1, h2⟩, p, hp, h⟩ := h
    cases v with
    | obj _ => cases h1
    | fn _ _ => cases h1
    | scr _ => cases h1
    | kt _ => cases h1
    | tup xs =>
      (show bodyW Sg N_wrong_at d_wrong_at [.tup xs, m, .fn k cs] E Q; simp only [bodyW, Hd_cons, ↓e_stuck, ↓e_var, ↓e_non, ↓e_bl, ↓e_int, ↓e_str, ↓e_kt, ↓e_bin, ↓e_chain, ↓e_and, ↓e_or, ↓e_not, ↓e_neg, ↓e_ite, ↓e_tup, ↓e_lst, ↓e_call, ↓e_callP, ↓e_callQ, ↓e_callV, ↓e_callL, ↓e_callK, ↓e_blt, ↓e_isi, ↓e_ix, ↓e_rev, ↓e_lenset, ↓e_rgv, ↓e_sl, ↓e_part0, ↓e_part1, ↓e_comp, ↓e_comp2, wComp2, ↓e_nil, ↓e_cons, ↓e_star, ↓t_yes, ↓t_val, ↓t_not, ↓t_and, ↓t_or, ↓i_items, ↓i_rng1, ↓i_rng2, ↓i_rng3, ↓i_enum, ↓i_zip, ↓s_seq, ↓s_ret, ↓s_exp, ↓s_asg, ↓s_asgF, ↓s_own, ↓s_par, ↓s_retW, ↓s_for, ↓s_forR, ↓p_nil, ↓p_im, ↓p_ow, ↓p_owM, ↓p_owL, ↓u_stuck, ↓u_next, ↓u_brk, ↓u_cnt, ↓u_retN, ↓u_ifs, u_fz, u_app, u_appF, u_put, u_putF, u_asgI, wAsgI, u_while, u_ownM, u_ownA, u_ownC, u_ownL, u_appP, u_put2, wOwnL, wAppP, wPut2, u_wput, u_wdm, wLC, wFz, wApp, wAppF, wPut, wPutF, wOwnM, wOwnA, setP, wComp, wYes, wWput, wWdm, capt, bo, blt, dTru_non, dTru_bl, dTru_int, dTru_tup, dTru_lst, dTy_non, dTy_bl, dTy_int, dTy_str, dTy_tup, dTy_lst, isi_ii, isi_ib, isi_tt, isi_bi, isi_bb, isi_ni, isi_nb, isi_nt, isi_ns, isi_nl, isi_si, isi_sb, isi_st, isi_ss, isi_sl, isi_ti, isi_tb, isi_ts, isi_tl, isi_li, isi_lb, isi_lt, isi_ls, isi_ll, isi_it, isi_is, isi_il, isi_bt, isi_bs, isi_bl, binds, bindss, setS, setB, getS, entry, strE, frzE, slS, slF, wipeE, dEq_int, dNe_int, DL.isNon, bRepr, permD, o_dAdd0, o_dAdd1, o_dAdd2, o_dAdd3, o_dSub0, o_dMul0, o_dMul1, o_dMul2, o_dFdiv0, o_dMod0, o_dPow0, o_dShl0, o_dShr0, o_dAnd0, o_dOr0, o_dXor0, o_dLt0, o_dLe0, o_dGt0, o_dGe0, o_dIs0, o_dIsNot0, o_dIs1, o_dIsNot1, o_bLen0, o_bLen1, o_bLen2, o_bLen3, o_bTuple0, o_bTuple1, o_bList0, o_bList1, o_bAbs0, o_bMax20, o_bMin20, o_bInt0, o_bInt1, o_bBool0, o_bBool1, o_bBool2, o_bDivmod0, o_bGcd0, o_bStr0, o_bAll0, o_bAny0, o_bSum0, o_bSum1, o_bSort0, o_bSort1, o_bMax10, o_bMax11, o_bMin10, o_bMin11, o_bRepr0, o_dIx0, o_dIx1, o_dIx2, o_dIx3, o_dIx4, o_iEn0, o_iEn1, o_iZp0, o_iZp1, o_iR30, o_iR10, o_iR20, o_dRev0, o_dRev1, o_rg1, o_rg2, o_rg3, o_rg4, o_dLs0, o_dLs1, o_dSl0, o_dSl1, o_dSl2, o_dSl3, o_dNeg, o_dEqs, o_dNes, List.map_cons, List.map_nil, List.length_cons, List.length_nil, List.foldl_cons, List.foldl_nil, List.getElem?_cons_zero, List.getElem?_cons_succ, List.getElem?_nil, List.set_cons_zero, List.set_cons_succ, List.replicate, List.append_nil, List.nil_append, List.cons_append, Option.join_some, Option.join_none, Option.bind_some, id_eq, Nat.sub_self, Nat.add_sub_cancel, Nat.reduceAdd, Nat.reduceSub, Option.getD_some, List.getD_cons_zero, List.getD_cons_succ, List.getD_nil, Bool.not_true, Bool.not_false, Bool.false_eq_true, true_and, and_true, Bool.true_and, Bool.and_true, reduceCtorEq, if_false, if_true, decide_true, decide_false, Nat.zero_add, Nat.le_refl, d_wrong_at, N_wrong_at])
      refine forL_inv (n := 0) (fun n ρ => (∃ s3 s4 : Sl, ρ = [.im (.tup xs), .im m, .im (.fn k cs), s3, s4]) ∧ ∀ i, i < n → badB m p xs i = false) ⟨⟨_, _, rfl⟩, fun i hi => absurd hi (Nat.not_lt_zero _)⟩ (fun j d hj ρ hI M hM => ?_) (fun ρ hI => ?_)
      · obtain ⟨⟨s3, s4, rfl⟩, hb⟩ := hI
        rw [enD_get] at hj
        obtain ⟨x, hx, rfl⟩ := Option.map_eq_some_iff.mp hj
        have hjl : j < xs.length := (List.getElem?_eq_some_iff.mp hx).1
        refine ⟨_, rfl, ?_⟩
        have key : ∀ Q' : D → Prop, Q' (.bl (p x (xs.take j))) → SLs k (cs ++ [x, .tup (cutD xs none (some (j : Int)))]) E Q' := fun Q' q => by
          rw [cut_to (by omega), Int.toNat_natCast]
          exact hp xs rfl j x hx E Q' q
        have ebad : badB m p xs j = (mB m j || !p x (xs.take j)) := by unfold badB; rw [hx]
        simp only [bodyW, Hd_cons, ↓e_stuck, ↓e_var, ↓e_non, ↓e_bl, ↓e_int, ↓e_str, ↓e_kt, ↓e_bin, ↓e_chain, ↓e_and, ↓e_or, ↓e_not, ↓e_neg, ↓e_ite, ↓e_tup, ↓e_lst, ↓e_call, ↓e_callP, ↓e_callQ, ↓e_callV, ↓e_callL, ↓e_callK, ↓e_blt, ↓e_isi, ↓e_ix, ↓e_rev, ↓e_lenset, ↓e_rgv, ↓e_sl, ↓e_part0, ↓e_part1, ↓e_comp, ↓e_comp2, wComp2, ↓e_nil, ↓e_cons, ↓e_star, ↓t_yes, ↓t_val, ↓t_not, ↓t_and, ↓t_or, ↓i_items, ↓i_rng1, ↓i_rng2, ↓i_rng3, ↓i_enum, ↓i_zip, ↓s_seq, ↓s_ret, ↓s_exp, ↓s_asg, ↓s_asgF, ↓s_own, ↓s_par, ↓s_retW, ↓s_for, ↓s_forR, ↓p_nil, ↓p_im, ↓p_ow, ↓p_owM, ↓p_owL, ↓u_stuck, ↓u_next, ↓u_brk, ↓u_cnt, ↓u_retN, ↓u_ifs, u_fz, u_app, u_appF, u_put, u_putF, u_asgI, wAsgI, u_while, u_ownM, u_ownA, u_ownC, u_ownL, u_appP, u_put2, wOwnL, wAppP, wPut2, u_wput, u_wdm, wLC, wFz, wApp, wAppF, wPut, wPutF, wOwnM, wOwnA, setP, wComp, wYes, wWput, wWdm, capt, bo, blt, dTru_non, dTru_bl, dTru_int, dTru_tup, dTru_lst, dTy_non, dTy_bl, dTy_int, dTy_str, dTy_tup, dTy_lst, isi_ii, isi_ib, isi_tt, isi_bi, isi_bb, isi_ni, isi_nb, isi_nt, isi_ns, isi_nl, isi_si, isi_sb, isi_st, isi_ss, isi_sl, isi_ti, isi_tb, isi_ts, isi_tl, isi_li, isi_lb, isi_lt, isi_ls, isi_ll, isi_it, isi_is, isi_il, isi_bt, isi_bs, isi_bl, binds, bindss, setS, setB, getS, entry, strE, frzE, slS, slF, wipeE, dEq_int, dNe_int, DL.isNon, bRepr, permD, o_dAdd0, o_dAdd1, o_dAdd2, o_dAdd3, o_dSub0, o_dMul0, o_dMul1, o_dMul2, o_dFdiv0, o_dMod0, o_dPow0, o_dShl0, o_dShr0, o_dAnd0, o_dOr0, o_dXor0, o_dLt0, o_dLe0, o_dGt0, o_dGe0, o_dIs0, o_dIsNot0, o_dIs1, o_dIsNot1, o_bLen0, o_bLen1, o_bLen2, o_bLen3, o_bTuple0, o_bTuple1, o_bList0, o_bList1, o_bAbs0, o_bMax20, o_bMin20, o_bInt0, o_bInt1, o_bBool0, o_bBool1, o_bBool2, o_bDivmod0, o_bGcd0, o_bStr0, o_bAll0, o_bAny0, o_bSum0, o_bSum1, o_bSort0, o_bSort1, o_bMax10, o_bMax11, o_bMin10, o_bMin11, o_bRepr0, o_dIx0, o_dIx1, o_dIx2, o_dIx3, o_dIx4, o_iEn0, o_iEn1, o_iZp0, o_iZp1, o_iR30, o_iR10, o_iR20, o_dRev0, o_dRev1, o_rg1, o_rg2, o_rg3, o_rg4, o_dLs0, o_dLs1, o_dSl0, o_dSl1, o_dSl2, o_dSl3, o_dNeg, o_dEqs, o_dNes, List.map_cons, List.map_nil, List.length_cons, List.length_nil, List.foldl_cons, List.foldl_nil, List.getElem?_cons_zero, List.getElem?_cons_succ, List.getElem?_nil, List.set_cons_zero, List.set_cons_succ, List.replicate, List.append_nil, List.nil_append, List.cons_append, Option.join_some, Option.join_none, Option.bind_some, id_eq, Nat.sub_self, Nat.add_sub_cancel, Nat.reduceAdd, Nat.reduceSub, Option.getD_some, List.getD_cons_zero, List.getD_cons_succ, List.getD_nil, Bool.not_true, Bool.not_false, Bool.false_eq_true, true_and, and_true, Bool.true_and, Bool.and_true, reduceCtorEq, if_false, if_true, decide_true, decide_false, Nat.zero_add, Nat.le_refl, sgl]
        cases m with
        | non =>
          simp only [bodyW, Hd_cons, ↓e_stuck, ↓e_var, ↓e_non, ↓e_bl, ↓e_int, ↓e_str, ↓e_kt, ↓e_bin, ↓e_chain, ↓e_and, ↓e_or, ↓e_not, ↓e_neg, ↓e_ite, ↓e_tup, ↓e_lst, ↓e_call, ↓e_callP, ↓e_callQ, ↓e_callV, ↓e_callL, ↓e_callK, ↓e_blt, ↓e_isi, ↓e_ix, ↓e_rev, ↓e_lenset, ↓e_rgv, ↓e_sl, ↓e_part0, ↓e_part1, ↓e_comp, ↓e_comp2, wComp2, ↓e_nil, ↓e_cons, ↓e_star, ↓t_yes, ↓t_val, ↓t_not, ↓t_and, ↓t_or, ↓i_items, ↓i_rng1, ↓i_rng2, ↓i_rng3, ↓i_enum, ↓i_zip, ↓s_seq, ↓s_ret, ↓s_exp, ↓s_asg, ↓s_asgF, ↓s_own, ↓s_par, ↓s_retW, ↓s_for, ↓s_forR, ↓p_nil, ↓p_im, ↓p_ow, ↓p_owM, ↓p_owL, ↓u_stuck, ↓u_next, ↓u_brk, ↓u_cnt, ↓u_retN, ↓u_ifs, u_fz, u_app, u_appF, u_put, u_putF, u_asgI, wAsgI, u_while, u_ownM, u_ownA, u_ownC, u_ownL, u_appP, u_put2, wOwnL, wAppP, wPut2, u_wput, u_wdm, wLC, wFz, wApp, wAppF, wPut, wPutF, wOwnM, wOwnA, setP, wComp, wYes, wWput, wWdm, capt, bo, blt, dTru_non, dTru_bl, dTru_int, dTru_tup, dTru_lst, dTy_non, dTy_bl, dTy_int, dTy_str, dTy_tup, dTy_lst, isi_ii, isi_ib, isi_tt, isi_bi, isi_bb, isi_ni, isi_nb, isi_nt, isi_ns, isi_nl, isi_si, isi_sb, isi_st, isi_ss, isi_sl, isi_ti, isi_tb, isi_ts, isi_tl, isi_li, isi_lb, isi_lt, isi_ls, isi_ll, isi_it, isi_is, isi_il, isi_bt, isi_bs, isi_bl, binds, bindss, setS, setB, getS, entry, strE, frzE, slS, slF, wipeE, dEq_int, dNe_int, DL.isNon, bRepr, permD, o_dAdd0, o_dAdd1, o_dAdd2, o_dAdd3, o_dSub0, o_dMul0, o_dMul1, o_dMul2, o_dFdiv0, o_dMod0, o_dPow0, o_dShl0, o_dShr0, o_dAnd0, o_dOr0, o_dXor0, o_dLt0, o_dLe0, o_dGt0, o_dGe0, o_dIs0, o_dIsNot0, o_dIs1, o_dIsNot1, o_bLen0, o_bLen1, o_bLen2, o_bLen3, o_bTuple0, o_bTuple1, o_bList0, o_bList1, o_bAbs0, o_bMax20, o_bMin20, o_bInt0, o_bInt1, o_bBool0, o_bBool1, o_bBool2, o_bDivmod0, o_bGcd0, o_bStr0, o_bAll0, o_bAny0, o_bSum0, o_bSum1, o_bSort0, o_bSort1, o_bMax10, o_bMax11, o_bMin10, o_bMin11, o_bRepr0, o_dIx0, o_dIx1, o_dIx2, o_dIx3, o_dIx4, o_iEn0, o_iEn1, o_iZp0, o_iZp1, o_iR30, o_iR10, o_iR20, o_dRev0, o_dRev1, o_rg1, o_rg2, o_rg3, o_rg4, o_dLs0, o_dLs1, o_dSl0, o_dSl1, o_dSl2, o_dSl3, o_dNeg, o_dEqs, o_dNes, List.map_cons, List.map_nil, List.length_cons, List.length_nil, List.foldl_cons, List.foldl_nil, List.getElem?_cons_zero, List.getElem?_cons_succ, List.getElem?_nil, List.set_cons_zero, List.set_cons_succ, List.replicate, List.append_nil, List.nil_append, List.cons_append, Option.join_some, Option.join_none, Option.bind_some, id_eq, Nat.sub_self, Nat.add_sub_cancel, Nat.reduceAdd, Nat.reduceSub, Option.getD_some, List.getD_cons_zero, List.getD_cons_succ, List.getD_nil, Bool.not_true, Bool.not_false, Bool.false_eq_true, true_and, and_true, Bool.true_and, Bool.and_true, reduceCtorEq, if_false, if_true, decide_true, decide_false, Nat.zero_add, Nat.le_refl, sgl]
          refine key _ ?_
          cases e : p x (xs.take j) with
          | true =>
            simp only [bodyW, Hd_cons, ↓e_stuck, ↓e_var, ↓e_non, ↓e_bl, ↓e_int, ↓e_str, ↓e_kt, ↓e_bin, ↓e_chain, ↓e_and, ↓e_or, ↓e_not, ↓e_neg, ↓e_ite, ↓e_tup, ↓e_lst, ↓e_call, ↓e_callP, ↓e_callQ, ↓e_callV, ↓e_callL, ↓e_callK, ↓e_blt, ↓e_isi, ↓e_ix, ↓e_rev, ↓e_lenset, ↓e_rgv, ↓e_sl, ↓e_part0, ↓e_part1, ↓e_comp, ↓e_comp2, wComp2, ↓e_nil, ↓e_cons, ↓e_star, ↓t_yes, ↓t_val, ↓t_not, ↓t_and, ↓t_or, ↓i_items, ↓i_rng1, ↓i_rng2, ↓i_rng3, ↓i_enum, ↓i_zip, ↓s_seq, ↓s_ret, ↓s_exp, ↓s_asg, ↓s_asgF, ↓s_own, ↓s_par, ↓s_retW, ↓s_for, ↓s_forR, ↓p_nil, ↓p_im, ↓p_ow, ↓p_owM, ↓p_owL, ↓u_stuck, ↓u_next, ↓u_brk, ↓u_cnt, ↓u_retN, ↓u_ifs, u_fz, u_app, u_appF, u_put, u_putF, u_asgI, wAsgI, u_while, u_ownM, u_ownA, u_ownC, u_ownL, u_appP, u_put2, wOwnL, wAppP, wPut2, u_wput, u_wdm, wLC, wFz, wApp, wAppF, wPut, wPutF, wOwnM, wOwnA, setP, wComp, wYes, wWput, wWdm, capt, bo, blt, dTru_non, dTru_bl, dTru_int, dTru_tup, dTru_lst, dTy_non, dTy_bl, dTy_int, dTy_str, dTy_tup, dTy_lst, isi_ii, isi_ib, isi_tt, isi_bi, isi_bb, isi_ni, isi_nb, isi_nt, isi_ns, isi_nl, isi_si, isi_sb, isi_st, isi_ss, isi_sl, isi_ti, isi_tb, isi_ts, isi_tl, isi_li, isi_lb, isi_lt, isi_ls, isi_ll, isi_it, isi_is, isi_il, isi_bt, isi_bs, isi_bl, binds, bindss, setS, setB, getS, entry, strE, frzE, slS, slF, wipeE, dEq_int, dNe_int, DL.isNon, bRepr, permD, o_dAdd0, o_dAdd1, o_dAdd2, o_dAdd3, o_dSub0, o_dMul0, o_dMul1, o_dMul2, o_dFdiv0, o_dMod0, o_dPow0, o_dShl0, o_dShr0, o_dAnd0, o_dOr0, o_dXor0, o_dLt0, o_dLe0, o_dGt0, o_dGe0, o_dIs0, o_dIsNot0, o_dIs1, o_dIsNot1, o_bLen0, o_bLen1, o_bLen2, o_bLen3, o_bTuple0, o_bTuple1, o_bList0, o_bList1, o_bAbs0, o_bMax20, o_bMin20, o_bInt0, o_bInt1, o_bBool0, o_bBool1, o_bBool2, o_bDivmod0, o_bGcd0, o_bStr0, o_bAll0, o_bAny0, o_bSum0, o_bSum1, o_bSort0, o_bSort1, o_bMax10, o_bMax11, o_bMin10, o_bMin11, o_bRepr0, o_dIx0, o_dIx1, o_dIx2, o_dIx3, o_dIx4, o_iEn0, o_iEn1, o_iZp0, o_iZp1, o_iR30, o_iR10, o_iR20, o_dRev0, o_dRev1, o_rg1, o_rg2, o_rg3, o_rg4, o_dLs0, o_dLs1, o_dSl0, o_dSl1, o_dSl2, o_dSl3, o_dNeg, o_dEqs, o_dNes, List.map_cons, List.map_nil, List.length_cons, List.length_nil, List.foldl_cons, List.foldl_nil, List.getElem?_cons_zero, List.getElem?_cons_succ, List.getElem?_nil, List.set_cons_zero, List.set_cons_succ, List.replicate, List.append_nil, List.nil_append, List.cons_append, Option.join_some, Option.join_none, Option.bind_some, id_eq, Nat.sub_self, Nat.add_sub_cancel, Nat.reduceAdd, Nat.reduceSub, Option.getD_some, List.getD_cons_zero, List.getD_cons_succ, List.getD_nil, Bool.not_true, Bool.not_false, Bool.false_eq_true, true_and, and_true, Bool.true_and, Bool.and_true, reduceCtorEq, if_false, if_true, decide_true, decide_false, Nat.zero_add, Nat.le_refl]
            refine hM _ ⟨⟨_, _, rfl⟩, fun i hi => ?_⟩
            by_cases c : i = j
            · subst c; rw [ebad, e]; rfl
            · exact hb i (by omega)
          | false =>
            simp only [bodyW, Hd_cons, ↓e_stuck, ↓e_var, ↓e_non, ↓e_bl, ↓e_int, ↓e_str, ↓e_kt, ↓e_bin, ↓e_chain, ↓e_and, ↓e_or, ↓e_not, ↓e_neg, ↓e_ite, ↓e_tup, ↓e_lst, ↓e_call, ↓e_callP, ↓e_callQ, ↓e_callV, ↓e_callL, ↓e_callK, ↓e_blt, ↓e_isi, ↓e_ix, ↓e_rev, ↓e_lenset, ↓e_rgv, ↓e_sl, ↓e_part0, ↓e_part1, ↓e_comp, ↓e_comp2, wComp2, ↓e_nil, ↓e_cons, ↓e_star, ↓t_yes, ↓t_val, ↓t_not, ↓t_and, ↓t_or, ↓i_items, ↓i_rng1, ↓i_rng2, ↓i_rng3, ↓i_enum, ↓i_zip, ↓s_seq, ↓s_ret, ↓s_exp, ↓s_asg, ↓s_asgF, ↓s_own, ↓s_par, ↓s_retW, ↓s_for, ↓s_forR, ↓p_nil, ↓p_im, ↓p_ow, ↓p_owM, ↓p_owL, ↓u_stuck, ↓u_next, ↓u_brk, ↓u_cnt, ↓u_retN, ↓u_ifs, u_fz, u_app, u_appF, u_put, u_putF, u_asgI, wAsgI, u_while, u_ownM, u_ownA, u_ownC, u_ownL, u_appP, u_put2, wOwnL, wAppP, wPut2, u_wput, u_wdm, wLC, wFz, wApp, wAppF, wPut, wPutF, wOwnM, wOwnA, setP, wComp, wYes, wWput, wWdm, capt, bo, blt, dTru_non, dTru_bl, dTru_int, dTru_tup, dTru_lst, dTy_non, dTy_bl, dTy_int, dTy_str, dTy_tup, dTy_lst, isi_ii, isi_ib, isi_tt, isi_bi, isi_bb, isi_ni, isi_nb, isi_nt, isi_ns, isi_nl, isi_si, isi_sb, isi_st, isi_ss, isi_sl, isi_ti, isi_tb, isi_ts, isi_tl, isi_li, isi_lb, isi_lt, isi_ls, isi_ll, isi_it, isi_is, isi_il, isi_bt, isi_bs, isi_bl, binds, bindss, setS, setB, getS, entry, strE, frzE, slS, slF, wipeE, dEq_int, dNe_int, DL.isNon, bRepr, permD, o_dAdd0, o_dAdd1, o_dAdd2, o_dAdd3, o_dSub0, o_dMul0, o_dMul1, o_dMul2, o_dFdiv0, o_dMod0, o_dPow0, o_dShl0, o_dShr0, o_dAnd0, o_dOr0, o_dXor0, o_dLt0, o_dLe0, o_dGt0, o_dGe0, o_dIs0, o_dIsNot0, o_dIs1, o_dIsNot1, o_bLen0, o_bLen1, o_bLen2, o_bLen3, o_bTuple0, o_bTuple1, o_bList0, o_bList1, o_bAbs0, o_bMax20, o_bMin20, o_bInt0, o_bInt1, o_bBool0, o_bBool1, o_bBool2, o_bDivmod0, o_bGcd0, o_bStr0, o_bAll0, o_bAny0, o_bSum0, o_bSum1, o_bSort0, o_bSort1, o_bMax10, o_bMax11, o_bMin10, o_bMin11, o_bRepr0, o_dIx0, o_dIx1, o_dIx2, o_dIx3, o_dIx4, o_iEn0, o_iEn1, o_iZp0, o_iZp1, o_iR30, o_iR10, o_iR20, o_dRev0, o_dRev1, o_rg1, o_rg2, o_rg3, o_rg4, o_dLs0, o_dLs1, o_dSl0, o_dSl1, o_dSl2, o_dSl3, o_dNeg, o_dEqs, o_dNes, List.map_cons, List.map_nil, List.length_cons, List.length_nil, List.foldl_cons, List.foldl_nil, List.getElem?_cons_zero, List.getElem?_cons_succ, List.getElem?_nil, List.set_cons_zero, List.set_cons_succ, List.replicate, List.append_nil, List.nil_append, List.cons_append, Option.join_some, Option.join_none, Option.bind_some, id_eq, Nat.sub_self, Nat.add_sub_cancel, Nat.reduceAdd, Nat.reduceSub, Option.getD_some, List.getD_cons_zero, List.getD_cons_succ, List.getD_nil, Bool.not_true, Bool.not_false, Bool.false_eq_true, true_and, and_true, Bool.true_and, Bool.and_true, reduceCtorEq, if_false, if_true, decide_true, decide_false, Nat.zero_add, Nat.le_refl]
            have : wrongD (.tup xs) .non p = .lst [.int (j : Nat)] := by
              show (match List.find? (badB .non p xs) (List.range xs.length) with | some i => D.lst [.int (i : Nat)] | none => D.lst []) = _
              rw [find_rng (j := j) (fun i hi => hb i (by omega)) (by rw [ebad, e]; rfl) hjl]
            rw [this] at h
            exact ⟨by decide, h⟩
        | int q =>
          simp only [bodyW, Hd_cons, ↓e_stuck, ↓e_var, ↓e_non, ↓e_bl, ↓e_int, ↓e_str, ↓e_kt, ↓e_bin, ↓e_chain, ↓e_and, ↓e_or, ↓e_not, ↓e_neg, ↓e_ite, ↓e_tup, ↓e_lst, ↓e_call, ↓e_callP, ↓e_callQ, ↓e_callV, ↓e_callL, ↓e_callK, ↓e_blt, ↓e_isi, ↓e_ix, ↓e_rev, ↓e_lenset, ↓e_rgv, ↓e_sl, ↓e_part0, ↓e_part1, ↓e_comp, ↓e_comp2, wComp2, ↓e_nil, ↓e_cons, ↓e_star, ↓t_yes, ↓t_val, ↓t_not, ↓t_and, ↓t_or, ↓i_items, ↓i_rng1, ↓i_rng2, ↓i_rng3, ↓i_enum, ↓i_zip, ↓s_seq, ↓s_ret, ↓s_exp, ↓s_asg, ↓s_asgF, ↓s_own, ↓s_par, ↓s_retW, ↓s_for, ↓s_forR, ↓p_nil, ↓p_im, ↓p_ow, ↓p_owM, ↓p_owL, ↓u_stuck, ↓u_next, ↓u_brk, ↓u_cnt, ↓u_retN, ↓u_ifs, u_fz, u_app, u_appF, u_put, u_putF, u_asgI, wAsgI, u_while, u_ownM, u_ownA, u_ownC, u_ownL, u_appP, u_put2, wOwnL, wAppP, wPut2, u_wput, u_wdm, wLC, wFz, wApp, wAppF, wPut, wPutF, wOwnM, wOwnA, setP, wComp, wYes, wWput, wWdm, capt, bo, blt, dTru_non, dTru_bl, dTru_int, dTru_tup, dTru_lst, dTy_non, dTy_bl, dTy_int, dTy_str, dTy_tup, dTy_lst, isi_ii, isi_ib, isi_tt, isi_bi, isi_bb, isi_ni, isi_nb, isi_nt, isi_ns, isi_nl, isi_si, isi_sb, isi_st, isi_ss, isi_sl, isi_ti, isi_tb, isi_ts, isi_tl, isi_li, isi_lb, isi_lt, isi_ls, isi_ll, isi_it, isi_is, isi_il, isi_bt, isi_bs, isi_bl, binds, bindss, setS, setB, getS, entry, strE, frzE, slS, slF, wipeE, dEq_int, dNe_int, DL.isNon, bRepr, permD, o_dAdd0, o_dAdd1, o_dAdd2, o_dAdd3, o_dSub0, o_dMul0, o_dMul1, o_dMul2, o_dFdiv0, o_dMod0, o_dPow0, o_dShl0, o_dShr0, o_dAnd0, o_dOr0, o_dXor0, o_dLt0, o_dLe0, o_dGt0, o_dGe0, o_dIs0, o_dIsNot0, o_dIs1, o_dIsNot1, o_bLen0, o_bLen1, o_bLen2, o_bLen3, o_bTuple0, o_bTuple1, o_bList0, o_bList1, o_bAbs0, o_bMax20, o_bMin20, o_bInt0, o_bInt1, o_bBool0, o_bBool1, o_bBool2, o_bDivmod0, o_bGcd0, o_bStr0, o_bAll0, o_bAny0, o_bSum0, o_bSum1, o_bSort0, o_bSort1, o_bMax10, o_bMax11, o_bMin10, o_bMin11, o_bRepr0, o_dIx0, o_dIx1, o_dIx2, o_dIx3, o_dIx4, o_iEn0, o_iEn1, o_iZp0, o_iZp1, o_iR30, o_iR10, o_iR20, o_dRev0, o_dRev1, o_rg1, o_rg2, o_rg3, o_rg4, o_dLs0, o_dLs1, o_dSl0, o_dSl1, o_dSl2, o_dSl3, o_dNeg, o_dEqs, o_dNes, List.map_cons, List.map_nil, List.length_cons, List.length_nil, List.foldl_cons, List.foldl_nil, List.getElem?_cons_zero, List.getElem?_cons_succ, List.getElem?_nil, List.set_cons_zero, List.set_cons_succ, List.replicate, List.append_nil, List.nil_append, List.cons_append, Option.join_some, Option.join_none, Option.bind_some, id_eq, Nat.sub_self, Nat.add_sub_cancel, Nat.reduceAdd, Nat.reduceSub, Option.getD_some, List.getD_cons_zero, List.getD_cons_succ, List.getD_nil, Bool.not_true, Bool.not_false, Bool.false_eq_true, true_and, and_true, Bool.true_and, Bool.and_true, reduceCtorEq, if_false, if_true, decide_true, decide_false, Nat.zero_add, Nat.le_refl, sgl]
          by_cases c : q ≤ (j : Int)
          · rw [decide_eq_true (show (j : Int) ≥ q from c)]
            simp only [bodyW, Hd_cons, ↓e_stuck, ↓e_var, ↓e_non, ↓e_bl, ↓e_int, ↓e_str, ↓e_kt, ↓e_bin, ↓e_chain, ↓e_and, ↓e_or, ↓e_not, ↓e_neg, ↓e_ite, ↓e_tup, ↓e_lst, ↓e_call, ↓e_callP, ↓e_callQ, ↓e_callV, ↓e_callL, ↓e_callK, ↓e_blt, ↓e_isi, ↓e_ix, ↓e_rev, ↓e_lenset, ↓e_rgv, ↓e_sl, ↓e_part0, ↓e_part1, ↓e_comp, ↓e_comp2, wComp2, ↓e_nil, ↓e_cons, ↓e_star, ↓t_yes, ↓t_val, ↓t_not, ↓t_and, ↓t_or, ↓i_items, ↓i_rng1, ↓i_rng2, ↓i_rng3, ↓i_enum, ↓i_zip, ↓s_seq, ↓s_ret, ↓s_exp, ↓s_asg, ↓s_asgF, ↓s_own, ↓s_par, ↓s_retW, ↓s_for, ↓s_forR, ↓p_nil, ↓p_im, ↓p_ow, ↓p_owM, ↓p_owL, ↓u_stuck, ↓u_next, ↓u_brk, ↓u_cnt, ↓u_retN, ↓u_ifs, u_fz, u_app, u_appF, u_put, u_putF, u_asgI, wAsgI, u_while, u_ownM, u_ownA, u_ownC, u_ownL, u_appP, u_put2, wOwnL, wAppP, wPut2, u_wput, u_wdm, wLC, wFz, wApp, wAppF, wPut, wPutF, wOwnM, wOwnA, setP, wComp, wYes, wWput, wWdm, capt, bo, blt, dTru_non, dTru_bl, dTru_int, dTru_tup, dTru_lst, dTy_non, dTy_bl, dTy_int, dTy_str, dTy_tup, dTy_lst, isi_ii, isi_ib, isi_tt, isi_bi, isi_bb, isi_ni, isi_nb, isi_nt, isi_ns, isi_nl, isi_si, isi_sb, isi_st, isi_ss, isi_sl, isi_ti, isi_tb, isi_ts, isi_tl, isi_li, isi_lb, isi_lt, isi_ls, isi_ll, isi_it, isi_is, isi_il, isi_bt, isi_bs, isi_bl, binds, bindss, setS, setB, getS, entry, strE, frzE, slS, slF, wipeE, dEq_int, dNe_int, DL.isNon, bRepr, permD, o_dAdd0, o_dAdd1, o_dAdd2, o_dAdd3, o_dSub0, o_dMul0, o_dMul1, o_dMul2, o_dFdiv0, o_dMod0, o_dPow0, o_dShl0, o_dShr0, o_dAnd0, o_dOr0, o_dXor0, o_dLt0, o_dLe0, o_dGt0, o_dGe0, o_dIs0, o_dIsNot0, o_dIs1, o_dIsNot1, o_bLen0, o_bLen1, o_bLen2, o_bLen3, o_bTuple0, o_bTuple1, o_bList0, o_bList1, o_bAbs0, o_bMax20, o_bMin20, o_bInt0, o_bInt1, o_bBool0, o_bBool1, o_bBool2, o_bDivmod0, o_bGcd0, o_bStr0, o_bAll0, o_bAny0, o_bSum0, o_bSum1, o_bSort0, o_bSort1, o_bMax10, o_bMax11, o_bMin10, o_bMin11, o_bRepr0, o_dIx0, o_dIx1, o_dIx2, o_dIx3, o_dIx4, o_iEn0, o_iEn1, o_iZp0, o_iZp1, o_iR30, o_iR10, o_iR20, o_dRev0, o_dRev1, o_rg1, o_rg2, o_rg3, o_rg4, o_dLs0, o_dLs1, o_dSl0, o_dSl1, o_dSl2, o_dSl3, o_dNeg, o_dEqs, o_dNes, List.map_cons, List.map_nil, List.length_cons, List.length_nil, List.foldl_cons, List.foldl_nil, List.getElem?_cons_zero, List.getElem?_cons_succ, List.getElem?_nil, List.set_cons_zero, List.set_cons_succ, List.replicate, List.append_nil, List.nil_append, List.cons_append, Option.join_some, Option.join_none, Option.bind_some, id_eq, Nat.sub_self, Nat.add_sub_cancel, Nat.reduceAdd, Nat.reduceSub, Option.getD_some, List.getD_cons_zero, List.getD_cons_succ, List.getD_nil, Bool.not_true, Bool.not_false, Bool.false_eq_true, true_and, and_true, Bool.true_and, Bool.and_true, reduceCtorEq, if_false, if_true, decide_true, decide_false, Nat.zero_add, Nat.le_refl]
            have : wrongD (.tup xs) (.int q) p = .lst [.int (j : Nat)] := by
              show (match List.find? (badB (.int q) p xs) (List.range xs.length) with | some i => D.lst [.int (i : Nat)] | none => D.lst []) = _
              rw [find_rng (j := j) (fun i hi => hb i (by omega)) (by rw [ebad]; simp only [mB, decide_eq_true c]; rfl) hjl]
            rw [this] at h
            exact ⟨by decide, h⟩
          · rw [decide_eq_false (show ¬ (j : Int) ≥ q from c)]
            simp only [bodyW, Hd_cons, ↓e_stuck, ↓e_var, ↓e_non, ↓e_bl, ↓e_int, ↓e_str, ↓e_kt, ↓e_bin, ↓e_chain, ↓e_and, ↓e_or, ↓e_not, ↓e_neg, ↓e_ite, ↓e_tup, ↓e_lst, ↓e_call, ↓e_callP, ↓e_callQ, ↓e_callV, ↓e_callL, ↓e_callK, ↓e_blt, ↓e_isi, ↓e_ix, ↓e_rev, ↓e_lenset, ↓e_rgv, ↓e_sl, ↓e_part0, ↓e_part1, ↓e_comp, ↓e_comp2, wComp2, ↓e_nil, ↓e_cons, ↓e_star, ↓t_yes, ↓t_val, ↓t_not, ↓t_and, ↓t_or, ↓i_items, ↓i_rng1, ↓i_rng2, ↓i_rng3, ↓i_enum, ↓i_zip, ↓s_seq, ↓s_ret, ↓s_exp, ↓s_asg, ↓s_asgF, ↓s_own, ↓s_par, ↓s_retW, ↓s_for, ↓s_forR, ↓p_nil, ↓p_im, ↓p_ow, ↓p_owM, ↓p_owL, ↓u_stuck, ↓u_next, ↓u_brk, ↓u_cnt, ↓u_retN, ↓u_ifs, u_fz, u_app, u_appF, u_put, u_putF, u_asgI, wAsgI, u_while, u_ownM, u_ownA, u_ownC, u_ownL, u_appP, u_put2, wOwnL, wAppP, wPut2, u_wput, u_wdm, wLC, wFz, wApp, wAppF, wPut, wPutF, wOwnM, wOwnA, setP, wComp, wYes, wWput, wWdm, capt, bo, blt, dTru_non, dTru_bl, dTru_int, dTru_tup, dTru_lst, dTy_non, dTy_bl, dTy_int, dTy_str, dTy_tup, dTy_lst, isi_ii, isi_ib, isi_tt, isi_bi, isi_bb, isi_ni, isi_nb, isi_nt, isi_ns, isi_nl, isi_si, isi_sb, isi_st, isi_ss, isi_sl, isi_ti, isi_tb, isi_ts, isi_tl, isi_li, isi_lb, isi_lt, isi_ls, isi_ll, isi_it, isi_is, isi_il, isi_bt, isi_bs, isi_bl, binds, bindss, setS, setB, getS, entry, strE, frzE, slS, slF, wipeE, dEq_int, dNe_int, DL.isNon, bRepr, permD, o_dAdd0, o_dAdd1, o_dAdd2, o_dAdd3, o_dSub0, o_dMul0, o_dMul1, o_dMul2, o_dFdiv0, o_dMod0, o_dPow0, o_dShl0, o_dShr0, o_dAnd0, o_dOr0, o_dXor0, o_dLt0, o_dLe0, o_dGt0, o_dGe0, o_dIs0, o_dIsNot0, o_dIs1, o_dIsNot1, o_bLen0, o_bLen1, o_bLen2, o_bLen3, o_bTuple0, o_bTuple1, o_bList0, o_bList1, o_bAbs0, o_bMax20, o_bMin20, o_bInt0, o_bInt1, o_bBool0, o_bBool1, o_bBool2, o_bDivmod0, o_bGcd0, o_bStr0, o_bAll0, o_bAny0, o_bSum0, o_bSum1, o_bSort0, o_bSort1, o_bMax10, o_bMax11, o_bMin10, o_bMin11, o_bRepr0, o_dIx0, o_dIx1, o_dIx2, o_dIx3, o_dIx4, o_iEn0, o_iEn1, o_iZp0, o_iZp1, o_iR30, o_iR10, o_iR20, o_dRev0, o_dRev1, o_rg1, o_rg2, o_rg3, o_rg4, o_dLs0, o_dLs1, o_dSl0, o_dSl1, o_dSl2, o_dSl3, o_dNeg, o_dEqs, o_dNes, List.map_cons, List.map_nil, List.length_cons, List.length_nil, List.foldl_cons, List.foldl_nil, List.getElem?_cons_zero, List.getElem?_cons_succ, List.getElem?_nil, List.set_cons_zero, List.set_cons_succ, List.replicate, List.append_nil, List.nil_append, List.cons_append, Option.join_some, Option.join_none, Option.bind_some, id_eq, Nat.sub_self, Nat.add_sub_cancel, Nat.reduceAdd, Nat.reduceSub, Option.getD_some, List.getD_cons_zero, List.getD_cons_succ, List.getD_nil, Bool.not_true, Bool.not_false, Bool.false_eq_true, true_and, and_true, Bool.true_and, Bool.and_true, reduceCtorEq, if_false, if_true, decide_true, decide_false, Nat.zero_add, Nat.le_refl, sgl]
            refine key _ ?_
            cases e : p x (xs.take j) with
            | true =>
              simp only [bodyW, Hd_cons, ↓e_stuck, ↓e_var, ↓e_non, ↓e_bl, ↓e_int, ↓e_str, ↓e_kt, ↓e_bin, ↓e_chain, ↓e_and, ↓e_or, ↓e_not, ↓e_neg, ↓e_ite, ↓e_tup, ↓e_lst, ↓e_call, ↓e_callP, ↓e_callQ, ↓e_callV, ↓e_callL, ↓e_callK, ↓e_blt, ↓e_isi, ↓e_ix, ↓e_rev, ↓e_lenset, ↓e_rgv, ↓e_sl, ↓e_part0, ↓e_part1, ↓e_comp, ↓e_comp2, wComp2, ↓e_nil, ↓e_cons, ↓e_star, ↓t_yes, ↓t_val, ↓t_not, ↓t_and, ↓t_or, ↓i_items, ↓i_rng1, ↓i_rng2, ↓i_rng3, ↓i_enum, ↓i_zip, ↓s_seq, ↓s_ret, ↓s_exp, ↓s_asg, ↓s_asgF, ↓s_own, ↓s_par, ↓s_retW, ↓s_for, ↓s_forR, ↓p_nil, ↓p_im, ↓p_ow, ↓p_owM, ↓p_owL, ↓u_stuck, ↓u_next, ↓u_brk, ↓u_cnt, ↓u_retN, ↓u_ifs, u_fz, u_app, u_appF, u_put, u_putF, u_asgI, wAsgI, u_while, u_ownM, u_ownA, u_ownC, u_ownL, u_appP, u_put2, wOwnL, wAppP, wPut2, u_wput, u_wdm, wLC, wFz, wApp, wAppF, wPut, wPutF, wOwnM, wOwnA, setP, wComp, wYes, wWput, wWdm, capt, bo, blt, dTru_non, dTru_bl, dTru_int, dTru_tup, dTru_lst, dTy_non, dTy_bl, dTy_int, dTy_str, dTy_tup, dTy_lst, isi_ii, isi_ib, isi_tt, isi_bi, isi_bb, isi_ni, isi_nb, isi_nt, isi_ns, isi_nl, isi_si, isi_sb, isi_st, isi_ss, isi_sl, isi_ti, isi_tb, isi_ts, isi_tl, isi_li, isi_lb, isi_lt, isi_ls, isi_ll, isi_it, isi_is, isi_il, isi_bt, isi_bs, isi_bl, binds, bindss, setS, setB, getS, entry, strE, frzE, slS, slF, wipeE, dEq_int, dNe_int, DL.isNon, bRepr, permD, o_dAdd0, o_dAdd1, o_dAdd2, o_dAdd3, o_dSub0, o_dMul0, o_dMul1, o_dMul2, o_dFdiv0, o_dMod0, o_dPow0, o_dShl0, o_dShr0, o_dAnd0, o_dOr0, o_dXor0, o_dLt0, o_dLe0, o_dGt0, o_dGe0, o_dIs0, o_dIsNot0, o_dIs1, o_dIsNot1, o_bLen0, o_bLen1, o_bLen2, o_bLen3, o_bTuple0, o_bTuple1, o_bList0, o_bList1, o_bAbs0, o_bMax20, o_bMin20, o_bInt0, o_bInt1, o_bBool0, o_bBool1, o_bBool2, o_bDivmod0, o_bGcd0, o_bStr0, o_bAll0, o_bAny0, o_bSum0, o_bSum1, o_bSort0, o_bSort1, o_bMax10, o_bMax11, o_bMin10, o_bMin11, o_bRepr0, o_dIx0, o_dIx1, o_dIx2, o_dIx3, o_dIx4, o_iEn0, o_iEn1, o_iZp0, o_iZp1, o_iR30, o_iR10, o_iR20, o_dRev0, o_dRev1, o_rg1, o_rg2, o_rg3, o_rg4, o_dLs0, o_dLs1, o_dSl0, o_dSl1, o_dSl2, o_dSl3, o_dNeg, o_dEqs, o_dNes, List.map_cons, List.map_nil, List.length_cons, List.length_nil, List.foldl_cons, List.foldl_nil, List.getElem?_cons_zero, List.getElem?_cons_succ, List.getElem?_nil, List.set_cons_zero, List.set_cons_succ, List.replicate, List.append_nil, List.nil_append, List.cons_append, Option.join_some, Option.join_none, Option.bind_some, id_eq, Nat.sub_self, Nat.add_sub_cancel, Nat.reduceAdd, Nat.reduceSub, Option.getD_some, List.getD_cons_zero, List.getD_cons_succ, List.getD_nil, Bool.not_true, Bool.not_false, Bool.false_eq_true, true_and, and_true, Bool.true_and, Bool.and_true, reduceCtorEq, if_false, if_true, decide_true, decide_false, Nat.zero_add, Nat.le_refl]
              refine hM _ ⟨⟨_, _, rfl⟩, fun i hi => ?_⟩
              by_cases c2 : i = j
              · subst c2; rw [ebad, e]; simp only [mB, decide_eq_false c]; rfl
              · exact hb i (by omega)
            | false =>
              simp only [bodyW, Hd_cons, ↓e_stuck, ↓e_var, ↓e_non, ↓e_bl, ↓e_int, ↓e_str, ↓e_kt, ↓e_bin, ↓e_chain, ↓e_and, ↓e_or, ↓e_not, ↓e_neg, ↓e_ite, ↓e_tup, ↓e_lst, ↓e_call, ↓e_callP, ↓e_callQ, ↓e_callV, ↓e_callL, ↓e_callK, ↓e_blt, ↓e_isi, ↓e_ix, ↓e_rev, ↓e_lenset, ↓e_rgv, ↓e_sl, ↓e_part0, ↓e_part1, ↓e_comp, ↓e_comp2, wComp2, ↓e_nil, ↓e_cons, ↓e_star, ↓t_yes, ↓t_val, ↓t_not, ↓t_and, ↓t_or, ↓i_items, ↓i_rng1, ↓i_rng2, ↓i_rng3, ↓i_enum, ↓i_zip, ↓s_seq, ↓s_ret, ↓s_exp, ↓s_asg, ↓s_asgF, ↓s_own, ↓s_par, ↓s_retW, ↓s_for, ↓s_forR, ↓p_nil, ↓p_im, ↓p_ow, ↓p_owM, ↓p_owL, ↓u_stuck, ↓u_next, ↓u_brk, ↓u_cnt, ↓u_retN, ↓u_ifs, u_fz, u_app, u_appF, u_put, u_putF, u_asgI, wAsgI, u_while, u_ownM, u_ownA, u_ownC, u_ownL, u_appP, u_put2, wOwnL, wAppP, wPut2, u_wput, u_wdm, wLC, wFz, wApp, wAppF, wPut, wPutF, wOwnM, wOwnA, setP, wComp, wYes, wWput, wWdm, capt, bo, blt, dTru_non, dTru_bl, dTru_int, dTru_tup, dTru_lst, dTy_non, dTy_bl, dTy_int, dTy_str, dTy_tup, dTy_lst, isi_ii, isi_ib, isi_tt, isi_bi, isi_bb, isi_ni, isi_nb, isi_nt, isi_ns, isi_nl, isi_si, isi_sb, isi_st, isi_ss, isi_sl, isi_ti, isi_tb, isi_ts, isi_tl, isi_li, isi_lb, isi_lt, isi_ls, isi_ll, isi_it, isi_is, isi_il, isi_bt, isi_bs, isi_bl, binds, bindss, setS, setB, getS, entry, strE, frzE, slS, slF, wipeE, dEq_int, dNe_int, DL.isNon, bRepr, permD, o_dAdd0, o_dAdd1, o_dAdd2, o_dAdd3, o_dSub0, o_dMul0, o_dMul1, o_dMul2, o_dFdiv0, o_dMod0, o_dPow0, o_dShl0, o_dShr0, o_dAnd0, o_dOr0, o_dXor0, o_dLt0, o_dLe0, o_dGt0, o_dGe0, o_dIs0, o_dIsNot0, o_dIs1, o_dIsNot1, o_bLen0, o_bLen1, o_bLen2, o_bLen3, o_bTuple0, o_bTuple1, o_bList0, o_bList1, o_bAbs0, o_bMax20, o_bMin20, o_bInt0, o_bInt1, o_bBool0, o_bBool1, o_bBool2, o_bDivmod0, o_bGcd0, o_bStr0, o_bAll0, o_bAny0, o_bSum0, o_bSum1, o_bSort0, o_bSort1, o_bMax10, o_bMax11, o_bMin10, o_bMin11, o_bRepr0, o_dIx0, o_dIx1, o_dIx2, o_dIx3, o_dIx4, o_iEn0, o_iEn1, o_iZp0, o_iZp1, o_iR30, o_iR10, o_iR20, o_dRev0, o_dRev1, o_rg1, o_rg2, o_rg3, o_rg4, o_dLs0, o_dLs1, o_dSl0, o_dSl1, o_dSl2, o_dSl3, o_dNeg, o_dEqs, o_dNes, List.map_cons, List.map_nil, List.length_cons, List.length_nil, List.foldl_cons, List.foldl_nil, List.getElem?_cons_zero, List.getElem?_cons_succ, List.getElem?_nil, List.set_cons_zero, List.set_cons_succ, List.replicate, List.append_nil, List.nil_append, List.cons_append, Option.join_some, Option.join_none, Option.bind_some, id_eq, Nat.sub_self, Nat.add_sub_cancel, Nat.reduceAdd, Nat.reduceSub, Option.getD_some, List.getD_cons_zero, List.getD_cons_succ, List.getD_nil, Bool.not_true, Bool.not_false, Bool.false_eq_true, true_and, and_true, Bool.true_and, Bool.and_true, reduceCtorEq, if_false, if_true, decide_true, decide_false, Nat.zero_add, Nat.le_refl]
              have : wrongD (.tup xs) (.int q) p = .lst [.int (j : Nat)] := by
                show (match List.find? (badB (.int q) p xs) (List.range xs.length) with | some i => D.lst [.int (i : Nat)] | none => D.lst []) = _
                rw [find_rng (j := j) (fun i hi => hb i (by omega)) (by rw [ebad, e]; simp) hjl]
              rw [this] at h
              exact ⟨by decide, h⟩
        | _ => cases h2
      · obtain ⟨⟨s3, s4, rfl⟩, hb⟩ := hI
        simp only [bodyW, Hd_cons, ↓e_stuck, ↓e_var, ↓e_non, ↓e_bl, ↓e_int, ↓e_str, ↓e_kt, ↓e_bin, ↓e_chain, ↓e_and, ↓e_or, ↓e_not, ↓e_neg, ↓e_ite, ↓e_tup, ↓e_lst, ↓e_call, ↓e_callP, ↓e_callQ, ↓e_callV, ↓e_callL, ↓e_callK, ↓e_blt, ↓e_isi, ↓e_ix, ↓e_rev, ↓e_lenset, ↓e_rgv, ↓e_sl, ↓e_part0, ↓e_part1, ↓e_comp, ↓e_comp2, wComp2, ↓e_nil, ↓e_cons, ↓e_star, ↓t_yes, ↓t_val, ↓t_not, ↓t_and, ↓t_or, ↓i_items, ↓i_rng1, ↓i_rng2, ↓i_rng3, ↓i_enum, ↓i_zip, ↓s_seq, ↓s_ret, ↓s_exp, ↓s_asg, ↓s_asgF, ↓s_own, ↓s_par, ↓s_retW, ↓s_for, ↓s_forR, ↓p_nil, ↓p_im, ↓p_ow, ↓p_owM, ↓p_owL, ↓u_stuck, ↓u_next, ↓u_brk, ↓u_cnt, ↓u_retN, ↓u_ifs, u_fz, u_app, u_appF, u_put, u_putF, u_asgI, wAsgI, u_while, u_ownM, u_ownA, u_ownC, u_ownL, u_appP, u_put2, wOwnL, wAppP, wPut2, u_wput, u_wdm, wLC, wFz, wApp, wAppF, wPut, wPutF, wOwnM, wOwnA, setP, wComp, wYes, wWput, wWdm, capt, bo, blt, dTru_non, dTru_bl, dTru_int, dTru_tup, dTru_lst, dTy_non, dTy_bl, dTy_int, dTy_str, dTy_tup, dTy_lst, isi_ii, isi_ib, isi_tt, isi_bi, isi_bb, isi_ni, isi_nb, isi_nt, isi_ns, isi_nl, isi_si, isi_sb, isi_st, isi_ss, isi_sl, isi_ti, isi_tb, isi_ts, isi_tl, isi_li, isi_lb, isi_lt, isi_ls, isi_ll, isi_it, isi_is, isi_il, isi_bt, isi_bs, isi_bl, binds, bindss, setS, setB, getS, entry, strE, frzE, slS, slF, wipeE, dEq_int, dNe_int, DL.isNon, bRepr, permD, o_dAdd0, o_dAdd1, o_dAdd2, o_dAdd3, o_dSub0, o_dMul0, o_dMul1, o_dMul2, o_dFdiv0, o_dMod0, o_dPow0, o_dShl0, o_dShr0, o_dAnd0, o_dOr0, o_dXor0, o_dLt0, o_dLe0, o_dGt0, o_dGe0, o_dIs0, o_dIsNot0, o_dIs1, o_dIsNot1, o_bLen0, o_bLen1, o_bLen2, o_bLen3, o_bTuple0, o_bTuple1, o_bList0, o_bList1, o_bAbs0, o_bMax20, o_bMin20, o_bInt0, o_bInt1, o_bBool0, o_bBool1, o_bBool2, o_bDivmod0, o_bGcd0, o_bStr0, o_bAll0, o_bAny0, o_bSum0, o_bSum1, o_bSort0, o_bSort1, o_bMax10, o_bMax11, o_bMin10, o_bMin11, o_bRepr0, o_dIx0, o_dIx1, o_dIx2, o_dIx3, o_dIx4, o_iEn0, o_iEn1, o_iZp0, o_iZp1, o_iR30, o_iR10, o_iR20, o_dRev0, o_dRev1, o_rg1, o_rg2, o_rg3, o_rg4, o_dLs0, o_dLs1, o_dSl0, o_dSl1, o_dSl2, o_dSl3, o_dNeg, o_dEqs, o_dNes, List.map_cons, List.map_nil, List.length_cons, List.length_nil, List.foldl_cons, List.foldl_nil, List.getElem?_cons_zero, List.getElem?_cons_succ, List.getElem?_nil, List.set_cons_zero, List.set_cons_succ, List.replicate, List.append_nil, List.nil_append, List.cons_append, Option.join_some, Option.join_none, Option.bind_some, id_eq, Nat.sub_self, Nat.add_sub_cancel, Nat.reduceAdd, Nat.reduceSub, Option.getD_some, List.getD_cons_zero, List.getD_cons_succ, List.getD_nil, Bool.not_true, Bool.not_false, Bool.false_eq_true, true_and, and_true, Bool.true_and, Bool.and_true, reduceCtorEq, if_false, if_true, decide_true, decide_false, Nat.zero_add, Nat.le_refl]
        have : wrongD (.tup xs) m p = .lst [] := by
          show (match List.find? (badB m p xs) (List.range xs.length) with | some i => D.lst [.int (i : Nat)] | none => D.lst []) = _
          rw [find_none fun i hi => hb i (by rw [enD_len]; omega)]
        rw [this] at h
        exact ⟨by decide, h⟩
    | non => ((show bodyW Sg N_wrong_at d_wrong_at [.non, m, .fn k cs] E Q; simp only [bodyW, Hd_cons, ↓e_stuck, ↓e_var, ↓e_non, ↓e_bl, ↓e_int, ↓e_str, ↓e_kt, ↓e_bin, ↓e_chain, ↓e_and, ↓e_or, ↓e_not, ↓e_neg, ↓e_ite, ↓e_tup, ↓e_lst, ↓e_call, ↓e_callP, ↓e_callQ, ↓e_callV, ↓e_callL, ↓e_callK, ↓e_blt, ↓e_isi, ↓e_ix, ↓e_rev, ↓e_lenset, ↓e_rgv, ↓e_sl, ↓e_part0, ↓e_part1, ↓e_comp, ↓e_comp2, wComp2, ↓e_nil, ↓e_cons, ↓e_star, ↓t_yes, ↓t_val, ↓t_not, ↓t_and, ↓t_or, ↓i_items, ↓i_rng1, ↓i_rng2, ↓i_rng3, ↓i_enum, ↓i_zip, ↓s_seq, ↓s_ret, ↓s_exp, ↓s_asg, ↓s_asgF, ↓s_own, ↓s_par, ↓s_retW, ↓s_for, ↓s_forR, ↓p_nil, ↓p_im, ↓p_ow, ↓p_owM, ↓p_owL, ↓u_stuck, ↓u_next, ↓u_brk, ↓u_cnt, ↓u_retN, ↓u_ifs, u_fz, u_app, u_appF, u_put, u_putF, u_asgI, wAsgI, u_while, u_ownM, u_ownA, u_ownC, u_ownL, u_appP, u_put2, wOwnL, wAppP, wPut2, u_wput, u_wdm, wLC, wFz, wApp, wAppF, wPut, wPutF, wOwnM, wOwnA, setP, wComp, wYes, wWput, wWdm, capt, bo, blt, dTru_non, dTru_bl, dTru_int, dTru_tup, dTru_lst, dTy_non, dTy_bl, dTy_int, dTy_str, dTy_tup, dTy_lst, isi_ii, isi_ib, isi_tt, isi_bi, isi_bb, isi_ni, isi_nb, isi_nt, isi_ns, isi_nl, isi_si, isi_sb, isi_st, isi_ss, isi_sl, isi_ti, isi_tb, isi_ts, isi_tl, isi_li, isi_lb, isi_lt, isi_ls, isi_ll, isi_it, isi_is, isi_il, isi_bt, isi_bs, isi_bl, binds, bindss, setS, setB, getS, entry, strE, frzE, slS, slF, wipeE, dEq_int, dNe_int, DL.isNon, bRepr, permD, o_dAdd0, o_dAdd1, o_dAdd2, o_dAdd3, o_dSub0, o_dMul0, o_dMul1, o_dMul2, o_dFdiv0, o_dMod0, o_dPow0, o_dShl0, o_dShr0, o_dAnd0, o_dOr0, o_dXor0, o_dLt0, o_dLe0, o_dGt0, o_dGe0, o_dIs0, o_dIsNot0, o_dIs1, o_dIsNot1, o_bLen0, o_bLen1, o_bLen2, o_bLen3, o_bTuple0, o_bTuple1, o_bList0, o_bList1, o_bAbs0, o_bMax20, o_bMin20, o_bInt0, o_bInt1, o_bBool0, o_bBool1, o_bBool2, o_bDivmod0, o_bGcd0, o_bStr0, o_bAll0, o_bAny0, o_bSum0, o_bSum1, o_bSort0, o_bSort1, o_bMax10, o_bMax11, o_bMin10, o_bMin11, o_bRepr0, o_dIx0, o_dIx1, o_dIx2, o_dIx3, o_dIx4, o_iEn0, o_iEn1, o_iZp0, o_iZp1, o_iR30, o_iR10, o_iR20, o_dRev0, o_dRev1, o_rg1, o_rg2, o_rg3, o_rg4, o_dLs0, o_dLs1, o_dSl0, o_dSl1, o_dSl2, o_dSl3, o_dNeg, o_dEqs, o_dNes, List.map_cons, List.map_nil, List.length_cons, List.length_nil, List.foldl_cons, List.foldl_nil, List.getElem?_cons_zero, List.getElem?_cons_succ, List.getElem?_nil, List.set_cons_zero, List.set_cons_succ, List.replicate, List.append_nil, List.nil_append, List.cons_append, Option.join_some, Option.join_none, Option.bind_some, id_eq, Nat.sub_self, Nat.add_sub_cancel, Nat.reduceAdd, Nat.reduceSub, Option.getD_some, List.getD_cons_zero, List.getD_cons_succ, List.getD_nil, Bool.not_true, Bool.not_false, Bool.false_eq_true, true_and, and_true, Bool.true_and, Bool.and_true, reduceCtorEq, if_false, if_true, decide_true, decide_false, Nat.zero_add, Nat.le_refl, d_wrong_at, N_wrong_at]); exact ⟨by decide, h⟩)
    | bl b => ((show bodyW Sg N_wrong_at d_wrong_at [.bl b, m, .fn k cs] E Q; simp only [bodyW, Hd_cons, ↓e_stuck, ↓e_var, ↓e_non, ↓e_bl, ↓e_int, ↓e_str, ↓e_kt, ↓e_bin, ↓e_chain, ↓e_and, ↓e_or, ↓e_not, ↓e_neg, ↓e_ite, ↓e_tup, ↓e_lst, ↓e_call, ↓e_callP, ↓e_callQ, ↓e_callV, ↓e_callL, ↓e_callK, ↓e_blt, ↓e_isi, ↓e_ix, ↓e_rev, ↓e_lenset, ↓e_rgv, ↓e_sl, ↓e_part0, ↓e_part1, ↓e_comp, ↓e_comp2, wComp2, ↓e_nil, ↓e_cons, ↓e_star, ↓t_yes, ↓t_val, ↓t_not, ↓t_and, ↓t_or, ↓i_items, ↓i_rng1, ↓i_rng2, ↓i_rng3, ↓i_enum, ↓i_zip, ↓s_seq, ↓s_ret, ↓s_exp, ↓s_asg, ↓s_asgF, ↓s_own, ↓s_par, ↓s_retW, ↓s_for, ↓s_forR, ↓p_nil, ↓p_im, ↓p_ow, ↓p_owM, ↓p_owL, ↓u_stuck, ↓u_next, ↓u_brk, ↓u_cnt, ↓u_retN, ↓u_ifs, u_fz, u_app, u_appF, u_put, u_putF, u_asgI, wAsgI, u_while, u_ownM, u_ownA, u_ownC, u_ownL, u_appP, u_put2, wOwnL, wAppP, wPut2, u_wput, u_wdm, wLC, wFz, wApp, wAppF, wPut, wPutF, wOwnM, wOwnA, setP, wComp, wYes, wWput, wWdm, capt, bo, blt, dTru_non, dTru_bl, dTru_int, dTru_tup, dTru_lst, dTy_non, dTy_bl, dTy_int, dTy_str, dTy_tup, dTy_lst, isi_ii, isi_ib, isi_tt, isi_bi, isi_bb, isi_ni, isi_nb, isi_nt, isi_ns, isi_nl, isi_si, isi_sb, isi_st, isi_ss, isi_sl, isi_ti, isi_tb, isi_ts, isi_tl, isi_li, isi_lb, isi_lt, isi_ls, isi_ll, isi_it, isi_is, isi_il, isi_bt, isi_bs, isi_bl, binds, bindss, setS, setB, getS, entry, strE, frzE, slS, slF, wipeE, dEq_int, dNe_int, DL.isNon, bRepr, permD, o_dAdd0, o_dAdd1, o_dAdd2, o_dAdd3, o_dSub0, o_dMul0, o_dMul1, o_dMul2, o_dFdiv0, o_dMod0, o_dPow0, o_dShl0, o_dShr0, o_dAnd0, o_dOr0, o_dXor0, o_dLt0, o_dLe0, o_dGt0, o_dGe0, o_dIs0, o_dIsNot0, o_dIs1, o_dIsNot1, o_bLen0, o_bLen1, o_bLen2, o_bLen3, o_bTuple0, o_bTuple1, o_bList0, o_bList1, o_bAbs0, o_bMax20, o_bMin20, o_bInt0, o_bInt1, o_bBool0, o_bBool1, o_bBool2, o_bDivmod0, o_bGcd0, o_bStr0, o_bAll0, o_bAny0, o_bSum0, o_bSum1, o_bSort0, o_bSort1, o_bMax10, o_bMax11, o_bMin10, o_bMin11, o_bRepr0, o_dIx0, o_dIx1, o_dIx2, o_dIx3, o_dIx4, o_iEn0, o_iEn1, o_iZp0, o_iZp1, o_iR30, o_iR10, o_iR20, o_dRev0, o_dRev1, o_rg1, o_rg2, o_rg3, o_rg4, o_dLs0, o_dLs1, o_dSl0, o_dSl1, o_dSl2, o_dSl3, o_dNeg, o_dEqs, o_dNes, List.map_cons, List.map_nil, List.length_cons, List.length_nil, List.foldl_cons, List.foldl_nil, List.getElem?_cons_zero, List.getElem?_cons_succ, List.getElem?_nil, List.set_cons_zero, List.set_cons_succ, List.replicate, List.append_nil, List.nil_append, List.cons_append, Option.join_some, Option.join_none, Option.bind_some, id_eq, Nat.sub_self, Nat.add_sub_cancel, Nat.reduceAdd, Nat.reduceSub, Option.getD_some, List.getD_cons_zero, List.getD_cons_succ, List.getD_nil, Bool.not_true, Bool.not_false, Bool.false_eq_true, true_and, and_true, Bool.true_and, Bool.and_true, reduceCtorEq, if_false, if_true, decide_true, decide_false, Nat.zero_add, Nat.le_refl, d_wrong_at, N_wrong_at]); exact ⟨by decide, h⟩)
    | int b => ((show bodyW Sg N_wrong_at d_wrong_at [.int b, m, .fn k cs] E Q; simp only [bodyW, Hd_cons, ↓e_stuck, ↓e_var, ↓e_non, ↓e_bl, ↓e_int, ↓e_str, ↓e_kt, ↓e_bin, ↓e_chain, ↓e_and, ↓e_or, ↓e_not, ↓e_neg, ↓e_ite, ↓e_tup, ↓e_lst, ↓e_call, ↓e_callP, ↓e_callQ, ↓e_callV, ↓e_callL, ↓e_callK, ↓e_blt, ↓e_isi, ↓e_ix, ↓e_rev, ↓e_lenset, ↓e_rgv, ↓e_sl, ↓e_part0, ↓e_part1, ↓e_comp, ↓e_comp2, wComp2, ↓e_nil, ↓e_cons, ↓e_star, ↓t_yes, ↓t_val, ↓t_not, ↓t_and, ↓t_or, ↓i_items, ↓i_rng1, ↓i_rng2, ↓i_rng3, ↓i_enum, ↓i_zip, ↓s_seq, ↓s_ret, ↓s_exp, ↓s_asg, ↓s_asgF, ↓s_own, ↓s_par, ↓s_retW, ↓s_for, ↓s_forR, ↓p_nil, ↓p_im, ↓p_ow, ↓p_owM, ↓p_owL, ↓u_stuck, ↓u_next, ↓u_brk, ↓u_cnt, ↓u_retN, ↓u_ifs, u_fz, u_app, u_appF, u_put, u_putF, u_asgI, wAsgI, u_while, u_ownM, u_ownA, u_ownC, u_ownL, u_appP, u_put2, wOwnL, wAppP, wPut2, u_wput, u_wdm, wLC, wFz, wApp, wAppF, wPut, wPutF, wOwnM, wOwnA, setP, wComp, wYes, wWput, wWdm, capt, bo, blt, dTru_non, dTru_bl, dTru_int, dTru_tup, dTru_lst, dTy_non, dTy_bl, dTy_int, dTy_str, dTy_tup, dTy_lst, isi_ii, isi_ib, isi_tt, isi_bi, isi_bb, isi_ni, isi_nb, isi_nt, isi_ns, isi_nl, isi_si, isi_sb, isi_st, isi_ss, isi_sl, isi_ti, isi_tb, isi_ts, isi_tl, isi_li, isi_lb, isi_lt, isi_ls, isi_ll, isi_it, isi_is, isi_il, isi_bt, isi_bs, isi_bl, binds, bindss, setS, setB, getS, entry, strE, frzE, slS, slF, wipeE, dEq_int, dNe_int, DL.isNon, bRepr, permD, o_dAdd0, o_dAdd1, o_dAdd2, o_dAdd3, o_dSub0, o_dMul0, o_dMul1, o_dMul2, o_dFdiv0, o_dMod0, o_dPow0, o_dShl0, o_dShr0, o_dAnd0, o_dOr0, o_dXor0, o_dLt0, o_dLe0, o_dGt0, o_dGe0, o_dIs0, o_dIsNot0, o_dIs1, o_dIsNot1, o_bLen0, o_bLen1, o_bLen2, o_bLen3, o_bTuple0, o_bTuple1, o_bList0, o_bList1, o_bAbs0, o_bMax20, o_bMin20, o_bInt0, o_bInt1, o_bBool0, o_bBool1, o_bBool2, o_bDivmod0, o_bGcd0, o_bStr0, o_bAll0, o_bAny0, o_bSum0, o_bSum1, o_bSort0, o_bSort1, o_bMax10, o_bMax11, o_bMin10, o_bMin11, o_bRepr0, o_dIx0, o_dIx1, o_dIx2, o_dIx3, o_dIx4, o_iEn0, o_iEn1, o_iZp0, o_iZp1, o_iR30, o_iR10, o_iR20, o_dRev0, o_dRev1, o_rg1, o_rg2, o_rg3, o_rg4, o_dLs0, o_dLs1, o_dSl0, o_dSl1, o_dSl2, o_dSl3, o_dNeg, o_dEqs, o_dNes, List.map_cons, List.map_nil, List.length_cons, List.length_nil, List.foldl_cons, List.foldl_nil, List.getElem?_cons_zero, List.getElem?_cons_succ, List.getElem?_nil, List.set_cons_zero, List.set_cons_succ, List.replicate, List.append_nil, List.nil_append, List.cons_append, Option.join_some, Option.join_none, Option.bind_some, id_eq, Nat.sub_self, Nat.add_sub_cancel, Nat.reduceAdd, Nat.reduceSub, Option.getD_some, List.getD_cons_zero, List.getD_cons_succ, List.getD_nil, Bool.not_true, Bool.not_false, Bool.false_eq_true, true_and, and_true, Bool.true_and, Bool.and_true, reduceCtorEq, if_false, if_true, decide_true, decide_false, Nat.zero_add, Nat.le_refl, d_wrong_at, N_wrong_at]); exact ⟨by decide, h⟩)
    | str b => ((show bodyW Sg N_wrong_at d_wrong_at [.str b, m, .fn k cs] E Q; simp only [bodyW, Hd_cons, ↓e_stuck, ↓e_var, ↓e_non, ↓e_bl, ↓e_int, ↓e_str, ↓e_kt, ↓e_bin, ↓e_chain, ↓e_and, ↓e_or, ↓e_not, ↓e_neg, ↓e_ite, ↓e_tup, ↓e_lst, ↓e_call, ↓e_callP, ↓e_callQ, ↓e_callV, ↓e_callL, ↓e_callK, ↓e_blt, ↓e_isi, ↓e_ix, ↓e_rev, ↓e_lenset, ↓e_rgv, ↓e_sl, ↓e_part0, ↓e_part1, ↓e_comp, ↓e_comp2, wComp2, ↓e_nil, ↓e_cons, ↓e_star, ↓t_yes, ↓t_val, ↓t_not, ↓t_and, ↓t_or, ↓i_items, ↓i_rng1, ↓i_rng2, ↓i_rng3, ↓i_enum, ↓i_zip, ↓s_seq, ↓s_ret, ↓s_exp, ↓s_asg, ↓s_asgF, ↓s_own, ↓s_par, ↓s_retW, ↓s_for, ↓s_forR, ↓p_nil, ↓p_im, ↓p_ow, ↓p_owM, ↓p_owL, ↓u_stuck, ↓u_next, ↓u_brk, ↓u_cnt, ↓u_retN, ↓u_ifs, u_fz, u_app, u_appF, u_put, u_putF, u_asgI, wAsgI, u_while, u_ownM, u_ownA, u_ownC, u_ownL, u_appP, u_put2, wOwnL, wAppP, wPut2, u_wput, u_wdm, wLC, wFz, wApp, wAppF, wPut, wPutF, wOwnM, wOwnA, setP, wComp, wYes, wWput, wWdm, capt, bo, blt, dTru_non, dTru_bl, dTru_int, dTru_tup, dTru_lst, dTy_non, dTy_bl, dTy_int, dTy_str, dTy_tup, dTy_lst, isi_ii, isi_ib, isi_tt, isi_bi, isi_bb, isi_ni, isi_nb, isi_nt, isi_ns, isi_nl, isi_si, isi_sb, isi_st, isi_ss, isi_sl, isi_ti, isi_tb, isi_ts, isi_tl, isi_li, isi_lb, isi_lt, isi_ls, isi_ll, isi_it, isi_is, isi_il, isi_bt, isi_bs, isi_bl, binds, bindss, setS, setB, getS, entry, strE, frzE, slS, slF, wipeE, dEq_int, dNe_int, DL.isNon, bRepr, permD, o_dAdd0, o_dAdd1, o_dAdd2, o_dAdd3, o_dSub0, o_dMul0, o_dMul1, o_dMul2, o_dFdiv0, o_dMod0, o_dPow0, o_dShl0, o_dShr0, o_dAnd0, o_dOr0, o_dXor0, o_dLt0, o_dLe0, o_dGt0, o_dGe0, o_dIs0, o_dIsNot0, o_dIs1, o_dIsNot1, o_bLen0, o_bLen1, o_bLen2, o_bLen3, o_bTuple0, o_bTuple1, o_bList0, o_bList1, o_bAbs0, o_bMax20, o_bMin20, o_bInt0, o_bInt1, o_bBool0, o_bBool1, o_bBool2, o_bDivmod0, o_bGcd0, o_bStr0, o_bAll0, o_bAny0, o_bSum0, o_bSum1, o_bSort0, o_bSort1, o_bMax10, o_bMax11, o_bMin10, o_bMin11, o_bRepr0, o_dIx0, o_dIx1, o_dIx2, o_dIx3, o_dIx4, o_iEn0, o_iEn1, o_iZp0, o_iZp1, o_iR30, o_iR10, o_iR20, o_dRev0, o_dRev1, o_rg1, o_rg2, o_rg3, o_rg4, o_dLs0, o_dLs1, o_dSl0, o_dSl1, o_dSl2, o_dSl3, o_dNeg, o_dEqs, o_dNes, List.map_cons, List.map_nil, List.length_cons, List.length_nil, List.foldl_cons, List.foldl_nil, List.getElem?_cons_zero, List.getElem?_cons_succ, List.getElem?_nil, List.set_cons_zero, List.set_cons_succ, List.replicate, List.append_nil, List.nil_append, List.cons_append, Option.join_some, Option.join_none, Option.bind_some, id_eq, Nat.sub_self, Nat.add_sub_cancel, Nat.reduceAdd, Nat.reduceSub, Option.getD_some, List.getD_cons_zero, List.getD_cons_succ, List.getD_nil, Bool.not_true, Bool.not_false, Bool.false_eq_true, true_and, and_true, Bool.true_and, Bool.and_true, reduceCtorEq, if_false, if_true, decide_true, decide_false, Nat.zero_add, Nat.le_refl, d_wrong_at, N_wrong_at]); exact ⟨by decide, h⟩)
    | lst b => ((show bodyW Sg N_wrong_at d_wrong_at [.lst b, m, .fn k cs] E Q; simp only [bodyW, Hd_cons, ↓e_stuck, ↓e_var, ↓e_non, ↓e_bl, ↓e_int, ↓e_str, ↓e_kt, ↓e_bin, ↓e_chain, ↓e_and, ↓e_or, ↓e_not, ↓e_neg, ↓e_ite, ↓e_tup, ↓e_lst, ↓e_call, ↓e_callP, ↓e_callQ, ↓e_callV, ↓e_callL, ↓e_callK, ↓e_blt, ↓e_isi, ↓e_ix, ↓e_rev, ↓e_lenset, ↓e_rgv, ↓e_sl, ↓e_part0, ↓e_part1, ↓e_comp, ↓e_comp2, wComp2, ↓e_nil, ↓e_cons, ↓e_star, ↓t_yes, ↓t_val, ↓t_not, ↓t_and, ↓t_or, ↓i_items, ↓i_rng1, ↓i_rng2, ↓i_rng3, ↓i_enum, ↓i_zip, ↓s_seq, ↓s_ret, ↓s_exp, ↓s_asg, ↓s_asgF, ↓s_own, ↓s_par, ↓s_retW, ↓s_for, ↓s_forR, ↓p_nil, ↓p_im, ↓p_ow, ↓p_owM, ↓p_owL, ↓u_stuck, ↓u_next, ↓u_brk, ↓u_cnt, ↓u_retN, ↓u_ifs, u_fz, u_app, u_appF, u_put, u_putF, u_asgI, wAsgI, u_while, u_ownM, u_ownA, u_ownC, u_ownL, u_appP, u_put2, wOwnL, wAppP, wPut2, u_wput, u_wdm, wLC, wFz, wApp, wAppF, wPut, wPutF, wOwnM, wOwnA, setP, wComp, wYes, wWput, wWdm, capt, bo, blt, dTru_non, dTru_bl, dTru_int, dTru_tup, dTru_lst, dTy_non, dTy_bl, dTy_int, dTy_str, dTy_tup, dTy_lst, isi_ii, isi_ib, isi_tt, isi_bi, isi_bb, isi_ni, isi_nb, isi_nt, isi_ns, isi_nl, isi_si, isi_sb, isi_st, isi_ss, isi_sl, isi_ti, isi_tb, isi_ts, isi_tl, isi_li, isi_lb, isi_lt, isi_ls, isi_ll, isi_it, isi_is, isi_il, isi_bt, isi_bs, isi_bl, binds, bindss, setS, setB, getS, entry, strE, frzE, slS, slF, wipeE, dEq_int, dNe_int, DL.isNon, bRepr, permD, o_dAdd0, o_dAdd1, o_dAdd2, o_dAdd3, o_dSub0, o_dMul0, o_dMul1, o_dMul2, o_dFdiv0, o_dMod0, o_dPow0, o_dShl0, o_dShr0, o_dAnd0, o_dOr0, o_dXor0, o_dLt0, o_dLe0, o_dGt0, o_dGe0, o_dIs0, o_dIsNot0, o_dIs1, o_dIsNot1, o_bLen0, o_bLen1, o_bLen2, o_bLen3, o_bTuple0, o_bTuple1, o_bList0, o_bList1, o_bAbs0, o_bMax20, o_bMin20, o_bInt0, o_bInt1, o_bBool0, o_bBool1, o_bBool2, o_bDivmod0, o_bGcd0, o_bStr0, o_bAll0, o_bAny0, o_bSum0, o_bSum1, o_bSort0, o_bSort1, o_bMax10, o_bMax11, o_bMin10, o_bMin11, o_bRepr0, o_dIx0, o_dIx1, o_dIx2, o_dIx3, o_dIx4, o_iEn0, o_iEn1, o_iZp0, o_iZp1, o_iR30, o_iR10, o_iR20, o_dRev0, o_dRev1, o_rg1, o_rg2, o_rg3, o_rg4, o_dLs0, o_dLs1, o_dSl0, o_dSl1, o_dSl2, o_dSl3, o_dNeg, o_dEqs, o_dNes, List.map_cons, List.map_nil, List.length_cons, List.length_nil, List.foldl_cons, List.foldl_nil, List.getElem?_cons_zero, List.getElem?_cons_succ, List.getElem?_nil, List.set_cons_zero, List.set_cons_succ, List.replicate, List.append_nil, List.nil_append, List.cons_append, Option.join_some, Option.join_none, Option.bind_some, id_eq, Nat.sub_self, Nat.add_sub_cancel, Nat.reduceAdd, Nat.reduceSub, Option.getD_some, List.getD_cons_zero, List.getD_cons_succ, List.getD_nil, Bool.not_true, Bool.not_false, Bool.false_eq_true, true_and, and_true, Bool.true_and, Bool.and_true, reduceCtorEq, if_false, if_true, decide_true, decide_false, Nat.zero_add, Nat.le_refl, d_wrong_at, N_wrong_at]); exact ⟨by decide, h⟩)
  · exact h.elim
theorem b_wrong_for_all : ∀ ds E Q, ds.length = F_wrong_for_all.ps.length → Sg 6 ds E Q → bodyW Sg S_wrong_for_all.N d_wrong_for_all ds E Q := by
  intro ds E Q hlen h
  clear hlen
  change Sp_wrong_for_all ds E Q at h
  unfold Sp_wrong_for_all at h
  split at h
  · rename_i xs m k cs
    (show bodyW Sg N_wrong_for_all d_wrong_for_all [.tup xs, .int m, .fn k cs] E Q; simp only [bodyW, Hd_cons, ↓e_stuck, ↓e_var, ↓e_non, ↓e_bl, ↓e_int, ↓e_str, ↓e_kt, ↓e_bin, ↓e_chain, ↓e_and, ↓e_or, ↓e_not, ↓e_neg, ↓e_ite, ↓e_tup, ↓e_lst, ↓e_call, ↓e_callP, ↓e_callQ, ↓e_callV, ↓e_callL, ↓e_callK, ↓e_blt, ↓e_isi, ↓e_ix, ↓e_rev, ↓e_lenset, ↓e_rgv, ↓e_sl, ↓e_part0, ↓e_part1, ↓e_comp, ↓e_comp2, wComp2, ↓e_nil, ↓e_cons, ↓e_star, ↓t_yes, ↓t_val, ↓t_not, ↓t_and, ↓t_or, ↓i_items, ↓i_rng1, ↓i_rng2, ↓i_rng3, ↓i_enum, ↓i_zip, ↓s_seq, ↓s_ret, ↓s_exp, ↓s_asg, ↓s_asgF, ↓s_own, ↓s_par, ↓s_retW, ↓s_for, ↓s_forR, ↓p_nil, ↓p_im, ↓p_ow, ↓p_owM, ↓p_owL, ↓u_stuck, ↓u_next, ↓u_brk, ↓u_cnt, ↓u_retN, ↓u_ifs, u_fz, u_app, u_appF, u_put, u_putF, u_asgI, wAsgI, u_while, u_ownM, u_ownA, u_ownC, u_ownL, u_appP, u_put2, wOwnL, wAppP, wPut2, u_wput, u_wdm, wLC, wFz, wApp, wAppF, wPut, wPutF, wOwnM, wOwnA, setP, wComp, wYes, wWput, wWdm, capt, bo, blt, dTru_non, dTru_bl, dTru_int, dTru_tup, dTru_lst, dTy_non, dTy_bl, dTy_int, dTy_str, dTy_tup, dTy_lst, isi_ii, isi_ib, isi_tt, isi_bi, isi_bb, isi_ni, isi_nb, isi_nt, isi_ns, isi_nl, isi_si, isi_sb, isi_st, isi_ss, isi_sl, isi_ti, isi_tb, isi_ts, isi_tl, isi_li, isi_lb, isi_lt, isi_ls, isi_ll, isi_it, isi_is, isi_il, isi_bt, isi_bs, isi_bl, binds, bindss, setS, setB, getS, entry, strE, frzE, slS, slF, wipeE, dEq_int, dNe_int, DL.isNon, bRepr, permD, o_dAdd0, o_dAdd1, o_dAdd2, o_dAdd3, o_dSub0, o_dMul0, o_dMul1, o_dMul2, o_dFdiv0, o_dMod0, o_dPow0, o_dShl0, o_dShr0, o_dAnd0, o_dOr0, o_dXor0, o_dLt0, o_dLe0, o_dGt0, o_dGe0, o_dIs0, o_dIsNot0, o_dIs1, o_dIsNot1, o_bLen0, o_bLen1, o_bLen2, o_bLen3, o_bTuple0, o_bTuple1, o_bList0, o_bList1, o_bAbs0, o_bMax20, o_bMin20, o_bInt0, o_bInt1, o_bBool0, o_bBool1, o_bBool2, o_bDivmod0, o_bGcd0, o_bStr0, o_bAll0, o_bAny0, o_bSum0, o_bSum1, o_bSort0, o_bSort1, o_bMax10, o_bMax11, o_bMin10, o_bMin11, o_bRepr0, o_dIx0, o_dIx1, o_dIx2, o_dIx3, o_dIx4, o_iEn0, o_iEn1, o_iZp0, o_iZp1, o_iR30, o_iR10, o_iR20, o_dRev0, o_dRev1, o_rg1, o_rg2, o_rg3, o_rg4, o_dLs0, o_dLs1, o_dSl0, o_dSl1, o_dSl2, o_dSl3, o_dNeg, o_dEqs, o_dNes, List.map_cons, List.map_nil, List.length_cons, List.length_nil, List.foldl_cons, List.foldl_nil, List.getElem?_cons_zero, List.getElem?_cons_succ, List.getElem?_nil, List.set_cons_zero, List.set_cons_succ, List.replicate, List.append_nil, List.nil_append, List.cons_append, Option.join_some, Option.join_none, Option.bind_some, id_eq, Nat.sub_self, Nat.add_sub_cancel, Nat.reduceAdd, Nat.reduceSub, Option.getD_some, List.getD_cons_zero, List.getD_cons_succ, List.getD_nil, Bool.not_true, Bool.not_false, Bool.false_eq_true, true_and, and_true, Bool.true_and, Bool.and_true, reduceCtorEq, if_false, if_true, decide_true, decide_false, Nat.zero_add, Nat.le_refl, d_wrong_for_all, N_wrong_for_all, sg_is_tuple_of, Sp_is_tuple_of, sg_wrong_at, Sp_wrong_at])
    obtain ⟨⟨h1, hn⟩, p, hp, h⟩ := h
    refine ⟨by simpa [noFns, noFn] using hn, ?_⟩
    rw [show ((xs.length : Int) == m) = true from by rw [beq_iff_eq]; exact h1]
    simp only [bodyW, Hd_cons, ↓e_stuck, ↓e_var, ↓e_non, ↓e_bl, ↓e_int, ↓e_str, ↓e_kt, ↓e_bin, ↓e_chain, ↓e_and, ↓e_or, ↓e_not, ↓e_neg, ↓e_ite, ↓e_tup, ↓e_lst, ↓e_call, ↓e_callP, ↓e_callQ, ↓e_callV, ↓e_callL, ↓e_callK, ↓e_blt, ↓e_isi, ↓e_ix, ↓e_rev, ↓e_lenset, ↓e_rgv, ↓e_sl, ↓e_part0, ↓e_part1, ↓e_comp, ↓e_comp2, wComp2, ↓e_nil, ↓e_cons, ↓e_star, ↓t_yes, ↓t_val, ↓t_not, ↓t_and, ↓t_or, ↓i_items, ↓i_rng1, ↓i_rng2, ↓i_rng3, ↓i_enum, ↓i_zip, ↓s_seq, ↓s_ret, ↓s_exp, ↓s_asg, ↓s_asgF, ↓s_own, ↓s_par, ↓s_retW, ↓s_for, ↓s_forR, ↓p_nil, ↓p_im, ↓p_ow, ↓p_owM, ↓p_owL, ↓u_stuck, ↓u_next, ↓u_brk, ↓u_cnt, ↓u_retN, ↓u_ifs, u_fz, u_app, u_appF, u_put, u_putF, u_asgI, wAsgI, u_while, u_ownM, u_ownA, u_ownC, u_ownL, u_appP, u_put2, wOwnL, wAppP, wPut2, u_wput, u_wdm, wLC, wFz, wApp, wAppF, wPut, wPutF, wOwnM, wOwnA, setP, wComp, wYes, wWput, wWdm, capt, bo, blt, dTru_non, dTru_bl, dTru_int, dTru_tup, dTru_lst, dTy_non, dTy_bl, dTy_int, dTy_str, dTy_tup, dTy_lst, isi_ii, isi_ib, isi_tt, isi_bi, isi_bb, isi_ni, isi_nb, isi_nt, isi_ns, isi_nl, isi_si, isi_sb, isi_st, isi_ss, isi_sl, isi_ti, isi_tb, isi_ts, isi_tl, isi_li, isi_lb, isi_lt, isi_ls, isi_ll, isi_it, isi_is, isi_il, isi_bt, isi_bs, isi_bl, binds, bindss, setS, setB, getS, entry, strE, frzE, slS, slF, wipeE, dEq_int, dNe_int, DL.isNon, bRepr, permD, o_dAdd0, o_dAdd1, o_dAdd2, o_dAdd3, o_dSub0, o_dMul0, o_dMul1, o_dMul2, o_dFdiv0, o_dMod0, o_dPow0, o_dShl0, o_dShr0, o_dAnd0, o_dOr0, o_dXor0, o_dLt0, o_dLe0, o_dGt0, o_dGe0, o_dIs0, o_dIsNot0, o_dIs1, o_dIsNot1, o_bLen0, o_bLen1, o_bLen2, o_bLen3, o_bTuple0, o_bTuple1, o_bList0, o_bList1, o_bAbs0, o_bMax20, o_bMin20, o_bInt0, o_bInt1, o_bBool0, o_bBool1, o_bBool2, o_bDivmod0, o_bGcd0, o_bStr0, o_bAll0, o_bAny0, o_bSum0, o_bSum1, o_bSort0, o_bSort1, o_bMax10, o_bMax11, o_bMin10, o_bMin11, o_bRepr0, o_dIx0, o_dIx1, o_dIx2, o_dIx3, o_dIx4, o_iEn0, o_iEn1, o_iZp0, o_iZp1, o_iR30, o_iR10, o_iR20, o_dRev0, o_dRev1, o_rg1, o_rg2, o_rg3, o_rg4, o_dLs0, o_dLs1, o_dSl0, o_dSl1, o_dSl2, o_dSl3, o_dNeg, o_dEqs, o_dNes, List.map_cons, List.map_nil, List.length_cons, List.length_nil, List.foldl_cons, List.foldl_nil, List.getElem?_cons_zero, List.getElem?_cons_succ, List.getElem?_nil, List.set_cons_zero, List.set_cons_succ, List.replicate, List.append_nil, List.nil_append, List.cons_append, Option.join_some, Option.join_none, Option.bind_some, id_eq, Nat.sub_self, Nat.add_sub_cancel, Nat.reduceAdd, Nat.reduceSub, Option.getD_some, List.getD_cons_zero, List.getD_cons_succ, List.getD_nil, Bool.not_true, Bool.not_false, Bool.false_eq_true, true_and, and_true, Bool.true_and, Bool.and_true, reduceCtorEq, if_false, if_true, decide_true, decide_false, Nat.zero_add, Nat.le_refl]
    exact ⟨⟨rfl, rfl⟩, p, fun ys e => by cases e; exact hp, h⟩
  · exact h.elim
theorem b_check_clock : ∀ ds E Q, ds.length = F_check_clock.ps.length → Sg 7 ds E Q → bodyW Sg S_check_clock.N d_check_clock ds E Q := by
  intro ds E Q hlen h
  clear hlen
  change Sp_check_clock ds E Q at h
  unfold Sp_check_clock at h
  split at h
  · rename_i c
    (show bodyW Sg N_check_clock d_check_clock [.int c] E Q; simp only [bodyW, Hd_cons, ↓e_stuck, ↓e_var, ↓e_non, ↓e_bl, ↓e_int, ↓e_str, ↓e_kt, ↓e_bin, ↓e_chain, ↓e_and, ↓e_or, ↓e_not, ↓e_neg, ↓e_ite, ↓e_tup, ↓e_lst, ↓e_call, ↓e_callP, ↓e_callQ, ↓e_callV, ↓e_callL, ↓e_callK, ↓e_blt, ↓e_isi, ↓e_ix, ↓e_rev, ↓e_lenset, ↓e_rgv, ↓e_sl, ↓e_part0, ↓e_part1, ↓e_comp, ↓e_comp2, wComp2, ↓e_nil, ↓e_cons, ↓e_star, ↓t_yes, ↓t_val, ↓t_not, ↓t_and, ↓t_or, ↓i_items, ↓i_rng1, ↓i_rng2, ↓i_rng3, ↓i_enum, ↓i_zip, ↓s_seq, ↓s_ret, ↓s_exp, ↓s_asg, ↓s_asgF, ↓s_own, ↓s_par, ↓s_retW, ↓s_for, ↓s_forR, ↓p_nil, ↓p_im, ↓p_ow, ↓p_owM, ↓p_owL, ↓u_stuck, ↓u_next, ↓u_brk, ↓u_cnt, ↓u_retN, ↓u_ifs, u_fz, u_app, u_appF, u_put, u_putF, u_asgI, wAsgI, u_while, u_ownM, u_ownA, u_ownC, u_ownL, u_appP, u_put2, wOwnL, wAppP, wPut2, u_wput, u_wdm, wLC, wFz, wApp, wAppF, wPut, wPutF, wOwnM, wOwnA, setP, wComp, wYes, wWput, wWdm, capt, bo, blt, dTru_non, dTru_bl, dTru_int, dTru_tup, dTru_lst, dTy_non, dTy_bl, dTy_int, dTy_str, dTy_tup, dTy_lst, isi_ii, isi_ib, isi_tt, isi_bi, isi_bb, isi_ni, isi_nb, isi_nt, isi_ns, isi_nl, isi_si, isi_sb, isi_st, isi_ss, isi_sl, isi_ti, isi_tb, isi_ts, isi_tl, isi_li, isi_lb, isi_lt, isi_ls, isi_ll, isi_it, isi_is, isi_il, isi_bt, isi_bs, isi_bl, binds, bindss, setS, setB, getS, entry, strE, frzE, slS, slF, wipeE, dEq_int, dNe_int, DL.isNon, bRepr, permD, o_dAdd0, o_dAdd1, o_dAdd2, o_dAdd3, o_dSub0, o_dMul0, o_dMul1, o_dMul2, o_dFdiv0, o_dMod0, o_dPow0, o_dShl0, o_dShr0, o_dAnd0, o_dOr0, o_dXor0, o_dLt0, o_dLe0, o_dGt0, o_dGe0, o_dIs0, o_dIsNot0, o_dIs1, o_dIsNot1, o_bLen0, o_bLen1, o_bLen2, o_bLen3, o_bTuple0, o_bTuple1, o_bList0, o_bList1, o_bAbs0, o_bMax20, o_bMin20, o_bInt0, o_bInt1, o_bBool0, o_bBool1, o_bBool2, o_bDivmod0, o_bGcd0, o_bStr0, o_bAll0, o_bAny0, o_bSum0, o_bSum1, o_bSort0, o_bSort1, o_bMax10, o_bMax11, o_bMin10, o_bMin11, o_bRepr0, o_dIx0, o_dIx1, o_dIx2, o_dIx3, o_dIx4, o_iEn0, o_iEn1, o_iZp0, o_iZp1, o_iR30, o_iR10, o_iR20, o_dRev0, o_dRev1, o_rg1, o_rg2, o_rg3, o_rg4, o_dLs0, o_dLs1, o_dSl0, o_dSl1, o_dSl2, o_dSl3, o_dNeg, o_dEqs, o_dNes, List.map_cons, List.map_nil, List.length_cons, List.length_nil, List.foldl_cons, List.foldl_nil, List.getElem?_cons_zero, List.getElem?_cons_succ, List.getElem?_nil, List.set_cons_zero, List.set_cons_succ, List.replicate, List.append_nil, List.nil_append, List.cons_append, Option.join_some, Option.join_none, Option.bind_some, id_eq, Nat.sub_self, Nat.add_sub_cancel, Nat.reduceAdd, Nat.reduceSub, Option.getD_some, List.getD_cons_zero, List.getD_cons_succ, List.getD_nil, Bool.not_true, Bool.not_false, Bool.false_eq_true, true_and, and_true, Bool.true_and, Bool.and_true, reduceCtorEq, if_false, if_true, decide_true, decide_false, Nat.zero_add, Nat.le_refl, d_check_clock, N_check_clock, sg_is_clock_form, Sp_is_clock_form])
    refine ⟨rfl, ?_⟩
    have e : numB (.int c) (.int 2) (.int 24) = true := by
      simp only [numB, loB, hiB, Bool.and_eq_true, decide_eq_true_eq]; exact h.1
    rw [e]
    exact h.2
  · exact h.elim
theorem b__law_pail : ∀ ds E Q, ds.length = F__law_pail.ps.length → Sg 15 ds E Q → bodyW Sg S__law_pail.N d__law_pail ds E Q := by
  intro ds E Q hlen h
  clear hlen
  change Sp__law_pail ds E Q at h
  unfold Sp__law_pail at h
  split at h
  · rename_i ns lap
    (show bodyW Sg N__law_pail d__law_pail [.scr ns, .int lap] E Q; simp only [bodyW, Hd_cons, ↓e_stuck, ↓e_var, ↓e_non, ↓e_bl, ↓e_int, ↓e_str, ↓e_kt, ↓e_bin, ↓e_chain, ↓e_and, ↓e_or, ↓e_not, ↓e_neg, ↓e_ite, ↓e_tup, ↓e_lst, ↓e_call, ↓e_callP, ↓e_callQ, ↓e_callV, ↓e_callL, ↓e_callK, ↓e_blt, ↓e_isi, ↓e_ix, ↓e_rev, ↓e_lenset, ↓e_rgv, ↓e_sl, ↓e_part0, ↓e_part1, ↓e_comp, ↓e_comp2, wComp2, ↓e_nil, ↓e_cons, ↓e_star, ↓t_yes, ↓t_val, ↓t_not, ↓t_and, ↓t_or, ↓i_items, ↓i_rng1, ↓i_rng2, ↓i_rng3, ↓i_enum, ↓i_zip, ↓s_seq, ↓s_ret, ↓s_exp, ↓s_asg, ↓s_asgF, ↓s_own, ↓s_par, ↓s_retW, ↓s_for, ↓s_forR, ↓p_nil, ↓p_im, ↓p_ow, ↓p_owM, ↓p_owL, ↓u_stuck, ↓u_next, ↓u_brk, ↓u_cnt, ↓u_retN, ↓u_ifs, u_fz, u_app, u_appF, u_put, u_putF, u_asgI, wAsgI, u_while, u_ownM, u_ownA, u_ownC, u_ownL, u_appP, u_put2, wOwnL, wAppP, wPut2, u_wput, u_wdm, wLC, wFz, wApp, wAppF, wPut, wPutF, wOwnM, wOwnA, setP, wComp, wYes, wWput, wWdm, capt, bo, blt, dTru_non, dTru_bl, dTru_int, dTru_tup, dTru_lst, dTy_non, dTy_bl, dTy_int, dTy_str, dTy_tup, dTy_lst, isi_ii, isi_ib, isi_tt, isi_bi, isi_bb, isi_ni, isi_nb, isi_nt, isi_ns, isi_nl, isi_si, isi_sb, isi_st, isi_ss, isi_sl, isi_ti, isi_tb, isi_ts, isi_tl, isi_li, isi_lb, isi_lt, isi_ls, isi_ll, isi_it, isi_is, isi_il, isi_bt, isi_bs, isi_bl, binds, bindss, setS, setB, getS, entry, strE, frzE, slS, slF, wipeE, dEq_int, dNe_int, DL.isNon, bRepr, permD, o_dAdd0, o_dAdd1, o_dAdd2, o_dAdd3, o_dSub0, o_dMul0, o_dMul1, o_dMul2, o_dFdiv0, o_dMod0, o_dPow0, o_dShl0, o_dShr0, o_dAnd0, o_dOr0, o_dXor0, o_dLt0, o_dLe0, o_dGt0, o_dGe0, o_dIs0, o_dIsNot0, o_dIs1, o_dIsNot1, o_bLen0, o_bLen1, o_bLen2, o_bLen3, o_bTuple0, o_bTuple1, o_bList0, o_bList1, o_bAbs0, o_bMax20, o_bMin20, o_bInt0, o_bInt1, o_bBool0, o_bBool1, o_bBool2, o_bDivmod0, o_bGcd0, o_bStr0, o_bAll0, o_bAny0, o_bSum0, o_bSum1, o_bSort0, o_bSort1, o_bMax10, o_bMax11, o_bMin10, o_bMin11, o_bRepr0, o_dIx0, o_dIx1, o_dIx2, o_dIx3, o_dIx4, o_iEn0, o_iEn1, o_iZp0, o_iZp1, o_iR30, o_iR10, o_iR20, o_dRev0, o_dRev1, o_rg1, o_rg2, o_rg3, o_rg4, o_dLs0, o_dLs1, o_dSl0, o_dSl1, o_dSl2, o_dSl3, o_dNeg, o_dEqs, o_dNes, List.map_cons, List.map_nil, List.length_cons, List.length_nil, List.foldl_cons, List.foldl_nil, List.getElem?_cons_zero, List.getElem?_cons_succ, List.getElem?_nil, List.set_cons_zero, List.set_cons_succ, List.replicate, List.append_nil, List.nil_append, List.cons_append, Option.join_some, Option.join_none, Option.bind_some, id_eq, Nat.sub_self, Nat.add_sub_cancel, Nat.reduceAdd, Nat.reduceSub, Option.getD_some, List.getD_cons_zero, List.getD_cons_succ, List.getD_nil, Bool.not_true, Bool.not_false, Bool.false_eq_true, true_and, and_true, Bool.true_and, Bool.and_true, reduceCtorEq, if_false, if_true, decide_true, decide_false, Nat.zero_add, Nat.le_refl, d__law_pail, N__law_pail])
    obtain ⟨⟨h1, h2, h3⟩, h⟩ := h
    (repeat' (first | assumption | (refine ⟨Or.inl ⟨by omega, by omega⟩, ?_⟩) | (refine ⟨Or.inr ⟨by omega, by omega⟩, ?_⟩) | (refine ⟨by omega, ?_⟩) | (refine ⟨⟨by omega, by omega⟩, ?_⟩) | (refine ⟨⟨by omega, by omega, by decide⟩, ?_⟩) | (refine ⟨⟨by omega, by omega, by omega, by omega⟩, ?_⟩) | split))
    refine forL_inv (n := 0) (fun _ ρ => ∃ (x : Int) (y : Sl), ρ = [.im (.scr ns), .im (.int lap), .im (.int x), y, .no]) ⟨_, _, rfl⟩ (fun j d hj ρ hI M hM => ?_) (fun ρ hI => ?_)
    · obtain ⟨x, y, rfl⟩ := hI
      obtain ⟨z, hz, rfl⟩ := List.mem_map.mp (List.mem_of_getElem? hj)
      refine ⟨_, rfl, ?_⟩
      simp only [bodyW, Hd_cons, ↓e_stuck, ↓e_var, ↓e_non, ↓e_bl, ↓e_int, ↓e_str, ↓e_kt, ↓e_bin, ↓e_chain, ↓e_and, ↓e_or, ↓e_not, ↓e_neg, ↓e_ite, ↓e_tup, ↓e_lst, ↓e_call, ↓e_callP, ↓e_callQ, ↓e_callV, ↓e_callL, ↓e_callK, ↓e_blt, ↓e_isi, ↓e_ix, ↓e_rev, ↓e_lenset, ↓e_rgv, ↓e_sl, ↓e_part0, ↓e_part1, ↓e_comp, ↓e_comp2, wComp2, ↓e_nil, ↓e_cons, ↓e_star, ↓t_yes, ↓t_val, ↓t_not, ↓t_and, ↓t_or, ↓i_items, ↓i_rng1, ↓i_rng2, ↓i_rng3, ↓i_enum, ↓i_zip, ↓s_seq, ↓s_ret, ↓s_exp, ↓s_asg, ↓s_asgF, ↓s_own, ↓s_par, ↓s_retW, ↓s_for, ↓s_forR, ↓p_nil, ↓p_im, ↓p_ow, ↓p_owM, ↓p_owL, ↓u_stuck, ↓u_next, ↓u_brk, ↓u_cnt, ↓u_retN, ↓u_ifs, u_fz, u_app, u_appF, u_put, u_putF, u_asgI, wAsgI, u_while, u_ownM, u_ownA, u_ownC, u_ownL, u_appP, u_put2, wOwnL, wAppP, wPut2, u_wput, u_wdm, wLC, wFz, wApp, wAppF, wPut, wPutF, wOwnM, wOwnA, setP, wComp, wYes, wWput, wWdm, capt, bo, blt, dTru_non, dTru_bl, dTru_int, dTru_tup, dTru_lst, dTy_non, dTy_bl, dTy_int, dTy_str, dTy_tup, dTy_lst, isi_ii, isi_ib, isi_tt, isi_bi, isi_bb, isi_ni, isi_nb, isi_nt, isi_ns, isi_nl, isi_si, isi_sb, isi_st, isi_ss, isi_sl, isi_ti, isi_tb, isi_ts, isi_tl, isi_li, isi_lb, isi_lt, isi_ls, isi_ll, isi_it, isi_is, isi_il, isi_bt, isi_bs, isi_bl, binds, bindss, setS, setB, getS, entry, strE, frzE, slS, slF, wipeE, dEq_int, dNe_int, DL.isNon, bRepr, permD, o_dAdd0, o_dAdd1, o_dAdd2, o_dAdd3, o_dSub0, o_dMul0, o_dMul1, o_dMul2, o_dFdiv0, o_dMod0, o_dPow0, o_dShl0, o_dShr0, o_dAnd0, o_dOr0, o_dXor0, o_dLt0, o_dLe0, o_dGt0, o_dGe0, o_dIs0, o_dIsNot0, o_dIs1, o_dIsNot1, o_bLen0, o_bLen1, o_bLen2, o_bLen3, o_bTuple0, o_bTuple1, o_bList0, o_bList1, o_bAbs0, o_bMax20, o_bMin20, o_bInt0, o_bInt1, o_bBool0, o_bBool1, o_bBool2, o_bDivmod0, o_bGcd0, o_bStr0, o_bAll0, o_bAny0, o_bSum0, o_bSum1, o_bSort0, o_bSort1, o_bMax10, o_bMax11, o_bMin10, o_bMin11, o_bRepr0, o_dIx0, o_dIx1, o_dIx2, o_dIx3, o_dIx4, o_iEn0, o_iEn1, o_iZp0, o_iZp1, o_iR30, o_iR10, o_iR20, o_dRev0, o_dRev1, o_rg1, o_rg2, o_rg3, o_rg4, o_dLs0, o_dLs1, o_dSl0, o_dSl1, o_dSl2, o_dSl3, o_dNeg, o_dEqs, o_dNes, List.map_cons, List.map_nil, List.length_cons, List.length_nil, List.foldl_cons, List.foldl_nil, List.getElem?_cons_zero, List.getElem?_cons_succ, List.getElem?_nil, List.set_cons_zero, List.set_cons_succ, List.replicate, List.append_nil, List.nil_append, List.cons_append, Option.join_some, Option.join_none, Option.bind_some, id_eq, Nat.sub_self, Nat.add_sub_cancel, Nat.reduceAdd, Nat.reduceSub, Option.getD_some, List.getD_cons_zero, List.getD_cons_succ, List.getD_nil, Bool.not_true, Bool.not_false, Bool.false_eq_true, true_and, and_true, Bool.true_and, Bool.and_true, reduceCtorEq, if_false, if_true, decide_true, decide_false, Nat.zero_add, Nat.le_refl]
      repeat (first | (refine ⟨.inl ⟨by omega, by omega⟩, ?_⟩) | (refine ⟨.inr ⟨by omega, by omega⟩, ?_⟩) | (refine ⟨by omega, ?_⟩))
      exact hM _ ⟨_, _, rfl⟩
    · obtain ⟨x, y, rfl⟩ := hI
      simp only [bodyW, Hd_cons, ↓e_stuck, ↓e_var, ↓e_non, ↓e_bl, ↓e_int, ↓e_str, ↓e_kt, ↓e_bin, ↓e_chain, ↓e_and, ↓e_or, ↓e_not, ↓e_neg, ↓e_ite, ↓e_tup, ↓e_lst, ↓e_call, ↓e_callP, ↓e_callQ, ↓e_callV, ↓e_callL, ↓e_callK, ↓e_blt, ↓e_isi, ↓e_ix, ↓e_rev, ↓e_lenset, ↓e_rgv, ↓e_sl, ↓e_part0, ↓e_part1, ↓e_comp, ↓e_comp2, wComp2, ↓e_nil, ↓e_cons, ↓e_star, ↓t_yes, ↓t_val, ↓t_not, ↓t_and, ↓t_or, ↓i_items, ↓i_rng1, ↓i_rng2, ↓i_rng3, ↓i_enum, ↓i_zip, ↓s_seq, ↓s_ret, ↓s_exp, ↓s_asg, ↓s_asgF, ↓s_own, ↓s_par, ↓s_retW, ↓s_for, ↓s_forR, ↓p_nil, ↓p_im, ↓p_ow, ↓p_owM, ↓p_owL, ↓u_stuck, ↓u_next, ↓u_brk, ↓u_cnt, ↓u_retN, ↓u_ifs, u_fz, u_app, u_appF, u_put, u_putF, u_asgI, wAsgI, u_while, u_ownM, u_ownA, u_ownC, u_ownL, u_appP, u_put2, wOwnL, wAppP, wPut2, u_wput, u_wdm, wLC, wFz, wApp, wAppF, wPut, wPutF, wOwnM, wOwnA, setP, wComp, wYes, wWput, wWdm, capt, bo, blt, dTru_non, dTru_bl, dTru_int, dTru_tup, dTru_lst, dTy_non, dTy_bl, dTy_int, dTy_str, dTy_tup, dTy_lst, isi_ii, isi_ib, isi_tt, isi_bi, isi_bb, isi_ni, isi_nb, isi_nt, isi_ns, isi_nl, isi_si, isi_sb, isi_st, isi_ss, isi_sl, isi_ti, isi_tb, isi_ts, isi_tl, isi_li, isi_lb, isi_lt, isi_ls, isi_ll, isi_it, isi_is, isi_il, isi_bt, isi_bs, isi_bl, binds, bindss, setS, setB, getS, entry, strE, frzE, slS, slF, wipeE, dEq_int, dNe_int, DL.isNon, bRepr, permD, o_dAdd0, o_dAdd1, o_dAdd2, o_dAdd3, o_dSub0, o_dMul0, o_dMul1, o_dMul2, o_dFdiv0, o_dMod0, o_dPow0, o_dShl0, o_dShr0, o_dAnd0, o_dOr0, o_dXor0, o_dLt0, o_dLe0, o_dGt0, o_dGe0, o_dIs0, o_dIsNot0, o_dIs1, o_dIsNot1, o_bLen0, o_bLen1, o_bLen2, o_bLen3, o_bTuple0, o_bTuple1, o_bList0, o_bList1, o_bAbs0, o_bMax20, o_bMin20, o_bInt0, o_bInt1, o_bBool0, o_bBool1, o_bBool2, o_bDivmod0, o_bGcd0, o_bStr0, o_bAll0, o_bAny0, o_bSum0, o_bSum1, o_bSort0, o_bSort1, o_bMax10, o_bMax11, o_bMin10, o_bMin11, o_bRepr0, o_dIx0, o_dIx1, o_dIx2, o_dIx3, o_dIx4, o_iEn0, o_iEn1, o_iZp0, o_iZp1, o_iR30, o_iR10, o_iR20, o_dRev0, o_dRev1, o_rg1, o_rg2, o_rg3, o_rg4, o_dLs0, o_dLs1, o_dSl0, o_dSl1, o_dSl2, o_dSl3, o_dNeg, o_dEqs, o_dNes, List.map_cons, List.map_nil, List.length_cons, List.length_nil, List.foldl_cons, List.foldl_nil, List.getElem?_cons_zero, List.getElem?_cons_succ, List.getElem?_nil, List.set_cons_zero, List.set_cons_succ, List.replicate, List.append_nil, List.nil_append, List.cons_append, Option.join_some, Option.join_none, Option.bind_some, id_eq, Nat.sub_self, Nat.add_sub_cancel, Nat.reduceAdd, Nat.reduceSub, Option.getD_some, List.getD_cons_zero, List.getD_cons_succ, List.getD_nil, Bool.not_true, Bool.not_false, Bool.false_eq_true, true_and, and_true, Bool.true_and, Bool.and_true, reduceCtorEq, if_false, if_true, decide_true, decide_false, Nat.zero_add, Nat.le_refl]
      split
      · rename_i e
        obtain ⟨z, _, hz⟩ := atI_mem h2 (of_decide_eq_true e)
        rw [hz]
        have h : ∀ p, Q (.obj p) := h
        (repeat' (first | assumption | (refine ⟨Or.inl ⟨by omega, by omega⟩, ?_⟩) | (refine ⟨Or.inr ⟨by omega, by omega⟩, ?_⟩) | (refine ⟨by omega, ?_⟩) | (refine ⟨⟨by omega, by omega⟩, ?_⟩) | (refine ⟨⟨by omega, by omega, by decide⟩, ?_⟩) | (refine ⟨⟨by omega, by omega, by omega, by omega⟩, ?_⟩) | split))
      · (repeat' (first | assumption | (refine ⟨Or.inl ⟨by omega, by omega⟩, ?_⟩) | (refine ⟨Or.inr ⟨by omega, by omega⟩, ?_⟩) | (refine ⟨by omega, ?_⟩) | (refine ⟨⟨by omega, by omega⟩, ?_⟩) | (refine ⟨⟨by omega, by omega, by decide⟩, ?_⟩) | (refine ⟨⟨by omega, by omega, by omega, by omega⟩, ?_⟩) | split))
  · exact h.elim
theorem b__law_deal : ∀ ds E Q, ds.length = F__law_deal.ps.length → Sg 16 ds E Q → bodyW Sg S__law_deal.N d__law_deal ds E Q := by
  intro ds E Q hlen h
  clear hlen
  change Sp__law_deal ds E Q at h
  unfold Sp__law_deal at h
  split at h
  · rename_i p l
    (show bodyW Sg N__law_deal d__law_deal [.obj p, .int l] E Q; simp only [bodyW, Hd_cons, ↓e_stuck, ↓e_var, ↓e_non, ↓e_bl, ↓e_int, ↓e_str, ↓e_kt, ↓e_bin, ↓e_chain, ↓e_and, ↓e_or, ↓e_not, ↓e_neg, ↓e_ite, ↓e_tup, ↓e_lst, ↓e_call, ↓e_callP, ↓e_callQ, ↓e_callV, ↓e_callL, ↓e_callK, ↓e_blt, ↓e_isi, ↓e_ix, ↓e_rev, ↓e_lenset, ↓e_rgv, ↓e_sl, ↓e_part0, ↓e_part1, ↓e_comp, ↓e_comp2, wComp2, ↓e_nil, ↓e_cons, ↓e_star, ↓t_yes, ↓t_val, ↓t_not, ↓t_and, ↓t_or, ↓i_items, ↓i_rng1, ↓i_rng2, ↓i_rng3, ↓i_enum, ↓i_zip, ↓s_seq, ↓s_ret, ↓s_exp, ↓s_asg, ↓s_asgF, ↓s_own, ↓s_par, ↓s_retW, ↓s_for, ↓s_forR, ↓p_nil, ↓p_im, ↓p_ow, ↓p_owM, ↓p_owL, ↓u_stuck, ↓u_next, ↓u_brk, ↓u_cnt, ↓u_retN, ↓u_ifs, u_fz, u_app, u_appF, u_put, u_putF, u_asgI, wAsgI, u_while, u_ownM, u_ownA, u_ownC, u_ownL, u_appP, u_put2, wOwnL, wAppP, wPut2, u_wput, u_wdm, wLC, wFz, wApp, wAppF, wPut, wPutF, wOwnM, wOwnA, setP, wComp, wYes, wWput, wWdm, capt, bo, blt, dTru_non, dTru_bl, dTru_int, dTru_tup, dTru_lst, dTy_non, dTy_bl, dTy_int, dTy_str, dTy_tup, dTy_lst, isi_ii, isi_ib, isi_tt, isi_bi, isi_bb, isi_ni, isi_nb, isi_nt, isi_ns, isi_nl, isi_si, isi_sb, isi_st, isi_ss, isi_sl, isi_ti, isi_tb, isi_ts, isi_tl, isi_li, isi_lb, isi_lt, isi_ls, isi_ll, isi_it, isi_is, isi_il, isi_bt, isi_bs, isi_bl, binds, bindss, setS, setB, getS, entry, strE, frzE, slS, slF, wipeE, dEq_int, dNe_int, DL.isNon, bRepr, permD, o_dAdd0, o_dAdd1, o_dAdd2, o_dAdd3, o_dSub0, o_dMul0, o_dMul1, o_dMul2, o_dFdiv0, o_dMod0, o_dPow0, o_dShl0, o_dShr0, o_dAnd0, o_dOr0, o_dXor0, o_dLt0, o_dLe0, o_dGt0, o_dGe0, o_dIs0, o_dIsNot0, o_dIs1, o_dIsNot1, o_bLen0, o_bLen1, o_bLen2, o_bLen3, o_bTuple0, o_bTuple1, o_bList0, o_bList1, o_bAbs0, o_bMax20, o_bMin20, o_bInt0, o_bInt1, o_bBool0, o_bBool1, o_bBool2, o_bDivmod0, o_bGcd0, o_bStr0, o_bAll0, o_bAny0, o_bSum0, o_bSum1, o_bSort0, o_bSort1, o_bMax10, o_bMax11, o_bMin10, o_bMin11, o_bRepr0, o_dIx0, o_dIx1, o_dIx2, o_dIx3, o_dIx4, o_iEn0, o_iEn1, o_iZp0, o_iZp1, o_iR30, o_iR10, o_iR20, o_dRev0, o_dRev1, o_rg1, o_rg2, o_rg3, o_rg4, o_dLs0, o_dLs1, o_dSl0, o_dSl1, o_dSl2, o_dSl3, o_dNeg, o_dEqs, o_dNes, List.map_cons, List.map_nil, List.length_cons, List.length_nil, List.foldl_cons, List.foldl_nil, List.getElem?_cons_zero, List.getElem?_cons_succ, List.getElem?_nil, List.set_cons_zero, List.set_cons_succ, List.replicate, List.append_nil, List.nil_append, List.cons_append, Option.join_some, Option.join_none, Option.bind_some, id_eq, Nat.sub_self, Nat.add_sub_cancel, Nat.reduceAdd, Nat.reduceSub, Option.getD_some, List.getD_cons_zero, List.getD_cons_succ, List.getD_nil, Bool.not_true, Bool.not_false, Bool.false_eq_true, true_and, and_true, Bool.true_and, Bool.and_true, reduceCtorEq, if_false, if_true, decide_true, decide_false, Nat.zero_add, Nat.le_refl, d__law_deal, N__law_deal])
    obtain ⟨⟨h1, h2⟩, h⟩ := h
    refine ⟨⟨by omega, by omega⟩, fun z => ?_⟩
    have m : ∀ z : Int, 0 ≤ z % l ∧ z % l < l := fun z => ⟨Int.emod_nonneg _ (by omega), Int.emod_lt_of_pos _ h1⟩
    split
    · exact ⟨⟨by omega, by omega⟩, ⟨by omega, by omega⟩, fun z => ⟨⟨h1, h2⟩, h _ (m z).1 (m z).2⟩⟩
    · repeat (first | (intro z) | (refine ⟨.inl ⟨by omega, by omega⟩, ?_⟩) | (refine ⟨.inr ⟨by omega, by omega⟩, ?_⟩) | (refine ⟨by omega, ?_⟩) | (refine ⟨⟨by omega, by omega⟩, ?_⟩) | (exact h _ (m _).1 (m _).2))
  · exact h.elim
theorem b__law_any : ∀ ds E Q, ds.length = F__law_any.ps.length → Sg 17 ds E Q → bodyW Sg S__law_any.N d__law_any ds E Q := by
  intro ds E Q hlen h
  clear hlen
  change Sp__law_any ds E Q at h
  unfold Sp__law_any at h
  split at h
  · rename_i p xs
    (show bodyW Sg N__law_any d__law_any [.obj p, .tup xs] E Q; simp only [bodyW, Hd_cons, ↓e_stuck, ↓e_var, ↓e_non, ↓e_bl, ↓e_int, ↓e_str, ↓e_kt, ↓e_bin, ↓e_chain, ↓e_and, ↓e_or, ↓e_not, ↓e_neg, ↓e_ite, ↓e_tup, ↓e_lst, ↓e_call, ↓e_callP, ↓e_callQ, ↓e_callV, ↓e_callL, ↓e_callK, ↓e_blt, ↓e_isi, ↓e_ix, ↓e_rev, ↓e_lenset, ↓e_rgv, ↓e_sl, ↓e_part0, ↓e_part1, ↓e_comp, ↓e_comp2, wComp2, ↓e_nil, ↓e_cons, ↓e_star, ↓t_yes, ↓t_val, ↓t_not, ↓t_and, ↓t_or, ↓i_items, ↓i_rng1, ↓i_rng2, ↓i_rng3, ↓i_enum, ↓i_zip, ↓s_seq, ↓s_ret, ↓s_exp, ↓s_asg, ↓s_asgF, ↓s_own, ↓s_par, ↓s_retW, ↓s_for, ↓s_forR, ↓p_nil, ↓p_im, ↓p_ow, ↓p_owM, ↓p_owL, ↓u_stuck, ↓u_next, ↓u_brk, ↓u_cnt, ↓u_retN, ↓u_ifs, u_fz, u_app, u_appF, u_put, u_putF, u_asgI, wAsgI, u_while, u_ownM, u_ownA, u_ownC, u_ownL, u_appP, u_put2, wOwnL, wAppP, wPut2, u_wput, u_wdm, wLC, wFz, wApp, wAppF, wPut, wPutF, wOwnM, wOwnA, setP, wComp, wYes, wWput, wWdm, capt, bo, blt, dTru_non, dTru_bl, dTru_int, dTru_tup, dTru_lst, dTy_non, dTy_bl, dTy_int, dTy_str, dTy_tup, dTy_lst, isi_ii, isi_ib, isi_tt, isi_bi, isi_bb, isi_ni, isi_nb, isi_nt, isi_ns, isi_nl, isi_si, isi_sb, isi_st, isi_ss, isi_sl, isi_ti, isi_tb, isi_ts, isi_tl, isi_li, isi_lb, isi_lt, isi_ls, isi_ll, isi_it, isi_is, isi_il, isi_bt, isi_bs, isi_bl, binds, bindss, setS, setB, getS, entry, strE, frzE, slS, slF, wipeE, dEq_int, dNe_int, DL.isNon, bRepr, permD, o_dAdd0, o_dAdd1, o_dAdd2, o_dAdd3, o_dSub0, o_dMul0, o_dMul1, o_dMul2, o_dFdiv0, o_dMod0, o_dPow0, o_dShl0, o_dShr0, o_dAnd0, o_dOr0, o_dXor0, o_dLt0, o_dLe0, o_dGt0, o_dGe0, o_dIs0, o_dIsNot0, o_dIs1, o_dIsNot1, o_bLen0, o_bLen1, o_bLen2, o_bLen3, o_bTuple0, o_bTuple1, o_bList0, o_bList1, o_bAbs0, o_bMax20, o_bMin20, o_bInt0, o_bInt1, o_bBool0, o_bBool1, o_bBool2, o_bDivmod0, o_bGcd0, o_bStr0, o_bAll0, o_bAny0, o_bSum0, o_bSum1, o_bSort0, o_bSort1, o_bMax10, o_bMax11, o_bMin10, o_bMin11, o_bRepr0, o_dIx0, o_dIx1, o_dIx2, o_dIx3, o_dIx4, o_iEn0, o_iEn1, o_iZp0, o_iZp1, o_iR30, o_iR10, o_iR20, o_dRev0, o_dRev1, o_rg1, o_rg2, o_rg3, o_rg4, o_dLs0, o_dLs1, o_dSl0, o_dSl1, o_dSl2, o_dSl3, o_dNeg, o_dEqs, o_dNes, List.map_cons, List.map_nil, List.length_cons, List.length_nil, List.foldl_cons, List.foldl_nil, List.getElem?_cons_zero, List.getElem?_cons_succ, List.getElem?_nil, List.set_cons_zero, List.set_cons_succ, List.replicate, List.append_nil, List.nil_append, List.cons_append, Option.join_some, Option.join_none, Option.bind_some, id_eq, Nat.sub_self, Nat.add_sub_cancel, Nat.reduceAdd, Nat.reduceSub, Option.getD_some, List.getD_cons_zero, List.getD_cons_succ, List.getD_nil, Bool.not_true, Bool.not_false, Bool.false_eq_true, true_and, and_true, Bool.true_and, Bool.and_true, reduceCtorEq, if_false, if_true, decide_true, decide_false, Nat.zero_add, Nat.le_refl, d__law_any, N__law_any, sg__law_deal, Sp__law_deal])
    obtain ⟨⟨h1, h2⟩, h⟩ := h
    have h3 : 0 < xs.length := List.length_pos_iff.mpr h1
    refine ⟨⟨by omega, by omega⟩, fun z z1 z2 => ?_⟩
    obtain ⟨x, hx, e⟩ := atI_mem z1 z2
    rw [e]
    exact h x hx
  · rename_i p xs
    (show bodyW Sg N__law_any d__law_any [.obj p, .lst xs] E Q; simp only [bodyW, Hd_cons, ↓e_stuck, ↓e_var, ↓e_non, ↓e_bl, ↓e_int, ↓e_str, ↓e_kt, ↓e_bin, ↓e_chain, ↓e_and, ↓e_or, ↓e_not, ↓e_neg, ↓e_ite, ↓e_tup, ↓e_lst, ↓e_call, ↓e_callP, ↓e_callQ, ↓e_callV, ↓e_callL, ↓e_callK, ↓e_blt, ↓e_isi, ↓e_ix, ↓e_rev, ↓e_lenset, ↓e_rgv, ↓e_sl, ↓e_part0, ↓e_part1, ↓e_comp, ↓e_comp2, wComp2, ↓e_nil, ↓e_cons, ↓e_star, ↓t_yes, ↓t_val, ↓t_not, ↓t_and, ↓t_or, ↓i_items, ↓i_rng1, ↓i_rng2, ↓i_rng3, ↓i_enum, ↓i_zip, ↓s_seq, ↓s_ret, ↓s_exp, ↓s_asg, ↓s_asgF, ↓s_own, ↓s_par, ↓s_retW, ↓s_for, ↓s_forR, ↓p_nil, ↓p_im, ↓p_ow, ↓p_owM, ↓p_owL, ↓u_stuck, ↓u_next, ↓u_brk, ↓u_cnt, ↓u_retN, ↓u_ifs, u_fz, u_app, u_appF, u_put, u_putF, u_asgI, wAsgI, u_while, u_ownM, u_ownA, u_ownC, u_ownL, u_appP, u_put2, wOwnL, wAppP, wPut2, u_wput, u_wdm, wLC, wFz, wApp, wAppF, wPut, wPutF, wOwnM, wOwnA, setP, wComp, wYes, wWput, wWdm, capt, bo, blt, dTru_non, dTru_bl, dTru_int, dTru_tup, dTru_lst, dTy_non, dTy_bl, dTy_int, dTy_str, dTy_tup, dTy_lst, isi_ii, isi_ib, isi_tt, isi_bi, isi_bb, isi_ni, isi_nb, isi_nt, isi_ns, isi_nl, isi_si, isi_sb, isi_st, isi_ss, isi_sl, isi_ti, isi_tb, isi_ts, isi_tl, isi_li, isi_lb, isi_lt, isi_ls, isi_ll, isi_it, isi_is, isi_il, isi_bt, isi_bs, isi_bl, binds, bindss, setS, setB, getS, entry, strE, frzE, slS, slF, wipeE, dEq_int, dNe_int, DL.isNon, bRepr, permD, o_dAdd0, o_dAdd1, o_dAdd2, o_dAdd3, o_dSub0, o_dMul0, o_dMul1, o_dMul2, o_dFdiv0, o_dMod0, o_dPow0, o_dShl0, o_dShr0, o_dAnd0, o_dOr0, o_dXor0, o_dLt0, o_dLe0, o_dGt0, o_dGe0, o_dIs0, o_dIsNot0, o_dIs1, o_dIsNot1, o_bLen0, o_bLen1, o_bLen2, o_bLen3, o_bTuple0, o_bTuple1, o_bList0, o_bList1, o_bAbs0, o_bMax20, o_bMin20, o_bInt0, o_bInt1, o_bBool0, o_bBool1, o_bBool2, o_bDivmod0, o_bGcd0, o_bStr0, o_bAll0, o_bAny0, o_bSum0, o_bSum1, o_bSort0, o_bSort1, o_bMax10, o_bMax11, o_bMin10, o_bMin11, o_bRepr0, o_dIx0, o_dIx1, o_dIx2, o_dIx3, o_dIx4, o_iEn0, o_iEn1, o_iZp0, o_iZp1, o_iR30, o_iR10, o_iR20, o_dRev0, o_dRev1, o_rg1, o_rg2, o_rg3, o_rg4, o_dLs0, o_dLs1, o_dSl0, o_dSl1, o_dSl2, o_dSl3, o_dNeg, o_dEqs, o_dNes, List.map_cons, List.map_nil, List.length_cons, List.length_nil, List.foldl_cons, List.foldl_nil, List.getElem?_cons_zero, List.getElem?_cons_succ, List.getElem?_nil, List.set_cons_zero, List.set_cons_succ, List.replicate, List.append_nil, List.nil_append, List.cons_append, Option.join_some, Option.join_none, Option.bind_some, id_eq, Nat.sub_self, Nat.add_sub_cancel, Nat.reduceAdd, Nat.reduceSub, Option.getD_some, List.getD_cons_zero, List.getD_cons_succ, List.getD_nil, Bool.not_true, Bool.not_false, Bool.false_eq_true, true_and, and_true, Bool.true_and, Bool.and_true, reduceCtorEq, if_false, if_true, decide_true, decide_false, Nat.zero_add, Nat.le_refl, d__law_any, N__law_any, sg__law_deal, Sp__law_deal])
    obtain ⟨⟨h1, h2⟩, h⟩ := h
    have h3 : 0 < xs.length := List.length_pos_iff.mpr h1
    refine ⟨⟨by omega, by omega⟩, fun z z1 z2 => ?_⟩
    obtain ⟨x, hx, e⟩ := atI_mem z1 z2
    rw [e]
    exact h x hx
  · exact h.elim
theorem b__law_shuffled : ∀ ds E Q, ds.length = F__law_shuffled.ps.length → Sg 18 ds E Q → bodyW Sg S__law_shuffled.N d__law_shuffled ds E Q := by
  intro ds E Q hlen h
  clear hlen
  change Sp__law_shuffled ds E Q at h
  unfold Sp__law_shuffled at h
  split at h
  · rename_i p xs
    (show bodyW Sg N__law_shuffled d__law_shuffled [.obj p, .tup xs] E Q; simp only [bodyW, Hd_cons, ↓e_stuck, ↓e_var, ↓e_non, ↓e_bl, ↓e_int, ↓e_str, ↓e_kt, ↓e_bin, ↓e_chain, ↓e_and, ↓e_or, ↓e_not, ↓e_neg, ↓e_ite, ↓e_tup, ↓e_lst, ↓e_call, ↓e_callP, ↓e_callQ, ↓e_callV, ↓e_callL, ↓e_callK, ↓e_blt, ↓e_isi, ↓e_ix, ↓e_rev, ↓e_lenset, ↓e_rgv, ↓e_sl, ↓e_part0, ↓e_part1, ↓e_comp, ↓e_comp2, wComp2, ↓e_nil, ↓e_cons, ↓e_star, ↓t_yes, ↓t_val, ↓t_not, ↓t_and, ↓t_or, ↓i_items, ↓i_rng1, ↓i_rng2, ↓i_rng3, ↓i_enum, ↓i_zip, ↓s_seq, ↓s_ret, ↓s_exp, ↓s_asg, ↓s_asgF, ↓s_own, ↓s_par, ↓s_retW, ↓s_for, ↓s_forR, ↓p_nil, ↓p_im, ↓p_ow, ↓p_owM, ↓p_owL, ↓u_stuck, ↓u_next, ↓u_brk, ↓u_cnt, ↓u_retN, ↓u_ifs, u_fz, u_app, u_appF, u_put, u_putF, u_asgI, wAsgI, u_while, u_ownM, u_ownA, u_ownC, u_ownL, u_appP, u_put2, wOwnL, wAppP, wPut2, u_wput, u_wdm, wLC, wFz, wApp, wAppF, wPut, wPutF, wOwnM, wOwnA, setP, wComp, wYes, wWput, wWdm, capt, bo, blt, dTru_non, dTru_bl, dTru_int, dTru_tup, dTru_lst, dTy_non, dTy_bl, dTy_int, dTy_str, dTy_tup, dTy_lst, isi_ii, isi_ib, isi_tt, isi_bi, isi_bb, isi_ni, isi_nb, isi_nt, isi_ns, isi_nl, isi_si, isi_sb, isi_st, isi_ss, isi_sl, isi_ti, isi_tb, isi_ts, isi_tl, isi_li, isi_lb, isi_lt, isi_ls, isi_ll, isi_it, isi_is, isi_il, isi_bt, isi_bs, isi_bl, binds, bindss, setS, setB, getS, entry, strE, frzE, slS, slF, wipeE, dEq_int, dNe_int, DL.isNon, bRepr, permD, o_dAdd0, o_dAdd1, o_dAdd2, o_dAdd3, o_dSub0, o_dMul0, o_dMul1, o_dMul2, o_dFdiv0, o_dMod0, o_dPow0, o_dShl0, o_dShr0, o_dAnd0, o_dOr0, o_dXor0, o_dLt0, o_dLe0, o_dGt0, o_dGe0, o_dIs0, o_dIsNot0, o_dIs1, o_dIsNot1, o_bLen0, o_bLen1, o_bLen2, o_bLen3, o_bTuple0, o_bTuple1, o_bList0, o_bList1, o_bAbs0, o_bMax20, o_bMin20, o_bInt0, o_bInt1, o_bBool0, o_bBool1, o_bBool2, o_bDivmod0, o_bGcd0, o_bStr0, o_bAll0, o_bAny0, o_bSum0, o_bSum1, o_bSort0, o_bSort1, o_bMax10, o_bMax11, o_bMin10, o_bMin11, o_bRepr0, o_dIx0, o_dIx1, o_dIx2, o_dIx3, o_dIx4, o_iEn0, o_iEn1, o_iZp0, o_iZp1, o_iR30, o_iR10, o_iR20, o_dRev0, o_dRev1, o_rg1, o_rg2, o_rg3, o_rg4, o_dLs0, o_dLs1, o_dSl0, o_dSl1, o_dSl2, o_dSl3, o_dNeg, o_dEqs, o_dNes, List.map_cons, List.map_nil, List.length_cons, List.length_nil, List.foldl_cons, List.foldl_nil, List.getElem?_cons_zero, List.getElem?_cons_succ, List.getElem?_nil, List.set_cons_zero, List.set_cons_succ, List.replicate, List.append_nil, List.nil_append, List.cons_append, Option.join_some, Option.join_none, Option.bind_some, id_eq, Nat.sub_self, Nat.add_sub_cancel, Nat.reduceAdd, Nat.reduceSub, Option.getD_some, List.getD_cons_zero, List.getD_cons_succ, List.getD_nil, Bool.not_true, Bool.not_false, Bool.false_eq_true, true_and, and_true, Bool.true_and, Bool.and_true, reduceCtorEq, if_false, if_true, decide_true, decide_false, Nat.zero_add, Nat.le_refl, d__law_shuffled, N__law_shuffled, sg__law_deal, Sp__law_deal])
    obtain ⟨hl, h⟩ := h
    refine ⟨by decide, ⟨by omega, by omega⟩, ?_⟩
    refine forL_inv (n := 0) (fun j ρ => ∃ (lf fd : List D) (s4 : Sl), (lf.length + j = xs.length ∧ (fd ++ lf).Perm xs) ∧ ρ = [.im (.obj p), .im (.tup xs), .ow lf, .ow fd, s4]) ⟨xs, [], _, ⟨rfl, List.Perm.refl _⟩, rfl⟩ (fun j d hj ρ hI M hM => ?_) (fun ρ hI => ?_)
    · obtain ⟨lf, fd, s4, ⟨hll, hp⟩, rfl⟩ := hI
      obtain ⟨hjl, rfl⟩ := rng_get hj
      rw [Int.toNat_natCast] at hjl
      rw [Nat.zero_add] at hll
      refine ⟨_, rfl, ?_⟩
      simp only [bodyW, ↓e_stuck, ↓e_var, ↓e_non, ↓e_bl, ↓e_int, ↓e_str, ↓e_kt, ↓e_bin, ↓e_chain, ↓e_and, ↓e_or, ↓e_not, ↓e_neg, ↓e_ite, ↓e_tup, ↓e_lst, ↓e_call, ↓e_callP, ↓e_callQ, ↓e_callV, ↓e_callL, ↓e_callK, ↓e_blt, ↓e_isi, ↓e_ix, ↓e_rev, ↓e_lenset, ↓e_rgv, ↓e_sl, ↓e_part0, ↓e_part1, ↓e_comp, ↓e_comp2, wComp2, ↓e_nil, ↓e_cons, ↓e_star, ↓t_yes, ↓t_val, ↓t_not, ↓t_and, ↓t_or, ↓i_items, ↓i_rng1, ↓i_rng2, ↓i_rng3, ↓i_enum, ↓i_zip, ↓s_seq, ↓s_ret, ↓s_exp, ↓s_asg, ↓s_asgF, ↓s_own, ↓s_par, ↓s_retW, ↓s_for, ↓s_forR, ↓p_nil, ↓p_im, ↓p_ow, ↓p_owM, ↓p_owL, ↓u_stuck, ↓u_next, ↓u_brk, ↓u_cnt, ↓u_retN, ↓u_ifs, u_fz, u_app, u_appF, u_put, u_putF, u_asgI, wAsgI, u_while, u_ownM, u_ownA, u_ownC, u_ownL, u_appP, u_put2, wOwnL, wAppP, wPut2, u_wput, u_wdm, wLC, wFz, wApp, wAppF, wPut, wPutF, wOwnM, wOwnA, setP, wComp, wYes, wWput, wWdm, capt, bo, blt, dTru_non, dTru_bl, dTru_int, dTru_tup, dTru_lst, dTy_non, dTy_bl, dTy_int, dTy_str, dTy_tup, dTy_lst, isi_ii, isi_ib, isi_tt, isi_bi, isi_bb, isi_ni, isi_nb, isi_nt, isi_ns, isi_nl, isi_si, isi_sb, isi_st, isi_ss, isi_sl, isi_ti, isi_tb, isi_ts, isi_tl, isi_li, isi_lb, isi_lt, isi_ls, isi_ll, isi_it, isi_is, isi_il, isi_bt, isi_bs, isi_bl, binds, bindss, setS, setB, getS, entry, strE, frzE, slS, slF, wipeE, dEq_int, dNe_int, DL.isNon, bRepr, permD, o_dAdd0, o_dAdd1, o_dAdd2, o_dAdd3, o_dSub0, o_dMul0, o_dMul1, o_dMul2, o_dFdiv0, o_dMod0, o_dPow0, o_dShl0, o_dShr0, o_dAnd0, o_dOr0, o_dXor0, o_dLt0, o_dLe0, o_dGt0, o_dGe0, o_dIs0, o_dIsNot0, o_dIs1, o_dIsNot1, o_bLen0, o_bLen1, o_bLen2, o_bLen3, o_bTuple0, o_bTuple1, o_bList0, o_bList1, o_bAbs0, o_bMax20, o_bMin20, o_bInt0, o_bInt1, o_bBool0, o_bBool1, o_bBool2, o_bDivmod0, o_bGcd0, o_bStr0, o_bAll0, o_bAny0, o_bSum0, o_bSum1, o_bSort0, o_bSort1, o_bMax10, o_bMax11, o_bMin10, o_bMin11, o_bRepr0, o_dIx0, o_dIx1, o_dIx2, o_dIx3, o_dIx4, o_iEn0, o_iEn1, o_iZp0, o_iZp1, o_iR30, o_iR10, o_iR20, o_dRev0, o_dRev1, o_rg1, o_rg2, o_rg3, o_rg4, o_dLs0, o_dLs1, o_dSl0, o_dSl1, o_dSl2, o_dSl3, o_dNeg, o_dEqs, o_dNes, List.map_cons, List.map_nil, List.length_cons, List.length_nil, List.foldl_cons, List.foldl_nil, List.getElem?_cons_zero, List.getElem?_cons_succ, List.getElem?_nil, List.set_cons_zero, List.set_cons_succ, List.replicate, List.append_nil, List.nil_append, List.cons_append, Option.join_some, Option.join_none, Option.bind_some, id_eq, Nat.sub_self, Nat.add_sub_cancel, Nat.reduceAdd, Nat.reduceSub, Option.getD_some, List.getD_cons_zero, List.getD_cons_succ, List.getD_nil, Bool.not_true, Bool.not_false, Bool.false_eq_true, true_and, and_true, Bool.true_and, Bool.and_true, reduceCtorEq, if_false, if_true, decide_true, decide_false, Nat.zero_add, Nat.le_refl, sg__law_deal, Sp__law_deal]
      refine ⟨⟨by omega, by omega⟩, fun z z1 z2 => ?_⟩
      obtain ⟨d, hd⟩ : ∃ d, lf[z.toNat]? = some d := ⟨_, List.getElem?_eq_getElem (by omega)⟩
      have hlen : fd.length + lf.length = xs.length := by rw [← List.length_append]; exact hp.length_eq
      have e1 : ixN lf.length z = some z.toNat := by unfold ixN; rw [if_pos z1, if_pos z2]
      simp only [e1, hd]
      obtain ⟨hz, rfl⟩ := List.getElem?_eq_some_iff.mp hd
      refine ⟨⟨by decide, by omega, by omega, by simp only [LIM]; omega⟩, ?_⟩
      exact hM _ ⟨lf.eraseIdx z.toNat, fd ++ [lf[z.toNat]], _, ⟨by rw [List.length_eraseIdx_of_lt hz]; omega, by
        rw [List.append_assoc]
        exact (List.Perm.append_left fd (er_perm hz)).trans hp⟩, rfl⟩
    · obtain ⟨lf, fd, s4, ⟨hll, hp⟩, rfl⟩ := hI
      simp only [bodyW, Hd_cons, ↓e_stuck, ↓e_var, ↓e_non, ↓e_bl, ↓e_int, ↓e_str, ↓e_kt, ↓e_bin, ↓e_chain, ↓e_and, ↓e_or, ↓e_not, ↓e_neg, ↓e_ite, ↓e_tup, ↓e_lst, ↓e_call, ↓e_callP, ↓e_callQ, ↓e_callV, ↓e_callL, ↓e_callK, ↓e_blt, ↓e_isi, ↓e_ix, ↓e_rev, ↓e_lenset, ↓e_rgv, ↓e_sl, ↓e_part0, ↓e_part1, ↓e_comp, ↓e_comp2, wComp2, ↓e_nil, ↓e_cons, ↓e_star, ↓t_yes, ↓t_val, ↓t_not, ↓t_and, ↓t_or, ↓i_items, ↓i_rng1, ↓i_rng2, ↓i_rng3, ↓i_enum, ↓i_zip, ↓s_seq, ↓s_ret, ↓s_exp, ↓s_asg, ↓s_asgF, ↓s_own, ↓s_par, ↓s_retW, ↓s_for, ↓s_forR, ↓p_nil, ↓p_im, ↓p_ow, ↓p_owM, ↓p_owL, ↓u_stuck, ↓u_next, ↓u_brk, ↓u_cnt, ↓u_retN, ↓u_ifs, u_fz, u_app, u_appF, u_put, u_putF, u_asgI, wAsgI, u_while, u_ownM, u_ownA, u_ownC, u_ownL, u_appP, u_put2, wOwnL, wAppP, wPut2, u_wput, u_wdm, wLC, wFz, wApp, wAppF, wPut, wPutF, wOwnM, wOwnA, setP, wComp, wYes, wWput, wWdm, capt, bo, blt, dTru_non, dTru_bl, dTru_int, dTru_tup, dTru_lst, dTy_non, dTy_bl, dTy_int, dTy_str, dTy_tup, dTy_lst, isi_ii, isi_ib, isi_tt, isi_bi, isi_bb, isi_ni, isi_nb, isi_nt, isi_ns, isi_nl, isi_si, isi_sb, isi_st, isi_ss, isi_sl, isi_ti, isi_tb, isi_ts, isi_tl, isi_li, isi_lb, isi_lt, isi_ls, isi_ll, isi_it, isi_is, isi_il, isi_bt, isi_bs, isi_bl, binds, bindss, setS, setB, getS, entry, strE, frzE, slS, slF, wipeE, dEq_int, dNe_int, DL.isNon, bRepr, permD, o_dAdd0, o_dAdd1, o_dAdd2, o_dAdd3, o_dSub0, o_dMul0, o_dMul1, o_dMul2, o_dFdiv0, o_dMod0, o_dPow0, o_dShl0, o_dShr0, o_dAnd0, o_dOr0, o_dXor0, o_dLt0, o_dLe0, o_dGt0, o_dGe0, o_dIs0, o_dIsNot0, o_dIs1, o_dIsNot1, o_bLen0, o_bLen1, o_bLen2, o_bLen3, o_bTuple0, o_bTuple1, o_bList0, o_bList1, o_bAbs0, o_bMax20, o_bMin20, o_bInt0, o_bInt1, o_bBool0, o_bBool1, o_bBool2, o_bDivmod0, o_bGcd0, o_bStr0, o_bAll0, o_bAny0, o_bSum0, o_bSum1, o_bSort0, o_bSort1, o_bMax10, o_bMax11, o_bMin10, o_bMin11, o_bRepr0, o_dIx0, o_dIx1, o_dIx2, o_dIx3, o_dIx4, o_iEn0, o_iEn1, o_iZp0, o_iZp1, o_iR30, o_iR10, o_iR20, o_dRev0, o_dRev1, o_rg1, o_rg2, o_rg3, o_rg4, o_dLs0, o_dLs1, o_dSl0, o_dSl1, o_dSl2, o_dSl3, o_dNeg, o_dEqs, o_dNes, List.map_cons, List.map_nil, List.length_cons, List.length_nil, List.foldl_cons, List.foldl_nil, List.getElem?_cons_zero, List.getElem?_cons_succ, List.getElem?_nil, List.set_cons_zero, List.set_cons_succ, List.replicate, List.append_nil, List.nil_append, List.cons_append, Option.join_some, Option.join_none, Option.bind_some, id_eq, Nat.sub_self, Nat.add_sub_cancel, Nat.reduceAdd, Nat.reduceSub, Option.getD_some, List.getD_cons_zero, List.getD_cons_succ, List.getD_nil, Bool.not_true, Bool.not_false, Bool.false_eq_true, true_and, and_true, Bool.true_and, Bool.and_true, reduceCtorEq, if_false, if_true, decide_true, decide_false, Nat.zero_add, Nat.le_refl]
      rw [rngD_len, Int.toNat_natCast, Nat.zero_add] at hll
      have : lf = [] := List.length_eq_zero_iff.mp (by omega)
      rw [this, List.append_nil] at hp
      exact h fd hp
  · rename_i p xs
    (show bodyW Sg N__law_shuffled d__law_shuffled [.obj p, .lst xs] E Q; simp only [bodyW, Hd_cons, ↓e_stuck, ↓e_var, ↓e_non, ↓e_bl, ↓e_int, ↓e_str, ↓e_kt, ↓e_bin, ↓e_chain, ↓e_and, ↓e_or, ↓e_not, ↓e_neg, ↓e_ite, ↓e_tup, ↓e_lst, ↓e_call, ↓e_callP, ↓e_callQ, ↓e_callV, ↓e_callL, ↓e_callK, ↓e_blt, ↓e_isi, ↓e_ix, ↓e_rev, ↓e_lenset, ↓e_rgv, ↓e_sl, ↓e_part0, ↓e_part1, ↓e_comp, ↓e_comp2, wComp2, ↓e_nil, ↓e_cons, ↓e_star, ↓t_yes, ↓t_val, ↓t_not, ↓t_and, ↓t_or, ↓i_items, ↓i_rng1, ↓i_rng2, ↓i_rng3, ↓i_enum, ↓i_zip, ↓s_seq, ↓s_ret, ↓s_exp, ↓s_asg, ↓s_asgF, ↓s_own, ↓s_par, ↓s_retW, ↓s_for, ↓s_forR, ↓p_nil, ↓p_im, ↓p_ow, ↓p_owM, ↓p_owL, ↓u_stuck, ↓u_next, ↓u_brk, ↓u_cnt, ↓u_retN, ↓u_ifs, u_fz, u_app, u_appF, u_put, u_putF, u_asgI, wAsgI, u_while, u_ownM, u_ownA, u_ownC, u_ownL, u_appP, u_put2, wOwnL, wAppP, wPut2, u_wput, u_wdm, wLC, wFz, wApp, wAppF, wPut, wPutF, wOwnM, wOwnA, setP, wComp, wYes, wWput, wWdm, capt, bo, blt, dTru_non, dTru_bl, dTru_int, dTru_tup, dTru_lst, dTy_non, dTy_bl, dTy_int, dTy_str, dTy_tup, dTy_lst, isi_ii, isi_ib, isi_tt, isi_bi, isi_bb, isi_ni, isi_nb, isi_nt, isi_ns, isi_nl, isi_si, isi_sb, isi_st, isi_ss, isi_sl, isi_ti, isi_tb, isi_ts, isi_tl, isi_li, isi_lb, isi_lt, isi_ls, isi_ll, isi_it, isi_is, isi_il, isi_bt, isi_bs, isi_bl, binds, bindss, setS, setB, getS, entry, strE, frzE, slS, slF, wipeE, dEq_int, dNe_int, DL.isNon, bRepr, permD, o_dAdd0, o_dAdd1, o_dAdd2, o_dAdd3, o_dSub0, o_dMul0, o_dMul1, o_dMul2, o_dFdiv0, o_dMod0, o_dPow0, o_dShl0, o_dShr0, o_dAnd0, o_dOr0, o_dXor0, o_dLt0, o_dLe0, o_dGt0, o_dGe0, o_dIs0, o_dIsNot0, o_dIs1, o_dIsNot1, o_bLen0, o_bLen1, o_bLen2, o_bLen3, o_bTuple0, o_bTuple1, o_bList0, o_bList1, o_bAbs0, o_bMax20, o_bMin20, o_bInt0, o_bInt1, o_bBool0, o_bBool1, o_bBool2, o_bDivmod0, o_bGcd0, o_bStr0, o_bAll0, o_bAny0, o_bSum0, o_bSum1, o_bSort0, o_bSort1, o_bMax10, o_bMax11, o_bMin10, o_bMin11, o_bRepr0, o_dIx0, o_dIx1, o_dIx2, o_dIx3, o_dIx4, o_iEn0, o_iEn1, o_iZp0, o_iZp1, o_iR30, o_iR10, o_iR20, o_dRev0, o_dRev1, o_rg1, o_rg2, o_rg3, o_rg4, o_dLs0, o_dLs1, o_dSl0, o_dSl1, o_dSl2, o_dSl3, o_dNeg, o_dEqs, o_dNes, List.map_cons, List.map_nil, List.length_cons, List.length_nil, List.foldl_cons, List.foldl_nil, List.getElem?_cons_zero, List.getElem?_cons_succ, List.getElem?_nil, List.set_cons_zero, List.set_cons_succ, List.replicate, List.append_nil, List.nil_append, List.cons_append, Option.join_some, Option.join_none, Option.bind_some, id_eq, Nat.sub_self, Nat.add_sub_cancel, Nat.reduceAdd, Nat.reduceSub, Option.getD_some, List.getD_cons_zero, List.getD_cons_succ, List.getD_nil, Bool.not_true, Bool.not_false, Bool.false_eq_true, true_and, and_true, Bool.true_and, Bool.and_true, reduceCtorEq, if_false, if_true, decide_true, decide_false, Nat.zero_add, Nat.le_refl, d__law_shuffled, N__law_shuffled, sg__law_deal, Sp__law_deal])
    obtain ⟨hl, h⟩ := h
    refine ⟨by decide, ⟨by omega, by omega⟩, ?_⟩
    refine forL_inv (n := 0) (fun j ρ => ∃ (lf fd : List D) (s4 : Sl), (lf.length + j = xs.length ∧ (fd ++ lf).Perm xs) ∧ ρ = [.im (.obj p), .im (.lst xs), .ow lf, .ow fd, s4]) ⟨xs, [], _, ⟨rfl, List.Perm.refl _⟩, rfl⟩ (fun j d hj ρ hI M hM => ?_) (fun ρ hI => ?_)
    · obtain ⟨lf, fd, s4, ⟨hll, hp⟩, rfl⟩ := hI
      obtain ⟨hjl, rfl⟩ := rng_get hj
      rw [Int.toNat_natCast] at hjl
      rw [Nat.zero_add] at hll
      refine ⟨_, rfl, ?_⟩
      simp only [bodyW, ↓e_stuck, ↓e_var, ↓e_non, ↓e_bl, ↓e_int, ↓e_str, ↓e_kt, ↓e_bin, ↓e_chain, ↓e_and, ↓e_or, ↓e_not, ↓e_neg, ↓e_ite, ↓e_tup, ↓e_lst, ↓e_call, ↓e_callP, ↓e_callQ, ↓e_callV, ↓e_callL, ↓e_callK, ↓e_blt, ↓e_isi, ↓e_ix, ↓e_rev, ↓e_lenset, ↓e_rgv, ↓e_sl, ↓e_part0, ↓e_part1, ↓e_comp, ↓e_comp2, wComp2, ↓e_nil, ↓e_cons, ↓e_star, ↓t_yes, ↓t_val, ↓t_not, ↓t_and, ↓t_or, ↓i_items, ↓i_rng1, ↓i_rng2, ↓i_rng3, ↓i_enum, ↓i_zip, ↓s_seq, ↓s_ret, ↓s_exp, ↓s_asg, ↓s_asgF, ↓s_own, ↓s_par, ↓s_retW, ↓s_for, ↓s_forR, ↓p_nil, ↓p_im, ↓p_ow, ↓p_owM, ↓p_owL, ↓u_stuck, ↓u_next, ↓u_brk, ↓u_cnt, ↓u_retN, ↓u_ifs, u_fz, u_app, u_appF, u_put, u_putF, u_asgI, wAsgI, u_while, u_ownM, u_ownA, u_ownC, u_ownL, u_appP, u_put2, wOwnL, wAppP, wPut2, u_wput, u_wdm, wLC, wFz, wApp, wAppF, wPut, wPutF, wOwnM, wOwnA, setP, wComp, wYes, wWput, wWdm, capt, bo, blt, dTru_non, dTru_bl, dTru_int, dTru_tup, dTru_lst, dTy_non, dTy_bl, dTy_int, dTy_str, dTy_tup, dTy_lst, isi_ii, isi_ib, isi_tt, isi_bi, isi_bb, isi_ni, isi_nb, isi_nt, isi_ns, isi_nl, isi_si, isi_sb, isi_st, isi_ss, isi_sl, isi_ti, isi_tb, isi_ts, isi_tl, isi_li, isi_lb, isi_lt, isi_ls, isi_ll, isi_it, isi_is, isi_il, isi_bt, isi_bs, isi_bl, binds, bindss, setS, setB, getS, entry, strE, frzE, slS, slF, wipeE, dEq_int, dNe_int, DL.isNon, bRepr, permD, o_dAdd0, o_dAdd1, o_dAdd2, o_dAdd3, o_dSub0, o_dMul0, o_dMul1, o_dMul2, o_dFdiv0, o_dMod0, o_dPow0, o_dShl0, o_dShr0, o_dAnd0, o_dOr0, o_dXor0, o_dLt0, o_dLe0, o_dGt0, o_dGe0, o_dIs0, o_dIsNot0, o_dIs1, o_dIsNot1, o_bLen0, o_bLen1, o_bLen2, o_bLen3, o_bTuple0, o_bTuple1, o_bList0, o_bList1, o_bAbs0, o_bMax20, o_bMin20, o_bInt0, o_bInt1, o_bBool0, o_bBool1, o_bBool2, o_bDivmod0, o_bGcd0, o_bStr0, o_bAll0, o_bAny0, o_bSum0, o_bSum1, o_bSort0, o_bSort1, o_bMax10, o_bMax11, o_bMin10, o_bMin11, o_bRepr0, o_dIx0, o_dIx1, o_dIx2, o_dIx3, o_dIx4, o_iEn0, o_iEn1, o_iZp0, o_iZp1, o_iR30, o_iR10, o_iR20, o_dRev0, o_dRev1, o_rg1, o_rg2, o_rg3, o_rg4, o_dLs0, o_dLs1, o_dSl0, o_dSl1, o_dSl2, o_dSl3, o_dNeg, o_dEqs, o_dNes, List.map_cons, List.map_nil, List.length_cons, List.length_nil, List.foldl_cons, List.foldl_nil, List.getElem?_cons_zero, List.getElem?_cons_succ, List.getElem?_nil, List.set_cons_zero, List.set_cons_succ, List.replicate, List.append_nil, List.nil_append, List.cons_append, Option.join_some, Option.join_none, Option.bind_some, id_eq, Nat.sub_self, Nat.add_sub_cancel, Nat.reduceAdd, Nat.reduceSub, Option.getD_some, List.getD_cons_zero, List.getD_cons_succ, List.getD_nil, Bool.not_true, Bool.not_false, Bool.false_eq_true, true_and, and_true, Bool.true_and, Bool.and_true, reduceCtorEq, if_false, if_true, decide_true, decide_false, Nat.zero_add, Nat.le_refl, sg__law_deal, Sp__law_deal]
      refine ⟨⟨by omega, by omega⟩, fun z z1 z2 => ?_⟩
      obtain ⟨d, hd⟩ : ∃ d, lf[z.toNat]? = some d := ⟨_, List.getElem?_eq_getElem (by omega)⟩
      have hlen : fd.length + lf.length = xs.length := by rw [← List.length_append]; exact hp.length_eq
      have e1 : ixN lf.length z = some z.toNat := by unfold ixN; rw [if_pos z1, if_pos z2]
      simp only [e1, hd]
      obtain ⟨hz, rfl⟩ := List.getElem?_eq_some_iff.mp hd
      refine ⟨⟨by decide, by omega, by omega, by simp only [LIM]; omega⟩, ?_⟩
      exact hM _ ⟨lf.eraseIdx z.toNat, fd ++ [lf[z.toNat]], _, ⟨by rw [List.length_eraseIdx_of_lt hz]; omega, by
        rw [List.append_assoc]
        exact (List.Perm.append_left fd (er_perm hz)).trans hp⟩, rfl⟩
    · obtain ⟨lf, fd, s4, ⟨hll, hp⟩, rfl⟩ := hI
      simp only [bodyW, Hd_cons, ↓e_stuck, ↓e_var, ↓e_non, ↓e_bl, ↓e_int, ↓e_str, ↓e_kt, ↓e_bin, ↓e_chain, ↓e_and, ↓e_or, ↓e_not, ↓e_neg, ↓e_ite, ↓e_tup, ↓e_lst, ↓e_call, ↓e_callP, ↓e_callQ, ↓e_callV, ↓e_callL, ↓e_callK, ↓e_blt, ↓e_isi, ↓e_ix, ↓e_rev, ↓e_lenset, ↓e_rgv, ↓e_sl, ↓e_part0, ↓e_part1, ↓e_comp, ↓e_comp2, wComp2, ↓e_nil, ↓e_cons, ↓e_star, ↓t_yes, ↓t_val, ↓t_not, ↓t_and, ↓t_or, ↓i_items, ↓i_rng1, ↓i_rng2, ↓i_rng3, ↓i_enum, ↓i_zip, ↓s_seq, ↓s_ret, ↓s_exp, ↓s_asg, ↓s_asgF, ↓s_own, ↓s_par, ↓s_retW, ↓s_for, ↓s_forR, ↓p_nil, ↓p_im, ↓p_ow, ↓p_owM, ↓p_owL, ↓u_stuck, ↓u_next, ↓u_brk, ↓u_cnt, ↓u_retN, ↓u_ifs, u_fz, u_app, u_appF, u_put, u_putF, u_asgI, wAsgI, u_while, u_ownM, u_ownA, u_ownC, u_ownL, u_appP, u_put2, wOwnL, wAppP, wPut2, u_wput, u_wdm, wLC, wFz, wApp, wAppF, wPut, wPutF, wOwnM, wOwnA, setP, wComp, wYes, wWput, wWdm, capt, bo, blt, dTru_non, dTru_bl, dTru_int, dTru_tup, dTru_lst, dTy_non, dTy_bl, dTy_int, dTy_str, dTy_tup, dTy_lst, isi_ii, isi_ib, isi_tt, isi_bi, isi_bb, isi_ni, isi_nb, isi_nt, isi_ns, isi_nl, isi_si, isi_sb, isi_st, isi_ss, isi_sl, isi_ti, isi_tb, isi_ts, isi_tl, isi_li, isi_lb, isi_lt, isi_ls, isi_ll, isi_it, isi_is, isi_il, isi_bt, isi_bs, isi_bl, binds, bindss, setS, setB, getS, entry, strE, frzE, slS, slF, wipeE, dEq_int, dNe_int, DL.isNon, bRepr, permD, o_dAdd0, o_dAdd1, o_dAdd2, o_dAdd3, o_dSub0, o_dMul0, o_dMul1, o_dMul2, o_dFdiv0, o_dMod0, o_dPow0, o_dShl0, o_dShr0, o_dAnd0, o_dOr0, o_dXor0, o_dLt0, o_dLe0, o_dGt0, o_dGe0, o_dIs0, o_dIsNot0, o_dIs1, o_dIsNot1, o_bLen0, o_bLen1, o_bLen2, o_bLen3, o_bTuple0, o_bTuple1, o_bList0, o_bList1, o_bAbs0, o_bMax20, o_bMin20, o_bInt0, o_bInt1, o_bBool0, o_bBool1, o_bBool2, o_bDivmod0, o_bGcd0, o_bStr0, o_bAll0, o_bAny0, o_bSum0, o_bSum1, o_bSort0, o_bSort1, o_bMax10, o_bMax11, o_bMin10, o_bMin11, o_bRepr0, o_dIx0, o_dIx1, o_dIx2, o_dIx3, o_dIx4, o_iEn0, o_iEn1, o_iZp0, o_iZp1, o_iR30, o_iR10, o_iR20, o_dRev0, o_dRev1, o_rg1, o_rg2, o_rg3, o_rg4, o_dLs0, o_dLs1, o_dSl0, o_dSl1, o_dSl2, o_dSl3, o_dNeg, o_dEqs, o_dNes, List.map_cons, List.map_nil, List.length_cons, List.length_nil, List.foldl_cons, List.foldl_nil, List.getElem?_cons_zero, List.getElem?_cons_succ, List.getElem?_nil, List.set_cons_zero, List.set_cons_succ, List.replicate, List.append_nil, List.nil_append, List.cons_append, Option.join_some, Option.join_none, Option.bind_some, id_eq, Nat.sub_self, Nat.add_sub_cancel, Nat.reduceAdd, Nat.reduceSub, Option.getD_some, List.getD_cons_zero, List.getD_cons_succ, List.getD_nil, Bool.not_true, Bool.not_false, Bool.false_eq_true, true_and, and_true, Bool.true_and, Bool.and_true, reduceCtorEq, if_false, if_true, decide_true, decide_false, Nat.zero_add, Nat.le_refl]
      rw [rngD_len, Int.toNat_natCast, Nat.zero_add] at hll
      have : lf = [] := List.length_eq_zero_iff.mp (by omega)
      rw [this, List.append_nil] at hp
      exact h fd hp
  · exact h.elim

theorem b_check_order_of : ∀ ds E Q, ds.length = F_check_order_of.ps.length → Sg 8 ds E Q → bodyW Sg S_check_order_of.N d_check_order_of ds E Q := by
  intro ds E Q hlen h
  clear hlen
  change Sp_check_order_of ds E Q at h
  unfold Sp_check_order_of at h
  split at h
  · rename_i c xs
    (show bodyW Sg N_check_order_of d_check_order_of [.int c, .tup xs] E Q; simp only [bodyW, Hd_cons, ↓e_stuck, ↓e_var, ↓e_non, ↓e_bl, ↓e_int, ↓e_str, ↓e_kt, ↓e_bin, ↓e_chain, ↓e_and, ↓e_or, ↓e_not, ↓e_neg, ↓e_ite, ↓e_tup, ↓e_lst, ↓e_call, ↓e_callP, ↓e_callQ, ↓e_callV, ↓e_callL, ↓e_callK, ↓e_blt, ↓e_isi, ↓e_ix, ↓e_rev, ↓e_lenset, ↓e_rgv, ↓e_sl, ↓e_part0, ↓e_part1, ↓e_comp, ↓e_comp2, wComp2, ↓e_nil, ↓e_cons, ↓e_star, ↓t_yes, ↓t_val, ↓t_not, ↓t_and, ↓t_or, ↓i_items, ↓i_rng1, ↓i_rng2, ↓i_rng3, ↓i_enum, ↓i_zip, ↓s_seq, ↓s_ret, ↓s_exp, ↓s_asg, ↓s_asgF, ↓s_own, ↓s_par, ↓s_retW, ↓s_for, ↓s_forR, ↓p_nil, ↓p_im, ↓p_ow, ↓p_owM, ↓p_owL, ↓u_stuck, ↓u_next, ↓u_brk, ↓u_cnt, ↓u_retN, ↓u_ifs, u_fz, u_app, u_appF, u_put, u_putF, u_asgI, wAsgI, u_while, u_ownM, u_ownA, u_ownC, u_ownL, u_appP, u_put2, wOwnL, wAppP, wPut2, u_wput, u_wdm, wLC, wFz, wApp, wAppF, wPut, wPutF, wOwnM, wOwnA, setP, wComp, wYes, wWput, wWdm, capt, bo, blt, dTru_non, dTru_bl, dTru_int, dTru_tup, dTru_lst, dTy_non, dTy_bl, dTy_int, dTy_str, dTy_tup, dTy_lst, isi_ii, isi_ib, isi_tt, isi_bi, isi_bb, isi_ni, isi_nb, isi_nt, isi_ns, isi_nl, isi_si, isi_sb, isi_st, isi_ss, isi_sl, isi_ti, isi_tb, isi_ts, isi_tl, isi_li, isi_lb, isi_lt, isi_ls, isi_ll, isi_it, isi_is, isi_il, isi_bt, isi_bs, isi_bl, binds, bindss, setS, setB, getS, entry, strE, frzE, slS, slF, wipeE, dEq_int, dNe_int, DL.isNon, bRepr, permD, o_dAdd0, o_dAdd1, o_dAdd2, o_dAdd3, o_dSub0, o_dMul0, o_dMul1, o_dMul2, o_dFdiv0, o_dMod0, o_dPow0, o_dShl0, o_dShr0, o_dAnd0, o_dOr0, o_dXor0, o_dLt0, o_dLe0, o_dGt0, o_dGe0, o_dIs0, o_dIsNot0, o_dIs1, o_dIsNot1, o_bLen0, o_bLen1, o_bLen2, o_bLen3, o_bTuple0, o_bTuple1, o_bList0, o_bList1, o_bAbs0, o_bMax20, o_bMin20, o_bInt0, o_bInt1, o_bBool0, o_bBool1, o_bBool2, o_bDivmod0, o_bGcd0, o_bStr0, o_bAll0, o_bAny0, o_bSum0, o_bSum1, o_bSort0, o_bSort1, o_bMax10, o_bMax11, o_bMin10, o_bMin11, o_bRepr0, o_dIx0, o_dIx1, o_dIx2, o_dIx3, o_dIx4, o_iEn0, o_iEn1, o_iZp0, o_iZp1, o_iR30, o_iR10, o_iR20, o_dRev0, o_dRev1, o_rg1, o_rg2, o_rg3, o_rg4, o_dLs0, o_dLs1, o_dSl0, o_dSl1, o_dSl2, o_dSl3, o_dNeg, o_dEqs, o_dNes, List.map_cons, List.map_nil, List.length_cons, List.length_nil, List.foldl_cons, List.foldl_nil, List.getElem?_cons_zero, List.getElem?_cons_succ, List.getElem?_nil, List.set_cons_zero, List.set_cons_succ, List.replicate, List.append_nil, List.nil_append, List.cons_append, Option.join_some, Option.join_none, Option.bind_some, id_eq, Nat.sub_self, Nat.add_sub_cancel, Nat.reduceAdd, Nat.reduceSub, Option.getD_some, List.getD_cons_zero, List.getD_cons_succ, List.getD_nil, Bool.not_true, Bool.not_false, Bool.false_eq_true, true_and, and_true, Bool.true_and, Bool.and_true, reduceCtorEq, if_false, if_true, decide_true, decide_false, Nat.zero_add, Nat.le_refl, d_check_order_of, N_check_order_of, sg_wrong_for_all, Sp_wrong_for_all])
    obtain ⟨⟨ns, rfl, ho, hc⟩, h⟩ := h
    refine ⟨⟨by rw [List.length_map, isO_len ho]; omega, noFns_map⟩, notP c, fun i x hx E' Q' q => ?_, noFn_wrong, ?_⟩
    · rw [List.getElem?_map] at hx
      obtain ⟨n, hn, rfl⟩ := Option.map_eq_some_iff.mp hx
      rw [← List.map_take] at q ⊢
      exact ⟨⟨_, rfl⟩, q⟩
    · rw [wrong_nil (order_ok (by omega) ho)]
      simp only [wForL, bodyW, Hd_cons, ↓e_stuck, ↓e_var, ↓e_non, ↓e_bl, ↓e_int, ↓e_str, ↓e_kt, ↓e_bin, ↓e_chain, ↓e_and, ↓e_or, ↓e_not, ↓e_neg, ↓e_ite, ↓e_tup, ↓e_lst, ↓e_call, ↓e_callP, ↓e_callQ, ↓e_callV, ↓e_callL, ↓e_callK, ↓e_blt, ↓e_isi, ↓e_ix, ↓e_rev, ↓e_lenset, ↓e_rgv, ↓e_sl, ↓e_part0, ↓e_part1, ↓e_comp, ↓e_comp2, wComp2, ↓e_nil, ↓e_cons, ↓e_star, ↓t_yes, ↓t_val, ↓t_not, ↓t_and, ↓t_or, ↓i_items, ↓i_rng1, ↓i_rng2, ↓i_rng3, ↓i_enum, ↓i_zip, ↓s_seq, ↓s_ret, ↓s_exp, ↓s_asg, ↓s_asgF, ↓s_own, ↓s_par, ↓s_retW, ↓s_for, ↓s_forR, ↓p_nil, ↓p_im, ↓p_ow, ↓p_owM, ↓p_owL, ↓u_stuck, ↓u_next, ↓u_brk, ↓u_cnt, ↓u_retN, ↓u_ifs, u_fz, u_app, u_appF, u_put, u_putF, u_asgI, wAsgI, u_while, u_ownM, u_ownA, u_ownC, u_ownL, u_appP, u_put2, wOwnL, wAppP, wPut2, u_wput, u_wdm, wLC, wFz, wApp, wAppF, wPut, wPutF, wOwnM, wOwnA, setP, wComp, wYes, wWput, wWdm, capt, bo, blt, dTru_non, dTru_bl, dTru_int, dTru_tup, dTru_lst, dTy_non, dTy_bl, dTy_int, dTy_str, dTy_tup, dTy_lst, isi_ii, isi_ib, isi_tt, isi_bi, isi_bb, isi_ni, isi_nb, isi_nt, isi_ns, isi_nl, isi_si, isi_sb, isi_st, isi_ss, isi_sl, isi_ti, isi_tb, isi_ts, isi_tl, isi_li, isi_lb, isi_lt, isi_ls, isi_ll, isi_it, isi_is, isi_il, isi_bt, isi_bs, isi_bl, binds, bindss, setS, setB, getS, entry, strE, frzE, slS, slF, wipeE, dEq_int, dNe_int, DL.isNon, bRepr, permD, o_dAdd0, o_dAdd1, o_dAdd2, o_dAdd3, o_dSub0, o_dMul0, o_dMul1, o_dMul2, o_dFdiv0, o_dMod0, o_dPow0, o_dShl0, o_dShr0, o_dAnd0, o_dOr0, o_dXor0, o_dLt0, o_dLe0, o_dGt0, o_dGe0, o_dIs0, o_dIsNot0, o_dIs1, o_dIsNot1, o_bLen0, o_bLen1, o_bLen2, o_bLen3, o_bTuple0, o_bTuple1, o_bList0, o_bList1, o_bAbs0, o_bMax20, o_bMin20, o_bInt0, o_bInt1, o_bBool0, o_bBool1, o_bBool2, o_bDivmod0, o_bGcd0, o_bStr0, o_bAll0, o_bAny0, o_bSum0, o_bSum1, o_bSort0, o_bSort1, o_bMax10, o_bMax11, o_bMin10, o_bMin11, o_bRepr0, o_dIx0, o_dIx1, o_dIx2, o_dIx3, o_dIx4, o_iEn0, o_iEn1, o_iZp0, o_iZp1, o_iR30, o_iR10, o_iR20, o_dRev0, o_dRev1, o_rg1, o_rg2, o_rg3, o_rg4, o_dLs0, o_dLs1, o_dSl0, o_dSl1, o_dSl2, o_dSl3, o_dNeg, o_dEqs, o_dNes, List.map_cons, List.map_nil, List.length_cons, List.length_nil, List.foldl_cons, List.foldl_nil, List.getElem?_cons_zero, List.getElem?_cons_succ, List.getElem?_nil, List.set_cons_zero, List.set_cons_succ, List.replicate, List.append_nil, List.nil_append, List.cons_append, Option.join_some, Option.join_none, Option.bind_some, id_eq, Nat.sub_self, Nat.add_sub_cancel, Nat.reduceAdd, Nat.reduceSub, Option.getD_some, List.getD_cons_zero, List.getD_cons_succ, List.getD_nil, Bool.not_true, Bool.not_false, Bool.false_eq_true, true_and, and_true, Bool.true_and, Bool.and_true, reduceCtorEq, if_false, if_true, decide_true, decide_false, Nat.zero_add, Nat.le_refl]
      exact h
  · exact h.elim
theorem b_check_order : ∀ ds E Q, ds.length = F_check_order.ps.length → Sg 9 ds E Q → bodyW Sg S_check_order.N d_check_order ds E Q := by
  intro ds E Q hlen h
  clear hlen
  change Sp_check_order ds E Q at h
  unfold Sp_check_order at h
  unfold SpO at h
  split at h
  · rename_i c xs
    (show bodyW Sg N_check_order d_check_order [.int c, .tup xs] E Q; simp only [bodyW, Hd_cons, ↓e_stuck, ↓e_var, ↓e_non, ↓e_bl, ↓e_int, ↓e_str, ↓e_kt, ↓e_bin, ↓e_chain, ↓e_and, ↓e_or, ↓e_not, ↓e_neg, ↓e_ite, ↓e_tup, ↓e_lst, ↓e_call, ↓e_callP, ↓e_callQ, ↓e_callV, ↓e_callL, ↓e_callK, ↓e_blt, ↓e_isi, ↓e_ix, ↓e_rev, ↓e_lenset, ↓e_rgv, ↓e_sl, ↓e_part0, ↓e_part1, ↓e_comp, ↓e_comp2, wComp2, ↓e_nil, ↓e_cons, ↓e_star, ↓t_yes, ↓t_val, ↓t_not, ↓t_and, ↓t_or, ↓i_items, ↓i_rng1, ↓i_rng2, ↓i_rng3, ↓i_enum, ↓i_zip, ↓s_seq, ↓s_ret, ↓s_exp, ↓s_asg, ↓s_asgF, ↓s_own, ↓s_par, ↓s_retW, ↓s_for, ↓s_forR, ↓p_nil, ↓p_im, ↓p_ow, ↓p_owM, ↓p_owL, ↓u_stuck, ↓u_next, ↓u_brk, ↓u_cnt, ↓u_retN, ↓u_ifs, u_fz, u_app, u_appF, u_put, u_putF, u_asgI, wAsgI, u_while, u_ownM, u_ownA, u_ownC, u_ownL, u_appP, u_put2, wOwnL, wAppP, wPut2, u_wput, u_wdm, wLC, wFz, wApp, wAppF, wPut, wPutF, wOwnM, wOwnA, setP, wComp, wYes, wWput, wWdm, capt, bo, blt, dTru_non, dTru_bl, dTru_int, dTru_tup, dTru_lst, dTy_non, dTy_bl, dTy_int, dTy_str, dTy_tup, dTy_lst, isi_ii, isi_ib, isi_tt, isi_bi, isi_bb, isi_ni, isi_nb, isi_nt, isi_ns, isi_nl, isi_si, isi_sb, isi_st, isi_ss, isi_sl, isi_ti, isi_tb, isi_ts, isi_tl, isi_li, isi_lb, isi_lt, isi_ls, isi_ll, isi_it, isi_is, isi_il, isi_bt, isi_bs, isi_bl, binds, bindss, setS, setB, getS, entry, strE, frzE, slS, slF, wipeE, dEq_int, dNe_int, DL.isNon, bRepr, permD, o_dAdd0, o_dAdd1, o_dAdd2, o_dAdd3, o_dSub0, o_dMul0, o_dMul1, o_dMul2, o_dFdiv0, o_dMod0, o_dPow0, o_dShl0, o_dShr0, o_dAnd0, o_dOr0, o_dXor0, o_dLt0, o_dLe0, o_dGt0, o_dGe0, o_dIs0, o_dIsNot0, o_dIs1, o_dIsNot1, o_bLen0, o_bLen1, o_bLen2, o_bLen3, o_bTuple0, o_bTuple1, o_bList0, o_bList1, o_bAbs0, o_bMax20, o_bMin20, o_bInt0, o_bInt1, o_bBool0, o_bBool1, o_bBool2, o_bDivmod0, o_bGcd0, o_bStr0, o_bAll0, o_bAny0, o_bSum0, o_bSum1, o_bSort0, o_bSort1, o_bMax10, o_bMax11, o_bMin10, o_bMin11, o_bRepr0, o_dIx0, o_dIx1, o_dIx2, o_dIx3, o_dIx4, o_iEn0, o_iEn1, o_iZp0, o_iZp1, o_iR30, o_iR10, o_iR20, o_dRev0, o_dRev1, o_rg1, o_rg2, o_rg3, o_rg4, o_dLs0, o_dLs1, o_dSl0, o_dSl1, o_dSl2, o_dSl3, o_dNeg, o_dEqs, o_dNes, List.map_cons, List.map_nil, List.length_cons, List.length_nil, List.foldl_cons, List.foldl_nil, List.getElem?_cons_zero, List.getElem?_cons_succ, List.getElem?_nil, List.set_cons_zero, List.set_cons_succ, List.replicate, List.append_nil, List.nil_append, List.cons_append, Option.join_some, Option.join_none, Option.bind_some, id_eq, Nat.sub_self, Nat.add_sub_cancel, Nat.reduceAdd, Nat.reduceSub, Option.getD_some, List.getD_cons_zero, List.getD_cons_succ, List.getD_nil, Bool.not_true, Bool.not_false, Bool.false_eq_true, true_and, and_true, Bool.true_and, Bool.and_true, reduceCtorEq, if_false, if_true, decide_true, decide_false, Nat.zero_add, Nat.le_refl, d_check_order, N_check_order, sg_check_clock, Sp_check_clock, sg_check_order_of, Sp_check_order_of])
    obtain ⟨ns, rfl, ho, hc, h⟩ := h
    exact ⟨hc, ⟨ns, rfl, ho, hc⟩, h⟩
  · exact h.elim
theorem b_are_all_unlike : ∀ ds E Q, ds.length = F_are_all_unlike.ps.length → Sg 10 ds E Q → bodyW Sg S_are_all_unlike.N d_are_all_unlike ds E Q := by
  intro ds E Q hlen h
  clear hlen
  change Sp_are_all_unlike ds E Q at h
  unfold Sp_are_all_unlike at h
  split at h
  · rename_i xs
    (show bodyW Sg N_are_all_unlike d_are_all_unlike [.lst xs] E Q; simp only [bodyW, Hd_cons, ↓e_stuck, ↓e_var, ↓e_non, ↓e_bl, ↓e_int, ↓e_str, ↓e_kt, ↓e_bin, ↓e_chain, ↓e_and, ↓e_or, ↓e_not, ↓e_neg, ↓e_ite, ↓e_tup, ↓e_lst, ↓e_call, ↓e_callP, ↓e_callQ, ↓e_callV, ↓e_callL, ↓e_callK, ↓e_blt, ↓e_isi, ↓e_ix, ↓e_rev, ↓e_lenset, ↓e_rgv, ↓e_sl, ↓e_part0, ↓e_part1, ↓e_comp, ↓e_comp2, wComp2, ↓e_nil, ↓e_cons, ↓e_star, ↓t_yes, ↓t_val, ↓t_not, ↓t_and, ↓t_or, ↓i_items, ↓i_rng1, ↓i_rng2, ↓i_rng3, ↓i_enum, ↓i_zip, ↓s_seq, ↓s_ret, ↓s_exp, ↓s_asg, ↓s_asgF, ↓s_own, ↓s_par, ↓s_retW, ↓s_for, ↓s_forR, ↓p_nil, ↓p_im, ↓p_ow, ↓p_owM, ↓p_owL, ↓u_stuck, ↓u_next, ↓u_brk, ↓u_cnt, ↓u_retN, ↓u_ifs, u_fz, u_app, u_appF, u_put, u_putF, u_asgI, wAsgI, u_while, u_ownM, u_ownA, u_ownC, u_ownL, u_appP, u_put2, wOwnL, wAppP, wPut2, u_wput, u_wdm, wLC, wFz, wApp, wAppF, wPut, wPutF, wOwnM, wOwnA, setP, wComp, wYes, wWput, wWdm, capt, bo, blt, dTru_non, dTru_bl, dTru_int, dTru_tup, dTru_lst, dTy_non, dTy_bl, dTy_int, dTy_str, dTy_tup, dTy_lst, isi_ii, isi_ib, isi_tt, isi_bi, isi_bb, isi_ni, isi_nb, isi_nt, isi_ns, isi_nl, isi_si, isi_sb, isi_st, isi_ss, isi_sl, isi_ti, isi_tb, isi_ts, isi_tl, isi_li, isi_lb, isi_lt, isi_ls, isi_ll, isi_it, isi_is, isi_il, isi_bt, isi_bs, isi_bl, binds, bindss, setS, setB, getS, entry, strE, frzE, slS, slF, wipeE, dEq_int, dNe_int, DL.isNon, bRepr, permD, o_dAdd0, o_dAdd1, o_dAdd2, o_dAdd3, o_dSub0, o_dMul0, o_dMul1, o_dMul2, o_dFdiv0, o_dMod0, o_dPow0, o_dShl0, o_dShr0, o_dAnd0, o_dOr0, o_dXor0, o_dLt0, o_dLe0, o_dGt0, o_dGe0, o_dIs0, o_dIsNot0, o_dIs1, o_dIsNot1, o_bLen0, o_bLen1, o_bLen2, o_bLen3, o_bTuple0, o_bTuple1, o_bList0, o_bList1, o_bAbs0, o_bMax20, o_bMin20, o_bInt0, o_bInt1, o_bBool0, o_bBool1, o_bBool2, o_bDivmod0, o_bGcd0, o_bStr0, o_bAll0, o_bAny0, o_bSum0, o_bSum1, o_bSort0, o_bSort1, o_bMax10, o_bMax11, o_bMin10, o_bMin11, o_bRepr0, o_dIx0, o_dIx1, o_dIx2, o_dIx3, o_dIx4, o_iEn0, o_iEn1, o_iZp0, o_iZp1, o_iR30, o_iR10, o_iR20, o_dRev0, o_dRev1, o_rg1, o_rg2, o_rg3, o_rg4, o_dLs0, o_dLs1, o_dSl0, o_dSl1, o_dSl2, o_dSl3, o_dNeg, o_dEqs, o_dNes, List.map_cons, List.map_nil, List.length_cons, List.length_nil, List.foldl_cons, List.foldl_nil, List.getElem?_cons_zero, List.getElem?_cons_succ, List.getElem?_nil, List.set_cons_zero, List.set_cons_succ, List.replicate, List.append_nil, List.nil_append, List.cons_append, Option.join_some, Option.join_none, Option.bind_some, id_eq, Nat.sub_self, Nat.add_sub_cancel, Nat.reduceAdd, Nat.reduceSub, Option.getD_some, List.getD_cons_zero, List.getD_cons_succ, List.getD_nil, Bool.not_true, Bool.not_false, Bool.false_eq_true, true_and, and_true, Bool.true_and, Bool.and_true, reduceCtorEq, if_false, if_true, decide_true, decide_false, Nat.zero_add, Nat.le_refl, d_are_all_unlike, N_are_all_unlike])
    obtain ⟨ns, rfl, hl, h⟩ := h
    rw [intsOf_map]
    simp only [bodyW, Hd_cons, ↓e_stuck, ↓e_var, ↓e_non, ↓e_bl, ↓e_int, ↓e_str, ↓e_kt, ↓e_bin, ↓e_chain, ↓e_and, ↓e_or, ↓e_not, ↓e_neg, ↓e_ite, ↓e_tup, ↓e_lst, ↓e_call, ↓e_callP, ↓e_callQ, ↓e_callV, ↓e_callL, ↓e_callK, ↓e_blt, ↓e_isi, ↓e_ix, ↓e_rev, ↓e_lenset, ↓e_rgv, ↓e_sl, ↓e_part0, ↓e_part1, ↓e_comp, ↓e_comp2, wComp2, ↓e_nil, ↓e_cons, ↓e_star, ↓t_yes, ↓t_val, ↓t_not, ↓t_and, ↓t_or, ↓i_items, ↓i_rng1, ↓i_rng2, ↓i_rng3, ↓i_enum, ↓i_zip, ↓s_seq, ↓s_ret, ↓s_exp, ↓s_asg, ↓s_asgF, ↓s_own, ↓s_par, ↓s_retW, ↓s_for, ↓s_forR, ↓p_nil, ↓p_im, ↓p_ow, ↓p_owM, ↓p_owL, ↓u_stuck, ↓u_next, ↓u_brk, ↓u_cnt, ↓u_retN, ↓u_ifs, u_fz, u_app, u_appF, u_put, u_putF, u_asgI, wAsgI, u_while, u_ownM, u_ownA, u_ownC, u_ownL, u_appP, u_put2, wOwnL, wAppP, wPut2, u_wput, u_wdm, wLC, wFz, wApp, wAppF, wPut, wPutF, wOwnM, wOwnA, setP, wComp, wYes, wWput, wWdm, capt, bo, blt, dTru_non, dTru_bl, dTru_int, dTru_tup, dTru_lst, dTy_non, dTy_bl, dTy_int, dTy_str, dTy_tup, dTy_lst, isi_ii, isi_ib, isi_tt, isi_bi, isi_bb, isi_ni, isi_nb, isi_nt, isi_ns, isi_nl, isi_si, isi_sb, isi_st, isi_ss, isi_sl, isi_ti, isi_tb, isi_ts, isi_tl, isi_li, isi_lb, isi_lt, isi_ls, isi_ll, isi_it, isi_is, isi_il, isi_bt, isi_bs, isi_bl, binds, bindss, setS, setB, getS, entry, strE, frzE, slS, slF, wipeE, dEq_int, dNe_int, DL.isNon, bRepr, permD, o_dAdd0, o_dAdd1, o_dAdd2, o_dAdd3, o_dSub0, o_dMul0, o_dMul1, o_dMul2, o_dFdiv0, o_dMod0, o_dPow0, o_dShl0, o_dShr0, o_dAnd0, o_dOr0, o_dXor0, o_dLt0, o_dLe0, o_dGt0, o_dGe0, o_dIs0, o_dIsNot0, o_dIs1, o_dIsNot1, o_bLen0, o_bLen1, o_bLen2, o_bLen3, o_bTuple0, o_bTuple1, o_bList0, o_bList1, o_bAbs0, o_bMax20, o_bMin20, o_bInt0, o_bInt1, o_bBool0, o_bBool1, o_bBool2, o_bDivmod0, o_bGcd0, o_bStr0, o_bAll0, o_bAny0, o_bSum0, o_bSum1, o_bSort0, o_bSort1, o_bMax10, o_bMax11, o_bMin10, o_bMin11, o_bRepr0, o_dIx0, o_dIx1, o_dIx2, o_dIx3, o_dIx4, o_iEn0, o_iEn1, o_iZp0, o_iZp1, o_iR30, o_iR10, o_iR20, o_dRev0, o_dRev1, o_rg1, o_rg2, o_rg3, o_rg4, o_dLs0, o_dLs1, o_dSl0, o_dSl1, o_dSl2, o_dSl3, o_dNeg, o_dEqs, o_dNes, List.map_cons, List.map_nil, List.length_cons, List.length_nil, List.foldl_cons, List.foldl_nil, List.getElem?_cons_zero, List.getElem?_cons_succ, List.getElem?_nil, List.set_cons_zero, List.set_cons_succ, List.replicate, List.append_nil, List.nil_append, List.cons_append, Option.join_some, Option.join_none, Option.bind_some, id_eq, Nat.sub_self, Nat.add_sub_cancel, Nat.reduceAdd, Nat.reduceSub, Option.getD_some, List.getD_cons_zero, List.getD_cons_succ, List.getD_nil, Bool.not_true, Bool.not_false, Bool.false_eq_true, true_and, and_true, Bool.true_and, Bool.and_true, reduceCtorEq, if_false, if_true, decide_true, decide_false, Nat.zero_add, Nat.le_refl]
    rw [List.length_map]
    exact ⟨hl, h⟩
  · exact h.elim
theorem b_is_full_in : ∀ ds E Q, ds.length = F_is_full_in.ps.length → Sg 11 ds E Q → bodyW Sg S_is_full_in.N d_is_full_in ds E Q := by
  intro ds E Q hlen h
  clear hlen
  change Sp_is_full_in ds E Q at h
  unfold Sp_is_full_in at h
  unfold SpO at h
  split at h
  · rename_i c xs
    (show bodyW Sg N_is_full_in d_is_full_in [.int c, .tup xs] E Q; simp only [bodyW, Hd_cons, ↓e_stuck, ↓e_var, ↓e_non, ↓e_bl, ↓e_int, ↓e_str, ↓e_kt, ↓e_bin, ↓e_chain, ↓e_and, ↓e_or, ↓e_not, ↓e_neg, ↓e_ite, ↓e_tup, ↓e_lst, ↓e_call, ↓e_callP, ↓e_callQ, ↓e_callV, ↓e_callL, ↓e_callK, ↓e_blt, ↓e_isi, ↓e_ix, ↓e_rev, ↓e_lenset, ↓e_rgv, ↓e_sl, ↓e_part0, ↓e_part1, ↓e_comp, ↓e_comp2, wComp2, ↓e_nil, ↓e_cons, ↓e_star, ↓t_yes, ↓t_val, ↓t_not, ↓t_and, ↓t_or, ↓i_items, ↓i_rng1, ↓i_rng2, ↓i_rng3, ↓i_enum, ↓i_zip, ↓s_seq, ↓s_ret, ↓s_exp, ↓s_asg, ↓s_asgF, ↓s_own, ↓s_par, ↓s_retW, ↓s_for, ↓s_forR, ↓p_nil, ↓p_im, ↓p_ow, ↓p_owM, ↓p_owL, ↓u_stuck, ↓u_next, ↓u_brk, ↓u_cnt, ↓u_retN, ↓u_ifs, u_fz, u_app, u_appF, u_put, u_putF, u_asgI, wAsgI, u_while, u_ownM, u_ownA, u_ownC, u_ownL, u_appP, u_put2, wOwnL, wAppP, wPut2, u_wput, u_wdm, wLC, wFz, wApp, wAppF, wPut, wPutF, wOwnM, wOwnA, setP, wComp, wYes, wWput, wWdm, capt, bo, blt, dTru_non, dTru_bl, dTru_int, dTru_tup, dTru_lst, dTy_non, dTy_bl, dTy_int, dTy_str, dTy_tup, dTy_lst, isi_ii, isi_ib, isi_tt, isi_bi, isi_bb, isi_ni, isi_nb, isi_nt, isi_ns, isi_nl, isi_si, isi_sb, isi_st, isi_ss, isi_sl, isi_ti, isi_tb, isi_ts, isi_tl, isi_li, isi_lb, isi_lt, isi_ls, isi_ll, isi_it, isi_is, isi_il, isi_bt, isi_bs, isi_bl, binds, bindss, setS, setB, getS, entry, strE, frzE, slS, slF, wipeE, dEq_int, dNe_int, DL.isNon, bRepr, permD, o_dAdd0, o_dAdd1, o_dAdd2, o_dAdd3, o_dSub0, o_dMul0, o_dMul1, o_dMul2, o_dFdiv0, o_dMod0, o_dPow0, o_dShl0, o_dShr0, o_dAnd0, o_dOr0, o_dXor0, o_dLt0, o_dLe0, o_dGt0, o_dGe0, o_dIs0, o_dIsNot0, o_dIs1, o_dIsNot1, o_bLen0, o_bLen1, o_bLen2, o_bLen3, o_bTuple0, o_bTuple1, o_bList0, o_bList1, o_bAbs0, o_bMax20, o_bMin20, o_bInt0, o_bInt1, o_bBool0, o_bBool1, o_bBool2, o_bDivmod0, o_bGcd0, o_bStr0, o_bAll0, o_bAny0, o_bSum0, o_bSum1, o_bSort0, o_bSort1, o_bMax10, o_bMax11, o_bMin10, o_bMin11, o_bRepr0, o_dIx0, o_dIx1, o_dIx2, o_dIx3, o_dIx4, o_iEn0, o_iEn1, o_iZp0, o_iZp1, o_iR30, o_iR10, o_iR20, o_dRev0, o_dRev1, o_rg1, o_rg2, o_rg3, o_rg4, o_dLs0, o_dLs1, o_dSl0, o_dSl1, o_dSl2, o_dSl3, o_dNeg, o_dEqs, o_dNes, List.map_cons, List.map_nil, List.length_cons, List.length_nil, List.foldl_cons, List.foldl_nil, List.getElem?_cons_zero, List.getElem?_cons_succ, List.getElem?_nil, List.set_cons_zero, List.set_cons_succ, List.replicate, List.append_nil, List.nil_append, List.cons_append, Option.join_some, Option.join_none, Option.bind_some, id_eq, Nat.sub_self, Nat.add_sub_cancel, Nat.reduceAdd, Nat.reduceSub, Option.getD_some, List.getD_cons_zero, List.getD_cons_succ, List.getD_nil, Bool.not_true, Bool.not_false, Bool.false_eq_true, true_and, and_true, Bool.true_and, Bool.and_true, reduceCtorEq, if_false, if_true, decide_true, decide_false, Nat.zero_add, Nat.le_refl, d_is_full_in, N_is_full_in, sg_are_all_unlike, Sp_are_all_unlike])
    obtain ⟨ns, rfl, ho, hc, h⟩ := h
    have hl := isO_len ho
    rw [enD_ints]
    refine turns_M (fun k => D.tup [.int k, .int (gI ns k)]) (fun _ => true) (fun k => .int ((k + gI ns k) % c)) (fun k hk => ⟨_, rfl, fun Q' q => q, fun _ Q' q => ?_⟩) (by rw [zr_len]; simp only [List.length_nil, LIM]; omega) ?_
    · simp only [bodyW, Hd_cons, ↓e_stuck, ↓e_var, ↓e_non, ↓e_bl, ↓e_int, ↓e_str, ↓e_kt, ↓e_bin, ↓e_chain, ↓e_and, ↓e_or, ↓e_not, ↓e_neg, ↓e_ite, ↓e_tup, ↓e_lst, ↓e_call, ↓e_callP, ↓e_callQ, ↓e_callV, ↓e_callL, ↓e_callK, ↓e_blt, ↓e_isi, ↓e_ix, ↓e_rev, ↓e_lenset, ↓e_rgv, ↓e_sl, ↓e_part0, ↓e_part1, ↓e_comp, ↓e_comp2, wComp2, ↓e_nil, ↓e_cons, ↓e_star, ↓t_yes, ↓t_val, ↓t_not, ↓t_and, ↓t_or, ↓i_items, ↓i_rng1, ↓i_rng2, ↓i_rng3, ↓i_enum, ↓i_zip, ↓s_seq, ↓s_ret, ↓s_exp, ↓s_asg, ↓s_asgF, ↓s_own, ↓s_par, ↓s_retW, ↓s_for, ↓s_forR, ↓p_nil, ↓p_im, ↓p_ow, ↓p_owM, ↓p_owL, ↓u_stuck, ↓u_next, ↓u_brk, ↓u_cnt, ↓u_retN, ↓u_ifs, u_fz, u_app, u_appF, u_put, u_putF, u_asgI, wAsgI, u_while, u_ownM, u_ownA, u_ownC, u_ownL, u_appP, u_put2, wOwnL, wAppP, wPut2, u_wput, u_wdm, wLC, wFz, wApp, wAppF, wPut, wPutF, wOwnM, wOwnA, setP, wComp, wYes, wWput, wWdm, capt, bo, blt, dTru_non, dTru_bl, dTru_int, dTru_tup, dTru_lst, dTy_non, dTy_bl, dTy_int, dTy_str, dTy_tup, dTy_lst, isi_ii, isi_ib, isi_tt, isi_bi, isi_bb, isi_ni, isi_nb, isi_nt, isi_ns, isi_nl, isi_si, isi_sb, isi_st, isi_ss, isi_sl, isi_ti, isi_tb, isi_ts, isi_tl, isi_li, isi_lb, isi_lt, isi_ls, isi_ll, isi_it, isi_is, isi_il, isi_bt, isi_bs, isi_bl, binds, bindss, setS, setB, getS, entry, strE, frzE, slS, slF, wipeE, dEq_int, dNe_int, DL.isNon, bRepr, permD, o_dAdd0, o_dAdd1, o_dAdd2, o_dAdd3, o_dSub0, o_dMul0, o_dMul1, o_dMul2, o_dFdiv0, o_dMod0, o_dPow0, o_dShl0, o_dShr0, o_dAnd0, o_dOr0, o_dXor0, o_dLt0, o_dLe0, o_dGt0, o_dGe0, o_dIs0, o_dIsNot0, o_dIs1, o_dIsNot1, o_bLen0, o_bLen1, o_bLen2, o_bLen3, o_bTuple0, o_bTuple1, o_bList0, o_bList1, o_bAbs0, o_bMax20, o_bMin20, o_bInt0, o_bInt1, o_bBool0, o_bBool1, o_bBool2, o_bDivmod0, o_bGcd0, o_bStr0, o_bAll0, o_bAny0, o_bSum0, o_bSum1, o_bSort0, o_bSort1, o_bMax10, o_bMax11, o_bMin10, o_bMin11, o_bRepr0, o_dIx0, o_dIx1, o_dIx2, o_dIx3, o_dIx4, o_iEn0, o_iEn1, o_iZp0, o_iZp1, o_iR30, o_iR10, o_iR20, o_dRev0, o_dRev1, o_rg1, o_rg2, o_rg3, o_rg4, o_dLs0, o_dLs1, o_dSl0, o_dSl1, o_dSl2, o_dSl3, o_dNeg, o_dEqs, o_dNes, List.map_cons, List.map_nil, List.length_cons, List.length_nil, List.foldl_cons, List.foldl_nil, List.getElem?_cons_zero, List.getElem?_cons_succ, List.getElem?_nil, List.set_cons_zero, List.set_cons_succ, List.replicate, List.append_nil, List.nil_append, List.cons_append, Option.join_some, Option.join_none, Option.bind_some, id_eq, Nat.sub_self, Nat.add_sub_cancel, Nat.reduceAdd, Nat.reduceSub, Option.getD_some, List.getD_cons_zero, List.getD_cons_succ, List.getD_nil, Bool.not_true, Bool.not_false, Bool.false_eq_true, true_and, and_true, Bool.true_and, Bool.and_true, reduceCtorEq, if_false, if_true, decide_true, decide_false, Nat.zero_add, Nat.le_refl]
      exact ⟨by omega, q⟩
    · rw [filter_all, List.nil_append]
      exact ⟨fuL c ns, by unfold fuL; rw [List.map_map]; rfl, by unfold fuL; rw [List.length_map, zr_len]; omega, h⟩
  · exact h.elim
theorem b_is_double_in : ∀ ds E Q, ds.length = F_is_double_in.ps.length → Sg 12 ds E Q → bodyW Sg S_is_double_in.N d_is_double_in ds E Q := by
  intro ds E Q hlen h
  clear hlen
  change Sp_is_double_in ds E Q at h
  unfold Sp_is_double_in at h
  unfold SpO at h
  split at h
  · rename_i c xs
    (show bodyW Sg N_is_double_in d_is_double_in [.int c, .tup xs] E Q; simp only [bodyW, Hd_cons, ↓e_stuck, ↓e_var, ↓e_non, ↓e_bl, ↓e_int, ↓e_str, ↓e_kt, ↓e_bin, ↓e_chain, ↓e_and, ↓e_or, ↓e_not, ↓e_neg, ↓e_ite, ↓e_tup, ↓e_lst, ↓e_call, ↓e_callP, ↓e_callQ, ↓e_callV, ↓e_callL, ↓e_callK, ↓e_blt, ↓e_isi, ↓e_ix, ↓e_rev, ↓e_lenset, ↓e_rgv, ↓e_sl, ↓e_part0, ↓e_part1, ↓e_comp, ↓e_comp2, wComp2, ↓e_nil, ↓e_cons, ↓e_star, ↓t_yes, ↓t_val, ↓t_not, ↓t_and, ↓t_or, ↓i_items, ↓i_rng1, ↓i_rng2, ↓i_rng3, ↓i_enum, ↓i_zip, ↓s_seq, ↓s_ret, ↓s_exp, ↓s_asg, ↓s_asgF, ↓s_own, ↓s_par, ↓s_retW, ↓s_for, ↓s_forR, ↓p_nil, ↓p_im, ↓p_ow, ↓p_owM, ↓p_owL, ↓u_stuck, ↓u_next, ↓u_brk, ↓u_cnt, ↓u_retN, ↓u_ifs, u_fz, u_app, u_appF, u_put, u_putF, u_asgI, wAsgI, u_while, u_ownM, u_ownA, u_ownC, u_ownL, u_appP, u_put2, wOwnL, wAppP, wPut2, u_wput, u_wdm, wLC, wFz, wApp, wAppF, wPut, wPutF, wOwnM, wOwnA, setP, wComp, wYes, wWput, wWdm, capt, bo, blt, dTru_non, dTru_bl, dTru_int, dTru_tup, dTru_lst, dTy_non, dTy_bl, dTy_int, dTy_str, dTy_tup, dTy_lst, isi_ii, isi_ib, isi_tt, isi_bi, isi_bb, isi_ni, isi_nb, isi_nt, isi_ns, isi_nl, isi_si, isi_sb, isi_st, isi_ss, isi_sl, isi_ti, isi_tb, isi_ts, isi_tl, isi_li, isi_lb, isi_lt, isi_ls, isi_ll, isi_it, isi_is, isi_il, isi_bt, isi_bs, isi_bl, binds, bindss, setS, setB, getS, entry, strE, frzE, slS, slF, wipeE, dEq_int, dNe_int, DL.isNon, bRepr, permD, o_dAdd0, o_dAdd1, o_dAdd2, o_dAdd3, o_dSub0, o_dMul0, o_dMul1, o_dMul2, o_dFdiv0, o_dMod0, o_dPow0, o_dShl0, o_dShr0, o_dAnd0, o_dOr0, o_dXor0, o_dLt0, o_dLe0, o_dGt0, o_dGe0, o_dIs0, o_dIsNot0, o_dIs1, o_dIsNot1, o_bLen0, o_bLen1, o_bLen2, o_bLen3, o_bTuple0, o_bTuple1, o_bList0, o_bList1, o_bAbs0, o_bMax20, o_bMin20, o_bInt0, o_bInt1, o_bBool0, o_bBool1, o_bBool2, o_bDivmod0, o_bGcd0, o_bStr0, o_bAll0, o_bAny0, o_bSum0, o_bSum1, o_bSort0, o_bSort1, o_bMax10, o_bMax11, o_bMin10, o_bMin11, o_bRepr0, o_dIx0, o_dIx1, o_dIx2, o_dIx3, o_dIx4, o_iEn0, o_iEn1, o_iZp0, o_iZp1, o_iR30, o_iR10, o_iR20, o_dRev0, o_dRev1, o_rg1, o_rg2, o_rg3, o_rg4, o_dLs0, o_dLs1, o_dSl0, o_dSl1, o_dSl2, o_dSl3, o_dNeg, o_dEqs, o_dNes, List.map_cons, List.map_nil, List.length_cons, List.length_nil, List.foldl_cons, List.foldl_nil, List.getElem?_cons_zero, List.getElem?_cons_succ, List.getElem?_nil, List.set_cons_zero, List.set_cons_succ, List.replicate, List.append_nil, List.nil_append, List.cons_append, Option.join_some, Option.join_none, Option.bind_some, id_eq, Nat.sub_self, Nat.add_sub_cancel, Nat.reduceAdd, Nat.reduceSub, Option.getD_some, List.getD_cons_zero, List.getD_cons_succ, List.getD_nil, Bool.not_true, Bool.not_false, Bool.false_eq_true, true_and, and_true, Bool.true_and, Bool.and_true, reduceCtorEq, if_false, if_true, decide_true, decide_false, Nat.zero_add, Nat.le_refl, d_is_double_in, N_is_double_in, sg_is_full_in, Sp_is_full_in, sg_are_all_unlike, Sp_are_all_unlike])
    obtain ⟨ns, rfl, ho, hc, h⟩ := h
    have h : Q (.bl (unl (fuL c ns) && unl (doL c ns))) := h
    have hl := isO_len ho
    unfold SpO
    refine ⟨ns, rfl, ho, hc, ?_⟩
    simp only [dTru_bl]
    generalize unl (fuL c ns) = b at h ⊢
    cases b with
    | false => exact h
    | true =>
      rw [enD_ints]
      show wTurns _ _ _ _ _ _ _
      refine turns_M (fun k => D.tup [.int k, .int (gI ns k)]) (fun _ => true) (fun k => .int ((gI ns k - k) % c)) (fun k hk => ⟨_, rfl, fun Q' q => q, fun _ Q' q => ?_⟩) (by rw [zr_len]; simp only [List.length_nil, LIM]; omega) ?_
      · simp only [bodyW, Hd_cons, ↓e_stuck, ↓e_var, ↓e_non, ↓e_bl, ↓e_int, ↓e_str, ↓e_kt, ↓e_bin, ↓e_chain, ↓e_and, ↓e_or, ↓e_not, ↓e_neg, ↓e_ite, ↓e_tup, ↓e_lst, ↓e_call, ↓e_callP, ↓e_callQ, ↓e_callV, ↓e_callL, ↓e_callK, ↓e_blt, ↓e_isi, ↓e_ix, ↓e_rev, ↓e_lenset, ↓e_rgv, ↓e_sl, ↓e_part0, ↓e_part1, ↓e_comp, ↓e_comp2, wComp2, ↓e_nil, ↓e_cons, ↓e_star, ↓t_yes, ↓t_val, ↓t_not, ↓t_and, ↓t_or, ↓i_items, ↓i_rng1, ↓i_rng2, ↓i_rng3, ↓i_enum, ↓i_zip, ↓s_seq, ↓s_ret, ↓s_exp, ↓s_asg, ↓s_asgF, ↓s_own, ↓s_par, ↓s_retW, ↓s_for, ↓s_forR, ↓p_nil, ↓p_im, ↓p_ow, ↓p_owM, ↓p_owL, ↓u_stuck, ↓u_next, ↓u_brk, ↓u_cnt, ↓u_retN, ↓u_ifs, u_fz, u_app, u_appF, u_put, u_putF, u_asgI, wAsgI, u_while, u_ownM, u_ownA, u_ownC, u_ownL, u_appP, u_put2, wOwnL, wAppP, wPut2, u_wput, u_wdm, wLC, wFz, wApp, wAppF, wPut, wPutF, wOwnM, wOwnA, setP, wComp, wYes, wWput, wWdm, capt, bo, blt, dTru_non, dTru_bl, dTru_int, dTru_tup, dTru_lst, dTy_non, dTy_bl, dTy_int, dTy_str, dTy_tup, dTy_lst, isi_ii, isi_ib, isi_tt, isi_bi, isi_bb, isi_ni, isi_nb, isi_nt, isi_ns, isi_nl, isi_si, isi_sb, isi_st, isi_ss, isi_sl, isi_ti, isi_tb, isi_ts, isi_tl, isi_li, isi_lb, isi_lt, isi_ls, isi_ll, isi_it, isi_is, isi_il, isi_bt, isi_bs, isi_bl, binds, bindss, setS, setB, getS, entry, strE, frzE, slS, slF, wipeE, dEq_int, dNe_int, DL.isNon, bRepr, permD, o_dAdd0, o_dAdd1, o_dAdd2, o_dAdd3, o_dSub0, o_dMul0, o_dMul1, o_dMul2, o_dFdiv0, o_dMod0, o_dPow0, o_dShl0, o_dShr0, o_dAnd0, o_dOr0, o_dXor0, o_dLt0, o_dLe0, o_dGt0, o_dGe0, o_dIs0, o_dIsNot0, o_dIs1, o_dIsNot1, o_bLen0, o_bLen1, o_bLen2, o_bLen3, o_bTuple0, o_bTuple1, o_bList0, o_bList1, o_bAbs0, o_bMax20, o_bMin20, o_bInt0, o_bInt1, o_bBool0, o_bBool1, o_bBool2, o_bDivmod0, o_bGcd0, o_bStr0, o_bAll0, o_bAny0, o_bSum0, o_bSum1, o_bSort0, o_bSort1, o_bMax10, o_bMax11, o_bMin10, o_bMin11, o_bRepr0, o_dIx0, o_dIx1, o_dIx2, o_dIx3, o_dIx4, o_iEn0, o_iEn1, o_iZp0, o_iZp1, o_iR30, o_iR10, o_iR20, o_dRev0, o_dRev1, o_rg1, o_rg2, o_rg3, o_rg4, o_dLs0, o_dLs1, o_dSl0, o_dSl1, o_dSl2, o_dSl3, o_dNeg, o_dEqs, o_dNes, List.map_cons, List.map_nil, List.length_cons, List.length_nil, List.foldl_cons, List.foldl_nil, List.getElem?_cons_zero, List.getElem?_cons_succ, List.getElem?_nil, List.set_cons_zero, List.set_cons_succ, List.replicate, List.append_nil, List.nil_append, List.cons_append, Option.join_some, Option.join_none, Option.bind_some, id_eq, Nat.sub_self, Nat.add_sub_cancel, Nat.reduceAdd, Nat.reduceSub, Option.getD_some, List.getD_cons_zero, List.getD_cons_succ, List.getD_nil, Bool.not_true, Bool.not_false, Bool.false_eq_true, true_and, and_true, Bool.true_and, Bool.and_true, reduceCtorEq, if_false, if_true, decide_true, decide_false, Nat.zero_add, Nat.le_refl]
        exact ⟨by omega, q⟩
      · rw [filter_all, List.nil_append]
        exact ⟨doL c ns, by unfold doL; rw [List.map_map]; rfl, by unfold doL; rw [List.length_map, zr_len]; omega, h⟩
  · exact h.elim
theorem b_is_full_turn : ∀ ds E Q, ds.length = F_is_full_turn.ps.length → Sg 13 ds E Q → bodyW Sg S_is_full_turn.N d_is_full_turn ds E Q := by
  intro ds E Q hlen h
  clear hlen
  change Sp_is_full_turn ds E Q at h
  unfold Sp_is_full_turn at h
  unfold SpO at h
  split at h
  · rename_i c xs
    (show bodyW Sg N_is_full_turn d_is_full_turn [.int c, .tup xs] E Q; simp only [bodyW, Hd_cons, ↓e_stuck, ↓e_var, ↓e_non, ↓e_bl, ↓e_int, ↓e_str, ↓e_kt, ↓e_bin, ↓e_chain, ↓e_and, ↓e_or, ↓e_not, ↓e_neg, ↓e_ite, ↓e_tup, ↓e_lst, ↓e_call, ↓e_callP, ↓e_callQ, ↓e_callV, ↓e_callL, ↓e_callK, ↓e_blt, ↓e_isi, ↓e_ix, ↓e_rev, ↓e_lenset, ↓e_rgv, ↓e_sl, ↓e_part0, ↓e_part1, ↓e_comp, ↓e_comp2, wComp2, ↓e_nil, ↓e_cons, ↓e_star, ↓t_yes, ↓t_val, ↓t_not, ↓t_and, ↓t_or, ↓i_items, ↓i_rng1, ↓i_rng2, ↓i_rng3, ↓i_enum, ↓i_zip, ↓s_seq, ↓s_ret, ↓s_exp, ↓s_asg, ↓s_asgF, ↓s_own, ↓s_par, ↓s_retW, ↓s_for, ↓s_forR, ↓p_nil, ↓p_im, ↓p_ow, ↓p_owM, ↓p_owL, ↓u_stuck, ↓u_next, ↓u_brk, ↓u_cnt, ↓u_retN, ↓u_ifs, u_fz, u_app, u_appF, u_put, u_putF, u_asgI, wAsgI, u_while, u_ownM, u_ownA, u_ownC, u_ownL, u_appP, u_put2, wOwnL, wAppP, wPut2, u_wput, u_wdm, wLC, wFz, wApp, wAppF, wPut, wPutF, wOwnM, wOwnA, setP, wComp, wYes, wWput, wWdm, capt, bo, blt, dTru_non, dTru_bl, dTru_int, dTru_tup, dTru_lst, dTy_non, dTy_bl, dTy_int, dTy_str, dTy_tup, dTy_lst, isi_ii, isi_ib, isi_tt, isi_bi, isi_bb, isi_ni, isi_nb, isi_nt, isi_ns, isi_nl, isi_si, isi_sb, isi_st, isi_ss, isi_sl, isi_ti, isi_tb, isi_ts, isi_tl, isi_li, isi_lb, isi_lt, isi_ls, isi_ll, isi_it, isi_is, isi_il, isi_bt, isi_bs, isi_bl, binds, bindss, setS, setB, getS, entry, strE, frzE, slS, slF, wipeE, dEq_int, dNe_int, DL.isNon, bRepr, permD, o_dAdd0, o_dAdd1, o_dAdd2, o_dAdd3, o_dSub0, o_dMul0, o_dMul1, o_dMul2, o_dFdiv0, o_dMod0, o_dPow0, o_dShl0, o_dShr0, o_dAnd0, o_dOr0, o_dXor0, o_dLt0, o_dLe0, o_dGt0, o_dGe0, o_dIs0, o_dIsNot0, o_dIs1, o_dIsNot1, o_bLen0, o_bLen1, o_bLen2, o_bLen3, o_bTuple0, o_bTuple1, o_bList0, o_bList1, o_bAbs0, o_bMax20, o_bMin20, o_bInt0, o_bInt1, o_bBool0, o_bBool1, o_bBool2, o_bDivmod0, o_bGcd0, o_bStr0, o_bAll0, o_bAny0, o_bSum0, o_bSum1, o_bSort0, o_bSort1, o_bMax10, o_bMax11, o_bMin10, o_bMin11, o_bRepr0, o_dIx0, o_dIx1, o_dIx2, o_dIx3, o_dIx4, o_iEn0, o_iEn1, o_iZp0, o_iZp1, o_iR30, o_iR10, o_iR20, o_dRev0, o_dRev1, o_rg1, o_rg2, o_rg3, o_rg4, o_dLs0, o_dLs1, o_dSl0, o_dSl1, o_dSl2, o_dSl3, o_dNeg, o_dEqs, o_dNes, List.map_cons, List.map_nil, List.length_cons, List.length_nil, List.foldl_cons, List.foldl_nil, List.getElem?_cons_zero, List.getElem?_cons_succ, List.getElem?_nil, List.set_cons_zero, List.set_cons_succ, List.replicate, List.append_nil, List.nil_append, List.cons_append, Option.join_some, Option.join_none, Option.bind_some, id_eq, Nat.sub_self, Nat.add_sub_cancel, Nat.reduceAdd, Nat.reduceSub, Option.getD_some, List.getD_cons_zero, List.getD_cons_succ, List.getD_nil, Bool.not_true, Bool.not_false, Bool.false_eq_true, true_and, and_true, Bool.true_and, Bool.and_true, reduceCtorEq, if_false, if_true, decide_true, decide_false, Nat.zero_add, Nat.le_refl, d_is_full_turn, N_is_full_turn, sg_check_order, Sp_check_order, sg_is_full_in, Sp_is_full_in])
    obtain ⟨ns, rfl, ho, hc, h⟩ := h
    exact ⟨ns, rfl, ho, hc, ns, rfl, ho, hc, h⟩
  · exact h.elim
theorem b_is_double_turn : ∀ ds E Q, ds.length = F_is_double_turn.ps.length → Sg 14 ds E Q → bodyW Sg S_is_double_turn.N d_is_double_turn ds E Q := by
  intro ds E Q hlen h
  clear hlen
  change Sp_is_double_turn ds E Q at h
  unfold Sp_is_double_turn at h
  unfold SpO at h
  split at h
  · rename_i c xs
    (show bodyW Sg N_is_double_turn d_is_double_turn [.int c, .tup xs] E Q; simp only [bodyW, Hd_cons, ↓e_stuck, ↓e_var, ↓e_non, ↓e_bl, ↓e_int, ↓e_str, ↓e_kt, ↓e_bin, ↓e_chain, ↓e_and, ↓e_or, ↓e_not, ↓e_neg, ↓e_ite, ↓e_tup, ↓e_lst, ↓e_call, ↓e_callP, ↓e_callQ, ↓e_callV, ↓e_callL, ↓e_callK, ↓e_blt, ↓e_isi, ↓e_ix, ↓e_rev, ↓e_lenset, ↓e_rgv, ↓e_sl, ↓e_part0, ↓e_part1, ↓e_comp, ↓e_comp2, wComp2, ↓e_nil, ↓e_cons, ↓e_star, ↓t_yes, ↓t_val, ↓t_not, ↓t_and, ↓t_or, ↓i_items, ↓i_rng1, ↓i_rng2, ↓i_rng3, ↓i_enum, ↓i_zip, ↓s_seq, ↓s_ret, ↓s_exp, ↓s_asg, ↓s_asgF, ↓s_own, ↓s_par, ↓s_retW, ↓s_for, ↓s_forR, ↓p_nil, ↓p_im, ↓p_ow, ↓p_owM, ↓p_owL, ↓u_stuck, ↓u_next, ↓u_brk, ↓u_cnt, ↓u_retN, ↓u_ifs, u_fz, u_app, u_appF, u_put, u_putF, u_asgI, wAsgI, u_while, u_ownM, u_ownA, u_ownC, u_ownL, u_appP, u_put2, wOwnL, wAppP, wPut2, u_wput, u_wdm, wLC, wFz, wApp, wAppF, wPut, wPutF, wOwnM, wOwnA, setP, wComp, wYes, wWput, wWdm, capt, bo, blt, dTru_non, dTru_bl, dTru_int, dTru_tup, dTru_lst, dTy_non, dTy_bl, dTy_int, dTy_str, dTy_tup, dTy_lst, isi_ii, isi_ib, isi_tt, isi_bi, isi_bb, isi_ni, isi_nb, isi_nt, isi_ns, isi_nl, isi_si, isi_sb, isi_st, isi_ss, isi_sl, isi_ti, isi_tb, isi_ts, isi_tl, isi_li, isi_lb, isi_lt, isi_ls, isi_ll, isi_it, isi_is, isi_il, isi_bt, isi_bs, isi_bl, binds, bindss, setS, setB, getS, entry, strE, frzE, slS, slF, wipeE, dEq_int, dNe_int, DL.isNon, bRepr, permD, o_dAdd0, o_dAdd1, o_dAdd2, o_dAdd3, o_dSub0, o_dMul0, o_dMul1, o_dMul2, o_dFdiv0, o_dMod0, o_dPow0, o_dShl0, o_dShr0, o_dAnd0, o_dOr0, o_dXor0, o_dLt0, o_dLe0, o_dGt0, o_dGe0, o_dIs0, o_dIsNot0, o_dIs1, o_dIsNot1, o_bLen0, o_bLen1, o_bLen2, o_bLen3, o_bTuple0, o_bTuple1, o_bList0, o_bList1, o_bAbs0, o_bMax20, o_bMin20, o_bInt0, o_bInt1, o_bBool0, o_bBool1, o_bBool2, o_bDivmod0, o_bGcd0, o_bStr0, o_bAll0, o_bAny0, o_bSum0, o_bSum1, o_bSort0, o_bSort1, o_bMax10, o_bMax11, o_bMin10, o_bMin11, o_bRepr0, o_dIx0, o_dIx1, o_dIx2, o_dIx3, o_dIx4, o_iEn0, o_iEn1, o_iZp0, o_iZp1, o_iR30, o_iR10, o_iR20, o_dRev0, o_dRev1, o_rg1, o_rg2, o_rg3, o_rg4, o_dLs0, o_dLs1, o_dSl0, o_dSl1, o_dSl2, o_dSl3, o_dNeg, o_dEqs, o_dNes, List.map_cons, List.map_nil, List.length_cons, List.length_nil, List.foldl_cons, List.foldl_nil, List.getElem?_cons_zero, List.getElem?_cons_succ, List.getElem?_nil, List.set_cons_zero, List.set_cons_succ, List.replicate, List.append_nil, List.nil_append, List.cons_append, Option.join_some, Option.join_none, Option.bind_some, id_eq, Nat.sub_self, Nat.add_sub_cancel, Nat.reduceAdd, Nat.reduceSub, Option.getD_some, List.getD_cons_zero, List.getD_cons_succ, List.getD_nil, Bool.not_true, Bool.not_false, Bool.false_eq_true, true_and, and_true, Bool.true_and, Bool.and_true, reduceCtorEq, if_false, if_true, decide_true, decide_false, Nat.zero_add, Nat.le_refl, d_is_double_turn, N_is_double_turn, sg_check_order, Sp_check_order, sg_is_double_in, Sp_is_double_in])
    obtain ⟨ns, rfl, ho, hc, h⟩ := h
    exact ⟨ns, rfl, ho, hc, ns, rfl, ho, hc, h⟩
  · exact h.elim
theorem b__law_divisor : ∀ ds E Q, ds.length = F__law_divisor.ps.length → Sg 19 ds E Q → bodyW Sg S__law_divisor.N d__law_divisor ds E Q := by
  intro ds E Q hlen h
  clear hlen
  change Sp__law_divisor ds E Q at h
  unfold Sp__law_divisor at h
  split at h
  · rename_i a b
    (show bodyW Sg N__law_divisor d__law_divisor [.int a, .int b] E Q; simp only [bodyW, Hd_cons, ↓e_stuck, ↓e_var, ↓e_non, ↓e_bl, ↓e_int, ↓e_str, ↓e_kt, ↓e_bin, ↓e_chain, ↓e_and, ↓e_or, ↓e_not, ↓e_neg, ↓e_ite, ↓e_tup, ↓e_lst, ↓e_call, ↓e_callP, ↓e_callQ, ↓e_callV, ↓e_callL, ↓e_callK, ↓e_blt, ↓e_isi, ↓e_ix, ↓e_rev, ↓e_lenset, ↓e_rgv, ↓e_sl, ↓e_part0, ↓e_part1, ↓e_comp, ↓e_comp2, wComp2, ↓e_nil, ↓e_cons, ↓e_star, ↓t_yes, ↓t_val, ↓t_not, ↓t_and, ↓t_or, ↓i_items, ↓i_rng1, ↓i_rng2, ↓i_rng3, ↓i_enum, ↓i_zip, ↓s_seq, ↓s_ret, ↓s_exp, ↓s_asg, ↓s_asgF, ↓s_own, ↓s_par, ↓s_retW, ↓s_for, ↓s_forR, ↓p_nil, ↓p_im, ↓p_ow, ↓p_owM, ↓p_owL, ↓u_stuck, ↓u_next, ↓u_brk, ↓u_cnt, ↓u_retN, ↓u_ifs, u_fz, u_app, u_appF, u_put, u_putF, u_asgI, wAsgI, u_while, u_ownM, u_ownA, u_ownC, u_ownL, u_appP, u_put2, wOwnL, wAppP, wPut2, u_wput, u_wdm, wLC, wFz, wApp, wAppF, wPut, wPutF, wOwnM, wOwnA, setP, wComp, wYes, wWput, wWdm, capt, bo, blt, dTru_non, dTru_bl, dTru_int, dTru_tup, dTru_lst, dTy_non, dTy_bl, dTy_int, dTy_str, dTy_tup, dTy_lst, isi_ii, isi_ib, isi_tt, isi_bi, isi_bb, isi_ni, isi_nb, isi_nt, isi_ns, isi_nl, isi_si, isi_sb, isi_st, isi_ss, isi_sl, isi_ti, isi_tb, isi_ts, isi_tl, isi_li, isi_lb, isi_lt, isi_ls, isi_ll, isi_it, isi_is, isi_il, isi_bt, isi_bs, isi_bl, binds, bindss, setS, setB, getS, entry, strE, frzE, slS, slF, wipeE, dEq_int, dNe_int, DL.isNon, bRepr, permD, o_dAdd0, o_dAdd1, o_dAdd2, o_dAdd3, o_dSub0, o_dMul0, o_dMul1, o_dMul2, o_dFdiv0, o_dMod0, o_dPow0, o_dShl0, o_dShr0, o_dAnd0, o_dOr0, o_dXor0, o_dLt0, o_dLe0, o_dGt0, o_dGe0, o_dIs0, o_dIsNot0, o_dIs1, o_dIsNot1, o_bLen0, o_bLen1, o_bLen2, o_bLen3, o_bTuple0, o_bTuple1, o_bList0, o_bList1, o_bAbs0, o_bMax20, o_bMin20, o_bInt0, o_bInt1, o_bBool0, o_bBool1, o_bBool2, o_bDivmod0, o_bGcd0, o_bStr0, o_bAll0, o_bAny0, o_bSum0, o_bSum1, o_bSort0, o_bSort1, o_bMax10, o_bMax11, o_bMin10, o_bMin11, o_bRepr0, o_dIx0, o_dIx1, o_dIx2, o_dIx3, o_dIx4, o_iEn0, o_iEn1, o_iZp0, o_iZp1, o_iR30, o_iR10, o_iR20, o_dRev0, o_dRev1, o_rg1, o_rg2, o_rg3, o_rg4, o_dLs0, o_dLs1, o_dSl0, o_dSl1, o_dSl2, o_dSl3, o_dNeg, o_dEqs, o_dNes, List.map_cons, List.map_nil, List.length_cons, List.length_nil, List.foldl_cons, List.foldl_nil, List.getElem?_cons_zero, List.getElem?_cons_succ, List.getElem?_nil, List.set_cons_zero, List.set_cons_succ, List.replicate, List.append_nil, List.nil_append, List.cons_append, Option.join_some, Option.join_none, Option.bind_some, id_eq, Nat.sub_self, Nat.add_sub_cancel, Nat.reduceAdd, Nat.reduceSub, Option.getD_some, List.getD_cons_zero, List.getD_cons_succ, List.getD_nil, Bool.not_true, Bool.not_false, Bool.false_eq_true, true_and, and_true, Bool.true_and, Bool.and_true, reduceCtorEq, if_false, if_true, decide_true, decide_false, Nat.zero_add, Nat.le_refl, d__law_divisor, N__law_divisor])
    obtain ⟨⟨⟨h1, h2⟩, h3, h4⟩, h⟩ := h
    obtain ⟨a, rfl⟩ := Int.eq_ofNat_of_zero_le h1
    obtain ⟨b, rfl⟩ := Int.eq_ofNat_of_zero_le h3
    have h : Q (.int ((Nat.gcd a b : Nat) : Int)) := h
    refine ⟨gs a b + 1, wh_go (fun n ρ => ∃ a' b' : Nat, (a' < 1073741824 ∧ b' < 1073741824) ∧ gs a' b' = n ∧ Nat.gcd a' b' = Nat.gcd a b ∧ ρ = [.im (.int (a' : Int)), .im (.int (b' : Int))]) (fun n ρ hI M F hM => ?_) (fun ρ hI T => ?_) ⟨a, b, ⟨by omega, by omega⟩, rfl, rfl, rfl⟩⟩
    · obtain ⟨a', b', ⟨l1, l2⟩, hg, hd, rfl⟩ := hI
      obtain ⟨g1, g2⟩ := gs_succ hg
      simp only [bodyW, Hd_cons, ↓e_stuck, ↓e_var, ↓e_non, ↓e_bl, ↓e_int, ↓e_str, ↓e_kt, ↓e_bin, ↓e_chain, ↓e_and, ↓e_or, ↓e_not, ↓e_neg, ↓e_ite, ↓e_tup, ↓e_lst, ↓e_call, ↓e_callP, ↓e_callQ, ↓e_callV, ↓e_callL, ↓e_callK, ↓e_blt, ↓e_isi, ↓e_ix, ↓e_rev, ↓e_lenset, ↓e_rgv, ↓e_sl, ↓e_part0, ↓e_part1, ↓e_comp, ↓e_comp2, wComp2, ↓e_nil, ↓e_cons, ↓e_star, ↓t_yes, ↓t_val, ↓t_not, ↓t_and, ↓t_or, ↓i_items, ↓i_rng1, ↓i_rng2, ↓i_rng3, ↓i_enum, ↓i_zip, ↓s_seq, ↓s_ret, ↓s_exp, ↓s_asg, ↓s_asgF, ↓s_own, ↓s_par, ↓s_retW, ↓s_for, ↓s_forR, ↓p_nil, ↓p_im, ↓p_ow, ↓p_owM, ↓p_owL, ↓u_stuck, ↓u_next, ↓u_brk, ↓u_cnt, ↓u_retN, ↓u_ifs, u_fz, u_app, u_appF, u_put, u_putF, u_asgI, wAsgI, u_while, u_ownM, u_ownA, u_ownC, u_ownL, u_appP, u_put2, wOwnL, wAppP, wPut2, u_wput, u_wdm, wLC, wFz, wApp, wAppF, wPut, wPutF, wOwnM, wOwnA, setP, wComp, wYes, wWput, wWdm, capt, bo, blt, dTru_non, dTru_bl, dTru_int, dTru_tup, dTru_lst, dTy_non, dTy_bl, dTy_int, dTy_str, dTy_tup, dTy_lst, isi_ii, isi_ib, isi_tt, isi_bi, isi_bb, isi_ni, isi_nb, isi_nt, isi_ns, isi_nl, isi_si, isi_sb, isi_st, isi_ss, isi_sl, isi_ti, isi_tb, isi_ts, isi_tl, isi_li, isi_lb, isi_lt, isi_ls, isi_ll, isi_it, isi_is, isi_il, isi_bt, isi_bs, isi_bl, binds, bindss, setS, setB, getS, entry, strE, frzE, slS, slF, wipeE, dEq_int, dNe_int, DL.isNon, bRepr, permD, o_dAdd0, o_dAdd1, o_dAdd2, o_dAdd3, o_dSub0, o_dMul0, o_dMul1, o_dMul2, o_dFdiv0, o_dMod0, o_dPow0, o_dShl0, o_dShr0, o_dAnd0, o_dOr0, o_dXor0, o_dLt0, o_dLe0, o_dGt0, o_dGe0, o_dIs0, o_dIsNot0, o_dIs1, o_dIsNot1, o_bLen0, o_bLen1, o_bLen2, o_bLen3, o_bTuple0, o_bTuple1, o_bList0, o_bList1, o_bAbs0, o_bMax20, o_bMin20, o_bInt0, o_bInt1, o_bBool0, o_bBool1, o_bBool2, o_bDivmod0, o_bGcd0, o_bStr0, o_bAll0, o_bAny0, o_bSum0, o_bSum1, o_bSort0, o_bSort1, o_bMax10, o_bMax11, o_bMin10, o_bMin11, o_bRepr0, o_dIx0, o_dIx1, o_dIx2, o_dIx3, o_dIx4, o_iEn0, o_iEn1, o_iZp0, o_iZp1, o_iR30, o_iR10, o_iR20, o_dRev0, o_dRev1, o_rg1, o_rg2, o_rg3, o_rg4, o_dLs0, o_dLs1, o_dSl0, o_dSl1, o_dSl2, o_dSl3, o_dNeg, o_dEqs, o_dNes, List.map_cons, List.map_nil, List.length_cons, List.length_nil, List.foldl_cons, List.foldl_nil, List.getElem?_cons_zero, List.getElem?_cons_succ, List.getElem?_nil, List.set_cons_zero, List.set_cons_succ, List.replicate, List.append_nil, List.nil_append, List.cons_append, Option.join_some, Option.join_none, Option.bind_some, id_eq, Nat.sub_self, Nat.add_sub_cancel, Nat.reduceAdd, Nat.reduceSub, Option.getD_some, List.getD_cons_zero, List.getD_cons_succ, List.getD_nil, Bool.not_true, Bool.not_false, Bool.false_eq_true, true_and, and_true, Bool.true_and, Bool.and_true, reduceCtorEq, if_false, if_true, decide_true, decide_false, Nat.zero_add, Nat.le_refl]
      rw [decide_eq_true (show (0 : Int) < (b' : Int) from by omega)]
      simp only [bodyW, Hd_cons, ↓e_stuck, ↓e_var, ↓e_non, ↓e_bl, ↓e_int, ↓e_str, ↓e_kt, ↓e_bin, ↓e_chain, ↓e_and, ↓e_or, ↓e_not, ↓e_neg, ↓e_ite, ↓e_tup, ↓e_lst, ↓e_call, ↓e_callP, ↓e_callQ, ↓e_callV, ↓e_callL, ↓e_callK, ↓e_blt, ↓e_isi, ↓e_ix, ↓e_rev, ↓e_lenset, ↓e_rgv, ↓e_sl, ↓e_part0, ↓e_part1, ↓e_comp, ↓e_comp2, wComp2, ↓e_nil, ↓e_cons, ↓e_star, ↓t_yes, ↓t_val, ↓t_not, ↓t_and, ↓t_or, ↓i_items, ↓i_rng1, ↓i_rng2, ↓i_rng3, ↓i_enum, ↓i_zip, ↓s_seq, ↓s_ret, ↓s_exp, ↓s_asg, ↓s_asgF, ↓s_own, ↓s_par, ↓s_retW, ↓s_for, ↓s_forR, ↓p_nil, ↓p_im, ↓p_ow, ↓p_owM, ↓p_owL, ↓u_stuck, ↓u_next, ↓u_brk, ↓u_cnt, ↓u_retN, ↓u_ifs, u_fz, u_app, u_appF, u_put, u_putF, u_asgI, wAsgI, u_while, u_ownM, u_ownA, u_ownC, u_ownL, u_appP, u_put2, wOwnL, wAppP, wPut2, u_wput, u_wdm, wLC, wFz, wApp, wAppF, wPut, wPutF, wOwnM, wOwnA, setP, wComp, wYes, wWput, wWdm, capt, bo, blt, dTru_non, dTru_bl, dTru_int, dTru_tup, dTru_lst, dTy_non, dTy_bl, dTy_int, dTy_str, dTy_tup, dTy_lst, isi_ii, isi_ib, isi_tt, isi_bi, isi_bb, isi_ni, isi_nb, isi_nt, isi_ns, isi_nl, isi_si, isi_sb, isi_st, isi_ss, isi_sl, isi_ti, isi_tb, isi_ts, isi_tl, isi_li, isi_lb, isi_lt, isi_ls, isi_ll, isi_it, isi_is, isi_il, isi_bt, isi_bs, isi_bl, binds, bindss, setS, setB, getS, entry, strE, frzE, slS, slF, wipeE, dEq_int, dNe_int, DL.isNon, bRepr, permD, o_dAdd0, o_dAdd1, o_dAdd2, o_dAdd3, o_dSub0, o_dMul0, o_dMul1, o_dMul2, o_dFdiv0, o_dMod0, o_dPow0, o_dShl0, o_dShr0, o_dAnd0, o_dOr0, o_dXor0, o_dLt0, o_dLe0, o_dGt0, o_dGe0, o_dIs0, o_dIsNot0, o_dIs1, o_dIsNot1, o_bLen0, o_bLen1, o_bLen2, o_bLen3, o_bTuple0, o_bTuple1, o_bList0, o_bList1, o_bAbs0, o_bMax20, o_bMin20, o_bInt0, o_bInt1, o_bBool0, o_bBool1, o_bBool2, o_bDivmod0, o_bGcd0, o_bStr0, o_bAll0, o_bAny0, o_bSum0, o_bSum1, o_bSort0, o_bSort1, o_bMax10, o_bMax11, o_bMin10, o_bMin11, o_bRepr0, o_dIx0, o_dIx1, o_dIx2, o_dIx3, o_dIx4, o_iEn0, o_iEn1, o_iZp0, o_iZp1, o_iR30, o_iR10, o_iR20, o_dRev0, o_dRev1, o_rg1, o_rg2, o_rg3, o_rg4, o_dLs0, o_dLs1, o_dSl0, o_dSl1, o_dSl2, o_dSl3, o_dNeg, o_dEqs, o_dNes, List.map_cons, List.map_nil, List.length_cons, List.length_nil, List.foldl_cons, List.foldl_nil, List.getElem?_cons_zero, List.getElem?_cons_succ, List.getElem?_nil, List.set_cons_zero, List.set_cons_succ, List.replicate, List.append_nil, List.nil_append, List.cons_append, Option.join_some, Option.join_none, Option.bind_some, id_eq, Nat.sub_self, Nat.add_sub_cancel, Nat.reduceAdd, Nat.reduceSub, Option.getD_some, List.getD_cons_zero, List.getD_cons_succ, List.getD_nil, Bool.not_true, Bool.not_false, Bool.false_eq_true, true_and, and_true, Bool.true_and, Bool.and_true, reduceCtorEq, if_false, if_true, decide_true, decide_false, Nat.zero_add, Nat.le_refl]
      refine ⟨by omega, ?_⟩
      have hm : a' % b' < b' := Nat.mod_lt _ g1
      exact hM _ ⟨b', a' % b', ⟨l2, by omega⟩, g2, by rw [← hd, Nat.gcd_comm b', ← Nat.gcd_rec, Nat.gcd_comm], by rw [Int.natCast_emod]⟩
    · obtain ⟨a', b', ⟨l1, l2⟩, hg, hd, rfl⟩ := hI
      have := gs_zero hg
      subst this
      rw [Nat.gcd_zero_right] at hd
      simp only [bodyW, Hd_cons, ↓e_stuck, ↓e_var, ↓e_non, ↓e_bl, ↓e_int, ↓e_str, ↓e_kt, ↓e_bin, ↓e_chain, ↓e_and, ↓e_or, ↓e_not, ↓e_neg, ↓e_ite, ↓e_tup, ↓e_lst, ↓e_call, ↓e_callP, ↓e_callQ, ↓e_callV, ↓e_callL, ↓e_callK, ↓e_blt, ↓e_isi, ↓e_ix, ↓e_rev, ↓e_lenset, ↓e_rgv, ↓e_sl, ↓e_part0, ↓e_part1, ↓e_comp, ↓e_comp2, wComp2, ↓e_nil, ↓e_cons, ↓e_star, ↓t_yes, ↓t_val, ↓t_not, ↓t_and, ↓t_or, ↓i_items, ↓i_rng1, ↓i_rng2, ↓i_rng3, ↓i_enum, ↓i_zip, ↓s_seq, ↓s_ret, ↓s_exp, ↓s_asg, ↓s_asgF, ↓s_own, ↓s_par, ↓s_retW, ↓s_for, ↓s_forR, ↓p_nil, ↓p_im, ↓p_ow, ↓p_owM, ↓p_owL, ↓u_stuck, ↓u_next, ↓u_brk, ↓u_cnt, ↓u_retN, ↓u_ifs, u_fz, u_app, u_appF, u_put, u_putF, u_asgI, wAsgI, u_while, u_ownM, u_ownA, u_ownC, u_ownL, u_appP, u_put2, wOwnL, wAppP, wPut2, u_wput, u_wdm, wLC, wFz, wApp, wAppF, wPut, wPutF, wOwnM, wOwnA, setP, wComp, wYes, wWput, wWdm, capt, bo, blt, dTru_non, dTru_bl, dTru_int, dTru_tup, dTru_lst, dTy_non, dTy_bl, dTy_int, dTy_str, dTy_tup, dTy_lst, isi_ii, isi_ib, isi_tt, isi_bi, isi_bb, isi_ni, isi_nb, isi_nt, isi_ns, isi_nl, isi_si, isi_sb, isi_st, isi_ss, isi_sl, isi_ti, isi_tb, isi_ts, isi_tl, isi_li, isi_lb, isi_lt, isi_ls, isi_ll, isi_it, isi_is, isi_il, isi_bt, isi_bs, isi_bl, binds, bindss, setS, setB, getS, entry, strE, frzE, slS, slF, wipeE, dEq_int, dNe_int, DL.isNon, bRepr, permD, o_dAdd0, o_dAdd1, o_dAdd2, o_dAdd3, o_dSub0, o_dMul0, o_dMul1, o_dMul2, o_dFdiv0, o_dMod0, o_dPow0, o_dShl0, o_dShr0, o_dAnd0, o_dOr0, o_dXor0, o_dLt0, o_dLe0, o_dGt0, o_dGe0, o_dIs0, o_dIsNot0, o_dIs1, o_dIsNot1, o_bLen0, o_bLen1, o_bLen2, o_bLen3, o_bTuple0, o_bTuple1, o_bList0, o_bList1, o_bAbs0, o_bMax20, o_bMin20, o_bInt0, o_bInt1, o_bBool0, o_bBool1, o_bBool2, o_bDivmod0, o_bGcd0, o_bStr0, o_bAll0, o_bAny0, o_bSum0, o_bSum1, o_bSort0, o_bSort1, o_bMax10, o_bMax11, o_bMin10, o_bMin11, o_bRepr0, o_dIx0, o_dIx1, o_dIx2, o_dIx3, o_dIx4, o_iEn0, o_iEn1, o_iZp0, o_iZp1, o_iR30, o_iR10, o_iR20, o_dRev0, o_dRev1, o_rg1, o_rg2, o_rg3, o_rg4, o_dLs0, o_dLs1, o_dSl0, o_dSl1, o_dSl2, o_dSl3, o_dNeg, o_dEqs, o_dNes, List.map_cons, List.map_nil, List.length_cons, List.length_nil, List.foldl_cons, List.foldl_nil, List.getElem?_cons_zero, List.getElem?_cons_succ, List.getElem?_nil, List.set_cons_zero, List.set_cons_succ, List.replicate, List.append_nil, List.nil_append, List.cons_append, Option.join_some, Option.join_none, Option.bind_some, id_eq, Nat.sub_self, Nat.add_sub_cancel, Nat.reduceAdd, Nat.reduceSub, Option.getD_some, List.getD_cons_zero, List.getD_cons_succ, List.getD_nil, Bool.not_true, Bool.not_false, Bool.false_eq_true, true_and, and_true, Bool.true_and, Bool.and_true, reduceCtorEq, if_false, if_true, decide_true, decide_false, Nat.zero_add, Nat.le_refl]
      rw [hd]
      exact h
  · exact h.elim
theorem b__law_right : ∀ ds E Q, ds.length = F__law_right.ps.length → Sg 20 ds E Q → bodyW Sg S__law_right.N d__law_right ds E Q := by
  intro ds E Q hlen h
  clear hlen
  change Sp__law_right ds E Q at h
  unfold Sp__law_right at h
  split at h
  · rename_i p
    (show bodyW Sg N__law_right d__law_right [.obj p] E Q; simp only [bodyW, Hd_cons, ↓e_stuck, ↓e_var, ↓e_non, ↓e_bl, ↓e_int, ↓e_str, ↓e_kt, ↓e_bin, ↓e_chain, ↓e_and, ↓e_or, ↓e_not, ↓e_neg, ↓e_ite, ↓e_tup, ↓e_lst, ↓e_call, ↓e_callP, ↓e_callQ, ↓e_callV, ↓e_callL, ↓e_callK, ↓e_blt, ↓e_isi, ↓e_ix, ↓e_rev, ↓e_lenset, ↓e_rgv, ↓e_sl, ↓e_part0, ↓e_part1, ↓e_comp, ↓e_comp2, wComp2, ↓e_nil, ↓e_cons, ↓e_star, ↓t_yes, ↓t_val, ↓t_not, ↓t_and, ↓t_or, ↓i_items, ↓i_rng1, ↓i_rng2, ↓i_rng3, ↓i_enum, ↓i_zip, ↓s_seq, ↓s_ret, ↓s_exp, ↓s_asg, ↓s_asgF, ↓s_own, ↓s_par, ↓s_retW, ↓s_for, ↓s_forR, ↓p_nil, ↓p_im, ↓p_ow, ↓p_owM, ↓p_owL, ↓u_stuck, ↓u_next, ↓u_brk, ↓u_cnt, ↓u_retN, ↓u_ifs, u_fz, u_app, u_appF, u_put, u_putF, u_asgI, wAsgI, u_while, u_ownM, u_ownA, u_ownC, u_ownL, u_appP, u_put2, wOwnL, wAppP, wPut2, u_wput, u_wdm, wLC, wFz, wApp, wAppF, wPut, wPutF, wOwnM, wOwnA, setP, wComp, wYes, wWput, wWdm, capt, bo, blt, dTru_non, dTru_bl, dTru_int, dTru_tup, dTru_lst, dTy_non, dTy_bl, dTy_int, dTy_str, dTy_tup, dTy_lst, isi_ii, isi_ib, isi_tt, isi_bi, isi_bb, isi_ni, isi_nb, isi_nt, isi_ns, isi_nl, isi_si, isi_sb, isi_st, isi_ss, isi_sl, isi_ti, isi_tb, isi_ts, isi_tl, isi_li, isi_lb, isi_lt, isi_ls, isi_ll, isi_it, isi_is, isi_il, isi_bt, isi_bs, isi_bl, binds, bindss, setS, setB, getS, entry, strE, frzE, slS, slF, wipeE, dEq_int, dNe_int, DL.isNon, bRepr, permD, o_dAdd0, o_dAdd1, o_dAdd2, o_dAdd3, o_dSub0, o_dMul0, o_dMul1, o_dMul2, o_dFdiv0, o_dMod0, o_dPow0, o_dShl0, o_dShr0, o_dAnd0, o_dOr0, o_dXor0, o_dLt0, o_dLe0, o_dGt0, o_dGe0, o_dIs0, o_dIsNot0, o_dIs1, o_dIsNot1, o_bLen0, o_bLen1, o_bLen2, o_bLen3, o_bTuple0, o_bTuple1, o_bList0, o_bList1, o_bAbs0, o_bMax20, o_bMin20, o_bInt0, o_bInt1, o_bBool0, o_bBool1, o_bBool2, o_bDivmod0, o_bGcd0, o_bStr0, o_bAll0, o_bAny0, o_bSum0, o_bSum1, o_bSort0, o_bSort1, o_bMax10, o_bMax11, o_bMin10, o_bMin11, o_bRepr0, o_dIx0, o_dIx1, o_dIx2, o_dIx3, o_dIx4, o_iEn0, o_iEn1, o_iZp0, o_iZp1, o_iR30, o_iR10, o_iR20, o_dRev0, o_dRev1, o_rg1, o_rg2, o_rg3, o_rg4, o_dLs0, o_dLs1, o_dSl0, o_dSl1, o_dSl2, o_dSl3, o_dNeg, o_dEqs, o_dNes, List.map_cons, List.map_nil, List.length_cons, List.length_nil, List.foldl_cons, List.foldl_nil, List.getElem?_cons_zero, List.getElem?_cons_succ, List.getElem?_nil, List.set_cons_zero, List.set_cons_succ, List.replicate, List.append_nil, List.nil_append, List.cons_append, Option.join_some, Option.join_none, Option.bind_some, id_eq, Nat.sub_self, Nat.add_sub_cancel, Nat.reduceAdd, Nat.reduceSub, Option.getD_some, List.getD_cons_zero, List.getD_cons_succ, List.getD_nil, Bool.not_true, Bool.not_false, Bool.false_eq_true, true_and, and_true, Bool.true_and, Bool.and_true, reduceCtorEq, if_false, if_true, decide_true, decide_false, Nat.zero_add, Nat.le_refl, d__law_right, N__law_right, sg__law_deal, Sp__law_deal, sg__law_divisor, Sp__law_divisor, sg__law_any, Sp__law_any, sg__law_shuffled, Sp__law_shuffled, sg_is_full_turn, Sp_is_full_turn, sg_is_double_turn, Sp_is_double_turn])
    refine ⟨by decide, ?_⟩
    refine forL_inv (n := 0) (fun j ρ => ∃ s1 s2 s3 s4 s5 s6 s7 s8 s9 s10 s11 s12 s13 s14 s15 s16 : Sl, ρ = [.im (.obj p), s1, s2, s3, s4, s5, s6, s7, s8, s9, s10, s11, s12, s13, s14, s15, s16]) ⟨_, _, _, _, _, _, _, _, _, _, _, _, _, _, _, _, rfl⟩ (fun j d hj ρ hI M hM => ?_) (fun ρ hI => ?_)
    · obtain ⟨s1, s2, s3, s4, s5, s6, s7, s8, s9, s10, s11, s12, s13, s14, s15, s16, rfl⟩ := hI
      obtain ⟨hjl, rfl⟩ := rng_get hj
      refine ⟨_, rfl, ?_⟩
      simp only [bodyW, ↓e_stuck, ↓e_var, ↓e_non, ↓e_bl, ↓e_int, ↓e_str, ↓e_kt, ↓e_bin, ↓e_chain, ↓e_and, ↓e_or, ↓e_not, ↓e_neg, ↓e_ite, ↓e_tup, ↓e_lst, ↓e_call, ↓e_callP, ↓e_callQ, ↓e_callV, ↓e_callL, ↓e_callK, ↓e_blt, ↓e_isi, ↓e_ix, ↓e_rev, ↓e_lenset, ↓e_rgv, ↓e_sl, ↓e_part0, ↓e_part1, ↓e_comp, ↓e_comp2, wComp2, ↓e_nil, ↓e_cons, ↓e_star, ↓t_yes, ↓t_val, ↓t_not, ↓t_and, ↓t_or, ↓i_items, ↓i_rng1, ↓i_rng2, ↓i_rng3, ↓i_enum, ↓i_zip, ↓s_seq, ↓s_ret, ↓s_exp, ↓s_asg, ↓s_asgF, ↓s_own, ↓s_par, ↓s_retW, ↓s_for, ↓s_forR, ↓p_nil, ↓p_im, ↓p_ow, ↓p_owM, ↓p_owL, ↓u_stuck, ↓u_next, ↓u_brk, ↓u_cnt, ↓u_retN, ↓u_ifs, u_fz, u_app, u_appF, u_put, u_putF, u_asgI, wAsgI, u_while, u_ownM, u_ownA, u_ownC, u_ownL, u_appP, u_put2, wOwnL, wAppP, wPut2, u_wput, u_wdm, wLC, wFz, wApp, wAppF, wPut, wPutF, wOwnM, wOwnA, setP, wComp, wYes, wWput, wWdm, capt, bo, blt, dTru_non, dTru_bl, dTru_int, dTru_tup, dTru_lst, dTy_non, dTy_bl, dTy_int, dTy_str, dTy_tup, dTy_lst, isi_ii, isi_ib, isi_tt, isi_bi, isi_bb, isi_ni, isi_nb, isi_nt, isi_ns, isi_nl, isi_si, isi_sb, isi_st, isi_ss, isi_sl, isi_ti, isi_tb, isi_ts, isi_tl, isi_li, isi_lb, isi_lt, isi_ls, isi_ll, isi_it, isi_is, isi_il, isi_bt, isi_bs, isi_bl, binds, bindss, setS, setB, getS, entry, strE, frzE, slS, slF, wipeE, dEq_int, dNe_int, DL.isNon, bRepr, permD, o_dAdd0, o_dAdd1, o_dAdd2, o_dAdd3, o_dSub0, o_dMul0, o_dMul1, o_dMul2, o_dFdiv0, o_dMod0, o_dPow0, o_dShl0, o_dShr0, o_dAnd0, o_dOr0, o_dXor0, o_dLt0, o_dLe0, o_dGt0, o_dGe0, o_dIs0, o_dIsNot0, o_dIs1, o_dIsNot1, o_bLen0, o_bLen1, o_bLen2, o_bLen3, o_bTuple0, o_bTuple1, o_bList0, o_bList1, o_bAbs0, o_bMax20, o_bMin20, o_bInt0, o_bInt1, o_bBool0, o_bBool1, o_bBool2, o_bDivmod0, o_bGcd0, o_bStr0, o_bAll0, o_bAny0, o_bSum0, o_bSum1, o_bSort0, o_bSort1, o_bMax10, o_bMax11, o_bMin10, o_bMin11, o_bRepr0, o_dIx0, o_dIx1, o_dIx2, o_dIx3, o_dIx4, o_iEn0, o_iEn1, o_iZp0, o_iZp1, o_iR30, o_iR10, o_iR20, o_dRev0, o_dRev1, o_rg1, o_rg2, o_rg3, o_rg4, o_dLs0, o_dLs1, o_dSl0, o_dSl1, o_dSl2, o_dSl3, o_dNeg, o_dEqs, o_dNes, List.map_cons, List.map_nil, List.length_cons, List.length_nil, List.foldl_cons, List.foldl_nil, List.getElem?_cons_zero, List.getElem?_cons_succ, List.getElem?_nil, List.set_cons_zero, List.set_cons_succ, List.replicate, List.append_nil, List.nil_append, List.cons_append, Option.join_some, Option.join_none, Option.bind_some, id_eq, Nat.sub_self, Nat.add_sub_cancel, Nat.reduceAdd, Nat.reduceSub, Option.getD_some, List.getD_cons_zero, List.getD_cons_succ, List.getD_nil, Bool.not_true, Bool.not_false, Bool.false_eq_true, true_and, and_true, Bool.true_and, Bool.and_true, reduceCtorEq, if_false, if_true, decide_true, decide_false, Nat.zero_add, Nat.le_refl, sg__law_deal, Sp__law_deal, sg__law_divisor, Sp__law_divisor, sg__law_any, Sp__law_any, sg__law_shuffled, Sp__law_shuffled, sg_is_full_turn, Sp_is_full_turn, sg_is_double_turn, Sp_is_double_turn]
      refine ⟨by decide, fun z z1 z2 => ?_⟩
      have hc : 2 ≤ 2 + z ∧ 2 + z ≤ 24 := by omega
      generalize 2 + z = c at hc ⊢
      have h0 : 0 < c := by omega
      rw [Hd_cons]
      simp only [bodyW, ↓e_stuck, ↓e_var, ↓e_non, ↓e_bl, ↓e_int, ↓e_str, ↓e_kt, ↓e_bin, ↓e_chain, ↓e_and, ↓e_or, ↓e_not, ↓e_neg, ↓e_ite, ↓e_tup, ↓e_lst, ↓e_call, ↓e_callP, ↓e_callQ, ↓e_callV, ↓e_callL, ↓e_callK, ↓e_blt, ↓e_isi, ↓e_ix, ↓e_rev, ↓e_lenset, ↓e_rgv, ↓e_sl, ↓e_part0, ↓e_part1, ↓e_comp, ↓e_comp2, wComp2, ↓e_nil, ↓e_cons, ↓e_star, ↓t_yes, ↓t_val, ↓t_not, ↓t_and, ↓t_or, ↓i_items, ↓i_rng1, ↓i_rng2, ↓i_rng3, ↓i_enum, ↓i_zip, ↓s_seq, ↓s_ret, ↓s_exp, ↓s_asg, ↓s_asgF, ↓s_own, ↓s_par, ↓s_retW, ↓s_for, ↓s_forR, ↓p_nil, ↓p_im, ↓p_ow, ↓p_owM, ↓p_owL, ↓u_stuck, ↓u_next, ↓u_brk, ↓u_cnt, ↓u_retN, ↓u_ifs, u_fz, u_app, u_appF, u_put, u_putF, u_asgI, wAsgI, u_while, u_ownM, u_ownA, u_ownC, u_ownL, u_appP, u_put2, wOwnL, wAppP, wPut2, u_wput, u_wdm, wLC, wFz, wApp, wAppF, wPut, wPutF, wOwnM, wOwnA, setP, wComp, wYes, wWput, wWdm, capt, bo, blt, dTru_non, dTru_bl, dTru_int, dTru_tup, dTru_lst, dTy_non, dTy_bl, dTy_int, dTy_str, dTy_tup, dTy_lst, isi_ii, isi_ib, isi_tt, isi_bi, isi_bb, isi_ni, isi_nb, isi_nt, isi_ns, isi_nl, isi_si, isi_sb, isi_st, isi_ss, isi_sl, isi_ti, isi_tb, isi_ts, isi_tl, isi_li, isi_lb, isi_lt, isi_ls, isi_ll, isi_it, isi_is, isi_il, isi_bt, isi_bs, isi_bl, binds, bindss, setS, setB, getS, entry, strE, frzE, slS, slF, wipeE, dEq_int, dNe_int, DL.isNon, bRepr, permD, o_dAdd0, o_dAdd1, o_dAdd2, o_dAdd3, o_dSub0, o_dMul0, o_dMul1, o_dMul2, o_dFdiv0, o_dMod0, o_dPow0, o_dShl0, o_dShr0, o_dAnd0, o_dOr0, o_dXor0, o_dLt0, o_dLe0, o_dGt0, o_dGe0, o_dIs0, o_dIsNot0, o_dIs1, o_dIsNot1, o_bLen0, o_bLen1, o_bLen2, o_bLen3, o_bTuple0, o_bTuple1, o_bList0, o_bList1, o_bAbs0, o_bMax20, o_bMin20, o_bInt0, o_bInt1, o_bBool0, o_bBool1, o_bBool2, o_bDivmod0, o_bGcd0, o_bStr0, o_bAll0, o_bAny0, o_bSum0, o_bSum1, o_bSort0, o_bSort1, o_bMax10, o_bMax11, o_bMin10, o_bMin11, o_bRepr0, o_dIx0, o_dIx1, o_dIx2, o_dIx3, o_dIx4, o_iEn0, o_iEn1, o_iZp0, o_iZp1, o_iR30, o_iR10, o_iR20, o_dRev0, o_dRev1, o_rg1, o_rg2, o_rg3, o_rg4, o_dLs0, o_dLs1, o_dSl0, o_dSl1, o_dSl2, o_dSl3, o_dNeg, o_dEqs, o_dNes, List.map_cons, List.map_nil, List.length_cons, List.length_nil, List.foldl_cons, List.foldl_nil, List.getElem?_cons_zero, List.getElem?_cons_succ, List.getElem?_nil, List.set_cons_zero, List.set_cons_succ, List.replicate, List.append_nil, List.nil_append, List.cons_append, Option.join_some, Option.join_none, Option.bind_some, id_eq, Nat.sub_self, Nat.add_sub_cancel, Nat.reduceAdd, Nat.reduceSub, Option.getD_some, List.getD_cons_zero, List.getD_cons_succ, List.getD_nil, Bool.not_true, Bool.not_false, Bool.false_eq_true, true_and, and_true, Bool.true_and, Bool.and_true, reduceCtorEq, if_false, if_true, decide_true, decide_false, Nat.zero_add, Nat.le_refl, sg__law_deal, Sp__law_deal, sg__law_divisor, Sp__law_divisor, sg__law_any, Sp__law_any, sg__law_shuffled, Sp__law_shuffled, sg_is_full_turn, Sp_is_full_turn, sg_is_double_turn, Sp_is_double_turn]
      refine ⟨by omega, ?_⟩
      rw [rng_zr]
      refine turns_Z (fun k => gcdI c k == 1) .int (fun k hk Q' q => ?_) (fun k hk _ Q' q => ?_) (by rw [zr_len]; simp only [List.length_nil, LIM]; omega) ?_
      · rw [mem_zr] at hk
        simp only [bodyW, Hd_cons, ↓e_stuck, ↓e_var, ↓e_non, ↓e_bl, ↓e_int, ↓e_str, ↓e_kt, ↓e_bin, ↓e_chain, ↓e_and, ↓e_or, ↓e_not, ↓e_neg, ↓e_ite, ↓e_tup, ↓e_lst, ↓e_call, ↓e_callP, ↓e_callQ, ↓e_callV, ↓e_callL, ↓e_callK, ↓e_blt, ↓e_isi, ↓e_ix, ↓e_rev, ↓e_lenset, ↓e_rgv, ↓e_sl, ↓e_part0, ↓e_part1, ↓e_comp, ↓e_comp2, wComp2, ↓e_nil, ↓e_cons, ↓e_star, ↓t_yes, ↓t_val, ↓t_not, ↓t_and, ↓t_or, ↓i_items, ↓i_rng1, ↓i_rng2, ↓i_rng3, ↓i_enum, ↓i_zip, ↓s_seq, ↓s_ret, ↓s_exp, ↓s_asg, ↓s_asgF, ↓s_own, ↓s_par, ↓s_retW, ↓s_for, ↓s_forR, ↓p_nil, ↓p_im, ↓p_ow, ↓p_owM, ↓p_owL, ↓u_stuck, ↓u_next, ↓u_brk, ↓u_cnt, ↓u_retN, ↓u_ifs, u_fz, u_app, u_appF, u_put, u_putF, u_asgI, wAsgI, u_while, u_ownM, u_ownA, u_ownC, u_ownL, u_appP, u_put2, wOwnL, wAppP, wPut2, u_wput, u_wdm, wLC, wFz, wApp, wAppF, wPut, wPutF, wOwnM, wOwnA, setP, wComp, wYes, wWput, wWdm, capt, bo, blt, dTru_non, dTru_bl, dTru_int, dTru_tup, dTru_lst, dTy_non, dTy_bl, dTy_int, dTy_str, dTy_tup, dTy_lst, isi_ii, isi_ib, isi_tt, isi_bi, isi_bb, isi_ni, isi_nb, isi_nt, isi_ns, isi_nl, isi_si, isi_sb, isi_st, isi_ss, isi_sl, isi_ti, isi_tb, isi_ts, isi_tl, isi_li, isi_lb, isi_lt, isi_ls, isi_ll, isi_it, isi_is, isi_il, isi_bt, isi_bs, isi_bl, binds, bindss, setS, setB, getS, entry, strE, frzE, slS, slF, wipeE, dEq_int, dNe_int, DL.isNon, bRepr, permD, o_dAdd0, o_dAdd1, o_dAdd2, o_dAdd3, o_dSub0, o_dMul0, o_dMul1, o_dMul2, o_dFdiv0, o_dMod0, o_dPow0, o_dShl0, o_dShr0, o_dAnd0, o_dOr0, o_dXor0, o_dLt0, o_dLe0, o_dGt0, o_dGe0, o_dIs0, o_dIsNot0, o_dIs1, o_dIsNot1, o_bLen0, o_bLen1, o_bLen2, o_bLen3, o_bTuple0, o_bTuple1, o_bList0, o_bList1, o_bAbs0, o_bMax20, o_bMin20, o_bInt0, o_bInt1, o_bBool0, o_bBool1, o_bBool2, o_bDivmod0, o_bGcd0, o_bStr0, o_bAll0, o_bAny0, o_bSum0, o_bSum1, o_bSort0, o_bSort1, o_bMax10, o_bMax11, o_bMin10, o_bMin11, o_bRepr0, o_dIx0, o_dIx1, o_dIx2, o_dIx3, o_dIx4, o_iEn0, o_iEn1, o_iZp0, o_iZp1, o_iR30, o_iR10, o_iR20, o_dRev0, o_dRev1, o_rg1, o_rg2, o_rg3, o_rg4, o_dLs0, o_dLs1, o_dSl0, o_dSl1, o_dSl2, o_dSl3, o_dNeg, o_dEqs, o_dNes, List.map_cons, List.map_nil, List.length_cons, List.length_nil, List.foldl_cons, List.foldl_nil, List.getElem?_cons_zero, List.getElem?_cons_succ, List.getElem?_nil, List.set_cons_zero, List.set_cons_succ, List.replicate, List.append_nil, List.nil_append, List.cons_append, Option.join_some, Option.join_none, Option.bind_some, id_eq, Nat.sub_self, Nat.add_sub_cancel, Nat.reduceAdd, Nat.reduceSub, Option.getD_some, List.getD_cons_zero, List.getD_cons_succ, List.getD_nil, Bool.not_true, Bool.not_false, Bool.false_eq_true, true_and, and_true, Bool.true_and, Bool.and_true, reduceCtorEq, if_false, if_true, decide_true, decide_false, Nat.zero_add, Nat.le_refl, sg__law_deal, Sp__law_deal, sg__law_divisor, Sp__law_divisor, sg__law_any, Sp__law_any, sg__law_shuffled, Sp__law_shuffled, sg_is_full_turn, Sp_is_full_turn, sg_is_double_turn, Sp_is_double_turn]
        exact ⟨⟨⟨by omega, by omega⟩, by omega, by omega⟩, q⟩
      · simp only [bodyW, Hd_cons, ↓e_stuck, ↓e_var, ↓e_non, ↓e_bl, ↓e_int, ↓e_str, ↓e_kt, ↓e_bin, ↓e_chain, ↓e_and, ↓e_or, ↓e_not, ↓e_neg, ↓e_ite, ↓e_tup, ↓e_lst, ↓e_call, ↓e_callP, ↓e_callQ, ↓e_callV, ↓e_callL, ↓e_callK, ↓e_blt, ↓e_isi, ↓e_ix, ↓e_rev, ↓e_lenset, ↓e_rgv, ↓e_sl, ↓e_part0, ↓e_part1, ↓e_comp, ↓e_comp2, wComp2, ↓e_nil, ↓e_cons, ↓e_star, ↓t_yes, ↓t_val, ↓t_not, ↓t_and, ↓t_or, ↓i_items, ↓i_rng1, ↓i_rng2, ↓i_rng3, ↓i_enum, ↓i_zip, ↓s_seq, ↓s_ret, ↓s_exp, ↓s_asg, ↓s_asgF, ↓s_own, ↓s_par, ↓s_retW, ↓s_for, ↓s_forR, ↓p_nil, ↓p_im, ↓p_ow, ↓p_owM, ↓p_owL, ↓u_stuck, ↓u_next, ↓u_brk, ↓u_cnt, ↓u_retN, ↓u_ifs, u_fz, u_app, u_appF, u_put, u_putF, u_asgI, wAsgI, u_while, u_ownM, u_ownA, u_ownC, u_ownL, u_appP, u_put2, wOwnL, wAppP, wPut2, u_wput, u_wdm, wLC, wFz, wApp, wAppF, wPut, wPutF, wOwnM, wOwnA, setP, wComp, wYes, wWput, wWdm, capt, bo, blt, dTru_non, dTru_bl, dTru_int, dTru_tup, dTru_lst, dTy_non, dTy_bl, dTy_int, dTy_str, dTy_tup, dTy_lst, isi_ii, isi_ib, isi_tt, isi_bi, isi_bb, isi_ni, isi_nb, isi_nt, isi_ns, isi_nl, isi_si, isi_sb, isi_st, isi_ss, isi_sl, isi_ti, isi_tb, isi_ts, isi_tl, isi_li, isi_lb, isi_lt, isi_ls, isi_ll, isi_it, isi_is, isi_il, isi_bt, isi_bs, isi_bl, binds, bindss, setS, setB, getS, entry, strE, frzE, slS, slF, wipeE, dEq_int, dNe_int, DL.isNon, bRepr, permD, o_dAdd0, o_dAdd1, o_dAdd2, o_dAdd3, o_dSub0, o_dMul0, o_dMul1, o_dMul2, o_dFdiv0, o_dMod0, o_dPow0, o_dShl0, o_dShr0, o_dAnd0, o_dOr0, o_dXor0, o_dLt0, o_dLe0, o_dGt0, o_dGe0, o_dIs0, o_dIsNot0, o_dIs1, o_dIsNot1, o_bLen0, o_bLen1, o_bLen2, o_bLen3, o_bTuple0, o_bTuple1, o_bList0, o_bList1, o_bAbs0, o_bMax20, o_bMin20, o_bInt0, o_bInt1, o_bBool0, o_bBool1, o_bBool2, o_bDivmod0, o_bGcd0, o_bStr0, o_bAll0, o_bAny0, o_bSum0, o_bSum1, o_bSort0, o_bSort1, o_bMax10, o_bMax11, o_bMin10, o_bMin11, o_bRepr0, o_dIx0, o_dIx1, o_dIx2, o_dIx3, o_dIx4, o_iEn0, o_iEn1, o_iZp0, o_iZp1, o_iR30, o_iR10, o_iR20, o_dRev0, o_dRev1, o_rg1, o_rg2, o_rg3, o_rg4, o_dLs0, o_dLs1, o_dSl0, o_dSl1, o_dSl2, o_dSl3, o_dNeg, o_dEqs, o_dNes, List.map_cons, List.map_nil, List.length_cons, List.length_nil, List.foldl_cons, List.foldl_nil, List.getElem?_cons_zero, List.getElem?_cons_succ, List.getElem?_nil, List.set_cons_zero, List.set_cons_succ, List.replicate, List.append_nil, List.nil_append, List.cons_append, Option.join_some, Option.join_none, Option.bind_some, id_eq, Nat.sub_self, Nat.add_sub_cancel, Nat.reduceAdd, Nat.reduceSub, Option.getD_some, List.getD_cons_zero, List.getD_cons_succ, List.getD_nil, Bool.not_true, Bool.not_false, Bool.false_eq_true, true_and, and_true, Bool.true_and, Bool.and_true, reduceCtorEq, if_false, if_true, decide_true, decide_false, Nat.zero_add, Nat.le_refl]; exact q
      rw [List.nil_append, show (zr 1 (c - 1).toNat).filter (fun k => gcdI c k == 1) = unL c from rfl, Hd_cons]
      simp only [bodyW, ↓e_stuck, ↓e_var, ↓e_non, ↓e_bl, ↓e_int, ↓e_str, ↓e_kt, ↓e_bin, ↓e_chain, ↓e_and, ↓e_or, ↓e_not, ↓e_neg, ↓e_ite, ↓e_tup, ↓e_lst, ↓e_call, ↓e_callP, ↓e_callQ, ↓e_callV, ↓e_callL, ↓e_callK, ↓e_blt, ↓e_isi, ↓e_ix, ↓e_rev, ↓e_lenset, ↓e_rgv, ↓e_sl, ↓e_part0, ↓e_part1, ↓e_comp, ↓e_comp2, wComp2, ↓e_nil, ↓e_cons, ↓e_star, ↓t_yes, ↓t_val, ↓t_not, ↓t_and, ↓t_or, ↓i_items, ↓i_rng1, ↓i_rng2, ↓i_rng3, ↓i_enum, ↓i_zip, ↓s_seq, ↓s_ret, ↓s_exp, ↓s_asg, ↓s_asgF, ↓s_own, ↓s_par, ↓s_retW, ↓s_for, ↓s_forR, ↓p_nil, ↓p_im, ↓p_ow, ↓p_owM, ↓p_owL, ↓u_stuck, ↓u_next, ↓u_brk, ↓u_cnt, ↓u_retN, ↓u_ifs, u_fz, u_app, u_appF, u_put, u_putF, u_asgI, wAsgI, u_while, u_ownM, u_ownA, u_ownC, u_ownL, u_appP, u_put2, wOwnL, wAppP, wPut2, u_wput, u_wdm, wLC, wFz, wApp, wAppF, wPut, wPutF, wOwnM, wOwnA, setP, wComp, wYes, wWput, wWdm, capt, bo, blt, dTru_non, dTru_bl, dTru_int, dTru_tup, dTru_lst, dTy_non, dTy_bl, dTy_int, dTy_str, dTy_tup, dTy_lst, isi_ii, isi_ib, isi_tt, isi_bi, isi_bb, isi_ni, isi_nb, isi_nt, isi_ns, isi_nl, isi_si, isi_sb, isi_st, isi_ss, isi_sl, isi_ti, isi_tb, isi_ts, isi_tl, isi_li, isi_lb, isi_lt, isi_ls, isi_ll, isi_it, isi_is, isi_il, isi_bt, isi_bs, isi_bl, binds, bindss, setS, setB, getS, entry, strE, frzE, slS, slF, wipeE, dEq_int, dNe_int, DL.isNon, bRepr, permD, o_dAdd0, o_dAdd1, o_dAdd2, o_dAdd3, o_dSub0, o_dMul0, o_dMul1, o_dMul2, o_dFdiv0, o_dMod0, o_dPow0, o_dShl0, o_dShr0, o_dAnd0, o_dOr0, o_dXor0, o_dLt0, o_dLe0, o_dGt0, o_dGe0, o_dIs0, o_dIsNot0, o_dIs1, o_dIsNot1, o_bLen0, o_bLen1, o_bLen2, o_bLen3, o_bTuple0, o_bTuple1, o_bList0, o_bList1, o_bAbs0, o_bMax20, o_bMin20, o_bInt0, o_bInt1, o_bBool0, o_bBool1, o_bBool2, o_bDivmod0, o_bGcd0, o_bStr0, o_bAll0, o_bAny0, o_bSum0, o_bSum1, o_bSort0, o_bSort1, o_bMax10, o_bMax11, o_bMin10, o_bMin11, o_bRepr0, o_dIx0, o_dIx1, o_dIx2, o_dIx3, o_dIx4, o_iEn0, o_iEn1, o_iZp0, o_iZp1, o_iR30, o_iR10, o_iR20, o_dRev0, o_dRev1, o_rg1, o_rg2, o_rg3, o_rg4, o_dLs0, o_dLs1, o_dSl0, o_dSl1, o_dSl2, o_dSl3, o_dNeg, o_dEqs, o_dNes, List.map_cons, List.map_nil, List.length_cons, List.length_nil, List.foldl_cons, List.foldl_nil, List.getElem?_cons_zero, List.getElem?_cons_succ, List.getElem?_nil, List.set_cons_zero, List.set_cons_succ, List.replicate, List.append_nil, List.nil_append, List.cons_append, Option.join_some, Option.join_none, Option.bind_some, id_eq, Nat.sub_self, Nat.add_sub_cancel, Nat.reduceAdd, Nat.reduceSub, Option.getD_some, List.getD_cons_zero, List.getD_cons_succ, List.getD_nil, Bool.not_true, Bool.not_false, Bool.false_eq_true, true_and, and_true, Bool.true_and, Bool.and_true, reduceCtorEq, if_false, if_true, decide_true, decide_false, Nat.zero_add, Nat.le_refl, sg__law_deal, Sp__law_deal, sg__law_divisor, Sp__law_divisor, sg__law_any, Sp__law_any, sg__law_shuffled, Sp__law_shuffled, sg_is_full_turn, Sp_is_full_turn, sg_is_double_turn, Sp_is_double_turn]
      refine ⟨⟨fun e => unL_ne hc.1 (by simpa using e), by rw [List.length_map]; exact Nat.lt_of_le_of_lt (List.length_filter_le ..) (by rw [zr_len]; omega)⟩, fun d hd => ?_⟩
      obtain ⟨u, hu, rfl⟩ := List.mem_map.mp hd
      have hu := unL_in hc.1 hu
      refine ⟨⟨by omega, by omega⟩, fun f f1 f2 => ⟨by decide, ?_⟩⟩
      rw [Hd_cons]
      simp only [bodyW, ↓e_stuck, ↓e_var, ↓e_non, ↓e_bl, ↓e_int, ↓e_str, ↓e_kt, ↓e_bin, ↓e_chain, ↓e_and, ↓e_or, ↓e_not, ↓e_neg, ↓e_ite, ↓e_tup, ↓e_lst, ↓e_call, ↓e_callP, ↓e_callQ, ↓e_callV, ↓e_callL, ↓e_callK, ↓e_blt, ↓e_isi, ↓e_ix, ↓e_rev, ↓e_lenset, ↓e_rgv, ↓e_sl, ↓e_part0, ↓e_part1, ↓e_comp, ↓e_comp2, wComp2, ↓e_nil, ↓e_cons, ↓e_star, ↓t_yes, ↓t_val, ↓t_not, ↓t_and, ↓t_or, ↓i_items, ↓i_rng1, ↓i_rng2, ↓i_rng3, ↓i_enum, ↓i_zip, ↓s_seq, ↓s_ret, ↓s_exp, ↓s_asg, ↓s_asgF, ↓s_own, ↓s_par, ↓s_retW, ↓s_for, ↓s_forR, ↓p_nil, ↓p_im, ↓p_ow, ↓p_owM, ↓p_owL, ↓u_stuck, ↓u_next, ↓u_brk, ↓u_cnt, ↓u_retN, ↓u_ifs, u_fz, u_app, u_appF, u_put, u_putF, u_asgI, wAsgI, u_while, u_ownM, u_ownA, u_ownC, u_ownL, u_appP, u_put2, wOwnL, wAppP, wPut2, u_wput, u_wdm, wLC, wFz, wApp, wAppF, wPut, wPutF, wOwnM, wOwnA, setP, wComp, wYes, wWput, wWdm, capt, bo, blt, dTru_non, dTru_bl, dTru_int, dTru_tup, dTru_lst, dTy_non, dTy_bl, dTy_int, dTy_str, dTy_tup, dTy_lst, isi_ii, isi_ib, isi_tt, isi_bi, isi_bb, isi_ni, isi_nb, isi_nt, isi_ns, isi_nl, isi_si, isi_sb, isi_st, isi_ss, isi_sl, isi_ti, isi_tb, isi_ts, isi_tl, isi_li, isi_lb, isi_lt, isi_ls, isi_ll, isi_it, isi_is, isi_il, isi_bt, isi_bs, isi_bl, binds, bindss, setS, setB, getS, entry, strE, frzE, slS, slF, wipeE, dEq_int, dNe_int, DL.isNon, bRepr, permD, o_dAdd0, o_dAdd1, o_dAdd2, o_dAdd3, o_dSub0, o_dMul0, o_dMul1, o_dMul2, o_dFdiv0, o_dMod0, o_dPow0, o_dShl0, o_dShr0, o_dAnd0, o_dOr0, o_dXor0, o_dLt0, o_dLe0, o_dGt0, o_dGe0, o_dIs0, o_dIsNot0, o_dIs1, o_dIsNot1, o_bLen0, o_bLen1, o_bLen2, o_bLen3, o_bTuple0, o_bTuple1, o_bList0, o_bList1, o_bAbs0, o_bMax20, o_bMin20, o_bInt0, o_bInt1, o_bBool0, o_bBool1, o_bBool2, o_bDivmod0, o_bGcd0, o_bStr0, o_bAll0, o_bAny0, o_bSum0, o_bSum1, o_bSort0, o_bSort1, o_bMax10, o_bMax11, o_bMin10, o_bMin11, o_bRepr0, o_dIx0, o_dIx1, o_dIx2, o_dIx3, o_dIx4, o_iEn0, o_iEn1, o_iZp0, o_iZp1, o_iR30, o_iR10, o_iR20, o_dRev0, o_dRev1, o_rg1, o_rg2, o_rg3, o_rg4, o_dLs0, o_dLs1, o_dSl0, o_dSl1, o_dSl2, o_dSl3, o_dNeg, o_dEqs, o_dNes, List.map_cons, List.map_nil, List.length_cons, List.length_nil, List.foldl_cons, List.foldl_nil, List.getElem?_cons_zero, List.getElem?_cons_succ, List.getElem?_nil, List.set_cons_zero, List.set_cons_succ, List.replicate, List.append_nil, List.nil_append, List.cons_append, Option.join_some, Option.join_none, Option.bind_some, id_eq, Nat.sub_self, Nat.add_sub_cancel, Nat.reduceAdd, Nat.reduceSub, Option.getD_some, List.getD_cons_zero, List.getD_cons_succ, List.getD_nil, Bool.not_true, Bool.not_false, Bool.false_eq_true, true_and, and_true, Bool.true_and, Bool.and_true, reduceCtorEq, if_false, if_true, decide_true, decide_false, Nat.zero_add, Nat.le_refl, sg__law_deal, Sp__law_deal, sg__law_divisor, Sp__law_divisor, sg__law_any, Sp__law_any, sg__law_shuffled, Sp__law_shuffled, sg_is_full_turn, Sp_is_full_turn, sg_is_double_turn, Sp_is_double_turn]
      have ub := uN_in hc.1 hu
      refine ⟨by omega, ?_⟩
      rw [rng_zr]
      refine turns_Z (fun _ => true) (fun k => .int ((u * k + f) % c)) (fun k hk Q' q => q) (fun k hk _ Q' q => ?_) (by rw [zr_len]; simp only [List.length_nil, LIM]; omega) ?_
      · rw [mem_zr] at hk
        simp only [bodyW, Hd_cons, ↓e_stuck, ↓e_var, ↓e_non, ↓e_bl, ↓e_int, ↓e_str, ↓e_kt, ↓e_bin, ↓e_chain, ↓e_and, ↓e_or, ↓e_not, ↓e_neg, ↓e_ite, ↓e_tup, ↓e_lst, ↓e_call, ↓e_callP, ↓e_callQ, ↓e_callV, ↓e_callL, ↓e_callK, ↓e_blt, ↓e_isi, ↓e_ix, ↓e_rev, ↓e_lenset, ↓e_rgv, ↓e_sl, ↓e_part0, ↓e_part1, ↓e_comp, ↓e_comp2, wComp2, ↓e_nil, ↓e_cons, ↓e_star, ↓t_yes, ↓t_val, ↓t_not, ↓t_and, ↓t_or, ↓i_items, ↓i_rng1, ↓i_rng2, ↓i_rng3, ↓i_enum, ↓i_zip, ↓s_seq, ↓s_ret, ↓s_exp, ↓s_asg, ↓s_asgF, ↓s_own, ↓s_par, ↓s_retW, ↓s_for, ↓s_forR, ↓p_nil, ↓p_im, ↓p_ow, ↓p_owM, ↓p_owL, ↓u_stuck, ↓u_next, ↓u_brk, ↓u_cnt, ↓u_retN, ↓u_ifs, u_fz, u_app, u_appF, u_put, u_putF, u_asgI, wAsgI, u_while, u_ownM, u_ownA, u_ownC, u_ownL, u_appP, u_put2, wOwnL, wAppP, wPut2, u_wput, u_wdm, wLC, wFz, wApp, wAppF, wPut, wPutF, wOwnM, wOwnA, setP, wComp, wYes, wWput, wWdm, capt, bo, blt, dTru_non, dTru_bl, dTru_int, dTru_tup, dTru_lst, dTy_non, dTy_bl, dTy_int, dTy_str, dTy_tup, dTy_lst, isi_ii, isi_ib, isi_tt, isi_bi, isi_bb, isi_ni, isi_nb, isi_nt, isi_ns, isi_nl, isi_si, isi_sb, isi_st, isi_ss, isi_sl, isi_ti, isi_tb, isi_ts, isi_tl, isi_li, isi_lb, isi_lt, isi_ls, isi_ll, isi_it, isi_is, isi_il, isi_bt, isi_bs, isi_bl, binds, bindss, setS, setB, getS, entry, strE, frzE, slS, slF, wipeE, dEq_int, dNe_int, DL.isNon, bRepr, permD, o_dAdd0, o_dAdd1, o_dAdd2, o_dAdd3, o_dSub0, o_dMul0, o_dMul1, o_dMul2, o_dFdiv0, o_dMod0, o_dPow0, o_dShl0, o_dShr0, o_dAnd0, o_dOr0, o_dXor0, o_dLt0, o_dLe0, o_dGt0, o_dGe0, o_dIs0, o_dIsNot0, o_dIs1, o_dIsNot1, o_bLen0, o_bLen1, o_bLen2, o_bLen3, o_bTuple0, o_bTuple1, o_bList0, o_bList1, o_bAbs0, o_bMax20, o_bMin20, o_bInt0, o_bInt1, o_bBool0, o_bBool1, o_bBool2, o_bDivmod0, o_bGcd0, o_bStr0, o_bAll0, o_bAny0, o_bSum0, o_bSum1, o_bSort0, o_bSort1, o_bMax10, o_bMax11, o_bMin10, o_bMin11, o_bRepr0, o_dIx0, o_dIx1, o_dIx2, o_dIx3, o_dIx4, o_iEn0, o_iEn1, o_iZp0, o_iZp1, o_iR30, o_iR10, o_iR20, o_dRev0, o_dRev1, o_rg1, o_rg2, o_rg3, o_rg4, o_dLs0, o_dLs1, o_dSl0, o_dSl1, o_dSl2, o_dSl3, o_dNeg, o_dEqs, o_dNes, List.map_cons, List.map_nil, List.length_cons, List.length_nil, List.foldl_cons, List.foldl_nil, List.getElem?_cons_zero, List.getElem?_cons_succ, List.getElem?_nil, List.set_cons_zero, List.set_cons_succ, List.replicate, List.append_nil, List.nil_append, List.cons_append, Option.join_some, Option.join_none, Option.bind_some, id_eq, Nat.sub_self, Nat.add_sub_cancel, Nat.reduceAdd, Nat.reduceSub, Option.getD_some, List.getD_cons_zero, List.getD_cons_succ, List.getD_nil, Bool.not_true, Bool.not_false, Bool.false_eq_true, true_and, and_true, Bool.true_and, Bool.and_true, reduceCtorEq, if_false, if_true, decide_true, decide_false, Nat.zero_add, Nat.le_refl]
        exact ⟨.inl ⟨by omega, by omega⟩, by omega, q⟩
      have oL := line_perm (f := f) hc hu
      rw [filter_all, List.nil_append, show (zr 0 c.toNat).map (fun k => D.int ((u * k + f) % c)) = ((zr 0 c.toNat).map fun k => (u * k + f) % c).map .int from by rw [List.map_map]; rfl]
      generalize (zr 0 c.toNat).map (fun k => (u * k + f) % c) = L at oL ⊢
      have lL := isO_len oL
      rw [Hd_cons]
      simp only [bodyW, ↓e_stuck, ↓e_var, ↓e_non, ↓e_bl, ↓e_int, ↓e_str, ↓e_kt, ↓e_bin, ↓e_chain, ↓e_and, ↓e_or, ↓e_not, ↓e_neg, ↓e_ite, ↓e_tup, ↓e_lst, ↓e_call, ↓e_callP, ↓e_callQ, ↓e_callV, ↓e_callL, ↓e_callK, ↓e_blt, ↓e_isi, ↓e_ix, ↓e_rev, ↓e_lenset, ↓e_rgv, ↓e_sl, ↓e_part0, ↓e_part1, ↓e_comp, ↓e_comp2, wComp2, ↓e_nil, ↓e_cons, ↓e_star, ↓t_yes, ↓t_val, ↓t_not, ↓t_and, ↓t_or, ↓i_items, ↓i_rng1, ↓i_rng2, ↓i_rng3, ↓i_enum, ↓i_zip, ↓s_seq, ↓s_ret, ↓s_exp, ↓s_asg, ↓s_asgF, ↓s_own, ↓s_par, ↓s_retW, ↓s_for, ↓s_forR, ↓p_nil, ↓p_im, ↓p_ow, ↓p_owM, ↓p_owL, ↓u_stuck, ↓u_next, ↓u_brk, ↓u_cnt, ↓u_retN, ↓u_ifs, u_fz, u_app, u_appF, u_put, u_putF, u_asgI, wAsgI, u_while, u_ownM, u_ownA, u_ownC, u_ownL, u_appP, u_put2, wOwnL, wAppP, wPut2, u_wput, u_wdm, wLC, wFz, wApp, wAppF, wPut, wPutF, wOwnM, wOwnA, setP, wComp, wYes, wWput, wWdm, capt, bo, blt, dTru_non, dTru_bl, dTru_int, dTru_tup, dTru_lst, dTy_non, dTy_bl, dTy_int, dTy_str, dTy_tup, dTy_lst, isi_ii, isi_ib, isi_tt, isi_bi, isi_bb, isi_ni, isi_nb, isi_nt, isi_ns, isi_nl, isi_si, isi_sb, isi_st, isi_ss, isi_sl, isi_ti, isi_tb, isi_ts, isi_tl, isi_li, isi_lb, isi_lt, isi_ls, isi_ll, isi_it, isi_is, isi_il, isi_bt, isi_bs, isi_bl, binds, bindss, setS, setB, getS, entry, strE, frzE, slS, slF, wipeE, dEq_int, dNe_int, DL.isNon, bRepr, permD, o_dAdd0, o_dAdd1, o_dAdd2, o_dAdd3, o_dSub0, o_dMul0, o_dMul1, o_dMul2, o_dFdiv0, o_dMod0, o_dPow0, o_dShl0, o_dShr0, o_dAnd0, o_dOr0, o_dXor0, o_dLt0, o_dLe0, o_dGt0, o_dGe0, o_dIs0, o_dIsNot0, o_dIs1, o_dIsNot1, o_bLen0, o_bLen1, o_bLen2, o_bLen3, o_bTuple0, o_bTuple1, o_bList0, o_bList1, o_bAbs0, o_bMax20, o_bMin20, o_bInt0, o_bInt1, o_bBool0, o_bBool1, o_bBool2, o_bDivmod0, o_bGcd0, o_bStr0, o_bAll0, o_bAny0, o_bSum0, o_bSum1, o_bSort0, o_bSort1, o_bMax10, o_bMax11, o_bMin10, o_bMin11, o_bRepr0, o_dIx0, o_dIx1, o_dIx2, o_dIx3, o_dIx4, o_iEn0, o_iEn1, o_iZp0, o_iZp1, o_iR30, o_iR10, o_iR20, o_dRev0, o_dRev1, o_rg1, o_rg2, o_rg3, o_rg4, o_dLs0, o_dLs1, o_dSl0, o_dSl1, o_dSl2, o_dSl3, o_dNeg, o_dEqs, o_dNes, List.map_cons, List.map_nil, List.length_cons, List.length_nil, List.foldl_cons, List.foldl_nil, List.getElem?_cons_zero, List.getElem?_cons_succ, List.getElem?_nil, List.set_cons_zero, List.set_cons_succ, List.replicate, List.append_nil, List.nil_append, List.cons_append, Option.join_some, Option.join_none, Option.bind_some, id_eq, Nat.sub_self, Nat.add_sub_cancel, Nat.reduceAdd, Nat.reduceSub, Option.getD_some, List.getD_cons_zero, List.getD_cons_succ, List.getD_nil, Bool.not_true, Bool.not_false, Bool.false_eq_true, true_and, and_true, Bool.true_and, Bool.and_true, reduceCtorEq, if_false, if_true, decide_true, decide_false, Nat.zero_add, Nat.le_refl, sg__law_deal, Sp__law_deal, sg__law_divisor, Sp__law_divisor, sg__law_any, Sp__law_any, sg__law_shuffled, Sp__law_shuffled, sg_is_full_turn, Sp_is_full_turn, sg_is_double_turn, Sp_is_double_turn]
      rw [Hd_cons]
      simp only [bodyW, ↓e_stuck, ↓e_var, ↓e_non, ↓e_bl, ↓e_int, ↓e_str, ↓e_kt, ↓e_bin, ↓e_chain, ↓e_and, ↓e_or, ↓e_not, ↓e_neg, ↓e_ite, ↓e_tup, ↓e_lst, ↓e_call, ↓e_callP, ↓e_callQ, ↓e_callV, ↓e_callL, ↓e_callK, ↓e_blt, ↓e_isi, ↓e_ix, ↓e_rev, ↓e_lenset, ↓e_rgv, ↓e_sl, ↓e_part0, ↓e_part1, ↓e_comp, ↓e_comp2, wComp2, ↓e_nil, ↓e_cons, ↓e_star, ↓t_yes, ↓t_val, ↓t_not, ↓t_and, ↓t_or, ↓i_items, ↓i_rng1, ↓i_rng2, ↓i_rng3, ↓i_enum, ↓i_zip, ↓s_seq, ↓s_ret, ↓s_exp, ↓s_asg, ↓s_asgF, ↓s_own, ↓s_par, ↓s_retW, ↓s_for, ↓s_forR, ↓p_nil, ↓p_im, ↓p_ow, ↓p_owM, ↓p_owL, ↓u_stuck, ↓u_next, ↓u_brk, ↓u_cnt, ↓u_retN, ↓u_ifs, u_fz, u_app, u_appF, u_put, u_putF, u_asgI, wAsgI, u_while, u_ownM, u_ownA, u_ownC, u_ownL, u_appP, u_put2, wOwnL, wAppP, wPut2, u_wput, u_wdm, wLC, wFz, wApp, wAppF, wPut, wPutF, wOwnM, wOwnA, setP, wComp, wYes, wWput, wWdm, capt, bo, blt, dTru_non, dTru_bl, dTru_int, dTru_tup, dTru_lst, dTy_non, dTy_bl, dTy_int, dTy_str, dTy_tup, dTy_lst, isi_ii, isi_ib, isi_tt, isi_bi, isi_bb, isi_ni, isi_nb, isi_nt, isi_ns, isi_nl, isi_si, isi_sb, isi_st, isi_ss, isi_sl, isi_ti, isi_tb, isi_ts, isi_tl, isi_li, isi_lb, isi_lt, isi_ls, isi_ll, isi_it, isi_is, isi_il, isi_bt, isi_bs, isi_bl, binds, bindss, setS, setB, getS, entry, strE, frzE, slS, slF, wipeE, dEq_int, dNe_int, DL.isNon, bRepr, permD, o_dAdd0, o_dAdd1, o_dAdd2, o_dAdd3, o_dSub0, o_dMul0, o_dMul1, o_dMul2, o_dFdiv0, o_dMod0, o_dPow0, o_dShl0, o_dShr0, o_dAnd0, o_dOr0, o_dXor0, o_dLt0, o_dLe0, o_dGt0, o_dGe0, o_dIs0, o_dIsNot0, o_dIs1, o_dIsNot1, o_bLen0, o_bLen1, o_bLen2, o_bLen3, o_bTuple0, o_bTuple1, o_bList0, o_bList1, o_bAbs0, o_bMax20, o_bMin20, o_bInt0, o_bInt1, o_bBool0, o_bBool1, o_bBool2, o_bDivmod0, o_bGcd0, o_bStr0, o_bAll0, o_bAny0, o_bSum0, o_bSum1, o_bSort0, o_bSort1, o_bMax10, o_bMax11, o_bMin10, o_bMin11, o_bRepr0, o_dIx0, o_dIx1, o_dIx2, o_dIx3, o_dIx4, o_iEn0, o_iEn1, o_iZp0, o_iZp1, o_iR30, o_iR10, o_iR20, o_dRev0, o_dRev1, o_rg1, o_rg2, o_rg3, o_rg4, o_dLs0, o_dLs1, o_dSl0, o_dSl1, o_dSl2, o_dSl3, o_dNeg, o_dEqs, o_dNes, List.map_cons, List.map_nil, List.length_cons, List.length_nil, List.foldl_cons, List.foldl_nil, List.getElem?_cons_zero, List.getElem?_cons_succ, List.getElem?_nil, List.set_cons_zero, List.set_cons_succ, List.replicate, List.append_nil, List.nil_append, List.cons_append, Option.join_some, Option.join_none, Option.bind_some, id_eq, Nat.sub_self, Nat.add_sub_cancel, Nat.reduceAdd, Nat.reduceSub, Option.getD_some, List.getD_cons_zero, List.getD_cons_succ, List.getD_nil, Bool.not_true, Bool.not_false, Bool.false_eq_true, true_and, and_true, Bool.true_and, Bool.and_true, reduceCtorEq, if_false, if_true, decide_true, decide_false, Nat.zero_add, Nat.le_refl, sg__law_deal, Sp__law_deal, sg__law_divisor, Sp__law_divisor, sg__law_any, Sp__law_any, sg__law_shuffled, Sp__law_shuffled, sg_is_full_turn, Sp_is_full_turn, sg_is_double_turn, Sp_is_double_turn]
      refine ⟨⟨by omega, by omega⟩, fun a a1 a2 => ⟨⟨by omega, by omega⟩, fun b b1 b2 => ?_⟩⟩
      rw [Hd_cons]
      simp only [bodyW, ↓e_stuck, ↓e_var, ↓e_non, ↓e_bl, ↓e_int, ↓e_str, ↓e_kt, ↓e_bin, ↓e_chain, ↓e_and, ↓e_or, ↓e_not, ↓e_neg, ↓e_ite, ↓e_tup, ↓e_lst, ↓e_call, ↓e_callP, ↓e_callQ, ↓e_callV, ↓e_callL, ↓e_callK, ↓e_blt, ↓e_isi, ↓e_ix, ↓e_rev, ↓e_lenset, ↓e_rgv, ↓e_sl, ↓e_part0, ↓e_part1, ↓e_comp, ↓e_comp2, wComp2, ↓e_nil, ↓e_cons, ↓e_star, ↓t_yes, ↓t_val, ↓t_not, ↓t_and, ↓t_or, ↓i_items, ↓i_rng1, ↓i_rng2, ↓i_rng3, ↓i_enum, ↓i_zip, ↓s_seq, ↓s_ret, ↓s_exp, ↓s_asg, ↓s_asgF, ↓s_own, ↓s_par, ↓s_retW, ↓s_for, ↓s_forR, ↓p_nil, ↓p_im, ↓p_ow, ↓p_owM, ↓p_owL, ↓u_stuck, ↓u_next, ↓u_brk, ↓u_cnt, ↓u_retN, ↓u_ifs, u_fz, u_app, u_appF, u_put, u_putF, u_asgI, wAsgI, u_while, u_ownM, u_ownA, u_ownC, u_ownL, u_appP, u_put2, wOwnL, wAppP, wPut2, u_wput, u_wdm, wLC, wFz, wApp, wAppF, wPut, wPutF, wOwnM, wOwnA, setP, wComp, wYes, wWput, wWdm, capt, bo, blt, dTru_non, dTru_bl, dTru_int, dTru_tup, dTru_lst, dTy_non, dTy_bl, dTy_int, dTy_str, dTy_tup, dTy_lst, isi_ii, isi_ib, isi_tt, isi_bi, isi_bb, isi_ni, isi_nb, isi_nt, isi_ns, isi_nl, isi_si, isi_sb, isi_st, isi_ss, isi_sl, isi_ti, isi_tb, isi_ts, isi_tl, isi_li, isi_lb, isi_lt, isi_ls, isi_ll, isi_it, isi_is, isi_il, isi_bt, isi_bs, isi_bl, binds, bindss, setS, setB, getS, entry, strE, frzE, slS, slF, wipeE, dEq_int, dNe_int, DL.isNon, bRepr, permD, o_dAdd0, o_dAdd1, o_dAdd2, o_dAdd3, o_dSub0, o_dMul0, o_dMul1, o_dMul2, o_dFdiv0, o_dMod0, o_dPow0, o_dShl0, o_dShr0, o_dAnd0, o_dOr0, o_dXor0, o_dLt0, o_dLe0, o_dGt0, o_dGe0, o_dIs0, o_dIsNot0, o_dIs1, o_dIsNot1, o_bLen0, o_bLen1, o_bLen2, o_bLen3, o_bTuple0, o_bTuple1, o_bList0, o_bList1, o_bAbs0, o_bMax20, o_bMin20, o_bInt0, o_bInt1, o_bBool0, o_bBool1, o_bBool2, o_bDivmod0, o_bGcd0, o_bStr0, o_bAll0, o_bAny0, o_bSum0, o_bSum1, o_bSort0, o_bSort1, o_bMax10, o_bMax11, o_bMin10, o_bMin11, o_bRepr0, o_dIx0, o_dIx1, o_dIx2, o_dIx3, o_dIx4, o_iEn0, o_iEn1, o_iZp0, o_iZp1, o_iR30, o_iR10, o_iR20, o_dRev0, o_dRev1, o_rg1, o_rg2, o_rg3, o_rg4, o_dLs0, o_dLs1, o_dSl0, o_dSl1, o_dSl2, o_dSl3, o_dNeg, o_dEqs, o_dNes, List.map_cons, List.map_nil, List.length_cons, List.length_nil, List.foldl_cons, List.foldl_nil, List.getElem?_cons_zero, List.getElem?_cons_succ, List.getElem?_nil, List.set_cons_zero, List.set_cons_succ, List.replicate, List.append_nil, List.nil_append, List.cons_append, Option.join_some, Option.join_none, Option.bind_some, id_eq, Nat.sub_self, Nat.add_sub_cancel, Nat.reduceAdd, Nat.reduceSub, Option.getD_some, List.getD_cons_zero, List.getD_cons_succ, List.getD_nil, Bool.not_true, Bool.not_false, Bool.false_eq_true, true_and, and_true, Bool.true_and, Bool.and_true, reduceCtorEq, if_false, if_true, decide_true, decide_false, Nat.zero_add, Nat.le_refl, sg__law_deal, Sp__law_deal, sg__law_divisor, Sp__law_divisor, sg__law_any, Sp__law_any, sg__law_shuffled, Sp__law_shuffled, sg_is_full_turn, Sp_is_full_turn, sg_is_double_turn, Sp_is_double_turn]
      obtain ⟨a, rfl⟩ := Int.eq_ofNat_of_zero_le a1
      obtain ⟨b, rfl⟩ := Int.eq_ofNat_of_zero_le b1
      have ha : a < L.length := by omega
      have hb : b < L.length := by omega
      have eX : ∀ z : Nat, z < L.length → ixN (L.map D.int).length (z : Int) = some z := fun z hz => by
        unfold ixN
        rw [List.length_map, if_pos (by omega), if_pos (by omega), Int.toNat_natCast]
      have eG : ∀ (z : Nat) (hz : z < L.length), atI (L.map D.int) (z : Int) = some (.int L[z]) := fun z hz => by
        rw [atI_mapF, L2.DL.atI_nat, List.getElem?_eq_getElem hz]; rfl
      rw [eG a ha, eG b hb]
      simp only [eX a ha, eX b hb]
      refine ⟨⟨rfl, rfl⟩, ?_⟩
      have oN : isO c ((L.set a L[b]).set b L[a]) := (List.set_set_perm ha hb).trans oL
      rw [← List.map_set, ← List.map_set]
      generalize (L.set a L[b]).set b L[a] = Nr at oN ⊢
      rw [Hd_cons]
      simp only [bodyW, ↓e_stuck, ↓e_var, ↓e_non, ↓e_bl, ↓e_int, ↓e_str, ↓e_kt, ↓e_bin, ↓e_chain, ↓e_and, ↓e_or, ↓e_not, ↓e_neg, ↓e_ite, ↓e_tup, ↓e_lst, ↓e_call, ↓e_callP, ↓e_callQ, ↓e_callV, ↓e_callL, ↓e_callK, ↓e_blt, ↓e_isi, ↓e_ix, ↓e_rev, ↓e_lenset, ↓e_rgv, ↓e_sl, ↓e_part0, ↓e_part1, ↓e_comp, ↓e_comp2, wComp2, ↓e_nil, ↓e_cons, ↓e_star, ↓t_yes, ↓t_val, ↓t_not, ↓t_and, ↓t_or, ↓i_items, ↓i_rng1, ↓i_rng2, ↓i_rng3, ↓i_enum, ↓i_zip, ↓s_seq, ↓s_ret, ↓s_exp, ↓s_asg, ↓s_asgF, ↓s_own, ↓s_par, ↓s_retW, ↓s_for, ↓s_forR, ↓p_nil, ↓p_im, ↓p_ow, ↓p_owM, ↓p_owL, ↓u_stuck, ↓u_next, ↓u_brk, ↓u_cnt, ↓u_retN, ↓u_ifs, u_fz, u_app, u_appF, u_put, u_putF, u_asgI, wAsgI, u_while, u_ownM, u_ownA, u_ownC, u_ownL, u_appP, u_put2, wOwnL, wAppP, wPut2, u_wput, u_wdm, wLC, wFz, wApp, wAppF, wPut, wPutF, wOwnM, wOwnA, setP, wComp, wYes, wWput, wWdm, capt, bo, blt, dTru_non, dTru_bl, dTru_int, dTru_tup, dTru_lst, dTy_non, dTy_bl, dTy_int, dTy_str, dTy_tup, dTy_lst, isi_ii, isi_ib, isi_tt, isi_bi, isi_bb, isi_ni, isi_nb, isi_nt, isi_ns, isi_nl, isi_si, isi_sb, isi_st, isi_ss, isi_sl, isi_ti, isi_tb, isi_ts, isi_tl, isi_li, isi_lb, isi_lt, isi_ls, isi_ll, isi_it, isi_is, isi_il, isi_bt, isi_bs, isi_bl, binds, bindss, setS, setB, getS, entry, strE, frzE, slS, slF, wipeE, dEq_int, dNe_int, DL.isNon, bRepr, permD, o_dAdd0, o_dAdd1, o_dAdd2, o_dAdd3, o_dSub0, o_dMul0, o_dMul1, o_dMul2, o_dFdiv0, o_dMod0, o_dPow0, o_dShl0, o_dShr0, o_dAnd0, o_dOr0, o_dXor0, o_dLt0, o_dLe0, o_dGt0, o_dGe0, o_dIs0, o_dIsNot0, o_dIs1, o_dIsNot1, o_bLen0, o_bLen1, o_bLen2, o_bLen3, o_bTuple0, o_bTuple1, o_bList0, o_bList1, o_bAbs0, o_bMax20, o_bMin20, o_bInt0, o_bInt1, o_bBool0, o_bBool1, o_bBool2, o_bDivmod0, o_bGcd0, o_bStr0, o_bAll0, o_bAny0, o_bSum0, o_bSum1, o_bSort0, o_bSort1, o_bMax10, o_bMax11, o_bMin10, o_bMin11, o_bRepr0, o_dIx0, o_dIx1, o_dIx2, o_dIx3, o_dIx4, o_iEn0, o_iEn1, o_iZp0, o_iZp1, o_iR30, o_iR10, o_iR20, o_dRev0, o_dRev1, o_rg1, o_rg2, o_rg3, o_rg4, o_dLs0, o_dLs1, o_dSl0, o_dSl1, o_dSl2, o_dSl3, o_dNeg, o_dEqs, o_dNes, List.map_cons, List.map_nil, List.length_cons, List.length_nil, List.foldl_cons, List.foldl_nil, List.getElem?_cons_zero, List.getElem?_cons_succ, List.getElem?_nil, List.set_cons_zero, List.set_cons_succ, List.replicate, List.append_nil, List.nil_append, List.cons_append, Option.join_some, Option.join_none, Option.bind_some, id_eq, Nat.sub_self, Nat.add_sub_cancel, Nat.reduceAdd, Nat.reduceSub, Option.getD_some, List.getD_cons_zero, List.getD_cons_succ, List.getD_nil, Bool.not_true, Bool.not_false, Bool.false_eq_true, true_and, and_true, Bool.true_and, Bool.and_true, reduceCtorEq, if_false, if_true, decide_true, decide_false, Nat.zero_add, Nat.le_refl, sg__law_deal, Sp__law_deal, sg__law_divisor, Sp__law_divisor, sg__law_any, Sp__law_any, sg__law_shuffled, Sp__law_shuffled, sg_is_full_turn, Sp_is_full_turn, sg_is_double_turn, Sp_is_double_turn]
      rw [Hd_cons]
      simp only [bodyW, ↓e_stuck, ↓e_var, ↓e_non, ↓e_bl, ↓e_int, ↓e_str, ↓e_kt, ↓e_bin, ↓e_chain, ↓e_and, ↓e_or, ↓e_not, ↓e_neg, ↓e_ite, ↓e_tup, ↓e_lst, ↓e_call, ↓e_callP, ↓e_callQ, ↓e_callV, ↓e_callL, ↓e_callK, ↓e_blt, ↓e_isi, ↓e_ix, ↓e_rev, ↓e_lenset, ↓e_rgv, ↓e_sl, ↓e_part0, ↓e_part1, ↓e_comp, ↓e_comp2, wComp2, ↓e_nil, ↓e_cons, ↓e_star, ↓t_yes, ↓t_val, ↓t_not, ↓t_and, ↓t_or, ↓i_items, ↓i_rng1, ↓i_rng2, ↓i_rng3, ↓i_enum, ↓i_zip, ↓s_seq, ↓s_ret, ↓s_exp, ↓s_asg, ↓s_asgF, ↓s_own, ↓s_par, ↓s_retW, ↓s_for, ↓s_forR, ↓p_nil, ↓p_im, ↓p_ow, ↓p_owM, ↓p_owL, ↓u_stuck, ↓u_next, ↓u_brk, ↓u_cnt, ↓u_retN, ↓u_ifs, u_fz, u_app, u_appF, u_put, u_putF, u_asgI, wAsgI, u_while, u_ownM, u_ownA, u_ownC, u_ownL, u_appP, u_put2, wOwnL, wAppP, wPut2, u_wput, u_wdm, wLC, wFz, wApp, wAppF, wPut, wPutF, wOwnM, wOwnA, setP, wComp, wYes, wWput, wWdm, capt, bo, blt, dTru_non, dTru_bl, dTru_int, dTru_tup, dTru_lst, dTy_non, dTy_bl, dTy_int, dTy_str, dTy_tup, dTy_lst, isi_ii, isi_ib, isi_tt, isi_bi, isi_bb, isi_ni, isi_nb, isi_nt, isi_ns, isi_nl, isi_si, isi_sb, isi_st, isi_ss, isi_sl, isi_ti, isi_tb, isi_ts, isi_tl, isi_li, isi_lb, isi_lt, isi_ls, isi_ll, isi_it, isi_is, isi_il, isi_bt, isi_bs, isi_bl, binds, bindss, setS, setB, getS, entry, strE, frzE, slS, slF, wipeE, dEq_int, dNe_int, DL.isNon, bRepr, permD, o_dAdd0, o_dAdd1, o_dAdd2, o_dAdd3, o_dSub0, o_dMul0, o_dMul1, o_dMul2, o_dFdiv0, o_dMod0, o_dPow0, o_dShl0, o_dShr0, o_dAnd0, o_dOr0, o_dXor0, o_dLt0, o_dLe0, o_dGt0, o_dGe0, o_dIs0, o_dIsNot0, o_dIs1, o_dIsNot1, o_bLen0, o_bLen1, o_bLen2, o_bLen3, o_bTuple0, o_bTuple1, o_bList0, o_bList1, o_bAbs0, o_bMax20, o_bMin20, o_bInt0, o_bInt1, o_bBool0, o_bBool1, o_bBool2, o_bDivmod0, o_bGcd0, o_bStr0, o_bAll0, o_bAny0, o_bSum0, o_bSum1, o_bSort0, o_bSort1, o_bMax10, o_bMax11, o_bMin10, o_bMin11, o_bRepr0, o_dIx0, o_dIx1, o_dIx2, o_dIx3, o_dIx4, o_iEn0, o_iEn1, o_iZp0, o_iZp1, o_iR30, o_iR10, o_iR20, o_dRev0, o_dRev1, o_rg1, o_rg2, o_rg3, o_rg4, o_dLs0, o_dLs1, o_dSl0, o_dSl1, o_dSl2, o_dSl3, o_dNeg, o_dEqs, o_dNes, List.map_cons, List.map_nil, List.length_cons, List.length_nil, List.foldl_cons, List.foldl_nil, List.getElem?_cons_zero, List.getElem?_cons_succ, List.getElem?_nil, List.set_cons_zero, List.set_cons_succ, List.replicate, List.append_nil, List.nil_append, List.cons_append, Option.join_some, Option.join_none, Option.bind_some, id_eq, Nat.sub_self, Nat.add_sub_cancel, Nat.reduceAdd, Nat.reduceSub, Option.getD_some, List.getD_cons_zero, List.getD_cons_succ, List.getD_nil, Bool.not_true, Bool.not_false, Bool.false_eq_true, true_and, and_true, Bool.true_and, Bool.and_true, reduceCtorEq, if_false, if_true, decide_true, decide_false, Nat.zero_add, Nat.le_refl, sg__law_deal, Sp__law_deal, sg__law_divisor, Sp__law_divisor, sg__law_any, Sp__law_any, sg__law_shuffled, Sp__law_shuffled, sg_is_full_turn, Sp_is_full_turn, sg_is_double_turn, Sp_is_double_turn]
      refine ⟨by rw [List.length_map]; omega, fun ys hp0 => ?_⟩
      obtain ⟨Sh, rfl, hp⟩ := perm_ints hp0
      clear hp0
      have oS : isO c Sh := hp.trans oL
      have oZ : isO c (zr 0 c.toNat) := List.Perm.refl _
      refine ⟨⟨by omega, by omega⟩, by decide, ?_⟩
      rw [rng_zr]
      have allO : ∀ d ∈ [D.tup (L.map .int), .tup (Nr.map .int), .tup (Sh.map .int), .tup ((zr 0 c.toNat).map .int)], ∃ ns : List Int, d = .tup (ns.map .int) ∧ isO c ns := fun d hd => by
        simp only [List.mem_cons, List.mem_nil_iff, or_false] at hd
        rcases hd with rfl | rfl | rfl | rfl
        · exact ⟨_, rfl, oL⟩
        · exact ⟨_, rfl, oN⟩
        · exact ⟨_, rfl, oS⟩
        · exact ⟨_, rfl, oZ⟩
      generalize [D.tup (L.map .int), .tup (Nr.map .int), .tup (Sh.map .int), .tup ((zr 0 c.toNat).map .int)] = items at allO ⊢
      refine forL_inv (n := 0) (fun i ρ => ∃ s1 s3 s4 s5 s6 s7 s8 s9 s10 s11 s12 s13 s14 s15 s16 : Sl, ρ = [.im (.obj p), s1, .im (.int c), s3, s4, s5, s6, s7, s8, s9, s10, s11, s12, s13, s14, s15, s16]) ⟨_, _, _, _, _, _, _, _, _, _, _, _, _, _, _, rfl⟩ (fun i d hi ρ hI M2 hM2 => ?_) (fun ρ hI => ?_)
      · obtain ⟨s1, s3, s4, s5, s6, s7, s8, s9, s10, s11, s12, s13, s14, s15, s16, rfl⟩ := hI
        obtain ⟨ns, rfl, ho⟩ := allO d (List.mem_of_getElem? hi)
        have hl := isO_len ho
        have lF : ((fuL c ns).length : Int) = c := by unfold fuL; rw [List.length_map, zr_len]; omega
        have lD : ((doL c ns).length : Int) = c := by unfold doL; rw [List.length_map, zr_len]; omega
        refine ⟨_, rfl, ?_⟩
        simp only [bodyW, ↓e_stuck, ↓e_var, ↓e_non, ↓e_bl, ↓e_int, ↓e_str, ↓e_kt, ↓e_bin, ↓e_chain, ↓e_and, ↓e_or, ↓e_not, ↓e_neg, ↓e_ite, ↓e_tup, ↓e_lst, ↓e_call, ↓e_callP, ↓e_callQ, ↓e_callV, ↓e_callL, ↓e_callK, ↓e_blt, ↓e_isi, ↓e_ix, ↓e_rev, ↓e_lenset, ↓e_rgv, ↓e_sl, ↓e_part0, ↓e_part1, ↓e_comp, ↓e_comp2, wComp2, ↓e_nil, ↓e_cons, ↓e_star, ↓t_yes, ↓t_val, ↓t_not, ↓t_and, ↓t_or, ↓i_items, ↓i_rng1, ↓i_rng2, ↓i_rng3, ↓i_enum, ↓i_zip, ↓s_seq, ↓s_ret, ↓s_exp, ↓s_asg, ↓s_asgF, ↓s_own, ↓s_par, ↓s_retW, ↓s_for, ↓s_forR, ↓p_nil, ↓p_im, ↓p_ow, ↓p_owM, ↓p_owL, ↓u_stuck, ↓u_next, ↓u_brk, ↓u_cnt, ↓u_retN, ↓u_ifs, u_fz, u_app, u_appF, u_put, u_putF, u_asgI, wAsgI, u_while, u_ownM, u_ownA, u_ownC, u_ownL, u_appP, u_put2, wOwnL, wAppP, wPut2, u_wput, u_wdm, wLC, wFz, wApp, wAppF, wPut, wPutF, wOwnM, wOwnA, setP, wComp, wYes, wWput, wWdm, capt, bo, blt, dTru_non, dTru_bl, dTru_int, dTru_tup, dTru_lst, dTy_non, dTy_bl, dTy_int, dTy_str, dTy_tup, dTy_lst, isi_ii, isi_ib, isi_tt, isi_bi, isi_bb, isi_ni, isi_nb, isi_nt, isi_ns, isi_nl, isi_si, isi_sb, isi_st, isi_ss, isi_sl, isi_ti, isi_tb, isi_ts, isi_tl, isi_li, isi_lb, isi_lt, isi_ls, isi_ll, isi_it, isi_is, isi_il, isi_bt, isi_bs, isi_bl, binds, bindss, setS, setB, getS, entry, strE, frzE, slS, slF, wipeE, dEq_int, dNe_int, DL.isNon, bRepr, permD, o_dAdd0, o_dAdd1, o_dAdd2, o_dAdd3, o_dSub0, o_dMul0, o_dMul1, o_dMul2, o_dFdiv0, o_dMod0, o_dPow0, o_dShl0, o_dShr0, o_dAnd0, o_dOr0, o_dXor0, o_dLt0, o_dLe0, o_dGt0, o_dGe0, o_dIs0, o_dIsNot0, o_dIs1, o_dIsNot1, o_bLen0, o_bLen1, o_bLen2, o_bLen3, o_bTuple0, o_bTuple1, o_bList0, o_bList1, o_bAbs0, o_bMax20, o_bMin20, o_bInt0, o_bInt1, o_bBool0, o_bBool1, o_bBool2, o_bDivmod0, o_bGcd0, o_bStr0, o_bAll0, o_bAny0, o_bSum0, o_bSum1, o_bSort0, o_bSort1, o_bMax10, o_bMax11, o_bMin10, o_bMin11, o_bRepr0, o_dIx0, o_dIx1, o_dIx2, o_dIx3, o_dIx4, o_iEn0, o_iEn1, o_iZp0, o_iZp1, o_iR30, o_iR10, o_iR20, o_dRev0, o_dRev1, o_rg1, o_rg2, o_rg3, o_rg4, o_dLs0, o_dLs1, o_dSl0, o_dSl1, o_dSl2, o_dSl3, o_dNeg, o_dEqs, o_dNes, List.map_cons, List.map_nil, List.length_cons, List.length_nil, List.foldl_cons, List.foldl_nil, List.getElem?_cons_zero, List.getElem?_cons_succ, List.getElem?_nil, List.set_cons_zero, List.set_cons_succ, List.replicate, List.append_nil, List.nil_append, List.cons_append, Option.join_some, Option.join_none, Option.bind_some, id_eq, Nat.sub_self, Nat.add_sub_cancel, Nat.reduceAdd, Nat.reduceSub, Option.getD_some, List.getD_cons_zero, List.getD_cons_succ, List.getD_nil, Bool.not_true, Bool.not_false, Bool.false_eq_true, true_and, and_true, Bool.true_and, Bool.and_true, reduceCtorEq, if_false, if_true, decide_true, decide_false, Nat.zero_add, Nat.le_refl, sg__law_deal, Sp__law_deal, sg__law_divisor, Sp__law_divisor, sg__law_any, Sp__law_any, sg__law_shuffled, Sp__law_shuffled, sg_is_full_turn, Sp_is_full_turn, sg_is_double_turn, Sp_is_double_turn]
        refine ⟨by omega, ?_⟩
        rw [rng_zr]
        refine turns_Z (fun _ => true) (fun k => .int ((k + gI ns k) % c)) (fun k hk Q' q => q) (fun k hk _ Q' q => ?_) (by rw [zr_len]; simp only [List.length_nil, LIM]; omega) ?_
        · rw [mem_zr] at hk
          simp only [bodyW, Hd_cons, ↓e_stuck, ↓e_var, ↓e_non, ↓e_bl, ↓e_int, ↓e_str, ↓e_kt, ↓e_bin, ↓e_chain, ↓e_and, ↓e_or, ↓e_not, ↓e_neg, ↓e_ite, ↓e_tup, ↓e_lst, ↓e_call, ↓e_callP, ↓e_callQ, ↓e_callV, ↓e_callL, ↓e_callK, ↓e_blt, ↓e_isi, ↓e_ix, ↓e_rev, ↓e_lenset, ↓e_rgv, ↓e_sl, ↓e_part0, ↓e_part1, ↓e_comp, ↓e_comp2, wComp2, ↓e_nil, ↓e_cons, ↓e_star, ↓t_yes, ↓t_val, ↓t_not, ↓t_and, ↓t_or, ↓i_items, ↓i_rng1, ↓i_rng2, ↓i_rng3, ↓i_enum, ↓i_zip, ↓s_seq, ↓s_ret, ↓s_exp, ↓s_asg, ↓s_asgF, ↓s_own, ↓s_par, ↓s_retW, ↓s_for, ↓s_forR, ↓p_nil, ↓p_im, ↓p_ow, ↓p_owM, ↓p_owL, ↓u_stuck, ↓u_next, ↓u_brk, ↓u_cnt, ↓u_retN, ↓u_ifs, u_fz, u_app, u_appF, u_put, u_putF, u_asgI, wAsgI, u_while, u_ownM, u_ownA, u_ownC, u_ownL, u_appP, u_put2, wOwnL, wAppP, wPut2, u_wput, u_wdm, wLC, wFz, wApp, wAppF, wPut, wPutF, wOwnM, wOwnA, setP, wComp, wYes, wWput, wWdm, capt, bo, blt, dTru_non, dTru_bl, dTru_int, dTru_tup, dTru_lst, dTy_non, dTy_bl, dTy_int, dTy_str, dTy_tup, dTy_lst, isi_ii, isi_ib, isi_tt, isi_bi, isi_bb, isi_ni, isi_nb, isi_nt, isi_ns, isi_nl, isi_si, isi_sb, isi_st, isi_ss, isi_sl, isi_ti, isi_tb, isi_ts, isi_tl, isi_li, isi_lb, isi_lt, isi_ls, isi_ll, isi_it, isi_is, isi_il, isi_bt, isi_bs, isi_bl, binds, bindss, setS, setB, getS, entry, strE, frzE, slS, slF, wipeE, dEq_int, dNe_int, DL.isNon, bRepr, permD, o_dAdd0, o_dAdd1, o_dAdd2, o_dAdd3, o_dSub0, o_dMul0, o_dMul1, o_dMul2, o_dFdiv0, o_dMod0, o_dPow0, o_dShl0, o_dShr0, o_dAnd0, o_dOr0, o_dXor0, o_dLt0, o_dLe0, o_dGt0, o_dGe0, o_dIs0, o_dIsNot0, o_dIs1, o_dIsNot1, o_bLen0, o_bLen1, o_bLen2, o_bLen3, o_bTuple0, o_bTuple1, o_bList0, o_bList1, o_bAbs0, o_bMax20, o_bMin20, o_bInt0, o_bInt1, o_bBool0, o_bBool1, o_bBool2, o_bDivmod0, o_bGcd0, o_bStr0, o_bAll0, o_bAny0, o_bSum0, o_bSum1, o_bSort0, o_bSort1, o_bMax10, o_bMax11, o_bMin10, o_bMin11, o_bRepr0, o_dIx0, o_dIx1, o_dIx2, o_dIx3, o_dIx4, o_iEn0, o_iEn1, o_iZp0, o_iZp1, o_iR30, o_iR10, o_iR20, o_dRev0, o_dRev1, o_rg1, o_rg2, o_rg3, o_rg4, o_dLs0, o_dLs1, o_dSl0, o_dSl1, o_dSl2, o_dSl3, o_dNeg, o_dEqs, o_dNes, List.map_cons, List.map_nil, List.length_cons, List.length_nil, List.foldl_cons, List.foldl_nil, List.getElem?_cons_zero, List.getElem?_cons_succ, List.getElem?_nil, List.set_cons_zero, List.set_cons_succ, List.replicate, List.append_nil, List.nil_append, List.cons_append, Option.join_some, Option.join_none, Option.bind_some, id_eq, Nat.sub_self, Nat.add_sub_cancel, Nat.reduceAdd, Nat.reduceSub, Option.getD_some, List.getD_cons_zero, List.getD_cons_succ, List.getD_nil, Bool.not_true, Bool.not_false, Bool.false_eq_true, true_and, and_true, Bool.true_and, Bool.and_true, reduceCtorEq, if_false, if_true, decide_true, decide_false, Nat.zero_add, Nat.le_refl]
          rw [atI_gI (by omega) (by omega)]
          simp only [bodyW, Hd_cons, ↓e_stuck, ↓e_var, ↓e_non, ↓e_bl, ↓e_int, ↓e_str, ↓e_kt, ↓e_bin, ↓e_chain, ↓e_and, ↓e_or, ↓e_not, ↓e_neg, ↓e_ite, ↓e_tup, ↓e_lst, ↓e_call, ↓e_callP, ↓e_callQ, ↓e_callV, ↓e_callL, ↓e_callK, ↓e_blt, ↓e_isi, ↓e_ix, ↓e_rev, ↓e_lenset, ↓e_rgv, ↓e_sl, ↓e_part0, ↓e_part1, ↓e_comp, ↓e_comp2, wComp2, ↓e_nil, ↓e_cons, ↓e_star, ↓t_yes, ↓t_val, ↓t_not, ↓t_and, ↓t_or, ↓i_items, ↓i_rng1, ↓i_rng2, ↓i_rng3, ↓i_enum, ↓i_zip, ↓s_seq, ↓s_ret, ↓s_exp, ↓s_asg, ↓s_asgF, ↓s_own, ↓s_par, ↓s_retW, ↓s_for, ↓s_forR, ↓p_nil, ↓p_im, ↓p_ow, ↓p_owM, ↓p_owL, ↓u_stuck, ↓u_next, ↓u_brk, ↓u_cnt, ↓u_retN, ↓u_ifs, u_fz, u_app, u_appF, u_put, u_putF, u_asgI, wAsgI, u_while, u_ownM, u_ownA, u_ownC, u_ownL, u_appP, u_put2, wOwnL, wAppP, wPut2, u_wput, u_wdm, wLC, wFz, wApp, wAppF, wPut, wPutF, wOwnM, wOwnA, setP, wComp, wYes, wWput, wWdm, capt, bo, blt, dTru_non, dTru_bl, dTru_int, dTru_tup, dTru_lst, dTy_non, dTy_bl, dTy_int, dTy_str, dTy_tup, dTy_lst, isi_ii, isi_ib, isi_tt, isi_bi, isi_bb, isi_ni, isi_nb, isi_nt, isi_ns, isi_nl, isi_si, isi_sb, isi_st, isi_ss, isi_sl, isi_ti, isi_tb, isi_ts, isi_tl, isi_li, isi_lb, isi_lt, isi_ls, isi_ll, isi_it, isi_is, isi_il, isi_bt, isi_bs, isi_bl, binds, bindss, setS, setB, getS, entry, strE, frzE, slS, slF, wipeE, dEq_int, dNe_int, DL.isNon, bRepr, permD, o_dAdd0, o_dAdd1, o_dAdd2, o_dAdd3, o_dSub0, o_dMul0, o_dMul1, o_dMul2, o_dFdiv0, o_dMod0, o_dPow0, o_dShl0, o_dShr0, o_dAnd0, o_dOr0, o_dXor0, o_dLt0, o_dLe0, o_dGt0, o_dGe0, o_dIs0, o_dIsNot0, o_dIs1, o_dIsNot1, o_bLen0, o_bLen1, o_bLen2, o_bLen3, o_bTuple0, o_bTuple1, o_bList0, o_bList1, o_bAbs0, o_bMax20, o_bMin20, o_bInt0, o_bInt1, o_bBool0, o_bBool1, o_bBool2, o_bDivmod0, o_bGcd0, o_bStr0, o_bAll0, o_bAny0, o_bSum0, o_bSum1, o_bSort0, o_bSort1, o_bMax10, o_bMax11, o_bMin10, o_bMin11, o_bRepr0, o_dIx0, o_dIx1, o_dIx2, o_dIx3, o_dIx4, o_iEn0, o_iEn1, o_iZp0, o_iZp1, o_iR30, o_iR10, o_iR20, o_dRev0, o_dRev1, o_rg1, o_rg2, o_rg3, o_rg4, o_dLs0, o_dLs1, o_dSl0, o_dSl1, o_dSl2, o_dSl3, o_dNeg, o_dEqs, o_dNes, List.map_cons, List.map_nil, List.length_cons, List.length_nil, List.foldl_cons, List.foldl_nil, List.getElem?_cons_zero, List.getElem?_cons_succ, List.getElem?_nil, List.set_cons_zero, List.set_cons_succ, List.replicate, List.append_nil, List.nil_append, List.cons_append, Option.join_some, Option.join_none, Option.bind_some, id_eq, Nat.sub_self, Nat.add_sub_cancel, Nat.reduceAdd, Nat.reduceSub, Option.getD_some, List.getD_cons_zero, List.getD_cons_succ, List.getD_nil, Bool.not_true, Bool.not_false, Bool.false_eq_true, true_and, and_true, Bool.true_and, Bool.and_true, reduceCtorEq, if_false, if_true, decide_true, decide_false, Nat.zero_add, Nat.le_refl]
          exact ⟨by omega, q⟩
        rw [filter_all, List.nil_append, show (zr 0 c.toNat).map (fun k => D.int ((k + gI ns k) % c)) = (fuL c ns).map .int from by unfold fuL; rw [List.map_map, hl]; rfl]
        rw [intsOf_map]
        refine ⟨by omega, ?_⟩
        rw [show (((LM.ddup (fuL c ns)).length : Int) == c) = unl (fuL c ns) from by unfold unl; rw [lF]]
        rw [Hd_cons]
        simp only [bodyW, ↓e_stuck, ↓e_var, ↓e_non, ↓e_bl, ↓e_int, ↓e_str, ↓e_kt, ↓e_bin, ↓e_chain, ↓e_and, ↓e_or, ↓e_not, ↓e_neg, ↓e_ite, ↓e_tup, ↓e_lst, ↓e_call, ↓e_callP, ↓e_callQ, ↓e_callV, ↓e_callL, ↓e_callK, ↓e_blt, ↓e_isi, ↓e_ix, ↓e_rev, ↓e_lenset, ↓e_rgv, ↓e_sl, ↓e_part0, ↓e_part1, ↓e_comp, ↓e_comp2, wComp2, ↓e_nil, ↓e_cons, ↓e_star, ↓t_yes, ↓t_val, ↓t_not, ↓t_and, ↓t_or, ↓i_items, ↓i_rng1, ↓i_rng2, ↓i_rng3, ↓i_enum, ↓i_zip, ↓s_seq, ↓s_ret, ↓s_exp, ↓s_asg, ↓s_asgF, ↓s_own, ↓s_par, ↓s_retW, ↓s_for, ↓s_forR, ↓p_nil, ↓p_im, ↓p_ow, ↓p_owM, ↓p_owL, ↓u_stuck, ↓u_next, ↓u_brk, ↓u_cnt, ↓u_retN, ↓u_ifs, u_fz, u_app, u_appF, u_put, u_putF, u_asgI, wAsgI, u_while, u_ownM, u_ownA, u_ownC, u_ownL, u_appP, u_put2, wOwnL, wAppP, wPut2, u_wput, u_wdm, wLC, wFz, wApp, wAppF, wPut, wPutF, wOwnM, wOwnA, setP, wComp, wYes, wWput, wWdm, capt, bo, blt, dTru_non, dTru_bl, dTru_int, dTru_tup, dTru_lst, dTy_non, dTy_bl, dTy_int, dTy_str, dTy_tup, dTy_lst, isi_ii, isi_ib, isi_tt, isi_bi, isi_bb, isi_ni, isi_nb, isi_nt, isi_ns, isi_nl, isi_si, isi_sb, isi_st, isi_ss, isi_sl, isi_ti, isi_tb, isi_ts, isi_tl, isi_li, isi_lb, isi_lt, isi_ls, isi_ll, isi_it, isi_is, isi_il, isi_bt, isi_bs, isi_bl, binds, bindss, setS, setB, getS, entry, strE, frzE, slS, slF, wipeE, dEq_int, dNe_int, DL.isNon, bRepr, permD, o_dAdd0, o_dAdd1, o_dAdd2, o_dAdd3, o_dSub0, o_dMul0, o_dMul1, o_dMul2, o_dFdiv0, o_dMod0, o_dPow0, o_dShl0, o_dShr0, o_dAnd0, o_dOr0, o_dXor0, o_dLt0, o_dLe0, o_dGt0, o_dGe0, o_dIs0, o_dIsNot0, o_dIs1, o_dIsNot1, o_bLen0, o_bLen1, o_bLen2, o_bLen3, o_bTuple0, o_bTuple1, o_bList0, o_bList1, o_bAbs0, o_bMax20, o_bMin20, o_bInt0, o_bInt1, o_bBool0, o_bBool1, o_bBool2, o_bDivmod0, o_bGcd0, o_bStr0, o_bAll0, o_bAny0, o_bSum0, o_bSum1, o_bSort0, o_bSort1, o_bMax10, o_bMax11, o_bMin10, o_bMin11, o_bRepr0, o_dIx0, o_dIx1, o_dIx2, o_dIx3, o_dIx4, o_iEn0, o_iEn1, o_iZp0, o_iZp1, o_iR30, o_iR10, o_iR20, o_dRev0, o_dRev1, o_rg1, o_rg2, o_rg3, o_rg4, o_dLs0, o_dLs1, o_dSl0, o_dSl1, o_dSl2, o_dSl3, o_dNeg, o_dEqs, o_dNes, List.map_cons, List.map_nil, List.length_cons, List.length_nil, List.foldl_cons, List.foldl_nil, List.getElem?_cons_zero, List.getElem?_cons_succ, List.getElem?_nil, List.set_cons_zero, List.set_cons_succ, List.replicate, List.append_nil, List.nil_append, List.cons_append, Option.join_some, Option.join_none, Option.bind_some, id_eq, Nat.sub_self, Nat.add_sub_cancel, Nat.reduceAdd, Nat.reduceSub, Option.getD_some, List.getD_cons_zero, List.getD_cons_succ, List.getD_nil, Bool.not_true, Bool.not_false, Bool.false_eq_true, true_and, and_true, Bool.true_and, Bool.and_true, reduceCtorEq, if_false, if_true, decide_true, decide_false, Nat.zero_add, Nat.le_refl, sg__law_deal, Sp__law_deal, sg__law_divisor, Sp__law_divisor, sg__law_any, Sp__law_any, sg__law_shuffled, Sp__law_shuffled, sg_is_full_turn, Sp_is_full_turn, sg_is_double_turn, Sp_is_double_turn]
        cases hf : unl (fuL c ns) with
        | false => 
          simp only [bodyW, ↓e_stuck, ↓e_var, ↓e_non, ↓e_bl, ↓e_int, ↓e_str, ↓e_kt, ↓e_bin, ↓e_chain, ↓e_and, ↓e_or, ↓e_not, ↓e_neg, ↓e_ite, ↓e_tup, ↓e_lst, ↓e_call, ↓e_callP, ↓e_callQ, ↓e_callV, ↓e_callL, ↓e_callK, ↓e_blt, ↓e_isi, ↓e_ix, ↓e_rev, ↓e_lenset, ↓e_rgv, ↓e_sl, ↓e_part0, ↓e_part1, ↓e_comp, ↓e_comp2, wComp2, ↓e_nil, ↓e_cons, ↓e_star, ↓t_yes, ↓t_val, ↓t_not, ↓t_and, ↓t_or, ↓i_items, ↓i_rng1, ↓i_rng2, ↓i_rng3, ↓i_enum, ↓i_zip, ↓s_seq, ↓s_ret, ↓s_exp, ↓s_asg, ↓s_asgF, ↓s_own, ↓s_par, ↓s_retW, ↓s_for, ↓s_forR, ↓p_nil, ↓p_im, ↓p_ow, ↓p_owM, ↓p_owL, ↓u_stuck, ↓u_next, ↓u_brk, ↓u_cnt, ↓u_retN, ↓u_ifs, u_fz, u_app, u_appF, u_put, u_putF, u_asgI, wAsgI, u_while, u_ownM, u_ownA, u_ownC, u_ownL, u_appP, u_put2, wOwnL, wAppP, wPut2, u_wput, u_wdm, wLC, wFz, wApp, wAppF, wPut, wPutF, wOwnM, wOwnA, setP, wComp, wYes, wWput, wWdm, capt, bo, blt, dTru_non, dTru_bl, dTru_int, dTru_tup, dTru_lst, dTy_non, dTy_bl, dTy_int, dTy_str, dTy_tup, dTy_lst, isi_ii, isi_ib, isi_tt, isi_bi, isi_bb, isi_ni, isi_nb, isi_nt, isi_ns, isi_nl, isi_si, isi_sb, isi_st, isi_ss, isi_sl, isi_ti, isi_tb, isi_ts, isi_tl, isi_li, isi_lb, isi_lt, isi_ls, isi_ll, isi_it, isi_is, isi_il, isi_bt, isi_bs, isi_bl, binds, bindss, setS, setB, getS, entry, strE, frzE, slS, slF, wipeE, dEq_int, dNe_int, DL.isNon, bRepr, permD, o_dAdd0, o_dAdd1, o_dAdd2, o_dAdd3, o_dSub0, o_dMul0, o_dMul1, o_dMul2, o_dFdiv0, o_dMod0, o_dPow0, o_dShl0, o_dShr0, o_dAnd0, o_dOr0, o_dXor0, o_dLt0, o_dLe0, o_dGt0, o_dGe0, o_dIs0, o_dIsNot0, o_dIs1, o_dIsNot1, o_bLen0, o_bLen1, o_bLen2, o_bLen3, o_bTuple0, o_bTuple1, o_bList0, o_bList1, o_bAbs0, o_bMax20, o_bMin20, o_bInt0, o_bInt1, o_bBool0, o_bBool1, o_bBool2, o_bDivmod0, o_bGcd0, o_bStr0, o_bAll0, o_bAny0, o_bSum0, o_bSum1, o_bSort0, o_bSort1, o_bMax10, o_bMax11, o_bMin10, o_bMin11, o_bRepr0, o_dIx0, o_dIx1, o_dIx2, o_dIx3, o_dIx4, o_iEn0, o_iEn1, o_iZp0, o_iZp1, o_iR30, o_iR10, o_iR20, o_dRev0, o_dRev1, o_rg1, o_rg2, o_rg3, o_rg4, o_dLs0, o_dLs1, o_dSl0, o_dSl1, o_dSl2, o_dSl3, o_dNeg, o_dEqs, o_dNes, List.map_cons, List.map_nil, List.length_cons, List.length_nil, List.foldl_cons, List.foldl_nil, List.getElem?_cons_zero, List.getElem?_cons_succ, List.getElem?_nil, List.set_cons_zero, List.set_cons_succ, List.replicate, List.append_nil, List.nil_append, List.cons_append, Option.join_some, Option.join_none, Option.bind_some, id_eq, Nat.sub_self, Nat.add_sub_cancel, Nat.reduceAdd, Nat.reduceSub, Option.getD_some, List.getD_cons_zero, List.getD_cons_succ, List.getD_nil, Bool.not_true, Bool.not_false, Bool.false_eq_true, true_and, and_true, Bool.true_and, Bool.and_true, reduceCtorEq, if_false, if_true, decide_true, decide_false, Nat.zero_add, Nat.le_refl, sg__law_deal, Sp__law_deal, sg__law_divisor, Sp__law_divisor, sg__law_any, Sp__law_any, sg__law_shuffled, Sp__law_shuffled, sg_is_full_turn, Sp_is_full_turn, sg_is_double_turn, Sp_is_double_turn]
          rw [Hd_cons]
          simp only [bodyW, ↓e_stuck, ↓e_var, ↓e_non, ↓e_bl, ↓e_int, ↓e_str, ↓e_kt, ↓e_bin, ↓e_chain, ↓e_and, ↓e_or, ↓e_not, ↓e_neg, ↓e_ite, ↓e_tup, ↓e_lst, ↓e_call, ↓e_callP, ↓e_callQ, ↓e_callV, ↓e_callL, ↓e_callK, ↓e_blt, ↓e_isi, ↓e_ix, ↓e_rev, ↓e_lenset, ↓e_rgv, ↓e_sl, ↓e_part0, ↓e_part1, ↓e_comp, ↓e_comp2, wComp2, ↓e_nil, ↓e_cons, ↓e_star, ↓t_yes, ↓t_val, ↓t_not, ↓t_and, ↓t_or, ↓i_items, ↓i_rng1, ↓i_rng2, ↓i_rng3, ↓i_enum, ↓i_zip, ↓s_seq, ↓s_ret, ↓s_exp, ↓s_asg, ↓s_asgF, ↓s_own, ↓s_par, ↓s_retW, ↓s_for, ↓s_forR, ↓p_nil, ↓p_im, ↓p_ow, ↓p_owM, ↓p_owL, ↓u_stuck, ↓u_next, ↓u_brk, ↓u_cnt, ↓u_retN, ↓u_ifs, u_fz, u_app, u_appF, u_put, u_putF, u_asgI, wAsgI, u_while, u_ownM, u_ownA, u_ownC, u_ownL, u_appP, u_put2, wOwnL, wAppP, wPut2, u_wput, u_wdm, wLC, wFz, wApp, wAppF, wPut, wPutF, wOwnM, wOwnA, setP, wComp, wYes, wWput, wWdm, capt, bo, blt, dTru_non, dTru_bl, dTru_int, dTru_tup, dTru_lst, dTy_non, dTy_bl, dTy_int, dTy_str, dTy_tup, dTy_lst, isi_ii, isi_ib, isi_tt, isi_bi, isi_bb, isi_ni, isi_nb, isi_nt, isi_ns, isi_nl, isi_si, isi_sb, isi_st, isi_ss, isi_sl, isi_ti, isi_tb, isi_ts, isi_tl, isi_li, isi_lb, isi_lt, isi_ls, isi_ll, isi_it, isi_is, isi_il, isi_bt, isi_bs, isi_bl, binds, bindss, setS, setB, getS, entry, strE, frzE, slS, slF, wipeE, dEq_int, dNe_int, DL.isNon, bRepr, permD, o_dAdd0, o_dAdd1, o_dAdd2, o_dAdd3, o_dSub0, o_dMul0, o_dMul1, o_dMul2, o_dFdiv0, o_dMod0, o_dPow0, o_dShl0, o_dShr0, o_dAnd0, o_dOr0, o_dXor0, o_dLt0, o_dLe0, o_dGt0, o_dGe0, o_dIs0, o_dIsNot0, o_dIs1, o_dIsNot1, o_bLen0, o_bLen1, o_bLen2, o_bLen3, o_bTuple0, o_bTuple1, o_bList0, o_bList1, o_bAbs0, o_bMax20, o_bMin20, o_bInt0, o_bInt1, o_bBool0, o_bBool1, o_bBool2, o_bDivmod0, o_bGcd0, o_bStr0, o_bAll0, o_bAny0, o_bSum0, o_bSum1, o_bSort0, o_bSort1, o_bMax10, o_bMax11, o_bMin10, o_bMin11, o_bRepr0, o_dIx0, o_dIx1, o_dIx2, o_dIx3, o_dIx4, o_iEn0, o_iEn1, o_iZp0, o_iZp1, o_iR30, o_iR10, o_iR20, o_dRev0, o_dRev1, o_rg1, o_rg2, o_rg3, o_rg4, o_dLs0, o_dLs1, o_dSl0, o_dSl1, o_dSl2, o_dSl3, o_dNeg, o_dEqs, o_dNes, List.map_cons, List.map_nil, List.length_cons, List.length_nil, List.foldl_cons, List.foldl_nil, List.getElem?_cons_zero, List.getElem?_cons_succ, List.getElem?_nil, List.set_cons_zero, List.set_cons_succ, List.replicate, List.append_nil, List.nil_append, List.cons_append, Option.join_some, Option.join_none, Option.bind_some, id_eq, Nat.sub_self, Nat.add_sub_cancel, Nat.reduceAdd, Nat.reduceSub, Option.getD_some, List.getD_cons_zero, List.getD_cons_succ, List.getD_nil, Bool.not_true, Bool.not_false, Bool.false_eq_true, true_and, and_true, Bool.true_and, Bool.and_true, reduceCtorEq, if_false, if_true, decide_true, decide_false, Nat.zero_add, Nat.le_refl, sg__law_deal, Sp__law_deal, sg__law_divisor, Sp__law_divisor, sg__law_any, Sp__law_any, sg__law_shuffled, Sp__law_shuffled, sg_is_full_turn, Sp_is_full_turn, sg_is_double_turn, Sp_is_double_turn, SpO]
          refine ⟨ns, rfl, ho, hc, ns, rfl, ho, hc, by decide, ?_⟩
          rw [Hd_cons]
          simp only [bodyW, ↓e_stuck, ↓e_var, ↓e_non, ↓e_bl, ↓e_int, ↓e_str, ↓e_kt, ↓e_bin, ↓e_chain, ↓e_and, ↓e_or, ↓e_not, ↓e_neg, ↓e_ite, ↓e_tup, ↓e_lst, ↓e_call, ↓e_callP, ↓e_callQ, ↓e_callV, ↓e_callL, ↓e_callK, ↓e_blt, ↓e_isi, ↓e_ix, ↓e_rev, ↓e_lenset, ↓e_rgv, ↓e_sl, ↓e_part0, ↓e_part1, ↓e_comp, ↓e_comp2, wComp2, ↓e_nil, ↓e_cons, ↓e_star, ↓t_yes, ↓t_val, ↓t_not, ↓t_and, ↓t_or, ↓i_items, ↓i_rng1, ↓i_rng2, ↓i_rng3, ↓i_enum, ↓i_zip, ↓s_seq, ↓s_ret, ↓s_exp, ↓s_asg, ↓s_asgF, ↓s_own, ↓s_par, ↓s_retW, ↓s_for, ↓s_forR, ↓p_nil, ↓p_im, ↓p_ow, ↓p_owM, ↓p_owL, ↓u_stuck, ↓u_next, ↓u_brk, ↓u_cnt, ↓u_retN, ↓u_ifs, u_fz, u_app, u_appF, u_put, u_putF, u_asgI, wAsgI, u_while, u_ownM, u_ownA, u_ownC, u_ownL, u_appP, u_put2, wOwnL, wAppP, wPut2, u_wput, u_wdm, wLC, wFz, wApp, wAppF, wPut, wPutF, wOwnM, wOwnA, setP, wComp, wYes, wWput, wWdm, capt, bo, blt, dTru_non, dTru_bl, dTru_int, dTru_tup, dTru_lst, dTy_non, dTy_bl, dTy_int, dTy_str, dTy_tup, dTy_lst, isi_ii, isi_ib, isi_tt, isi_bi, isi_bb, isi_ni, isi_nb, isi_nt, isi_ns, isi_nl, isi_si, isi_sb, isi_st, isi_ss, isi_sl, isi_ti, isi_tb, isi_ts, isi_tl, isi_li, isi_lb, isi_lt, isi_ls, isi_ll, isi_it, isi_is, isi_il, isi_bt, isi_bs, isi_bl, binds, bindss, setS, setB, getS, entry, strE, frzE, slS, slF, wipeE, dEq_int, dNe_int, DL.isNon, bRepr, permD, o_dAdd0, o_dAdd1, o_dAdd2, o_dAdd3, o_dSub0, o_dMul0, o_dMul1, o_dMul2, o_dFdiv0, o_dMod0, o_dPow0, o_dShl0, o_dShr0, o_dAnd0, o_dOr0, o_dXor0, o_dLt0, o_dLe0, o_dGt0, o_dGe0, o_dIs0, o_dIsNot0, o_dIs1, o_dIsNot1, o_bLen0, o_bLen1, o_bLen2, o_bLen3, o_bTuple0, o_bTuple1, o_bList0, o_bList1, o_bAbs0, o_bMax20, o_bMin20, o_bInt0, o_bInt1, o_bBool0, o_bBool1, o_bBool2, o_bDivmod0, o_bGcd0, o_bStr0, o_bAll0, o_bAny0, o_bSum0, o_bSum1, o_bSort0, o_bSort1, o_bMax10, o_bMax11, o_bMin10, o_bMin11, o_bRepr0, o_dIx0, o_dIx1, o_dIx2, o_dIx3, o_dIx4, o_iEn0, o_iEn1, o_iZp0, o_iZp1, o_iR30, o_iR10, o_iR20, o_dRev0, o_dRev1, o_rg1, o_rg2, o_rg3, o_rg4, o_dLs0, o_dLs1, o_dSl0, o_dSl1, o_dSl2, o_dSl3, o_dNeg, o_dEqs, o_dNes, List.map_cons, List.map_nil, List.length_cons, List.length_nil, List.foldl_cons, List.foldl_nil, List.getElem?_cons_zero, List.getElem?_cons_succ, List.getElem?_nil, List.set_cons_zero, List.set_cons_succ, List.replicate, List.append_nil, List.nil_append, List.cons_append, Option.join_some, Option.join_none, Option.bind_some, id_eq, Nat.sub_self, Nat.add_sub_cancel, Nat.reduceAdd, Nat.reduceSub, Option.getD_some, List.getD_cons_zero, List.getD_cons_succ, List.getD_nil, Bool.not_true, Bool.not_false, Bool.false_eq_true, true_and, and_true, Bool.true_and, Bool.and_true, reduceCtorEq, if_false, if_true, decide_true, decide_false, Nat.zero_add, Nat.le_refl, sg__law_deal, Sp__law_deal, sg__law_divisor, Sp__law_divisor, sg__law_any, Sp__law_any, sg__law_shuffled, Sp__law_shuffled, sg_is_full_turn, Sp_is_full_turn, sg_is_double_turn, Sp_is_double_turn, SpO]
          refine ⟨ns, rfl, ho, hc, ns, rfl, ho, hc, by decide, ?_⟩
          rw [Hd_cons]
          simp only [bodyW, ↓e_stuck, ↓e_var, ↓e_non, ↓e_bl, ↓e_int, ↓e_str, ↓e_kt, ↓e_bin, ↓e_chain, ↓e_and, ↓e_or, ↓e_not, ↓e_neg, ↓e_ite, ↓e_tup, ↓e_lst, ↓e_call, ↓e_callP, ↓e_callQ, ↓e_callV, ↓e_callL, ↓e_callK, ↓e_blt, ↓e_isi, ↓e_ix, ↓e_rev, ↓e_lenset, ↓e_rgv, ↓e_sl, ↓e_part0, ↓e_part1, ↓e_comp, ↓e_comp2, wComp2, ↓e_nil, ↓e_cons, ↓e_star, ↓t_yes, ↓t_val, ↓t_not, ↓t_and, ↓t_or, ↓i_items, ↓i_rng1, ↓i_rng2, ↓i_rng3, ↓i_enum, ↓i_zip, ↓s_seq, ↓s_ret, ↓s_exp, ↓s_asg, ↓s_asgF, ↓s_own, ↓s_par, ↓s_retW, ↓s_for, ↓s_forR, ↓p_nil, ↓p_im, ↓p_ow, ↓p_owM, ↓p_owL, ↓u_stuck, ↓u_next, ↓u_brk, ↓u_cnt, ↓u_retN, ↓u_ifs, u_fz, u_app, u_appF, u_put, u_putF, u_asgI, wAsgI, u_while, u_ownM, u_ownA, u_ownC, u_ownL, u_appP, u_put2, wOwnL, wAppP, wPut2, u_wput, u_wdm, wLC, wFz, wApp, wAppF, wPut, wPutF, wOwnM, wOwnA, setP, wComp, wYes, wWput, wWdm, capt, bo, blt, dTru_non, dTru_bl, dTru_int, dTru_tup, dTru_lst, dTy_non, dTy_bl, dTy_int, dTy_str, dTy_tup, dTy_lst, isi_ii, isi_ib, isi_tt, isi_bi, isi_bb, isi_ni, isi_nb, isi_nt, isi_ns, isi_nl, isi_si, isi_sb, isi_st, isi_ss, isi_sl, isi_ti, isi_tb, isi_ts, isi_tl, isi_li, isi_lb, isi_lt, isi_ls, isi_ll, isi_it, isi_is, isi_il, isi_bt, isi_bs, isi_bl, binds, bindss, setS, setB, getS, entry, strE, frzE, slS, slF, wipeE, dEq_int, dNe_int, DL.isNon, bRepr, permD, o_dAdd0, o_dAdd1, o_dAdd2, o_dAdd3, o_dSub0, o_dMul0, o_dMul1, o_dMul2, o_dFdiv0, o_dMod0, o_dPow0, o_dShl0, o_dShr0, o_dAnd0, o_dOr0, o_dXor0, o_dLt0, o_dLe0, o_dGt0, o_dGe0, o_dIs0, o_dIsNot0, o_dIs1, o_dIsNot1, o_bLen0, o_bLen1, o_bLen2, o_bLen3, o_bTuple0, o_bTuple1, o_bList0, o_bList1, o_bAbs0, o_bMax20, o_bMin20, o_bInt0, o_bInt1, o_bBool0, o_bBool1, o_bBool2, o_bDivmod0, o_bGcd0, o_bStr0, o_bAll0, o_bAny0, o_bSum0, o_bSum1, o_bSort0, o_bSort1, o_bMax10, o_bMax11, o_bMin10, o_bMin11, o_bRepr0, o_dIx0, o_dIx1, o_dIx2, o_dIx3, o_dIx4, o_iEn0, o_iEn1, o_iZp0, o_iZp1, o_iR30, o_iR10, o_iR20, o_dRev0, o_dRev1, o_rg1, o_rg2, o_rg3, o_rg4, o_dLs0, o_dLs1, o_dSl0, o_dSl1, o_dSl2, o_dSl3, o_dNeg, o_dEqs, o_dNes, List.map_cons, List.map_nil, List.length_cons, List.length_nil, List.foldl_cons, List.foldl_nil, List.getElem?_cons_zero, List.getElem?_cons_succ, List.getElem?_nil, List.set_cons_zero, List.set_cons_succ, List.replicate, List.append_nil, List.nil_append, List.cons_append, Option.join_some, Option.join_none, Option.bind_some, id_eq, Nat.sub_self, Nat.add_sub_cancel, Nat.reduceAdd, Nat.reduceSub, Option.getD_some, List.getD_cons_zero, List.getD_cons_succ, List.getD_nil, Bool.not_true, Bool.not_false, Bool.false_eq_true, true_and, and_true, Bool.true_and, Bool.and_true, reduceCtorEq, if_false, if_true, decide_true, decide_false, Nat.zero_add, Nat.le_refl, sg__law_deal, Sp__law_deal, sg__law_divisor, Sp__law_divisor, sg__law_any, Sp__law_any, sg__law_shuffled, Sp__law_shuffled, sg_is_full_turn, Sp_is_full_turn, sg_is_double_turn, Sp_is_double_turn, SpO]
          have rk : ∀ a b : Bool, reprOk (.lst [.lst [.bl a, .bl b], .lst [.bl a, .bl b]]) := fun a b => reprOk_of (by simp [sm, sms]) (by simp [dpt, dpts]) (by simp [wt, wts])
          rw [show ∀ b : Bool, (List.replicate (Int.toNat 2) [D.lst [.bl false, .bl b]]).flatten = [D.lst [.bl false, .bl b], D.lst [.bl false, .bl b]] from fun _ => rfl]
          simp only [hf, Bool.false_and, Bool.true_and]
          refine ⟨by decide, rk _ _, by decide, by decide, ⟨by decide, by decide, by decide⟩, rk _ _, ?_⟩
          simp only [decide_true, Bool.not_true]
          exact hM2 _ ⟨_, _, _, _, _, _, _, _, _, _, _, _, _, _, _, rfl⟩
        | true =>
          simp only [bodyW, ↓e_stuck, ↓e_var, ↓e_non, ↓e_bl, ↓e_int, ↓e_str, ↓e_kt, ↓e_bin, ↓e_chain, ↓e_and, ↓e_or, ↓e_not, ↓e_neg, ↓e_ite, ↓e_tup, ↓e_lst, ↓e_call, ↓e_callP, ↓e_callQ, ↓e_callV, ↓e_callL, ↓e_callK, ↓e_blt, ↓e_isi, ↓e_ix, ↓e_rev, ↓e_lenset, ↓e_rgv, ↓e_sl, ↓e_part0, ↓e_part1, ↓e_comp, ↓e_comp2, wComp2, ↓e_nil, ↓e_cons, ↓e_star, ↓t_yes, ↓t_val, ↓t_not, ↓t_and, ↓t_or, ↓i_items, ↓i_rng1, ↓i_rng2, ↓i_rng3, ↓i_enum, ↓i_zip, ↓s_seq, ↓s_ret, ↓s_exp, ↓s_asg, ↓s_asgF, ↓s_own, ↓s_par, ↓s_retW, ↓s_for, ↓s_forR, ↓p_nil, ↓p_im, ↓p_ow, ↓p_owM, ↓p_owL, ↓u_stuck, ↓u_next, ↓u_brk, ↓u_cnt, ↓u_retN, ↓u_ifs, u_fz, u_app, u_appF, u_put, u_putF, u_asgI, wAsgI, u_while, u_ownM, u_ownA, u_ownC, u_ownL, u_appP, u_put2, wOwnL, wAppP, wPut2, u_wput, u_wdm, wLC, wFz, wApp, wAppF, wPut, wPutF, wOwnM, wOwnA, setP, wComp, wYes, wWput, wWdm, capt, bo, blt, dTru_non, dTru_bl, dTru_int, dTru_tup, dTru_lst, dTy_non, dTy_bl, dTy_int, dTy_str, dTy_tup, dTy_lst, isi_ii, isi_ib, isi_tt, isi_bi, isi_bb, isi_ni, isi_nb, isi_nt, isi_ns, isi_nl, isi_si, isi_sb, isi_st, isi_ss, isi_sl, isi_ti, isi_tb, isi_ts, isi_tl, isi_li, isi_lb, isi_lt, isi_ls, isi_ll, isi_it, isi_is, isi_il, isi_bt, isi_bs, isi_bl, binds, bindss, setS, setB, getS, entry, strE, frzE, slS, slF, wipeE, dEq_int, dNe_int, DL.isNon, bRepr, permD, o_dAdd0, o_dAdd1, o_dAdd2, o_dAdd3, o_dSub0, o_dMul0, o_dMul1, o_dMul2, o_dFdiv0, o_dMod0, o_dPow0, o_dShl0, o_dShr0, o_dAnd0, o_dOr0, o_dXor0, o_dLt0, o_dLe0, o_dGt0, o_dGe0, o_dIs0, o_dIsNot0, o_dIs1, o_dIsNot1, o_bLen0, o_bLen1, o_bLen2, o_bLen3, o_bTuple0, o_bTuple1, o_bList0, o_bList1, o_bAbs0, o_bMax20, o_bMin20, o_bInt0, o_bInt1, o_bBool0, o_bBool1, o_bBool2, o_bDivmod0, o_bGcd0, o_bStr0, o_bAll0, o_bAny0, o_bSum0, o_bSum1, o_bSort0, o_bSort1, o_bMax10, o_bMax11, o_bMin10, o_bMin11, o_bRepr0, o_dIx0, o_dIx1, o_dIx2, o_dIx3, o_dIx4, o_iEn0, o_iEn1, o_iZp0, o_iZp1, o_iR30, o_iR10, o_iR20, o_dRev0, o_dRev1, o_rg1, o_rg2, o_rg3, o_rg4, o_dLs0, o_dLs1, o_dSl0, o_dSl1, o_dSl2, o_dSl3, o_dNeg, o_dEqs, o_dNes, List.map_cons, List.map_nil, List.length_cons, List.length_nil, List.foldl_cons, List.foldl_nil, List.getElem?_cons_zero, List.getElem?_cons_succ, List.getElem?_nil, List.set_cons_zero, List.set_cons_succ, List.replicate, List.append_nil, List.nil_append, List.cons_append, Option.join_some, Option.join_none, Option.bind_some, id_eq, Nat.sub_self, Nat.add_sub_cancel, Nat.reduceAdd, Nat.reduceSub, Option.getD_some, List.getD_cons_zero, List.getD_cons_succ, List.getD_nil, Bool.not_true, Bool.not_false, Bool.false_eq_true, true_and, and_true, Bool.true_and, Bool.and_true, reduceCtorEq, if_false, if_true, decide_true, decide_false, Nat.zero_add, Nat.le_refl, sg__law_deal, Sp__law_deal, sg__law_divisor, Sp__law_divisor, sg__law_any, Sp__law_any, sg__law_shuffled, Sp__law_shuffled, sg_is_full_turn, Sp_is_full_turn, sg_is_double_turn, Sp_is_double_turn]
          refine ⟨by omega, ?_⟩
          rw [rng_zr]
          refine turns_Z (fun _ => true) (fun k => .int ((gI ns k - k) % c)) (fun k hk Q' q => q) (fun k hk _ Q' q => ?_) (by rw [zr_len]; simp only [List.length_nil, LIM]; omega) ?_
          · rw [mem_zr] at hk
            simp only [bodyW, Hd_cons, ↓e_stuck, ↓e_var, ↓e_non, ↓e_bl, ↓e_int, ↓e_str, ↓e_kt, ↓e_bin, ↓e_chain, ↓e_and, ↓e_or, ↓e_not, ↓e_neg, ↓e_ite, ↓e_tup, ↓e_lst, ↓e_call, ↓e_callP, ↓e_callQ, ↓e_callV, ↓e_callL, ↓e_callK, ↓e_blt, ↓e_isi, ↓e_ix, ↓e_rev, ↓e_lenset, ↓e_rgv, ↓e_sl, ↓e_part0, ↓e_part1, ↓e_comp, ↓e_comp2, wComp2, ↓e_nil, ↓e_cons, ↓e_star, ↓t_yes, ↓t_val, ↓t_not, ↓t_and, ↓t_or, ↓i_items, ↓i_rng1, ↓i_rng2, ↓i_rng3, ↓i_enum, ↓i_zip, ↓s_seq, ↓s_ret, ↓s_exp, ↓s_asg, ↓s_asgF, ↓s_own, ↓s_par, ↓s_retW, ↓s_for, ↓s_forR, ↓p_nil, ↓p_im, ↓p_ow, ↓p_owM, ↓p_owL, ↓u_stuck, ↓u_next, ↓u_brk, ↓u_cnt, ↓u_retN, ↓u_ifs, u_fz, u_app, u_appF, u_put, u_putF, u_asgI, wAsgI, u_while, u_ownM, u_ownA, u_ownC, u_ownL, u_appP, u_put2, wOwnL, wAppP, wPut2, u_wput, u_wdm, wLC, wFz, wApp, wAppF, wPut, wPutF, wOwnM, wOwnA, setP, wComp, wYes, wWput, wWdm, capt, bo, blt, dTru_non, dTru_bl, dTru_int, dTru_tup, dTru_lst, dTy_non, dTy_bl, dTy_int, dTy_str, dTy_tup, dTy_lst, isi_ii, isi_ib, isi_tt, isi_bi, isi_bb, isi_ni, isi_nb, isi_nt, isi_ns, isi_nl, isi_si, isi_sb, isi_st, isi_ss, isi_sl, isi_ti, isi_tb, isi_ts, isi_tl, isi_li, isi_lb, isi_lt, isi_ls, isi_ll, isi_it, isi_is, isi_il, isi_bt, isi_bs, isi_bl, binds, bindss, setS, setB, getS, entry, strE, frzE, slS, slF, wipeE, dEq_int, dNe_int, DL.isNon, bRepr, permD, o_dAdd0, o_dAdd1, o_dAdd2, o_dAdd3, o_dSub0, o_dMul0, o_dMul1, o_dMul2, o_dFdiv0, o_dMod0, o_dPow0, o_dShl0, o_dShr0, o_dAnd0, o_dOr0, o_dXor0, o_dLt0, o_dLe0, o_dGt0, o_dGe0, o_dIs0, o_dIsNot0, o_dIs1, o_dIsNot1, o_bLen0, o_bLen1, o_bLen2, o_bLen3, o_bTuple0, o_bTuple1, o_bList0, o_bList1, o_bAbs0, o_bMax20, o_bMin20, o_bInt0, o_bInt1, o_bBool0, o_bBool1, o_bBool2, o_bDivmod0, o_bGcd0, o_bStr0, o_bAll0, o_bAny0, o_bSum0, o_bSum1, o_bSort0, o_bSort1, o_bMax10, o_bMax11, o_bMin10, o_bMin11, o_bRepr0, o_dIx0, o_dIx1, o_dIx2, o_dIx3, o_dIx4, o_iEn0, o_iEn1, o_iZp0, o_iZp1, o_iR30, o_iR10, o_iR20, o_dRev0, o_dRev1, o_rg1, o_rg2, o_rg3, o_rg4, o_dLs0, o_dLs1, o_dSl0, o_dSl1, o_dSl2, o_dSl3, o_dNeg, o_dEqs, o_dNes, List.map_cons, List.map_nil, List.length_cons, List.length_nil, List.foldl_cons, List.foldl_nil, List.getElem?_cons_zero, List.getElem?_cons_succ, List.getElem?_nil, List.set_cons_zero, List.set_cons_succ, List.replicate, List.append_nil, List.nil_append, List.cons_append, Option.join_some, Option.join_none, Option.bind_some, id_eq, Nat.sub_self, Nat.add_sub_cancel, Nat.reduceAdd, Nat.reduceSub, Option.getD_some, List.getD_cons_zero, List.getD_cons_succ, List.getD_nil, Bool.not_true, Bool.not_false, Bool.false_eq_true, true_and, and_true, Bool.true_and, Bool.and_true, reduceCtorEq, if_false, if_true, decide_true, decide_false, Nat.zero_add, Nat.le_refl]
            rw [atI_gI (by omega) (by omega)]
            simp only [bodyW, Hd_cons, ↓e_stuck, ↓e_var, ↓e_non, ↓e_bl, ↓e_int, ↓e_str, ↓e_kt, ↓e_bin, ↓e_chain, ↓e_and, ↓e_or, ↓e_not, ↓e_neg, ↓e_ite, ↓e_tup, ↓e_lst, ↓e_call, ↓e_callP, ↓e_callQ, ↓e_callV, ↓e_callL, ↓e_callK, ↓e_blt, ↓e_isi, ↓e_ix, ↓e_rev, ↓e_lenset, ↓e_rgv, ↓e_sl, ↓e_part0, ↓e_part1, ↓e_comp, ↓e_comp2, wComp2, ↓e_nil, ↓e_cons, ↓e_star, ↓t_yes, ↓t_val, ↓t_not, ↓t_and, ↓t_or, ↓i_items, ↓i_rng1, ↓i_rng2, ↓i_rng3, ↓i_enum, ↓i_zip, ↓s_seq, ↓s_ret, ↓s_exp, ↓s_asg, ↓s_asgF, ↓s_own, ↓s_par, ↓s_retW, ↓s_for, ↓s_forR, ↓p_nil, ↓p_im, ↓p_ow, ↓p_owM, ↓p_owL, ↓u_stuck, ↓u_next, ↓u_brk, ↓u_cnt, ↓u_retN, ↓u_ifs, u_fz, u_app, u_appF, u_put, u_putF, u_asgI, wAsgI, u_while, u_ownM, u_ownA, u_ownC, u_ownL, u_appP, u_put2, wOwnL, wAppP, wPut2, u_wput, u_wdm, wLC, wFz, wApp, wAppF, wPut, wPutF, wOwnM, wOwnA, setP, wComp, wYes, wWput, wWdm, capt, bo, blt, dTru_non, dTru_bl, dTru_int, dTru_tup, dTru_lst, dTy_non, dTy_bl, dTy_int, dTy_str, dTy_tup, dTy_lst, isi_ii, isi_ib, isi_tt, isi_bi, isi_bb, isi_ni, isi_nb, isi_nt, isi_ns, isi_nl, isi_si, isi_sb, isi_st, isi_ss, isi_sl, isi_ti, isi_tb, isi_ts, isi_tl, isi_li, isi_lb, isi_lt, isi_ls, isi_ll, isi_it, isi_is, isi_il, isi_bt, isi_bs, isi_bl, binds, bindss, setS, setB, getS, entry, strE, frzE, slS, slF, wipeE, dEq_int, dNe_int, DL.isNon, bRepr, permD, o_dAdd0, o_dAdd1, o_dAdd2, o_dAdd3, o_dSub0, o_dMul0, o_dMul1, o_dMul2, o_dFdiv0, o_dMod0, o_dPow0, o_dShl0, o_dShr0, o_dAnd0, o_dOr0, o_dXor0, o_dLt0, o_dLe0, o_dGt0, o_dGe0, o_dIs0, o_dIsNot0, o_dIs1, o_dIsNot1, o_bLen0, o_bLen1, o_bLen2, o_bLen3, o_bTuple0, o_bTuple1, o_bList0, o_bList1, o_bAbs0, o_bMax20, o_bMin20, o_bInt0, o_bInt1, o_bBool0, o_bBool1, o_bBool2, o_bDivmod0, o_bGcd0, o_bStr0, o_bAll0, o_bAny0, o_bSum0, o_bSum1, o_bSort0, o_bSort1, o_bMax10, o_bMax11, o_bMin10, o_bMin11, o_bRepr0, o_dIx0, o_dIx1, o_dIx2, o_dIx3, o_dIx4, o_iEn0, o_iEn1, o_iZp0, o_iZp1, o_iR30, o_iR10, o_iR20, o_dRev0, o_dRev1, o_rg1, o_rg2, o_rg3, o_rg4, o_dLs0, o_dLs1, o_dSl0, o_dSl1, o_dSl2, o_dSl3, o_dNeg, o_dEqs, o_dNes, List.map_cons, List.map_nil, List.length_cons, List.length_nil, List.foldl_cons, List.foldl_nil, List.getElem?_cons_zero, List.getElem?_cons_succ, List.getElem?_nil, List.set_cons_zero, List.set_cons_succ, List.replicate, List.append_nil, List.nil_append, List.cons_append, Option.join_some, Option.join_none, Option.bind_some, id_eq, Nat.sub_self, Nat.add_sub_cancel, Nat.reduceAdd, Nat.reduceSub, Option.getD_some, List.getD_cons_zero, List.getD_cons_succ, List.getD_nil, Bool.not_true, Bool.not_false, Bool.false_eq_true, true_and, and_true, Bool.true_and, Bool.and_true, reduceCtorEq, if_false, if_true, decide_true, decide_false, Nat.zero_add, Nat.le_refl]
            exact ⟨by omega, q⟩
          rw [filter_all, List.nil_append, show (zr 0 c.toNat).map (fun k => D.int ((gI ns k - k) % c)) = (doL c ns).map .int from by unfold doL; rw [List.map_map, hl]; rfl]
          rw [intsOf_map]
          refine ⟨by omega, ?_⟩
          rw [show (((LM.ddup (doL c ns)).length : Int) == c) = unl (doL c ns) from by unfold unl; rw [lD]]
          rw [Hd_cons]
          simp only [bodyW, ↓e_stuck, ↓e_var, ↓e_non, ↓e_bl, ↓e_int, ↓e_str, ↓e_kt, ↓e_bin, ↓e_chain, ↓e_and, ↓e_or, ↓e_not, ↓e_neg, ↓e_ite, ↓e_tup, ↓e_lst, ↓e_call, ↓e_callP, ↓e_callQ, ↓e_callV, ↓e_callL, ↓e_callK, ↓e_blt, ↓e_isi, ↓e_ix, ↓e_rev, ↓e_lenset, ↓e_rgv, ↓e_sl, ↓e_part0, ↓e_part1, ↓e_comp, ↓e_comp2, wComp2, ↓e_nil, ↓e_cons, ↓e_star, ↓t_yes, ↓t_val, ↓t_not, ↓t_and, ↓t_or, ↓i_items, ↓i_rng1, ↓i_rng2, ↓i_rng3, ↓i_enum, ↓i_zip, ↓s_seq, ↓s_ret, ↓s_exp, ↓s_asg, ↓s_asgF, ↓s_own, ↓s_par, ↓s_retW, ↓s_for, ↓s_forR, ↓p_nil, ↓p_im, ↓p_ow, ↓p_owM, ↓p_owL, ↓u_stuck, ↓u_next, ↓u_brk, ↓u_cnt, ↓u_retN, ↓u_ifs, u_fz, u_app, u_appF, u_put, u_putF, u_asgI, wAsgI, u_while, u_ownM, u_ownA, u_ownC, u_ownL, u_appP, u_put2, wOwnL, wAppP, wPut2, u_wput, u_wdm, wLC, wFz, wApp, wAppF, wPut, wPutF, wOwnM, wOwnA, setP, wComp, wYes, wWput, wWdm, capt, bo, blt, dTru_non, dTru_bl, dTru_int, dTru_tup, dTru_lst, dTy_non, dTy_bl, dTy_int, dTy_str, dTy_tup, dTy_lst, isi_ii, isi_ib, isi_tt, isi_bi, isi_bb, isi_ni, isi_nb, isi_nt, isi_ns, isi_nl, isi_si, isi_sb, isi_st, isi_ss, isi_sl, isi_ti, isi_tb, isi_ts, isi_tl, isi_li, isi_lb, isi_lt, isi_ls, isi_ll, isi_it, isi_is, isi_il, isi_bt, isi_bs, isi_bl, binds, bindss, setS, setB, getS, entry, strE, frzE, slS, slF, wipeE, dEq_int, dNe_int, DL.isNon, bRepr, permD, o_dAdd0, o_dAdd1, o_dAdd2, o_dAdd3, o_dSub0, o_dMul0, o_dMul1, o_dMul2, o_dFdiv0, o_dMod0, o_dPow0, o_dShl0, o_dShr0, o_dAnd0, o_dOr0, o_dXor0, o_dLt0, o_dLe0, o_dGt0, o_dGe0, o_dIs0, o_dIsNot0, o_dIs1, o_dIsNot1, o_bLen0, o_bLen1, o_bLen2, o_bLen3, o_bTuple0, o_bTuple1, o_bList0, o_bList1, o_bAbs0, o_bMax20, o_bMin20, o_bInt0, o_bInt1, o_bBool0, o_bBool1, o_bBool2, o_bDivmod0, o_bGcd0, o_bStr0, o_bAll0, o_bAny0, o_bSum0, o_bSum1, o_bSort0, o_bSort1, o_bMax10, o_bMax11, o_bMin10, o_bMin11, o_bRepr0, o_dIx0, o_dIx1, o_dIx2, o_dIx3, o_dIx4, o_iEn0, o_iEn1, o_iZp0, o_iZp1, o_iR30, o_iR10, o_iR20, o_dRev0, o_dRev1, o_rg1, o_rg2, o_rg3, o_rg4, o_dLs0, o_dLs1, o_dSl0, o_dSl1, o_dSl2, o_dSl3, o_dNeg, o_dEqs, o_dNes, List.map_cons, List.map_nil, List.length_cons, List.length_nil, List.foldl_cons, List.foldl_nil, List.getElem?_cons_zero, List.getElem?_cons_succ, List.getElem?_nil, List.set_cons_zero, List.set_cons_succ, List.replicate, List.append_nil, List.nil_append, List.cons_append, Option.join_some, Option.join_none, Option.bind_some, id_eq, Nat.sub_self, Nat.add_sub_cancel, Nat.reduceAdd, Nat.reduceSub, Option.getD_some, List.getD_cons_zero, List.getD_cons_succ, List.getD_nil, Bool.not_true, Bool.not_false, Bool.false_eq_true, true_and, and_true, Bool.true_and, Bool.and_true, reduceCtorEq, if_false, if_true, decide_true, decide_false, Nat.zero_add, Nat.le_refl, sg__law_deal, Sp__law_deal, sg__law_divisor, Sp__law_divisor, sg__law_any, Sp__law_any, sg__law_shuffled, Sp__law_shuffled, sg_is_full_turn, Sp_is_full_turn, sg_is_double_turn, Sp_is_double_turn, SpO]
          refine ⟨ns, rfl, ho, hc, ns, rfl, ho, hc, by decide, ?_⟩
          rw [Hd_cons]
          simp only [bodyW, ↓e_stuck, ↓e_var, ↓e_non, ↓e_bl, ↓e_int, ↓e_str, ↓e_kt, ↓e_bin, ↓e_chain, ↓e_and, ↓e_or, ↓e_not, ↓e_neg, ↓e_ite, ↓e_tup, ↓e_lst, ↓e_call, ↓e_callP, ↓e_callQ, ↓e_callV, ↓e_callL, ↓e_callK, ↓e_blt, ↓e_isi, ↓e_ix, ↓e_rev, ↓e_lenset, ↓e_rgv, ↓e_sl, ↓e_part0, ↓e_part1, ↓e_comp, ↓e_comp2, wComp2, ↓e_nil, ↓e_cons, ↓e_star, ↓t_yes, ↓t_val, ↓t_not, ↓t_and, ↓t_or, ↓i_items, ↓i_rng1, ↓i_rng2, ↓i_rng3, ↓i_enum, ↓i_zip, ↓s_seq, ↓s_ret, ↓s_exp, ↓s_asg, ↓s_asgF, ↓s_own, ↓s_par, ↓s_retW, ↓s_for, ↓s_forR, ↓p_nil, ↓p_im, ↓p_ow, ↓p_owM, ↓p_owL, ↓u_stuck, ↓u_next, ↓u_brk, ↓u_cnt, ↓u_retN, ↓u_ifs, u_fz, u_app, u_appF, u_put, u_putF, u_asgI, wAsgI, u_while, u_ownM, u_ownA, u_ownC, u_ownL, u_appP, u_put2, wOwnL, wAppP, wPut2, u_wput, u_wdm, wLC, wFz, wApp, wAppF, wPut, wPutF, wOwnM, wOwnA, setP, wComp, wYes, wWput, wWdm, capt, bo, blt, dTru_non, dTru_bl, dTru_int, dTru_tup, dTru_lst, dTy_non, dTy_bl, dTy_int, dTy_str, dTy_tup, dTy_lst, isi_ii, isi_ib, isi_tt, isi_bi, isi_bb, isi_ni, isi_nb, isi_nt, isi_ns, isi_nl, isi_si, isi_sb, isi_st, isi_ss, isi_sl, isi_ti, isi_tb, isi_ts, isi_tl, isi_li, isi_lb, isi_lt, isi_ls, isi_ll, isi_it, isi_is, isi_il, isi_bt, isi_bs, isi_bl, binds, bindss, setS, setB, getS, entry, strE, frzE, slS, slF, wipeE, dEq_int, dNe_int, DL.isNon, bRepr, permD, o_dAdd0, o_dAdd1, o_dAdd2, o_dAdd3, o_dSub0, o_dMul0, o_dMul1, o_dMul2, o_dFdiv0, o_dMod0, o_dPow0, o_dShl0, o_dShr0, o_dAnd0, o_dOr0, o_dXor0, o_dLt0, o_dLe0, o_dGt0, o_dGe0, o_dIs0, o_dIsNot0, o_dIs1, o_dIsNot1, o_bLen0, o_bLen1, o_bLen2, o_bLen3, o_bTuple0, o_bTuple1, o_bList0, o_bList1, o_bAbs0, o_bMax20, o_bMin20, o_bInt0, o_bInt1, o_bBool0, o_bBool1, o_bBool2, o_bDivmod0, o_bGcd0, o_bStr0, o_bAll0, o_bAny0, o_bSum0, o_bSum1, o_bSort0, o_bSort1, o_bMax10, o_bMax11, o_bMin10, o_bMin11, o_bRepr0, o_dIx0, o_dIx1, o_dIx2, o_dIx3, o_dIx4, o_iEn0, o_iEn1, o_iZp0, o_iZp1, o_iR30, o_iR10, o_iR20, o_dRev0, o_dRev1, o_rg1, o_rg2, o_rg3, o_rg4, o_dLs0, o_dLs1, o_dSl0, o_dSl1, o_dSl2, o_dSl3, o_dNeg, o_dEqs, o_dNes, List.map_cons, List.map_nil, List.length_cons, List.length_nil, List.foldl_cons, List.foldl_nil, List.getElem?_cons_zero, List.getElem?_cons_succ, List.getElem?_nil, List.set_cons_zero, List.set_cons_succ, List.replicate, List.append_nil, List.nil_append, List.cons_append, Option.join_some, Option.join_none, Option.bind_some, id_eq, Nat.sub_self, Nat.add_sub_cancel, Nat.reduceAdd, Nat.reduceSub, Option.getD_some, List.getD_cons_zero, List.getD_cons_succ, List.getD_nil, Bool.not_true, Bool.not_false, Bool.false_eq_true, true_and, and_true, Bool.true_and, Bool.and_true, reduceCtorEq, if_false, if_true, decide_true, decide_false, Nat.zero_add, Nat.le_refl, sg__law_deal, Sp__law_deal, sg__law_divisor, Sp__law_divisor, sg__law_any, Sp__law_any, sg__law_shuffled, Sp__law_shuffled, sg_is_full_turn, Sp_is_full_turn, sg_is_double_turn, Sp_is_double_turn, SpO]
          refine ⟨ns, rfl, ho, hc, ns, rfl, ho, hc, by decide, ?_⟩
          rw [Hd_cons]
          simp only [bodyW, ↓e_stuck, ↓e_var, ↓e_non, ↓e_bl, ↓e_int, ↓e_str, ↓e_kt, ↓e_bin, ↓e_chain, ↓e_and, ↓e_or, ↓e_not, ↓e_neg, ↓e_ite, ↓e_tup, ↓e_lst, ↓e_call, ↓e_callP, ↓e_callQ, ↓e_callV, ↓e_callL, ↓e_callK, ↓e_blt, ↓e_isi, ↓e_ix, ↓e_rev, ↓e_lenset, ↓e_rgv, ↓e_sl, ↓e_part0, ↓e_part1, ↓e_comp, ↓e_comp2, wComp2, ↓e_nil, ↓e_cons, ↓e_star, ↓t_yes, ↓t_val, ↓t_not, ↓t_and, ↓t_or, ↓i_items, ↓i_rng1, ↓i_rng2, ↓i_rng3, ↓i_enum, ↓i_zip, ↓s_seq, ↓s_ret, ↓s_exp, ↓s_asg, ↓s_asgF, ↓s_own, ↓s_par, ↓s_retW, ↓s_for, ↓s_forR, ↓p_nil, ↓p_im, ↓p_ow, ↓p_owM, ↓p_owL, ↓u_stuck, ↓u_next, ↓u_brk, ↓u_cnt, ↓u_retN, ↓u_ifs, u_fz, u_app, u_appF, u_put, u_putF, u_asgI, wAsgI, u_while, u_ownM, u_ownA, u_ownC, u_ownL, u_appP, u_put2, wOwnL, wAppP, wPut2, u_wput, u_wdm, wLC, wFz, wApp, wAppF, wPut, wPutF, wOwnM, wOwnA, setP, wComp, wYes, wWput, wWdm, capt, bo, blt, dTru_non, dTru_bl, dTru_int, dTru_tup, dTru_lst, dTy_non, dTy_bl, dTy_int, dTy_str, dTy_tup, dTy_lst, isi_ii, isi_ib, isi_tt, isi_bi, isi_bb, isi_ni, isi_nb, isi_nt, isi_ns, isi_nl, isi_si, isi_sb, isi_st, isi_ss, isi_sl, isi_ti, isi_tb, isi_ts, isi_tl, isi_li, isi_lb, isi_lt, isi_ls, isi_ll, isi_it, isi_is, isi_il, isi_bt, isi_bs, isi_bl, binds, bindss, setS, setB, getS, entry, strE, frzE, slS, slF, wipeE, dEq_int, dNe_int, DL.isNon, bRepr, permD, o_dAdd0, o_dAdd1, o_dAdd2, o_dAdd3, o_dSub0, o_dMul0, o_dMul1, o_dMul2, o_dFdiv0, o_dMod0, o_dPow0, o_dShl0, o_dShr0, o_dAnd0, o_dOr0, o_dXor0, o_dLt0, o_dLe0, o_dGt0, o_dGe0, o_dIs0, o_dIsNot0, o_dIs1, o_dIsNot1, o_bLen0, o_bLen1, o_bLen2, o_bLen3, o_bTuple0, o_bTuple1, o_bList0, o_bList1, o_bAbs0, o_bMax20, o_bMin20, o_bInt0, o_bInt1, o_bBool0, o_bBool1, o_bBool2, o_bDivmod0, o_bGcd0, o_bStr0, o_bAll0, o_bAny0, o_bSum0, o_bSum1, o_bSort0, o_bSort1, o_bMax10, o_bMax11, o_bMin10, o_bMin11, o_bRepr0, o_dIx0, o_dIx1, o_dIx2, o_dIx3, o_dIx4, o_iEn0, o_iEn1, o_iZp0, o_iZp1, o_iR30, o_iR10, o_iR20, o_dRev0, o_dRev1, o_rg1, o_rg2, o_rg3, o_rg4, o_dLs0, o_dLs1, o_dSl0, o_dSl1, o_dSl2, o_dSl3, o_dNeg, o_dEqs, o_dNes, List.map_cons, List.map_nil, List.length_cons, List.length_nil, List.foldl_cons, List.foldl_nil, List.getElem?_cons_zero, List.getElem?_cons_succ, List.getElem?_nil, List.set_cons_zero, List.set_cons_succ, List.replicate, List.append_nil, List.nil_append, List.cons_append, Option.join_some, Option.join_none, Option.bind_some, id_eq, Nat.sub_self, Nat.add_sub_cancel, Nat.reduceAdd, Nat.reduceSub, Option.getD_some, List.getD_cons_zero, List.getD_cons_succ, List.getD_nil, Bool.not_true, Bool.not_false, Bool.false_eq_true, true_and, and_true, Bool.true_and, Bool.and_true, reduceCtorEq, if_false, if_true, decide_true, decide_false, Nat.zero_add, Nat.le_refl, sg__law_deal, Sp__law_deal, sg__law_divisor, Sp__law_divisor, sg__law_any, Sp__law_any, sg__law_shuffled, Sp__law_shuffled, sg_is_full_turn, Sp_is_full_turn, sg_is_double_turn, Sp_is_double_turn, SpO]
          have rk : ∀ a b : Bool, reprOk (.lst [.lst [.bl a, .bl b], .lst [.bl a, .bl b]]) := fun a b => reprOk_of (by simp [sm, sms]) (by simp [dpt, dpts]) (by simp [wt, wts])
          rw [show ∀ b : Bool, (List.replicate (Int.toNat 2) [D.lst [.bl true, .bl b]]).flatten = [D.lst [.bl true, .bl b], D.lst [.bl true, .bl b]] from fun _ => rfl]
          simp only [hf, Bool.false_and, Bool.true_and]
          refine ⟨by decide, rk _ _, by decide, by decide, ⟨by decide, by decide, by decide⟩, rk _ _, ?_⟩
          simp only [decide_true, Bool.not_true]
          exact hM2 _ ⟨_, _, _, _, _, _, _, _, _, _, _, _, _, _, _, rfl⟩
      · obtain ⟨s1, s3, s4, s5, s6, s7, s8, s9, s10, s11, s12, s13, s14, s15, s16, rfl⟩ := hI
        simp only [bodyW, ↓e_stuck, ↓e_var, ↓e_non, ↓e_bl, ↓e_int, ↓e_str, ↓e_kt, ↓e_bin, ↓e_chain, ↓e_and, ↓e_or, ↓e_not, ↓e_neg, ↓e_ite, ↓e_tup, ↓e_lst, ↓e_call, ↓e_callP, ↓e_callQ, ↓e_callV, ↓e_callL, ↓e_callK, ↓e_blt, ↓e_isi, ↓e_ix, ↓e_rev, ↓e_lenset, ↓e_rgv, ↓e_sl, ↓e_part0, ↓e_part1, ↓e_comp, ↓e_comp2, wComp2, ↓e_nil, ↓e_cons, ↓e_star, ↓t_yes, ↓t_val, ↓t_not, ↓t_and, ↓t_or, ↓i_items, ↓i_rng1, ↓i_rng2, ↓i_rng3, ↓i_enum, ↓i_zip, ↓s_seq, ↓s_ret, ↓s_exp, ↓s_asg, ↓s_asgF, ↓s_own, ↓s_par, ↓s_retW, ↓s_for, ↓s_forR, ↓p_nil, ↓p_im, ↓p_ow, ↓p_owM, ↓p_owL, ↓u_stuck, ↓u_next, ↓u_brk, ↓u_cnt, ↓u_retN, ↓u_ifs, u_fz, u_app, u_appF, u_put, u_putF, u_asgI, wAsgI, u_while, u_ownM, u_ownA, u_ownC, u_ownL, u_appP, u_put2, wOwnL, wAppP, wPut2, u_wput, u_wdm, wLC, wFz, wApp, wAppF, wPut, wPutF, wOwnM, wOwnA, setP, wComp, wYes, wWput, wWdm, capt, bo, blt, dTru_non, dTru_bl, dTru_int, dTru_tup, dTru_lst, dTy_non, dTy_bl, dTy_int, dTy_str, dTy_tup, dTy_lst, isi_ii, isi_ib, isi_tt, isi_bi, isi_bb, isi_ni, isi_nb, isi_nt, isi_ns, isi_nl, isi_si, isi_sb, isi_st, isi_ss, isi_sl, isi_ti, isi_tb, isi_ts, isi_tl, isi_li, isi_lb, isi_lt, isi_ls, isi_ll, isi_it, isi_is, isi_il, isi_bt, isi_bs, isi_bl, binds, bindss, setS, setB, getS, entry, strE, frzE, slS, slF, wipeE, dEq_int, dNe_int, DL.isNon, bRepr, permD, o_dAdd0, o_dAdd1, o_dAdd2, o_dAdd3, o_dSub0, o_dMul0, o_dMul1, o_dMul2, o_dFdiv0, o_dMod0, o_dPow0, o_dShl0, o_dShr0, o_dAnd0, o_dOr0, o_dXor0, o_dLt0, o_dLe0, o_dGt0, o_dGe0, o_dIs0, o_dIsNot0, o_dIs1, o_dIsNot1, o_bLen0, o_bLen1, o_bLen2, o_bLen3, o_bTuple0, o_bTuple1, o_bList0, o_bList1, o_bAbs0, o_bMax20, o_bMin20, o_bInt0, o_bInt1, o_bBool0, o_bBool1, o_bBool2, o_bDivmod0, o_bGcd0, o_bStr0, o_bAll0, o_bAny0, o_bSum0, o_bSum1, o_bSort0, o_bSort1, o_bMax10, o_bMax11, o_bMin10, o_bMin11, o_bRepr0, o_dIx0, o_dIx1, o_dIx2, o_dIx3, o_dIx4, o_iEn0, o_iEn1, o_iZp0, o_iZp1, o_iR30, o_iR10, o_iR20, o_dRev0, o_dRev1, o_rg1, o_rg2, o_rg3, o_rg4, o_dLs0, o_dLs1, o_dSl0, o_dSl1, o_dSl2, o_dSl3, o_dNeg, o_dEqs, o_dNes, List.map_cons, List.map_nil, List.length_cons, List.length_nil, List.foldl_cons, List.foldl_nil, List.getElem?_cons_zero, List.getElem?_cons_succ, List.getElem?_nil, List.set_cons_zero, List.set_cons_succ, List.replicate, List.append_nil, List.nil_append, List.cons_append, Option.join_some, Option.join_none, Option.bind_some, id_eq, Nat.sub_self, Nat.add_sub_cancel, Nat.reduceAdd, Nat.reduceSub, Option.getD_some, List.getD_cons_zero, List.getD_cons_succ, List.getD_nil, Bool.not_true, Bool.not_false, Bool.false_eq_true, true_and, and_true, Bool.true_and, Bool.and_true, reduceCtorEq, if_false, if_true, decide_true, decide_false, Nat.zero_add, Nat.le_refl]
        exact hM _ ⟨_, _, _, _, _, _, _, _, _, _, _, _, _, _, _, _, rfl⟩
    · obtain ⟨s1, s2, s3, s4, s5, s6, s7, s8, s9, s10, s11, s12, s13, s14, s15, s16, rfl⟩ := hI
      simp only [bodyW, Hd_cons, ↓e_stuck, ↓e_var, ↓e_non, ↓e_bl, ↓e_int, ↓e_str, ↓e_kt, ↓e_bin, ↓e_chain, ↓e_and, ↓e_or, ↓e_not, ↓e_neg, ↓e_ite, ↓e_tup, ↓e_lst, ↓e_call, ↓e_callP, ↓e_callQ, ↓e_callV, ↓e_callL, ↓e_callK, ↓e_blt, ↓e_isi, ↓e_ix, ↓e_rev, ↓e_lenset, ↓e_rgv, ↓e_sl, ↓e_part0, ↓e_part1, ↓e_comp, ↓e_comp2, wComp2, ↓e_nil, ↓e_cons, ↓e_star, ↓t_yes, ↓t_val, ↓t_not, ↓t_and, ↓t_or, ↓i_items, ↓i_rng1, ↓i_rng2, ↓i_rng3, ↓i_enum, ↓i_zip, ↓s_seq, ↓s_ret, ↓s_exp, ↓s_asg, ↓s_asgF, ↓s_own, ↓s_par, ↓s_retW, ↓s_for, ↓s_forR, ↓p_nil, ↓p_im, ↓p_ow, ↓p_owM, ↓p_owL, ↓u_stuck, ↓u_next, ↓u_brk, ↓u_cnt, ↓u_retN, ↓u_ifs, u_fz, u_app, u_appF, u_put, u_putF, u_asgI, wAsgI, u_while, u_ownM, u_ownA, u_ownC, u_ownL, u_appP, u_put2, wOwnL, wAppP, wPut2, u_wput, u_wdm, wLC, wFz, wApp, wAppF, wPut, wPutF, wOwnM, wOwnA, setP, wComp, wYes, wWput, wWdm, capt, bo, blt, dTru_non, dTru_bl, dTru_int, dTru_tup, dTru_lst, dTy_non, dTy_bl, dTy_int, dTy_str, dTy_tup, dTy_lst, isi_ii, isi_ib, isi_tt, isi_bi, isi_bb, isi_ni, isi_nb, isi_nt, isi_ns, isi_nl, isi_si, isi_sb, isi_st, isi_ss, isi_sl, isi_ti, isi_tb, isi_ts, isi_tl, isi_li, isi_lb, isi_lt, isi_ls, isi_ll, isi_it, isi_is, isi_il, isi_bt, isi_bs, isi_bl, binds, bindss, setS, setB, getS, entry, strE, frzE, slS, slF, wipeE, dEq_int, dNe_int, DL.isNon, bRepr, permD, o_dAdd0, o_dAdd1, o_dAdd2, o_dAdd3, o_dSub0, o_dMul0, o_dMul1, o_dMul2, o_dFdiv0, o_dMod0, o_dPow0, o_dShl0, o_dShr0, o_dAnd0, o_dOr0, o_dXor0, o_dLt0, o_dLe0, o_dGt0, o_dGe0, o_dIs0, o_dIsNot0, o_dIs1, o_dIsNot1, o_bLen0, o_bLen1, o_bLen2, o_bLen3, o_bTuple0, o_bTuple1, o_bList0, o_bList1, o_bAbs0, o_bMax20, o_bMin20, o_bInt0, o_bInt1, o_bBool0, o_bBool1, o_bBool2, o_bDivmod0, o_bGcd0, o_bStr0, o_bAll0, o_bAny0, o_bSum0, o_bSum1, o_bSort0, o_bSort1, o_bMax10, o_bMax11, o_bMin10, o_bMin11, o_bRepr0, o_dIx0, o_dIx1, o_dIx2, o_dIx3, o_dIx4, o_iEn0, o_iEn1, o_iZp0, o_iZp1, o_iR30, o_iR10, o_iR20, o_dRev0, o_dRev1, o_rg1, o_rg2, o_rg3, o_rg4, o_dLs0, o_dLs1, o_dSl0, o_dSl1, o_dSl2, o_dSl3, o_dNeg, o_dEqs, o_dNes, List.map_cons, List.map_nil, List.length_cons, List.length_nil, List.foldl_cons, List.foldl_nil, List.getElem?_cons_zero, List.getElem?_cons_succ, List.getElem?_nil, List.set_cons_zero, List.set_cons_succ, List.replicate, List.append_nil, List.nil_append, List.cons_append, Option.join_some, Option.join_none, Option.bind_some, id_eq, Nat.sub_self, Nat.add_sub_cancel, Nat.reduceAdd, Nat.reduceSub, Option.getD_some, List.getD_cons_zero, List.getD_cons_succ, List.getD_nil, Bool.not_true, Bool.not_false, Bool.false_eq_true, true_and, and_true, Bool.true_and, Bool.and_true, reduceCtorEq, if_false, if_true, decide_true, decide_false, Nat.zero_add, Nat.le_refl]
      exact h
  · exact h.elim
theorem blsOf_true {α : Type} : ∀ l : List α, blsOf (l.map fun _ => D.bl true) = some (l.map fun _ => true)
  | [] => rfl
  | a :: l => by
    show (blsOf (l.map fun _ => D.bl true)).map (true :: ·) = _
    rw [blsOf_true l]; rfl
theorem b_law : ∀ ds E Q, ds.length = F_law.ps.length → Sg 21 ds E Q → bodyW Sg S_law.N d_law ds E Q := by
  intro ds E Q hlen h
  clear hlen
  change SPlaw ds E Q at h
  unfold SPlaw at h
  obtain ⟨⟨ns, rfl, hl⟩, h⟩ := h
  · (show bodyW Sg N_law d_law [.scr ns] E Q; simp only [bodyW, Hd_cons, ↓e_stuck, ↓e_var, ↓e_non, ↓e_bl, ↓e_int, ↓e_str, ↓e_kt, ↓e_bin, ↓e_chain, ↓e_and, ↓e_or, ↓e_not, ↓e_neg, ↓e_ite, ↓e_tup, ↓e_lst, ↓e_call, ↓e_callP, ↓e_callQ, ↓e_callV, ↓e_callL, ↓e_callK, ↓e_blt, ↓e_isi, ↓e_ix, ↓e_rev, ↓e_lenset, ↓e_rgv, ↓e_sl, ↓e_part0, ↓e_part1, ↓e_comp, ↓e_comp2, wComp2, ↓e_nil, ↓e_cons, ↓e_star, ↓t_yes, ↓t_val, ↓t_not, ↓t_and, ↓t_or, ↓i_items, ↓i_rng1, ↓i_rng2, ↓i_rng3, ↓i_enum, ↓i_zip, ↓s_seq, ↓s_ret, ↓s_exp, ↓s_asg, ↓s_asgF, ↓s_own, ↓s_par, ↓s_retW, ↓s_for, ↓s_forR, ↓p_nil, ↓p_im, ↓p_ow, ↓p_owM, ↓p_owL, ↓u_stuck, ↓u_next, ↓u_brk, ↓u_cnt, ↓u_retN, ↓u_ifs, u_fz, u_app, u_appF, u_put, u_putF, u_asgI, wAsgI, u_while, u_ownM, u_ownA, u_ownC, u_ownL, u_appP, u_put2, wOwnL, wAppP, wPut2, u_wput, u_wdm, wLC, wFz, wApp, wAppF, wPut, wPutF, wOwnM, wOwnA, setP, wComp, wYes, wWput, wWdm, capt, bo, blt, dTru_non, dTru_bl, dTru_int, dTru_tup, dTru_lst, dTy_non, dTy_bl, dTy_int, dTy_str, dTy_tup, dTy_lst, isi_ii, isi_ib, isi_tt, isi_bi, isi_bb, isi_ni, isi_nb, isi_nt, isi_ns, isi_nl, isi_si, isi_sb, isi_st, isi_ss, isi_sl, isi_ti, isi_tb, isi_ts, isi_tl, isi_li, isi_lb, isi_lt, isi_ls, isi_ll, isi_it, isi_is, isi_il, isi_bt, isi_bs, isi_bl, binds, bindss, setS, setB, getS, entry, strE, frzE, slS, slF, wipeE, dEq_int, dNe_int, DL.isNon, bRepr, permD, o_dAdd0, o_dAdd1, o_dAdd2, o_dAdd3, o_dSub0, o_dMul0, o_dMul1, o_dMul2, o_dFdiv0, o_dMod0, o_dPow0, o_dShl0, o_dShr0, o_dAnd0, o_dOr0, o_dXor0, o_dLt0, o_dLe0, o_dGt0, o_dGe0, o_dIs0, o_dIsNot0, o_dIs1, o_dIsNot1, o_bLen0, o_bLen1, o_bLen2, o_bLen3, o_bTuple0, o_bTuple1, o_bList0, o_bList1, o_bAbs0, o_bMax20, o_bMin20, o_bInt0, o_bInt1, o_bBool0, o_bBool1, o_bBool2, o_bDivmod0, o_bGcd0, o_bStr0, o_bAll0, o_bAny0, o_bSum0, o_bSum1, o_bSort0, o_bSort1, o_bMax10, o_bMax11, o_bMin10, o_bMin11, o_bRepr0, o_dIx0, o_dIx1, o_dIx2, o_dIx3, o_dIx4, o_iEn0, o_iEn1, o_iZp0, o_iZp1, o_iR30, o_iR10, o_iR20, o_dRev0, o_dRev1, o_rg1, o_rg2, o_rg3, o_rg4, o_dLs0, o_dLs1, o_dSl0, o_dSl1, o_dSl2, o_dSl3, o_dNeg, o_dEqs, o_dNes, List.map_cons, List.map_nil, List.length_cons, List.length_nil, List.foldl_cons, List.foldl_nil, List.getElem?_cons_zero, List.getElem?_cons_succ, List.getElem?_nil, List.set_cons_zero, List.set_cons_succ, List.replicate, List.append_nil, List.nil_append, List.cons_append, Option.join_some, Option.join_none, Option.bind_some, id_eq, Nat.sub_self, Nat.add_sub_cancel, Nat.reduceAdd, Nat.reduceSub, Option.getD_some, List.getD_cons_zero, List.getD_cons_succ, List.getD_nil, Bool.not_true, Bool.not_false, Bool.false_eq_true, true_and, and_true, Bool.true_and, Bool.and_true, reduceCtorEq, if_false, if_true, decide_true, decide_false, Nat.zero_add, Nat.le_refl, d_law, N_law, sg__law_right, Sp__law_right, sg__law_pail, Sp__law_pail])
    generalize hm : (if (if 3 < (ns.length : Int) then 3 else (ns.length : Int)) > 2 then if 3 < (ns.length : Int) then 3 else (ns.length : Int) else 2) = m
    have hmb : 1 ≤ m ∧ m ≤ 3 := by
      split at hm
      · split at hm <;> omega
      · omega
    refine ⟨⟨by omega, by omega⟩, ?_⟩
    rw [rng_zr]
    refine turns_Z (fun _ => true) (fun _ => .bl true) (fun k hk Q' q => q) (fun k hk hc Q' q => ?_) (by rw [zr_len]; simp only [List.length_nil, LIM]; omega) ?_
    · rw [mem_zr] at hk
      simp only [bodyW, Hd_cons, ↓e_stuck, ↓e_var, ↓e_non, ↓e_bl, ↓e_int, ↓e_str, ↓e_kt, ↓e_bin, ↓e_chain, ↓e_and, ↓e_or, ↓e_not, ↓e_neg, ↓e_ite, ↓e_tup, ↓e_lst, ↓e_call, ↓e_callP, ↓e_callQ, ↓e_callV, ↓e_callL, ↓e_callK, ↓e_blt, ↓e_isi, ↓e_ix, ↓e_rev, ↓e_lenset, ↓e_rgv, ↓e_sl, ↓e_part0, ↓e_part1, ↓e_comp, ↓e_comp2, wComp2, ↓e_nil, ↓e_cons, ↓e_star, ↓t_yes, ↓t_val, ↓t_not, ↓t_and, ↓t_or, ↓i_items, ↓i_rng1, ↓i_rng2, ↓i_rng3, ↓i_enum, ↓i_zip, ↓s_seq, ↓s_ret, ↓s_exp, ↓s_asg, ↓s_asgF, ↓s_own, ↓s_par, ↓s_retW, ↓s_for, ↓s_forR, ↓p_nil, ↓p_im, ↓p_ow, ↓p_owM, ↓p_owL, ↓u_stuck, ↓u_next, ↓u_brk, ↓u_cnt, ↓u_retN, ↓u_ifs, u_fz, u_app, u_appF, u_put, u_putF, u_asgI, wAsgI, u_while, u_ownM, u_ownA, u_ownC, u_ownL, u_appP, u_put2, wOwnL, wAppP, wPut2, u_wput, u_wdm, wLC, wFz, wApp, wAppF, wPut, wPutF, wOwnM, wOwnA, setP, wComp, wYes, wWput, wWdm, capt, bo, blt, dTru_non, dTru_bl, dTru_int, dTru_tup, dTru_lst, dTy_non, dTy_bl, dTy_int, dTy_str, dTy_tup, dTy_lst, isi_ii, isi_ib, isi_tt, isi_bi, isi_bb, isi_ni, isi_nb, isi_nt, isi_ns, isi_nl, isi_si, isi_sb, isi_st, isi_ss, isi_sl, isi_ti, isi_tb, isi_ts, isi_tl, isi_li, isi_lb, isi_lt, isi_ls, isi_ll, isi_it, isi_is, isi_il, isi_bt, isi_bs, isi_bl, binds, bindss, setS, setB, getS, entry, strE, frzE, slS, slF, wipeE, dEq_int, dNe_int, DL.isNon, bRepr, permD, o_dAdd0, o_dAdd1, o_dAdd2, o_dAdd3, o_dSub0, o_dMul0, o_dMul1, o_dMul2, o_dFdiv0, o_dMod0, o_dPow0, o_dShl0, o_dShr0, o_dAnd0, o_dOr0, o_dXor0, o_dLt0, o_dLe0, o_dGt0, o_dGe0, o_dIs0, o_dIsNot0, o_dIs1, o_dIsNot1, o_bLen0, o_bLen1, o_bLen2, o_bLen3, o_bTuple0, o_bTuple1, o_bList0, o_bList1, o_bAbs0, o_bMax20, o_bMin20, o_bInt0, o_bInt1, o_bBool0, o_bBool1, o_bBool2, o_bDivmod0, o_bGcd0, o_bStr0, o_bAll0, o_bAny0, o_bSum0, o_bSum1, o_bSort0, o_bSort1, o_bMax10, o_bMax11, o_bMin10, o_bMin11, o_bRepr0, o_dIx0, o_dIx1, o_dIx2, o_dIx3, o_dIx4, o_iEn0, o_iEn1, o_iZp0, o_iZp1, o_iR30, o_iR10, o_iR20, o_dRev0, o_dRev1, o_rg1, o_rg2, o_rg3, o_rg4, o_dLs0, o_dLs1, o_dSl0, o_dSl1, o_dSl2, o_dSl3, o_dNeg, o_dEqs, o_dNes, List.map_cons, List.map_nil, List.length_cons, List.length_nil, List.foldl_cons, List.foldl_nil, List.getElem?_cons_zero, List.getElem?_cons_succ, List.getElem?_nil, List.set_cons_zero, List.set_cons_succ, List.replicate, List.append_nil, List.nil_append, List.cons_append, Option.join_some, Option.join_none, Option.bind_some, id_eq, Nat.sub_self, Nat.add_sub_cancel, Nat.reduceAdd, Nat.reduceSub, Option.getD_some, List.getD_cons_zero, List.getD_cons_succ, List.getD_nil, Bool.not_true, Bool.not_false, Bool.false_eq_true, true_and, and_true, Bool.true_and, Bool.and_true, reduceCtorEq, if_false, if_true, decide_true, decide_false, Nat.zero_add, Nat.le_refl, sg__law_right, Sp__law_right, sg__law_pail, Sp__law_pail]
      exact ⟨⟨hl, by omega, by omega⟩, fun p => q⟩
    · rw [List.nil_append, blsOf_true]
      have e : (List.map (fun _ => true) (List.filter (fun _ => true) (zr 0 m.toNat))).all id = true := by
        rw [List.all_eq_true]
        intro b hb
        obtain ⟨_, _, rfl⟩ := List.mem_map.mp hb
        rfl
      rw [← e] at h
      exact h

end K33
namespace K33
open PySem L2 L2.DL
section
variable {P : Program} {w : World} {K : PySem.W.Frag} {mg : Str → Option Value} {h : Heap}
abbrev CS (c0 t0 : Addr) : Tabs' := [(c0, t0, (("check_order_of" : Str) ++ ".<locals>.") ++ "<lambda>")]
theorem fin {fa : Addr} (X : K.In h) (N : h.Ns mainGlobals mg) (hmg : mg "law" = some (.ref fa)) (T : TopOk K ⟨TB, GL, BL, GB⟩)
    (c0 t0 : Addr)
    (q0 : tqOf (CS c0 t0) t0 = some ((("check_order_of" : Str) ++ ".<locals>.") ++ "<lambda>"))
    (A0 : FnAt K "is_whole" (top 1))
    (A1 : FnAt K "is_number" (top 2))
    (A2 : FnAt K "is_tuple_of" (top 3))
    (A3 : FnAt K "is_hour" (top 10))
    (A4 : FnAt K "is_clock_form" (top 9))
    (A5 : FnAt K "wrong_at" (top 4))
    (A6 : FnAt K "wrong_for_all" (top 5))
    (A7 : FnAt K "check_clock" (top 16))
    (A8 : FnAtC K "check_order_of" (top 17) c0)
    (A9 : FnAt K "check_order" (top 18))
    (A10 : FnAt K "are_all_unlike" (top 20))
    (A11 : FnAt K "is_full_in" (top 21))
    (A12 : FnAt K "is_double_in" (top 22))
    (A13 : FnAt K "is_full_turn" (top 23))
    (A14 : FnAt K "is_double_turn" (top 24))
    (A15 : FnAt K "_law_pail" (top 26))
    (A16 : FnAt K "_law_deal" (top 27))
    (A17 : FnAt K "_law_any" (top 28))
    (A18 : FnAt K "_law_shuffled" (top 29))
    (A19 : FnAt K "_law_divisor" (top 30))
    (A20 : FnAt K "_law_right" (top 31))
    (A21 : FnAt K "law" (top 32))
    (base : Heap) (TBs : ∀ p ∈ (CS c0 t0), LamX.TabB base mg p.1 p.2.1) : ∃ fd, FnD P w (cf1 K mg (tqOf (CS c0 t0)) (lamsOf LAMS)) base 22 "law" ["script"] SPlaw fa fd := by
  have g0 : Gk Sg ⟨TB.take 0, GL, BL, GB⟩ P w (cf1 K mg (tqOf (CS c0 t0)) (lamsOf LAMS)) base 0 := gk_start X N T
  have g1 := gk_step (fi := F_is_whole) S_is_whole X N rfl A0 sc_is_whole bi_is_whole c_is_whole rfl rfl rfl rfl rfl b_is_whole g0
  have g2 := gk_step (fi := F_is_number) S_is_number X N rfl A1 sc_is_number bi_is_number c_is_number rfl rfl rfl rfl rfl b_is_number g1
  have g3 := gk_step (fi := F_is_tuple_of) S_is_tuple_of X N rfl A2 sc_is_tuple_of bi_is_tuple_of c_is_tuple_of rfl rfl rfl rfl rfl b_is_tuple_of g2
  have g4 := gk_step (fi := F_is_hour) S_is_hour X N rfl A3 sc_is_hour bi_is_hour c_is_hour rfl rfl rfl rfl rfl b_is_hour g3
  have g5 := gk_step (fi := F_is_clock_form) S_is_clock_form X N rfl A4 sc_is_clock_form bi_is_clock_form c_is_clock_form rfl rfl rfl rfl rfl b_is_clock_form g4
  have hl : ∀ (cz : List CZ) (j : Nat), FnL P w { cf1 K mg (tqOf (CS c0 t0)) (lamsOf LAMS) with cz := cz } base 5 j (Sg (1000 + j)) := fun cz j => match j with
    | 0 => fnL_step (k := 4) (lk := L_0) rfl (NdefX.nscope_by (by decide +kernel)) rfl rfl rfl (fun _ => rfl) rfl bl_0 ll_0 lb_0 g4
    | j + 1 => fnL_none fun L h => h
  have g6 := gk_stepH (fi := F_wrong_at) S_wrong_at X N rfl A5 sc_wrong_at bi_wrong_at c_wrong_at rfl rfl rfl rfl rfl (show 5 ≤ 5 by decide) hl b_wrong_at g5
  have g7 := gk_stepH (fi := F_wrong_for_all) S_wrong_for_all X N rfl A6 sc_wrong_for_all bi_wrong_for_all c_wrong_for_all rfl rfl rfl rfl rfl (show 5 ≤ 6 by decide) hl b_wrong_for_all g6
  have g8 := gk_step (fi := F_check_clock) S_check_clock X N rfl A7 sc_check_clock bi_check_clock c_check_clock rfl rfl rfl rfl rfl b_check_clock g7
  have g9 := gk_stepM (fi := F_check_order_of) (kl := 0) (lk := L_0) (ls := LAMS) S_check_order_of X N rfl A8 sc_check_order_of bi_check_order_of c_check_order_of rfl rfl rfl rfl rfl rfl (TBs (c0, t0, _) (List.mem_cons_self ..)) q0 b_check_order_of g8
  have g10 := gk_step (fi := F_check_order) S_check_order X N rfl A9 sc_check_order bi_check_order c_check_order rfl rfl rfl rfl rfl b_check_order g9
  have g11 := gk_step (fi := F_are_all_unlike) S_are_all_unlike X N rfl A10 sc_are_all_unlike bi_are_all_unlike c_are_all_unlike rfl rfl rfl rfl rfl b_are_all_unlike g10
  have g12 := gk_step (fi := F_is_full_in) S_is_full_in X N rfl A11 sc_is_full_in bi_is_full_in c_is_full_in rfl rfl rfl rfl rfl b_is_full_in g11
  have g13 := gk_step (fi := F_is_double_in) S_is_double_in X N rfl A12 sc_is_double_in bi_is_double_in c_is_double_in rfl rfl rfl rfl rfl b_is_double_in g12
  have g14 := gk_step (fi := F_is_full_turn) S_is_full_turn X N rfl A13 sc_is_full_turn bi_is_full_turn c_is_full_turn rfl rfl rfl rfl rfl b_is_full_turn g13
  have g15 := gk_step (fi := F_is_double_turn) S_is_double_turn X N rfl A14 sc_is_double_turn bi_is_double_turn c_is_double_turn rfl rfl rfl rfl rfl b_is_double_turn g14
  have g16 := gk_step (fi := F__law_pail) S__law_pail X N rfl A15 sc__law_pail bi__law_pail c__law_pail rfl rfl rfl rfl rfl b__law_pail g15
  have g17 := gk_step (fi := F__law_deal) S__law_deal X N rfl A16 sc__law_deal bi__law_deal c__law_deal rfl rfl rfl rfl rfl b__law_deal g16
  have g18 := gk_step (fi := F__law_any) S__law_any X N rfl A17 sc__law_any bi__law_any c__law_any rfl rfl rfl rfl rfl b__law_any g17
  have g19 := gk_step (fi := F__law_shuffled) S__law_shuffled X N rfl A18 sc__law_shuffled bi__law_shuffled c__law_shuffled rfl rfl rfl rfl rfl b__law_shuffled g18
  have g20 := gk_step (fi := F__law_divisor) S__law_divisor X N rfl A19 sc__law_divisor bi__law_divisor c__law_divisor rfl rfl rfl rfl rfl b__law_divisor g19
  have g21 := gk_step (fi := F__law_right) S__law_right X N rfl A20 sc__law_right bi__law_right c__law_right rfl rfl rfl rfl rfl b__law_right g20
  have g22 := gk_step (fi := F_law) S_law X N rfl A21 sc_law bi_law c_law rfl rfl rfl rfl rfl b_law g21
  exact law_in (fi := F_law) g22 rfl rfl rfl rfl rfl hmg
end
end K33
open PySem PySem.W PyProof.Rows
set_option maxRecDepth 100000 in
set_option maxHeartbeats 0 in
theorem PySem.Challenge.cw_hourpicks_k33_whole_full_turns_and_doubl_holds : PySem.Challenge.rw_hourpicks_k33_whole_full_turns_and_doubl.Holds := by
  w_on; o_law; k_head; (case hw => w_witness2)
  k_fill
  refine L2.DL.walk_D (l := PySem.Challenge.rw_hourpicks_k33_whole_full_turns_and_doubl) (n := 63) (k := 22) (lam := L2.DL.lamsOf K33.LAMS) rfl (by decide) rfl ⟨rfl, by decide, by decide⟩ rfl (fun w h Y => PySem.W.km_in_of Y) ?F
  case F =>
    intro w mg fa h KX G hmg
    refine' ⟨K33.CS ?dlmc0 ?dlmt0, ?dlM, fun B _ _ TBs => K33.fin KX G hmg ?dlT ?dlmc0 ?dlmt0 ?dlmq0 ?dlA0 ?dlA1 ?dlA2 ?dlA3 ?dlA4 ?dlA5 ?dlA6 ?dlA7 ?dlA8 ?dlA9 ?dlA10 ?dlA11 ?dlA12 ?dlA13 ?dlA14 ?dlA15 ?dlA16 ?dlA17 ?dlA18 ?dlA19 ?dlA20 ?dlA21 B TBs⟩
    case dlM =>
      refine' List.forall_mem_cons.mpr ⟨⟨"check_order_of", L2.DL.MkrAt.of ?dlM0a ?dlM0l ?dlM0r ?dlM0c ?dlM0v ?dlM0o, ?dlM0g⟩, fun _ h => absurd h List.not_mem_nil⟩
      (case dlM0a => k_is); (case dlM0l => k_is); (case dlM0r => exact rfl); (case dlM0c => k_is); (case dlM0v => exact rfl); (case dlM0o => kernel_rfl); (case dlM0g => decide +kernel)
    (case dlmq0 => kernel_rfl)
    (case dlA8 => refine' L2.DL.FnAtC.of ?dla8 ?dll8 ?dlc8 ?dlk8; (case dla8 => k_is); (case dll8 => k_is); (case dlc8 => k_is); (case dlk8 => k_is))
    case dlT =>
      refine ⟨?dlgl, ?dlbl, ?dlgb⟩
      case dlgl =>
        refine' List.forall_mem_cons.mpr ⟨?dlgl0, List.forall_mem_cons.mpr ⟨?dlgl1, fun _ h => absurd h List.not_mem_nil⟩⟩
        (case dlgl0 => refine' L2.DL.gl_int (x := "LEAST_CLOCK") ?dlg0; (case dlg0 => k_is))
        (case dlgl1 => refine' L2.DL.gl_int (x := "MOST_CLOCK") ?dlg1; (case dlg1 => k_is))
      case dlbl =>
        refine' List.forall_mem_cons.mpr ⟨?dlbl0, List.forall_mem_cons.mpr ⟨?dlbl1, List.forall_mem_cons.mpr ⟨?dlbl2, List.forall_mem_cons.mpr ⟨?dlbl3, List.forall_mem_cons.mpr ⟨?dlbl4, List.forall_mem_cons.mpr ⟨?dlbl5, List.forall_mem_cons.mpr ⟨?dlbl6, List.forall_mem_cons.mpr ⟨?dlbl7, List.forall_mem_cons.mpr ⟨?dlbl8, List.forall_mem_cons.mpr ⟨?dlbl9, List.forall_mem_cons.mpr ⟨?dlbl10, List.forall_mem_cons.mpr ⟨?dlbl11, List.forall_mem_cons.mpr ⟨?dlbl12, List.forall_mem_cons.mpr ⟨?dlbl13, List.forall_mem_cons.mpr ⟨?dlbl14, fun _ h => absurd h List.not_mem_nil⟩⟩⟩⟩⟩⟩⟩⟩⟩⟩⟩⟩⟩⟩⟩
        (case dlbl0 => k_is)
        (case dlbl1 => k_is)
        (case dlbl2 => k_is)
        (case dlbl3 => k_is)
        (case dlbl4 => k_is)
        (case dlbl5 => k_is)
        (case dlbl6 => k_is)
        (case dlbl7 => k_is)
        (case dlbl8 => k_is)
        (case dlbl9 => k_is)
        (case dlbl10 => k_is)
        (case dlbl11 => k_is)
        (case dlbl12 => k_is)
        (case dlbl13 => k_is)
        (case dlbl14 => k_is)
      case dlgb =>
        exact fun _ h => absurd h List.not_mem_nil
    (case dlA0 => refine' L2.DL.FnAt.of ?dla0 ?dll0 ?dlc0 ?dlk0; (case dla0 => k_is); (case dll0 => k_is); (case dlc0 => k_is); (case dlk0 => k_is))
    (case dlA1 => refine' L2.DL.FnAt.of ?dla1 ?dll1 ?dlc1 ?dlk1; (case dla1 => k_is); (case dll1 => k_is); (case dlc1 => k_is); (case dlk1 => k_is))
    (case dlA2 => refine' L2.DL.FnAt.of ?dla2 ?dll2 ?dlc2 ?dlk2; (case dla2 => k_is); (case dll2 => k_is); (case dlc2 => k_is); (case dlk2 => k_is))
    (case dlA3 => refine' L2.DL.FnAt.of ?dla3 ?dll3 ?dlc3 ?dlk3; (case dla3 => k_is); (case dll3 => k_is); (case dlc3 => k_is); (case dlk3 => k_is))
    (case dlA4 => refine' L2.DL.FnAt.of ?dla4 ?dll4 ?dlc4 ?dlk4; (case dla4 => k_is); (case dll4 => k_is); (case dlc4 => k_is); (case dlk4 => k_is))
    (case dlA5 => refine' L2.DL.FnAt.of ?dla5 ?dll5 ?dlc5 ?dlk5; (case dla5 => k_is); (case dll5 => k_is); (case dlc5 => k_is); (case dlk5 => k_is))
    (case dlA6 => refine' L2.DL.FnAt.of ?dla6 ?dll6 ?dlc6 ?dlk6; (case dla6 => k_is); (case dll6 => k_is); (case dlc6 => k_is); (case dlk6 => k_is))
    (case dlA7 => refine' L2.DL.FnAt.of ?dla7 ?dll7 ?dlc7 ?dlk7; (case dla7 => k_is); (case dll7 => k_is); (case dlc7 => k_is); (case dlk7 => k_is))
    (case dlA9 => refine' L2.DL.FnAt.of ?dla9 ?dll9 ?dlc9 ?dlk9; (case dla9 => k_is); (case dll9 => k_is); (case dlc9 => k_is); (case dlk9 => k_is))
    (case dlA10 => refine' L2.DL.FnAt.of ?dla10 ?dll10 ?dlc10 ?dlk10; (case dla10 => k_is); (case dll10 => k_is); (case dlc10 => k_is); (case dlk10 => k_is))
    (case dlA11 => refine' L2.DL.FnAt.of ?dla11 ?dll11 ?dlc11 ?dlk11; (case dla11 => k_is); (case dll11 => k_is); (case dlc11 => k_is); (case dlk11 => k_is))
    (case dlA12 => refine' L2.DL.FnAt.of ?dla12 ?dll12 ?dlc12 ?dlk12; (case dla12 => k_is); (case dll12 => k_is); (case dlc12 => k_is); (case dlk12 => k_is))
    (case dlA13 => refine' L2.DL.FnAt.of ?dla13 ?dll13 ?dlc13 ?dlk13; (case dla13 => k_is); (case dll13 => k_is); (case dlc13 => k_is); (case dlk13 => k_is))
    (case dlA14 => refine' L2.DL.FnAt.of ?dla14 ?dll14 ?dlc14 ?dlk14; (case dla14 => k_is); (case dll14 => k_is); (case dlc14 => k_is); (case dlk14 => k_is))
    (case dlA15 => refine' L2.DL.FnAt.of ?dla15 ?dll15 ?dlc15 ?dlk15; (case dla15 => k_is); (case dll15 => k_is); (case dlc15 => k_is); (case dlk15 => k_is))
    (case dlA16 => refine' L2.DL.FnAt.of ?dla16 ?dll16 ?dlc16 ?dlk16; (case dla16 => k_is); (case dll16 => k_is); (case dlc16 => k_is); (case dlk16 => k_is))
    (case dlA17 => refine' L2.DL.FnAt.of ?dla17 ?dll17 ?dlc17 ?dlk17; (case dla17 => k_is); (case dll17 => k_is); (case dlc17 => k_is); (case dlk17 => k_is))
    (case dlA18 => refine' L2.DL.FnAt.of ?dla18 ?dll18 ?dlc18 ?dlk18; (case dla18 => k_is); (case dll18 => k_is); (case dlc18 => k_is); (case dlk18 => k_is))
    (case dlA19 => refine' L2.DL.FnAt.of ?dla19 ?dll19 ?dlc19 ?dlk19; (case dla19 => k_is); (case dll19 => k_is); (case dlc19 => k_is); (case dlk19 => k_is))
    (case dlA20 => refine' L2.DL.FnAt.of ?dla20 ?dll20 ?dlc20 ?dlk20; (case dla20 => k_is); (case dll20 => k_is); (case dlc20 => k_is); (case dlk20 => k_is))
    (case dlA21 => refine' L2.DL.FnAt.of ?dla21 ?dll21 ?dlc21 ?dlk21; (case dla21 => k_is); (case dll21 => k_is); (case dlc21 => k_is); (case dlk21 => k_is))
