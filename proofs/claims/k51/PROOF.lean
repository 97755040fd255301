import PyProof.Rows.All
import Wide.All
import OpenK.AllK
import Wide.FinOn
import HandS.ForMost
import HandS.DictComp
import HandS.Defaults
import KE.GoesMore
import HandS.Walk
import PyProof.NeData
import PySem.Str
import HandS.Evl
import HandS.Conv
import HandS.TupAny
import HandS.Style
import HandS.IsInst
import HandS.Wide
import HandS.WordsDict
import HandS.Codes
import HandS.SetFor
import PySem.Challenge.RW_wholetongue_k51_whole_machine_of_lean_ro
set_option Elab.async false
set_option linter.all false
set_option maxRecDepth 100000
set_option maxHeartbeats 4000000
/-! Rules of our own over the hand layer. -/
namespace K51
open PySem PySem.Spec PyProof.Rows L2

/-! ### o.m(e, .., k = v, ..) -/
def tMethK (C : Addr) (m : Str) (n nk : Nat) (sp : Sp) (gV : List V → List V → List V) (E : XK) (ta : TE) (t tk : TA) : TE := fun σ H Q =>
  ta σ H fun x H1 => ∃ a dx fs, x = .ref a ∧ H1 a = some (.ins C dx fs) ∧ fs.lookup m = none ∧ t σ H1 fun vs H2 => tk σ H2 fun zs H3 => (x :: vs).length = n ∧ zs.length = nk ∧ sp (gV (x :: vs) zs) H3 Q E
section
variable {X : Cx} {CX : CXT} {k n : Nat} {f C : Addr} {fd : FuncData} {ps ks : List Str} {sp : Sp} {E : XK} {m : Str} {pos apos : Pos} {e o : Expr} {es : List Expr} {kws : List Keyword} {ta : TE} {t tk : TA} {g : List Value → List Value → List Value} {gV : List V → List V → List V}
theorem pe_methK {pl : Sem Bool} (he : PE X o ta) (c : Cls X.K C) (hm : Meth X.K C m f) (F : FnOk X.prog X.w X.K X.mg X.base CX k f fd ps sp) (hr : Room k X.A) (hb : KBn X.K fd ps n ks g gV) (hx : Passes CX X E) (ha : PA X (e :: es) t) (hkw : PK X kws tk)
    (hall : (backToKw pos (keywordEach kws X.env)).all (·.1.isSome) = true := by rfl) (hks : (backToKw pos (keywordEach kws X.env)).filterMap (·.1) = ks := by rfl)
    (hst : starEach (e :: es) X.env = (false, eval e X.env) :: starEach es X.env := by rfl)
    (hpl : ((backTo pos (starEach (e :: es) X.env)).any (·.1) || (backToKw pos (keywordEach kws X.env)).any (·.1.isNone)) = false := by rfl)
    (ht : eval (.Call (.Attribute o m apos) (e :: es) kws pos) X.env = (do
      let ov ← eval o X.env
      standAt apos.atName
      let (f, first) ← holding [ov] (getMethod ov m pl)
      callWith pos f first (backTo pos (starEach (e :: es) X.env)) (backToKw pos (keywordEach kws X.env))) := by rfl) :
    PE X (.Call (.Attribute o m apos) (e :: es) kws pos) (tMethK C m n ks.length sp gV E ta t tk) := by
  refine ⟨fun pins s σ H Q I h => ?_⟩
  refine PySem.W.methodCall_KW (pl := pl) (thn (he.run pins s σ H _ I h) fun u s1 ⟨x, H1, I1, rx, a, dx, fs, ex, ea, l, q⟩ => ?_) ht
  subst ex
  obtain rfl : u = Value.ref a := rx
  refine getmeth_ok I1 ea c hm l ?_
  refine PySem.W.callWith_KW (first := [.ref a]) (h₀ := X.base) I.ok.mod.kin hm.kp hall (thn (ha.run pos pins s1 σ H1 _ I1 q) fun us s2 ⟨vs, H2, I2, r, q2⟩ => ?_) hpl hst
  refine thn (hkw.run pos pins s2 σ H2 _ I2 q2) fun ws s3 ⟨zs, H3, I3, rz, l1, l2, q3⟩ => ⟨I3.kIn, ?_⟩
  rw [hks]
  exact run_fnN (us := .ref a :: us) (vs := .ref a :: vs) F hr hb hx I3 (.cons rfl r) rz l1 l2 q3
end

/-! ### dicts: !=, update -/
section
variable {X : Cx}
/-- a != b of dicts of flat values: of unlike lengths, or the same whatever the order -/
def rNeD2 : R2 := fun x y H Q => ∃ a b ks ls, x = .ref a ∧ y = .ref b ∧ H a = some (.dK ks) ∧ H b = some (.dK ls) ∧ ((ks.length ≠ ls.length ∧ Q (.bl true) H) ∨ (ks.length = ls.length ∧ (∀ p ∈ ks, valV ls p.1 = some p.2 ∧ flatB p.2 = true) ∧ Q (.bl false) H))
theorem op_neD2 (hu : X.A.units < cLine) : OpR X (compareOp .NotEq) rNeD2 := by
  intro pins s σ H x y v u Q I rx ry h
  obtain ⟨a, b, ks, ls, rfl, rfl, ea, eb, h⟩ := h
  rcases h with ⟨hl, q⟩ | ⟨hl, hp, q⟩
  · obtain rfl : v = Value.ref a := rx
    obtain rfl : u = Value.ref b := ry
    obtain ⟨_, ya, va, ra, da⟩ := (show ObjOk X.prog X.w H s.heap a (.dK ks) from I.hok a _ ea)
    obtain ⟨_, yb, vb, rb, db⟩ := (show ObjOk X.prog X.w H s.heap b (.dK ls) from I.hok b _ eb)
    have hn : va.length ≠ vb.length := by rw [← ra.length, ← rb.length]; exact hl
    exact PySem.W.keq_ne (knd := mixKind X.prog X.w) (r := true) ya yb da db hu (fun z => absurd z hn) (fin_bl I q (by simp [hn]))
  · exact op_ne_dictA hu pins s σ H _ _ v u Q I rx ry ⟨a, b, ks, ls, rfl, rfl, ea, eb, hl, hp, q⟩

/-- d.update(e), both dicts -/
def rUpd : V → List V → Hp → VK → Prop := fun x vs H Q => ∃ (a b : Addr) (ks ls : List (Key × V)), x = .ref a ∧ vs = [.ref b] ∧ a ≠ b ∧ H a = some (.dK ks) ∧ H b = some (.dK ls) ∧ ks.length + ls.length ≤ sizeLine ∧ Q .non (upd H a (.dK (mergeK ks ls)))
theorem mt_update : MtR X "dict.update" rUpd := by
  intro pins s σ H x vs v us Q I rx rv h
  obtain ⟨a, b, ks, ls, rfl, rfl, hne, ea, eb, hz, q⟩ := h
  obtain rfl : v = Value.ref a := rx
  obtain ⟨w, e1, rw1⟩ : ∃ w, us = [w] ∧ RelV (.ref b) w := by
    cases rv with
    | cons r t => cases t; exact ⟨_, rfl, r⟩
  subst e1
  obtain rfl : w = Value.ref b := rw1
  obtain ⟨za, ya, va, ra, da⟩ := (show ObjOk X.prog X.w H s.heap a (.dK ks) from I.hok a _ ea)
  obtain ⟨zb, yb, vb, rb, db⟩ := (show ObjOk X.prog X.w H s.heap b (.dK ls) from I.hok b _ eb)
  refine call_meetsIn PySem.F.slot_dict_update da.typeIs PySem.F.entry_dict_update (PySem.F.args_dict_update_2 _ _) (meets_dict_update (mixKind X.prog X.w) a b hne yb)
    ⟨va, vb, da, db, by rw [← ra.length, ← rb.length]; exact hz, fun h' da' _ hs => ?_⟩
  have hl : (mergeK ks ls).length ≤ sizeLine := Nat.le_trans (length_mergeK ls ks) hz
  have he : ∃ q, h'.get? a = some q := let ⟨q, _, _, hq, _⟩ := da'; ⟨q, hq⟩
  exact ⟨.non, _, d_write I (by rw [ea]; exact True.intro) hs he (dk_new hl ya (rb.merge ra) da'), rfl, q⟩
end

/-! ### a dict is none of some texts -/
section
variable {prog : Program} {w : World} {A : Around} {E : Value → Shared → Prop} {s : Shared}
theorem str_eq_dict (b : Str) (u : Tok) (l : Addr) (es : Array DictEntry) (n : Nat) (dd : Option Addr) (sl : Array (Option Value)) :
    Meets (Builtin.«str.__eq__» ⟨[.str b u, .ref l], []⟩) (fun _ R s => s.heap.get? l = some { cls := .type "dict", dict := dd, data := .dict es n, slots := sl } ∧ R (.ok (.ret .notImplemented)) s) :=
  .of_wp fun prog w A R s h => by
    obtain ⟨hp, g, d, tk, os⟩ := s
    obtain ⟨hl, h⟩ := h
    have f1 := F.sub_dict_str
    wp_walk using PySem.AutoSeq1.wpAny_loadPart' hl, wpAny_load hl
    exact ⟨_, rfl, h⟩
theorem dict_eq_str {l : Addr} (b : Str) (u : Tok) {o : Obj} (ho : s.heap.get? l = some o) (hx : o.ExactDict) {Q : Value → Shared → Prop} (h : Q .notImplemented s) : wpAny (model prog w) A (call (.builtin "dict.__eq__") [.ref l, .str b u]) Q E s := by
  have ty : s.TypeIs (.ref l) "dict" := ⟨o, ho, hx.1⟩
  refine wpAny_call_entry PySem.F.slot_dict_eq ty PySem.F.entry_dict_eq ?_ (PySem.F.args_dict_eq_2 _ _)
  show wpAny _ _ (Builtin.Dict.dictSlotArgs "__eq__" ⟨[.ref l, .str b u], []⟩ >>= _) _ _ s
  refine wpAny_bind ?_
  unfold Builtin.Dict.dictSlotArgs
  refine wpAny_bind (wpAny_notOrdered_dict ty ?_)
  show wpAny _ _ (pure (Value.ref l, Value.str b u)) _ _ s
  refine wpAny_pure ?_
  refine wpAny_bind (wpAny_isInstance (T := "str") (typeIs_str s b u) PySem.F.sub_str_dict ?_)
  simp only [Bool.not_false, if_true]
  refine wpAny_bind (wpAny_rule (wpAny_pure ⟨_, rfl, h⟩))
theorem rc_str_dict {l : Addr} (b : Str) (u : Tok) {o : Obj} {es : Array DictEntry} {n : Nat} (ho : s.heap.get? l = some o) (hx : o.ExactDict) (hd : o.data = .dict es n) (hu : A.units < cLine) : SeqAt.RcAt A s (.str b u) (.ref l) false := fun prog w E Q h => by
  have ty : s.TypeIs (.ref l) "dict" := ⟨o, ho, hx.1⟩
  have ho' : s.heap.get? l = some { cls := .type "dict", dict := none, data := .dict es n, slots := #[] } := by
    obtain ⟨h1, h2, h3⟩ := hx
    rw [ho]
    cases o
    simp only at h1 h2 h3 hd
    rw [h1, h2, h3, hd]
  exact SeqAt.rc_eq_decline_or (k := false) (typeIs_str s b u) ty (by decide) F.sub_dict_str F.slot_str_eq F.slot_dict_eq_refl
    (fun _ hq => call_meets F.slot_str_eq (typeIs_str s b u) F.entry_str_eq (F.args_str_eq_2 _ _) (str_eq_dict b u l es n none #[]) ⟨ho', hq⟩)
    (fun _ hq => dict_eq_str b u ho hx hq)
    (fun _ hq => wpAny_of_eq (rfl : isSame (.str b u) (.ref l) = pure false) hq) (.inr hu) h
theorem eqAt_str_dict {l : Addr} (b : Str) (u : Tok) {o : Obj} {es : Array DictEntry} {n : Nat} (ho : s.heap.get? l = some o) (hx : o.ExactDict) (hd : o.data = .dict es n) (hu : A.units < cLine) : SeqAt.EqAt A s (.str b u) (.ref l) false := fun prog w E Q h => by
  unfold eqBool
  refine wpAny_holding ?_
  refine wpAny_ite_split (fun hab => absurd (eq_of_beq hab) nofun) (fun _ => ?_)
  exact wpAny_bind (rc_str_dict b u ho hx hd hu prog w E _ (wpAny_truthy_bool h))
end
section
variable {X : Cx}
/-- x in (text, ..) where x is a flat value, or a dict (then it's none of them) -/
def rInSD (K : PySem.W.Frag) : R2 := fun x y H Q => ∃ p, ∃ xs : List Str, y = .ref p ∧ SqT K H p (xs.map V.str) ∧
  ((flatV x = true ∧ Q (.bl (inV x (xs.map V.str))) H) ∨ (∃ a kvs, x = .ref a ∧ H a = some (.dK kvs) ∧ Q (.bl false) H))
theorem flat_strs : ∀ xs : List Str, (xs.map V.str).all flatV = true
  | [] => rfl
  | x :: xs => by rw [List.map_cons, List.all_cons, flat_strs xs] <;> rfl
theorem op_inSD (hu : X.A.units + 64 < cLine) : OpR X (compareOp .In) (rInSD X.K) := by
  intro pins s σ H x y v u Q I rx ry h
  obtain ⟨p, xs, rfl, hq, ⟨fx, q⟩ | ⟨a, kvs, rfl, ha, q⟩⟩ := h
  · exact op_in_seq pins s σ H x _ v u Q I rx ry ⟨p, xs.map V.str, rfl, .inr hq, fx, flat_strs xs, q⟩
  · cases ry
    obtain rfl : v = Value.ref a := rx
    obtain ⟨its, r, pl, hz⟩ := I.tuple hq
    obtain ⟨_, _, vs, rel, o, es, ep, ho, hx, hd, _⟩ := (show ObjOk X.prog X.w H s.heap a (.dK kvs) from I.hok a _ ha)
    refine SeqAt.in_tupleAt (fun _ => false) pl (fun w hw => ?_) ⟨.bl _, H, I, rfl, ?_⟩
    · have hm : w ∈ its := by simpa using hw
      obtain ⟨i, hi⟩ := List.mem_iff_getElem?.mp hm
      have hlt : i < (xs.map V.str).length := by rw [r.length]; exact (List.getElem?_eq_some_iff.mp hi).1
      obtain ⟨u, hu1, hu2⟩ := r.get (List.getElem?_eq_getElem hlt)
      rw [hi] at hu1
      cases hu1
      rw [List.getElem_map] at hu2
      obtain ⟨t, rfl⟩ := hu2
      exact eqAt_str_dict _ t ho hx hd (by show X.A.units + 1 < cLine; exact Nat.lt_of_le_of_lt (Nat.add_le_add_left (by decide : 1 ≤ 64) _) hu)
    · have e : its.toArray.any (fun _ => false) = false := by simp
      rw [e]; exact q
end

/-! ### name = {k: v for ..}, one clause -/
section
variable {X : Cx}
theorem ps_setDc {i : Nat} {y : Str} {py : Pos} {kx vx tg iter : Expr} {ifs : List Expr} {scope : Scope} {own : List (Str × Nat)} {pos spos : Pos} {wi : TI} {g : TG} {tt : TT} {tk tv : TE} (hc : X.calm = true) (hN : X.N.Nodup) (hy : X.N[i]? = some y) (hyl : X.env.scope.names.lookup y = some .local)
    (hsw : swapsWith (.DictComp kx vx [⟨tg, iter, ifs, 0⟩] scope pos) (some (.Name y py)) spos.line X.env = pure true) (hi : PI X tg iter wi) (ok : BlkOk X.N X.env.scope scope own)
    (hg : ∀ (s : Shared) (H : Hp) (C : Addr) (cl : List (Str × Addr)) (fp : List Addr), PG (X.blk s H scope (compEnvC scope cl C X.env) fp) tg g)
    (ht : ∀ (s : Shared) (H : Hp) (C : Addr) (cl : List (Str × Addr)) (fp : List Addr), PTs (X.blk s H scope (compEnvC scope cl C X.env) fp) ifs tt)
    (hk : ∀ (s : Shared) (H : Hp) (C : Addr) (cl : List (Str × Addr)) (fp : List Addr), PE (X.blk s H scope (compEnvC scope cl C X.env) fp) kx tk)
    (he : ∀ (s : Shared) (H : Hp) (C : Addr) (cl : List (Str × Addr)) (fp : List Addr), PE (X.blk s H scope (compEnvC scope cl C X.env) fp) vx tv) (hs : ∀ x, foldedSetIterable iter X.env x = pure x := by intro _; rfl) :
    PS X (.Assign [.Name y py] (.DictComp kx vx [⟨tg, iter, ifs, 0⟩] scope pos) spos) (tAsg (tDc wi g tt tk tv (own.map (·.2))) (gName i)) := by
  refine ⟨fun pins s σ H D I h => ?_⟩
  rw [exec_Assign_Name_used _ _ _ _ hsw]
  refine wpAny_bind (wpAny_standAt (wpAny_bind ?_))
  show wpAny _ X.A (do let _ ← comprehension (.DictComp kx vx [⟨tg, iter, ifs, 0⟩] scope pos) scope X.env (firstIterPos [⟨tg, iter, ifs, 0⟩] pos) newDict false (eval iter X.env) (some (assign (.Name y py) X.env))) _ _ s
  have h' : tDc wi g tt tk tv (own.map (·.2)) σ H (fun x H1 => gName i x σ H1 D.nx) := h
  refine wpAny_bind (thn (dc_core (Qf := fun _ s' => SP X pins D .next s') hc hN I hi ok hg ht hk he hs h' fun L C s' m H' I' q hn f => ?_) fun _ s' hq => wpAny_pure (wpAny_pure hq))
  show wpAny _ _ (assign (.Name y py) X.env (.ref L)) _ _ _
  obtain ⟨f0, f1, f2, f3, f4, f5⟩ := f
  refine wpAny_assign_Name (store_ok2 (v := V.ref L) I' hN hy (.inl hyl) rfl (fun s2 I2 ⟨a, sb, ha⟩ => ?_) (.inr hyl))
  have haC : C ≠ a := ha.elim (fun z => by rw [z]; exact f1) (fun z e => f4 y a z e.symm)
  exact ⟨m, hn.sameBut sb haC, fun h3 sb3 => ⟨_, H', I2.turned (t' := s2.toks) (fun b o hb e => (sb3.2 b hb).trans e) f0 f1 f3 f4 f5, q⟩⟩
/-- such a statement's value goes to its name on one line -/
theorem sw_dict {kx vx : Expr} {gs : List Comprehension} {scope : Scope} {pos py : Pos} {y : Str} {l : Nat} {env : Env} (hk : env.scope.kind = .function) (hy : env.scope.names.lookup y = some .local) (hl : (py.line == pos.line) = true)
    (ha : (scope.names.any fun (n, k) => n == y && (k == .local || k == .cell)) = false) : swapsWith (.DictComp kx vx gs scope pos) (some (.Name y py)) l env = pure true := by
  have ky : env.kindOf y = some .local := hy
  have hb : env.blockKind = .function := by
    unfold Env.blockKind
    rw [hk]
    rfl
  unfold swapsWith
  simp only [hb, ky, ha, Expr.pos, hl]
  rfl
end

/-! ### {k: v for .. for cell in a dict}: the second source a dict, locked while it is walked -/
section
variable {prog : Program} {w : World} {A : Around} {R : Result → Shared → Prop} {s : Shared} {kx vx t0 i0 t1 i1 : Expr} {ifs0 ifs1 : List Expr} {scope : Scope} {pos : Pos} {it : Value} {D : Addr} {env : Env}
theorem turn_out : compTurn (.DictComp kx vx [⟨t0, i0, ifs0, 0⟩, ⟨t1, i1, ifs1, 0⟩] scope pos) 0 it (.ref D) env = (do
    standAt i0.pos
    match ← pyNext it with
    | none => pure (.done .next)
    | some v =>
      letOwnedTupleGo t0 it v
      assign t0 env v
      let mut ok := true
      for c in ifs0 do
        if ok then ok ← isTrue c env (eval c env)
      if ok then
        let x ← eval i1 env
        standAt i1.pos
        let x ← foldedSetIterable i1 env x
        let _ ← runOwn (.compStart (.DictComp kx vx [⟨t0, i0, ifs0, 0⟩, ⟨t1, i1, ifs1, 0⟩] scope pos) 1 (← holding [x] (pyIter x)) (.ref D) env) env
      again (.compLoop (.DictComp kx vx [⟨t0, i0, ifs0, 0⟩, ⟨t1, i1, ifs1, 0⟩] scope pos) 0 it (.ref D) env)) := by rfl
theorem turn_in : compTurn (.DictComp kx vx [⟨t0, i0, ifs0, 0⟩, ⟨t1, i1, ifs1, 0⟩] scope pos) 1 it (.ref D) env = (do
    standAt i1.pos
    match ← pyNext it with
    | none => pure (.done .next)
    | some v =>
      letOwnedTupleGo t1 it v
      assign t1 env v
      let mut ok := true
      for c in ifs1 do
        if ok then ok ← isTrue c env (eval c env)
      if ok then
        (do
          let kv ← eval kx env
          let vv ← holding [kv] (eval vx env)
          standAt { kx.pos with endLine := vx.pos.endLine, endCol := vx.pos.endCol }
          holding [kv, vv] (dictSet D kv vv))
      again (.compLoop (.DictComp kx vx [⟨t0, i0, ifs0, 0⟩, ⟨t1, i1, ifs1, 0⟩] scope pos) 1 it (.ref D) env)) := by rfl
/-- the tests of a clause, as a loop -/
abbrev testsAll (ifs : List Expr) (env : Env) : Sem Bool := forIn ifs true fun c r => if r = true then do let ok ← isTrue c env (eval c env); pure (ForInStep.yield ok) else pure (ForInStep.yield r)
theorem loop_out (hs : ∀ x, foldedSetIterable i1 env x = pure x) (J : Nat → Shared → Prop)
    (turn : ∀ n s, J n s → wpAny (model prog w) A (pyNext it) (fun r s1 => match r with
      | none => R (.ok .next) s1
      | some v => wpAny (model prog w) A (letOwnedTupleGo t0 it v) (fun _ s2 => wpAny (model prog w) A (assign t0 env v) (fun _ s3 =>
          wpAny (model prog w) A (testsAll ifs0 env) (fun ok s4 =>
            if ok = true then wpAny (model prog w) A (eval i1 env) (fun x s5 => wpAny (model prog w) A (pyIter x) (fun it1 s6 =>
              codeAny (model prog w) A (.compStart (.DictComp kx vx [⟨t0, i0, ifs0, 0⟩, ⟨t1, i1, ifs1, 0⟩] scope pos) 1 it1 (.ref D) env) (fun r s' => match r with
                | .ok _ => ∃ m, m < n ∧ J m s'
                | .error _ => False) s6) (notedBy (model prog w) A env fun e s' => R (.error e) s') s5) (notedBy (model prog w) A env fun e s' => R (.error e) s') s4
            else ∃ m, m < n ∧ J m s4) (notedBy (model prog w) A env fun e s' => R (.error e) s') s3) (notedBy (model prog w) A env fun e s' => R (.error e) s') s2) (notedBy (model prog w) A env fun e s' => R (.error e) s') s1) (notedBy (model prog w) A env fun e s' => R (.error e) s') s)
    (n : Nat) (h : J n s) : codeAny (model prog w) A (.compLoop (.DictComp kx vx [⟨t0, i0, ifs0, 0⟩, ⟨t1, i1, ifs1, 0⟩] scope pos) 0 it (.ref D) env) R s := by
  refine codeAny_loop rfl J (fun n s hJ => ?_) n h
  show wpAny _ A ((compTurn (.DictComp kx vx [⟨t0, i0, ifs0, 0⟩, ⟨t1, i1, ifs1, 0⟩] scope pos) 0 it (.ref D) env).onRaise (fun x => do noteFrame x env; theTreesLotGoes x)) _ _ s
  refine wpAny_noted ?_
  rw [turn_out]
  have up : ∀ {α : Type} {m : Sem α} {Q Q' : α → Shared → Prop} {E : Value → Shared → Prop} {s : Shared}, wpAny (model prog w) A m Q E s → (∀ a s, Q a s → Q' a s) → wpAny (model prog w) A m Q' E s := fun h hQ => wpAny_mono h hQ fun _ _ x => x
  refine wpAny_bind (wpAny_standAt (wpAny_bind (up (turn n s hJ) fun r s1 h1 => ?_)))
  cases r with
  | none => exact wpAny_pure h1
  | some v =>
    refine wpAny_bind (up h1 fun _ s2 h2 => wpAny_bind (up h2 fun _ s3 h3 => wpAny_bind (up h3 fun ok s4 h4 => ?_)))
    cases ok with
    | false => exact wpAny_pure ⟨rfl, h4⟩
    | true =>
      refine wpAny_bind (up h4 fun x s5 h5 => wpAny_bind (wpAny_standAt (wpAny_bind (wpAny_of_eq (hs x) (wpAny_bind (wpAny_holding (up h5 fun it1 s6 h6 => ?_)))))))
      refine wpAny_bind (wpAny_runOwn ?_)
      rw [Around.mark_none]
      refine codeAny_mono h6 fun r s' hr => ?_
      cases r with
      | error e => exact hr.elim
      | ok f => first | exact wpAny_pure ⟨rfl, hr⟩ | exact wpAny_bind (wpAny_pure (wpAny_pure ⟨rfl, hr⟩))
theorem loop_in (J : Nat → Shared → Prop)
    (turn : ∀ n s, J n s → wpAny (model prog w) A (pyNext it) (fun r s1 => match r with
      | none => R (.ok .next) s1
      | some v => wpAny (model prog w) A (letOwnedTupleGo t1 it v) (fun _ s2 => wpAny (model prog w) A (assign t1 env v) (fun _ s3 =>
          wpAny (model prog w) A (testsAll ifs1 env) (fun ok s4 =>
            if ok = true then wpAny (model prog w) A (eval kx env) (fun kv s5 => wpAny (model prog w) A (eval vx env) (fun vv s6 =>
              wpAny (model prog w) A (dictSet D kv vv) (fun _ s7 => ∃ m, m < n ∧ J m s7) (notedBy (model prog w) A env fun e s' => R (.error e) s') s6) (notedBy (model prog w) A env fun e s' => R (.error e) s') s5) (notedBy (model prog w) A env fun e s' => R (.error e) s') s4
            else ∃ m, m < n ∧ J m s4) (notedBy (model prog w) A env fun e s' => R (.error e) s') s3) (notedBy (model prog w) A env fun e s' => R (.error e) s') s2) (notedBy (model prog w) A env fun e s' => R (.error e) s') s1) (notedBy (model prog w) A env fun e s' => R (.error e) s') s)
    (n : Nat) (h : J n s) : codeAny (model prog w) A (.compLoop (.DictComp kx vx [⟨t0, i0, ifs0, 0⟩, ⟨t1, i1, ifs1, 0⟩] scope pos) 1 it (.ref D) env) R s := by
  refine codeAny_loop rfl J (fun n s hJ => ?_) n h
  show wpAny _ A ((compTurn (.DictComp kx vx [⟨t0, i0, ifs0, 0⟩, ⟨t1, i1, ifs1, 0⟩] scope pos) 1 it (.ref D) env).onRaise (fun x => do noteFrame x env; theTreesLotGoes x)) _ _ s
  refine wpAny_noted ?_
  rw [turn_in]
  have up : ∀ {α : Type} {m : Sem α} {Q Q' : α → Shared → Prop} {E : Value → Shared → Prop} {s : Shared}, wpAny (model prog w) A m Q E s → (∀ a s, Q a s → Q' a s) → wpAny (model prog w) A m Q' E s := fun h hQ => wpAny_mono h hQ fun _ _ x => x
  refine wpAny_bind (wpAny_standAt (wpAny_bind (up (turn n s hJ) fun r s1 h1 => ?_)))
  cases r with
  | none => exact wpAny_pure h1
  | some v =>
    refine wpAny_bind (up h1 fun _ s2 h2 => wpAny_bind (up h2 fun _ s3 h3 => wpAny_bind (up h3 fun ok s4 h4 => ?_)))
    cases ok with
    | false => exact wpAny_pure ⟨rfl, h4⟩
    | true => exact wpAny_bind (wpAny_bind (up h4 fun kv s5 h5 => wpAny_bind (wpAny_holding (up h5 fun vv s6 h6 => wpAny_bind (wpAny_standAt (wpAny_holding (up h6 fun _ s7 h7 => wpAny_pure ⟨rfl, h7⟩)))))))
theorem start_in (h0 : codeAny (model prog w) A (.compLoop (.DictComp kx vx [⟨t0, i0, ifs0, 0⟩, ⟨t1, i1, ifs1, 0⟩] scope pos) 1 it (.ref D) env) R s)
    (h : wpAny (model prog w) A (pyIter it) (fun it' s' => codeAny (model prog w) A (.compLoop (.DictComp kx vx [⟨t0, i0, ifs0, 0⟩, ⟨t1, i1, ifs1, 0⟩] scope pos) 1 it' (.ref D) env) R s') (notedBy (model prog w) A env fun x s' => R (.error x) s') s) :
    codeAny (model prog w) A (.compStart (.DictComp kx vx [⟨t0, i0, ifs0, 0⟩, ⟨t1, i1, ifs1, 0⟩] scope pos) 1 it (.ref D) env) R s := by
  refine codeAny_of_tree ?_
  show wpAny _ _ ((compStart (.DictComp kx vx [⟨t0, i0, ifs0, 0⟩, ⟨t1, i1, ifs1, 0⟩] scope pos) 1 it (.ref D) env).onRaise (fun x => do noteFrame x env; standAt theWindowsPlace)) _ _ s
  refine wpAny_notedAt ?_
  unfold compStart
  show wpAny _ _ (ask >>= _) _ _ s
  refine wpAny_bind (wpAny_askSetting (wpAny_ite ?_))
  split
  · first | exact wpAny_bind (wpAny_pure (wpAny_pure (And.intro rfl h0))) | exact wpAny_pure (And.intro rfl h0)
  · refine wpAny_bind (wpAny_rule ?_)
    show wpAny _ _ (standAt i1.pos >>= _) _ _ s
    exact wpAny_bind (wpAny_standAt (wpAny_bind (wpAny_mono h (fun it' s' h' => wpAny_pure (And.intro rfl h')) fun _ _ x => x)))
end

section
variable {X : Cx}
/-- {k: v for tg in iter if .. for tg1 in iter1 if ..}: while the second source is walked the thing at d is locked. vs: the block's names; vs1: those of the second target -/
def tDc2 (wi : TI) (g : TG) (tt : TT) (wi1 : TI) (g1 : TG) (tt1 : TT) (tk tv : TE) (vs vs1 : List Nat) : TE := fun σ H Q => wi σ H fun J H1 => ∀ D, H1 D = none → ∃ W : Nat → Nat → Hp → Prop, (∃ m, W 0 m (upd H1 D (.dK []))) ∧ ∀ i m H, W i m H →
  (J.stop i H ∧ Q (.ref D) H) ∨ (J.go i H ∧ ∃ Nx : Hp → Prop, (∀ H', Nx H' → ∃ m', m' < m ∧ W (i + 1) m' H') ∧ ∀ x H', J.yld i H x H' → g x (wipe σ vs) H' fun σ2 H2 => wipe σ2 vs = wipe σ vs ∧ tt σ2 H2 fun b H3 =>
    if b = true then ∃ d u, H3 d = some u ∧ Mut (some u) ∧ ∀ od, wi1 σ2 (upd H3 d (.frz od u)) fun J1 H4 => ∃ W1 : Nat → Nat → Hp → Prop, (∃ m, W1 0 m H4) ∧ ∀ j k H, W1 j k H →
      (J1.stop j H ∧ H d = some (.frz od u) ∧ Nx (upd H d u)) ∨ (J1.go j H ∧ ∃ Nx1 : Hp → Prop, (∀ H', Nx1 H' → ∃ k', k' < k ∧ W1 (j + 1) k' H') ∧ ∀ x H', J1.yld j H x H' → g1 x (wipe σ2 vs1) H' fun σ3 H5 => wipe σ3 vs1 = wipe σ2 vs1 ∧ tt1 σ3 H5 fun b H6 =>
        if b = true then tk σ3 H6 fun y H7 => tv σ3 H7 fun z H8 => ∃ kvs kk, y = kV kk ∧ H8 D = some (.dK kvs) ∧ kvs.length < sizeLine ∧ Nx1 (upd H8 D (.dK (putK kvs kk z))) else Nx1 H6)
    else Nx H3)
theorem dc2_core {pins : List (Addr × Obj)} {s : Shared} {σ : L2.St} {H : Hp} {Q : VK} {kx vx tg iter tg1 iter1 : Expr} {ifs ifs1 : List Expr} {scope : Scope} {own : List (Str × Nat)} {vs1 : List Nat} {pos pos' : Pos} {wi wi1 : TI} {g g1 : TG} {tt tt1 : TT} {tk tv : TE} {use : Option (Value → Sem Unit)} {Qf : Value → Shared → Prop}
    (hc : X.calm = true) (hN : X.N.Nodup) (I : L2.Inv X pins σ H s) (hi : PI X tg iter wi) (ok : BlkOk X.N X.env.scope scope own) (hv : ∀ i ∈ vs1, i ∈ own.map (·.2))
    (hg : ∀ (s : Shared) (H : Hp) (C : Addr) (cl : List (Str × Addr)) (fp : List Addr), PG (X.blk s H scope (compEnvC scope cl C X.env) fp) tg g) (ht : ∀ (s : Shared) (H : Hp) (C : Addr) (cl : List (Str × Addr)) (fp : List Addr), PTs (X.blk s H scope (compEnvC scope cl C X.env) fp) ifs tt)
    (hk : ∀ (s : Shared) (H : Hp) (C : Addr) (cl : List (Str × Addr)) (fp : List Addr), PE (X.blk s H scope (compEnvC scope cl C X.env) fp) kx tk) (he : ∀ (s : Shared) (H : Hp) (C : Addr) (cl : List (Str × Addr)) (fp : List Addr), PE (X.blk s H scope (compEnvC scope cl C X.env) fp) vx tv)
    (hs : ∀ x, foldedSetIterable iter X.env x = pure x) (hi1 : ∀ (s : Shared) (H : Hp) (C : Addr) (cl : List (Str × Addr)) (fp : List Addr), PI (X.blk s H scope (compEnvC scope cl C X.env) fp) tg1 iter1 wi1)
    (hg1 : ∀ (s : Shared) (H : Hp) (C : Addr) (cl : List (Str × Addr)) (fp : List Addr), PG (X.blk s H scope (compEnvC scope cl C X.env) fp) tg1 g1) (ht1 : ∀ (s : Shared) (H : Hp) (C : Addr) (cl : List (Str × Addr)) (fp : List Addr), PTs (X.blk s H scope (compEnvC scope cl C X.env) fp) ifs1 tt1)
    (hs1 : ∀ env x, foldedSetIterable iter1 env x = pure x) (h : tDc2 wi g tt wi1 g1 tt1 tk tv (own.map (·.2)) vs1 σ H Q)
    (hRR : ∀ D C s' m H', L2.Inv X pins σ H' s' → Q (.ref D) H' → s'.heap.Ns C m → FpOk X pins H' C → compPost (model X.prog X.w) X.A X.xe use Qf (.ref D) C (.ok .next) s') :
    wpAny (model X.prog X.w) X.A (comprehension (.DictComp kx vx [⟨tg, iter, ifs, 0⟩, ⟨tg1, iter1, ifs1, 0⟩] scope pos) scope X.env pos' newDict false (eval iter X.env) use) Qf X.xe s := by
  have hfree : ∀ y ∈ scope.names, y.2 = .free → ∃ c, X.env.cells.lookup y.1 = some c := fun y hy e => (ok.free y hy e).elim (fun k => I.ok.has _ (.inl k)) fun k => I.ok.has _ (.inr k)
  refine wpAny_comprehension_free (use := use) rfl hs (closure_ok hfree) ok.kind (fun y hy e => by rw [ok.uniq y hy, e]) (thn (hi.run pins s σ H _ I h) fun xv s1 hx => thn hx fun itv s2 h2 => ?_)
  obtain ⟨it, fp, tn, J, H2, e, I2, T, st2, f2, q⟩ := h2
  subst e
  refine wpAny_newObj_type (newEnv_comp ?_)
  generalize hD : s2.heap.objs.size = D
  have hDn : H2 D = none := I2.hok.fresh (Nat.le_of_eq hD)
  obtain ⟨W, ⟨m0, w0⟩, turn⟩ := q D hDn
  generalize hs3 : ({ s2 with heap := s2.heap.push { cls := .type "dict", data := .dict #[] } } : Shared) = s3
  have I3 : L2.Inv X pins σ (upd H2 D (.dK [])) s3 := by
    rw [← hs3]
    refine I2.laid (t' := s2.toks) (fun b o e => Heap.get?_push_of_some _ e) (Nat.le_of_eq hD) ?_
    rw [← hD]
    exact dk_empty s2.heap I2.big
  have h3 : s3.heap = s2.heap.push { cls := .type "dict", data := .dict #[] } := by rw [← hs3]
  have sz : ∀ b ∈ fp, b < s2.heap.objs.size := fun b hb => let ⟨o, e, _⟩ := T.obj _ _ st2 b hb; Heap.lt_size e
  have f3 : ∀ b ∈ fp, FpOk X pins (upd H2 D (.dK [])) b ∧ b < s3.heap.objs.size := fun b hb => by
    have hlt := sz b hb
    have hbD : b ≠ D := by rw [← hD]; exact Nat.ne_of_lt hlt
    exact ⟨⟨by rw [upd_ne hbD]; exact (f2 b hb).1, (f2 b hb).2⟩, by rw [h3, Heap.size_push]; exact Nat.lt_succ_of_lt hlt⟩
  have st3 : tn 0 s3.heap := T.keep _ _ _ st2 fun b _ o e => by rw [h3]; exact Heap.get?_push_of_some _ e
  have I4 := block_start I3 ok hN f3
  generalize hcl : cellsFrom (s3.heap.objs.size + 1) scope.names (cloFrom X.env.cells scope.names []) = cl at I4
  have pg := hg s3 (upd H2 D (.dK [])) s3.heap.objs.size cl fp
  have pt := ht s3 (upd H2 D (.dK [])) s3.heap.objs.size cl fp
  have pk := hk s3 (upd H2 D (.dK [])) s3.heap.objs.size cl fp
  have pe := he s3 (upd H2 D (.dK [])) s3.heap.objs.size cl fp
  have pi1 := hi1 s3 (upd H2 D (.dK [])) s3.heap.objs.size cl fp
  have pg1 := hg1 s3 (upd H2 D (.dK [])) s3.heap.objs.size cl fp
  have pt1 := ht1 s3 (upd H2 D (.dK [])) s3.heap.objs.size cl fp
  show codeAny _ _ (.compStart (.DictComp kx vx [⟨tg, iter, ifs, 0⟩, ⟨tg1, iter1, ifs1, 0⟩] scope pos) 0 (.ref it) (.ref D) (compEnvC scope cl s3.heap.objs.size X.env)) (compPost (model X.prog X.w) X.A X.xe use Qf (.ref D) s3.heap.objs.size) { s3 with heap := pushCells (s3.heap.push { cls := .type "dict", data := .dict #[] }) scope.names }
  have nfp : ∀ b ∈ fp, (upd H2 D (.dK [])) b = none := fun b hb => (f3 b hb).1.1
  generalize hce : compEnvC scope cl s3.heap.objs.size X.env = ce at I4 pg pt pk pe pi1 pg1 pt1 ⊢
  have cL : ce.locals = s3.heap.objs.size := by rw [← hce]; rfl
  generalize hH3 : upd H2 D (.dK []) = H3 at I3 I4 pg pt pk pe pi1 pg1 pt1 w0 nfp f3
  generalize hs4 : ({ s3 with heap := pushCells (s3.heap.push { cls := .type "dict", data := .dict #[] }) scope.names } : Shared) = s4 at I4 ⊢
  have st4 : tn 0 s4.heap := T.keep _ _ _ st3 fun b _ o e => by rw [← hs4]; exact pushCells_keeps _ _ _ _ (Heap.get?_push_of_some _ e)
  generalize hB : X.blk s3 H3 scope ce fp = B at I4 pg pt pk pe pi1 pg1 pt1
  have stat : ∀ {σ' : L2.St} {H' : Hp} {s' : Shared}, L2.Inv B [] σ' H' s' → (∀ b ∈ fp, H' b = none) → ∀ b ∈ fp, FpOk B [] H' b := fun {σ' H' s'} I' hn b hb => by
    subst hB
    exact ⟨hn b hb, (I'.ok.exf b hb).1, I'.ok.exfs b hb, .inl hb, fun x c e => (I'.ok.exf b hb).2 x c e, fun p hp => absurd (show p ∈ ([] : List (Addr × Obj)) ++ [] from hp) (by simp)⟩
  have loop : codeAny (model X.prog X.w) X.A (.compLoop (.DictComp kx vx [⟨tg, iter, ifs, 0⟩, ⟨tg1, iter1, ifs1, 0⟩] scope pos) 0 (.ref it) (.ref D) ce) (compPost (model X.prog X.w) X.A X.xe use Qf (.ref D) s3.heap.objs.size) s4 := by
    have cB : B.calm = true := by rw [← hB]; exact hc
    refine loop_out (hs1 ce) (fun n s' => ∃ i H', L2.Inv B [] (wipe σ (own.map (·.2))) H' s' ∧ tn i s'.heap ∧ (∀ b ∈ fp, H' b = none) ∧ W i n H') ?_ m0 ⟨0, H3, I4, st4, nfp, w0⟩
    rintro n s5 ⟨i, H5, I5, st5, n5, w5⟩
    rcases turn i n H5 w5 with ⟨stop, qq⟩ | ⟨go, Nx, hNx, step⟩
    · have td := T.done B (by rw [← hB]) (by rw [← hB]) (by rw [← hB]) cB i [] s5 _ H5 (fun _ _ => False) I5 (stat I5 n5) st5 stop
      rw [← hB] at td
      refine thnF td fun r s6 ⟨hr, I6⟩ => ?_
      subst hr
      have I7 : L2.Inv X pins σ H5 s6 := I3.call' (ch := fp) I6.os I6.base I6.hok I6.bare fun b hb => ⟨(f3 b hb).1.2.2.2.1, (f3 b hb).1.2.1, (f3 b hb).1.2.2.2.2.1, (f3 b hb).1.2.2.2.2.2⟩
      have nC : H5 s3.heap.objs.size = none := by
        have z : H5 ce.locals = none := I6.free
        rw [cL] at z
        exact z
      obtain ⟨m, hn, _⟩ := I6.loc
      have hn : s6.heap.Ns ce.locals m := hn
      rw [cL] at hn
      exact hRR D s3.heap.objs.size s6 m H5 I7 qq hn (I3.fpOk (Nat.le_refl _) nC)
    · have ti := T.item B (by rw [← hB]) (by rw [← hB]) (by rw [← hB]) cB i [] s5 _ H5 (fun _ _ => False) I5 (stat I5 n5) st5 go
      subst hB
      refine thnF ti fun r s6 ⟨u, hr, h6⟩ => ?_
      subst hr
      refine thnF h6 fun _ s7 ⟨x, H7, I7, r7, y7, st7, n7⟩ => ?_
      have I7' := I7.pinned (stat I7 n7) (T.obj _ _ st7)
      refine thnF (pg.run _ s7 _ H7 x u _ I7' r7 (step x H7 y7)) fun _ s8 ⟨σ8, H8, I8, hw8, q8⟩ => ?_
      refine thnF (pt.run _ s8 σ8 H8 _ I8 q8) fun b s9 ⟨H9, I9, q9⟩ => ?_
      -- the end of a turn, from slots that know what the block knew
      have fin : ∀ {σ9 : L2.St} {s' : Shared} {H' : Hp}, L2.Inv (X.blk s3 H3 scope ce fp) ([] ++ pinsAt fp s7.heap) σ9 H' s' → (wipe σ (own.map (·.2))).length = σ9.length → (∀ (j : Nat) v, (wipe σ (own.map (·.2)))[j]? = some (some v) → σ9[j]? = some (some v)) → Nx H' →
          ∃ m, m < n ∧ ∃ i H', L2.Inv (X.blk s3 H3 scope ce fp) [] (wipe σ (own.map (·.2))) H' s' ∧ tn i s'.heap ∧ (∀ b ∈ fp, H' b = none) ∧ W i m H' := fun {σ9 s' H'} I' hl hkk nx => by
        obtain ⟨m', hm, w'⟩ := hNx H' nx
        have pin' : ∀ b ∈ fp, ∀ o, s7.heap.get? b = some o → s'.heap.get? b = some o ∧ H' b = none := fun b hb o e =>
          let z := I'.pin (b, o) (List.mem_append_right _ (List.mem_append_right _ (mem_pinsAt hb e)))
          ⟨z.1, z.2.1⟩
        exact ⟨m', hm, i + 1, H', (I'.unpinned (pins := [])).weak hl hkk, T.keep _ _ _ st7 fun b hb o e => (pin' b hb o e).1, fun b hb => let ⟨o, e, _⟩ := T.obj _ _ st7 b hb; (pin' b hb o e).2, w'⟩
      have hl8 : (wipe σ (own.map (·.2))).length = σ8.length := by rw [← hw8, wipe_length]
      have hk8 : ∀ (j : Nat) v, (wipe σ (own.map (·.2)))[j]? = some (some v) → σ8[j]? = some (some v) := fun j v e => by rw [← hw8] at e; exact (wipe_some e).1
      have hk9 : ∀ (j : Nat) v, (wipe σ (own.map (·.2)))[j]? = some (some v) → (wipe σ8 vs1)[j]? = some (some v) := fun j v e => by
        rw [← hw8] at e
        obtain ⟨e1, e2⟩ := wipe_some e
        rw [wipe_out fun z => e2 (hv j z)]
        exact e1
      cases b with
      | false =>
        simp only [Bool.false_eq_true, if_false] at q9 ⊢
        exact fin I9 hl8 hk8 q9
      | true =>
        simp only [if_true] at q9 ⊢
        obtain ⟨d, u9, hd9, mu9, q9⟩ := q9
        obtain ⟨od, I9L⟩ := I9.lock hd9 mu9
        refine thnF (pi1.run _ s9 σ8 _ _ I9L (q9 od)) fun xv s10 hx => thnF hx fun itv s11 h11 => ?_
        obtain ⟨it1, fp1, tn1, J1, H11, e1, I11, T1, st11, f11, W1, ⟨m1, w1⟩, turn1⟩ := h11
        subst e1
        have stat1 : ∀ {H' : Hp}, (∀ b ∈ fp1, H' b = none) → ∀ b ∈ fp1, FpOk (X.blk s3 H3 scope ce fp) ([] ++ pinsAt fp s7.heap) H' b := fun hn b hb => ⟨hn b hb, (f11 b hb).2⟩
        have loop1 : codeAny (model X.prog X.w) X.A (.compLoop (.DictComp kx vx [⟨tg, iter, ifs, 0⟩, ⟨tg1, iter1, ifs1, 0⟩] scope pos) 1 (.ref it1) (.ref D) ce)
            (fun r s' => match r with
              | .ok _ => ∃ m, m < n ∧ ∃ i H', L2.Inv (X.blk s3 H3 scope ce fp) [] (wipe σ (own.map (·.2))) H' s' ∧ tn i s'.heap ∧ (∀ b ∈ fp, H' b = none) ∧ W i m H'
              | .error _ => False) s11 := by
          refine loop_in (fun k s' => ∃ j H', L2.Inv (X.blk s3 H3 scope ce fp) ([] ++ pinsAt fp s7.heap) (wipe σ8 vs1) H' s' ∧ tn1 j s'.heap ∧ (∀ b ∈ fp1, H' b = none) ∧ W1 j k H') ?_ m1 ⟨0, H11, I11.weak (wipe_length _ _) (fun j v e => (wipe_some e).1), st11, fun b hb => (f11 b hb).1, w1⟩
          rintro k s12 ⟨j, H12, I12, st12, n12, w12⟩
          rcases turn1 j k H12 w12 with ⟨stop1, hfz, nx1⟩ | ⟨go1, Nx1, hNx1, step1⟩
          · refine thnF (T1.done (X.blk s3 H3 scope ce fp) rfl rfl rfl hc j _ s12 (wipe σ8 vs1) H12 (fun _ _ => False) I12 (stat1 n12) st12 stop1) fun r s13 ⟨hr, I13⟩ => ?_
            subst hr
            exact fin (I13.unlock hfz (I9.nofrz hd9 mu9)) (hl8.trans (wipe_length σ8 vs1).symm) hk9 nx1
          · refine thnF (T1.item (X.blk s3 H3 scope ce fp) rfl rfl rfl hc j _ s12 (wipe σ8 vs1) H12 (fun _ _ => False) I12 (stat1 n12) st12 go1) fun r s13 ⟨u1, hr, h13⟩ => ?_
            subst hr
            refine thnF h13 fun _ s14 ⟨x1, H14, I14, r14, y14, st14, n14⟩ => ?_
            have I14' := I14.pinned (stat1 n14) (T1.obj _ _ st14)
            refine thnF (pg1.run _ s14 (wipe σ8 vs1) H14 x1 u1 _ I14' r14 (step1 x1 H14 y14)) fun _ s15 ⟨σ15, H15, I15, hw15, q15⟩ => ?_
            refine thnF (pt1.run _ s15 σ15 H15 _ I15 q15) fun b1 s16 ⟨H16, I16, q16⟩ => ?_
            have fin1 : ∀ {s' : Shared} {H' : Hp}, L2.Inv (X.blk s3 H3 scope ce fp) (([] ++ pinsAt fp s7.heap) ++ pinsAt fp1 s14.heap) σ15 H' s' → Nx1 H' → ∃ m, m < k ∧ ∃ j H', L2.Inv (X.blk s3 H3 scope ce fp) ([] ++ pinsAt fp s7.heap) (wipe σ8 vs1) H' s' ∧ tn1 j s'.heap ∧ (∀ b ∈ fp1, H' b = none) ∧ W1 j m H' := fun {s' H'} I' nx => by
              obtain ⟨m', hm, w'⟩ := hNx1 H' nx
              have pin' : ∀ b ∈ fp1, ∀ o, s14.heap.get? b = some o → s'.heap.get? b = some o ∧ H' b = none := fun b hb o e =>
                let z := I'.pin (b, o) (List.mem_append_right _ (List.mem_append_right _ (mem_pinsAt hb e)))
                ⟨z.1, z.2.1⟩
              exact ⟨m', hm, j + 1, H', I'.unpinned.weak (by rw [← hw15, wipe_length]) (fun j v e => by rw [← hw15] at e; exact (wipe_some e).1), T1.keep _ _ _ st14 fun b hb o e => (pin' b hb o e).1, fun b hb => let ⟨o, e, _⟩ := T1.obj _ _ st14 b hb; (pin' b hb o e).2, w'⟩
            cases b1 with
            | false =>
              simp only [Bool.false_eq_true, if_false] at q16 ⊢
              exact fin1 I16 q16
            | true =>
              simp only [if_true] at q16 ⊢
              refine thnF (pk.run _ s16 σ15 H16 _ I16 q16) fun z s17 ⟨yk, H17, I17, r17, q17⟩ => ?_
              refine thnF (pe.run _ s17 σ15 H17 _ I17 q17) fun z2 s18 ⟨yv, H18, I18, r18, kvs, kk, ek, hD18, hz18, nx⟩ => ?_
              subst ek
              exact d_dictSet (X := X.blk s3 H3 scope ce fp) I18 hD18 hz18 r17 r18 fun s19 I19 => fin1 I19 nx
        exact start_in loop1 (T1.self X.A 0 _ _ _ st11 loop1)
  exact codeAny_compStart_dict loop (T.self X.A 0 _ _ _ st4 loop)
theorem ps_setDc2 {i : Nat} {y : Str} {py : Pos} {kx vx tg iter tg1 iter1 : Expr} {ifs ifs1 : List Expr} {scope : Scope} {own : List (Str × Nat)} {vs1 : List Nat} {pos spos : Pos} {wi wi1 : TI} {g g1 : TG} {tt tt1 : TT} {tk tv : TE} (hc : X.calm = true) (hN : X.N.Nodup) (hy : X.N[i]? = some y) (hyl : X.env.scope.names.lookup y = some .local)
    (hsw : swapsWith (.DictComp kx vx [⟨tg, iter, ifs, 0⟩, ⟨tg1, iter1, ifs1, 0⟩] scope pos) (some (.Name y py)) spos.line X.env = pure true) (hi : PI X tg iter wi) (ok : BlkOk X.N X.env.scope scope own) (hv : ∀ i ∈ vs1, i ∈ own.map (·.2))
    (hg : ∀ (s : Shared) (H : Hp) (C : Addr) (cl : List (Str × Addr)) (fp : List Addr), PG (X.blk s H scope (compEnvC scope cl C X.env) fp) tg g) (ht : ∀ (s : Shared) (H : Hp) (C : Addr) (cl : List (Str × Addr)) (fp : List Addr), PTs (X.blk s H scope (compEnvC scope cl C X.env) fp) ifs tt)
    (hi1 : ∀ (s : Shared) (H : Hp) (C : Addr) (cl : List (Str × Addr)) (fp : List Addr), PI (X.blk s H scope (compEnvC scope cl C X.env) fp) tg1 iter1 wi1)
    (hg1 : ∀ (s : Shared) (H : Hp) (C : Addr) (cl : List (Str × Addr)) (fp : List Addr), PG (X.blk s H scope (compEnvC scope cl C X.env) fp) tg1 g1) (ht1 : ∀ (s : Shared) (H : Hp) (C : Addr) (cl : List (Str × Addr)) (fp : List Addr), PTs (X.blk s H scope (compEnvC scope cl C X.env) fp) ifs1 tt1)
    (hk : ∀ (s : Shared) (H : Hp) (C : Addr) (cl : List (Str × Addr)) (fp : List Addr), PE (X.blk s H scope (compEnvC scope cl C X.env) fp) kx tk) (he : ∀ (s : Shared) (H : Hp) (C : Addr) (cl : List (Str × Addr)) (fp : List Addr), PE (X.blk s H scope (compEnvC scope cl C X.env) fp) vx tv)
    (hs : ∀ x, foldedSetIterable iter X.env x = pure x := by intro _; rfl) (hs1 : ∀ env x, foldedSetIterable iter1 env x = pure x := by intro _ _; rfl) :
    PS X (.Assign [.Name y py] (.DictComp kx vx [⟨tg, iter, ifs, 0⟩, ⟨tg1, iter1, ifs1, 0⟩] scope pos) spos) (tAsg (tDc2 wi g tt wi1 g1 tt1 tk tv (own.map (·.2)) vs1) (gName i)) := by
  refine ⟨fun pins s σ H D I h => ?_⟩
  rw [exec_Assign_Name_used _ _ _ _ hsw]
  refine wpAny_bind (wpAny_standAt (wpAny_bind ?_))
  show wpAny _ X.A (do let _ ← comprehension (.DictComp kx vx [⟨tg, iter, ifs, 0⟩, ⟨tg1, iter1, ifs1, 0⟩] scope pos) scope X.env (firstIterPos [⟨tg, iter, ifs, 0⟩, ⟨tg1, iter1, ifs1, 0⟩] pos) newDict false (eval iter X.env) (some (assign (.Name y py) X.env))) _ _ s
  have h' : tDc2 wi g tt wi1 g1 tt1 tk tv (own.map (·.2)) vs1 σ H (fun x H1 => gName i x σ H1 D.nx) := h
  refine wpAny_bind (thn (dc2_core (Qf := fun _ s' => SP X pins D .next s') hc hN I hi ok hv hg ht hk he hs hi1 hg1 ht1 hs1 h' fun L C s' m H' I' q hn f => ?_) fun _ s' hq => wpAny_pure (wpAny_pure hq))
  show wpAny _ _ (assign (.Name y py) X.env (.ref L)) _ _ _
  obtain ⟨f0, f1, f2, f3, f4, f5⟩ := f
  refine wpAny_assign_Name (store_ok2 (v := V.ref L) I' hN hy (.inl hyl) rfl (fun s2 I2 ⟨a, sb, ha⟩ => ?_) (.inr hyl))
  have haC : C ≠ a := ha.elim (fun z => by rw [z]; exact f1) (fun z e => f4 y a z e.symm)
  exact ⟨m, hn.sameBut sb haC, fun h3 sb3 => ⟨_, H', I2.turned (t' := s2.toks) (fun b o hb e => (sb3.2 b hb).trans e) f0 f1 f3 f4 f5, q⟩⟩
end
end K51

/-! Rules of our own: enumerate of a tuple. -/
namespace K51
open PySem PySem.Spec PyProof.Rows L2

theorem enum_new1 {v : Value} {o : Obj} {G : Heap → Prop} (B : Begins v o G) :
    Meets (Builtin.«enumerate.__new__» ⟨[.type "enumerate", v], []⟩) (fun _ R s => G s.heap ∧
      R (.ok (.ret (.ref (s.heap.push o).objs.size))) { s with heap := (s.heap.push o).push { cls := .type "enumerate", data := .fields #[.none, .bool false, .ref s.heap.objs.size, rawInt 0, .none, .none] } }) :=
  .of_wp fun prog w A R s h => by
    obtain ⟨hp, g, d, tk, os⟩ := s
    obtain ⟨h1, h⟩ := h
    have hsub := sub_enumerate
    have q1 : ∀ {A' : Around} {E : Value → Shared → Prop} {Q : Value → Shared → Prop}, Q (.ref hp.objs.size) ⟨hp.push o, g, d, tk, os⟩ → wpAny (model prog w) A' (pyIter v) Q E ⟨hp, g, d, tk, os⟩ :=
      fun q => B.iter prog w _ _ ⟨hp, g, d, tk, os⟩ _ h1 q
    wp_walk using q1
    refine wpAny_stack_any fun st => wpAny_pure ?_
    split
    · rename_i c _ _ _ _ _
      cases (c == Value.type "enumerate")
      · wp_walk using q1
        exact ⟨_, rfl, h⟩
      · wp_walk using q1
        exact ⟨_, rfl, h⟩
    · wp_walk using q1
      exact ⟨_, rfl, h⟩
section
variable {prog : Program} {w : World} {A : Around} {E : Value → Shared → Prop} {s : Shared}
theorem call_enum_tuple {t : Addr} {items : Array Value} {Q : Value → Shared → Prop} (hL : s.heap.IsTuple t items)
    (h : ∀ h', IsEnum h' (s.heap.objs.size + 1) s.heap.objs.size 0 .none → h'.IsTupleIter s.heap.objs.size t 0 → (∀ b o, s.heap.get? b = some o → h'.get? b = some o) → Q (.ref (s.heap.objs.size + 1)) { s with heap := h' }) :
    wpAny (model prog w) A (call (.type "enumerate") [.ref t]) Q E s := by
  refine callType_new F.called_enumerate (by decide) (F.typeCall_enumerate_1 _) (F.newCall_enumerate_1 _) (fun obj => F.args_object_init_2 obj _) F.entry_enumerate_new (enum_new1 (begins_tuple t items)) ⟨hL, ?_⟩
  have hz : (s.heap.push { cls := .type "tuple_iterator", data := .fields #[.ref t, .int 0 0] }).objs.size = s.heap.objs.size + 1 := Heap.size_push ..
  show _ ∧ _
  rw [hz]
  have he : IsEnum ((s.heap.push { cls := .type "tuple_iterator", data := .fields #[.ref t, .int 0 0] }).push { cls := .type "enumerate", data := .fields #[.none, .bool false, .ref s.heap.objs.size, rawInt 0, .none, .none] }) (s.heap.objs.size + 1) s.heap.objs.size 0 .none := by
    have e := Heap.get?_push_size (s.heap.push { cls := .type "tuple_iterator", data := .fields #[.ref t, .int 0 0] }) (o := { cls := .type "enumerate", data := .fields #[.none, .bool false, .ref s.heap.objs.size, rawInt 0, .none, .none] }) rfl
    rw [hz] at e
    exact e
  exact ⟨⟨_, he, rfl⟩, h _ he ⟨_, Heap.get?_push_of_some _ (Heap.get?_push_size _ rfl), rfl, rfl⟩ fun b o x => Heap.get?_push_of_some _ (Heap.get?_push_of_some _ x)⟩
end

/-- the tuple at a, each item in a new pair with its place -/
def IteT (K : PySem.W.Frag) (a : Addr) : It :=
  ⟨fun i H => ∃ (xs : List V) (x : V), SqT K H a xs ∧ xs[i]? = some x, fun i H v H' => ∃ T x, v = .ref T ∧ H T = none ∧ H' = upd H T (.tup [.int (i : Nat), x]) ∧ ∀ xs, SqT K H a xs → xs[i]? = some x, fun i H => ∃ xs : List V, SqT K H a xs ∧ xs.length ≤ i⟩
theorem isTup_ne_enum {h : Heap} {e it a : Addr} {i : Int} {old : Value} {items : Array Value} (he : IsEnum h e it i old) (p : IsTup h a items) : e ≠ a := fun z => by
  obtain ⟨o, q, hc, _⟩ := p
  rw [← z] at q
  have he' : h.get? e = _ := he
  rw [he'] at q
  cases q
  exact absurd (show (Value.type "enumerate" : Value) = .type "tuple" from hc) (by decide)
theorem isTup_ne_iter {h : Heap} {it a : Addr} {i : Nat} {items : Array Value} (he : h.IsTupleIter it a i) (p : IsTup h a items) : a ≠ it := fun z => by
  obtain ⟨o, q, hc, _⟩ := p
  obtain ⟨o', q', hc', _⟩ := he
  rw [z, q'] at q
  cases q
  rw [hc] at hc'
  exact absurd hc' (by decide)
theorem turn_enumT {P : Program} {w : World} {K : PySem.W.Frag} {elts : List Expr} {kk : Nat} {tpos : Pos} (a e it : Addr) :
    Turn P w K (.Tuple elts kk tpos) (IteT K a) [e, it] e (fun i h => (∃ old, IsEnum h e it ((i : Nat) : Int) old) ∧ h.IsTupleIter it a i ∧ e ≠ it) where
  mem := by simp
  obj := fun i h st b hb => by
    obtain ⟨⟨old, he⟩, ⟨o, ho, hc, hd⟩, _⟩ := st
    rcases (show b = e ∨ b = it by simpa using hb) with z | z
    · rw [z]; exact ⟨_, he, fun v q => nomatch q⟩
    · rw [z]; exact ⟨o, ho, fun v q => by rw [hd] at q; cases q⟩
  keep := fun i h h' st k => let ⟨⟨old, he⟩, hi, hne⟩ := st; ⟨⟨old, k e (by simp) _ he⟩, hi.at fun o q => k it (by simp) o q, hne⟩
  item := by
    intro X hP hw hK hc i pins s σ H E I hf st hg
    subst hP hw hK
    obtain ⟨⟨old, he⟩, hit, hne⟩ := st
    obtain ⟨xs, x, hq, hx⟩ := hg
    obtain ⟨its, rv, p, hz⟩ := I.tuple hq
    obtain ⟨u, hu, ru⟩ := rv.get hx
    have hel : e < s.heap.objs.size := Heap.lt_size he
    have hil : it < s.heap.objs.size := by obtain ⟨_, q, _⟩ := hit; exact Heap.lt_size q
    have hea := isTup_ne_enum he p
    have hai := isTup_ne_iter hit p
    have hlt : i < its.toArray.size := by simpa using (List.getElem?_eq_some_iff.mp hu).1
    refine wpAny_pyNext_enum_itemD (Draws.tuple (A := X.A.in1) (I.ok.hd hc) it a hai its.toArray) he ⟨hit, p⟩ hlt hne (by simp [hne, hea]) fun u' h' tk hP' ho st' hT hsz hk => ?_
    have hu' : u' = u := by
      have e1 : its.toArray[i]? = some u := by simpa using hu
      rw [e1] at hP'
      exact (Option.some.inj hP').symm
    subst hu'
    refine ⟨_, rfl, wpAny_letOwnedTupleGo_enum (s := { s with heap := h', toks := tk + 1 }) ho fun h'' he' sb => ?_⟩
    have hT2 : h''.get? s.heap.objs.size = some { cls := .type "tuple", data := .seq #[.int i tk, u'] } := (sb.2 _ (Nat.ne_of_gt hel)).trans hT
    have new : ObjOk X.prog X.w (upd H s.heap.objs.size (.tup [.int (i : Nat), x])) h'' s.heap.objs.size (.tup [.int (i : Nat), x]) :=
      ⟨by show 2 ≤ sizeLine; decide, [.int i tk, u'], .cons ⟨_, rfl⟩ (.cons ru .nil), ⟨_, hT2, rfl, _, rfl⟩⟩
    have I1 : L2.Inv X pins σ (upd H s.heap.objs.size (.tup [.int (i : Nat), x])) { s with heap := h'', toks := tk + 1 } :=
      I.turnedNew (ch := [e, it]) (fun b ob hb q => (sb.2 b (fun z => hb (by simp [z]))).trans (hk b ob (fun z => hb (by simp [z])) (fun z => hb (by simp [z])) q)) hf (Nat.le_refl _) new
    refine ⟨.ref s.heap.objs.size, _, I1, rfl, ⟨_, x, rfl, I.hok.fresh (Nat.le_refl _), rfl, fun ys hy => by rw [I.tuple_inj hy hq]; exact hx⟩, ⟨⟨u', ?_⟩, st'.1.at fun o q => (sb.2 it (Ne.symm hne)).trans q, hne⟩, fun b hb => ?_⟩
    · rw [show ((i + 1 : Nat) : Int) = (i : Int) + 1 by omega]
      exact he'
    · have hb' : b < s.heap.objs.size := by
        rcases (show b = e ∨ b = it by simpa using hb) with z | z
        · rw [z]; exact hel
        · rw [z]; exact hil
      rw [upd_ne (Nat.ne_of_lt hb')]
      exact (hf b hb).1
  done := by
    intro X hP hw hK hc i pins s σ H E I hf st hg
    subst hP hw hK
    obtain ⟨⟨old, he⟩, hit, hne⟩ := st
    obtain ⟨xs, hq, hx⟩ := hg
    obtain ⟨its, rv, p, hz⟩ := I.tuple hq
    obtain ⟨f0, f1, f2, f3, f4, f5⟩ := hf it (by simp)
    have hT : s.TypeIs (.ref e) "enumerate" := ⟨_, he, rfl⟩
    have hl : its.toArray[i]? = none := by
      have := rv.length
      simp
      omega
    unfold pyNext
    refine wpAny_bind (wpAny_attempt (wpAny_callSpecial?_slot (name := Str.ofString "__next__") hT F.slot_enumerate_next (wpAny_call_entry F.slot_enumerate_next hT F.entry_enumerate_next ?_ (F.args_enumerate_next_1 _))))
    show wpAny _ _ (field (.ref e) 2 >>= _) _ _ _
    refine wpAny_bind (wpAny_field he rfl (x := .ref it) rfl ?_)
    refine wpAny_bind (wpAny_nextOf_tuple_end (I.ok.hd hc) hit p hl fun h' x he' hx' => ?_)
    obtain ⟨o, ho, hcx⟩ := hx'
    refine wpAny_bind (wpAny_isInstance (T := "StopIteration") (b := true) ⟨o, ho, hcx⟩ isSubtype_stop ?_)
    exact wpAny_pure ⟨rfl, I.turned (t' := s.toks) (fun b o hb q => he' b o hb q) f0 f1 f3 f4 f5⟩
  self := fun A i s Q E st h => let ⟨⟨_, he⟩, _⟩ := st; wpAny_pyIter_enum he h
def iEnumT (K : PySem.W.Frag) (ta : TA) : TI := fun σ H R => ta σ H fun vs H1 => ∃ a xs, vs = [.ref a] ∧ SqT K H1 a xs ∧ R (IteT K a) H1
theorem pi_enumT {X : Cx} {e : Expr} {ta : TA} {p pos tpos : Pos} {elts : List Expr} {kk : Nat} (hg : Gl X "enumerate") (hm : X.mg "enumerate" = none) (ha : PA X [e] ta) (hs : starEach [e] X.env = [(false, eval e X.env)] := by rfl) :
    PI X (.Tuple elts kk tpos) (.Call (.Name "enumerate" p) [e] [] pos) (iEnumT X.K ta) := by
  refine ⟨fun pins s σ H R I h => ?_⟩
  refine Call_ (ld_blt I hg hm boot_enumerate (PyProof.Rows.callWith_type1 (thn (ha.run pos pins s σ H _ I h) fun us s1 ⟨vs, H1, I1, r1, q1⟩ => ?_) hs rfl))
  obtain ⟨a, xs, ex, hq, q⟩ := q1
  subst ex
  cases r1 with
  | cons r rr =>
    cases rr
    cases r
    obtain ⟨its, rv, p', hz⟩ := I1.tuple hq
    refine call_enum_tuple p' fun h' he hit hk => wpAny_pyIter_enum he ?_
    have I2 : L2.Inv X pins σ H1 { s1 with heap := h' } := I1.kept (t' := s1.toks) hk
    refine ⟨s1.heap.objs.size + 1, [s1.heap.objs.size + 1, s1.heap.objs.size], _, _, H1, rfl, I2, turn_enumT a (s1.heap.objs.size + 1) s1.heap.objs.size, ⟨⟨.none, he⟩, hit, Nat.succ_ne_self _⟩, fun b hb => ?_, q⟩
    have hle : s1.heap.objs.size ≤ b := by
      rcases (show b = s1.heap.objs.size + 1 ∨ b = s1.heap.objs.size by simpa using hb) with z | z
      · rw [z]; exact Nat.le_add_right _ _
      · rw [z]; exact Nat.le_refl _
    exact I1.fpOk hle (I1.hok.fresh hle)
theorem walk_enumT {K : PySem.W.Frag} {a : Addr} {xs : List V} : Walk (IteT K a) xs.length (fun H => SqT K H a xs) (YPair (fun i => some (.int (i : Nat))) (fun i => xs[i]?)) where
  goes := fun i H hi h => ⟨xs, xs[i], h, List.getElem?_eq_getElem hi⟩
  stops := fun H h => ⟨xs, h, Nat.le_refl _⟩
  yields := fun i H x H' hi h y => let ⟨T, z, e1, e2, e3, e4⟩ := y; ⟨T, _, z, e1, e2, e3, rfl, e4 xs h⟩
/-- a dict comprehension over what is walked: Pv by the turn and the heap (the new dict at D within) -/
theorem dc_it {J : It} {n : Nat} {G : Hp → Prop} {Y : Nat → Hp → V → Hp → Prop} (w : Walk J n G Y) {g : TG} {tt : TT} {tk tv : TE} {vs : List Nat} {σ : L2.St} {H1 : Hp} {D : Addr} {Qd : Hp → Prop} (Pv : Nat → Hp → Prop) (h0 : Pv 0 (upd H1 D (.dK []))) (hG : ∀ i H, i ≤ n → Pv i H → G H)
    (hs : ∀ i x H H', i < n → Pv i H → Y i H x H' → g x (wipe σ vs) H' fun σ2 H2 => wipe σ2 vs = wipe σ vs ∧ tt σ2 H2 fun b H3 =>
      if b = true then tk σ2 H3 fun y H4 => tv σ2 H4 fun z H5 => ∃ kvs k, y = kV k ∧ H5 D = some (.dK kvs) ∧ kvs.length < sizeLine ∧ Pv (i + 1) (upd H5 D (.dK (putK kvs k z))) else Pv (i + 1) H3) (hd : ∀ H, Pv n H → Qd H) :
    ∃ W : Nat → Nat → Hp → Prop, (∃ m, W 0 m (upd H1 D (.dK []))) ∧ ∀ i m H, W i m H →
      (J.stop i H ∧ Qd H) ∨ (J.go i H ∧ ∃ Nx : Hp → Prop, (∀ H', Nx H' → ∃ m', m' < m ∧ W (i + 1) m' H') ∧ ∀ x H', J.yld i H x H' → g x (wipe σ vs) H' fun σ2 H2 => wipe σ2 vs = wipe σ vs ∧ tt σ2 H2 fun b H3 =>
        if b = true then tk σ2 H3 fun y H4 => tv σ2 H4 fun z H5 => ∃ kvs k, y = kV k ∧ H5 D = some (.dK kvs) ∧ kvs.length < sizeLine ∧ Nx (upd H5 D (.dK (putK kvs k z))) else Nx H3) := by
  refine ⟨fun i m H => m = n - i ∧ i ≤ n ∧ Pv i H, ⟨n, by simp, Nat.zero_le _, h0⟩, ?_⟩
  rintro i m H ⟨rfl, hi, p⟩
  by_cases hlt : i < n
  · exact .inr ⟨w.goes i H hlt (hG i H hi p), Pv (i + 1), fun H' p' => ⟨n - (i + 1), by omega, rfl, hlt, p'⟩, fun x H' y => hs i x H H' hlt p (w.yields i H x H' hlt (hG i H hi p) y)⟩
  · have e : i = n := by omega
    subst e
    exact .inl ⟨w.stops H (hG i H hi p), hd H p⟩
end K51

/-! A rule of our own: xs != [] whatever the items. -/
namespace K51
open PySem PySem.Spec PyProof.Rows L2
def rNeNil (K : PySem.W.Frag) : R2 := fun x y H Q => ∃ a b xs, x = .ref a ∧ y = .ref b ∧ SqL K H a xs ∧ SqL K H b [] ∧ Q (.bl (!xs.isEmpty)) H
theorem op_neNil {X : Cx} (hu : X.A.units < cLine) : OpR X (compareOp .NotEq) (rNeNil X.K) := by
  intro pins s σ H x y v u Q I rx ry h
  obtain ⟨a, b, xs, rfl, rfl, ha, hb, q⟩ := h
  obtain rfl : v = Value.ref a := rx
  obtain rfl : u = Value.ref b := ry
  obtain ⟨us, r1, p1, _⟩ := I.list ha
  obtain ⟨ws, r2, p2, _⟩ := I.list hb
  have e2 : ws = [] := List.length_eq_zero_iff.mp r2.length.symm
  subst e2
  have l1 := r1.length
  cases xs with
  | nil =>
    have e1 : us = [] := List.length_eq_zero_iff.mp l1.symm
    subst e1
    have := SeqAt.RcNeAt.lists (e := fun _ => true) p1.isList p2.isList rfl hu (fun j h1 h2 => by simp at h1)
    exact this X.prog X.w X.xe _ ⟨.bl _, H, I, rfl, q⟩
  | cons z zs =>
    have := SeqAt.RcNeAt.lists_lengths (A := X.A) p1.isList p2.isList (by
      have : us.length ≠ 0 := by rw [← l1]; simp
      simp; exact fun z => this (by rw [z]; rfl)) hu
    exact this X.prog X.w X.xe _ ⟨.bl _, H, I, rfl, q⟩
end K51

/-! Mathematics 1: middle rows, their runs, the simulation by an aligned list. -/
namespace K51
abbrev S := PySem.Str

structure Pl where
  line : Int
  col : Int

inductive Op where
  | add | take | times | over | rest | less | same
  deriving DecidableEq

inductive Flt where
  | nought | great
  deriving DecidableEq

def big : Int := 1000000000000

def fit (v : Int) : Except Flt Int := if 0 - big ≤ v ∧ v ≤ big then .ok v else .error .great

/-- what an op tells of two numbers -/
def Op.ap : Op → Int → Int → Except Flt Int
  | .add, a, b => fit (a + b)
  | .take, a, b => fit (a - b)
  | .times, a, b => fit (a * b)
  | .over, a, b => if b = 0 then .error .nought else .ok (a.fdiv b)
  | .rest, a, b => if b = 0 then .error .nought else .ok (a - a.fdiv b * b)
  | .less, a, b => .ok (if a < b then 1 else 0)
  | .same, a, b => .ok (if a = b then 1 else 0)

inductive Row where
  | begin (p : Pl)
  | put (c n : Int) (p : Pl)
  | copy (c d : Int) (p : Pl)
  | two (o : Op) (c d e : Int) (p : Pl)
  | fetch (c : Int) (f n : S) (p : Pl)
  | lay (n : S) (c : Int) (p : Pl)
  | label (k : Int) (p : Pl)
  | go (k : Int) (p : Pl)
  | unless (c k : Int) (p : Pl)
  | call (c : Option Int) (f n : S) (cs : List Int) (p : Pl)
  | say (kind : S) (c : Int) (p : Pl)
  | give (c : Option Int) (p : Pl)
  | nothing (p : Pl)

namespace Row
def reads : Row → List Int
  | .copy _ d _ => [d]
  | .two _ _ d e _ => [d, e]
  | .lay _ c _ => [c]
  | .unless c _ _ => [c]
  | .call _ _ _ cs _ => cs
  | .say _ c _ => [c]
  | .give (some c) _ => [c]
  | _ => []
def lays : Row → Option Int
  | .put c _ _ => some c
  | .copy c _ _ => some c
  | .two _ c _ _ _ => some c
  | .fetch c _ _ _ => some c
  | .call c _ _ _ _ => c
  | _ => none
def isEnd : Row → Bool
  | .give _ _ => true
  | .nothing _ => true
  | .go _ _ => true
  | _ => false
def isLabel : Row → Bool
  | .label _ _ => true
  | _ => false
def labelOf : Row → Option Int
  | .label k _ => some k
  | _ => none
def target : Row → Option Int
  | .go k _ => some k
  | .unless _ k _ => some k
  | _ => none
def spends : Row → Int
  | .begin _ => 1
  | _ => 0
def place : Row → Pl
  | .begin p => p
  | .put _ _ p => p
  | .copy _ _ p => p
  | .two _ _ _ _ p => p
  | .fetch _ _ _ p => p
  | .lay _ _ p => p
  | .label _ p => p
  | .go _ p => p
  | .unless _ _ p => p
  | .call _ _ _ _ p => p
  | .say _ _ p => p
  | .give _ p => p
  | .nothing p => p
end Row

abbrev Cells := Int → Option Int
abbrev Keeps := S → S → Option Int
def setC (c : Cells) (x v : Int) : Cells := fun y => if y = x then some v else c y
def setK (k : Keeps) (f n : S) (v : Int) : Keeps := fun g m => if g = f ∧ m = n then some v else k g m
theorem setC_same {c : Cells} {x v : Int} : setC c x v x = some v := by unfold setC; simp
theorem setC_ne {c : Cells} {x y v : Int} (h : y ≠ x) : setC c x v y = c y := by unfold setC; simp [h]

/-- the worth of a keep that is fetched -/
def fetched (k : Keeps) (f n : S) : Int := (k f n).getD (((f ++ n).length : Int) * 11)
/-- the number of a call -/
def came (f n : S) (vs : List Int) : Int := vs.foldl (fun a v => (a * 31 + v) % 1009) (((f ++ n).length : Int) * 7 + vs.length) - 500
def fileF : S := PySem.Str.ofString "f"

inductive Evt where
  | begin (p : Pl) (vs : List Int)
  | nothing (p : Pl)
  | lay (p : Pl) (n : S) (v : Int)
  | say (p : Pl) (k : S) (v : Int)
  | give (p : Pl) (v : Option Int)
  | call (p : Pl) (f n : S) (vs : List Int)
  | fault (p : Pl) (o : Op) (w : Flt)

inductive Res where
  | fall (ev : List Evt) (c : Cells) (k : Keeps)
  | jump (t : Int)
  | stop (ev : List Evt)

def setO (c : Cells) : Option Int → Int → Cells
  | none, _ => c
  | some x, v => setC c x v

def look (c : Cells) : List Int → Option (List Int)
  | [] => some []
  | x :: xs => match c x, look c xs with
    | some v, some vs => some (v :: vs)
    | _, _ => none

def shown (cs : List Int) (c : Cells) : List Int := cs.map fun x => (c x).getD 0

/-- what a row does -/
def exec (cs : List Int) : Row → Cells → Keeps → Option Res
  | .begin p, c, k => some (.fall [.begin p (shown cs c)] c k)
  | .put x n _, c, k => some (.fall [] (setC c x n) k)
  | .copy x d _, c, k => (c d).map fun v => .fall [] (setC c x v) k
  | .two o x d e p, c, k => match c d, c e with
    | some a, some b => match o.ap a b with
      | .ok v => some (.fall [] (setC c x v) k)
      | .error w => some (.stop [.fault p o w])
    | _, _ => none
  | .fetch x f n _, c, k => some (.fall [] (setC c x (fetched k f n)) k)
  | .lay n x p, c, k => (c x).map fun v => .fall [.lay p n v] c (setK k fileF n v)
  | .label _ _, c, k => some (.fall [] c k)
  | .go t _, _, _ => some (.jump t)
  | .unless x t _, c, k => (c x).map fun v => if v = 0 then .jump t else .fall [] c k
  | .call x f n cs' p, c, k => (look c cs').map fun vs => .fall [.call p f n vs] (setO c x (came f n vs)) k
  | .say kd x p, c, k => (c x).map fun v => .fall [.say p kd v] c k
  | .give none p, _, _ => some (.stop [.give p none])
  | .give (some x) p, c, _ => (c x).map fun v => .stop [.give p (some v)]
  | .nothing p, _, _ => some (.stop [.nothing p])

/-- the rows run from pc on, by n steps; cs: the cells that are shown -/
inductive Runs (cs : List Int) (rows : List Row) : Nat → Cells → Keeps → Int → List Evt → Nat → Prop
  | out {pc c k most} : most < 0 → Runs cs rows pc c k most [] 0
  | stop {pc c k most r ev} : 0 ≤ most → rows[pc]? = some r → exec cs r c k = some (.stop ev) → Runs cs rows pc c k most ev 1
  | fall {pc c k most r ev c' k' evs n} : 0 ≤ most → rows[pc]? = some r → exec cs r c k = some (.fall ev c' k') →
      Runs cs rows (pc + 1) c' k' (most - r.spends) evs n → Runs cs rows pc c k most (ev ++ evs) (n + 1)
  | jump {pc c k most r t i q evs n} : 0 ≤ most → rows[pc]? = some r → exec cs r c k = some (.jump t) → rows[i]? = some (.label t q) →
      Runs cs rows i c k most evs n → Runs cs rows pc c k most evs (n + 1)

/-! ### aligned lists -/
def pos {α : Type} (l : List (Option α)) (i : Nat) : Nat := ((l.take i).filterMap id).length
theorem pos_zero {α : Type} (l : List (Option α)) : pos l 0 = 0 := rfl
theorem take_succ_some {α : Type} {l : List α} {i : Nat} {x : α} (h : l[i]? = some x) : l.take (i + 1) = l.take i ++ [x] := by
  rw [List.take_add_one, h]; rfl
theorem pos_keep {α : Type} {l : List (Option α)} {i : Nat} {r : α} (h : l[i]? = some (some r)) : pos l (i + 1) = pos l i + 1 := by
  unfold pos; rw [take_succ_some h, List.filterMap_append]; simp
theorem pos_drop {α : Type} {l : List (Option α)} {i : Nat} (h : l[i]? = some none) : pos l (i + 1) = pos l i := by
  unfold pos; rw [take_succ_some h, List.filterMap_append]; simp
theorem pos_at {α : Type} {l : List (Option α)} {i : Nat} {r : α} (h : l[i]? = some (some r)) : (l.filterMap id)[pos l i]? = some r := by
  have hi : i < l.length := (List.getElem?_eq_some_iff.mp h).1
  have e : l = l.take i ++ (some r :: l.drop (i + 1)) := by
    have h2 : l[i] = some r := (List.getElem?_eq_some_iff.mp h).2
    rw [← h2, List.getElem_cons_drop, List.take_append_drop]
  unfold pos
  conv => lhs; arg 1; rw [e]
  rw [List.filterMap_append]
  simp

/-- a row of the new list comes from one of the old -/
theorem pos_from {α : Type} : ∀ {l : List (Option α)} {j : Nat} {r : α}, (l.filterMap id)[j]? = some r → ∃ i, l[i]? = some (some r) ∧ pos l i = j
  | [], j, r, h => by simp at h
  | none :: l, j, r, h => by
    obtain ⟨i, h1, h2⟩ := pos_from (l := l) (j := j) (r := r) (by simpa using h)
    exact ⟨i + 1, by simpa using h1, by unfold pos at h2 ⊢; simpa using h2⟩
  | some x :: l, 0, r, h => by
    have e : x = r := by simpa using h
    exact ⟨0, by simp [e], rfl⟩
  | some x :: l, j + 1, r, h => by
    obtain ⟨i, h1, h2⟩ := pos_from (l := l) (j := j) (r := r) (by simpa using h)
    exact ⟨i + 1, by simpa using h1, by unfold pos at h2 ⊢; simpa using h2⟩

/-- what one step of the old rows is in the new ones -/
def StepOk (cs : List Int) (rows : List Row) (l : List (Option Row)) (Inv : Nat → Cells → Cells → Prop) (pc : Nat) (r : Row) (c c' : Cells) (k : Keeps) : Prop :=
  (l[pc]? = some none ∧ ((∃ c2, exec cs r c k = some (.fall [] c2 k) ∧ r.spends = 0 ∧ Inv (pc + 1) c2 c') ∨
      (∃ t, exec cs r c k = some (.jump t) ∧ ∀ i q, rows[i]? = some (.label t q) → pos l i = pos l pc ∧ Inv i c c'))) ∨
  (∃ r', l[pc]? = some (some r') ∧ r'.spends = r.spends ∧
    ((∃ ev, exec cs r c k = some (.stop ev) ∧ exec cs r' c' k = some (.stop ev)) ∨
     (∃ ev c2 k2 c2', exec cs r c k = some (.fall ev c2 k2) ∧ exec cs r' c' k = some (.fall ev c2' k2) ∧ Inv (pc + 1) c2 c2') ∨
     (∃ t, exec cs r c k = some (.jump t) ∧ exec cs r' c' k = some (.jump t) ∧ ∀ i q, rows[i]? = some (.label t q) → Inv i c c' ∧ ∃ q', l[i]? = some (some (.label t q')))))

theorem sim {cs : List Int} {rows : List Row} {l : List (Option Row)} {Inv : Nat → Cells → Cells → Prop}
    (hs : ∀ pc r c c' k res, rows[pc]? = some r → Inv pc c c' → exec cs r c k = some res → StepOk cs rows l Inv pc r c c' k)
    {pc : Nat} {c : Cells} {k : Keeps} {most : Int} {evs : List Evt} {n : Nat} (h : Runs cs rows pc c k most evs n) :
    ∀ c', Inv pc c c' → ∃ n', n' ≤ n ∧ Runs cs (l.filterMap id) (pos l pc) c' k most evs n' := by
  induction h with
  | out hm => exact fun c' _ => ⟨0, Nat.le_refl _, .out hm⟩
  | @stop pc c k most r ev hm hr he =>
    intro c' hi
    rcases hs pc r c c' k _ hr hi he with ⟨_, ⟨c2, e, _⟩ | ⟨t, e, _⟩⟩ | ⟨r', hl, _, ⟨ev', e, e'⟩ | ⟨ev', c2, k2, c2', e, _⟩ | ⟨t, e, _⟩⟩
    · rw [he] at e; cases e
    · rw [he] at e; cases e
    · rw [he] at e; cases e
      exact ⟨1, Nat.le_refl _, .stop hm (pos_at hl) e'⟩
    · rw [he] at e; cases e
    · rw [he] at e; cases e
  | @fall pc c k most r ev c1 k1 evs n hm hr he _ ih =>
    intro c' hi
    rcases hs pc r c c' k _ hr hi he with ⟨hl, ⟨c2, e, hsp, hI⟩ | ⟨t, e, _⟩⟩ | ⟨r', hl, hsp, ⟨ev', e, e'⟩ | ⟨ev', c2, k2, c2', e, e', hI⟩ | ⟨t, e, _⟩⟩
    · rw [he] at e; cases e
      obtain ⟨n', hn, hr'⟩ := ih c' hI
      refine ⟨n', by omega, ?_⟩
      rw [pos_drop hl] at hr'
      rw [hsp, Int.sub_zero] at hr'
      exact hr'
    · rw [he] at e; cases e
    · rw [he] at e; cases e
    · rw [he] at e; cases e
      obtain ⟨n', hn, hr'⟩ := ih c2' hI
      rw [pos_keep hl] at hr'
      refine ⟨n' + 1, by omega, .fall hm (pos_at hl) e' ?_⟩
      rw [hsp]; exact hr'
    · rw [he] at e; cases e
  | @jump pc c k most r t i q evs n hm hr he hi0 _ ih =>
    intro c' hi
    rcases hs pc r c c' k _ hr hi he with ⟨hl, ⟨c2, e, hsp, hI⟩ | ⟨t', e, hI⟩⟩ | ⟨r', hl, hsp, ⟨ev', e, e'⟩ | ⟨ev', c2, k2, c2', e, e', hI⟩ | ⟨t', e, e', hI⟩⟩
    · rw [he] at e; cases e
    · rw [he] at e; cases e
      obtain ⟨hp, hI⟩ := hI i q hi0
      obtain ⟨n', hn, hr'⟩ := ih c' hI
      rw [hp] at hr'
      exact ⟨n', by omega, hr'⟩
    · rw [he] at e; cases e
    · rw [he] at e; cases e
    · rw [he] at e; cases e
      obtain ⟨hI, q', hq⟩ := hI i q hi0
      obtain ⟨n', hn, hr'⟩ := ih c' hI
      exact ⟨n' + 1, by omega, .jump hm (pos_at hl) e' (pos_at hq) hr'⟩

/-! ### well-formed rows -/
/-- a text of signs there are, none that tells of a fault -/
def Nm (x : S) : Prop := x.cps.all (· < 0x110000) = true ∧ x ≠ PySem.Str.ofString "great" ∧ x ≠ PySem.Str.ofString "nought"
def Row.Bnd : Row → Prop
  | .put _ n _ => 0 - big ≤ n ∧ n ≤ big
  | .fetch _ f n _ => (f ++ n).length ≤ 100 ∧ Nm f ∧ Nm n
  | .call _ f n cs _ => ((f ++ n).length ≤ 100 ∧ cs.length ≤ 3) ∧ Nm f ∧ Nm n
  | .lay n _ _ => Nm n
  | .say k _ _ => Nm k
  | _ => True

structure WF (rows : List Row) : Prop where
  uniq : ∀ (i j : Nat) (k : Int) (p q : Pl), rows[i]? = some (Row.label k p) → rows[j]? = some (Row.label k q) → i = j
  targ : ∀ (i : Nat) (r : Row) (t : Int), rows[i]? = some r → r.target = some t → ∃ (j : Nat) (q : Pl), rows[j]? = some (Row.label t q)
  last : ∃ r : Row, rows.getLast? = some r ∧ r.isEnd = true
  bnd : ∀ r ∈ rows, r.Bnd

/-- the new rows do what the old ones do -/
structure Leaner (cs : List Int) (rows rows' : List Row) : Prop where
  wf : WF rows'
  len : rows'.length ≤ rows.length
  runs : ∀ c k most evs n, Runs cs rows 0 c k most evs n → ∃ n', n' ≤ n ∧ Runs cs rows' 0 c k most evs n'

theorem Leaner.refl {cs : List Int} {rows : List Row} (w : WF rows) : Leaner cs rows rows := ⟨w, Nat.le_refl _, fun _ _ _ _ n h => ⟨n, Nat.le_refl _, h⟩⟩
theorem Leaner.trans {cs : List Int} {a b d : List Row} (x : Leaner cs a b) (y : Leaner cs b d) : Leaner cs a d :=
  ⟨y.wf, Nat.le_trans y.len x.len, fun c k most evs n h => by
    obtain ⟨n1, h1, r1⟩ := x.runs c k most evs n h
    obtain ⟨n2, h2, r2⟩ := y.runs c k most evs n1 r1
    exact ⟨n2, by omega, r2⟩⟩

theorem filterMap_len {α : Type} (l : List (Option α)) : (l.filterMap id).length ≤ l.length := List.length_filterMap_le _ _

/-- how a pass may be: each row goes, or becomes one with the same label, the same targets -/
structure Pass (rows : List Row) (l : List (Option Row)) : Prop where
  len : l.length = rows.length
  lab : ∀ (i : Nat) r r', rows[i]? = some r → l[i]? = some (some r') → r'.labelOf = r.labelOf
  tar : ∀ (i : Nat) r r' t, rows[i]? = some r → l[i]? = some (some r') → r'.target = some t → r.target = some t
  lift : ∀ (i j : Nat) r' t q, l[i]? = some (some r') → r'.target = some t → rows[j]? = some (.label t q) → ∃ q', l[j]? = some (some (.label t q'))
  bnd : (∀ r ∈ rows, r.Bnd) → ∀ (i : Nat) r', l[i]? = some (some r') → r'.Bnd

theorem Pass.row {rows : List Row} {l : List (Option Row)} (p : Pass rows l) {i : Nat} {o : Option Row} (h : l[i]? = some o) : ∃ r, rows[i]? = some r := by
  have hi : i < l.length := (List.getElem?_eq_some_iff.mp h).1
  rw [p.len] at hi
  exact ⟨rows[i], List.getElem?_eq_getElem hi⟩

theorem labelOf_eq {r : Row} {k : Int} (h : r.labelOf = some k) : ∃ p, r = .label k p := by
  cases r <;> simp [Row.labelOf] at h
  subst h; exact ⟨_, rfl⟩

theorem Pass.wf {rows : List Row} {l : List (Option Row)} (p : Pass rows l) (w : WF rows) (hl : ∃ r, (l.filterMap id).getLast? = some r ∧ r.isEnd = true) : WF (l.filterMap id) := by
  refine ⟨fun i j k q1 q2 h1 h2 => ?_, fun i r t h1 h2 => ?_, hl, fun r hr => ?_⟩
  · obtain ⟨i', e1, f1⟩ := pos_from h1
    obtain ⟨j', e2, f2⟩ := pos_from h2
    obtain ⟨r1, g1⟩ := p.row e1
    obtain ⟨r2, g2⟩ := p.row e2
    obtain ⟨z1, rfl⟩ := labelOf_eq ((p.lab _ _ _ g1 e1).symm.trans (rfl : (Row.label k q1).labelOf = some k))
    obtain ⟨z2, rfl⟩ := labelOf_eq ((p.lab _ _ _ g2 e2).symm.trans (rfl : (Row.label k q2).labelOf = some k))
    have e := w.uniq _ _ _ _ _ g1 g2
    rw [← f1, ← f2, e]
  · obtain ⟨i', e1, f1⟩ := pos_from h1
    obtain ⟨r1, g1⟩ := p.row e1
    obtain ⟨j, q, g2⟩ := w.targ _ _ _ g1 (p.tar _ _ _ _ g1 e1 h2)
    obtain ⟨q', g3⟩ := p.lift _ _ _ _ _ e1 h2 g2
    exact ⟨_, _, pos_at g3⟩
  · obtain ⟨j, hj⟩ := List.mem_iff_getElem?.mp hr
    obtain ⟨i', e1, f1⟩ := pos_from hj
    exact p.bnd w.bnd _ _ e1

theorem Pass.leaner {cs : List Int} {rows : List Row} {l : List (Option Row)} (p : Pass rows l) (w : WF rows) (hl : ∃ r, (l.filterMap id).getLast? = some r ∧ r.isEnd = true)
    {Inv : Nat → Cells → Cells → Prop} (h0 : ∀ c, Inv 0 c c)
    (hs : ∀ pc r c c' k res, rows[pc]? = some r → Inv pc c c' → exec cs r c k = some res → StepOk cs rows l Inv pc r c c' k) : Leaner cs rows (l.filterMap id) :=
  ⟨p.wf w hl, by rw [← p.len]; exact filterMap_len l, fun c k most evs n h => by
    obtain ⟨n', hn, r⟩ := sim hs h c (h0 c)
    exact ⟨n', hn, by rw [pos_zero] at r; exact r⟩⟩
end K51

/-! Mathematics 2: the passes of lean rows. -/
namespace K51

/-! ### a scan with a state -/
def scan {σ : Type} (f : Row → σ → Option Row × σ) : List Row → σ → List (Option Row)
  | [], _ => []
  | r :: rs, s => (f r s).1 :: scan f rs (f r s).2
def stAt {σ : Type} (f : Row → σ → Option Row × σ) : List Row → σ → Nat → σ
  | _, s, 0 => s
  | [], s, _ + 1 => s
  | r :: rs, s, i + 1 => stAt f rs (f r s).2 i
theorem scan_len {σ : Type} (f : Row → σ → Option Row × σ) : ∀ (rows : List Row) (s : σ), (scan f rows s).length = rows.length
  | [], _ => rfl
  | r :: rs, s => by simp [scan, scan_len f rs]
theorem scan_at {σ : Type} (f : Row → σ → Option Row × σ) : ∀ {rows : List Row} {s : σ} {i : Nat} {r : Row}, rows[i]? = some r → (scan f rows s)[i]? = some (f r (stAt f rows s i)).1
  | [], _, _, _, h => by simp at h
  | x :: rs, s, 0, r, h => by
    have e : x = r := by simpa using h
    subst e; rfl
  | x :: rs, s, i + 1, r, h => by
    have h' : rs[i]? = some r := by simpa using h
    simpa [scan, stAt] using scan_at f (s := (f x s).2) h'
theorem stAt_succ {σ : Type} (f : Row → σ → Option Row × σ) : ∀ {rows : List Row} {s : σ} {i : Nat} {r : Row}, rows[i]? = some r → stAt f rows s (i + 1) = (f r (stAt f rows s i)).2
  | [], _, _, _, h => by simp at h
  | x :: rs, s, 0, r, h => by
    have e : x = r := by simpa using h
    subst e
    cases rs <;> rfl
  | x :: rs, s, i + 1, r, h => by
    have h' : rs[i]? = some r := by simpa using h
    simpa [stAt] using stAt_succ f (s := (f x s).2) h'
theorem stAt_end {σ : Type} (f : Row → σ → Option Row × σ) : ∀ {rows : List Row} (s : σ) {i : Nat}, rows.length ≤ i → stAt f rows s (i + 1) = stAt f rows s i
  | [], s, i, _ => by cases i <;> rfl
  | x :: rs, s, 0, h => by simp at h
  | x :: rs, s, i + 1, h => by
    have h' : rs.length ≤ i := by simpa using h
    simpa [stAt] using stAt_end f (f x s).2 h'
theorem at_of_scan {σ : Type} (f : Row → σ → Option Row × σ) {rows : List Row} {s : σ} {i : Nat} {r : Row} {o : Option Row} (h : rows[i]? = some r) (h2 : (scan f rows s)[i]? = some o) : o = (f r (stAt f rows s i)).1 := by
  have := scan_at f (s := s) h
  rw [this] at h2
  exact (Option.some.inj h2).symm

theorem last_keep {α : Type} {l : List (Option α)} {r : α} (h : l.getLast? = some (some r)) : (l.filterMap id).getLast? = some r := by
  obtain ⟨ys, rfl⟩ := List.getLast?_eq_some_iff.mp h
  rw [List.filterMap_append]
  simp

theorem last_at {α : Type} {l : List α} {r : α} (h : l.getLast? = some r) : l[l.length - 1]? = some r := by
  rw [List.getLast?_eq_getElem?] at h; exact h
theorem last_of {α : Type} {l : List α} {r : α} (h : l[l.length - 1]? = some r) : l.getLast? = some r := by
  rw [List.getLast?_eq_getElem?]; exact h

/-! ### weights -/
def Row.weight : Row → Nat
  | .copy _ _ _ => 2
  | .two _ _ _ _ _ => 2
  | .unless _ _ _ => 2
  | _ => 1
theorem Row.weight_pos (r : Row) : 0 < r.weight := by cases r <;> simp [Row.weight]
def wsum (l : List Row) : Nat := (l.map Row.weight).sum
theorem wsum_cons (r : Row) (l : List Row) : wsum (r :: l) = r.weight + wsum l := by simp [wsum]
def Less (a b : List Row) : Prop := wsum b ≤ wsum a ∧ (wsum b = wsum a → b = a)
theorem Less.trans {a b d : List Row} (x : Less a b) (y : Less b d) : Less a d :=
  ⟨Nat.le_trans y.1 x.1, fun e => by
    have h1 := x.1
    have h2 := y.1
    have e1 : wsum b = wsum a := by omega
    have e2 : wsum d = wsum b := by omega
    rw [y.2 e2, x.2 e1]⟩
theorem Less.nil : Less [] [] := ⟨Nat.le_refl _, fun _ => rfl⟩
theorem Less.keep {a b : List Row} (r : Row) (x : Less a b) : Less (r :: a) (r :: b) :=
  ⟨by rw [wsum_cons, wsum_cons]; have := x.1; omega, fun e => by rw [wsum_cons, wsum_cons] at e; rw [x.2 (by omega)]⟩
theorem Less.drop {a b : List Row} (r : Row) (x : Less a b) : Less (r :: a) b :=
  ⟨by rw [wsum_cons]; have := x.1; omega, fun e => by rw [wsum_cons] at e; have := x.1; have := r.weight_pos; omega⟩
theorem Less.turn {a b : List Row} {r r' : Row} (h : r'.weight < r.weight) (x : Less a b) : Less (r :: a) (r' :: b) :=
  ⟨by rw [wsum_cons, wsum_cons]; have := x.1; omega, fun e => by rw [wsum_cons, wsum_cons] at e; have := x.1; omega⟩
/-- .. of an aligned list -/
theorem less_of : ∀ {rows : List Row} {l : List (Option Row)}, l.length = rows.length → (∀ (i : Nat) r r', rows[i]? = some r → l[i]? = some (some r') → r' = r ∨ r'.weight < r.weight) → Less rows (l.filterMap id)
  | [], [], _, _ => .nil
  | [], _ :: _, h, _ => by simp at h
  | _ :: _, [], h, _ => by simp at h
  | r :: rows, o :: l, h, hs => by
    have ih := less_of (rows := rows) (l := l) (by simpa using h) fun i a b h1 h2 => hs (i + 1) a b (by simpa using h1) (by simpa using h2)
    cases o with
    | none => simpa using ih.drop r
    | some r' =>
      rcases hs 0 r r' rfl rfl with e | e
      · subst e; simpa using ih.keep r'
      · simpa using ih.turn e

/-! ### 1. what is known is worked out -/
def clr (k : Cells) (x : Int) : Cells := fun y => if y = x then none else k y
def folded (r : Row) (kn : Cells) : Option Row := match r with
  | .copy x d p => match kn d with
    | some v => some (.put x v p)
    | none => some r
  | .two o x d e p => match kn d, kn e with
    | some a, some b => match o.ap a b with
      | .ok v => some (.put x v p)
      | .error _ => some r
    | _, _ => some r
  | .unless x t p => match kn x with
    | some v => if v = 0 then some (.go t p) else none
    | none => some r
  | r => some r
def learn (o : Option Row) (kn : Cells) : Cells := match o with
  | some (.put x n _) => setC kn x n
  | some r => match r.lays with
    | some x => clr kn x
    | none => kn
  | none => kn
def knIn (r : Row) (kn : Cells) : Cells := if r.isLabel then fun _ => none else kn
def foldF (r : Row) (kn : Cells) : Option Row × Cells := (folded r (knIn r kn), learn (folded r (knIn r kn)) (knIn r kn))
def foldL (rows : List Row) : List (Option Row) := scan foldF rows fun _ => none

def Cons (kn c : Cells) : Prop := ∀ x v, kn x = some v → c x = some v
theorem Cons.knIn {kn c : Cells} (r : Row) (h : Cons kn c) : Cons (knIn r kn) c := by
  unfold K51.knIn
  split
  · intro x v e; cases e
  · exact h
theorem Cons.none {c : Cells} : Cons (fun _ => Option.none) c := fun _ _ e => by cases e
theorem Cons.set {kn c : Cells} {x v : Int} (h : Cons kn c) : Cons (setC kn x v) (setC c x v) := fun y u e => by
  unfold setC at e ⊢
  split
  · rename_i hy; rw [if_pos hy] at e; exact e
  · rename_i hy; rw [if_neg hy] at e; exact h _ _ e
theorem Cons.clr {kn c : Cells} {x v : Int} (h : Cons kn c) : Cons (clr kn x) (setC c x v) := fun y u e => by
  unfold K51.clr at e
  unfold setC
  split
  · rename_i hy; rw [if_pos hy] at e; cases e
  · rename_i hy; rw [if_neg hy] at e; exact h _ _ e

theorem fmod_bnd (a b : Int) (h : b ≠ 0) : 0 - (b.natAbs : Int) ≤ a.fmod b ∧ a.fmod b ≤ b.natAbs := by
  by_cases hp : 0 < b
  · have h1 := Int.fmod_nonneg_of_pos a hp
    have h2 := Int.fmod_lt_of_pos a hp
    omega
  · have hp' : 0 < -b := by omega
    have h1 := Int.fmod_nonneg_of_pos (-a) hp'
    have h2 := Int.fmod_lt_of_pos (-a) hp'
    rw [Int.neg_fmod_neg] at h1 h2
    omega
theorem rest_eq (a b : Int) : a - a.fdiv b * b = a.fmod b := by rw [Int.fmod_def, Int.mul_comm]
def Small (v : Int) : Prop := 0 - big ≤ v ∧ v ≤ big
theorem small_of {v : Int} (h : v.natAbs ≤ 1000000000000) : Small v := by unfold Small big; omega
theorem fit_small {a v : Int} (h : fit a = .ok v) : Small v := by
  unfold fit at h
  split at h
  · cases h; assumption
  · cases h
theorem ap_small {o : Op} {a b v : Int} (ha : Small a) (hb : Small b) (h : o.ap a b = .ok v) : Small v := by
  cases o <;> simp only [Op.ap] at h
  · exact fit_small h
  · exact fit_small h
  · exact fit_small h
  · split at h
    · cases h
    · cases h
      have := Int.natAbs_fdiv_le_natAbs a b
      unfold Small big at *; omega
  · split at h
    · cases h
    · rename_i hz
      cases h
      have := fmod_bnd a b hz
      rw [rest_eq]
      unfold Small big at *; omega
  · cases h; split <;> (unfold Small big; omega)
  · cases h; split <;> (unfold Small big; omega)

def SmallC (c : Cells) : Prop := ∀ x v, c x = some v → Small v
theorem SmallC.none : SmallC (fun _ => Option.none) := fun _ _ e => by cases e
theorem SmallC.knIn {kn : Cells} (r : Row) (h : SmallC kn) : SmallC (knIn r kn) := by
  unfold K51.knIn
  split
  · exact .none
  · exact h
theorem SmallC.set {c : Cells} {x v : Int} (h : SmallC c) (hv : Small v) : SmallC (setC c x v) := fun y u e => by
  unfold setC at e
  split at e
  · cases e; exact hv
  · exact h _ _ e
theorem SmallC.clr {c : Cells} {x : Int} (h : SmallC c) : SmallC (clr c x) := fun y u e => by
  unfold K51.clr at e
  split at e
  · cases e
  · exact h _ _ e
theorem folded_bnd {r r' : Row} {kn : Cells} (hk : SmallC kn) (hr : r.Bnd) (h : folded r kn = some r') : r'.Bnd := by
  unfold folded at h
  split at h <;> (repeat' split at h) <;> cases h <;> first | exact hr | trivial | skip
  · rename_i e; exact hk _ _ e
  · rename_i e1 e2 _ _ e3; exact ap_small (hk _ _ e1) (hk _ _ e2) e3
theorem learn_small {o : Option Row} {kn : Cells} (hk : SmallC kn) (ho : ∀ r, o = some r → r.Bnd) : SmallC (learn o kn) := by
  unfold learn
  split
  · exact hk.set (ho _ rfl)
  · split
    · exact hk.clr
    · exact hk
  · exact hk
theorem known_small {rows : List Row} (hb : ∀ r ∈ rows, r.Bnd) : ∀ i, SmallC (stAt foldF rows (fun _ => none) i) := by
  intro i
  induction i with
  | zero => cases rows <;> exact .none
  | succ i ih =>
    cases h : rows[i]? with
    | none =>
      have e : stAt foldF rows (fun _ => none) (i + 1) = stAt foldF rows (fun _ => none) i := stAt_end foldF _ (List.getElem?_eq_none_iff.mp h)
      rw [e]; exact ih
    | some r =>
      rw [stAt_succ foldF h]
      have hr := hb r (List.mem_iff_getElem?.mpr ⟨i, h⟩)
      exact learn_small (ih.knIn r) fun r' e => folded_bnd (ih.knIn r) hr e

theorem fold_pass (rows : List Row) : Pass rows (foldL rows) := by
  refine ⟨scan_len _ _ _, fun i r r' h h' => ?_, fun i r r' t h h' ht => ?_, fun i j r' t q h ht hj => ?_, fun hb i r' h' => ?_⟩
  · have e := at_of_scan foldF h h'
    simp only [foldF, folded] at e
    cases r <;> simp only [] at e <;> (repeat' split at e) <;> cases e <;> rfl
  · have e := at_of_scan foldF h h'
    simp only [foldF, folded] at e
    cases r <;> simp only [] at e <;> (repeat' split at e) <;> cases e <;> first | exact ht | (simp [Row.target] at ht) | skip
  · have e := scan_at foldF (s := fun _ => none) hj
    exact ⟨q, e⟩
  · have hi : i < (foldL rows).length := (List.getElem?_eq_some_iff.mp h').1
    rw [show (foldL rows).length = rows.length from scan_len _ _ _] at hi
    have h := List.getElem?_eq_getElem hi
    have hr := hb _ (List.getElem_mem hi)
    have e := at_of_scan foldF h h'
    exact folded_bnd ((known_small hb i).knIn _) hr e.symm

theorem fold_less (rows : List Row) : Less rows ((foldL rows).filterMap id) := by
  refine less_of (scan_len _ _ _) fun i r r' h h' => ?_
  have e := at_of_scan foldF h h'
  simp only [foldF, folded] at e
  cases r <;> simp only [] at e <;> (repeat' split at e) <;> cases e <;> first | exact .inl rfl | exact .inr (by simp [Row.weight])

theorem fold_last {rows : List Row} (h : ∃ r : Row, rows.getLast? = some r ∧ r.isEnd = true) : ∃ r : Row, ((foldL rows).filterMap id).getLast? = some r ∧ r.isEnd = true := by
  obtain ⟨r, h1, h2⟩ := h
  refine ⟨r, last_keep (last_of ?_), h2⟩
  have h3 := scan_at foldF (s := fun _ => none) (last_at h1)
  rw [show (foldL rows).length = rows.length from scan_len _ _ _]
  rw [show foldL rows = scan foldF rows fun _ => none from rfl, h3]
  cases r <;> simp [Row.isEnd] at h2 <;> rfl

def FoldInv (rows : List Row) (pc : Nat) (c c' : Cells) : Prop := c' = c ∧ ∀ r, rows[pc]? = some r → Cons (knIn r (stAt foldF rows (fun _ => none) pc)) c

theorem fold_next {rows : List Row} {pc : Nat} {r : Row} {c2 : Cells} (h : rows[pc]? = some r)
    (hc : Cons (learn (folded r (knIn r (stAt foldF rows (fun _ => none) pc))) (knIn r (stAt foldF rows (fun _ => none) pc))) c2) : FoldInv rows (pc + 1) c2 c2 := by
  refine ⟨rfl, fun r2 _ => ?_⟩
  rw [stAt_succ foldF h]
  exact Cons.knIn _ hc
theorem fold_label {rows : List Row} {i : Nat} {t : Int} {q : Pl} {c : Cells} (h : rows[i]? = some (.label t q)) : FoldInv rows i c c := by
  refine ⟨rfl, fun r2 h2 => ?_⟩
  rw [h] at h2
  cases h2
  exact Cons.none

theorem fold_step (cs : List Int) (rows : List Row) (pc : Nat) (r : Row) (c c' : Cells) (k : Keeps) (res : Res) (h : rows[pc]? = some r) (hi : FoldInv rows pc c c') (he : exec cs r c k = some res) :
    StepOk cs rows (foldL rows) (FoldInv rows) pc r c c' k := by
  obtain ⟨rfl, hc⟩ := hi
  have hc := hc r h
  have hl : (foldL rows)[pc]? = some (folded r (knIn r (stAt foldF rows (fun _ => none) pc))) := scan_at foldF h
  generalize hkn : knIn r (stAt foldF rows (fun _ => none) pc) = kn at hl hc
  -- a row that stays as it is
  have stay : folded r kn = some r → StepOk cs rows (foldL rows) (FoldInv rows) pc r c' c' k := by
    intro e
    rw [e] at hl
    refine .inr ⟨r, hl, rfl, ?_⟩
    cases res with
    | stop ev => exact .inl ⟨ev, he, he⟩
    | jump t => exact .inr (.inr ⟨t, he, he, fun i q hq => ⟨fold_label hq, q, scan_at foldF hq⟩⟩)
    | fall ev c2 k2 =>
      refine .inr (.inl ⟨ev, c2, k2, c2, he, he, ?_⟩)
      refine fold_next h ?_
      rw [hkn, e]
      cases r <;> simp only [exec] at he
      case begin => cases he; exact hc
      case put => cases he; exact hc.set
      case copy x d p =>
        cases hd : c' d <;> rw [hd] at he <;> cases he
        exact hc.clr
      case two o x d e1 p =>
        cases hd : c' d <;> rw [hd] at he
        · cases he
        cases hd2 : c' e1 <;> rw [hd2] at he
        · cases he
        simp only at he
        split at he <;> cases he
        exact hc.clr
      case fetch => cases he; exact hc.clr
      case lay n x p => cases hd : c' x <;> rw [hd] at he <;> cases he; exact hc
      case label => cases he; exact hc
      case go => cases he
      case «unless» x t p =>
        cases hd : c' x <;> rw [hd] at he
        · cases he
        simp only [Option.map_some] at he
        split at he <;> cases he
        exact hc
      case call x f n cs' p =>
        cases hd : look c' cs' <;> rw [hd] at he <;> cases he
        cases x with
        | none => exact hc
        | some x => exact hc.clr
      case say kd x p => cases hd : c' x <;> rw [hd] at he <;> cases he; exact hc
      case give x p =>
        cases x with
        | none => cases he
        | some x => cases hd : c' x <;> simp only [exec, hd] at he <;> cases he
      case nothing => cases he
  cases r with
  | copy x d p =>
    cases hd : kn d with
    | none => exact stay (by simp only [folded, hd])
    | some v =>
      have e : folded (.copy x d p) kn = some (.put x v p) := by simp only [folded, hd]
      have hv := hc _ _ hd
      refine .inr ⟨.put x v p, by rw [hl, e], rfl, .inr (.inl ⟨[], setC c' x v, k, setC c' x v, by simp only [exec, hv]; rfl, rfl, ?_⟩)⟩
      refine fold_next h ?_
      rw [hkn, e]; exact hc.set
  | two o x d e p =>
    cases hd : kn d with
    | none => exact stay (by simp only [folded, hd])
    | some a =>
      cases hd2 : kn e with
      | none => exact stay (by simp only [folded, hd, hd2])
      | some b =>
        cases ho : o.ap a b with
        | error w => exact stay (by simp only [folded, hd, hd2, ho])
        | ok v =>
          have ef : folded (.two o x d e p) kn = some (.put x v p) := by simp only [folded, hd, hd2, ho]
          have h1 := hc _ _ hd
          have h2 := hc _ _ hd2
          refine .inr ⟨.put x v p, by rw [hl, ef], rfl, .inr (.inl ⟨[], setC c' x v, k, setC c' x v, by simp only [exec, h1, h2, ho], rfl, ?_⟩)⟩
          refine fold_next h ?_
          rw [hkn, ef]; exact hc.set
  | «unless» x t p =>
    cases hd : kn x with
    | none => exact stay (by simp only [folded, hd])
    | some v =>
      have hv := hc _ _ hd
      by_cases hz : v = 0
      · subst hz
        have e : folded (.unless x t p) kn = some (.go t p) := by simp only [folded, hd]; rfl
        refine .inr ⟨.go t p, by rw [hl, e], rfl, .inr (.inr ⟨t, by simp only [exec, hv]; rfl, rfl, fun i q hq => ⟨fold_label hq, q, scan_at foldF hq⟩⟩)⟩
      · have e : folded (.unless x t p) kn = none := by simp only [folded, hd, if_neg hz]
        refine .inl ⟨by rw [hl, e], .inl ⟨c', by simp only [exec, hv, Option.map_some, if_neg hz], rfl, ?_⟩⟩
        refine fold_next h ?_
        rw [hkn, e]; exact hc
  | _ => exact stay rfl

theorem fold_leaner {cs : List Int} {rows : List Row} (w : WF rows) : Leaner cs rows ((foldL rows).filterMap id) :=
  (fold_pass rows).leaner w (fold_last w.last) (Inv := FoldInv rows) (fun c => ⟨rfl, fun r _ => by cases rows <;> exact Cons.knIn _ Cons.none⟩) (fold_step cs rows)

/-! ### 2. rows that can't be come to -/
def reachF (r : Row) (o : Bool) : Option Row × Bool := (if (o || r.isLabel) = true then some r else none, if r.isEnd then false else (o || r.isLabel))
def reachL (rows : List Row) : List (Option Row) := scan reachF rows true

theorem keeps_pass {rows : List Row} {l : List (Option Row)} (hl : l.length = rows.length) (hk : ∀ (i : Nat) r, rows[i]? = some r → l[i]? = some none ∨ l[i]? = some (some r))
    (lift : ∀ (i j : Nat) r' t q, l[i]? = some (some r') → r'.target = some t → rows[j]? = some (.label t q) → ∃ q', l[j]? = some (some (.label t q'))) : Pass rows l := by
  have same : ∀ (i : Nat) r r', rows[i]? = some r → l[i]? = some (some r') → r' = r := fun i r r' h h' => by
    rcases hk i r h with e | e <;> rw [h'] at e <;> cases e
    rfl
  refine ⟨hl, fun i r r' h h' => by rw [same i r r' h h'], fun i r r' t h h' ht => by rw [← same i r r' h h']; exact ht, lift, fun hb i r' h' => ?_⟩
  have hi : i < l.length := (List.getElem?_eq_some_iff.mp h').1
  rw [hl] at hi
  have h := List.getElem?_eq_getElem hi
  rw [same i _ r' h h']
  exact hb _ (List.getElem_mem hi)
theorem keeps_less {rows : List Row} {l : List (Option Row)} (hl : l.length = rows.length) (hk : ∀ (i : Nat) r, rows[i]? = some r → l[i]? = some none ∨ l[i]? = some (some r)) : Less rows (l.filterMap id) :=
  less_of hl fun i r r' h h' => by
    rcases hk i r h with e | e <;> rw [h'] at e <;> cases e
    exact .inl rfl

theorem reach_k (rows : List Row) (i : Nat) (r : Row) (h : rows[i]? = some r) : (reachL rows)[i]? = some none ∨ (reachL rows)[i]? = some (some r) := by
  have e := scan_at reachF (s := true) h
  rw [show reachL rows = scan reachF rows true from rfl, e]
  unfold reachF
  split
  · exact .inr rfl
  · exact .inl rfl
theorem reach_label {rows : List Row} {j : Nat} {t : Int} {q : Pl} (h : rows[j]? = some (.label t q)) : (reachL rows)[j]? = some (some (.label t q)) := by
  have e := scan_at reachF (s := true) h
  rw [show reachL rows = scan reachF rows true from rfl, e]
  simp [reachF, Row.isLabel]
theorem reach_pass (rows : List Row) : Pass rows (reachL rows) :=
  keeps_pass (scan_len _ _ _) (reach_k rows) fun i j r' t q _ _ hj => ⟨q, reach_label hj⟩
theorem reach_less (rows : List Row) : Less rows ((reachL rows).filterMap id) := keeps_less (scan_len _ _ _) (reach_k rows)

theorem reach_last_core : ∀ (rows : List Row) (o : Bool), (∃ r : Row, rows.getLast? = some r ∧ r.isEnd = true) →
    ((scan reachF rows o).filterMap id = [] ∧ o = false) ∨ ∃ r : Row, ((scan reachF rows o).filterMap id).getLast? = some r ∧ r.isEnd = true
  | [], o, h => by obtain ⟨r, h, _⟩ := h; simp at h
  | [r], o, h => by
    obtain ⟨r', h1, h2⟩ := h
    have e : r = r' := by simpa using h1
    subst e
    by_cases ho : (o || r.isLabel) = true
    · right
      refine ⟨r, ?_, h2⟩
      simp [scan, reachF, ho]
    · left
      have : o = false := by cases o <;> simp_all
      refine ⟨?_, this⟩
      simp [scan, reachF, ho]
  | r :: s :: rows, o, h => by
    obtain ⟨r', h1, h2⟩ := h
    have ih := reach_last_core (s :: rows) (reachF r o).2 ⟨r', by simpa [List.getLast?_cons_cons] using h1, h2⟩
    have e : scan reachF (r :: s :: rows) o = (reachF r o).1 :: scan reachF (s :: rows) (reachF r o).2 := rfl
    rw [e]
    rcases ih with ⟨i1, i2⟩ | ⟨r2, i1, i2⟩
    · by_cases ho : (o || r.isLabel) = true
      · right
        have hr : r.isEnd = true := by
          cases hr : r.isEnd with
          | true => rfl
          | false =>
            unfold reachF at i2
            rw [hr] at i2
            simp only [Bool.false_eq_true, if_false] at i2
            rw [ho] at i2
            cases i2
        refine ⟨r, ?_, hr⟩
        have e1 : (reachF r o).1 = some r := by simp only [reachF, ho, if_true]
        rw [List.filterMap_cons, e1]
        show (r :: _).getLast? = _
        rw [i1]; rfl
      · left
        have e1 : (reachF r o).1 = none := by
          simp only [reachF]
          rw [if_neg ho]
        refine ⟨?_, by cases o <;> simp_all⟩
        rw [List.filterMap_cons, e1]
        exact i1
    · right
      refine ⟨r2, ?_, i2⟩
      cases e1 : (reachF r o).1 with
      | none => rw [List.filterMap_cons]; exact i1
      | some x =>
        rw [List.filterMap_cons]
        show (x :: _).getLast? = _
        rw [List.getLast?_cons, i1]; rfl
theorem reach_last {rows : List Row} (h : ∃ r : Row, rows.getLast? = some r ∧ r.isEnd = true) : ∃ r : Row, ((reachL rows).filterMap id).getLast? = some r ∧ r.isEnd = true := by
  rcases reach_last_core rows true h with ⟨_, e⟩ | h
  · cases e
  · exact h

def ReachInv (rows : List Row) (pc : Nat) (c c' : Cells) : Prop := c' = c ∧ ∀ r, rows[pc]? = some r → (stAt reachF rows true pc || r.isLabel) = true
theorem reach_step (cs : List Int) (rows : List Row) (pc : Nat) (r : Row) (c c' : Cells) (k : Keeps) (res : Res) (h : rows[pc]? = some r) (hi : ReachInv rows pc c c') (he : exec cs r c k = some res) :
    StepOk cs rows (reachL rows) (ReachInv rows) pc r c c' k := by
  obtain ⟨rfl, ho⟩ := hi
  have ho := ho r h
  have hl : (reachL rows)[pc]? = some (some r) := by
    have e := scan_at reachF (s := true) h
    rw [show reachL rows = scan reachF rows true from rfl, e]
    simp only [reachF, ho, if_true]
  refine .inr ⟨r, hl, rfl, ?_⟩
  cases res with
  | stop ev => exact .inl ⟨ev, he, he⟩
  | jump t =>
    refine .inr (.inr ⟨t, he, he, fun i q hq => ⟨⟨rfl, fun r2 h2 => ?_⟩, q, reach_label hq⟩⟩)
    rw [hq] at h2; cases h2
    simp [Row.isLabel]
  | fall ev c2 k2 =>
    refine .inr (.inl ⟨ev, c2, k2, c2, he, he, rfl, fun r2 _ => ?_⟩)
    rw [stAt_succ reachF h]
    have hne : r.isEnd = false := by
      cases r <;> first | rfl | skip
      · cases he
      · rename_i x p
        cases x with
        | none => cases he
        | some x => cases hd : c' x <;> simp only [exec, hd] at he <;> cases he
      · cases he
    simp only [reachF, hne, Bool.false_eq_true, if_false]
    rw [ho]; rfl
theorem reach_leaner {cs : List Int} {rows : List Row} (w : WF rows) : Leaner cs rows ((reachL rows).filterMap id) :=
  (reach_pass rows).leaner w (reach_last w.last) (Inv := ReachInv rows) (fun c => ⟨rfl, fun r _ => by cases rows <;> rfl⟩) (reach_step cs rows)

/-! ### 3. goes to the label right behind -/
def leads : Row → Row → Bool
  | .go k _, .label j _ => decide (k = j)
  | _, _ => false
def dropGo : List Row → List (Option Row)
  | [] => []
  | [r] => [some r]
  | r :: s :: rs => (if leads r s then none else some r) :: dropGo (s :: rs)
theorem dropGo_len : ∀ rows : List Row, (dropGo rows).length = rows.length
  | [] => rfl
  | [_] => rfl
  | _ :: s :: rs => by simp [dropGo, dropGo_len (s :: rs)]
theorem dropGo_at : ∀ {rows : List Row} {i : Nat} {r : Row}, rows[i]? = some r →
    ((dropGo rows)[i]? = some none ∧ ∃ k p q, r = .go k p ∧ rows[i + 1]? = some (.label k q)) ∨ (dropGo rows)[i]? = some (some r)
  | [], _, _, h => by simp at h
  | [x], 0, r, h => by
    have e : x = r := by simpa using h
    subst e; exact .inr rfl
  | [x], i + 1, r, h => by simp at h
  | x :: s :: rs, 0, r, h => by
    have e : x = r := by simpa using h
    subst e
    cases hx : leads x s with
    | false => right; simp [dropGo, hx]
    | true =>
      left
      refine ⟨by simp [dropGo, hx], ?_⟩
      cases x <;> cases s <;> simp [leads] at hx
      subst hx
      exact ⟨_, _, _, rfl, rfl⟩
  | x :: s :: rs, i + 1, r, h => by
    have := dropGo_at (rows := s :: rs) (i := i) (r := r) (by simpa using h)
    simpa [dropGo] using this
theorem dropGo_label {rows : List Row} {j : Nat} {t : Int} {q : Pl} (h : rows[j]? = some (.label t q)) : (dropGo rows)[j]? = some (some (.label t q)) := by
  rcases dropGo_at h with ⟨_, k, p, q', e, _⟩ | e
  · cases e
  · exact e
theorem dropGo_k (rows : List Row) (i : Nat) (r : Row) (h : rows[i]? = some r) : (dropGo rows)[i]? = some none ∨ (dropGo rows)[i]? = some (some r) := (dropGo_at h).imp And.left id
theorem dropGo_pass (rows : List Row) : Pass rows (dropGo rows) := keeps_pass (dropGo_len _) (dropGo_k rows) fun i j r' t q _ _ hj => ⟨q, dropGo_label hj⟩
theorem dropGo_less (rows : List Row) : Less rows ((dropGo rows).filterMap id) := keeps_less (dropGo_len _) (dropGo_k rows)
theorem dropGo_last {rows : List Row} (h : ∃ r : Row, rows.getLast? = some r ∧ r.isEnd = true) : ∃ r : Row, ((dropGo rows).filterMap id).getLast? = some r ∧ r.isEnd = true := by
  obtain ⟨r, h1, h2⟩ := h
  refine ⟨r, last_keep (last_of ?_), h2⟩
  rw [dropGo_len]
  have hlt := (List.getElem?_eq_some_iff.mp (last_at h1)).1
  rcases dropGo_at (last_at h1) with ⟨_, k, p, q, _, e⟩ | e
  · have := (List.getElem?_eq_some_iff.mp e).1; omega
  · exact e
theorem dropGo_step (cs : List Int) {rows : List Row} (w : WF rows) (pc : Nat) (r : Row) (c c' : Cells) (k : Keeps) (res : Res) (h : rows[pc]? = some r) (hi : c' = c) (he : exec cs r c k = some res) :
    StepOk cs rows (dropGo rows) (fun _ c c' => c' = c) pc r c c' k := by
  subst hi
  rcases dropGo_at h with ⟨e, kk, p, q, rfl, hn⟩ | e
  · refine .inl ⟨e, .inr ⟨kk, rfl, fun i q' hq => ⟨?_, rfl⟩⟩⟩
    rw [w.uniq _ _ _ _ _ hq hn, pos_drop e]
  · refine .inr ⟨r, e, rfl, ?_⟩
    cases res with
    | stop ev => exact .inl ⟨ev, he, he⟩
    | jump t => exact .inr (.inr ⟨t, he, he, fun i q hq => ⟨rfl, q, dropGo_label hq⟩⟩)
    | fall ev c2 k2 => exact .inr (.inl ⟨ev, c2, k2, c2, he, he, rfl⟩)
theorem dropGo_leaner {cs : List Int} {rows : List Row} (w : WF rows) : Leaner cs rows ((dropGo rows).filterMap id) :=
  (dropGo_pass rows).leaner w (dropGo_last w.last) (Inv := fun _ c c' => c' = c) (fun _ => rfl) (dropGo_step cs w)

/-! ### 4. labels that none leads to -/
def goals (rows : List Row) : List Int := rows.filterMap Row.target
def dropL (rows : List Row) : List (Option Row) := rows.map fun r => match r.labelOf with
  | some k => if k ∈ goals rows then some r else none
  | none => some r
theorem dropL_at {rows : List Row} {i : Nat} {r : Row} (h : rows[i]? = some r) : (dropL rows)[i]? = some (match r.labelOf with
  | some k => if k ∈ goals rows then some r else none
  | none => some r) := by
  unfold dropL; rw [List.getElem?_map, h]; rfl
theorem dropL_k (rows : List Row) (i : Nat) (r : Row) (h : rows[i]? = some r) : (dropL rows)[i]? = some none ∨ (dropL rows)[i]? = some (some r) := by
  rw [dropL_at h]
  split
  · split
    · exact .inr rfl
    · exact .inl rfl
  · exact .inr rfl
theorem dropL_len (rows : List Row) : (dropL rows).length = rows.length := by unfold dropL; rw [List.length_map]
theorem dropL_lift {rows : List Row} {i j : Nat} {r : Row} {t : Int} {q : Pl} (h : rows[i]? = some r) (ht : r.target = some t) (hj : rows[j]? = some (.label t q)) : (dropL rows)[j]? = some (some (.label t q)) := by
  rw [dropL_at hj]
  have hm : t ∈ goals rows := List.mem_filterMap.mpr ⟨r, List.mem_iff_getElem?.mpr ⟨i, h⟩, ht⟩
  simp [Row.labelOf, hm]
theorem dropL_pass (rows : List Row) : Pass rows (dropL rows) := keeps_pass (dropL_len _) (dropL_k rows) fun i j r' t q h ht hj => by
  have hi : i < (dropL rows).length := (List.getElem?_eq_some_iff.mp h).1
  rw [dropL_len] at hi
  have h1 := List.getElem?_eq_getElem hi
  rcases dropL_k rows i _ h1 with e | e <;> rw [h] at e <;> cases e
  exact ⟨q, dropL_lift h1 ht hj⟩
theorem dropL_less (rows : List Row) : Less rows ((dropL rows).filterMap id) := keeps_less (dropL_len _) (dropL_k rows)
theorem dropL_last {rows : List Row} (h : ∃ r : Row, rows.getLast? = some r ∧ r.isEnd = true) : ∃ r : Row, ((dropL rows).filterMap id).getLast? = some r ∧ r.isEnd = true := by
  obtain ⟨r, h1, h2⟩ := h
  refine ⟨r, last_keep (last_of ?_), h2⟩
  rw [dropL_len, dropL_at (last_at h1)]
  cases r <;> simp [Row.isEnd] at h2 <;> rfl
theorem target_of_jump {cs : List Int} {r : Row} {c : Cells} {k : Keeps} {t : Int} (h : exec cs r c k = some (.jump t)) : r.target = some t := by
  cases r <;> simp only [exec] at h
  case begin => cases h
  case put => cases h
  case copy x d p => cases hd : c d <;> rw [hd] at h <;> cases h
  case two o x d e p =>
    cases hd : c d <;> rw [hd] at h
    · cases h
    cases hd2 : c e <;> rw [hd2] at h
    · cases h
    simp only at h
    split at h <;> cases h
  case fetch => cases h
  case lay n x p => cases hd : c x <;> rw [hd] at h <;> cases h
  case label => cases h
  case go => cases h; rfl
  case «unless» x t' p =>
    cases hd : c x <;> rw [hd] at h
    · cases h
    simp only [Option.map_some] at h
    split at h <;> cases h
    rfl
  case call x f n cs' p => cases hd : look c cs' <;> rw [hd] at h <;> cases h
  case say kd x p => cases hd : c x <;> rw [hd] at h <;> cases h
  case give x p =>
    cases x with
    | none => cases h
    | some x => cases hd : c x <;> simp only [exec, hd] at h <;> cases h
  case nothing => cases h
theorem dropL_step (cs : List Int) (rows : List Row) (pc : Nat) (r : Row) (c c' : Cells) (k : Keeps) (res : Res) (h : rows[pc]? = some r) (hi : c' = c) (he : exec cs r c k = some res) :
    StepOk cs rows (dropL rows) (fun _ c c' => c' = c) pc r c c' k := by
  subst hi
  rcases dropL_k rows pc r h with e | e
  · have hr : ∃ kk q, r = .label kk q := by
      rw [dropL_at h] at e
      cases hb : r.labelOf with
      | none => rw [hb] at e; cases e
      | some kk => obtain ⟨q, rfl⟩ := labelOf_eq hb; exact ⟨_, _, rfl⟩
    obtain ⟨kk, q, rfl⟩ := hr
    exact .inl ⟨e, .inl ⟨c', rfl, rfl, rfl⟩⟩
  · refine .inr ⟨r, e, rfl, ?_⟩
    cases res with
    | stop ev => exact .inl ⟨ev, he, he⟩
    | jump t => exact .inr (.inr ⟨t, he, he, fun i q hq => ⟨rfl, q, dropL_lift h (target_of_jump he) hq⟩⟩)
    | fall ev c2 k2 => exact .inr (.inl ⟨ev, c2, k2, c2, he, he, rfl⟩)
theorem dropL_leaner {cs : List Int} {rows : List Row} (w : WF rows) : Leaner cs rows ((dropL rows).filterMap id) :=
  (dropL_pass rows).leaner w (dropL_last w.last) (Inv := fun _ c c' => c' = c) (fun _ => rfl) (dropL_step cs rows)

/-! ### 5. rows that lay for nothing -/
def Row.quiet : Row → Bool
  | .put _ _ _ => true
  | .copy _ _ _ => true
  | .two .less _ _ _ _ => true
  | .two .same _ _ _ _ => true
  | .fetch _ _ _ _ => true
  | _ => false
def Row.selfCopy : Row → Bool
  | .copy x d _ => decide (x = d)
  | _ => false
def Row.idle (r : Row) (ks : List Int) : Bool := (r.quiet && match r.lays with
  | some x => decide (x ∉ ks)
  | none => false) || r.selfCopy
def Succ (rows : List Row) (i : Nat) (r : Row) (j : Nat) : Prop := (j = i + 1 ∧ r.isEnd = false) ∨ ∃ t q, r.target = some t ∧ rows[j]? = some (.label t q)
/-- a sound telling of what is wanted behind each row; named ones always are -/
def Sound (rows : List Row) (named : List Int) (K : List (List Int)) : Prop := K.length = rows.length ∧ ∃ A : Nat → Int → Prop, (∀ i x, x ∈ named → A i x) ∧
  ∀ (i : Nat) r ks, rows[i]? = some r → K[i]? = some ks → (∀ j, Succ rows i r j → ∀ x, A j x → x ∈ ks) ∧ (∀ x ∈ r.reads, A i x) ∧ (∀ x ∈ ks, r.lays ≠ some x → A i x)
def idleL : List Row → List (List Int) → List (Option Row)
  | r :: rs, ks :: K => (if r.idle ks then none else some r) :: idleL rs K
  | _, _ => []
theorem idleL_len : ∀ {rows : List Row} {K : List (List Int)}, K.length = rows.length → (idleL rows K).length = rows.length
  | [], [], _ => rfl
  | [], _ :: _, h => by simp at h
  | _ :: _, [], h => by simp at h
  | r :: rs, ks :: K, h => by simp [idleL, idleL_len (rows := rs) (K := K) (by simpa using h)]
theorem idleL_at : ∀ {rows : List Row} {K : List (List Int)} {i : Nat} {r : Row} {ks : List Int}, rows[i]? = some r → K[i]? = some ks → (idleL rows K)[i]? = some (if r.idle ks then none else some r)
  | [], _, _, _, _, h, _ => by simp at h
  | _ :: _, [], _, _, _, _, h => by simp at h
  | x :: rs, y :: K, 0, r, ks, h, h2 => by
    have e : x = r := by simpa using h
    have e2 : y = ks := by simpa using h2
    subst e e2; rfl
  | x :: rs, y :: K, i + 1, r, ks, h, h2 => by simpa [idleL] using idleL_at (rows := rs) (K := K) (i := i) (by simpa using h) (by simpa using h2)
theorem sound_at {rows : List Row} {K : List (List Int)} (hl : K.length = rows.length) {i : Nat} {r : Row} (h : rows[i]? = some r) : ∃ ks, K[i]? = some ks := by
  have hi := (List.getElem?_eq_some_iff.mp h).1
  rw [← hl] at hi
  exact ⟨_, List.getElem?_eq_getElem hi⟩
theorem idle_lays {r : Row} {ks : List Int} (h : r.idle ks = true) : r.labelOf = none ∧ r.isEnd = false := by
  cases r <;> simp [Row.idle, Row.quiet, Row.selfCopy] at h <;> exact ⟨rfl, rfl⟩
theorem idleL_k {rows : List Row} {K : List (List Int)} (hl : K.length = rows.length) (i : Nat) (r : Row) (h : rows[i]? = some r) : (idleL rows K)[i]? = some none ∨ (idleL rows K)[i]? = some (some r) := by
  obtain ⟨ks, hk⟩ := sound_at hl h
  rw [idleL_at h hk]
  split
  · exact .inl rfl
  · exact .inr rfl
theorem idleL_label {rows : List Row} {K : List (List Int)} (hl : K.length = rows.length) {j : Nat} {t : Int} {q : Pl} (h : rows[j]? = some (.label t q)) : (idleL rows K)[j]? = some (some (.label t q)) := by
  obtain ⟨ks, hk⟩ := sound_at hl h
  rw [idleL_at h hk]; rfl
theorem idle_pass {rows : List Row} {K : List (List Int)} (hl : K.length = rows.length) : Pass rows (idleL rows K) := keeps_pass (idleL_len hl) (idleL_k hl) fun i j r' t q _ _ hj => ⟨q, idleL_label hl hj⟩
theorem idle_less {rows : List Row} {K : List (List Int)} (hl : K.length = rows.length) : Less rows ((idleL rows K).filterMap id) := keeps_less (idleL_len hl) (idleL_k hl)
theorem idle_last {rows : List Row} {K : List (List Int)} (hl : K.length = rows.length) (h : ∃ r : Row, rows.getLast? = some r ∧ r.isEnd = true) : ∃ r : Row, ((idleL rows K).filterMap id).getLast? = some r ∧ r.isEnd = true := by
  obtain ⟨r, h1, h2⟩ := h
  refine ⟨r, last_keep (last_of ?_), h2⟩
  obtain ⟨ks, hk⟩ := sound_at hl (last_at h1)
  rw [idleL_len hl, idleL_at (last_at h1) hk]
  cases hi : r.idle ks with
  | false => rfl
  | true => rw [(idle_lays hi).2] at h2; cases h2

/-- two runs of a row whose cells agree where they are read -/
theorem look_agree {c c' : Cells} : ∀ {xs : List Int}, (∀ x ∈ xs, c x = c' x) → look c xs = look c' xs
  | [], _ => rfl
  | x :: xs, h => by
    unfold look
    rw [h x (List.mem_cons_self), look_agree fun y hy => h y (List.mem_cons_of_mem _ hy)]
theorem shown_agree {cs : List Int} {c c' : Cells} (h : ∀ x ∈ cs, c x = c' x) : shown cs c = shown cs c' := by
  unfold shown
  exact List.map_congr_left fun x hx => by rw [h x hx]
/-- how cells that a row leaves compare -/
def After (r : Row) (c c' c2 c2' : Cells) : Prop := ∀ x, (r.lays = some x → c2 x = c2' x) ∧ (r.lays ≠ some x → c2 x = c x ∧ c2' x = c' x)
theorem After.none {r : Row} {c c' : Cells} (h : r.lays = none) : After r c c' c c' := fun x => ⟨fun e => (by rw [h] at e; cases e), fun _ => ⟨rfl, rfl⟩⟩
theorem After.set {r : Row} {c c' : Cells} {x v : Int} (h : r.lays = some x) : After r c c' (setC c x v) (setC c' x v) := fun y => by
  rw [h]
  refine ⟨fun e => ?_, fun e => ?_⟩
  · have e : x = y := Option.some.inj e
    subst e; rw [setC_same, setC_same]
  · have e : y ≠ x := fun z => e (by rw [z])
    exact ⟨setC_ne e, setC_ne e⟩
theorem exec_agree {cs : List Int} {r : Row} {c c' : Cells} {k : Keeps} (hr : ∀ x ∈ r.reads, c x = c' x) (hb : ∀ x ∈ cs, c x = c' x) : match exec cs r c k with
    | none => True
    | some (.stop ev) => exec cs r c' k = some (.stop ev)
    | some (.jump t) => exec cs r c' k = some (.jump t)
    | some (.fall ev c2 k2) => ∃ c2', exec cs r c' k = some (.fall ev c2' k2) ∧ After r c c' c2 c2' := by
  cases r with
  | begin p => exact ⟨c', by simp only [exec, shown_agree hb], .none rfl⟩
  | put x n p => exact ⟨_, rfl, .set rfl⟩
  | copy x d p =>
    have e := hr d (by simp [Row.reads])
    simp only [exec, ← e]
    cases hd : c d with
    | none => trivial
    | some v => exact ⟨_, rfl, .set rfl⟩
  | two o x d e p =>
    have e1 := hr d (by simp [Row.reads])
    have e2 := hr e (by simp [Row.reads])
    simp only [exec, ← e1, ← e2]
    cases hd : c d with
    | none => trivial
    | some a =>
      cases hd2 : c e with
      | none => trivial
      | some b =>
        simp only
        cases ho : o.ap a b with
        | error w => rfl
        | ok v => exact ⟨_, rfl, .set rfl⟩
  | fetch x f n p => exact ⟨_, rfl, .set rfl⟩
  | lay n x p =>
    have e := hr x (by simp [Row.reads])
    simp only [exec, ← e]
    cases hd : c x with
    | none => trivial
    | some v => exact ⟨_, rfl, .none rfl⟩
  | label t p => exact ⟨_, rfl, .none rfl⟩
  | go t p => rfl
  | «unless» x t p =>
    have e := hr x (by simp [Row.reads])
    simp only [exec, ← e]
    cases hd : c x with
    | none => trivial
    | some v =>
      simp only [Option.map_some]
      by_cases hz : v = 0
      · simp only [if_pos hz]
      · simp only [if_neg hz]; exact ⟨_, rfl, .none rfl⟩
  | call x f n cs' p =>
    have e := look_agree (xs := cs') (fun y hy => hr y hy)
    simp only [exec, ← e]
    cases hd : look c cs' with
    | none => trivial
    | some vs =>
      refine ⟨_, rfl, ?_⟩
      cases x with
      | none => exact .none rfl
      | some x => exact .set rfl
  | say kd x p =>
    have e := hr x (by simp [Row.reads])
    simp only [exec, ← e]
    cases hd : c x with
    | none => trivial
    | some v => exact ⟨_, rfl, .none rfl⟩
  | give x p =>
    cases x with
    | none => rfl
    | some x =>
      have e := hr x (by simp [Row.reads])
      simp only [exec, ← e]
      cases hd : c x with
      | none => trivial
      | some v => rfl
  | nothing p => rfl

theorem end_falls {cs : List Int} {r : Row} {c : Cells} {k : Keeps} {ev : List Evt} {c2 : Cells} {k2 : Keeps} (he : exec cs r c k = some (.fall ev c2 k2)) : r.isEnd = false := by
  cases r <;> first | rfl | skip
  · cases he
  · rename_i x p
    cases x with
    | none => cases he
    | some x => cases hd : c x <;> simp only [exec, hd] at he <;> cases he
  · cases he

theorem idle_step (cs : List Int) {rows : List Row} {named : List Int} {K : List (List Int)} (hl : K.length = rows.length) {A : Nat → Int → Prop} (hcs : ∀ x ∈ cs, x ∈ named) (hA : ∀ i x, x ∈ named → A i x)
    (hS : ∀ (i : Nat) r ks, rows[i]? = some r → K[i]? = some ks → (∀ j, Succ rows i r j → ∀ x, A j x → x ∈ ks) ∧ (∀ x ∈ r.reads, A i x) ∧ (∀ x ∈ ks, r.lays ≠ some x → A i x))
    (pc : Nat) (r : Row) (c c' : Cells) (k : Keeps) (res : Res) (h : rows[pc]? = some r) (hi : ∀ x, A pc x → c x = c' x) (he : exec cs r c k = some res) :
    StepOk cs rows (idleL rows K) (fun pc c c' => ∀ x, A pc x → c x = c' x) pc r c c' k := by
  obtain ⟨ks, hk⟩ := sound_at hl h
  obtain ⟨s1, s2, s3⟩ := hS pc r ks h hk
  have ag := exec_agree (cs := cs) (r := r) (c := c) (c' := c') (k := k) (fun x hx => hi x (s2 x hx)) (fun x hx => hi x (hA pc x (hcs x hx)))
  rw [he] at ag
  -- behind a row that falls
  have nx : ∀ {c2 c2' : Cells}, r.isEnd = false → After r c c' c2 c2' → ∀ x, A (pc + 1) x → c2 x = c2' x := fun {c2 c2'} hne af x hx => by
    have hm := s1 (pc + 1) (.inl ⟨rfl, hne⟩) x hx
    by_cases hly : r.lays = some x
    · exact (af x).1 hly
    · obtain ⟨e1, e2⟩ := (af x).2 hly
      rw [e1, e2]
      exact hi x (s3 x hm hly)
  have hat := idleL_at h hk
  cases hid : r.idle ks with
  | false =>
    rw [hid] at hat
    refine .inr ⟨r, hat, rfl, ?_⟩
    cases res with
    | stop ev => exact .inl ⟨ev, he, ag⟩
    | jump t =>
      refine .inr (.inr ⟨t, he, ag, fun i q hq => ⟨fun x hx => ?_, q, idleL_label hl hq⟩⟩)
      have ht := target_of_jump he
      have hm := s1 i (.inr ⟨t, q, ht, hq⟩) x hx
      refine hi x (s3 x hm fun e => ?_)
      cases r <;> simp [Row.target] at ht <;> cases e
    | fall ev c2 k2 =>
      obtain ⟨c2', e2, af⟩ := ag
      exact .inr (.inl ⟨ev, c2, k2, c2', he, e2, nx (end_falls he) af⟩)
  | true =>
    rw [hid] at hat
    -- it falls, silently, and lays what is not wanted, or what is there
    have dead : ∀ x v, r.lays = some x → x ∉ ks → ∀ y, A (pc + 1) y → r.isEnd = false → setC c x v y = c' y := fun x v hx hn y hy hne => by
      have hm := s1 (pc + 1) (.inl ⟨rfl, hne⟩) y hy
      have hyx : y ≠ x := fun e => hn (e ▸ hm)
      rw [setC_ne hyx]
      exact hi y (s3 y hm (by rw [hx]; exact fun e => hyx (Option.some.inj e).symm))
    refine .inl ⟨hat, .inl ?_⟩
    cases r <;> simp [Row.idle, Row.quiet, Row.selfCopy, Row.lays] at hid
    case put x n p => exact ⟨_, rfl, rfl, fun y hy => dead x n rfl hid y hy rfl⟩
    case copy x d p =>
      cases hd : c d with
      | none => simp only [exec, hd] at he; cases he
      | some v =>
        refine ⟨setC c x v, by simp only [exec, hd]; rfl, rfl, fun y hy => ?_⟩
        by_cases hn : x ∈ ks
        · have e : x = d := hid.resolve_left (fun z => z hn)
          subst e
          by_cases hyx : y = x
          · subst hyx
            rw [setC_same, ← hd]
            exact hi y (s2 y (by simp [Row.reads]))
          · rw [setC_ne hyx]
            have hm := s1 (pc + 1) (.inl ⟨rfl, rfl⟩) y hy
            exact hi y (s3 y hm (fun e => hyx (Option.some.inj e).symm))
        · exact dead x v rfl hn y hy rfl
    case two o x d e p =>
      cases hd : c d with
      | none => simp only [exec, hd] at he; cases he
      | some a =>
        cases hd2 : c e with
        | none => simp only [exec, hd, hd2] at he; cases he
        | some b =>
          cases o <;> simp at hid
          · exact ⟨setC c x (if a < b then 1 else 0), by simp only [exec, hd, hd2, Op.ap], rfl, fun y hy => dead x _ rfl hid y hy rfl⟩
          · exact ⟨setC c x (if a = b then 1 else 0), by simp only [exec, hd, hd2, Op.ap], rfl, fun y hy => dead x _ rfl hid y hy rfl⟩
    case fetch x f n p => exact ⟨_, rfl, rfl, fun y hy => dead x _ rfl hid y hy rfl⟩
theorem idle_leaner {cs : List Int} {rows : List Row} {named : List Int} {K : List (List Int)} (w : WF rows) (hcs : ∀ x ∈ cs, x ∈ named) (s : Sound rows named K) : Leaner cs rows ((idleL rows K).filterMap id) := by
  obtain ⟨hl, A, hA, hS⟩ := s
  exact (idle_pass hl).leaner w (idle_last hl w.last) (Inv := fun pc c c' => ∀ x, A pc x → c x = c' x) (fun _ _ _ => rfl) (idle_step cs hl hcs hA hS)

/-! ### one turn of lean rows -/
def comeTo (rows : List Row) : List Row := (dropL ((dropGo ((reachL rows).filterMap id)).filterMap id)).filterMap id
def foldR (rows : List Row) : List Row := (foldL rows).filterMap id
theorem comeTo_leaner {cs : List Int} {rows : List Row} (w : WF rows) : Leaner cs rows (comeTo rows) := by
  have a := reach_leaner (cs := cs) w
  have b := dropGo_leaner (cs := cs) a.wf
  have d := dropL_leaner (cs := cs) b.wf
  exact (a.trans b).trans d
theorem turn_leaner {cs : List Int} {rows : List Row} {named : List Int} {K : List (List Int)} (w : WF rows) (hcs : ∀ x ∈ cs, x ∈ named) (s : Sound (comeTo (foldR rows)) named K) :
    Leaner cs rows ((idleL (comeTo (foldR rows)) K).filterMap id) := by
  have a := fold_leaner (cs := cs) w
  have b := comeTo_leaner (cs := cs) a.wf
  exact (a.trans b).trans (idle_leaner b.wf hcs s)
theorem turn_less {rows : List Row} {K : List (List Int)} (hl : K.length = (comeTo (foldR rows)).length) : Less rows ((idleL (comeTo (foldR rows)) K).filterMap id) :=
  ((((fold_less rows).trans (reach_less _)).trans (dropGo_less _)).trans (dropL_less _)).trans (idle_less hl)
end K51

/-! Mathematics 3: machine rows, and how they run. -/
namespace K51

inductive MOp where
  | row | nothing
  | push (n : Int) | load (c : Int) | store (c : Int)
  | fetch (f n : S) | lay (n : S) | two (o : Op)
  | jump (t : Int) | «unless» (t : Int)
  | call (f n : S) (many : Nat) | give (one : Bool) | say (kind : S)

structure MRow where
  op : MOp
  k : Nat

inductive Raw where
  | begin (j : Nat) (c : Cells)
  | nothing (j : Nat) (c : Cells)
  | fetch (j : Nat) (f n : S)
  | lay (j : Nat) (n : S) (v : Int)
  | say (j : Nat) (kd : S) (v : Int)
  | give (j : Nat) (v : Option Int)
  | call (j : Nat) (f n : S) (vs : List Int)
  | fault (j : Nat) (o : Op) (w : Flt)

def placeAt (rows : List Row) (j : Nat) : Pl := ((rows[j]?).map Row.place).getD ⟨0, 0⟩
def showR (cs : List Int) (rows : List Row) : Raw → Option Evt
  | .begin j c => some (.begin (placeAt rows j) (shown cs c))
  | .nothing j _ => some (.nothing (placeAt rows j))
  | .fetch _ _ _ => none
  | .lay j n v => some (.lay (placeAt rows j) n v)
  | .say j kd v => some (.say (placeAt rows j) kd v)
  | .give j v => some (.give (placeAt rows j) v)
  | .call j f n vs => some (.call (placeAt rows j) f n vs)
  | .fault j o w => some (.fault (placeAt rows j) o w)
theorem placeAt_eq {rows : List Row} {j : Nat} {r : Row} (h : rows[j]? = some r) : placeAt rows j = r.place := by unfold placeAt; rw [h]; rfl

def Row.keepsVal : Row → Bool
  | .call (some _) _ _ _ _ => true
  | _ => false
/-- what is left on the pile by a call that comes from this row -/
def backOf (r : Row) (f n : S) (vs : List Int) : List Int := if r.keepsVal then [came f n vs] else []

/-- machine rows run from pc on, by n steps -/
inductive MRuns (rows : List Row) (ms : List MRow) : Nat → List Int → Cells → Keeps → Int → List Raw → Nat → Prop
  | out {pc pile c k most} : most < 0 → MRuns rows ms pc pile c k most [] 0
  | row {pc c k most j raws n} : 0 ≤ most → ms[pc]? = some ⟨.row, j⟩ → MRuns rows ms (pc + 1) [] c k (most - 1) raws n → MRuns rows ms pc [] c k most (.begin j c :: raws) (n + 1)
  | nothing {pc c k most j} : 0 ≤ most → ms[pc]? = some ⟨.nothing, j⟩ → MRuns rows ms pc [] c k most [.nothing j c] 1
  | push {pc pile c k most j v raws n} : 0 ≤ most → ms[pc]? = some ⟨.push v, j⟩ → MRuns rows ms (pc + 1) (pile ++ [v]) c k most raws n → MRuns rows ms pc pile c k most raws (n + 1)
  | load {pc pile c k most j x v raws n} : 0 ≤ most → ms[pc]? = some ⟨.load x, j⟩ → c x = some v → MRuns rows ms (pc + 1) (pile ++ [v]) c k most raws n → MRuns rows ms pc pile c k most raws (n + 1)
  | store {pc pile p c k most j x v raws n} : 0 ≤ most → ms[pc]? = some ⟨.store x, j⟩ → pile = p ++ [v] → MRuns rows ms (pc + 1) p (setC c x v) k most raws n → MRuns rows ms pc pile c k most raws (n + 1)
  | fetch {pc pile c k most j f m raws n} : 0 ≤ most → ms[pc]? = some ⟨.fetch f m, j⟩ → MRuns rows ms (pc + 1) (pile ++ [fetched k f m]) c k most raws n → MRuns rows ms pc pile c k most (.fetch j f m :: raws) (n + 1)
  | lay {pc pile p c k most j m v raws n} : 0 ≤ most → ms[pc]? = some ⟨.lay m, j⟩ → pile = p ++ [v] → MRuns rows ms (pc + 1) p c (setK k fileF m v) most raws n → MRuns rows ms pc pile c k most (.lay j m v :: raws) (n + 1)
  | two {pc pile p c k most j o a b v raws n} : 0 ≤ most → ms[pc]? = some ⟨.two o, j⟩ → pile = p ++ [a, b] → o.ap a b = .ok v → MRuns rows ms (pc + 1) (p ++ [v]) c k most raws n → MRuns rows ms pc pile c k most raws (n + 1)
  | twoF {pc pile p c k most j o a b w} : 0 ≤ most → ms[pc]? = some ⟨.two o, j⟩ → pile = p ++ [a, b] → o.ap a b = .error w → MRuns rows ms pc pile c k most [.fault j o w] 1
  | jump {pc pile c k most j t raws n} : 0 ≤ most → ms[pc]? = some ⟨.jump (t : Nat), j⟩ → MRuns rows ms t pile c k most raws n → MRuns rows ms pc pile c k most raws (n + 1)
  | unless0 {pc pile p c k most j t raws n} : 0 ≤ most → ms[pc]? = some ⟨.unless (t : Nat), j⟩ → pile = p ++ [0] → MRuns rows ms t p c k most raws n → MRuns rows ms pc pile c k most raws (n + 1)
  | unless1 {pc pile p c k most j t v raws n} : 0 ≤ most → ms[pc]? = some ⟨.unless t, j⟩ → pile = p ++ [v] → v ≠ 0 → MRuns rows ms (pc + 1) p c k most raws n → MRuns rows ms pc pile c k most raws (n + 1)
  | call {pc pile p c k most j f m vs many r raws n} : 0 ≤ most → ms[pc]? = some ⟨.call f m many, j⟩ → pile = p ++ vs → vs.length = many → rows[j]? = some r → MRuns rows ms (pc + 1) (p ++ backOf r f m vs) c k most raws n → MRuns rows ms pc pile c k most (.call j f m vs :: raws) (n + 1)
  | give0 {pc pile c k most j} : 0 ≤ most → ms[pc]? = some ⟨.give false, j⟩ → MRuns rows ms pc pile c k most [.give j none] 1
  | give1 {pc pile p c k most j v} : 0 ≤ most → ms[pc]? = some ⟨.give true, j⟩ → pile = p ++ [v] → MRuns rows ms pc pile c k most [.give j (some v)] 1
  | say {pc pile p c k most j kd v raws n} : 0 ≤ most → ms[pc]? = some ⟨.say kd, j⟩ → pile = p ++ [v] → MRuns rows ms (pc + 1) p c k most raws n → MRuns rows ms pc pile c k most (.say j kd v :: raws) (n + 1)

/-! ### how machine rows are made -/
def body : Row → List MOp
  | .begin _ => [.row]
  | .put _ n _ => [.push n]
  | .copy _ _ _ => []
  | .two o _ _ _ _ => [.two o]
  | .fetch _ f n _ => [.fetch f n]
  | .lay n _ _ => [.lay n]
  | .label _ _ => []
  | .go t _ => [.jump t]
  | .unless _ t _ => [.unless t]
  | .call _ f n cs _ => [.call f n cs.length]
  | .say kd _ _ => [.say kd]
  | .give x _ => [.give x.isSome]
  | .nothing _ => [.nothing]
def loads (l : Bool) (r : Row) : List Int := if l then r.reads.drop 1 else r.reads
def stores (left : Bool) (r : Row) : List MOp := match r.lays with
  | some c => if left then [] else [.store c]
  | none => []
def mcode (l left : Bool) (r : Row) : List MOp := (loads l r).map MOp.load ++ (body r ++ stores left r)
def lf (left : Nat → Bool) (i : Nat) : Bool := decide (0 < i) && left (i - 1)
def pre (left : Nat → Bool) : Nat → List Row → List MRow
  | _, [] => []
  | i, r :: rs => (mcode (lf left i) (left i) r).map (⟨·, i⟩) ++ pre left (i + 1) rs
def mpos (left : Nat → Bool) (rows : List Row) (i : Nat) : Nat := (pre left 0 (rows.take i)).length
def idx (rows : List Row) (t : Int) : Nat := rows.findIdx fun r => decide (r.labelOf = some t)
def fix (left : Nat → Bool) (rows : List Row) (m : MRow) : MRow := match m.op with
  | .jump t => ⟨.jump (mpos left rows (idx rows t)), m.k⟩
  | .unless t => ⟨.unless (mpos left rows (idx rows t)), m.k⟩
  | _ => m
def mrows (left : Nat → Bool) (rows : List Row) : List MRow := (pre left 0 rows).map (fix left rows)

theorem pre_append (left : Nat → Bool) : ∀ (i : Nat) (a b : List Row), pre left i (a ++ b) = pre left i a ++ pre left (i + a.length) b
  | i, [], b => rfl
  | i, r :: a, b => by
    simp only [List.cons_append, pre, pre_append left (i + 1) a b, List.append_assoc, List.length_cons]
    rw [show i + 1 + a.length = i + (a.length + 1) by omega]
theorem mpos_succ {left : Nat → Bool} {rows : List Row} {i : Nat} {r : Row} (h : rows[i]? = some r) : mpos left rows (i + 1) = mpos left rows i + (mcode (lf left i) (left i) r).length := by
  have hi := (List.getElem?_eq_some_iff.mp h).1
  unfold mpos
  rw [take_succ_some h, pre_append]
  simp only [List.length_take, Nat.min_eq_left (Nat.le_of_lt hi), List.length_append, pre, List.append_nil, List.length_map, Nat.zero_add]
theorem pre_at {left : Nat → Bool} {rows : List Row} {i : Nat} {r : Row} (h : rows[i]? = some r) {j : Nat} {op : MOp} (hj : (mcode (lf left i) (left i) r)[j]? = some op) :
    (pre left 0 rows)[mpos left rows i + j]? = some ⟨op, i⟩ := by
  have hi := (List.getElem?_eq_some_iff.mp h).1
  have e : rows = rows.take i ++ (r :: rows.drop (i + 1)) := by
    have h2 : rows[i] = r := (List.getElem?_eq_some_iff.mp h).2
    rw [← h2, List.getElem_cons_drop, List.take_append_drop]
  have e2 : pre left 0 rows = pre left 0 (rows.take i) ++ pre left i (r :: rows.drop (i + 1)) := by
    conv => lhs; rw [e, pre_append]
    rw [List.length_take, Nat.min_eq_left (Nat.le_of_lt hi), Nat.zero_add]
  unfold mpos
  have hjl := (List.getElem?_eq_some_iff.mp hj).1
  rw [e2, List.getElem?_append_right (Nat.le_add_right _ _), Nat.add_sub_cancel_left]
  show (((mcode (lf left i) (left i) r).map (fun op => (⟨op, i⟩ : MRow))) ++ pre left (i + 1) (rows.drop (i + 1)))[j]? = _
  rw [List.getElem?_append_left (by rw [List.length_map]; exact hjl), List.getElem?_map, hj]
  rfl
theorem mrows_at {left : Nat → Bool} {rows : List Row} {i : Nat} {r : Row} (h : rows[i]? = some r) {j : Nat} {op : MOp} (hj : (mcode (lf left i) (left i) r)[j]? = some op) :
    (mrows left rows)[mpos left rows i + j]? = some (fix left rows ⟨op, i⟩) := by
  unfold mrows; rw [List.getElem?_map, pre_at h hj]; rfl
theorem idx_eq {rows : List Row} (w : WF rows) {i : Nat} {t : Int} {q : Pl} (h : rows[i]? = some (.label t q)) : idx rows t = i := by
  have hi := (List.getElem?_eq_some_iff.mp h).1
  have hex : ∃ r ∈ rows, decide (r.labelOf = some t) = true := ⟨_, List.mem_iff_getElem?.mpr ⟨i, h⟩, by simp [Row.labelOf]⟩
  have hlt : idx rows t < rows.length := List.findIdx_lt_length_of_exists hex
  have hp : decide ((rows[idx rows t]'hlt).labelOf = some t) = true := List.findIdx_getElem (w := hlt)
  obtain ⟨q', e⟩ := labelOf_eq (of_decide_eq_true hp)
  exact w.uniq _ _ _ q' q (by rw [List.getElem?_eq_getElem hlt, e]) h

/-! ### which values may be left on the pile -/
structure LeftOk (rows : List Row) (named : List Int) (K : List (List Int)) (left : Nat → Bool) : Prop where
  ok : ∀ i, left i = true → ∃ r r2 x rest ks, rows[i]? = some r ∧ rows[i + 1]? = some r2 ∧ r.lays = some x ∧ x ∉ named ∧ r2.reads = x :: rest ∧ x ∉ rest ∧ K[i + 1]? = some ks ∧ (x ∉ ks ∨ r2.lays = some x)

/-- the machine's cells and pile, ahead of the middle row pc -/
def MInv (rows : List Row) (named : List Int) (A : Nat → Int → Prop) (left : Nat → Bool) (pc : Nat) (c : Cells) (pile : List Int) (mc : Cells) : Prop :=
  (lf left pc = false ∧ pile = [] ∧ ∀ x, (A pc x ∨ x ∈ named) → mc x = c x) ∨
  (∃ x0 v rest r, lf left pc = true ∧ rows[pc]? = some r ∧ r.reads = x0 :: rest ∧ x0 ∉ rest ∧ x0 ∉ named ∧ (r.isEnd = false → A (pc + 1) x0 → r.lays = some x0) ∧ c x0 = some v ∧ pile = [v] ∧ ∀ x, (A pc x ∨ x ∈ named) → x ≠ x0 → mc x = c x)

theorem mloads {rows : List Row} {ms : List MRow} {mc c : Cells} {k : Keeps} {most : Int} {raws : List Raw} {j : Nat} (hm : 0 ≤ most) : ∀ {xs : List Int} {vs pile : List Int} {pc m : Nat}, look c xs = some vs → (∀ x ∈ xs, mc x = c x) →
    (∀ (i : Nat) x, xs[i]? = some x → ms[pc + i]? = some ⟨.load x, j⟩) → MRuns rows ms (pc + xs.length) (pile ++ vs) mc k most raws m → ∃ m', MRuns rows ms pc pile mc k most raws m' ∧ m' ≤ m + xs.length
  | [], vs, pile, pc, m, h, _, _, r => by
    cases h
    rw [List.append_nil] at r
    exact ⟨m, r, Nat.le_refl _⟩
  | x :: xs, vs, pile, pc, m, h, ha, hms, r => by
    unfold look at h
    cases hx : c x with
    | none => rw [hx] at h; cases h
    | some v =>
      cases hxs : look c xs with
      | none => rw [hx, hxs] at h; cases h
      | some vs' =>
        rw [hx, hxs] at h
        cases h
        have e : pile ++ v :: vs' = (pile ++ [v]) ++ vs' := by simp
        rw [e, List.length_cons, show pc + (xs.length + 1) = pc + 1 + xs.length by omega] at r
        obtain ⟨m', r', hb⟩ := mloads hm (pile := pile ++ [v]) (pc := pc + 1) hxs (fun y hy => ha y (List.mem_cons_of_mem _ hy)) (fun i y hy => by rw [show pc + 1 + i = pc + (i + 1) by omega]; exact hms (i + 1) y (by simpa using hy)) r
        refine ⟨m' + 1, .load hm (hms 0 x rfl) ?_ r', by simp only [List.length_cons]; omega⟩
        rw [ha x List.mem_cons_self]; exact hx

section
variable {cs named : List Int} {rows : List Row} {A : Nat → Int → Prop} {left : Nat → Bool} {K : List (List Int)}

/-- the loads of a row -/
theorem menter {pc : Nat} {r : Row} {c : Cells} {k : Keeps} {most : Int} {pile : List Int} {mc : Cells} {raws : List Raw} {vs : List Int} {m : Nat} (hm : 0 ≤ most) (h : rows[pc]? = some r) (hr : ∀ x ∈ r.reads, A pc x)
    (hi : MInv rows named A left pc c pile mc) (hv : look c r.reads = some vs) (nx : MRuns rows (mrows left rows) (mpos left rows pc + (loads (lf left pc) r).length) vs mc k most raws m) : ∃ m', MRuns rows (mrows left rows) (mpos left rows pc) pile mc k most raws m' ∧ m' ≤ m + r.reads.length := by
  have hat : ∀ (i : Nat) x, (loads (lf left pc) r)[i]? = some x → (mrows left rows)[mpos left rows pc + i]? = some ⟨.load x, pc⟩ := fun i x hx => by
    have hl := (List.getElem?_eq_some_iff.mp hx).1
    have := mrows_at (left := left) h (j := i) (op := .load x) (by
      unfold mcode
      rw [List.getElem?_append_left (by rw [List.length_map]; exact hl), List.getElem?_map, hx]; rfl)
    exact this
  rcases hi with ⟨hl, rfl, ha⟩ | ⟨x0, v, rest, r', hl, hr', hrd, hn, _, _, hc, rfl, ha⟩
  · have e : loads (lf left pc) r = r.reads := by rw [hl]; rfl
    rw [e] at nx hat
    exact mloads hm hv (fun x hx => ha x (.inl (hr x hx))) hat (by rw [List.nil_append]; exact nx)
  · rw [h] at hr'
    cases hr'
    have e : loads (lf left pc) r = rest := by rw [hl]; simp only [loads, if_true, hrd]; rfl
    rw [e] at nx hat
    rw [hrd] at hv
    unfold look at hv
    rw [hc] at hv
    cases hrest : look c rest with
    | none => rw [hrest] at hv; cases hv
    | some vs' =>
      rw [hrest] at hv
      cases hv
      obtain ⟨m', z1, z2⟩ := mloads (pile := [v]) hm hrest (fun x hx => ha x (.inl (hr x (by rw [hrd]; exact List.mem_cons_of_mem _ hx))) (fun e => hn (e ▸ hx))) hat nx
      exact ⟨m', z1, by rw [hrd]; simp only [List.length_cons]; omega⟩

theorem lf_succ (left : Nat → Bool) (i : Nat) : lf left (i + 1) = left i := by simp [lf]

/-- behind a row that lays v -/
theorem mleave (lo : LeftOk rows named K left) (hS : ∀ (i : Nat) r ks, rows[i]? = some r → K[i]? = some ks → (∀ j, Succ rows i r j → ∀ x, A j x → x ∈ ks) ∧ (∀ x ∈ r.reads, A i x) ∧ (∀ x ∈ ks, r.lays ≠ some x → A i x)) (hK : K.length = rows.length)
    {pc : Nat} {r : Row} {c : Cells} {k : Keeps} {most : Int} {pile : List Int} {mc : Cells} {x v : Int} {p : Nat} (hm : 0 ≤ most) (h : rows[pc]? = some r) (hne : r.isEnd = false)
    (hi : MInv rows named A left pc c pile mc) (hx : r.lays = some x) (hp : mpos left rows pc + (loads (lf left pc) r).length + (body r).length = p)
    {evs : List Evt} {n B : Nat} {show_ : Raw → Option Evt}
    (ih : ∀ (pile : List Int) (mc : Cells), MInv rows named A left (pc + 1) (setC c x v) pile mc → ∃ m raws, MRuns rows (mrows left rows) (mpos left rows (pc + 1)) pile mc k most raws m ∧ raws.filterMap show_ = evs ∧ raws.length ≤ n ∧ m ≤ B) :
    ∃ m raws, MRuns rows (mrows left rows) p [v] mc k most raws m ∧ raws.filterMap show_ = evs ∧ raws.length ≤ n ∧ m ≤ B + 1 := by
  have hlen : (mcode (lf left pc) (left pc) r).length = (loads (lf left pc) r).length + ((body r).length + (stores (left pc) r).length) := by simp [mcode]
  obtain ⟨ks, hks⟩ := sound_at hK h
  obtain ⟨s1, s2, s3⟩ := hS pc r ks h hks
  -- cells agree behind
  have ag : ∀ y, (A (pc + 1) y ∨ y ∈ named) → y ≠ x → mc y = c y := fun y hy hyx => by
    have hy' : A pc y ∨ y ∈ named := hy.imp (fun z => s3 y (s1 (pc + 1) (.inl ⟨rfl, hne⟩) y z) (by rw [hx]; exact fun e => hyx (Option.some.inj e).symm)) id
    rcases hi with ⟨_, _, ha⟩ | ⟨x0, v0, rest, r', _, hr', _, _, hnn, hA, _, _, ha⟩
    · exact ha y hy'
    · rw [h] at hr'; cases hr'
      refine ha y hy' fun e => ?_
      subst e
      rcases hy with z | z
      · have := hA hne z; rw [hx] at this; exact hyx (Option.some.inj this).symm
      · exact hnn z
  cases hl : left pc with
  | true =>
    have e : mpos left rows (pc + 1) = p := by
      rw [mpos_succ h, hlen, ← hp, hl]
      simp [stores, hx]; omega
    rw [← e]
    suffices hh : MInv rows named A left (pc + 1) (setC c x v) [v] mc by
      obtain ⟨m, raws, z1, z2, z3, z4⟩ := ih [v] mc hh
      exact ⟨m, raws, z1, z2, z3, by omega⟩
    refine .inr ?_
    obtain ⟨r1, r2, x1, rest, ks2, a1, a2, a3, a4, a5, a6, a7, a8⟩ := lo.ok pc hl
    rw [h] at a1; cases a1
    rw [hx] at a3; cases a3
    refine ⟨x, v, rest, r2, by rw [lf_succ]; exact hl, a2, a5, a6, a4, fun hz1 hz => ?_, setC_same, rfl, fun y hy hyx => by rw [setC_ne hyx]; exact ag y hy hyx⟩
    obtain ⟨t1, t2, t3⟩ := hS (pc + 1) r2 ks2 a2 a7
    rcases a8 with a8 | a8
    · exact absurd (t1 (pc + 2) (.inl ⟨rfl, hz1⟩) x hz) a8
    · exact a8
  | false =>
    have hst : stores (left pc) r = [.store x] := by simp [stores, hx, hl]
    have e : mpos left rows (pc + 1) = p + 1 := by
      rw [mpos_succ h, hlen, ← hp, hst]
      simp; omega
    have hat := mrows_at (left := left) h (j := (loads (lf left pc) r).length + (body r).length) (op := .store x) (by
      unfold mcode
      rw [List.getElem?_append_right (by rw [List.length_map]; omega), List.length_map, Nat.add_sub_cancel_left, List.getElem?_append_right (Nat.le_refl _), Nat.sub_self, hst]; rfl)
    obtain ⟨m, raws, g1, g2, g3, g4⟩ := ih [] (setC mc x v) (.inl ⟨by rw [lf_succ]; exact hl, rfl, fun y hy => by
      by_cases hyx : y = x
      · subst hyx; rw [setC_same, setC_same]
      · rw [setC_ne hyx, setC_ne hyx]; exact ag y hy hyx⟩)
    refine ⟨m + 1, raws, .store (p := []) hm (j := pc) (x := x) ?_ rfl (by rw [← e]; exact g1), g2, g3, by omega⟩
    rw [← hp, Nat.add_assoc]; exact hat

/-- behind a row that lays nothing and reads nothing of what is kept -/
theorem mnext (hS : ∀ (i : Nat) r ks, rows[i]? = some r → K[i]? = some ks → (∀ j, Succ rows i r j → ∀ x, A j x → x ∈ ks) ∧ (∀ x ∈ r.reads, A i x) ∧ (∀ x ∈ ks, r.lays ≠ some x → A i x)) (hK : K.length = rows.length)
    (lo : LeftOk rows named K left) {pc j : Nat} {r : Row} {c : Cells} {pile : List Int} {mc : Cells} (h : rows[pc]? = some r) (hi : MInv rows named A left pc c pile mc) (hx : r.lays = none) (hj : Succ rows pc r j) : MInv rows named A left j c [] mc := by
  obtain ⟨ks, hks⟩ := sound_at hK h
  obtain ⟨s1, s2, s3⟩ := hS pc r ks h hks
  have nl : lf left j = false := by
    cases hl : lf left j with
    | false => rfl
    | true =>
      have hj0 : 0 < j ∧ left (j - 1) = true := by simpa [lf] using hl
      obtain ⟨r1, r2, x1, rest, ks2, a1, a2, a3, a4, a5, a6, a7, a8⟩ := lo.ok _ hj0.2
      rcases hj with ⟨e, _⟩ | ⟨t, q, ht, e⟩
      · subst e
        rw [Nat.add_sub_cancel, h] at a1
        cases a1
        rw [hx] at a3; cases a3
      · rw [show j - 1 + 1 = j by omega, e] at a2
        cases a2
        simp [Row.reads] at a5
  refine .inl ⟨nl, rfl, fun y hy => ?_⟩
  have hy' : A pc y ∨ y ∈ named := hy.imp (fun z => s3 y (s1 j hj y z) (by rw [hx]; exact fun e => by cases e)) id
  rcases hi with ⟨_, _, ha⟩ | ⟨x0, v0, rest, r', hl, hr', hrd, _, hnn, hA, _, _, ha⟩
  · exact ha y hy'
  · rw [h] at hr'; cases hr'
    refine ha y hy' fun e => ?_
    subst e
    rcases hy with z | z
    · -- x0 is wanted behind: then r lays it
      have hl0 : 0 < pc ∧ left (pc - 1) = true := by simpa [lf] using hl
      obtain ⟨r1, r2, x1, rest2, ks2, a1, a2, a3, a4, a5, a6, a7, a8⟩ := lo.ok _ hl0.2
      rw [show pc - 1 + 1 = pc by omega] at a2 a7
      rw [h] at a2; cases a2
      rw [hks] at a7; cases a7
      rw [hrd] at a5; cases a5
      rcases a8 with a8 | a8
      · exact a8 (s1 j hj _ z)
      · rw [hx] at a8; cases a8
    · exact hnn z
end

/-! ### the machine does what the middle rows do -/
theorem look_one {c : Cells} {x v : Int} (h : c x = some v) : look c [x] = some [v] := by unfold look; rw [h]; rfl
theorem look_two {c : Cells} {x y a b : Int} (h : c x = some a) (h2 : c y = some b) : look c [x, y] = some [a, b] := by unfold look; rw [h, look_one h2]
theorem look_len {c : Cells} : ∀ {xs vs : List Int}, look c xs = some vs → vs.length = xs.length
  | [], vs, h => by cases h; rfl
  | x :: xs, vs, h => by
    unfold look at h
    cases hx : c x with
    | none => rw [hx] at h; cases h
    | some v =>
      cases hxs : look c xs with
      | none => rw [hx, hxs] at h; cases h
      | some vs' =>
        rw [hx, hxs] at h
        cases h
        simp [look_len hxs]

theorem body_at {left : Nat → Bool} {rows : List Row} {pc : Nat} {r : Row} (h : rows[pc]? = some r) {op : MOp} (hb : body r = [op]) :
    (mrows left rows)[mpos left rows pc + (loads (lf left pc) r).length]? = some (fix left rows ⟨op, pc⟩) :=
  mrows_at h (by
    unfold mcode
    rw [List.getElem?_append_right (by rw [List.length_map]; exact Nat.le_refl _), List.length_map, Nat.sub_self, hb]; rfl)
theorem mpos_next {left : Nat → Bool} {rows : List Row} {pc : Nat} {r : Row} (h : rows[pc]? = some r) (hx : r.lays = none) : mpos left rows (pc + 1) = mpos left rows pc + (loads (lf left pc) r).length + (body r).length := by
  rw [mpos_succ h]
  simp [mcode, stores, hx]; omega

theorem spends_lays {r : Row} {x : Int} (h : r.lays = some x) : r.spends = 0 := by
  cases r <;> first | rfl | cases h

theorem msim {cs named : List Int} {rows : List Row} {K : List (List Int)} {A : Nat → Int → Prop} {left : Nat → Bool} (w : WF rows) (hcs : ∀ x ∈ cs, x ∈ named) (lo : LeftOk rows named K left) (hK : K.length = rows.length)
    (hS : ∀ (i : Nat) r ks, rows[i]? = some r → K[i]? = some ks → (∀ j, Succ rows i r j → ∀ x, A j x → x ∈ ks) ∧ (∀ x ∈ r.reads, A i x) ∧ (∀ x ∈ ks, r.lays ≠ some x → A i x))
    {pc : Nat} {c : Cells} {k : Keeps} {most : Int} {evs : List Evt} {n : Nat} (hrun : Runs cs rows pc c k most evs n) :
    ∀ (pile : List Int) (mc : Cells), MInv rows named A left pc c pile mc → ∃ m raws, MRuns rows (mrows left rows) (mpos left rows pc) pile mc k most raws m ∧ raws.filterMap (showR cs rows) = evs ∧ raws.length ≤ n ∧ m ≤ 6 * n := by
  have rl : ∀ {i : Nat} {r : Row}, rows[i]? = some r → r.reads.length ≤ 3 := fun {i r} h => by
    have hb := w.bnd r (List.mem_of_getElem? h)
    cases r with
    | call x f n cs p => exact hb.1.2
    | give x p => cases x <;> simp [Row.reads]
    | _ => simp [Row.reads]
  have rd : ∀ {i : Nat} {r : Row}, rows[i]? = some r → ∀ x ∈ r.reads, A i x := fun {i r} h => by
    obtain ⟨ks, hks⟩ := sound_at hK h
    exact (hS i r ks h hks).2.1
  induction hrun with
  | out hm => exact fun pile mc _ => ⟨0, [], .out hm, rfl, Nat.le_refl _, Nat.zero_le _⟩
  | @stop pc c k most r ev hm h he =>
    intro pile mc hi
    have hp := placeAt_eq h
    cases r <;> simp only [exec] at he
    case begin => cases he
    case put => cases he
    case copy x d p => cases hd : c d <;> rw [hd] at he <;> cases he
    case two o x d e p =>
      cases hd : c d <;> rw [hd] at he
      · cases he
      rename_i a
      cases hd2 : c e <;> rw [hd2] at he
      · cases he
      rename_i b
      simp only at he
      cases ho : o.ap a b with
      | ok v => rw [ho] at he; cases he
      | error w' =>
        rw [ho] at he; cases he
        obtain ⟨m, hm', hb'⟩ := menter hm h (rd h) hi (look_two hd hd2) (.twoF (p := []) hm (body_at h rfl) rfl ho)
        exact ⟨m, _, hm', by simp [showR, hp, Row.place], Nat.le_refl _, by have := rl h; omega⟩
    case fetch => cases he
    case lay n x p => cases hd : c x <;> rw [hd] at he <;> cases he
    case label => cases he
    case go => cases he
    case «unless» x t p =>
      cases hd : c x <;> rw [hd] at he
      · cases he
      simp only [Option.map_some] at he
      split at he <;> cases he
    case call x f n cs' p => cases hd : look c cs' <;> rw [hd] at he <;> cases he
    case say kd x p => cases hd : c x <;> rw [hd] at he <;> cases he
    case give x p =>
      cases x with
      | none =>
        cases he
        obtain ⟨m, hm', hb'⟩ := menter hm h (rd h) hi rfl (.give0 hm (body_at h rfl))
        exact ⟨m, _, hm', by simp [showR, hp, Row.place], Nat.le_refl _, by have := rl h; omega⟩
      | some x =>
        cases hd : c x <;> simp only [exec, hd] at he <;> cases he
        obtain ⟨m, hm', hb'⟩ := menter hm h (rd h) hi (look_one hd) (.give1 (p := []) hm (body_at h rfl) rfl)
        exact ⟨m, _, hm', by simp [showR, hp, Row.place], Nat.le_refl _, by have := rl h; omega⟩
    case nothing p =>
      cases he
      obtain ⟨m, hm', hb'⟩ := menter hm h (rd h) hi rfl (.nothing hm (body_at h rfl))
      exact ⟨m, _, hm', by simp [showR, hp, Row.place], Nat.le_refl _, by have := rl h; omega⟩
  | @fall pc c k most r ev c1 k1 evs n hm h he hrest ih =>
    intro pile mc hi
    have hp := placeAt_eq h
    have hne := end_falls he
    have nl : ∀ {x v : Int}, r.lays = some x → c1 = setC c x v → ∃ m raws, MRuns rows (mrows left rows) (mpos left rows pc + (loads (lf left pc) r).length + (body r).length) [v] mc k1 most raws m ∧ raws.filterMap (showR cs rows) = evs ∧ raws.length ≤ n ∧ m ≤ 6 * n + 1 :=
      fun {x v} hx hc => mleave lo hS hK hm h hne hi hx rfl (by rw [← hc]; rw [spends_lays hx, Int.sub_zero] at ih; exact ih)
    have nn : r.lays = none → c1 = c → ∃ m raws, MRuns rows (mrows left rows) (mpos left rows pc + (loads (lf left pc) r).length + (body r).length) [] mc k1 (most - r.spends) raws m ∧ raws.filterMap (showR cs rows) = evs ∧ raws.length ≤ n ∧ m ≤ 6 * n :=
      fun hx hc => by rw [← mpos_next h hx]; exact ih [] mc (by rw [hc]; exact mnext hS hK lo h hi hx (.inl ⟨rfl, hne⟩))
    have nn0 : r.lays = none → c1 = c → r.spends = 0 → ∃ m raws, MRuns rows (mrows left rows) (mpos left rows pc + (loads (lf left pc) r).length + (body r).length) [] mc k1 most raws m ∧ raws.filterMap (showR cs rows) = evs ∧ raws.length ≤ n ∧ m ≤ 6 * n :=
      fun hx hc hz => by rw [hz, Int.sub_zero] at nn; exact nn hx hc
    cases r <;> simp only [exec] at he
    case begin p =>
      cases he
      obtain ⟨m, raws, g1, g2, g3, g4⟩ := nn rfl rfl
      have hb := body_at (left := left) h (rfl : body (.begin p) = [.row])
      obtain ⟨m', hm', hb'⟩ := menter hm h (rd h) hi rfl (.row hm hb g1)
      refine ⟨m', _, hm', ?_, Nat.succ_le_succ g3, by have := rl h; omega⟩
      have hsh : shown cs mc = shown cs c := shown_agree fun x hx => by
        rcases hi with ⟨_, _, ha⟩ | ⟨x0, v0, rest, r', hl, hr', hrd, _⟩
        · exact ha x (.inr (hcs x hx))
        · rw [h] at hr'; cases hr'; simp [Row.reads] at hrd
      rw [List.filterMap_cons]
      simp only [showR, hp, Row.place, hsh, g2, List.cons_append, List.nil_append]
    case put x v p =>
      cases he
      obtain ⟨m, raws, g1, g2, g3, g4⟩ := nl rfl rfl
      obtain ⟨m', hm', hb'⟩ := menter hm h (rd h) hi rfl (.push hm (body_at h rfl) g1)
      exact ⟨m', _, hm', g2, Nat.le_succ_of_le g3, by have := rl h; omega⟩
    case copy x d p =>
      cases hd : c d <;> rw [hd] at he <;> cases he
      obtain ⟨m, raws, g1, g2, g3, g4⟩ := nl rfl rfl
      obtain ⟨m', hm', hb'⟩ := menter hm h (rd h) hi (look_one hd) g1
      exact ⟨m', _, hm', g2, Nat.le_succ_of_le g3, by have := rl h; omega⟩
    case two o x d e p =>
      cases hd : c d <;> rw [hd] at he
      · cases he
      rename_i a
      cases hd2 : c e <;> rw [hd2] at he
      · cases he
      rename_i b
      simp only at he
      cases ho : o.ap a b with
      | error w' => rw [ho] at he; cases he
      | ok v =>
        rw [ho] at he; cases he
        obtain ⟨m, raws, g1, g2, g3, g4⟩ := nl rfl rfl
        obtain ⟨m', hm', hb'⟩ := menter hm h (rd h) hi (look_two hd hd2) (.two (p := []) hm (body_at h rfl) rfl ho g1)
        exact ⟨m', _, hm', g2, Nat.le_succ_of_le g3, by have := rl h; omega⟩
    case fetch x f nm p =>
      cases he
      obtain ⟨m, raws, g1, g2, g3, g4⟩ := nl rfl rfl
      obtain ⟨m', hm', hb'⟩ := menter hm h (rd h) hi rfl (.fetch hm (body_at h rfl) g1)
      exact ⟨m', _, hm', by rw [List.filterMap_cons]; simp only [showR]; exact g2, Nat.succ_le_succ g3, by have := rl h; omega⟩
    case lay nm x p =>
      cases hd : c x <;> rw [hd] at he <;> cases he
      obtain ⟨m, raws, g1, g2, g3, g4⟩ := nn0 rfl rfl rfl
      obtain ⟨m', hm', hb'⟩ := menter hm h (rd h) hi (look_one hd) (.lay (p := []) hm (body_at h rfl) rfl g1)
      exact ⟨m', _, hm', by rw [List.filterMap_cons]; simp only [showR, hp, Row.place, g2, List.cons_append, List.nil_append], Nat.succ_le_succ g3, by have := rl h; omega⟩
    case label t p =>
      cases he
      obtain ⟨m, raws, g1, g2, g3, g4⟩ := nn0 rfl rfl rfl
      obtain ⟨m', hm', hb'⟩ := menter hm h (rd h) hi rfl g1
      exact ⟨m', _, hm', g2, Nat.le_succ_of_le g3, by have := rl h; omega⟩
    case go => cases he
    case «unless» x t p =>
      cases hd : c x <;> rw [hd] at he
      · cases he
      simp only [Option.map_some] at he
      split at he <;> cases he
      rename_i hz
      obtain ⟨m, raws, g1, g2, g3, g4⟩ := nn0 rfl rfl rfl
      obtain ⟨m', hm', hb'⟩ := menter hm h (rd h) hi (look_one hd) (.unless1 (p := []) hm (body_at h rfl) rfl hz g1)
      exact ⟨m', _, hm', g2, Nat.le_succ_of_le g3, by have := rl h; omega⟩
    case call x f nm cs' p =>
      cases hd : look c cs' <;> rw [hd] at he <;> cases he
      rename_i vs
      have fin : ∀ {raws : List Raw} {m : Nat}, MRuns rows (mrows left rows) (mpos left rows pc + (loads (lf left pc) (.call x f nm cs' p)).length + (body (.call x f nm cs' p)).length) (backOf (.call x f nm cs' p) f nm vs) mc k most raws m →
          raws.filterMap (showR cs rows) = evs → raws.length ≤ n → m ≤ 6 * n + 1 → ∃ m raws, MRuns rows (mrows left rows) (mpos left rows pc) pile mc k most raws m ∧ raws.filterMap (showR cs rows) = [.call p f nm vs] ++ evs ∧ raws.length ≤ n + 1 ∧ m ≤ 6 * (n + 1) := fun {raws m} g1 g2 g3 g4 => by
        obtain ⟨m', hm', hb'⟩ := menter hm h (rd h) hi hd (.call (p := []) (vs := vs) hm (body_at h rfl) rfl (look_len hd) h g1)
        exact ⟨m', _, hm', by rw [List.filterMap_cons]; simp only [showR, hp, Row.place, g2, List.cons_append, List.nil_append], Nat.succ_le_succ g3, by have := rl h; omega⟩
      cases x with
      | none =>
        obtain ⟨m, raws, g1, g2, g3, g4⟩ := nn0 rfl rfl rfl
        exact fin g1 g2 g3 (by omega)
      | some x =>
        obtain ⟨m, raws, g1, g2, g3, g4⟩ := nl rfl rfl
        exact fin g1 g2 g3 g4
    case say kd x p =>
      cases hd : c x <;> rw [hd] at he <;> cases he
      obtain ⟨m, raws, g1, g2, g3, g4⟩ := nn0 rfl rfl rfl
      obtain ⟨m', hm', hb'⟩ := menter hm h (rd h) hi (look_one hd) (.say (p := []) hm (body_at h rfl) rfl g1)
      exact ⟨m', _, hm', by rw [List.filterMap_cons]; simp only [showR, hp, Row.place, g2, List.cons_append, List.nil_append], Nat.succ_le_succ g3, by have := rl h; omega⟩
    case give x p =>
      cases x with
      | none => cases he
      | some x => cases hd : c x <;> simp only [exec, hd] at he <;> cases he
    case nothing => cases he
  | @jump pc c k most r t i q evs n hm h he hq hrest ih =>
    intro pile mc hi
    have ht := target_of_jump he
    have hly : r.lays = none := by cases r <;> simp [Row.target] at ht <;> rfl
    obtain ⟨m, raws, g1, g2, g3, g4⟩ := ih [] mc (mnext hS hK lo h hi hly (.inr ⟨t, q, ht, hq⟩))
    have hix := idx_eq w hq
    cases r <;> simp only [exec] at he
    case begin => cases he
    case put => cases he
    case copy x d p => cases hd : c d <;> rw [hd] at he <;> cases he
    case two o x d e p =>
      cases hd : c d <;> rw [hd] at he
      · cases he
      cases hd2 : c e <;> rw [hd2] at he
      · cases he
      simp only at he
      split at he <;> cases he
    case fetch => cases he
    case lay n x p => cases hd : c x <;> rw [hd] at he <;> cases he
    case label => cases he
    case go t' p =>
      cases he
      have hb := body_at (left := left) h (rfl : body (.go t p) = [.jump t])
      simp only [fix, hix] at hb
      obtain ⟨m', hm', hb'⟩ := menter hm h (rd h) hi rfl (.jump hm hb g1)
      exact ⟨m', _, hm', g2, Nat.le_succ_of_le g3, by have := rl h; omega⟩
    case «unless» x t' p =>
      cases hd : c x <;> rw [hd] at he
      · cases he
      simp only [Option.map_some] at he
      split at he <;> cases he
      rename_i v hz
      subst hz
      have hb := body_at (left := left) h (rfl : body (.unless x t p) = [.unless t])
      simp only [fix, hix] at hb
      obtain ⟨m', hm', hb'⟩ := menter hm h (rd h) hi (look_one hd) (.unless0 (p := []) hm hb rfl g1)
      exact ⟨m', _, hm', g2, Nat.le_succ_of_le g3, by have := rl h; omega⟩
    case call x f n cs' p => cases hd : look c cs' <;> rw [hd] at he <;> cases he
    case say kd x p => cases hd : c x <;> rw [hd] at he <;> cases he
    case give x p =>
      cases x with
      | none => cases he
      | some x => cases hd : c x <;> simp only [exec, hd] at he <;> cases he
    case nothing => cases he

/-- from the beginning -/
theorem machine_runs {cs named : List Int} {rows : List Row} {K : List (List Int)} {left : Nat → Bool} (w : WF rows) (hcs : ∀ x ∈ cs, x ∈ named) (hs : Sound rows [] K) (lo : LeftOk rows named K left)
    {c : Cells} {k : Keeps} {most : Int} {evs : List Evt} {n : Nat} (h : Runs cs rows 0 c k most evs n) :
    ∃ m raws, MRuns rows (mrows left rows) 0 [] c k most raws m ∧ raws.filterMap (showR cs rows) = evs ∧ raws.length ≤ n ∧ m ≤ 6 * n := by
  obtain ⟨hK, A, _, hS⟩ := hs
  exact msim w hcs lo hK hS h [] c (.inl ⟨rfl, rfl, fun _ _ => rfl⟩)
end K51

/-! Mathematics 4: rows as the law makes them: they are well formed, and their run ends. -/
namespace K51

def Row.straight : Row → Bool
  | .label _ _ => false
  | .go _ _ => false
  | .unless _ _ _ => false
  | .give _ _ => false
  | .nothing _ => false
  | _ => true

inductive Frag : Int → Int → List Int → List Row → List Int → Prop
  | nil {lo L} : Frag lo lo L [] L
  | one {lo L L' r} : r.straight = true → (∀ x ∈ r.reads, x ∈ L) → r.Bnd → (∀ x ∈ L', x ∈ L ∨ r.lays = some x) → Frag lo lo L [r] L'
  | app {lo mid hi L L1 L2 a b} : Frag lo mid L a L1 → Frag mid hi L1 b L2 → Frag lo hi L (a ++ b) L2
  | sub {lo hi L L1 L2 a} : Frag lo hi L a L1 → (∀ x ∈ L2, x ∈ L1) → Frag lo hi L a L2
  | choice {lo m hi L LA LB A B x p1 p2 p3 p4} : x ∈ L → Frag (lo + 2) m L A LA → Frag m hi L B LB → Frag lo hi L (.unless x lo p1 :: (A ++ (.go (lo + 1) p2 :: .label lo p3 :: (B ++ [.label (lo + 1) p4])))) L
  | round {lo hi L LA A x y p1 p2 p3 p4 p5 p6} : x ∈ L → y ∈ L → Frag (lo + 2) hi L A LA → Frag lo hi L (.label lo p1 :: .begin p2 :: .unless x (lo + 1) p3 :: (A ++ [.two .take x x y p4, .go lo p5, .label (lo + 1) p6])) L

def labels (code : List Row) : List Int := code.filterMap Row.labelOf
theorem labels_append (a b : List Row) : labels (a ++ b) = labels a ++ labels b := List.filterMap_append ..
theorem goals_append (a b : List Row) : goals (a ++ b) = goals a ++ goals b := List.filterMap_append ..
theorem labels_cons (r : Row) (a : List Row) : labels (r :: a) = (match r.labelOf with | some k => [k] | none => []) ++ labels a := by
  unfold labels; rw [List.filterMap_cons]; cases r.labelOf <;> rfl
theorem goals_cons (r : Row) (a : List Row) : goals (r :: a) = (match r.target with | some k => [k] | none => []) ++ goals a := by
  unfold goals; rw [List.filterMap_cons]; cases r.target <;> rfl

theorem straight_no {r : Row} (h : r.straight = true) : r.labelOf = none ∧ r.target = none ∧ r.isEnd = false := by
  cases r <;> first | exact ⟨rfl, rfl, rfl⟩ | cases h

theorem Frag.labs {lo hi : Int} {L L' : List Int} {code : List Row} (f : Frag lo hi L code L') : lo ≤ hi ∧ (labels code).Nodup ∧ (∀ k ∈ labels code, lo ≤ k ∧ k < hi) ∧ (∀ t ∈ goals code, t ∈ labels code) ∧ ∀ r ∈ code, r.Bnd := by
  induction f with
  | nil => exact ⟨Int.le_refl _, List.nodup_nil, fun _ h => (by cases h), fun _ h => (by cases h), fun _ h => (by cases h)⟩
  | @one lo L L' r hs _ hb _ =>
    obtain ⟨h1, h2, _⟩ := straight_no hs
    have e1 : labels [r] = [] := by rw [labels_cons, h1]; rfl
    have e2 : goals [r] = [] := by rw [goals_cons, h2]; rfl
    rw [e1, e2]
    exact ⟨Int.le_refl _, List.nodup_nil, fun _ h => (by cases h), fun _ h => (by cases h), fun r h => by rw [List.mem_singleton.mp h]; exact hb⟩
  | app _ _ ia ib =>
    obtain ⟨a1, a2, a3, a4, a5⟩ := ia
    obtain ⟨b1, b2, b3, b4, b5⟩ := ib
    rw [labels_append, goals_append]
    refine ⟨by omega, List.nodup_append.mpr ⟨a2, b2, fun x hx y hy e => ?_⟩, fun k hk => ?_, fun t ht => ?_, fun r hr => ?_⟩
    · have := a3 x hx; have := b3 y hy; omega
    · rcases List.mem_append.mp hk with h | h
      · have := a3 k h; omega
      · have := b3 k h; omega
    · rcases List.mem_append.mp ht with h | h
      · exact List.mem_append_left _ (a4 t h)
      · exact List.mem_append_right _ (b4 t h)
    · rcases List.mem_append.mp hr with h | h
      · exact a5 r h
      · exact b5 r h
  | sub _ _ ia => exact ia
  | @choice lo m hi L LA LB A B x p1 p2 p3 p4 _ _ _ ia ib =>
    obtain ⟨a1, a2, a3, a4, a5⟩ := ia
    obtain ⟨b1, b2, b3, b4, b5⟩ := ib
    have eL : labels (.unless x lo p1 :: (A ++ (.go (lo + 1) p2 :: .label lo p3 :: (B ++ [.label (lo + 1) p4])))) = labels A ++ (lo :: (labels B ++ [lo + 1])) := by
      simp [labels_cons, labels_append, Row.labelOf, show labels ([] : List Row) = [] from rfl]
    have eG : goals (.unless x lo p1 :: (A ++ (.go (lo + 1) p2 :: .label lo p3 :: (B ++ [.label (lo + 1) p4])))) = lo :: (goals A ++ ((lo + 1) :: goals B)) := by
      simp [goals_cons, goals_append, Row.target, show goals ([] : List Row) = [] from rfl]
    rw [eL, eG]
    refine ⟨by omega, ?_, fun k hk => ?_, fun t ht => ?_, fun r hr => ?_⟩
    · refine List.nodup_append.mpr ⟨a2, List.nodup_cons.mpr ⟨fun h => ?_, List.nodup_append.mpr ⟨b2, by simp, fun x hx y hy e => ?_⟩⟩, fun x hx y hy e => ?_⟩
      · rcases List.mem_append.mp h with h | h
        · have := b3 _ h; omega
        · have := List.mem_singleton.mp h; omega
      · have := b3 x hx; have := List.mem_singleton.mp hy; omega
      · have := a3 x hx
        rcases List.mem_cons.mp hy with h | h
        · omega
        · rcases List.mem_append.mp h with h | h
          · have := b3 y h; omega
          · have := List.mem_singleton.mp h; omega
    · rcases List.mem_append.mp hk with h | h
      · have := a3 k h; omega
      · rcases List.mem_cons.mp h with h | h
        · omega
        · rcases List.mem_append.mp h with h | h
          · have := b3 k h; omega
          · have := List.mem_singleton.mp h; omega
    · rcases List.mem_cons.mp ht with h | h
      · simp [h]
      · rcases List.mem_append.mp h with h | h
        · exact List.mem_append_left _ (a4 t h)
        · rcases List.mem_cons.mp h with h | h
          · simp [h]
          · have := b4 t h; simp [this]
    · rcases List.mem_cons.mp hr with h | h
      · rw [h]; trivial
      · rcases List.mem_append.mp h with h | h
        · exact a5 r h
        · rcases List.mem_cons.mp h with h | h
          · rw [h]; trivial
          · rcases List.mem_cons.mp h with h | h
            · rw [h]; trivial
            · rcases List.mem_append.mp h with h | h
              · exact b5 r h
              · rw [List.mem_singleton.mp h]; trivial
  | @round lo hi L LA A x y p1 p2 p3 p4 p5 p6 _ _ _ ia =>
    obtain ⟨a1, a2, a3, a4, a5⟩ := ia
    have eL : labels (.label lo p1 :: .begin p2 :: .unless x (lo + 1) p3 :: (A ++ [.two .take x x y p4, .go lo p5, .label (lo + 1) p6])) = lo :: (labels A ++ [lo + 1]) := by
      simp [labels_cons, labels_append, Row.labelOf, show labels ([] : List Row) = [] from rfl]
    have eG : goals (.label lo p1 :: .begin p2 :: .unless x (lo + 1) p3 :: (A ++ [.two .take x x y p4, .go lo p5, .label (lo + 1) p6])) = (lo + 1) :: (goals A ++ [lo]) := by
      simp [goals_cons, goals_append, Row.target, show goals ([] : List Row) = [] from rfl]
    rw [eL, eG]
    refine ⟨by omega, ?_, fun k hk => ?_, fun t ht => ?_, fun r hr => ?_⟩
    · refine List.nodup_cons.mpr ⟨fun h => ?_, List.nodup_append.mpr ⟨a2, by simp, fun x hx y hy e => ?_⟩⟩
      · rcases List.mem_append.mp h with h | h
        · have := a3 _ h; omega
        · have := List.mem_singleton.mp h; omega
      · have := a3 x hx; have := List.mem_singleton.mp hy; omega
    · rcases List.mem_cons.mp hk with h | h
      · omega
      · rcases List.mem_append.mp h with h | h
        · have := a3 k h; omega
        · have := List.mem_singleton.mp h; omega
    · rcases List.mem_cons.mp ht with h | h
      · simp [h]
      · rcases List.mem_append.mp h with h | h
        · have := a4 t h; simp [this]
        · have := List.mem_singleton.mp h; simp [this]
    · rcases List.mem_cons.mp hr with h | h
      · rw [h]; trivial
      · rcases List.mem_cons.mp h with h | h
        · rw [h]; trivial
        · rcases List.mem_cons.mp h with h | h
          · rw [h]; trivial
          · rcases List.mem_append.mp h with h | h
            · exact a5 r h
            · rcases List.mem_cons.mp h with h | h
              · rw [h]; trivial
              · rcases List.mem_cons.mp h with h | h
                · rw [h]; trivial
                · rw [List.mem_singleton.mp h]; trivial

theorem label_ix : ∀ {code : List Row}, (labels code).Nodup → ∀ {i j : Nat} {k : Int} {p q : Pl}, code[i]? = some (.label k p) → code[j]? = some (.label k q) → i = j
  | [], _, i, _, _, _, _, h, _ => by simp at h
  | r :: code, hn, i, j, k, p, q, h1, h2 => by
    rw [labels_cons] at hn
    have hn2 := (List.nodup_append.mp hn).2.1
    have mem : ∀ {i : Nat} {p : Pl}, code[i]? = some (.label k p) → k ∈ labels code := fun {i p} h => List.mem_filterMap.mpr ⟨_, List.mem_iff_getElem?.mpr ⟨i, h⟩, rfl⟩
    match i, j, h1, h2 with
    | 0, 0, _, _ => rfl
    | 0, j + 1, h1, h2 =>
      have e : r = .label k p := by simpa using h1
      subst e
      exact absurd rfl ((List.nodup_append.mp hn).2.2 k (by simp [Row.labelOf]) k (mem (by simpa using h2)))
    | i + 1, 0, h1, h2 =>
      have e : r = .label k q := by simpa using h2
      subst e
      exact absurd rfl ((List.nodup_append.mp hn).2.2 k (by simp [Row.labelOf]) k (mem (by simpa using h1)))
    | i + 1, j + 1, h1, h2 =>
      have h1' : code[i]? = some (.label k p) := by simpa using h1
      have h2' : code[j]? = some (.label k q) := by simpa using h2
      rw [label_ix hn2 h1' h2']

/-- a whole def -/
theorem Frag.wf {lo hi : Int} {L L' : List Int} {code : List Row} (f : Frag lo hi L code L') {last : Row} (he : last.isEnd = true) (ht : last.target = none) : WF (code ++ [last]) := by
  obtain ⟨_, a2, _, a4, a5⟩ := f.labs
  have hl : last.labelOf = none := by cases last <;> first | rfl | cases he
  have eL : labels (code ++ [last]) = labels code := by rw [labels_append, labels_cons, hl]; simp [labels]
  have eG : goals (code ++ [last]) = goals code := by rw [goals_append, goals_cons, ht]; simp [goals]
  refine ⟨fun i j k p q h1 h2 => label_ix (by rw [eL]; exact a2) h1 h2, fun i r t h1 h2 => ?_, ⟨last, by simp, he⟩, fun r hr => ?_⟩
  · have hm : t ∈ goals (code ++ [last]) := List.mem_filterMap.mpr ⟨r, List.mem_iff_getElem?.mpr ⟨i, h1⟩, h2⟩
    rw [eG] at hm
    obtain ⟨r2, m2, e2⟩ := List.mem_filterMap.mp (a4 t hm)
    obtain ⟨q, rfl⟩ := labelOf_eq e2
    obtain ⟨j, hj⟩ := List.mem_iff_getElem?.mp (List.mem_append_left [last] m2)
    exact ⟨j, q, hj⟩
  · rcases List.mem_append.mp hr with h | h
    · exact a5 r h
    · rw [List.mem_singleton.mp h]
      cases last <;> first | trivial | cases he

/-! ### the run ends -/
def Laid (L : List Int) (c : Cells) : Prop := ∀ x ∈ L, ∃ v, c x = some v
def Mono (c c' : Cells) : Prop := ∀ x v, c x = some v → ∃ u, c' x = some u
theorem Mono.refl (c : Cells) : Mono c c := fun _ v h => ⟨v, h⟩
theorem Mono.trans {a b d : Cells} (x : Mono a b) (y : Mono b d) : Mono a d := fun z v h => by
  obtain ⟨u, hu⟩ := x z v h
  exact y z u hu
theorem Mono.set {c : Cells} {x v : Int} : Mono c (setC c x v) := fun y u h => by
  by_cases e : y = x
  · subst e; exact ⟨v, setC_same⟩
  · exact ⟨u, by rw [setC_ne e]; exact h⟩
theorem Laid.mono {L : List Int} {c c' : Cells} (h : Laid L c) (m : Mono c c') : Laid L c' := fun x hx => by
  obtain ⟨v, hv⟩ := h x hx
  exact m x v hv
theorem look_laid {c : Cells} : ∀ {xs L : List Int}, Laid L c → (∀ x ∈ xs, x ∈ L) → ∃ vs, look c xs = some vs
  | [], _, _, _ => ⟨[], rfl⟩
  | x :: xs, L, h, hs => by
    obtain ⟨v, hv⟩ := h x (hs x List.mem_cons_self)
    obtain ⟨vs, hvs⟩ := look_laid (xs := xs) h fun y hy => hs y (List.mem_cons_of_mem _ hy)
    exact ⟨v :: vs, by unfold look; rw [hv, hvs]⟩

/-- what a straight row does where what it reads is laid -/
theorem straight_does (cs : List Int) {r : Row} (hs : r.straight = true) {L : List Int} {c : Cells} (hl : Laid L c) (hr : ∀ x ∈ r.reads, x ∈ L) (k : Keeps) :
    (∃ ev, exec cs r c k = some (.stop ev)) ∨ ∃ ev c2 k2, exec cs r c k = some (.fall ev c2 k2) ∧ Mono c c2 ∧ ∀ x, r.lays = some x → ∃ v, c2 x = some v := by
  cases r with
  | begin p => exact .inr ⟨_, _, _, rfl, .refl _, fun x h => by cases h⟩
  | put x n p => exact .inr ⟨_, _, _, rfl, .set, fun y h => by cases h; exact ⟨_, setC_same⟩⟩
  | copy x d p =>
    obtain ⟨v, hv⟩ := hl d (hr d (by simp [Row.reads]))
    exact .inr ⟨_, _, _, by simp only [exec, hv]; rfl, .set, fun y h => by cases h; exact ⟨_, setC_same⟩⟩
  | two o x d e p =>
    obtain ⟨a, ha⟩ := hl d (hr d (by simp [Row.reads]))
    obtain ⟨b, hb⟩ := hl e (hr e (by simp [Row.reads]))
    cases ho : o.ap a b with
    | ok v => exact .inr ⟨[], setC c x v, k, by simp only [exec, ha, hb, ho], .set, fun y h => by cases h; exact ⟨v, setC_same⟩⟩
    | error w => exact .inl ⟨[.fault p o w], by simp only [exec, ha, hb, ho]⟩
  | fetch x f n p => exact .inr ⟨_, _, _, rfl, .set, fun y h => by cases h; exact ⟨_, setC_same⟩⟩
  | lay n x p =>
    obtain ⟨v, hv⟩ := hl x (hr x (by simp [Row.reads]))
    exact .inr ⟨_, _, _, by simp only [exec, hv]; rfl, .refl _, fun y h => by cases h⟩
  | call x f n cs' p =>
    obtain ⟨vs, hv⟩ := look_laid hl hr
    cases x with
    | none => exact .inr ⟨_, _, _, by simp only [exec, show look c cs' = some vs from hv]; rfl, .refl _, fun y h => by cases h⟩
    | some x => exact .inr ⟨_, _, _, by simp only [exec, show look c cs' = some vs from hv]; rfl, .set, fun y h => by cases h; exact ⟨_, setC_same⟩⟩
  | say kd x p =>
    obtain ⟨v, hv⟩ := hl x (hr x (by simp [Row.reads]))
    exact .inr ⟨_, _, _, by simp only [exec, hv]; rfl, .refl _, fun y h => by cases h⟩
  | _ => cases hs

/-- it can be run from here by so many steps -/
def Can (cs : List Int) (rows : List Row) (pc : Nat) (c : Cells) (k : Keeps) (most : Int) (N : Nat) : Prop := ∃ n evs, n ≤ N ∧ Runs cs rows pc c k most evs n
theorem Can.mono {cs : List Int} {rows : List Row} {pc : Nat} {c : Cells} {k : Keeps} {most : Int} {N M : Nat} (h : Can cs rows pc c k most N) (e : N ≤ M) : Can cs rows pc c k most M :=
  let ⟨n, evs, h1, r⟩ := h
  ⟨n, evs, Nat.le_trans h1 e, r⟩
section
variable {cs : List Int} {rows : List Row}
theorem Can.out {pc : Nat} {c : Cells} {k : Keeps} {most : Int} {N : Nat} (h : most < 0) : Can cs rows pc c k most N := ⟨0, [], Nat.zero_le _, .out h⟩
theorem Can.fall {pc : Nat} {r : Row} {c c2 : Cells} {k k2 : Keeps} {most : Int} {ev : List Evt} {N : Nat} (h : rows[pc]? = some r) (he : exec cs r c k = some (.fall ev c2 k2)) (nx : Can cs rows (pc + 1) c2 k2 (most - r.spends) N) : Can cs rows pc c k most (N + 1) := by
  by_cases hm : most < 0
  · exact .out hm
  · obtain ⟨n, evs, h1, r1⟩ := nx
    exact ⟨n + 1, _, by omega, .fall (by omega) h he r1⟩
theorem Can.stop {pc : Nat} {r : Row} {c : Cells} {k : Keeps} {most : Int} {ev : List Evt} {N : Nat} (h : rows[pc]? = some r) (he : exec cs r c k = some (.stop ev)) : Can cs rows pc c k most (N + 1) := by
  by_cases hm : most < 0
  · exact .out hm
  · exact ⟨1, ev, by omega, .stop (by omega) h he⟩
theorem Can.jump {pc i : Nat} {r : Row} {c : Cells} {k : Keeps} {most t : Int} {q : Pl} {N : Nat} (h : rows[pc]? = some r) (he : exec cs r c k = some (.jump t)) (hq : rows[i]? = some (.label t q)) (nx : Can cs rows i c k most N) : Can cs rows pc c k most (N + 1) := by
  by_cases hm : most < 0
  · exact .out hm
  · obtain ⟨n, evs, h1, r1⟩ := nx
    exact ⟨n + 1, _, by omega, .jump (by omega) h he hq r1⟩
theorem Can.lab {pc : Nat} {c : Cells} {k : Keeps} {most t : Int} {q : Pl} {N : Nat} (h : rows[pc]? = some (.label t q)) (nx : Can cs rows (pc + 1) c k most N) : Can cs rows pc c k most (N + 1) :=
  .fall h rfl (by rw [show (Row.label t q).spends = 0 from rfl, Int.sub_zero]; exact nx)
end

theorem at_mid {α : Type} {a b : List α} {x : α} {n : Nat} (h : n = a.length) : (a ++ x :: b)[n]? = some x := by subst h; simp

theorem frag_runs (cs : List Int) {lo hi : Int} {L L' : List Int} {code : List Row} (f : Frag lo hi L code L') : ∀ (rows a b : List Row) (W : Nat), rows = a ++ (code ++ b) → code.length ≤ W →
    ∀ (most : Int) (c : Cells) (k : Keeps) (C : Nat), Laid L c →
    (∀ (c' : Cells) (k' : Keeps) (m' : Int), m' ≤ most → Laid L' c' → Mono c c' → Can cs rows (a.length + code.length) c' k' m' (C + W * (m' + 1).toNat)) →
    Can cs rows a.length c k most (C + code.length + W * (most + 1).toNat) := by
  induction f with
  | nil =>
    intro rows a b W _ _ most c k C hl nx
    exact nx c k most (Int.le_refl _) hl (.refl _)
  | @one lo L L' r hs hr hb hL =>
    intro rows a b W e hW most c k C hl nx
    have h : rows[a.length]? = some r := by rw [e]; exact at_mid rfl
    rcases straight_does cs hs hl hr k with ⟨ev, he⟩ | ⟨ev, c2, k2, he, hm, hx⟩
    · exact (Can.stop (N := C + W * (most + 1).toNat) h he).mono (by simp; omega)
    · have hsp : 0 ≤ r.spends := by cases r <;> simp [Row.spends]
      have hn := nx c2 k2 (most - r.spends) (by omega) (fun x hx' => by
        rcases hL x hx' with z | z
        · exact (hl.mono hm) x z
        · exact hx x z) hm
      refine (Can.fall h he hn).mono ?_
      have h1 : (most - r.spends + 1).toNat ≤ (most + 1).toNat := by omega
      have := Nat.mul_le_mul_left W h1
      simp; omega
  | @app lo mid hi L L1 L2 A B _ _ ia ib =>
    intro rows a b W e hW most c k C hl nx
    simp only [List.length_append] at hW nx ⊢
    have e1 : rows = a ++ (A ++ (B ++ b)) := by rw [e, List.append_assoc]
    have e2 : rows = (a ++ A) ++ (B ++ b) := by rw [e1, List.append_assoc]
    refine (ia rows a (B ++ b) W e1 (by omega) most c k (C + B.length) hl fun c1 k1 m1 h1 l1 mo1 => ?_).mono (by omega)
    have := ib rows (a ++ A) b W e2 (by omega) m1 c1 k1 C l1 fun c2 k2 m2 h2 l2 mo2 => by
      have := nx c2 k2 m2 (by omega) l2 (mo1.trans mo2)
      rw [List.length_append, show a.length + A.length + B.length = a.length + (A.length + B.length) by omega]
      exact this
    rw [List.length_append] at this
    exact this
  | sub _ hs ia =>
    intro rows a b W e hW most c k C hl nx
    exact ia rows a b W e hW most c k C hl fun c' k' m' h l mo => nx c' k' m' h (fun x hx => l x (hs x hx)) mo
  | @choice lo m hi L LA LB A B x p1 p2 p3 p4 hx _ _ ia ib =>
    intro rows a b W e hW most c k C hl nx
    have hlen : (Row.unless x lo p1 :: (A ++ (.go (lo + 1) p2 :: .label lo p3 :: (B ++ [.label (lo + 1) p4])))).length = A.length + B.length + 4 := by simp; omega
    rw [hlen] at hW nx ⊢
    have e1 : rows = (a ++ [.unless x lo p1]) ++ (A ++ (.go (lo + 1) p2 :: .label lo p3 :: (B ++ (.label (lo + 1) p4 :: b)))) := by rw [e]; simp
    have e2 : rows = (a ++ (.unless x lo p1 :: A)) ++ (.go (lo + 1) p2 :: (.label lo p3 :: (B ++ (.label (lo + 1) p4 :: b)))) := by rw [e]; simp
    have e3 : rows = (a ++ (.unless x lo p1 :: A) ++ [.go (lo + 1) p2]) ++ (.label lo p3 :: (B ++ (.label (lo + 1) p4 :: b))) := by rw [e]; simp
    have e4 : rows = (a ++ (.unless x lo p1 :: A) ++ [.go (lo + 1) p2, .label lo p3]) ++ (B ++ (.label (lo + 1) p4 :: b)) := by rw [e]; simp
    have e5 : rows = (a ++ (.unless x lo p1 :: A) ++ (.go (lo + 1) p2 :: .label lo p3 :: B)) ++ (.label (lo + 1) p4 :: b) := by rw [e]; simp
    have h0 : rows[a.length]? = some (.unless x lo p1) := by rw [e]; exact at_mid rfl
    have h2 : rows[a.length + A.length + 1]? = some (.go (lo + 1) p2) := by rw [e2]; exact at_mid (by simp; omega)
    have h3 : rows[a.length + A.length + 2]? = some (.label lo p3) := by rw [e3]; exact at_mid (by simp; omega)
    have h5 : rows[a.length + A.length + B.length + 3]? = some (.label (lo + 1) p4) := by rw [e5]; exact at_mid (by simp; omega)
    -- at the end's label
    have fin : ∀ (c' : Cells) (k' : Keeps) (m' : Int), m' ≤ most → Mono c c' → Can cs rows (a.length + A.length + B.length + 3) c' k' m' (C + W * (m' + 1).toNat + 1) := fun c' k' m' h mo => by
      have := nx c' k' m' h (hl.mono mo) mo
      refine .lab h5 ?_
      rw [show a.length + (A.length + B.length + 4) = a.length + A.length + B.length + 3 + 1 by omega] at this
      exact this
    obtain ⟨v, hv⟩ := hl x hx
    by_cases hz : v = 0
    · subst hz
      have he : exec cs (.unless x lo p1) c k = some (.jump lo) := by simp only [exec, hv]; rfl
      have hb := ib rows (a ++ (.unless x lo p1 :: A) ++ [.go (lo + 1) p2, .label lo p3]) (.label (lo + 1) p4 :: b) W e4 (by omega) most c k (C + 1) hl fun c' k' m' h l mo => by
        have := fin c' k' m' h mo
        rw [show (a ++ (Row.unless x lo p1 :: A) ++ [Row.go (lo + 1) p2, Row.label lo p3]).length + B.length = a.length + A.length + B.length + 3 by simp; omega]
        exact this.mono (by omega)
      rw [show (a ++ (Row.unless x lo p1 :: A) ++ [Row.go (lo + 1) p2, Row.label lo p3]).length = a.length + A.length + 2 + 1 by simp; omega] at hb
      exact (Can.jump h0 he h3 (.lab h3 hb)).mono (by omega)
    · have he : exec cs (.unless x lo p1) c k = some (.fall [] c k) := by simp only [exec, hv, Option.map_some, if_neg hz]
      have ha := ia rows (a ++ [.unless x lo p1]) (.go (lo + 1) p2 :: .label lo p3 :: (B ++ (.label (lo + 1) p4 :: b))) W e1 (by omega) most c k (C + 2) hl fun c' k' m' h l mo => by
        rw [show (a ++ [Row.unless x lo p1]).length + A.length = a.length + A.length + 1 by simp; omega]
        exact (Can.jump h2 (by rfl) h5 (fin c' k' m' h mo)).mono (by omega)
      rw [show (a ++ [Row.unless x lo p1]).length = a.length + 1 by simp] at ha
      refine (Can.fall h0 he (by rw [show (Row.unless x lo p1).spends = 0 from rfl, Int.sub_zero]; exact ha)).mono (by omega)
  | @round lo hi L LA A x y p1 p2 p3 p4 p5 p6 hx hy _ ia =>
    intro rows a b W e hW most c k C hl nx
    have hlen : (Row.label lo p1 :: .begin p2 :: .unless x (lo + 1) p3 :: (A ++ [.two .take x x y p4, .go lo p5, .label (lo + 1) p6])).length = A.length + 6 := by simp
    rw [hlen] at hW nx ⊢
    have e1 : rows = (a ++ [.label lo p1, .begin p2, .unless x (lo + 1) p3]) ++ (A ++ (.two .take x x y p4 :: .go lo p5 :: .label (lo + 1) p6 :: b)) := by rw [e]; simp
    have h0 : rows[a.length]? = some (.label lo p1) := by rw [e]; exact at_mid rfl
    have h1 : rows[a.length + 1]? = some (.begin p2) := by
      rw [show rows = (a ++ [.label lo p1]) ++ (.begin p2 :: (.unless x (lo + 1) p3 :: (A ++ (.two .take x x y p4 :: .go lo p5 :: .label (lo + 1) p6 :: b)))) by rw [e]; simp]
      exact at_mid (by simp)
    have h2 : rows[a.length + 2]? = some (.unless x (lo + 1) p3) := by
      rw [show rows = (a ++ [.label lo p1, .begin p2]) ++ (.unless x (lo + 1) p3 :: (A ++ (.two .take x x y p4 :: .go lo p5 :: .label (lo + 1) p6 :: b))) by rw [e]; simp]
      exact at_mid (by simp)
    have h3 : rows[a.length + A.length + 3]? = some (.two .take x x y p4) := by
      rw [show rows = (a ++ (.label lo p1 :: .begin p2 :: .unless x (lo + 1) p3 :: A)) ++ (.two .take x x y p4 :: (.go lo p5 :: .label (lo + 1) p6 :: b)) by rw [e]; simp]
      exact at_mid (by simp; omega)
    have h4 : rows[a.length + A.length + 4]? = some (.go lo p5) := by
      rw [show rows = (a ++ (.label lo p1 :: .begin p2 :: .unless x (lo + 1) p3 :: A) ++ [.two .take x x y p4]) ++ (.go lo p5 :: (.label (lo + 1) p6 :: b)) by rw [e]; simp]
      exact at_mid (by simp; omega)
    have h5 : rows[a.length + A.length + 5]? = some (.label (lo + 1) p6) := by
      rw [show rows = (a ++ (.label lo p1 :: .begin p2 :: .unless x (lo + 1) p3 :: A) ++ [.two .take x x y p4, .go lo p5]) ++ (.label (lo + 1) p6 :: b) by rw [e]; simp]
      exact at_mid (by simp; omega)
    -- at the head, by how many rows of text may begin
    have head : ∀ (d : Nat) (m : Int) (c' : Cells) (k' : Keeps), (m + 1).toNat ≤ d → m ≤ most → Mono c c' → Can cs rows a.length c' k' m (C + (A.length + 6) + W * (m + 1).toNat) := by
      intro d
      induction d with
      | zero => intro m c' k' hd _ _; exact .out (by omega)
      | succ d ihd =>
        intro m c' k' hd hm mo
        by_cases hneg : m < 0
        · exact .out hneg
        have hl' := hl.mono mo
        obtain ⟨v, hv⟩ := hl' x hx
        have hW1 : W * (m + 1).toNat = W * (m - 1 + 1).toNat + W := by
          rw [show (m + 1).toNat = (m - 1 + 1).toNat + 1 by omega, Nat.mul_succ]
        have body : Can cs rows (a.length + 2) c' k' (m - 1) (C + (A.length + 6) + 2 + A.length + W * (m - 1 + 1).toNat + 1) := by
          by_cases hz : v = 0
          · subst hz
            have he : exec cs (.unless x (lo + 1) p3) c' k' = some (.jump (lo + 1)) := by simp only [exec, hv]; rfl
            have hn := nx c' k' (m - 1) (by omega) hl' mo
            rw [show a.length + (A.length + 6) = a.length + A.length + 5 + 1 by omega] at hn
            exact (Can.jump h2 he h5 (.lab h5 hn)).mono (by omega)
          · have he : exec cs (.unless x (lo + 1) p3) c' k' = some (.fall [] c' k') := by simp only [exec, hv, Option.map_some, if_neg hz]
            have ha := ia rows (a ++ [.label lo p1, .begin p2, .unless x (lo + 1) p3]) (.two .take x x y p4 :: .go lo p5 :: .label (lo + 1) p6 :: b) W e1 (by omega) (m - 1) c' k' (C + (A.length + 6) + 2) hl' fun c2 k2 m2 hm2 _ mo2 => by
              rw [show (a ++ [Row.label lo p1, .begin p2, .unless x (lo + 1) p3]).length + A.length = a.length + A.length + 3 by simp; omega]
              have hl2 := hl'.mono mo2
              rcases straight_does cs (r := .two .take x x y p4) rfl hl2 (fun z hz => by
                have : z = x ∨ z = y := by simpa [Row.reads] using hz
                rcases this with rfl | rfl <;> assumption) k2 with ⟨ev, he2⟩ | ⟨ev, c3, k3, he2, mo3, _⟩
              · exact (Can.stop (N := 0) h3 he2).mono (by omega)
              · have hh := ihd m2 c3 k3 (by omega) (by omega) ((mo.trans mo2).trans mo3)
                exact (Can.fall h3 he2 (by rw [show (Row.two Op.take x x y p4).spends = 0 from rfl, Int.sub_zero]; exact Can.jump h4 rfl h0 hh)).mono (by omega)
            rw [show (a ++ [Row.label lo p1, .begin p2, .unless x (lo + 1) p3]).length = a.length + 2 + 1 by simp] at ha
            exact .fall h2 he (by rw [show (Row.unless x (lo + 1) p3).spends = 0 from rfl, Int.sub_zero]; exact ha)
        exact (Can.lab h0 (.fall h1 rfl body)).mono (by omega)
    exact (head _ most c k (Nat.le_refl _) (Int.le_refl _) (.refl _)).mono (by omega)

/-- a whole def: from its parts on it comes to its end -/
theorem def_runs (cs : List Int) {lo hi : Int} {L L' : List Int} {code : List Row} (f : Frag lo hi L code L') {last : Row} (hl : (last = .nothing last.place ∨ last = .give none last.place) ∨ ∃ x, last = .give (some x) last.place ∧ x ∈ L')
    {c : Cells} {k : Keeps} {most : Int} (hc : Laid L c) : Can cs (code ++ [last]) 0 c k most (1 + code.length + code.length * (most + 1).toNat) := by
  have h := frag_runs cs f (code ++ [last]) [] [last] code.length rfl (Nat.le_refl _) most c k 1 hc fun c' k' m' _ l _ => by
    have hat : (code ++ [last])[([] : List Row).length + code.length]? = some last := by rw [List.length_nil, Nat.zero_add]; exact at_mid rfl
    have st : ∃ ev, exec cs last c' k' = some (.stop ev) := by
      rcases hl with (e | e) | ⟨x, e, hx⟩
      · rw [e]; exact ⟨_, rfl⟩
      · rw [e]; exact ⟨_, rfl⟩
      · obtain ⟨v, hv⟩ := l x hx
        rw [e]; exact ⟨_, by simp only [exec, hv]; rfl⟩
    obtain ⟨ev, he⟩ := st
    exact (Can.stop (N := 0) hat he).mono (by omega)
  exact h
end K51

/-! What is wanted behind each row: a growing table of cells. -/
namespace K51
def addK (ks : List Int) (c : Int) : List Int := if c ∈ ks then ks else ks ++ [c]
def addAll (a b : List Int) : List Int := b.foldl addK a
theorem mem_addK {ks : List Int} {c x : Int} : x ∈ addK ks c ↔ x ∈ ks ∨ x = c := by
  unfold addK
  split
  · rename_i h; constructor
    · exact fun z => .inl z
    · rintro (z | rfl); exact z; exact h
  · simp
theorem nodup_addK {ks : List Int} {c : Int} (h : ks.Nodup) : (addK ks c).Nodup := by
  unfold addK
  split
  · exact h
  · rename_i hc
    rw [List.nodup_append]
    refine ⟨h, by simp, fun a ha b hb => ?_⟩
    simp at hb; subst hb
    intro z; subst z; exact hc ha
theorem len_addK {ks : List Int} {c : Int} : (addK ks c).length ≤ ks.length + 1 := by
  unfold addK; split <;> simp
theorem mem_addAll : ∀ {b a : List Int} {x : Int}, x ∈ addAll a b ↔ x ∈ a ∨ x ∈ b
  | [], a, x => by simp [addAll]
  | c :: b, a, x => by
    show x ∈ addAll (addK a c) b ↔ _
    rw [mem_addAll, mem_addK]; simp [or_assoc]
theorem nodup_addAll : ∀ {b a : List Int}, a.Nodup → (addAll a b).Nodup
  | [], a, h => h
  | c :: b, a, h => nodup_addAll (b := b) (nodup_addK h)
theorem len_addAll : ∀ {b a : List Int}, (addAll a b).length ≤ a.length + b.length
  | [], a => by simp [addAll]
  | c :: b, a => by
    have h := len_addAll (b := b) (a := addK a c)
    have h2 := len_addK (ks := a) (c := c)
    show (addAll (addK a c) b).length ≤ _
    simp only [List.length_cons]; omega
theorem addAll_snoc {a b : List Int} {c : Int} : addAll a (b ++ [c]) = addK (addAll a b) c := by unfold addAll; rw [List.foldl_append]; rfl
theorem nodup_len : ∀ {a b : List Int}, a.Nodup → (∀ x ∈ a, x ∈ b) → a.length ≤ b.length
  | [], b, _, _ => Nat.zero_le _
  | x :: a, b, h, s => by
    obtain ⟨h1, h2⟩ := List.nodup_cons.mp h
    have hx := s x (List.mem_cons_self ..)
    have h3 := nodup_len (a := a) (b := b.erase x) h2 fun y hy => (List.mem_erase_of_ne (fun z => by rw [z] at hy; exact h1 hy)).mpr (s y (List.mem_cons_of_mem _ hy))
    rw [List.length_erase_of_mem hx] at h3
    have : 0 < b.length := List.length_pos_of_mem hx
    simp only [List.length_cons]; omega
/-- as many, all in the other: the same -/
theorem same_of_len : ∀ {a b : List Int}, a.Nodup → b.Nodup → (∀ x ∈ a, x ∈ b) → b.length ≤ a.length → ∀ x ∈ b, x ∈ a := fun {a b} ha hb s hl x hx => by
  by_cases h : x ∈ a
  · exact h
  · have := nodup_len (a := x :: a) (b := b) (List.nodup_cons.mpr ⟨h, ha⟩) (by simpa using ⟨hx, s⟩)
    simp only [List.length_cons] at this; omega

def succs (rows : List Row) (i : Nat) (r : Row) : List Int := (if r.isEnd then [] else [(i : Int) + 1]) ++ (match r.target with | some t => [(idx rows t : Int)] | none => [])
def at' (l : List (List Int)) (i : Nat) : List Int := (l[i]?).getD []
def nowK (ka : List (List Int)) (js : List Int) : List Int := js.foldl (fun acc j => addAll acc (at' ka j.toNat)) []
def hereK (now : List Int) (r : Row) : List Int := addAll (addAll [] (now.filter fun c => !decide (some c = r.lays))) (addAll [] r.reads)
theorem mem_nowF : ∀ {js : List Int} {ka : List (List Int)} {acc : List Int} {x : Int}, x ∈ js.foldl (fun acc j => addAll acc (at' ka j.toNat)) acc ↔ x ∈ acc ∨ ∃ j ∈ js, x ∈ at' ka j.toNat
  | [], ka, acc, x => by simp
  | j :: js, ka, acc, x => by
    rw [List.foldl_cons, mem_nowF, mem_addAll]; simp [or_assoc]
theorem mem_nowK {js : List Int} {ka : List (List Int)} {x : Int} : x ∈ nowK ka js ↔ ∃ j ∈ js, x ∈ at' ka j.toNat := by
  unfold nowK; rw [mem_nowF]; simp
theorem nodup_nowF : ∀ {js : List Int} {ka : List (List Int)} {acc : List Int}, acc.Nodup → (js.foldl (fun acc j => addAll acc (at' ka j.toNat)) acc).Nodup
  | [], _, _, h => h
  | j :: js, ka, acc, h => nodup_nowF (js := js) (nodup_addAll h)
theorem nodup_nowK {js : List Int} {ka : List (List Int)} : (nowK ka js).Nodup := nodup_nowF List.nodup_nil
theorem nowK_snoc {js : List Int} {ka : List (List Int)} {j : Int} : nowK ka (js ++ [j]) = addAll (nowK ka js) (at' ka j.toNat) := by unfold nowK; rw [List.foldl_append]; rfl
theorem mem_hereK {now : List Int} {r : Row} {x : Int} : x ∈ hereK now r ↔ (x ∈ now ∧ r.lays ≠ some x) ∨ x ∈ r.reads := by
  unfold hereK
  rw [mem_addAll, mem_addAll, mem_addAll]
  simp only [List.not_mem_nil, false_or, List.mem_filter, Bool.not_eq_true', decide_eq_false_iff_not]
  exact ⟨fun h => h.imp (fun z => ⟨z.1, fun e => z.2 e.symm⟩) id, fun h => h.imp (fun z => ⟨z.1, fun e => z.2 e.symm⟩) id⟩
theorem nodup_hereK {now : List Int} {r : Row} : (hereK now r).Nodup := nodup_addAll (nodup_addAll List.nodup_nil)

def cells (rows : List Row) : List Int := rows.flatMap Row.reads
theorem reads_cells {rows : List Row} {i : Nat} {r : Row} (h : rows[i]? = some r) : ∀ x ∈ r.reads, x ∈ cells rows := fun x hx => List.mem_flatMap.mpr ⟨r, List.mem_of_getElem? h, hx⟩
theorem reads_three {r : Row} (h : r.Bnd) : r.reads.length ≤ 3 := by
  cases r <;> simp [Row.reads]
  · exact h.1.2
  · rename_i c p; cases c <;> simp [Row.reads]
theorem cells_len : ∀ {rows : List Row}, (∀ r ∈ rows, r.Bnd) → (cells rows).length ≤ 3 * rows.length
  | [], _ => by simp [cells]
  | r :: rows, h => by
    have h1 := reads_three (h r (List.mem_cons_self ..))
    have h2 := cells_len (rows := rows) fun x hx => h x (List.mem_cons_of_mem _ hx)
    show (Row.reads r ++ cells rows).length ≤ _
    simp only [List.length_append, List.length_cons]; omega

def total (l : List (List Int)) : Nat := (l.map List.length).sum
theorem total_set : ∀ {l : List (List Int)} {i : Nat} {v : List Int}, i < l.length → total (l.set i v) + (at' l i).length = total l + v.length
  | [], i, v, h => by simp at h
  | a :: l, 0, v, h => by simp [total, at']; omega
  | a :: l, i + 1, v, h => by
    have := total_set (l := l) (i := i) (v := v) (by simpa using h)
    simp only [total, at', List.set_cons_succ, List.map_cons, List.sum_cons, List.getElem?_cons_succ] at this ⊢
    omega
theorem total_le : ∀ {l : List (List Int)} {B : Nat}, (∀ k ∈ l, k.length ≤ B) → total l ≤ l.length * B
  | [], B, _ => by simp [total]
  | a :: l, B, h => by
    have h1 := h a (List.mem_cons_self ..)
    have h2 := total_le (l := l) (B := B) fun k hk => h k (List.mem_cons_of_mem _ hk)
    simp only [total, List.map_cons, List.sum_cons, List.length_cons] at h2 ⊢
    rw [Nat.succ_mul]; omega
theorem at_set_same {l : List (List Int)} {i : Nat} {v : List Int} (h : i < l.length) : at' (l.set i v) i = v := by unfold at'; simp [h]
theorem at_set_ne {l : List (List Int)} {i j : Nat} {v : List Int} (h : j ≠ i) : at' (l.set i v) j = at' l j := by unfold at'; rw [List.getElem?_set_ne (Ne.symm h)]

structure Inc (rows : List Row) (ka kb : List (List Int)) : Prop where
  la : ka.length = rows.length
  lb : kb.length = rows.length
  na : ∀ i, (at' ka i).Nodup ∧ ∀ x ∈ at' ka i, x ∈ cells rows
  nb : ∀ i, (at' kb i).Nodup ∧ ∀ x ∈ at' kb i, x ∈ cells rows
  ua : ∀ i r, rows[i]? = some r → ∀ x ∈ at' ka i, x ∈ hereK (nowK ka (succs rows i r)) r
  ub : ∀ i r, rows[i]? = some r → ∀ x ∈ at' kb i, x ∈ nowK ka (succs rows i r)
theorem now_mono {ka ka' : List (List Int)} (h : ∀ i, ∀ x ∈ at' ka i, x ∈ at' ka' i) {js : List Int} {x : Int} (hx : x ∈ nowK ka js) : x ∈ nowK ka' js := by
  rw [mem_nowK] at hx ⊢
  obtain ⟨j, h1, h2⟩ := hx
  exact ⟨j, h1, h _ x h2⟩
theorem here_mono {a b : List Int} {r : Row} (h : ∀ x ∈ a, x ∈ b) {x : Int} (hx : x ∈ hereK a r) : x ∈ hereK b r := by
  rw [mem_hereK] at hx ⊢
  exact hx.imp (fun z => ⟨h x z.1, z.2⟩) id
theorem now_cells {rows : List Row} {ka kb : List (List Int)} (h : Inc rows ka kb) {js : List Int} : ∀ x ∈ nowK ka js, x ∈ cells rows := fun x hx => by
  obtain ⟨j, _, h2⟩ := mem_nowK.mp hx
  exact (h.na _).2 x h2
theorem here_cells {rows : List Row} {ka kb : List (List Int)} (h : Inc rows ka kb) {i : Nat} {r : Row} (hr : rows[i]? = some r) {js : List Int} : ∀ x ∈ hereK (nowK ka js) r, x ∈ cells rows := fun x hx => by
  rcases mem_hereK.mp hx with ⟨z, _⟩ | z
  · exact now_cells h x z
  · exact reads_cells hr x z
theorem Inc.step {rows : List Row} {ka kb : List (List Int)} (h : Inc rows ka kb) {i : Nat} {r : Row} (hr : rows[i]? = some r) :
    Inc rows (ka.set i (hereK (nowK ka (succs rows i r)) r)) (kb.set i (nowK ka (succs rows i r))) := by
  have hi : i < rows.length := (List.getElem?_eq_some_iff.mp hr).1
  have mono : ∀ j, ∀ x ∈ at' ka j, x ∈ at' (ka.set i (hereK (nowK ka (succs rows i r)) r)) j := fun j x hx => by
    by_cases e : j = i
    · subst e; rw [at_set_same (by rw [h.la]; exact hi)]; exact h.ua _ _ hr x hx
    · rw [at_set_ne e]; exact hx
  refine ⟨by simp [h.la], by simp [h.lb], fun j => ?_, fun j => ?_, fun j s hs x hx => ?_, fun j s hs x hx => ?_⟩
  · by_cases e : j = i
    · subst e; rw [at_set_same (by rw [h.la]; exact hi)]; exact ⟨nodup_hereK, here_cells h hr⟩
    · rw [at_set_ne e]; exact h.na j
  · by_cases e : j = i
    · subst e; rw [at_set_same (by rw [h.lb]; exact hi)]; exact ⟨nodup_nowK, now_cells h⟩
    · rw [at_set_ne e]; exact h.nb j
  · by_cases e : j = i
    · subst e
      rw [hr] at hs; cases hs
      rw [at_set_same (by rw [h.la]; exact hi)] at hx
      exact here_mono (fun y hy => now_mono mono hy) hx
    · rw [at_set_ne e] at hx
      exact here_mono (fun y hy => now_mono mono hy) (h.ua j s hs x hx)
  · by_cases e : j = i
    · subst e
      rw [hr] at hs; cases hs
      rw [at_set_same (by rw [h.lb]; exact hi)] at hx
      exact now_mono mono hx
    · rw [at_set_ne e] at hx
      exact now_mono mono (h.ub j s hs x hx)

/-- a turn through the rows, t of them done, from the end; again: something grew -/
structure Turn (rows : List Row) (ka0 : List (List Int)) (T0 : Nat) (ka kb : List (List Int)) (t : Nat) (again : Bool) : Prop where
  inc : Inc rows ka kb
  ge : T0 ≤ total ka + total kb
  more : again = true → T0 < total ka + total kb
  same : again = false → (∀ i x, x ∈ at' ka i ↔ x ∈ at' ka0 i) ∧ ∀ i r, rows.length ≤ i + t → rows[i]? = some r → (∀ x, x ∈ at' kb i ↔ x ∈ nowK ka0 (succs rows i r)) ∧ ∀ x ∈ hereK (nowK ka0 (succs rows i r)) r, x ∈ at' ka0 i
theorem Turn.start {rows : List Row} {ka kb : List (List Int)} (h : Inc rows ka kb) : Turn rows ka (total ka + total kb) ka kb 0 false :=
  ⟨h, Nat.le_refl _, (fun z => by cases z), fun _ => ⟨fun _ _ => Iff.rfl, fun i r hi hr => by have := (List.getElem?_eq_some_iff.mp hr).1; omega⟩⟩
theorem now_same {a b : List (List Int)} (h : ∀ i x, x ∈ at' a i ↔ x ∈ at' b i) {js : List Int} {x : Int} : x ∈ nowK a js ↔ x ∈ nowK b js := by
  rw [mem_nowK, mem_nowK]; simp [h]
theorem Turn.step {rows : List Row} {ka0 : List (List Int)} {T0 : Nat} {ka kb : List (List Int)} {t : Nat} {again again' : Bool} (h : Turn rows ka0 T0 ka kb t again) {i : Nat} {r : Row} (hr : rows[i]? = some r) (hi : i + t + 1 = rows.length)
    (hf : again' = false → again = false ∧ (hereK (nowK ka (succs rows i r)) r).length = (at' ka i).length)
    (ht : again' = true → again = true ∨ (hereK (nowK ka (succs rows i r)) r).length ≠ (at' ka i).length ∨ (nowK ka (succs rows i r)).length ≠ (at' kb i).length) :
    Turn rows ka0 T0 (ka.set i (hereK (nowK ka (succs rows i r)) r)) (kb.set i (nowK ka (succs rows i r))) (t + 1) again' := by
  have hlt : i < rows.length := by omega
  have e1 := total_set (l := ka) (i := i) (v := hereK (nowK ka (succs rows i r)) r) (by rw [h.inc.la]; exact hlt)
  have e2 := total_set (l := kb) (i := i) (v := nowK ka (succs rows i r)) (by rw [h.inc.lb]; exact hlt)
  have g1 := nodup_len (h.inc.na i).1 (h.inc.ua i r hr)
  have g2 := nodup_len (h.inc.nb i).1 (h.inc.ub i r hr)
  have hge := h.ge
  refine ⟨h.inc.step hr, by omega, fun z => ?_, fun z => ?_⟩
  · rcases ht z with a | a | a
    · have := h.more a; omega
    · omega
    · omega
  · obtain ⟨a1, a2⟩ := hf z
    obtain ⟨s1, s2⟩ := h.same a1
    have back := same_of_len (h.inc.na i).1 (nodup_hereK (now := nowK ka (succs rows i r)) (r := r)) (h.inc.ua i r hr) (by omega)
    have sm : ∀ j x, x ∈ at' (ka.set i (hereK (nowK ka (succs rows i r)) r)) j ↔ x ∈ at' ka0 j := fun j x => by
      by_cases e : j = i
      · subst e
        rw [at_set_same (by rw [h.inc.la]; exact hlt), ← s1]
        exact ⟨back x, h.inc.ua j r hr x⟩
      · rw [at_set_ne e]; exact s1 j x
    refine ⟨sm, fun j s hj hs => ?_⟩
    by_cases e : j = i
    · subst e
      rw [hr] at hs; cases hs
      rw [at_set_same (by rw [h.inc.lb]; exact hlt)]
      refine ⟨fun x => now_same s1, fun x hx => ?_⟩
      rw [← s1]
      exact back x (here_mono (fun y hy => (now_same s1).mpr hy) hx)
    · rw [at_set_ne e]
      exact s2 j s (by omega) hs
theorem succ_in {rows : List Row} (w : WF rows) {i j : Nat} {r : Row} (h : Succ rows i r j) : (j : Int) ∈ succs rows i r := by
  unfold succs
  rcases h with ⟨rfl, h⟩ | ⟨t, q, h1, h2⟩
  · rw [h]; simp
  · rw [h1]
    show _ ∈ _ ++ [(idx rows t : Int)]
    rw [idx_eq w h2]; simp
theorem succs_lt {rows : List Row} (w : WF rows) {i : Nat} {r : Row} (hr : rows[i]? = some r) {j : Int} (h : j ∈ succs rows i r) : 0 ≤ j ∧ j.toNat < rows.length := by
  have hi : i < rows.length := (List.getElem?_eq_some_iff.mp hr).1
  unfold succs at h
  rw [List.mem_append] at h
  rcases h with h | h
  · cases he : r.isEnd with
    | true => rw [he] at h; simp at h
    | false =>
      rw [he] at h
      have : j = (i : Int) + 1 := by simpa using h
      subst this
      refine ⟨by omega, ?_⟩
      obtain ⟨l, h1, h2⟩ := w.last
      have h3 := last_at h1
      by_cases e : i = rows.length - 1
      · rw [← e, hr] at h3; cases h3; rw [he] at h2; cases h2
      · omega
  · cases ht : r.target with
    | none => rw [ht] at h; simp at h
    | some t =>
      rw [ht] at h
      obtain ⟨k, q, hk⟩ := w.targ i r t hr ht
      have : j = (idx rows t : Int) := by simpa using h
      rw [idx_eq w hk] at this
      subst this
      exact ⟨by omega, by simpa using (List.getElem?_eq_some_iff.mp hk).1⟩
theorem Turn.sound {rows : List Row} {ka0 : List (List Int)} {T0 : Nat} {ka kb : List (List Int)} (w : WF rows) (h : Turn rows ka0 T0 ka kb rows.length false) (named : List Int) :
    Sound rows named (kb.map fun k => addAll (addAll [] k) named) := by
  obtain ⟨s1, s2⟩ := h.same rfl
  refine ⟨by simp [h.inc.lb], fun i x => x ∈ at' ka0 i ∨ x ∈ named, fun i x hx => .inr hx, fun i r ks hr hk => ?_⟩
  rw [List.getElem?_map] at hk
  have hb : ∃ k, kb[i]? = some k := by
    have hi : i < kb.length := by rw [h.inc.lb]; exact (List.getElem?_eq_some_iff.mp hr).1
    exact ⟨_, List.getElem?_eq_getElem hi⟩
  obtain ⟨k, hb⟩ := hb
  rw [hb] at hk
  have ek : ks = addAll (addAll [] k) named := (Option.some.inj hk).symm
  subst ek
  have eb : at' kb i = k := by unfold at'; rw [hb]; rfl
  obtain ⟨t1, t2⟩ := s2 i r (by omega) hr
  rw [eb] at t1
  have mem : ∀ x, x ∈ addAll (addAll [] k) named ↔ x ∈ nowK ka0 (succs rows i r) ∨ x ∈ named := fun x => by
    rw [mem_addAll, mem_addAll, t1]; simp
  refine ⟨fun j hj x hx => ?_, fun x hx => .inl (t2 x (mem_hereK.mpr (.inr hx))), fun x hx hl => ?_⟩
  · rw [mem]
    rcases hx with hx | hx
    · exact .inl (mem_nowK.mpr ⟨j, succ_in w hj, by simpa using hx⟩)
    · exact .inr hx
  · rcases (mem x).mp hx with z | z
    · exact .inl (t2 x (mem_hereK.mpr (.inl ⟨z, hl⟩)))
    · exact .inr z
theorem Turn.sound0 {rows : List Row} {ka0 : List (List Int)} {T0 : Nat} {ka kb : List (List Int)} (w : WF rows) (h : Turn rows ka0 T0 ka kb rows.length false) : Sound rows [] kb := by
  obtain ⟨s1, s2⟩ := h.same rfl
  refine ⟨h.inc.lb, fun i x => x ∈ at' ka0 i, fun i x hx => by simp at hx, fun i r ks hr hb => ?_⟩
  have eb : at' kb i = ks := by unfold at'; rw [hb]; rfl
  obtain ⟨t1, t2⟩ := s2 i r (by omega) hr
  rw [eb] at t1
  refine ⟨fun j hj x hx => (t1 x).mpr (mem_nowK.mpr ⟨j, succ_in w hj, by simpa using hx⟩), fun x hx => t2 x (mem_hereK.mpr (.inr hx)), fun x hx hl => t2 x (mem_hereK.mpr (.inl ⟨(t1 x).mp hx, hl⟩))⟩
theorem inc_start (rows : List Row) : Inc rows (rows.map fun _ => []) (rows.map fun _ => []) := by
  have e : ∀ i, at' (rows.map fun _ => ([] : List Int)) i = [] := fun i => by
    unfold at'; rw [List.getElem?_map]; cases rows[i]? <;> rfl
  refine ⟨by simp, by simp, fun i => ?_, fun i => ?_, fun i r hr x hx => ?_, fun i r hr x hx => ?_⟩
  all_goals first | (rw [e] at hx; simp at hx) | (rw [e]; simp)
/-- it cannot grow for ever -/
theorem inc_bound {rows : List Row} {ka kb : List (List Int)} (h : Inc rows ka kb) : total ka + total kb ≤ 2 * (rows.length * (cells rows).length) := by
  have one : ∀ {l : List (List Int)}, l.length = rows.length → (∀ i, (at' l i).Nodup ∧ ∀ x ∈ at' l i, x ∈ cells rows) → total l ≤ rows.length * (cells rows).length := fun {l} hl hn => by
    rw [← hl]
    refine total_le fun k hk => ?_
    obtain ⟨i, hi⟩ := List.mem_iff_getElem?.mp hk
    have e : at' l i = k := by unfold at'; rw [hi]; rfl
    have := hn i
    rw [e] at this
    exact nodup_len this.1 this.2
  have h1 := one h.la h.na
  have h2 := one h.lb h.nb
  omega
end K51

/-! The text by places, rows in the heap, small helps. -/
namespace K51
open PySem L2 Evl
/-- the i-th statement of the program's top -/
def top (i : Nat) : Stmt := PySem.Challenge.pw_wholetongue_k51_whole_machine_of_lean_ro.main.body.getD i (.Pass ⟨0, 0, 0, 0⟩)

/-! ### floor division by any divisor but nought -/
theorem op_fdivS {X : Cx} : OpR X (binaryOp .FloorDiv) (rI (fun _ j => j ≠ 0 ∧ j.natAbs.log2 < 9000) fun i j => .int (i.fdiv j)) := opI fun i j _ _ _ _ _ hc q =>
  PyProof.Rows.floordiv_int hc.1 q (.inl (PyProof.noPylong_of_log2 hc.2))
theorem log2_small {j : Int} (h : Small j) : j.natAbs.log2 < 9000 := by
  unfold Small big at h
  have h1 : j.natAbs < 2 ^ 41 := by omega
  exact Nat.lt_of_lt_of_le (PySem.Flt.log2_lt_of (by decide) h1) (by decide)

/-! ### heaps: what stays -/
/-- tuples stay -/
def TL (H H' : Hp) : Prop := ∀ a xs, H a = some (.tup xs) → H' a = some (.tup xs)
theorem TL.refl (H : Hp) : TL H H := fun _ _ h => h
theorem TL.trans {H H1 H2 : Hp} (a : TL H H1) (b : TL H1 H2) : TL H H2 := fun x xs h => b x xs (a x xs h)
theorem tl_ex {H H' : Hp} (e : Ex H H') : TL H H' := fun a xs h => e a _ h
theorem TL.mut {H : Hp} {a : Addr} {o u : HO} (h : H a = some u) (hn : ∀ xs, u ≠ .tup xs) : TL H (upd H a o) := fun b xs e => by
  rw [upd_ne (fun z => by rw [z, h] at e; exact hn xs (Option.some.inj e))]; exact e
theorem TL.new {H : Hp} {a : Addr} {o : HO} (h : H a = none) : TL H (upd H a o) := tl_ex (Ex.new h)

/-! ### lists side by side -/
def All2 {α β : Type} (F : α → β → Prop) (l : List α) (m : List β) : Prop := l.length = m.length ∧ ∀ (i : Nat) a b, l[i]? = some a → m[i]? = some b → F a b
section
variable {α β : Type} {F G : α → β → Prop} {l : List α} {m : List β}
theorem All2.nil : All2 F [] [] := ⟨rfl, fun i a b h => by simp at h⟩
theorem All2.imp (h : All2 F l m) (f : ∀ a b, F a b → G a b) : All2 G l m := ⟨h.1, fun i a b h1 h2 => f a b (h.2 i a b h1 h2)⟩
theorem All2.snoc {a : α} {b : β} (h : All2 F l m) (hf : F a b) : All2 F (l ++ [a]) (m ++ [b]) := by
  refine ⟨by simp [h.1], fun i x y h1 h2 => ?_⟩
  by_cases hi : i < l.length
  · rw [List.getElem?_append_left hi] at h1
    rw [List.getElem?_append_left (by rw [← h.1]; exact hi)] at h2
    exact h.2 i x y h1 h2
  · rw [List.getElem?_append_right (by omega)] at h1
    rw [List.getElem?_append_right (by have := h.1; omega)] at h2
    rw [h.1] at h1
    cases hj : i - m.length with
    | zero =>
      rw [hj] at h1 h2
      have e1 : a = x := by simpa using h1
      have e2 : b = y := by simpa using h2
      rw [← e1, ← e2]; exact hf
    | succ j => rw [hj] at h1; simp at h1
theorem All2.get {i : Nat} {a : α} (h : All2 F l m) (h1 : l[i]? = some a) : ∃ b, m[i]? = some b ∧ F a b := by
  have hi : i < m.length := by rw [← h.1]; exact (List.getElem?_eq_some_iff.mp h1).1
  exact ⟨m[i], List.getElem?_eq_getElem hi, h.2 i a _ h1 (List.getElem?_eq_getElem hi)⟩
theorem All2.get' {i : Nat} {b : β} (h : All2 F l m) (h1 : m[i]? = some b) : ∃ a, l[i]? = some a ∧ F a b := by
  have hi : i < l.length := by rw [h.1]; exact (List.getElem?_eq_some_iff.mp h1).1
  exact ⟨l[i], List.getElem?_eq_getElem hi, h.2 i _ b (List.getElem?_eq_getElem hi) h1⟩
theorem All2.append {l2 : List α} {m2 : List β} (h : All2 F l m) (h2 : All2 F l2 m2) : All2 F (l ++ l2) (m ++ m2) := by
  refine ⟨by simp [h.1, h2.1], fun i x y e1 e2 => ?_⟩
  by_cases hi : i < l.length
  · rw [List.getElem?_append_left hi] at e1
    rw [List.getElem?_append_left (by rw [← h.1]; exact hi)] at e2
    exact h.2 i x y e1 e2
  · rw [List.getElem?_append_right (by omega)] at e1
    rw [List.getElem?_append_right (by have := h.1; omega)] at e2
    rw [h.1] at e1
    exact h2.2 _ x y e1 e2
end

/-! ### rows as values -/
def Op.word : Op → S
  | .add => "add" | .take => "take" | .times => "times" | .over => "over" | .rest => "rest" | .less => "less" | .same => "same"
inductive Tag where
  | begin | put | copy | two (o : Op) | fetch | lay | label | go | «unless» | call | say | give | nothing
  deriving DecidableEq
def Tag.word : Tag → S
  | .begin => "begin" | .put => "put" | .copy => "copy" | .two o => o.word | .fetch => "fetch" | .lay => "lay" | .label => "label"
  | .go => "go" | .unless => "unless" | .call => "call" | .say => "say" | .give => "give" | .nothing => "nothing"
def Row.tag : Row → Tag
  | .begin _ => .begin | .put _ _ _ => .put | .copy _ _ _ => .copy | .two o _ _ _ _ => .two o | .fetch _ _ _ _ => .fetch | .lay _ _ _ => .lay | .label _ _ => .label
  | .go _ _ => .go | .unless _ _ _ => .unless | .call _ _ _ _ _ => .call | .say _ _ _ => .say | .give _ _ => .give | .nothing _ => .nothing
def Row.word (r : Row) : S := r.tag.word
def Tag.all' (p : Tag → Bool) : Bool := p .begin && p .put && p .copy && p .fetch && p .lay && p .label && p .go && p .unless && p .call && p .say && p .give && p .nothing && p (.two .add) && p (.two .take) && p (.two .times) && p (.two .over) && p (.two .rest) && p (.two .less) && p (.two .same)
/-- what is to be said of all words is said of each -/
theorem Tag.all {p : Tag → Bool} (h : Tag.all' p = true) (t : Tag) : p t = true := by
  unfold Tag.all' at h
  simp only [Bool.and_eq_true] at h
  obtain ⟨⟨⟨⟨⟨⟨⟨⟨⟨⟨⟨⟨⟨⟨⟨⟨⟨⟨h1, h2⟩, h3⟩, h4⟩, h5⟩, h6⟩, h7⟩, h8⟩, h9⟩, h10⟩, h11⟩, h12⟩, h13⟩, h14⟩, h15⟩, h16⟩, h17⟩, h18⟩, h19⟩ := h
  cases t <;> first | assumption | (rename_i o; cases o <;> assumption)
def oV : Option Int → V
  | none => .non
  | some c => .int c
/-- what stands in a row behind its word, ahead of its place; q: the cells of a call -/
def Row.mid (q : Addr) : Row → List V
  | .begin _ => []
  | .put c n _ => [.int c, .int n]
  | .copy c d _ => [.int c, .int d]
  | .two _ c d e _ => [.int c, .int d, .int e]
  | .fetch c f n _ => [.int c, .str f, .str n]
  | .lay n c _ => [.str n, .int c]
  | .label k _ => [.int k]
  | .go k _ => [.int k]
  | .unless c k _ => [.int c, .int k]
  | .call c f n _ _ => [oV c, .str f, .str n, .ref q]
  | .say kd c _ => [.str kd, .int c]
  | .give c _ => [oV c]
  | .nothing _ => []
def Row.vals (r : Row) (p q : Addr) : List V := .str r.word :: (r.mid q ++ [.ref p])
def plV (p : Pl) : List V := [.int p.line, .int p.col]
def Row.cells : Row → List Int
  | .call _ _ _ cs _ => cs
  | _ => []
def Row.isCall : Row → Bool
  | .call _ _ _ _ _ => true
  | _ => false
/-- the row r stands at a -/
def RowAt (H : Hp) (a : Addr) (r : Row) : Prop := ∃ p q, H a = some (.tup (r.vals p q)) ∧ H p = some (.tup (plV r.place)) ∧ (r.isCall = true → H q = some (.tup (r.cells.map V.int)))
theorem RowAt.mono {H H' : Hp} {a : Addr} {r : Row} (e : TL H H') (h : RowAt H a r) : RowAt H' a r :=
  let ⟨p, q, h1, h2, h3⟩ := h
  ⟨p, q, e _ _ h1, e _ _ h2, fun z => e _ _ (h3 z)⟩
/-- rows stand in a list at l; in a tuple -/
def RowsL (H : Hp) (l : Addr) (rows : List Row) : Prop := ∃ as : List Addr, H l = some (.lst (as.map V.ref)) ∧ All2 (RowAt H) as rows
def RowsT (H : Hp) (l : Addr) (rows : List Row) : Prop := ∃ as : List Addr, H l = some (.tup (as.map V.ref)) ∧ All2 (RowAt H) as rows
theorem RowsT.mono {H H' : Hp} {l : Addr} {rows : List Row} (e : TL H H') (h : RowsT H l rows) : RowsT H' l rows :=
  let ⟨as, h1, h2⟩ := h
  ⟨as, e _ _ h1, h2.imp fun _ _ => RowAt.mono e⟩
theorem RowsL.ex {H H' : Hp} {l : Addr} {rows : List Row} (e : Ex H H') (h : RowsL H l rows) : RowsL H' l rows :=
  let ⟨as, h1, h2⟩ := h
  ⟨as, e _ _ h1, h2.imp fun _ _ => RowAt.mono (tl_ex e)⟩

def opsV : List V := [.str "add", .str "take", .str "times", .str "over", .str "rest", .str "less", .str "same"]
def layingV : List V := opsV ++ [.str "put", .str "copy", .str "fetch", .str "call"]
def quietV : List V := [.str "put", .str "copy", .str "less", .str "same", .str "fetch"]
def endsV : List V := [.str "give", .str "nothing", .str "go"]

def Tag.isTwo : Tag → Bool
  | .two _ => true
  | _ => false
def Tag.isLaying : Tag → Bool
  | .two _ => true | .put => true | .copy => true | .fetch => true | .call => true
  | _ => false
theorem in_ops (r : Row) : inV (.str r.word) opsV = r.tag.isTwo := eq_of_beq (Tag.all (p := fun t => inV (.str t.word) opsV == t.isTwo) (by decide +kernel) r.tag)
theorem in_laying (r : Row) : inV (.str r.word) layingV = r.tag.isLaying := eq_of_beq (Tag.all (p := fun t => inV (.str t.word) layingV == t.isLaying) (by decide +kernel) r.tag)
theorem is_word (r : Row) (t : Tag) : decide (V.str r.word = V.str t.word) = decide (r.tag = t) :=
  eq_of_beq (Tag.all (p := fun t => decide (V.str r.tag.word = V.str t.word) == decide (r.tag = t)) (Tag.all (p := fun u => Tag.all' fun t => decide (V.str u.word = V.str t.word) == decide (u = t)) (by decide +kernel) r.tag) t)
theorem word_ne {r : Row} {w : S} (h : r.word ≠ w) : decide (V.str r.word = V.str w) = false := decide_eq_false fun e => h (V.str.inj e)
theorem at0 {xs : List V} {v : V} (h : xs[0]? = some v) : atI xs 0 = some v := atI_nat (j := 0) h
theorem at1 {xs : List V} {v : V} (h : xs[1]? = some v) : atI xs 1 = some v := atI_nat (j := 1) h
theorem at2 {xs : List V} {v : V} (h : xs[2]? = some v) : atI xs 2 = some v := atI_nat (j := 2) h
theorem at3 {xs : List V} {v : V} (h : xs[3]? = some v) : atI xs 3 = some v := atI_nat (j := 3) h
theorem at4 {xs : List V} {v : V} (h : xs[4]? = some v) : atI xs 4 = some v := atI_nat (j := 4) h
theorem word_at (r : Row) (p q : Addr) : atI (r.vals p q) 0 = some (.str r.word) := at0 rfl
/-- a statement, then the rest -/
theorem sq {t u : TS} {D : Ends} {σ : L2.St} {H : Hp} (h : t { D with nx := u D } σ H) : tSeq t u D σ H := h

/-- what the walks ask of the top: constants, built-ins -/
structure Txt (K : PySem.W.Frag) (mg : Str → Option Value) (o1 o2 o3 o4 o5 : Addr) : Prop where
  gOPS : ∃ u, mg "OPS" = some u ∧ RelV (.ref o1) u
  kOPS : ∀ H : Hp, SqT K H o1 opsV
  gLAYING : ∃ u, mg "LAYING" = some u ∧ RelV (.ref o2) u
  kLAYING : ∀ H : Hp, SqT K H o2 layingV
  gTWOS : ∃ u, mg "TWOS" = some u ∧ RelV (.ref o3) u
  kTWOS : ∀ H : Hp, SqT K H o3 opsV
  gQUIET : ∃ u, mg "QUIET" = some u ∧ RelV (.ref o4) u
  kQUIET : ∀ H : Hp, SqT K H o4 quietV
  gENDS : ∃ u, mg "ENDS" = some u ∧ RelV (.ref o5) u
  kENDS : ∀ H : Hp, SqT K H o5 endsV
  gGREATEST : ∃ u, mg "GREATEST" = some u ∧ RelV (.int big) u
  len : mg "len" = none
  int : mg "int" = none
  list : mg "list" = none
  tuple : mg "tuple" = none
  dict : mg "dict" = none
  range : mg "range" = none
  enumerate : mg "enumerate" = none
  zip : mg "zip" = none
  isinstance : mg "isinstance" = none

/-! ### the context's letters -/
section
variable {CX : CXT} {P : Program} {w : World} {K : PySem.W.Frag} {mg : Str → Option Value} {base : Heap} {N : List Str} {qual : Str} {scope : Scope} {f : Addr} {cd : Value} {A : Around} {outer : List Env} {s : Shared} {H : Hp} {E : XK}
theorem cxK : (cxOf CX P w K mg base N qual scope f cd A outer s H E).K = K := rfl
theorem cxKn : (cxOf CX P w K mg base N qual scope f cd A outer s H E).nox.K = K := rfl
end

/-! ### tests of a row's word -/
section
variable {σ : L2.St} {H : Hp} {te ta : TE} {r : Row} {K : PySem.W.Frag} {D : Ends} {tz : TS}
theorem nxS (h : tz D σ H) : ({ D with nx := tz D } : Ends).nx σ H := h
theorem et_word (t : Tag) (h : Ev te σ H (.str r.word)) : EvT (tTest (tOp rEq te (tC (.str t.word)))) σ H (decide (r.tag = t)) :=
  et_is (et_test (ev_op h ev_c (rv_eq rfl))) (is_word r t)
theorem et_wordN (t : Tag) (h : Ev te σ H (.str r.word)) : EvT (tTest (tOp rNe te (tC (.str t.word)))) σ H (!decide (r.tag = t)) :=
  et_is (et_test (ev_op h ev_c (rv_ne rfl))) (congrArg (!·) (is_word r t))
theorem ev_word (t : Tag) (h : Ev te σ H (.str r.word)) : Ev (tOp rEq te (tC (.str t.word))) σ H (.bl (decide (r.tag = t))) :=
  ev_is (ev_op h ev_c (rv_eq rfl)) (congrArg V.bl (is_word r t))
theorem ea_strs : ∀ {ws : List Str}, EvA (ws.foldr (fun w t => tCons (tC (.str w)) t) tNil) σ H (ws.map V.str)
  | [] => ea_nil
  | _ :: _ => ea_cons ev_c ea_strs
theorem et_words (ts : List Tag) (hl : ts.length ≤ 100) (ht : Tag.all' (fun t => inV (.str t.word) (ts.map fun t => V.str t.word) == ts.contains t) = true) (h : Ev te σ H (.str r.word)) :
    EvT (tTest (tOp (rIn K false) te (tTup ((ts.map Tag.word).foldr (fun w t => tCons (tC (.str w)) t) tNil)))) σ H (ts.contains r.tag) := by
  have e : (ts.map Tag.word).map V.str = ts.map fun t => V.str t.word := by simp
  have fl : ((ts.map Tag.word).map V.str).all flatV = true := by
    rw [List.all_eq_true]; intro x hx
    obtain ⟨y, _, rfl⟩ := List.mem_map.mp hx; rfl
  refine et_is (et_test (ev_inU h (eu_tup ea_strs (by simp; omega)) rfl fl)) ?_
  rw [e]
  exact eq_of_beq (Tag.all ht r.tag)
theorem et_ops {o : Addr} (ts : List V) (p : Tag → Bool) (ht : Tag.all' (fun t => inV (.str t.word) ts == p t) = true) (hf : ts.all flatV = true) (hk : SqT K H o ts) (h : Ev te σ H (.str r.word)) :
    EvT (tTest (tOp (rIn K false) te (tC (.ref o)))) σ H (p r.tag) :=
  et_is (et_test (ev_op h ev_c (rv_isT hk rfl hf))) (eq_of_beq (Tag.all ht r.tag))
theorem et_notN {v : V} (h : Ev te σ H v) : EvT (tTest (tOp (fun x y H Q => y = V.non ∧ Q (V.bl !decide (x = V.non)) H) te (tC V.non))) σ H (!decide (v = .non)) :=
  et_test (ev_op h ev_c fun H1 _ _ q => ⟨rfl, q H1 (Ex.refl H1)⟩)
theorem et_isN {v : V} (h : Ev te σ H v) : EvT (tTest (tOp (fun x y H Q => y = V.non ∧ Q (V.bl (decide (x = V.non))) H) te (tC V.non))) σ H (decide (v = .non)) :=
  et_test (ev_op h ev_c fun H1 _ _ q => ⟨rfl, q H1 (Ex.refl H1)⟩)
theorem el_if {b : Bool} {t : TT} {tb : TE} {xs : List V} (h : EvT t σ H b) (h1 : b = true → EvL ta σ H xs) (h2 : b = false → EvL tb σ H xs) : EvL (tIf t ta tb) σ H xs := fun H1 e Q q => h H1 e _ fun H2 e2 => by
  cases b with
  | true =>
    show ta σ H2 Q
    exact h1 rfl H2 (e.trans e2) Q fun p H3 hp e3 h3 => q p H3 (fresh_back e2 hp) (e2.trans e3) h3
  | false =>
    show tb σ H2 Q
    exact h2 rfl H2 (e.trans e2) Q fun p H3 hp e3 h3 => q p H3 (fresh_back e2 hp) (e2.trans e3) h3
/-- raw: any statement of value shape -/
theorem q_asgR {i : Nat} (h : te σ H fun v H1 => tz D (σ.set i (some v)) H1) : tSeq (tAsg te (gName i)) tz D σ H := h
theorem s_asgR {i : Nat} (h : te σ H fun v H1 => D.nx (σ.set i (some v)) H1) : tAsg te (gName i) D σ H := h
theorem q_dropR (h : te σ H fun _ H1 => tz D σ H1) : tSeq (tDrop te) tz D σ H := h
theorem s_dropR (h : te σ H fun _ H1 => D.nx σ H1) : tDrop te D σ H := h
theorem s_retR (h : te σ H D.rt) : tRet te D σ H := h
/-- an expression that only reads, whatever is asked of it -/
theorem r_ev {v : V} {Q : VK} (h : Ev te σ H v) (k : ∀ H1, Ex H H1 → Q v H1) : te σ H Q := h H (Ex.refl H) Q k
theorem r_op {r : R2} {Q : VK} (h : ta σ H fun x H1 => te σ H1 fun y H2 => r x y H2 Q) : tOp r ta te σ H Q := h
theorem r_cons {tr : TA} {Q : List V → Hp → Prop} (h : te σ H fun x H1 => tr σ H1 fun xs H2 => Q (x :: xs) H2) : tCons te tr σ H Q := h
theorem r_ea {tr : TA} {vs : List V} {Q : List V → Hp → Prop} (h : EvA tr σ H vs) (k : ∀ H1, Ex H H1 → Q vs H1) : tr σ H Q := h H (Ex.refl H) Q k
theorem r_call {sp : Sp} {dvs : List V} {E : XK} {tr : TA} {Q : VK} (h : tr σ H fun vs H1 => sp (vs ++ dvs) H1 Q E) : tCall sp dvs E tr σ H Q := h
/-- an item of a row -/
theorem ev_row {a : Addr} {xs : List V} {v : V} {j : Nat} (h : H a = some (.tup xs)) (hv : Ev te σ H (.ref a)) (hj : xs[j]? = some v) : Ev (tOp (rIxT K) te (tC (.int (j : Int)))) σ H v :=
  ev_op hv ev_c (rv_ixT (st_of h) (atI_nat hj))
end

/-- a block within that takes nothing from around it -/
theorem blkOk_own {N : List Str} {sc scope : Scope} {own : List (Str × Nat)} (h : blkC N { kind := .function, names := [], isGenerator := false, isCoroutine := false } scope own = true) : BlkOk N sc scope own :=
  have b := blkOk_by h
  ⟨b.kind, b.uniq, b.ix, fun y hy e => (b.free y hy e).elim (fun z => nomatch z) (fun z => nomatch z), b.own⟩
/-- a def that is called by its name -/
structure CalAt (P : Program) (w : World) (K : PySem.W.Frag) (mg : Str → Option Value) (base : Heap) (k : Nat) (x : Str) (ps : List Str) (sp : Sp) (f : Addr) (fd : FuncData) : Prop where
  ok : FnOk P w K mg base CX0 k f fd ps sp
  g : mg x = some (.ref f)
  kp : PySem.W.keepIn K (.ref f) = true
  b : Binds K fd ps []
end K51

/-! Readings by values: dicts, walks. -/
namespace K51
open PySem L2 Evl

/-! ### dicts of cells -/
def mkD (ks : List Int) : List (Key × V) := ks.map fun k => (.inl k, .bl true)
theorem valV_mkD {c : Int} : ∀ {ks : List Int}, valV (mkD ks) (Sum.inl c) = if c ∈ ks then some (.bl true) else none
  | [] => by simp [mkD, valV]
  | k :: ks => by
    show valV ((Sum.inl k, V.bl true) :: mkD ks) (Sum.inl c) = _
    by_cases e : k = c
    · subst e; rw [valV_pos rfl]; simp
    · rw [valV_neg (by intro z; exact e (Sum.inl.inj z)), valV_mkD]
      simp [Ne.symm e]
theorem put_mkD {ks : List Int} {c : Int} : putK (mkD ks) (Sum.inl c) (.bl true) = mkD (addK ks c) := by
  unfold putK addK
  rw [valV_any, valV_mkD]
  by_cases h : c ∈ ks
  · rw [if_pos h, if_pos h, if_pos (show (some (V.bl true)).isSome = true from rfl)]
    unfold mkD
    rw [List.map_map]
    refine List.map_congr_left fun k _ => ?_
    show (if (Sum.inl k : Key) = Sum.inl c then ((Sum.inl k : Key), V.bl true) else (Sum.inl k, V.bl true)) = _
    split <;> rfl
  · rw [if_neg h, if_neg h, if_neg (by simp)]
    unfold mkD; simp
theorem len_mkD {ks : List Int} : (mkD ks).length = ks.length := by unfold mkD; simp
theorem merge_mkD : ∀ {b a : List Int}, mergeK (mkD a) (mkD b) = mkD (addAll a b)
  | [], a => rfl
  | c :: b, a => by
    show mergeK (putK (mkD a) (Sum.inl c) (.bl true)) (mkD b) = mkD (addAll (addK a c) b)
    rw [put_mkD]; exact merge_mkD

/-! ### a new dict -/
def EvD (te : TE) (σ : L2.St) (H : Hp) (kvs : List (Key × V)) : Prop := ∀ H1, Ex H H1 → ∀ Q : VK, (∀ p H2, H1 p = none → Ex H1 H2 → H2 p = some (.dK kvs) → Q (.ref p) H2) → te σ H1 Q
/-- pairs that some turns give -/
def pairs (n : Nat) (f : Nat → Bool) (p : Nat → Key × V) : List (Key × V) := ((List.range n).filter f).map p
theorem pairs_yes {n : Nat} {f : Nat → Bool} {p : Nat → Key × V} (h : f n = true) : pairs (n + 1) f p = pairs n f p ++ [p n] := by
  unfold pairs
  rw [List.range_succ, List.filter_append, List.map_append, List.filter_cons, if_pos h] <;> rfl
theorem pairs_no {n : Nat} {f : Nat → Bool} {p : Nat → Key × V} (h : f n = false) : pairs (n + 1) f p = pairs n f p := by
  unfold pairs
  rw [List.range_succ, List.filter_append, List.map_append, List.filter_cons, if_neg (by rw [h]; decide)]
  show _ ++ [] = _
  rw [List.append_nil]
theorem pairs_len (n : Nat) (f : Nat → Bool) (p : Nat → Key × V) : (pairs n f p).length ≤ n := by
  unfold pairs
  rw [List.length_map]
  have h := List.length_filter_le f (List.range n)
  rw [List.length_range] at h
  exact h
theorem merge_snoc {a b : List (Key × V)} {p : Key × V} : mergeK a (b ++ [p]) = putK (mergeK a b) p.1 p.2 := by unfold mergeK; rw [List.foldl_append]; rfl
theorem merge_len : ∀ {b a : List (Key × V)}, (mergeK a b).length ≤ a.length + b.length
  | [], a => by show a.length ≤ _; simp
  | p :: b, a => by
    have h := merge_len (b := b) (a := putK a p.1 p.2)
    have h2 := length_putK a p.1 p.2
    show (mergeK (putK a p.1 p.2) b).length ≤ _
    simp only [List.length_cons]; omega
theorem merge_cells {ks : List Int} : mergeK [] (ks.map fun k => ((Sum.inl k : Key), V.bl true)) = mkD (addAll [] ks) := merge_mkD (a := [])

/-- what walks: n turns, turn i binds bd i -/
structure Wlk (g : TG) (n : Nat) (bd : Nat → L2.St → L2.St) (J : It) (H2 : Hp) : Prop where
  ok : ∃ (G : Hp → Prop) (Y : Nat → Hp → V → Hp → Prop), Walk J n G Y ∧ (∀ H3, Ex H2 H3 → G H3) ∧
    ∀ i Ha x Hb, i < n → Ex H2 Ha → Y i Ha x Hb → ∀ (σ0 : L2.St) (R : L2.St → Hp → Prop), (∀ Hc, Ex Ha Hc → R (bd i σ0) Hc) → g x σ0 Hb R
def EvI (wi : TI) (g : TG) (σ : L2.St) (H : Hp) (n : Nat) (bd : Nat → L2.St → L2.St) : Prop := ∀ H1, Ex H H1 → ∀ R : It → Hp → Prop, (∀ J H2, Ex H1 H2 → Wlk g n bd J H2 → R J H2) → wi σ H1 R

section
variable {K : PySem.W.Frag} {σ : L2.St} {H H' : Hp} {ta tb te tx tk tv : TE} {t tt : TT} {x y z v : V} {wi : TI} {g : TG} {n : Nat} {bd : Nat → L2.St → L2.St} {vs : List Nat}
theorem EvD.mono {kvs : List (Key × V)} (e : Ex H H') (h : EvD te σ H kvs) : EvD te σ H' kvs := fun H1 a Q q => h H1 (e.trans a) Q q
theorem EvI.mono (e : Ex H H') (h : EvI wi g σ H n bd) : EvI wi g σ H' n bd := fun H1 a Q q => h H1 (e.trans a) Q q
theorem ei_list {a : Addr} {xs : List V} {tl : TE} {j : Nat} (h : Ev tl σ H (.ref a)) (hx : SqL K H a xs) : EvI (iList K tl) (gName j) σ H xs.length fun i s => s.set j xs[i]? := fun H1 e R k =>
  h H1 e _ fun H2 e2 => ⟨a, rfl, ⟨xs, ex_l (e.trans e2) hx⟩, k _ H2 e2 ⟨_, _, walk_list (K := K) (a := a) (xs := xs), fun H3 e3 => ex_l ((e.trans e2).trans e3) hx, fun i Ha x Hb _ _ y σ0 R r => by
    obtain ⟨rfl, hx⟩ := y
    show R (σ0.set j (some x)) Hb
    have q := r Hb (Ex.refl Hb)
    rw [hx] at q
    exact q⟩⟩
theorem ei_listN {xs : List V} {tl : TE} {j : Nat} (h : EvL tl σ H xs) : EvI (iList K tl) (gName j) σ H xs.length fun i s => s.set j xs[i]? := fun H1 e R k =>
  h H1 e _ fun a H2 _ e2 hx => ⟨a, rfl, ⟨xs, sq_of hx⟩, k _ H2 e2 ⟨_, _, walk_list (K := K) (a := a) (xs := xs), fun H3 e3 => ex_l e3 (sq_of hx), fun i Ha x Hb _ _ y σ0 R r => by
    obtain ⟨rfl, hx⟩ := y
    show R (σ0.set j (some x)) Hb
    have q := r Hb (Ex.refl Hb)
    rw [hx] at q
    exact q⟩⟩
theorem ei_tup {a : Addr} {xs : List V} {tl : TE} {j : Nat} (h : Ev tl σ H (.ref a)) (hx : SqT K H a xs) : EvI (iTup K tl) (gName j) σ H xs.length fun i s => s.set j xs[i]? := fun H1 e R k =>
  h H1 e _ fun H2 e2 => ⟨a, rfl, ⟨xs, ex_t (e.trans e2) hx⟩, k _ H2 e2 ⟨_, _, walk_tup (K := K) (a := a) (xs := xs), fun H3 e3 => ex_t ((e.trans e2).trans e3) hx, fun i Ha x Hb _ _ y σ0 R r => by
    obtain ⟨rfl, hx⟩ := y
    show R (σ0.set j (some x)) Hb
    have q := r Hb (Ex.refl Hb)
    rw [hx] at q
    exact q⟩⟩
/-- the two names of a pair -/
abbrev g2 (K : PySem.W.Frag) (j k : Nat) : TG := gTup K 2 (gCons (gName j) (gCons (gName k) gNil))
theorem g2_go {T : Addr} {j k : Nat} {σ0 : L2.St} {Ha : Hp} {R : L2.St → Hp → Prop} (hT : Ha T = none) (r : ∀ Hc, Ex Ha Hc → R ((σ0.set j (some x)).set k (some y)) Hc) : g2 K j k (.ref T) σ0 (upd Ha T (.tup [x, y])) R :=
  ⟨T, [x, y], rfl, st_of upd_same, rfl, x, [y], rfl, y, [], rfl, rfl, r _ (Ex.new hT)⟩
theorem ei_enum {a : Addr} {xs : List V} {ta : TA} {j k : Nat} (h : EvA ta σ H [.ref a]) (hx : SqL K H a xs) : EvI (iEnum K ta) (g2 K j k) σ H xs.length fun i s => (s.set j (some (.int (i : Nat)))).set k xs[i]? := fun H1 e R q =>
  h H1 e _ fun H2 e2 => ⟨a, xs, rfl, ex_l (e.trans e2) hx, q _ H2 e2 ⟨_, _, walk_enum (K := K) (a := a) (xs := xs), fun H3 e3 => ex_l ((e.trans e2).trans e3) hx, fun i Ha x Hb _ _ y σ0 R r => by
    obtain ⟨T, x, y, rfl, hT, rfl, h1, h2⟩ := y
    cases h1
    refine g2_go hT fun Hc ec => ?_
    have := r Hc ec
    rw [show xs[i]? = some y from h2] at this
    exact this⟩⟩
theorem ei_enumT {a : Addr} {xs : List V} {ta : TA} {j k : Nat} (h : EvA ta σ H [.ref a]) (hx : SqT K H a xs) : EvI (iEnumT K ta) (g2 K j k) σ H xs.length fun i s => (s.set j (some (.int (i : Nat)))).set k xs[i]? := fun H1 e R q =>
  h H1 e _ fun H2 e2 => ⟨a, xs, rfl, ex_t (e.trans e2) hx, q _ H2 e2 ⟨_, _, walk_enumT (K := K) (a := a) (xs := xs), fun H3 e3 => ex_t ((e.trans e2).trans e3) hx, fun i Ha x Hb _ _ y σ0 R r => by
    obtain ⟨T, x, y, rfl, hT, rfl, h1, h2⟩ := y
    cases h1
    refine g2_go hT fun Hc ec => ?_
    have := r Hc ec
    rw [show xs[i]? = some y from h2] at this
    exact this⟩⟩
/-- zip of a list with a new list -/
theorem ei_zip {a : Addr} {xs ys : List V} {j k : Nat} (h : Ev ta σ H (.ref a)) (hx : SqL K H a xs) (h2 : EvL tb σ H ys) : EvI (iZip K (tCons ta (tCons tb tNil))) (g2 K j k) σ H (min xs.length ys.length) fun i s => (s.set j xs[i]?).set k ys[i]? := fun H1 e R q =>
  h H1 e _ fun H2 e2 => h2 H2 (e.trans e2) _ fun b H3 hb e3 h3 => ⟨a, b, xs, ys, rfl, ex_l ((e.trans e2).trans e3) hx, sq_of h3, q _ H3 (e2.trans e3) ⟨_, _, walk_zip (K := K) (a := a) (b := b) (xs := xs) (ys := ys) rfl, fun H4 e4 => ⟨ex_l (((e.trans e2).trans e3).trans e4) hx, ex_l e4 (sq_of h3)⟩, fun i Ha x Hb _ _ y σ0 R r => by
    obtain ⟨T, x, y, rfl, hT, rfl, h1, h2⟩ := y
    refine g2_go hT fun Hc ec => ?_
    have := r Hc ec
    rw [show xs[i]? = some x from h1, show ys[i]? = some y from h2] at this
    exact this⟩⟩

/-- a dict comprehension -/
theorem ed_dc (f : Nat → Bool) (p : Nat → Key × V) (hi : EvI wi g σ H n bd) (hn : n ≤ 40000) (hw : ∀ i, i < n → wipe (bd i (wipe σ vs)) vs = wipe σ vs)
    (ht : ∀ i H1, Ex H H1 → i < n → EvT tt (bd i (wipe σ vs)) H1 (f i)) (hk : ∀ i H1, Ex H H1 → i < n → f i = true → Ev tk (bd i (wipe σ vs)) H1 (kV (p i).1)) (hv : ∀ i H1, Ex H H1 → i < n → f i = true → Ev tv (bd i (wipe σ vs)) H1 (p i).2) :
    EvD (tDc wi g tt tk tv vs) σ H (mergeK [] (pairs n f p)) := fun H0 e Q q => hi H0 e _ fun J H1 e1 w D hD => by
  obtain ⟨G, Y, wk, hG, hY⟩ := w.ok
  refine dc_it wk (fun i H' => H1 D = none ∧ Ex H1 H' ∧ H' D = some (.dK (mergeK [] (pairs i f p)))) ⟨hD, Ex.new hD, upd_same⟩ (fun i H' _ z => hG H' z.2.1) (fun i x Ha Hb hin z y => ?_) (fun H' z => q D H' (fresh_back e1 z.1) (e1.trans z.2.1) z.2.2)
  obtain ⟨z1, z2, z3⟩ := z
  refine hY i Ha x Hb hin z2 y (wipe σ vs) _ fun Hc ec => ⟨hw i hin, ?_⟩
  have eH : Ex H Hc := e.trans (e1.trans (z2.trans ec))
  refine ht i Hc eH hin Hc (Ex.refl Hc) _ fun H3 e3 => ?_
  cases hf : f i with
  | true =>
    show tk _ H3 _
    refine hk i H3 (eH.trans e3) hin hf H3 (Ex.refl H3) _ fun H4 e4 => ?_
    refine hv i H4 ((eH.trans e3).trans e4) hin hf H4 (Ex.refl H4) _ fun H5 e5 => ?_
    have e15 := z2.trans (ec.trans (e3.trans (e4.trans e5)))
    refine ⟨mergeK [] (pairs i f p), (p i).1, rfl, (ec.trans (e3.trans (e4.trans e5))) _ _ z3, ?_, z1, Ex.mut e15 z1, ?_⟩
    · have h1 := merge_len (a := []) (b := pairs i f p)
      have h2 := pairs_len i f p
      simp at h1
      exact sz_lt (by omega)
    · rw [upd_same, pairs_yes hf, merge_snoc]
  | false =>
    show _ ∧ _ ∧ _
    refine ⟨z1, z2.trans (ec.trans e3), ?_⟩
    rw [pairs_no hf]
    exact (ec.trans e3) _ _ z3
/-- a list comprehension -/
theorem el_lc (f : Nat → Bool) (p : Nat → V) (hi : EvI wi g σ H n bd) (hn : n ≤ 40000) (hw : ∀ i, i < n → wipe (bd i (wipe σ vs)) vs = wipe σ vs)
    (ht : ∀ i H1, Ex H H1 → i < n → EvT tt (bd i (wipe σ vs)) H1 (f i)) (hk : ∀ i H1, Ex H H1 → i < n → f i = true → Ev te (bd i (wipe σ vs)) H1 (p i)) :
    EvL (tLc wi g tt te vs) σ H (given n f p) := fun H0 e Q q => hi H0 e _ fun J H1 e1 w D hD => by
  obtain ⟨G, Y, wk, hG, hY⟩ := w.ok
  refine lc_it wk (fun i H' => H1 D = none ∧ Ex H1 H' ∧ H' D = some (.lst (given i f p))) ⟨hD, Ex.new hD, upd_same⟩ (fun i H' _ z => hG H' z.2.1) (fun i x Ha Hb hin z y => ?_) (fun H' z => q D H' (fresh_back e1 z.1) (e1.trans z.2.1) z.2.2)
  obtain ⟨z1, z2, z3⟩ := z
  refine hY i Ha x Hb hin z2 y (wipe σ vs) _ fun Hc ec => ⟨hw i hin, ?_⟩
  have eH : Ex H Hc := e.trans (e1.trans (z2.trans ec))
  refine ht i Hc eH hin Hc (Ex.refl Hc) _ fun H3 e3 => ?_
  cases hf : f i with
  | true =>
    show te _ H3 _
    refine hk i H3 (eH.trans e3) hin hf H3 (Ex.refl H3) _ fun H5 e5 => ?_
    have e15 := z2.trans (ec.trans (e3.trans e5))
    refine ⟨given i f p, (ec.trans (e3.trans e5)) _ _ z3, sz_lt (by have := given_len i f p; omega), z1, Ex.mut e15 z1, ?_⟩
    rw [upd_same, given_yes hf]
  | false =>
    show _ ∧ _ ∧ _
    refine ⟨z1, z2.trans (ec.trans e3), ?_⟩
    rw [given_no hf]
    exact (ec.trans e3) _ _ z3
/-- yes, at every turn -/
theorem et_yes : EvT tYes σ H true := fun H1 _ Q q => q H1 (Ex.refl H1)

/-! ### statements -/
variable {D : Ends} {tu tw tz : TS}
theorem q_asgD {i : Nat} {kvs : List (Key × V)} (h : EvD te σ H kvs) (k : ∀ p H1, H p = none → Ex H H1 → H1 p = some (.dK kvs) → tz D (σ.set i (some (.ref p))) H1) : tSeq (tAsg te (gName i)) tz D σ H := h H (Ex.refl H) _ fun p H1 hp e h1 => k p H1 hp e h1
theorem s_asgD {i : Nat} {kvs : List (Key × V)} (h : EvD te σ H kvs) (k : ∀ p H1, H p = none → Ex H H1 → H1 p = some (.dK kvs) → D.nx (σ.set i (some (.ref p))) H1) : tAsg te (gName i) D σ H := h H (Ex.refl H) _ fun p H1 hp e h1 => k p H1 hp e h1
/-- for i, x in enumerate(..) -/
theorem q_forE {a : Addr} {xs : List V} {ta : TA} {j k : Nat} (h : EvA ta σ H [.ref a]) (hx : SqL K H a xs) (Pv : Nat → L2.St → Hp → Prop) (h0 : ∀ H1, Ex H H1 → Pv 0 σ H1) (hl : ∀ i σ' H', i ≤ xs.length → Pv i σ' H' → SqL K H' a xs)
    (hs : ∀ i x σ' Ha Hb, xs[i]? = some x → Pv i σ' Ha → Ex Ha Hb → tu { D with nx := Pv (i + 1), ct := Pv (i + 1), bk := tz D } ((σ'.set j (some (.int (i : Nat)))).set k (some x)) Hb) (hd : ∀ σ' H', Pv xs.length σ' H' → tz D σ' H') : tSeq (tFor (iEnum K ta) (g2 K j k) tu) tz D σ H :=
  h H (Ex.refl H) _ fun H1 e => ⟨a, xs, rfl, ex_l e hx, for_it walk_enum Pv (h0 H1 e) (fun i σ' H' hi p => hl i σ' H' hi p) (fun i x σ' Ha Hb hi p y => by
    obtain ⟨T, x, y, rfl, hT, rfl, h1, h2⟩ := y
    cases h1
    exact g2_go hT fun Hc ec => hs i y σ' Ha Hc h2 p ec) hd⟩
theorem q_forET {a : Addr} {xs : List V} {ta : TA} {j k : Nat} (h : EvA ta σ H [.ref a]) (hx : SqT K H a xs) (Pv : Nat → L2.St → Hp → Prop) (h0 : ∀ H1, Ex H H1 → Pv 0 σ H1) (hl : ∀ i σ' H', i ≤ xs.length → Pv i σ' H' → SqT K H' a xs)
    (hs : ∀ i x σ' Ha Hb, xs[i]? = some x → Pv i σ' Ha → Ex Ha Hb → tu { D with nx := Pv (i + 1), ct := Pv (i + 1), bk := tz D } ((σ'.set j (some (.int (i : Nat)))).set k (some x)) Hb) (hd : ∀ σ' H', Pv xs.length σ' H' → tz D σ' H') : tSeq (tFor (iEnumT K ta) (g2 K j k) tu) tz D σ H :=
  h H (Ex.refl H) _ fun H1 e => ⟨a, xs, rfl, ex_t e hx, for_it walk_enumT Pv (h0 H1 e) (fun i σ' H' hi p => hl i σ' H' hi p) (fun i x σ' Ha Hb hi p y => by
    obtain ⟨T, x, y, rfl, hT, rfl, h1, h2⟩ := y
    cases h1
    exact g2_go hT fun Hc ec => hs i y σ' Ha Hc h2 p ec) hd⟩
end

/-! ### one pair of many -/
theorem valV_pairs {f : Nat → Bool} {p : Nat → Key × V} {j : Nat} (hj : f j = true) (hu : ∀ i, f i = true → (p i).1 = (p j).1 → i = j) : ∀ {n : Nat}, j < n → valV (mergeK [] (pairs n f p)) (p j).1 = some (p j).2
  | 0, h => by omega
  | n + 1, h => by
    cases hf : f n with
    | true =>
      rw [pairs_yes hf, merge_snoc, valV_put]
      by_cases e : (p j).1 = (p n).1
      · rw [if_pos e, hu n hf e.symm]
      · rw [if_neg e]
        have hne : j ≠ n := fun z => e (by rw [z])
        exact valV_pairs hj hu (by omega)
    | false =>
      rw [pairs_no hf]
      have hne : j ≠ n := fun z => by rw [z, hf] at hj; cases hj
      exact valV_pairs hj hu (by omega)
section
variable {K : PySem.W.Frag} {σ : L2.St} {H H' : Hp} {ta tb te td : TE} {v : V} {D : Ends} {tz : TS}
/-- d[k] -/
theorem ev_dget {a : Addr} {kvs : List (Key × V)} {k : Key} (hd : H a = some (.dK kvs)) (h1 : Ev td σ H (.ref a)) (h2 : Ev te σ H (kV k)) (hv : valV kvs k = some v) : Ev (tDGet td te) σ H v := fun H1 e Q q =>
  h1 H1 e _ fun H2 e2 => h2 H2 (e.trans e2) _ fun H3 e3 => ⟨a, v, rfl, by rw [← hv]; exact DGet.k (((e.trans e2).trans e3) _ _ hd), q H3 (e2.trans e3)⟩
theorem ev_din {a : Addr} {kvs : List (Key × V)} {k : Key} (hd : H a = some (.dK kvs)) (h2 : Ev te σ H (kV k)) (h1 : Ev td σ H (.ref a)) : Ev (tDIn te td) σ H (.bl (valV kvs k).isSome) := fun H1 e Q q =>
  h2 H1 e _ fun H2 e2 => h1 H2 (e.trans e2) _ fun H3 e3 => ⟨a, _, rfl, DGet.k (((e.trans e2).trans e3) _ _ hd), q H3 (e2.trans e3)⟩
theorem ev_dnotin {a : Addr} {kvs : List (Key × V)} {k : Key} (hd : H a = some (.dK kvs)) (h2 : Ev te σ H (kV k)) (h1 : Ev td σ H (.ref a)) : Ev (tDNotIn te td) σ H (.bl (!(valV kvs k).isSome)) := fun H1 e Q q =>
  h2 H1 e _ fun H2 e2 => h1 H2 (e.trans e2) _ fun H3 e3 => ⟨a, _, rfl, DGet.k (((e.trans e2).trans e3) _ _ hd), q H3 (e2.trans e3)⟩
/-- xs.extend(ys), ys new -/
theorem q_extL {l : Addr} {xs ys : List V} (hl : H l = some (.lst xs)) (ha : Ev ta σ H (.ref l)) (h : EvL te σ H ys) (hz : xs.length + ys.length ≤ 100000) (k : ∀ H1, Ex H H1 → tz D σ (upd H1 l (.lst (xs ++ ys)))) :
    tSeq (tDrop (tBM K "list" rExtend ta (tCons te tNil))) tz D σ H := ha H (Ex.refl H) _ fun H1 e1 =>
  ⟨Or.inl ⟨rfl, xs, sq_of (e1 l _ hl)⟩, h H1 e1 _ fun p H2 hp e2 h2 => ⟨l, p, xs, ys, rfl, rfl, e2 l _ (e1 l _ hl), h2, sz_of hz, k H2 (e1.trans e2)⟩⟩
theorem s_extL {l : Addr} {xs ys : List V} (hl : H l = some (.lst xs)) (ha : Ev ta σ H (.ref l)) (h : EvL te σ H ys) (hz : xs.length + ys.length ≤ 100000) (k : ∀ H1, Ex H H1 → D.nx σ (upd H1 l (.lst (xs ++ ys)))) :
    tDrop (tBM K "list" rExtend ta (tCons te tNil)) D σ H := ha H (Ex.refl H) _ fun H1 e1 =>
  ⟨Or.inl ⟨rfl, xs, sq_of (e1 l _ hl)⟩, h H1 e1 _ fun p H2 hp e2 h2 => ⟨l, p, xs, ys, rfl, rfl, e2 l _ (e1 l _ hl), h2, sz_of hz, k H2 (e1.trans e2)⟩⟩
end

section
variable {σ : L2.St} {H : Hp} {te : TE} {t : TT} {v : V} {D : Ends} {tu tz : TS}
theorem nxM {A B C : L2.St → Hp → Prop} {R : VK} (h : A σ H) : (Ends.mk A R B C).nx σ H := h
theorem rtM {A B C : L2.St → Hp → Prop} {R : VK} (h : R v H) : (Ends.mk A R B C).rt v H := h
theorem q_whenK {b : Bool} (M : Hp → Prop) (h : EvT t σ H b) (k : ∀ H1, M H1 → tz D σ H1) (h1 : b = true → ∀ H1, Ex H H1 → (∀ H2, M H2 → tz D σ H2) → tu { D with nx := tz D } σ H1) (h2 : b = false → ∀ H1, Ex H H1 → M H1) : tSeq (tIfS t tu tNext) tz D σ H :=
  q_when h (fun hb H1 e => h1 hb H1 e k) (fun hb H1 e => k H1 (h2 hb H1 e))
end
end K51

/-! Readings: walks over dicts of cells, two clauses, updates. -/
namespace K51
open PySem L2 Evl
section
variable {K : PySem.W.Frag} {σ : L2.St} {H H' : Hp} {ta tb te tx tk tv : TE} {t tt : TT} {x y z v : V} {wi : TI} {g : TG} {n : Nat} {bd : Nat → L2.St → L2.St} {vs : List Nat} {D : Ends} {tu tw tz : TS}
theorem ei_keys {d : Addr} {o : Obj} {ks : List Int} {j : Nat} (h : Ev te σ H (.ref d)) (hd : H d = some (.frz o (.dK (mkD ks)))) : EvI (iKeys te) (gName j) σ H ks.length fun i s => s.set j (ks.map V.int)[i]? := fun H1 e R k =>
  h H1 e _ fun H2 e2 => ⟨d, o, rfl, .inl ⟨mkD ks, (e.trans e2) _ _ hd, k _ H2 e2 ⟨_, _, by rw [← len_mkD]; exact walk_keys (d := d) (o := o) (kvs := mkD ks), fun H3 e3 => ((e.trans e2).trans e3) _ _ hd, fun i Ha x Hb _ _ y σ0 R r => by
    obtain ⟨rfl, kk, vv, hx, rfl⟩ := y
    show R (σ0.set j (some (kV kk))) Hb
    have q := r Hb (Ex.refl Hb)
    unfold mkD at hx
    rw [List.getElem?_map] at hx
    rw [List.getElem?_map] at q
    cases hk : ks[i]? with
    | none => rw [hk] at hx; cases hx
    | some c =>
      rw [hk] at hx q
      have e : ((Sum.inl c : Key), V.bl true) = (kk, vv) := Option.some.inj hx
      have e1 : kk = Sum.inl c := (congrArg Prod.fst e).symm
      rw [e1]; exact q⟩⟩⟩
/-- of flat cells that pass a test -/
theorem cells_given {ks : List Int} (f : Int → Bool) : ∀ n, n ≤ ks.length → pairs n (fun i => f ((ks[i]?).getD 0)) (fun i => ((Sum.inl ((ks[i]?).getD 0) : Key), V.bl true)) = ((ks.take n).filter f).map fun c => ((Sum.inl c : Key), V.bl true)
  | 0, _ => rfl
  | n + 1, h => by
    have hlt : n < ks.length := h
    have hk : ks[n]? = some ks[n] := List.getElem?_eq_getElem hlt
    have ih := cells_given (ks := ks) f n (Nat.le_of_lt hlt)
    rw [take_succ_some hk, List.filter_append, List.map_append, ← ih]
    cases hf : f ks[n] with
    | true => rw [pairs_yes (by rw [hk]; exact hf)]; simp [hf, hk]
    | false => rw [pairs_no (by rw [hk]; exact hf)]; simp [hf]
/-- a dict of cells, from cells -/
theorem ed_cells {ks : List Int} {j : Nat} (f : Int → Bool) (hi : EvI wi g σ H ks.length fun i s => s.set j (ks.map V.int)[i]?) (hn : ks.length ≤ 40000) (hw : ∀ x, wipe ((wipe σ vs).set j x) vs = wipe σ vs) (hj : ∀ x : Option V, ((wipe σ vs).set j x)[j]? = some x)
    (ht : ∀ c H1, Ex H H1 → c ∈ ks → EvT tt ((wipe σ vs).set j (some (.int c))) H1 (f c)) : EvD (tDc wi g tt (tVar j) (tC (.bl true)) vs) σ H (mkD (addAll [] (ks.filter f))) := by
  have := ed_dc (tt := tt) (tk := tVar j) (tv := tC (.bl true)) (fun i => f ((ks[i]?).getD 0)) (fun i => ((Sum.inl ((ks[i]?).getD 0) : Key), V.bl true)) hi (vs := vs) hn (fun i _ => hw _) (fun i H1 e1 hi => ?_) (fun i H1 e1 hi hf => ?_) (fun i H1 e1 hi hf => ev_c)
  · rw [cells_given f _ (Nat.le_refl _), List.take_length, merge_cells] at this
    exact this
  · rw [List.getElem?_map, List.getElem?_eq_getElem hi]
    exact ht _ H1 e1 (List.getElem_mem _)
  · rw [List.getElem?_map, List.getElem?_eq_getElem hi]
    exact ev_var (hj _)
theorem keep_all {ks : List Int} : ks.filter (fun _ => true) = ks := List.filter_eq_self.mpr fun _ _ => rfl

/-- all stays but what is at d -/
def But (d : Addr) (H H' : Hp) : Prop := ∀ b o, H b = some o → b ≠ d → H' b = some o
theorem But.tl {d : Addr} {kvs : List (Key × V)} (hd : H d = some (.dK kvs)) (h : But d H H') : TL H H' := fun a xs e => h a _ e fun z => by rw [z, hd] at e; cases e
/-- name = {c: True for c in d if ..}, d locked -/
theorem q_lockDc {d : Addr} {ks : List Int} {i j m : Nat} (f : Int → Bool) (hd : H d = some (.dK (mkD ks))) (hi : σ[i]? = some (some (.ref d))) (hn : ks.length ≤ 40000) (hw : ∀ x, wipe ((wipe σ vs).set j x) vs = wipe σ vs) (hj : ∀ x : Option V, ((wipe σ vs).set j x)[j]? = some x)
    (ht : ∀ c H1, But d H H1 → c ∈ ks → EvT tt ((wipe σ vs).set j (some (.int c))) H1 (f c)) (k : ∀ p H1, H p = none → Ex H H1 → H1 p = some (.dK (mkD (addAll [] (ks.filter f)))) → tz D (σ.set m (some (.ref p))) H1) :
    tSeq (tLock (tAsg (tDc (iKeys (tVar i)) (gName j) tt (tVar j) (tC (.bl true)) vs) (gName m))) tz D σ H := by
  refine ⟨d, .dK (mkD ks), hd, trivial, fun od => ?_⟩
  have hL : But d H (upd H d (.frz od (.dK (mkD ks)))) := fun b o e hb => by rw [upd_ne hb]; exact e
  refine ed_cells f (ei_keys (ev_var hi) (upd_same)) hn hw hj (fun c H1 e1 hc => ht c H1 (fun b o e hb => e1 _ _ (hL b o e hb)) hc) _ (Ex.refl _) _ fun p H2 hp e2 h2 => ?_
  have hpd : p ≠ d := fun z => by rw [z, upd_same] at hp; cases hp
  rw [upd_ne hpd] at hp
  refine ⟨e2 _ _ upd_same, k p _ hp (fun a o ha => ?_) (by rw [upd_ne hpd]; exact h2)⟩
  by_cases e : a = d
  · rw [e] at ha ⊢; rw [upd_same, ← hd, ha]
  · rw [upd_ne e]; exact e2 _ _ (by rw [upd_ne e]; exact ha)

/-- lists of dicts of cells -/
def SetsAt (H : Hp) (l : Addr) (ks : List (List Int)) : Prop := ∃ ds : List Addr, H l = some (.lst (ds.map V.ref)) ∧ All2 (fun d k => H d = some (.dK (mkD k))) ds ks
theorem SetsAt.ex {l : Addr} {ks : List (List Int)} (e : Ex H H') (h : SetsAt H l ks) : SetsAt H' l ks :=
  let ⟨ds, h1, h2⟩ := h
  ⟨ds, e _ _ h1, h2.imp fun _ _ q => e _ _ q⟩
/-- one of the dicts is changed for another -/
theorem SetsAt.set {l p : Addr} {ks : List (List Int)} {k : List Int} {i : Nat} {ds : List V} (h : SetsAt H l ks) (hp : H p = some (.dK (mkD k))) (hl : H l = some (.lst ds)) (hi : i < ks.length) : SetsAt (upd H l (.lst (ds.set i (.ref p)))) l (ks.set i k) := by
  obtain ⟨es, h1, h2, h3⟩ := h
  rw [h1] at hl
  have e : ds = es.map V.ref := by cases hl; rfl
  subst e
  refine ⟨es.set i p, by rw [upd_same, List.map_set], by simp [h2], fun j a b ha hb => ?_⟩
  have hne : ∀ {a : Addr} {k : List Int}, H a = some (.dK (mkD k)) → a ≠ l := fun q z => by rw [z, h1] at q; cases q
  by_cases e : j = i
  · subst e
    rw [List.getElem?_set_self (by rw [h2]; exact hi)] at ha
    rw [List.getElem?_set_self hi] at hb
    cases ha; cases hb
    show upd _ _ _ p = _
    rw [upd_ne (hne hp)]; exact hp
  · rw [List.getElem?_set_ne (Ne.symm e)] at ha hb
    have q := h3 j a b ha hb
    show upd _ _ _ a = _
    rw [upd_ne (hne q)]; exact q
/-- a list that is none of these is changed -/
theorem SetsAt.other {l m : Addr} {ks : List (List Int)} {xs : List V} {o : HO} (h : SetsAt H l ks) (hm : H m = some (.lst xs)) (hml : l ≠ m) : SetsAt (upd H m o) l ks := by
  obtain ⟨es, h1, h2⟩ := h
  refine ⟨es, by rw [upd_ne hml]; exact h1, h2.imp fun a b q => ?_⟩
  rw [upd_ne (fun z => by rw [z, hm] at q; cases q)]; exact q
theorem SetsAt.get {l : Addr} {ks : List (List Int)} (h : SetsAt H l ks) {i : Nat} (hi : i < ks.length) : ∃ (ds : List Addr) (d : Addr), H l = some (.lst (ds.map V.ref)) ∧ ds.length = ks.length ∧ (ds.map V.ref)[i]? = some (.ref d) ∧ H d = some (.dK (mkD (at' ks i))) := by
  obtain ⟨ds, h1, h2⟩ := h
  obtain ⟨d, h3, h4⟩ := h2.get' (List.getElem?_eq_getElem hi)
  exact ⟨ds, d, h1, h2.1, by rw [List.getElem?_map, h3]; rfl, by unfold at'; rw [List.getElem?_eq_getElem hi]; exact h4⟩

/-- {c: True for j in js for c in sets[j]} -/
theorem ed_dc2 {A : Addr} {js : List Int} {ka : List (List Int)} {a o j : Nat} {vs1 : List Nat} (hi : EvI wi (gName o) σ H js.length fun i s => s.set o (js.map V.int)[i]?) (hs : SetsAt H A ka) (hjs : ∀ c ∈ js, 0 ≤ c ∧ c.toNat < ka.length)
    (hw : ∀ x, wipe ((wipe σ vs).set o x) vs = wipe σ vs) (hA : ∀ x : Option V, ((wipe σ vs).set o x)[a]? = some (some (.ref A))) (ho : ∀ x : Option V, ((wipe σ vs).set o x)[o]? = some x)
    (hw1 : ∀ x y, wipe ((wipe ((wipe σ vs).set o x) vs1).set j y) vs1 = wipe ((wipe σ vs).set o x) vs1) (hj : ∀ x y : Option V, ((wipe ((wipe σ vs).set o x) vs1).set j y)[j]? = some y) (hz : ∀ ms : List Int, (nowK ka ms).length ≤ 90000) (hz2 : ∀ ms (i : Nat) m, (addAll (nowK ka ms) ((at' ka i).take m)).length ≤ 90000) :
    EvD (tDc2 wi (gName o) tYes (iKeys (tOp (rIxL K) (tVar a) (tVar o))) (gName j) tYes (tVar j) (tC (.bl true)) vs vs1) σ H (mkD (nowK ka js)) := fun H0 e Q q => hi H0 e _ fun J H1 e1 w D hD => by
  obtain ⟨G, Y, wk, hG, hY⟩ := w.ok
  have hsets : SetsAt H1 A ka := hs.ex (e.trans e1)
  refine ⟨fun i m H' => m = js.length - i ∧ i ≤ js.length ∧ H1 D = none ∧ Ex H1 H' ∧ H' D = some (.dK (mkD (nowK ka (js.take i)))), ⟨js.length, by simp, Nat.zero_le _, hD, Ex.new hD, by rw [upd_same]; rfl⟩, ?_⟩
  rintro i m H' ⟨rfl, hin, z1, z2, z3⟩
  by_cases hlt : i < js.length
  · refine .inr ⟨wk.goes i H' hlt (hG H' z2), fun H'' => i + 1 ≤ js.length ∧ H1 D = none ∧ Ex H1 H'' ∧ H'' D = some (.dK (mkD (nowK ka (js.take (i + 1))))), fun H'' p => ⟨js.length - (i + 1), by omega, rfl, p.1, p.2⟩, fun x Hb y => ?_⟩
    refine hY i H' x Hb hlt z2 (wk.yields i H' x Hb hlt (hG H' z2) y) (wipe σ vs) _ fun Hc ec => ⟨hw _, ?_⟩
    have hc : (js.map V.int)[i]? = some (.int js[i]) := by rw [List.getElem?_map, List.getElem?_eq_getElem hlt]; rfl
    have hc2 : js[i]? = some js[i] := List.getElem?_eq_getElem hlt
    obtain ⟨c0, c1⟩ := hjs js[i] (List.getElem_mem _)
    generalize js[i] = c at hc c0 c1 hc2
    rw [hc]
    have e1c : Ex H1 Hc := z2.trans ec
    obtain ⟨ds, d, g1, g2, g3, g4⟩ := (hsets.ex e1c).get c1
    have hDc : Hc D = some (.dK (mkD (nowK ka (js.take i)))) := ec _ _ z3
    have h1d : H1 d = some (.dK (mkD (at' ka c.toNat))) := by
      obtain ⟨ds', d', k1, k2, k3, k4⟩ := hsets.get c1
      have := e1c _ _ k1
      rw [g1] at this
      have em : ds.map V.ref = ds'.map V.ref := HO.lst.inj (Option.some.inj this)
      rw [em, k3] at g3
      cases g3
      exact k4
    have hDd : D ≠ d := fun z => by rw [z, h1d] at z1; cases z1
    have hAd : A ≠ d := fun z => by rw [z, g4] at g1; cases g1
    dsimp only [tYes]
    rw [if_pos rfl]
    refine ⟨d, _, g4, trivial, fun od => ?_⟩
    have hlist : Ev (tOp (rIxL K) (tVar a) (tVar o)) ((wipe σ vs).set o (some (.int c))) (upd Hc d (.frz od (.dK (mkD (at' ka c.toNat))))) (.ref d) :=
      ev_op (ev_var (hA _)) (ev_var (ho _)) (rv_ixL (xs := ds.map V.ref) (sq_of (by rw [upd_ne hAd]; exact g1)) (by
        have : c = ((c.toNat : Nat) : Int) := by omega
        rw [this]; exact atI_nat g3))
    refine hlist _ (Ex.refl _) _ fun H4 e4 => ?_
    have kd4 : H4 d = some (.frz od (.dK (mkD (at' ka c.toNat)))) := e4 _ _ upd_same
    have hD4 : H4 D = some (.dK (mkD (nowK ka (js.take i)))) := e4 _ _ (by rw [upd_ne hDd]; exact hDc)
    refine ⟨d, od, rfl, .inl ⟨_, kd4, ?_⟩⟩
    have wk1 := walk_keys (d := d) (o := od) (kvs := mkD (at' ka c.toNat))
    rw [len_mkD] at wk1
    refine ⟨fun m n' H5 => n' = (at' ka c.toNat).length - m ∧ m ≤ (at' ka c.toNat).length ∧ (∀ b u, H4 b = some u → b ≠ D → H5 b = some u) ∧ H5 D = some (.dK (mkD (addAll (nowK ka (js.take i)) ((at' ka c.toNat).take m)))), ⟨_, rfl, Nat.zero_le _, fun b u hb _ => hb, hD4⟩, ?_⟩
    rintro m n' H5 ⟨rfl, hm, y1, y2⟩
    have kd5 : H5 d = some (.frz od (.dK (mkD (at' ka c.toNat)))) := y1 _ _ kd4 (Ne.symm hDd)
    by_cases hmt : m < (at' ka c.toNat).length
    · refine .inr ⟨wk1.goes m H5 hmt kd5, fun H6 => m + 1 ≤ (at' ka c.toNat).length ∧ (∀ b u, H4 b = some u → b ≠ D → H6 b = some u) ∧ H6 D = some (.dK (mkD (addAll (nowK ka (js.take i)) ((at' ka c.toNat).take (m + 1))))), fun H6 p => ⟨(at' ka c.toNat).length - (m + 1), by omega, rfl, p.1, p.2⟩, fun x H6 y => ?_⟩
      obtain ⟨rfl, kk, vv, hx, rfl⟩ := wk1.yields m H5 x H6 hmt kd5 y
      have hkm : (at' ka c.toNat)[m]? = some (at' ka c.toNat)[m] := List.getElem?_eq_getElem hmt
      generalize (at' ka c.toNat)[m] = e at hkm
      unfold mkD at hx
      rw [List.getElem?_map, hkm] at hx
      have ee : ((Sum.inl e : Key), V.bl true) = (kk, vv) := Option.some.inj hx
      have ek : kk = Sum.inl e := (congrArg Prod.fst ee).symm
      subst ek
      show gName j (.int e) _ H6 _
      refine ⟨hw1 _ _, ?_⟩
      dsimp only [tYes]
      rw [if_pos rfl]
      refine ⟨.int e, hj _ _, _, Sum.inl e, rfl, y2, ?_, hmt, fun b u hb hbD => by rw [upd_ne hbD]; exact y1 b u hb hbD, ?_⟩
      · rw [len_mkD]
        exact sz_lt (by have := hz2 (js.take i) c.toNat m; omega)
      · rw [upd_same, put_mkD, take_succ_some hkm, addAll_snoc]
    · have em : m = (at' ka c.toNat).length := by omega
      subst em
      rw [List.take_length] at y2
      refine .inl ⟨wk1.stops H5 kd5, kd5, hlt, z1, fun b u hb => ?_, ?_⟩
      · by_cases ebd : b = d
        · rw [ebd, h1d] at hb
          rw [ebd, upd_same]; exact hb
        · rw [upd_ne ebd]
          have hbD : b ≠ D := fun z => by rw [z, z1] at hb; cases hb
          exact y1 b u (e4 _ _ (by rw [upd_ne ebd]; exact e1c _ _ hb)) hbD
      · rw [upd_ne hDd, y2, take_succ_some hc2, nowK_snoc]
  · have ei : i = js.length := by omega
    subst ei
    rw [List.take_length] at z3
    exact .inl ⟨wk.stops H' (hG H' z2), q D H' (fresh_back e1 z1) (e1.trans z2) z3⟩

/-! ### dicts of cells: !=, update -/
theorem rv_neD {a b : Addr} {ks ls : List Int} (ha : H a = some (.dK (mkD ks))) (hb : H b = some (.dK (mkD ls))) (h : ks.length = ls.length → ∀ x ∈ ks, x ∈ ls) : RV rNeD2 (.ref a) (.ref b) H (.bl (!decide (ks.length = ls.length))) := fun H1 e Q q => by
  refine ⟨a, b, mkD ks, mkD ls, rfl, rfl, e _ _ ha, e _ _ hb, ?_⟩
  by_cases hl : ks.length = ls.length
  · refine .inr ⟨by rw [len_mkD, len_mkD]; exact hl, fun p hp => ?_, ?_⟩
    · obtain ⟨c, hc, rfl⟩ := List.mem_map.mp hp
      refine ⟨?_, rfl⟩
      show valV (mkD ls) (Sum.inl c) = some (.bl true)
      rw [valV_mkD, if_pos (h hl c hc)]
    · have := q H1 (Ex.refl H1)
      rw [decide_eq_true hl] at this; exact this
  · refine .inl ⟨by rw [len_mkD, len_mkD]; exact hl, ?_⟩
    have := q H1 (Ex.refl H1)
    rw [decide_eq_false hl] at this; exact this
theorem q_updD {a : Addr} {ks ls : List Int} (hd : H a = some (.dK (mkD ks))) (ha : Ev ta σ H (.ref a)) (h : EvD te σ H (mkD ls)) (hz : ks.length + ls.length ≤ 100000) (k : ∀ H1, Ex H H1 → tz D σ (upd H1 a (.dK (mkD (addAll ks ls))))) :
    tSeq (tDrop (tBM K "dict" rUpd ta (tCons te tNil))) tz D σ H := ha H (Ex.refl H) _ fun H1 e1 => by
  refine ⟨?_, h H1 e1 _ fun p H2 hp e2 h2 => ⟨a, p, mkD ks, mkD ls, rfl, rfl, fun z => ?_, e2 _ _ (e1 _ _ hd), h2, by rw [len_mkD, len_mkD]; exact sz_of hz, ?_⟩⟩
  · exact .inr (.inr (.inl ⟨rfl, .inl ⟨_, e1 _ _ hd⟩⟩))
  · rw [← z, e1 _ _ hd] at hp; cases hp
  · rw [merge_mkD]; exact k H2 (e1.trans e2)
/-- for j in range(n - 1, -1, -1) -/
theorem s_forDown {ta : TA} {j n : Nat} (h : EvA ta σ H [.int ((n : Int) - 1), .int (-1), .int (-1)]) (hn : n ≤ 100000) (Pv : Nat → L2.St → Hp → Prop) (h0 : ∀ H1, Ex H H1 → Pv 0 σ H1)
    (hs : ∀ (i t : Nat) σ' H', i + t + 1 = n → Pv t σ' H' → tu { D with nx := Pv (t + 1), ct := Pv (t + 1), bk := D.nx } (σ'.set j (some (.int (i : Nat)))) H') (hd : ∀ σ' H', Pv n σ' H' → D.nx σ' H') : tFor (iRng3 ta) (gName j) tu D σ H :=
  h H (Ex.refl H) _ fun H1 e => ⟨(n : Int) - 1, -1, -1, n, rfl, by
    have := RgC.neg (i := (n : Int) - 1) (j := -1) (by omega) (by omega) (by omega) (by omega)
    rw [show (((n : Int) - 1) - (-1)).toNat = n by omega] at this
    exact this, for_it walk_rangeC Pv (h0 H1 e) (fun _ _ _ _ _ => trivial) (fun i x σ' Ha Hb hi p y => by
      obtain ⟨rfl, rfl⟩ := y
      have := hs (n - 1 - i) i σ' Hb (by omega) p
      have ei : ((n - 1 - i : Nat) : Int) = (n : Int) - 1 + (i : Nat) * (-1) := by omega
      rw [ei] at this
      exact this) hd⟩

/-! ### lists of dicts, more of them -/
theorem ev_lenD {a : Addr} {ks : List Int} (ha : Ev ta σ H (.ref a)) (hd : H a = some (.dK (mkD ks))) : Ev (tCB (fun xs H Q => ∃ a kvs, xs = [V.ref a] ∧ H a = some (.dK kvs) ∧ Q (.int kvs.length) H) (tCons ta tNil)) σ H (.int (ks.length : Int)) := fun H1 e Q q =>
  ha H1 e _ fun H2 e2 => ⟨a, mkD ks, rfl, (e.trans e2) _ _ hd, by rw [len_mkD]; exact q H2 e2⟩
theorem el_listD {a : Addr} {ks : List Int} (ha : Ev ta σ H (.ref a)) (hd : H a = some (.dK (mkD ks))) :
    EvL (tCB (fun xs H Q => ∃ (a : Addr) (kvs : List (Key × V)), xs = [.ref a] ∧ Rd H a (.dK kvs) ∧ ∀ p, H p = none → Q (.ref p) (upd H p (.lst (kvs.map fun kv => kV kv.1)))) (tCons ta tNil)) σ H (ks.map V.int) := fun H1 e Q q =>
  ha H1 e _ fun H2 e2 => ⟨a, mkD ks, rfl, .inl ((e.trans e2) _ _ hd), fun p hp => by
    have : (mkD ks).map (fun kv => kV kv.1) = ks.map V.int := by unfold mkD; rw [List.map_map]; rfl
    rw [this]; exact q p _ (fresh_back e2 hp) (e2.trans (Ex.new hp)) upd_same⟩
theorem el_cat {xs ys : List V} {b : Addr} (ha : EvL ta σ H xs) (hb : Ev tb σ H (.ref b)) (hy : H b = some (.lst ys)) (hz : xs.length + ys.length ≤ 100000) : EvL (tOp rCat ta tb) σ H (xs ++ ys) := fun H1 e Q q =>
  ha H1 e _ fun p H2 hp e2 h2 => hb H2 (e.trans e2) _ fun H3 e3 => ⟨p, b, xs, ys, rfl, rfl, e3 _ _ h2, ((e.trans e2).trans e3) _ _ hy, sz_of hz, fun l hl => q l _ (fresh_back (e2.trans e3) hl) ((e2.trans e3).trans (Ex.new hl)) upd_same⟩
theorem ed_new : EvD tDNewK σ H (mkD []) := fun H1 _ Q q p hp => q p _ hp (Ex.new hp) upd_same
theorem el_dicts {ks : List (List Int)} {j : Nat} {vs : List Nat} (hi : EvI wi (gName j) σ H ks.length bd) (hz : ks.length ≤ 40000) (hw : ∀ i, i < ks.length → wipe (bd i (wipe σ vs)) vs = wipe σ vs)
    (he : ∀ i k H1, Ex H H1 → ks[i]? = some k → EvD te (bd i (wipe σ vs)) H1 (mkD k)) :
    ∀ H1, Ex H H1 → ∀ Q : VK, (∀ p H2, H1 p = none → Ex H1 H2 → SetsAt H2 p ks → Q (.ref p) H2) → tLc wi (gName j) tYes te vs σ H1 Q := fun H0 e Q q => hi H0 e _ fun J H1 e1 w D hD => by
  obtain ⟨G, Y, wk, hG, hY⟩ := w.ok
  refine lc_it wk (fun i H' => H1 D = none ∧ Ex H1 H' ∧ SetsAt H' D (ks.take i)) ⟨hD, Ex.new hD, [], upd_same, All2.nil⟩ (fun i H' _ z => hG H' z.2.1) (fun i x Ha Hb hin z y => ?_) (fun H' z => ?_)
  · obtain ⟨z1, z2, ds, z3, z4⟩ := z
    refine hY i Ha x Hb hin z2 y (wipe σ vs) _ fun Hc ec => ⟨hw i hin, ?_⟩
    dsimp only [tYes]
    rw [if_pos rfl]
    have hk : ks[i]? = some ks[i] := List.getElem?_eq_getElem hin
    refine he i _ Hc (e.trans (e1.trans (z2.trans ec))) hk Hc (Ex.refl _) _ fun p Hd hp ed hd => ?_
    have hpD : p ≠ D := fun z => by rw [z, ec _ _ z3] at hp; cases hp
    have hl : ds.length = i := by rw [z4.1, List.length_take]; omega
    refine ⟨ds.map V.ref, ed _ _ (ec _ _ z3), sz_lt (by rw [List.length_map]; omega), z1, Ex.mut ((z2.trans ec).trans ed) z1, ds ++ [p], by rw [upd_same]; simp, ?_⟩
    rw [take_succ_some hk]
    refine All2.snoc (z4.imp fun a b h => ?_) (by show upd _ _ _ p = _; rw [upd_ne hpD]; exact hd)
    have haD : a ≠ D := fun z => by rw [z, z3] at h; cases h
    show upd _ _ _ a = _
    rw [upd_ne haD]; exact ed _ _ (ec _ _ h)
  · obtain ⟨z1, z2, z3⟩ := z
    rw [List.take_length] at z3
    exact q D H' (fresh_back e1 z1) (e1.trans z2) z3

/-! ### a, b = x, y at places -/
theorem g_setL {l : Addr} {xs : List V} {j : Nat} {v : V} {Q : L2.St → Hp → Prop} (hl : H l = some (.lst xs)) (ho : Ev ta σ H (.ref l)) (hi : Ev tb σ H (.int (j : Int))) (hj : j < xs.length) (k : ∀ H1, Ex H H1 → Q σ (upd H1 l (.lst (xs.set j v)))) : gSub ta tb rSetL v σ H Q :=
  ho H (Ex.refl H) _ fun H1 e1 => hi H1 e1 _ fun H2 e2 => ⟨l, xs, (j : Int), j, rfl, rfl, (e1.trans e2) l _ hl, ixN_nat hj, k H2 (e1.trans e2)⟩
theorem g_last {g2 : TG} {Q : L2.St → Hp → Prop} (h : g2 y σ H fun σ' H' => gNil [] σ' H' Q) : gCons g2 gNil [y] σ H Q := ⟨y, [], rfl, h⟩
theorem g_nil {Q : L2.St → Hp → Prop} (h : Q σ H) : gNil [] σ H Q := ⟨rfl, h⟩
theorem s_asg2 {g1 g2 : TG} (hx : Ev ta σ H x) (hy : Ev tb σ H y) (k : ∀ H1, Ex H H1 → g1 x σ H1 fun σ' H' => gCons g2 gNil [y] σ' H' D.nx) : tAsg (tTup (tCons ta (tCons tb tNil))) (gTup K 2 (gCons g1 (gCons g2 gNil))) D σ H :=
  eu_tup (ea_cons hx (ea_cons hy ea_nil)) (Nat.le_of_ble_eq_true rfl) H (Ex.refl H) _ fun p H1 _ e h => ⟨p, [x, y], rfl, st_of h, rfl, x, [y], rfl, k H1 e⟩

/-! ### more of values -/
theorem ev_chain {r1 r2 : R2} {tc : TE} {b1 b2 : Bool} (ha : Ev ta σ H x) (hb : Ev tb σ H y) (h1 : RV r1 x y H (.bl b1)) (hc : b1 = true → Ev tc σ H z) (h2 : b1 = true → RV r2 y z H (.bl b2)) : Ev (tChain r1 r2 ta tb tc) σ H (.bl (b1 && b2)) := fun H1 e Q q =>
  ha H1 e _ fun H2 e2 => hb H2 (e.trans e2) _ fun H3 e3 => h1 H3 ((e.trans e2).trans e3) _ fun H4 e4 => ⟨b1, rfl, by
    have e14 := (e2.trans e3).trans e4
    cases b1 with
    | true => exact hc rfl H4 (e.trans e14) _ fun H5 e5 => h2 rfl H5 ((e.trans e14).trans e5) Q fun H6 e6 => q H6 ((e14.trans e5).trans e6)
    | false => exact q H4 e14⟩
theorem s_par {i j : Nat} (ha : Ev ta σ H x) (hb : Ev tb σ H y) (k : ∀ H1, Ex H H1 → D.nx ((σ.set i (some x)).set j (some y)) H1) : tPar i j (tCons ta (tCons tb tNil)) D σ H :=
  ea_cons ha (ea_cons hb ea_nil) H (Ex.refl H) _ fun H1 e => ⟨x, y, rfl, k H1 e⟩
theorem q_par {i j : Nat} (ha : Ev ta σ H x) (hb : Ev tb σ H y) (k : ∀ H1, Ex H H1 → tz D ((σ.set i (some x)).set j (some y)) H1) : tSeq (tPar i j (tCons ta (tCons tb tNil))) tz D σ H := s_par (D := { D with nx := tz D }) ha hb k
theorem ev_intB {b : Bool} (h : Ev te σ H (.bl b)) : Ev (tCB (fun xs H Q => (∃ i, xs = [V.int i] ∧ Q (.int i) H) ∨ ∃ k, xs = [V.bl k] ∧ Q (.int (if k = true then 1 else 0)) H) (tCons te tNil)) σ H (.int (if b = true then 1 else 0)) := fun H1 e Q q =>
  h H1 e _ fun H2 e2 => .inr ⟨b, rfl, q H2 e2⟩
theorem ev_sel {b : Bool} {ta tb : TE} (h : EvT t σ H b) (h1 : b = true → Ev ta σ H x) (h2 : b = false → Ev tb σ H y) : Ev (tIf t ta tb) σ H (if b = true then x else y) := ev_if h (fun hb => by rw [hb]; exact h1 hb) (fun hb => by rw [hb]; exact h2 hb)
theorem dropK_at {kvs : List (Key × V)} {k j : Key} : valV (dropK kvs k) j = if j = k then none else valV kvs j := by
  unfold dropK
  induction kvs with
  | nil => rw [valV_nil]; simp [valV]
  | cons p r ih =>
    rw [List.filter_cons]
    by_cases e : p.1 = k
    · rw [if_neg (by simp [e]), ih]
      by_cases ej : j = k
      · rw [if_pos ej, if_pos ej]
      · rw [if_neg ej, if_neg ej, valV_neg (fun z => ej (by rw [← z, e]))]
    · rw [if_pos (by simpa using e)]
      by_cases ej : p.1 = j
      · rw [valV_pos ej, valV_pos ej, if_neg (fun z => e (by rw [ej, z]))]
      · rw [valV_neg ej, valV_neg ej, ih]
theorem dropK_len {kvs : List (Key × V)} {k : Key} : (dropK kvs k).length ≤ kvs.length := List.length_filter_le ..
/-- d[k] = v -/
theorem q_dput {td ty tv : TE} {a : Addr} {kvs : List (Key × V)} {k : Key} (hd : H a = some (.dK kvs)) (hv : Ev tv σ H v) (ha : Ev td σ H (.ref a)) (hk : Ev ty σ H (kV k)) (hz : kvs.length < 100000) (n : ∀ H1, Ex H H1 → tz D σ (upd H1 a (.dK (putK kvs k v)))) : tSeq (sDPut td ty tv) tz D σ H :=
  hv H (Ex.refl H) _ fun H1 e1 => ha H1 e1 _ fun H2 e2 => hk H2 (e1.trans e2) _ fun H3 e3 => ⟨a, _, rfl, DPut.k (((e1.trans e2).trans e3) _ _ hd) (sz_lt hz), n H3 ((e1.trans e2).trans e3)⟩
theorem s_dput {td ty tv : TE} {a : Addr} {kvs : List (Key × V)} {k : Key} (hd : H a = some (.dK kvs)) (hv : Ev tv σ H v) (ha : Ev td σ H (.ref a)) (hk : Ev ty σ H (kV k)) (hz : kvs.length < 100000) (n : ∀ H1, Ex H H1 → D.nx σ (upd H1 a (.dK (putK kvs k v)))) : sDPut td ty tv D σ H :=
  hv H (Ex.refl H) _ fun H1 e1 => ha H1 e1 _ fun H2 e2 => hk H2 (e1.trans e2) _ fun H3 e3 => ⟨a, _, rfl, DPut.k (((e1.trans e2).trans e3) _ _ hd) (sz_lt hz), n H3 ((e1.trans e2).trans e3)⟩
/-- d.pop(k, x), as a statement -/
theorem s_dpop {td ty tx : TE} {a : Addr} {kvs : List (Key × V)} {k : Key} (hd : H a = some (.dK kvs)) (ha : Ev td σ H (.ref a)) (hk : Ev ty σ H (kV k)) (hx : Ev tx σ H x) (n : ∀ H1, Ex H H1 → valV kvs k ≠ none → D.nx σ (upd H1 a (.dK (dropK kvs k)))) (m : ∀ H1, Ex H H1 → valV kvs k = none → D.nx σ H1) : tDrop (tDPop2 td ty tx) D σ H :=
  ha H (Ex.refl H) _ fun H1 e1 => ⟨a, rfl, .inl ⟨kvs, .inl (e1 _ _ hd)⟩, hk H1 e1 _ fun H2 e2 => hx H2 (e1.trans e2) _ fun H3 e3 => ⟨kvs, k, ((e1.trans e2).trans e3) _ _ hd, rfl, fun v hv => n H3 ((e1.trans e2).trans e3) (by rw [hv]; exact Option.some_ne_none _), fun hv => m H3 ((e1.trans e2).trans e3) hv⟩⟩
theorem eu_if {b : Bool} {ta tb : TE} {xs : List V} (h : EvT t σ H b) (h1 : b = true → EvU ta σ H xs) (h2 : b = false → EvU tb σ H xs) : EvU (tIf t ta tb) σ H xs := fun H1 e Q q => h H1 e _ fun H2 e2 => by
  cases b with
  | true =>
    show ta σ H2 Q
    exact h1 rfl H2 (e.trans e2) Q fun p H3 hp e3 h3 => q p H3 (fresh_back e2 hp) (e2.trans e3) h3
  | false =>
    show tb σ H2 Q
    exact h2 rfl H2 (e.trans e2) Q fun p H3 hp e3 h3 => q p H3 (fresh_back e2 hp) (e2.trans e3) h3
end
end K51

/-! Walks 1: what a row reads and lays. -/
namespace K51
open PySem L2 Evl
section
variable {P : Program} {w : World} {K : PySem.W.Frag} {mg : Str → Option Value} {base : Heap} {o1 o2 o3 o4 o5 : Addr}

theorem begin_of {r : Row} (h : r.tag = .begin) : ∃ p, r = .begin p := by
  cases r <;> simp [Row.tag] at h
  exact ⟨_, rfl⟩
theorem copy_of {r : Row} (h : r.tag = .copy) : ∃ c d p, r = .copy c d p := by
  cases r <;> simp [Row.tag] at h
  exact ⟨_, _, _, rfl⟩
theorem two_of {r : Row} {o : Op} (h : r.tag = .two o) : ∃ c d e p, r = .two o c d e p := by
  cases r <;> simp [Row.tag] at h
  subst h
  exact ⟨_, _, _, _, rfl⟩
theorem fetch_of {r : Row} (h : r.tag = .fetch) : ∃ c f n p, r = .fetch c f n p := by
  cases r <;> simp [Row.tag] at h
  exact ⟨_, _, _, _, rfl⟩
theorem lay_of {r : Row} (h : r.tag = .lay) : ∃ n c p, r = .lay n c p := by
  cases r <;> simp [Row.tag] at h
  exact ⟨_, _, _, rfl⟩
theorem label_of {r : Row} (h : r.tag = .label) : ∃ k p, r = .label k p := by
  cases r <;> simp [Row.tag] at h
  exact ⟨_, _, rfl⟩
theorem go_of {r : Row} (h : r.tag = .go) : ∃ k p, r = .go k p := by
  cases r <;> simp [Row.tag] at h
  exact ⟨_, _, rfl⟩
theorem call_of {r : Row} (h : r.tag = .call) : ∃ c f n cs p, r = .call c f n cs p := by
  cases r <;> simp [Row.tag] at h
  exact ⟨_, _, _, _, _, rfl⟩
theorem say_of {r : Row} (h : r.tag = .say) : ∃ kd c p, r = .say kd c p := by
  cases r <;> simp [Row.tag] at h
  exact ⟨_, _, _, rfl⟩
theorem nothing_of {r : Row} (h : r.tag = .nothing) : ∃ p, r = .nothing p := by
  cases r <;> simp [Row.tag] at h
  exact ⟨_, rfl⟩
theorem put_of {r : Row} (h : r.tag = .put) : ∃ x n p, r = .put x n p := by
  cases r <;> simp [Row.tag] at h
  exact ⟨_, _, _, rfl⟩
theorem unless_of {r : Row} (h : r.tag = .unless) : ∃ c t p, r = .unless c t p := by
  cases r <;> simp [Row.tag] at h
  exact ⟨_, _, _, rfl⟩
theorem give_of {r : Row} (h : r.tag = .give) : ∃ c p, r = .give c p := by
  cases r <;> simp [Row.tag] at h
  exact ⟨_, _, rfl⟩

/-! ### machine: read_by -/
abbrev sRBm : Stmt := top 3
theorem scRBm : FnScope ["row"] ["row"] (defScope sRBm) := ⟨rfl, rfl, rfl, by decide +kernel, rfl, by decide +kernel, by decide +kernel⟩
def spRBm : Sp := fun vs H Q _ => ∃ a r, vs = [.ref a] ∧ RowAt H a r ∧ RetL (r.reads.map V.int) H Q
theorem ok_RBm {f : Addr} {fd : FuncData} (F : Fun K "read_by" "read_by" sRBm f fd) (T : Txt K mg o1 o2 o3 o4 o5) : FnOk P w K mg base CX0 1 f fd ["row"] spRBm := by
  refine F.ok scRBm (fun vs H Q E h => ?_) (fun cdv A outer s H vs Q E hr h => ?_)
  · obtain ⟨a, r, rfl, _⟩ := h; rfl
  · obtain ⟨a, r, rfl, ⟨p, q, hrow, hp, hq⟩, k⟩ := h
    have nd := scRBm.nd
    refine ⟨_, (pss_cons (ps_if (pt_cmpR op_in_seq (pe_ix ix_tup (pv 0) pe_int (fun _ _ => rfl)) (C8.pe_gc (by rfl) T.gOPS) rfl) (pss_one (ps_ret (pe_lst (pa_cons (pe_ix ix_tup (pv 0) pe_int (fun _ _ => rfl)) (pa_cons (pe_ix ix_tup (pv 0) pe_int (fun _ _ => rfl)) pa_nil))))) pss_nil)
      (pss_cons (ps_if (pt_cmpR op_in_seq (pe_ix ix_tup (pv 0) pe_int (fun _ _ => rfl)) (pe_tup (pa_cons pe_str (pa_cons pe_str (pa_cons pe_str pa_nil)))) rfl) (pss_one (ps_ret (pe_lst (pa_cons (pe_ix ix_tup (pv 0) pe_int (fun _ _ => rfl)) pa_nil)))) pss_nil)
      (pss_cons (ps_if (pt_cmpR op_eq (pe_ix ix_tup (pv 0) pe_int (fun _ _ => rfl)) pe_str (nomark _)) (pss_one (ps_ret (pe_lst (pa_cons (pe_ix ix_tup (pv 0) pe_int (fun _ _ => rfl)) pa_nil)))) pss_nil)
      (pss_cons (ps_if (pt_cmpR op_eq (pe_ix ix_tup (pv 0) pe_int (fun _ _ => rfl)) pe_str (nomark _)) (pss_one (ps_ret (pe_callTy call_list_of (by rfl) T.list (by decide +kernel) (pa_cons (pe_ix ix_tup (pv 0) pe_int (fun _ _ => rfl)) pa_nil)))) pss_nil)
      (pss_one (ps_ret (pe_ifExp (pw_and (pt_cmpR op_eq (pe_ix ix_tup (pv 0) pe_int (fun _ _ => rfl)) pe_str (nomark _)) (pw_and1 (pt_cmpR op_notN (pe_ix ix_tup (pv 0) pe_int (fun _ _ => rfl)) pe_non (nomark _)))).pt (pe_lst (pa_cons (pe_ix ix_tup (pv 0) pe_int (fun _ _ => rfl)) pa_nil)) (pe_lst pa_nil)))))))), ?_⟩
    dsimp only [cxK, cxKn]
    have word : ∀ {H1 : Hp}, Ex H H1 → Ev (tOp (rIxT K) (tVar 0) (tC (.int 0))) [some (V.ref a)] H1 (.str r.word) := fun e => ev_row (j := 0) (e _ _ hrow) (ev_var rfl) rfl
    refine q_when (et_ops opsV Tag.isTwo (by decide +kernel) rfl (T.kOPS H) (word (Ex.refl H))) (fun h1 H1 e1 => ?_) (fun h1 H1 e1 => ?_)
    · cases r <;> simp [Row.tag, Tag.isTwo] at h1
      exact s_retL (el_lst (ea_cons (ev_row (j := 2) (e1 _ _ hrow) (ev_var rfl) rfl) (ea_cons (ev_row (j := 3) (e1 _ _ hrow) (ev_var rfl) rfl) ea_nil)) (Nat.le_of_ble_eq_true rfl)) fun l H2 hl e2 h2 => k.go e1 hl e2 h2
    refine q_when (et_words [.copy, .lay, .say] (by decide) (by decide +kernel) (word e1)) (fun h2 H2 e2 => ?_) (fun h2 H2 e2 => ?_)
    · have e2 := e1.trans e2
      cases r <;> simp [Row.tag, Tag.isTwo] at h1 h2
      all_goals exact s_retL (el_lst (ea_cons (ev_row (j := 2) (e2 _ _ hrow) (ev_var rfl) rfl) ea_nil) (Nat.le_of_ble_eq_true rfl)) fun l H2 hl e h2 => k.go e2 hl e h2
    have e2 := e1.trans e2
    refine q_when (et_word .unless (word e2)) (fun h3 H3 e3 => ?_) (fun h3 H3 e3 => ?_)
    · have e3 := e2.trans e3
      cases r <;> simp [Row.tag, Tag.isTwo] at h1 h2 h3
      exact s_retL (el_lst (ea_cons (ev_row (j := 1) (e3 _ _ hrow) (ev_var rfl) rfl) ea_nil) (Nat.le_of_ble_eq_true rfl)) fun l H2 hl e h2 => k.go e3 hl e h2
    have e3 := e2.trans e3
    refine q_when (et_word .call (word e3)) (fun h4 H4 e4 => ?_) (fun h4 H4 e4 => ?_)
    · have e4 := e3.trans e4
      cases r <;> simp [Row.tag, Tag.isTwo] at h1 h2 h3 h4
      exact s_retL (el_cb (ea_cons (ev_row (j := 4) (e4 _ _ hrow) (ev_var rfl) rfl) ea_nil) (fun H5 e5 Q5 q5 => ⟨q, _, rfl, Or.inr (st_of (e5 _ _ (e4 _ _ (hq rfl)))), fun l hl => q5 l _ hl (Ex.new hl) upd_same⟩)) fun l H2 hl e h2 => k.go e4 hl e h2
    have e4 := e3.trans e4
    by_cases hg : r.tag = .give
    · cases r <;> simp [Row.tag] at hg
      rename_i c pl
      cases c with
      | none => exact s_retL (el_if (et_and (et_word .give (word e4)) fun _ => et_notN (ev_row (j := 1) (e4 _ _ hrow) (ev_var rfl) rfl)) (fun z => by simp [Row.tag, oV] at z) (fun _ => el_lst ea_nil (Nat.le_of_ble_eq_true rfl))) fun l H2 hl e h2 => k.go e4 hl e h2
      | some c => exact s_retL (el_if (et_and (et_word .give (word e4)) fun _ => et_notN (ev_row (j := 1) (e4 _ _ hrow) (ev_var rfl) rfl)) (fun _ => el_lst (ea_cons (ev_row (j := 1) (e4 _ _ hrow) (ev_var rfl) rfl) ea_nil) (Nat.le_of_ble_eq_true rfl)) (fun z => by simp [Row.tag, oV] at z)) fun l H2 hl e h2 => k.go e4 hl e h2
    · have hr : r.reads = [] := by cases r <;> simp [Row.tag, Tag.isTwo] at h1 h2 h3 h4 hg <;> rfl
      rw [hr] at k
      refine s_retL (el_if (b := false) (et_is (et_and (b := false) (et_word .give (word e4)) fun z => absurd (of_decide_eq_true z) hg) (by simp)) (fun z => by cases z) (fun _ => el_lst ea_nil (Nat.le_of_ble_eq_true rfl))) fun l H2 hl e h2 => k.go e4 hl e h2

/-! ### machine: laid_by -/
abbrev sLBm : Stmt := top 5
theorem scLBm : FnScope ["row"] ["row"] (defScope sLBm) := ⟨rfl, rfl, rfl, by decide +kernel, rfl, by decide +kernel, by decide +kernel⟩
def spLB : Sp := fun vs H Q _ => ∃ a r, vs = [.ref a] ∧ RowAt H a r ∧ RetV (oV r.lays) H Q
theorem ok_LBm {f : Addr} {fd : FuncData} (F : Fun K "laid_by" "laid_by" sLBm f fd) (T : Txt K mg o1 o2 o3 o4 o5) : FnOk P w K mg base CX0 1 f fd ["row"] spLB := by
  refine F.ok scLBm (fun vs H Q E h => ?_) (fun cdv A outer s H vs Q E hr h => ?_)
  · obtain ⟨a, r, rfl, _⟩ := h; rfl
  · obtain ⟨a, r, rfl, ⟨p, q, hrow, hp, hq⟩, k⟩ := h
    have nd := scLBm.nd
    refine ⟨_, (pss_one (ps_ret (pe_ifExp (pt_cmpR op_in_seq (pe_ix ix_tup (pv 0) pe_int (fun _ _ => rfl)) (C8.pe_gc (by rfl) T.gLAYING) rfl) (pe_ix ix_tup (pv 0) pe_int (fun _ _ => rfl)) pe_non))), ?_⟩
    dsimp only [cxK, cxKn]
    have word : ∀ {H1 : Hp}, Ex H H1 → Ev (tOp (rIxT K) (tVar 0) (tC (.int 0))) [some (V.ref a)] H1 (.str r.word) := fun e => ev_row (j := 0) (e _ _ hrow) (ev_var rfl) rfl
    refine s_ret (ev_if (et_ops layingV Tag.isLaying (by decide +kernel) rfl (T.kLAYING H) (word (Ex.refl H))) (fun h1 => ?_) (fun h1 => ?_)) fun H1 e => k.go e
    · cases r <;> simp [Row.tag, Tag.isLaying] at h1
      all_goals exact ev_row (j := 1) hrow (ev_var rfl) rfl
    · have e : r.lays = none := by cases r <;> simp [Row.tag, Tag.isLaying] at h1 <;> rfl
      rw [e]; exact ev_c

/-! ### lean: read_by -/
abbrev sRBl : Stmt := top 18
theorem scRBl : FnScope ["row", "word"] ["row"] (defScope sRBl) := ⟨rfl, rfl, rfl, by decide +kernel, rfl, by decide +kernel, by decide +kernel⟩
def RetT (xs : List V) (H : Hp) (Q : VK) : Prop := ∀ p H2, Ex H H2 → H2 p = some (.tup xs) → Q (.ref p) H2
def spRBl : Sp := fun vs H Q _ => ∃ a r, vs = [.ref a] ∧ RowAt H a r ∧ RetT (r.reads.map V.int) H Q
/-- a piece of a tuple -/
theorem eu_sl {K : PySem.W.Frag} {σ : L2.St} {H : Hp} {te : TE} {tl th : TO} {a : Addr} {xs : List V} {lo hi : Option Int} (h : Ev te σ H (.ref a)) (h1 : EvO tl σ H lo) (h2 : EvO th σ H hi) {n : Nat} (hs : H a = some (.tup xs)) (hn : xs.length = n) (hw : ¬ (HT.sIx n 0 lo = 0 ∧ HT.sIx n n hi = n)) :
    EvU (tSl (rSlA K) te tl th) σ H (cutV xs lo hi) := fun H1 e _ q =>
  h H1 e _ fun H2 e2 => h1 H2 (e.trans e2) _ fun H3 e3 => h2 H3 ((e.trans e2).trans e3) _ fun H4 e4 =>
    ⟨a, xs, rfl, st_of ((((e.trans e2).trans e3).trans e4) _ _ hs), fun z => absurd (hn ▸ z) hw, fun _ p hp => q p _ (fresh_back ((e2.trans e3).trans e4) hp) (((e2.trans e3).trans e4).trans (Ex.new hp)) upd_same⟩
theorem ok_RBl {f : Addr} {fd : FuncData} (F : Fun K "read_by" "read_by" sRBl f fd) (T : Txt K mg o1 o2 o3 o4 o5) : FnOk P w K mg base CX0 1 f fd ["row"] spRBl := by
  refine F.ok scRBl (fun vs H Q E h => ?_) (fun cdv A outer s H vs Q E hr h => ?_)
  · obtain ⟨a, r, rfl, _⟩ := h; rfl
  · obtain ⟨a, r, rfl, ⟨p, q, hrow, hp, hq⟩, k⟩ := h
    have nd := scRBl.nd
    refine ⟨_, (pss_cons (ps_set (i := 1) nd rfl (Or.inl rfl) (pe_ix ix_tup (pv 0) pe_int (fun _ _ => rfl)))
      (pss_cons (ps_if (pt_cmpR op_in_seq (pv 1) (C8.pe_gc (by rfl) T.gTWOS) rfl) (pss_one (ps_ret (pe_slice sl_tupA (pv 0) (po_some pe_int) (po_some pe_int)))) pss_nil)
      (pss_cons (ps_if (pt_cmpR op_eq (pv 1) pe_str (nomark _)) (pss_one (ps_ret (pe_ix ix_tup (pv 0) pe_int (fun _ _ => rfl)))) pss_nil)
      (pss_cons (ps_if (pt_cmpR op_in_seq (pv 1) (pe_tup (pa_cons pe_str (pa_cons pe_str (pa_cons pe_str pa_nil)))) rfl) (pss_one (ps_ret (pe_slice sl_tupA (pv 0) (po_some pe_int) (po_some pe_int)))) pss_nil)
      (pss_cons (ps_if (pw_or (pt_cmpR op_eq (pv 1) pe_str (nomark _)) (pw_or1 (pw_and (pt_cmpR op_eq (pv 1) pe_str (nomark _)) (pw_and1 (pt_cmpR op_notN (pe_ix ix_tup (pv 0) pe_int (fun _ _ => rfl)) pe_non (nomark _)))).pt)).pt (pss_one (ps_ret (pe_slice sl_tupA (pv 0) (po_some pe_int) (po_some pe_int)))) pss_nil)
      (pss_one (ps_ret (pe_tup pa_nil)))))))), ?_⟩
    dsimp only [cxK, cxKn]
    refine q_asg (ev_row (j := 0) (v := .str r.word) hrow (ev_var rfl) rfl) fun H1 e1 => ?_
    have word : ∀ {H1 : Hp}, Ev (tVar 1) [some (V.ref a), some (.str r.word)] H1 (.str r.word) := ev_var rfl
    refine q_when (et_ops opsV Tag.isTwo (by decide +kernel) rfl (T.kTWOS H1) word) (fun h1 H2 e2 => ?_) (fun h1 H2 e2 => ?_)
    · have e2 := e1.trans e2
      cases r <;> simp [Row.tag, Tag.isTwo] at h1
      exact s_retU (eu_sl (n := 5) (ev_var rfl) (eo_some ev_c) (eo_some ev_c) (e2 _ _ hrow) rfl (by decide)) fun l H3 hl e h => k l H3 (e2.trans e) h
    have e2 := e1.trans e2
    refine q_when (et_word .call word) (fun h2 H3 e3 => ?_) (fun h2 H3 e3 => ?_)
    · have e3 := e2.trans e3
      cases r <;> simp [Row.tag, Tag.isTwo] at h1 h2
      exact s_ret (ev_row (j := 4) (e3 _ _ hrow) (ev_var rfl) rfl) fun H4 e4 => k q H4 (e3.trans e4) (e4 _ _ (e3 _ _ (hq rfl)))
    have e3 := e2.trans e3
    refine q_when (et_words [.copy, .lay, .say] (by decide) (by decide +kernel) word) (fun h3 H4 e4 => ?_) (fun h3 H4 e4 => ?_)
    · have e4 := e3.trans e4
      cases r <;> simp [Row.tag, Tag.isTwo] at h1 h2 h3
      all_goals exact s_retU (eu_sl (n := 4) (ev_var rfl) (eo_some ev_c) (eo_some ev_c) (e4 _ _ hrow) rfl (by decide)) fun l H5 hl e h => k l H5 (e4.trans e) h
    have e4 := e3.trans e4
    by_cases hg : r.reads = []
    · rw [hg] at k
      refine q_when (b := false) (et_is (et_or (et_word .unless word) fun _ => et_and (b := false) (et_word .give word) fun z => ?_) ?_) (fun z => by cases z) (fun _ H5 e5 => s_retU (eu_tup ea_nil (Nat.le_of_ble_eq_true rfl)) fun l H6 _ e h => k l H6 ((e4.trans e5).trans e) h)
      · obtain ⟨c, pl, rfl⟩ := give_of (of_decide_eq_true z)
        cases c with
        | none => exact et_is (et_notN (ev_row (j := 1) (e4 _ _ hrow) (ev_var rfl) rfl)) (by simp [oV])
        | some c => simp [Row.reads] at hg
      · cases r <;> simp [Row.tag, Row.reads] at hg ⊢
    · have h5 : r.tag = .unless ∨ r.tag = .give := by cases r <;> simp [Row.tag, Tag.isTwo, Row.reads] at h1 h2 h3 hg ⊢
      refine q_when (b := true) (et_is (et_or (et_word .unless word) fun _ => et_and (b := true) (et_word .give word) fun z => ?_) ?_) (fun _ H5 e5 => ?_) (fun z => by cases z)
      · obtain ⟨c, pl, rfl⟩ := give_of (of_decide_eq_true z)
        cases c with
        | none => simp [Row.reads] at hg
        | some c => exact et_is (et_notN (ev_row (j := 1) (e4 _ _ hrow) (ev_var rfl) rfl)) (by simp [oV])
      · rcases h5 with h | h <;> simp [h]
      · have e5 := e4.trans e5
        rcases h5 with h5 | h5
        · cases r <;> simp [Row.tag] at h5
          exact s_retU (eu_sl (n := 4) (ev_var rfl) (eo_some ev_c) (eo_some ev_c) (e5 _ _ hrow) rfl (by decide)) fun l H6 _ e h => k l H6 (e5.trans e) h
        · obtain ⟨c, pl, rfl⟩ := give_of h5
          cases c with
          | none => simp [Row.reads] at hg
          | some c => exact s_retU (eu_sl (n := 3) (ev_var rfl) (eo_some ev_c) (eo_some ev_c) (e5 _ _ hrow) rfl (by decide)) fun l H6 _ e h => k l H6 (e5.trans e) h

/-! ### lean: laid_by -/
abbrev sLBl : Stmt := top 20
theorem scLBl : FnScope ["row"] ["row"] (defScope sLBl) := ⟨rfl, rfl, rfl, by decide +kernel, rfl, by decide +kernel, by decide +kernel⟩
theorem ok_LBl {f : Addr} {fd : FuncData} (F : Fun K "laid_by" "laid_by" sLBl f fd) (T : Txt K mg o1 o2 o3 o4 o5) : FnOk P w K mg base CX0 1 f fd ["row"] spLB := by
  refine F.ok scLBl (fun vs H Q E h => ?_) (fun cdv A outer s H vs Q E hr h => ?_)
  · obtain ⟨a, r, rfl, _⟩ := h; rfl
  · obtain ⟨a, r, rfl, ⟨p, q, hrow, hp, hq⟩, k⟩ := h
    have nd := scLBl.nd
    refine ⟨_, (pss_one (ps_ret (pe_ifExp (pw_or (pt_cmpR op_in_seq (pe_ix ix_tup (pv 0) pe_int (fun _ _ => rfl)) (C8.pe_gc (by rfl) T.gTWOS) rfl) (pw_or1 (pt_cmpR op_in_seq (pe_ix ix_tup (pv 0) pe_int (fun _ _ => rfl)) (pe_tup (pa_cons pe_str (pa_cons pe_str (pa_cons pe_str (pa_cons pe_str pa_nil))))) rfl))).pt (pe_ix ix_tup (pv 0) pe_int (fun _ _ => rfl)) pe_non))), ?_⟩
    dsimp only [cxK, cxKn]
    have word : ∀ {H1 : Hp}, Ex H H1 → Ev (tOp (rIxT K) (tVar 0) (tC (.int 0))) [some (V.ref a)] H1 (.str r.word) := fun e => ev_row (j := 0) (e _ _ hrow) (ev_var rfl) rfl
    refine s_ret (ev_if (et_or (et_ops opsV Tag.isTwo (by decide +kernel) rfl (T.kTWOS H) (word (Ex.refl H))) (fun _ => et_words [.put, .copy, .fetch, .call] (by decide) (by decide +kernel) (word (Ex.refl H)))) (fun h1 => ?_) (fun h1 => ?_)) fun H1 e => k.go e
    · cases r <;> simp [Row.tag, Tag.isTwo] at h1
      all_goals exact ev_row (j := 1) hrow (ev_var rfl) rfl
    · have e : r.lays = none := by cases r <;> simp [Row.tag, Tag.isTwo] at h1 <;> rfl
      rw [e]; exact ev_c
end
end K51

/-! Walks 2: where rows go. -/
namespace K51
open PySem L2 Evl

def Tag.isEnd : Tag → Bool
  | .give => true | .nothing => true | .go => true
  | _ => false
/-- the lists of where each row goes -/
def GoalsAt (H : Hp) (l : Addr) (rows : List Row) : Prop := ∃ gs : List Addr, H l = some (.lst (gs.map V.ref)) ∧ gs.length = rows.length ∧ ∀ (i : Nat) r g, rows[i]? = some r → gs[i]? = some g → H g = some (.lst ((succs rows i r).map V.int))
theorem GoalsAt.ex {H H' : Hp} {l : Addr} {rows : List Row} (e : Ex H H') (h : GoalsAt H l rows) : GoalsAt H' l rows :=
  let ⟨gs, h1, h2, h3⟩ := h
  ⟨gs, e _ _ h1, h2, fun i r g a b => e _ _ (h3 i r g a b)⟩
/-- as far as it is made -/
def GoalsTo (H0 H : Hp) (l : Addr) (rows : List Row) (n : Nat) : Prop := ∃ gs : List Addr, H0 l = none ∧ Ex H0 H ∧ H l = some (.lst (gs.map V.ref)) ∧ gs.length = n ∧ ∀ (i : Nat) r g, rows[i]? = some r → gs[i]? = some g → g ≠ l ∧ H g = some (.lst ((succs rows i r).map V.int))
def labF (rows : List Row) (i : Nat) : Bool := ((rows[i]?).bind Row.labelOf).isSome
def labP (rows : List Row) (i : Nat) : Key × V := (.inl (((rows[i]?).bind Row.labelOf).getD 0), .int (i : Int))
def spotsOf (rows : List Row) : List (Key × V) := mergeK [] (pairs rows.length (labF rows) (labP rows))
theorem spots_at {rows : List Row} (w : WF rows) {i : Nat} {t : Int} {q : Pl} (h : rows[i]? = some (.label t q)) : valV (spotsOf rows) (Sum.inl t) = some (.int (i : Int)) := by
  have hf : labF rows i = true := by unfold labF; rw [h]; rfl
  have hp : labP rows i = (.inl t, .int (i : Int)) := by unfold labP; rw [h]; rfl
  have := valV_pairs (p := labP rows) hf (fun j hj e => ?_) (n := rows.length) (List.getElem?_eq_some_iff.mp h).1
  · rw [hp] at this; exact this
  · unfold labF at hj
    cases hr : rows[j]? with
    | none => rw [hr] at hj; cases hj
    | some r =>
      rw [hr] at hj
      cases hl : r.labelOf with
      | none => rw [show (some r).bind Row.labelOf = r.labelOf from rfl, hl] at hj; cases hj
      | some k =>
        obtain ⟨z, rfl⟩ := labelOf_eq hl
        rw [hp] at e
        unfold labP at e
        rw [hr] at e
        have ek : k = t := Sum.inl.inj e
        subst ek
        exact w.uniq _ _ _ _ _ hr h
section
variable {P : Program} {w : World} {K : PySem.W.Frag} {mg : Str → Option Value} {base : Heap} {o1 o2 o3 o4 o5 : Addr}
theorem ed_spots {H : Hp} {rows : List Row} {as : List Addr} {a : Addr} {wi : TI} (hi : EvI wi (g2 K 3 4) [some (.ref a), none, none, none, none, none] H (as.map V.ref).length fun i s => (s.set 3 (some (.int (i : Nat)))).set 4 (as.map V.ref)[i]?) (hrows : All2 (RowAt H) as rows) (hn : rows.length ≤ 30000) :
    EvD (tDc wi (g2 K 3 4) (tTest (tOp rEq (tOp (rIxT K) (tVar 4) (tC (.int 0))) (tC (.str "label")))) (tOp (rIxT K) (tVar 4) (tC (.int 1))) (tVar 3) [3, 4]) [some (.ref a), none, none, none, none, none] H (spotsOf rows) := by
  have hlen := hrows.1
  have at_ : ∀ i, i < (as.map V.ref).length → ∃ r b, rows[i]? = some r ∧ (as.map V.ref)[i]? = some (.ref b) ∧ RowAt H b r := fun i hi => by
    rw [List.length_map] at hi
    have h1 : as[i]? = some as[i] := List.getElem?_eq_getElem hi
    obtain ⟨r, h2, h3⟩ := hrows.get h1
    exact ⟨r, _, h2, by rw [List.getElem?_map, h1]; rfl, h3⟩
  have := ed_dc (labF rows) (labP rows) hi (vs := [3, 4]) (by rw [List.length_map]; omega) (fun i hi => rfl) (tt := tTest (tOp rEq (tOp (rIxT K) (tVar 4) (tC (.int 0))) (tC (.str "label")))) (tk := tOp (rIxT K) (tVar 4) (tC (.int 1))) (tv := tVar 3) ?_ ?_ ?_
  · rw [List.length_map, hlen] at this; exact this
  · intro i H1 e1 hi
    obtain ⟨r, b, h1, h2, ⟨p, q, h3, _⟩⟩ := at_ i hi
    rw [h2]
    refine et_is (et_word .label (ev_row (j := 0) (e1 _ _ h3) (ev_var rfl) rfl)) ?_
    unfold labF; rw [h1]; cases r <;> rfl
  · intro i H1 e1 hi hf
    obtain ⟨r, b, h1, h2, ⟨p, q, h3, _⟩⟩ := at_ i hi
    rw [h2]
    unfold labF at hf; unfold labP; rw [h1] at hf ⊢
    cases r <;> simp [Row.labelOf] at hf
    exact ev_row (j := 1) (e1 _ _ h3) (ev_var rfl) rfl
  · intro i H1 e1 hi hf
    exact ev_var rfl
end
section
variable {P : Program} {w : World} {K : PySem.W.Frag} {mg : Str → Option Value} {base : Heap} {o1 o2 o3 o4 o5 : Addr}
/-! ### machine: behind_of -/
abbrev sBh : Stmt := top 7
abbrev nBh : List Str := ["rows", "spots", "found", "number", "row", "some"]
theorem scBh : FnScope nBh ["rows"] (defScope sBh) := ⟨rfl, rfl, rfl, by decide +kernel, rfl, by decide +kernel, by decide +kernel⟩
def spBh : Sp := fun vs H Q _ => ∃ a rows, vs = [.ref a] ∧ RowsT H a rows ∧ WF rows ∧ rows.length ≤ 30000 ∧ ∀ p H2, H p = none → Ex H H2 → GoalsAt H2 p rows → Q (.ref p) H2
theorem ok_Bh {f : Addr} {fd : FuncData} (F : Fun K "behind_of" "behind_of" sBh f fd) (T : Txt K mg o1 o2 o3 o4 o5) : FnOk P w K mg base CX0 1 f fd ["rows"] spBh := by
  refine F.ok scBh (fun vs H Q E h => ?_) (fun cdv A outer s H vs Q E hr h => ?_)
  · obtain ⟨a, rows, rfl, _⟩ := h; rfl
  · obtain ⟨a, rows, rfl, ⟨as, hl, hrows⟩, wf, hn, k⟩ := h
    have nd := scBh.nd
    have hu := hu_of hr
    refine ⟨_, (pss_cons (ps_setDc (i := 1) (own := [("number", 3), ("row", 4)]) (g := gTup K 2 (gCons (gName 3) (gCons (gName 4) (gNil)))) (by rfl) nd rfl rfl (sw_dict rfl rfl rfl (by decide +kernel)) (pi_enumT (by rfl) T.enumerate (pa_cons (pv 0) pa_nil)) (blkOk_by (own := [("number", 3), ("row", 4)]) (N := nBh) (sc := defScope sBh) (by decide +kernel)) (fun _ _ _ _ _ => (pg_tup rfl (pgs_cons (pg_name (i := 3) nd rfl (Or.inl rfl)) (pgs_cons (pg_name (i := 4) nd rfl (Or.inl rfl)) pgs_nil)))) (fun _ _ _ _ _ => (pts_one (pt_cmpR op_eq (pe_ix (r := rIxT K) ix_tup (pv 4) pe_int (fun _ _ => rfl)) pe_str (nomark _)))) (fun _ _ _ _ _ => (pe_ix (r := rIxT K) ix_tup (pv 4) pe_int (fun _ _ => rfl))) (fun _ _ _ _ _ => (pv 3)))
      (pss_cons (ps_set (i := 2) nd rfl (Or.inl rfl) (pe_lst pa_nil))
      (pss_cons (ps_for PassesOwn.never rfl (pi_enumT (by rfl) T.enumerate (pa_cons (pv 0) pa_nil)) (pg_tup rfl (pgs_cons (pg_name (i := 3) nd rfl (Or.inl rfl)) (pgs_cons (pg_name (i := 4) nd rfl (Or.inl rfl)) pgs_nil))) (pss_cons (ps_set (i := 5) nd rfl (Or.inl rfl) (pe_ifExp (pt_cmpR op_in_seq (pe_ix ix_tup (pv 4) pe_int (fun _ _ => rfl)) (pe_tup (pa_cons pe_str (pa_cons pe_str (pa_cons pe_str pa_nil)))) rfl) (pe_lst pa_nil) (pe_lst (pa_cons (pe_op op_add (pv 3) pe_int) pa_nil))))
      (pss_cons (ps_if (pt_cmpR op_in_seq (pe_ix ix_tup (pv 4) pe_int (fun _ _ => rfl)) (pe_tup (pa_cons pe_str (pa_cons pe_str pa_nil))) rfl) (pss_one (ps_expr (pe_bm PySem.F.plainAttrs_list PySem.F.slot_list_append PySem.F.type_list_append mt_append (pv 5) (pa_cons (pe_dget hu (pv 1) (pe_ix ix_tup (pv 4) (pe_ifExp (pt_cmpR op_eq (pe_ix ix_tup (pv 4) pe_int (fun _ _ => rfl)) pe_str (nomark _)) pe_int pe_int) (fun _ _ => rfl)) (fun _ _ => rfl)) pa_nil)))) pss_nil)
      (pss_one (ps_expr (pe_bm PySem.F.plainAttrs_list PySem.F.slot_list_append PySem.F.type_list_append mt_append (pv 2) (pa_cons (pv 5) pa_nil)))))))
      (pss_one (ps_ret (pv 2)))))), ?_⟩
    dsimp only [cxK, cxKn]
    have hlen := hrows.1
    have at_ : ∀ i, i < (as.map V.ref).length → ∃ r b, rows[i]? = some r ∧ (as.map V.ref)[i]? = some (.ref b) ∧ RowAt H b r := fun i hi => by
      rw [List.length_map] at hi
      have h1 : as[i]? = some as[i] := List.getElem?_eq_getElem hi
      obtain ⟨r, h2, h3⟩ := hrows.get h1
      exact ⟨r, _, h2, by rw [List.getElem?_map, h1]; rfl, h3⟩
    refine q_asgD (ed_spots (ei_enumT (j := 3) (k := 4) (ea_cons (ev_var rfl) ea_nil) (st_of hl)) hrows hn) fun d H1 hd e1 h1 => ?_
    refine q_asgL (el_lst ea_nil (Nat.le_of_ble_eq_true rfl)) fun l H2 hl2 e2 h2 => ?_
    have e12 := e1.trans e2
    refine q_forET (xs := as.map V.ref) (ea_cons (ev_var rfl) ea_nil) (st_of (e12 _ _ hl)) (fun i σ' H' => (∃ u v z, σ' = [some (.ref a), some (.ref d), some (.ref l), u, v, z]) ∧ GoalsTo H1 H' l rows i)
      (fun H3 e3 => ⟨⟨_, _, _, rfl⟩, [], hl2, e2.trans e3, e3 _ _ h2, rfl, fun i r g _ h => by simp at h⟩) (fun i σ' H' _ p => by obtain ⟨_, gs, _, e, _⟩ := p; exact st_of (e _ _ (e1 _ _ hl))) (fun i x σ' Ha Hb hx p eb => ?_) (fun σ' H' p => ?_)
    · obtain ⟨⟨u, v, z, rfl⟩, gs, g1, g2, g3, g4, g5⟩ := p
      have hi := (List.getElem?_eq_some_iff.mp hx).1
      obtain ⟨r, b, r1, r2, r3⟩ := at_ i hi
      rw [r2] at hx; cases hx
      obtain ⟨p, q, r4, _⟩ := r3
      have e1b : Ex H1 Hb := g2.trans eb
      have word : ∀ {H3 : Hp} {v : Option V}, Ex H1 H3 → Ev (tOp (rIxT K) (tVar 4) (tC (.int 0))) [some (.ref a), some (.ref d), some (.ref l), some (.int (i : Nat)), some (.ref b), v] H3 (.str r.word) := fun e => ev_row (j := 0) ((e1.trans e) _ _ r4) (ev_var rfl) rfl
      refine q_asgL (xs := (if r.isEnd then [] else [(i : Int) + 1]).map V.int) (el_if (et_words [.go, .give, .nothing] (by decide) (by decide +kernel) (word e1b)) (fun hb => ?_) (fun hb => ?_)) fun ps H3 hps e3 h3 => ?_
      · have : r.isEnd = true := by cases r <;> simp [Row.tag] at hb <;> rfl
        rw [this]; exact el_lst ea_nil (Nat.le_of_ble_eq_true rfl)
      · have : r.isEnd = false := by cases r <;> simp [Row.tag] at hb <;> rfl
        rw [this]; exact el_lst (ea_cons (ev_op (ev_var rfl) ev_c rv_I0) ea_nil) (Nat.le_of_ble_eq_true rfl)
      have e13 := e1b.trans e3
      refine q_whenK (fun H4 => Ex Hb H4 ∧ H4 ps = some (.lst ((succs rows i r).map V.int))) (et_words [.go, .unless] (by decide) (by decide +kernel) (word e13)) (fun H4 m => ?_) (fun hb H4 e4 kk => ?_) (fun hb H4 e4 => ⟨e3.trans e4, ?_⟩)
      · obtain ⟨m1, m2⟩ := m
        have hl4 := m1 _ _ (eb _ _ g3)
        have hpl : ps ≠ l := fun z => by rw [z, eb _ _ g3] at hps; cases hps
        refine s_app hl4 (ev_var rfl) (ev_var rfl) (by rw [List.length_map, g4]; have := hlen; rw [List.length_map] at hi; omega) fun H5 e5 => nxM ⟨⟨_, _, _, rfl⟩, gs ++ [ps], g1, Ex.mut ((e1b.trans m1).trans e5) g1, by rw [upd_same]; simp, by simp [g4], fun i' r' g hr' hg => ?_⟩
        by_cases hi' : i' < gs.length
        · rw [List.getElem?_append_left hi'] at hg
          obtain ⟨z1, z2⟩ := g5 i' r' g hr' hg
          exact ⟨z1, by rw [upd_ne z1]; exact e5 _ _ (m1 _ _ (eb _ _ z2))⟩
        · have e' : i' = i := by have := (List.getElem?_eq_some_iff.mp hg).1; simp at this; omega
          subst e'
          rw [List.getElem?_append_right (by omega)] at hg
          rw [g4, Nat.sub_self] at hg
          have : ps = g := by simpa using hg
          subst this
          rw [r1] at hr'; cases hr'
          exact ⟨hpl, by rw [upd_ne hpl]; exact e5 _ _ m2⟩
      · have e14 := e13.trans e4
        have ht : ∃ t, r.target = some t := by cases r <;> simp [Row.tag] at hb <;> exact ⟨_, rfl⟩
        obtain ⟨t, ht⟩ := ht
        obtain ⟨jx, q', hq'⟩ := wf.targ i r t r1 ht
        have hix := idx_eq wf hq'
        have key : Ev (tOp (rIxT K) (tVar 4) (tIf (tTest (tOp rEq (tOp (rIxT K) (tVar 4) (tC (.int 0))) (tC (.str "go")))) (tC (.int 1)) (tC (.int 2)))) [some (.ref a), some (.ref d), some (.ref l), some (.int (i : Nat)), some (.ref b), some (.ref ps)] H4 (.int t) := by
          have wd := word (v := some (.ref ps)) e14
          cases r <;> simp [Row.tag] at hb <;> cases ht
          · exact ev_op (ev_var rfl) (ev_if (et_word .go wd) (fun _ => ev_c) (fun z => by simp [Row.tag] at z)) (rv_ixT (st_of ((e1.trans e14) _ _ r4)) (atI_nat (j := 1) rfl))
          · exact ev_op (ev_var rfl) (ev_if (et_word .go wd) (fun z => by simp [Row.tag] at z) (fun _ => ev_c)) (rv_ixT (st_of ((e1.trans e14) _ _ r4)) (atI_nat (j := 2) rfl))
        refine s_app (v := .int (jx : Int)) (e4 _ _ h3) (ev_var rfl) (ev_dget (k := Sum.inl t) (e14 _ _ h1) (ev_var rfl) key (spots_at wf hq')) ?_ fun H5 e5 => nxM (kk _ ⟨Ex.mut ((e3.trans e4).trans e5) hps, ?_⟩)
        · split <;> simp
        · rw [upd_same]
          unfold succs
          rw [ht]
          simp only [List.map_append]
          rw [hix]; rfl
      · rw [e4 _ _ h3]
        have : r.target = none := by cases r <;> simp [Row.tag] at hb <;> rfl
        unfold succs; rw [this]; simp
    · obtain ⟨⟨u, v, z, rfl⟩, gs, g1, g2, g3, g4, g5⟩ := p
      refine s_ret (ev_var rfl) fun H3 e3 => rtM (k l H3 (fresh_back e1 g1) ((e1.trans g2).trans e3) ?_)
      have g4' : gs.length = rows.length := by rw [g4, List.length_map, hlen]
      exact ⟨gs, e3 _ _ g3, g4', fun i' r' g hr' hg => e3 _ _ (g5 i' r' g hr' hg).2⟩

/-! ### lean: goals_of -/
abbrev sGo : Stmt := top 26
abbrev nGo : List Str := ["rows", "labels", "found", "at", "row", "some"]
theorem scGo : FnScope nGo ["rows"] (defScope sGo) := ⟨rfl, rfl, rfl, by decide +kernel, rfl, by decide +kernel, by decide +kernel⟩
def spGo : Sp := fun vs H Q _ => ∃ a rows, vs = [.ref a] ∧ RowsL H a rows ∧ WF rows ∧ rows.length ≤ 30000 ∧ ∀ p H2, H p = none → Ex H H2 → GoalsAt H2 p rows → Q (.ref p) H2
theorem ok_Go {f : Addr} {fd : FuncData} (F : Fun K "goals_of" "goals_of" sGo f fd) (T : Txt K mg o1 o2 o3 o4 o5) : FnOk P w K mg base CX0 1 f fd ["rows"] spGo := by
  refine F.ok scGo (fun vs H Q E h => ?_) (fun cdv A outer s H vs Q E hr h => ?_)
  · obtain ⟨a, rows, rfl, _⟩ := h; rfl
  · obtain ⟨a, rows, rfl, ⟨as, hl, hrows⟩, wf, hn, k⟩ := h
    have nd := scGo.nd
    have hu := hu_of hr
    refine ⟨_, (pss_cons (ps_setDc (i := 1) (own := [("at", 3), ("row", 4)]) (g := gTup K 2 (gCons (gName 3) (gCons (gName 4) (gNil)))) (by rfl) nd rfl rfl (sw_dict rfl rfl rfl (by decide +kernel)) (pi_enum (by rfl) T.enumerate (pa_cons (pv 0) pa_nil)) (blkOk_by (own := [("at", 3), ("row", 4)]) (N := nGo) (sc := defScope sGo) (by decide +kernel)) (fun _ _ _ _ _ => (pg_tup rfl (pgs_cons (pg_name (i := 3) nd rfl (Or.inl rfl)) (pgs_cons (pg_name (i := 4) nd rfl (Or.inl rfl)) pgs_nil)))) (fun _ _ _ _ _ => (pts_one (pt_cmpR op_eq (pe_ix (r := rIxT K) ix_tup (pv 4) pe_int (fun _ _ => rfl)) pe_str (nomark _)))) (fun _ _ _ _ _ => (pe_ix (r := rIxT K) ix_tup (pv 4) pe_int (fun _ _ => rfl))) (fun _ _ _ _ _ => (pv 3)))
      (pss_cons (ps_set (i := 2) nd rfl (Or.inl rfl) (pe_lst pa_nil))
      (pss_cons (ps_for PassesOwn.never rfl (pi_enum (by rfl) T.enumerate (pa_cons (pv 0) pa_nil)) (pg_tup rfl (pgs_cons (pg_name (i := 3) nd rfl (Or.inl rfl)) (pgs_cons (pg_name (i := 4) nd rfl (Or.inl rfl)) pgs_nil))) (pss_cons (ps_set (i := 5) nd rfl (Or.inl rfl) (pe_ifExp (pt_cmpR op_in_seq (pe_ix ix_tup (pv 4) pe_int (fun _ _ => rfl)) (C8.pe_gc (by rfl) T.gENDS) rfl) (pe_lst pa_nil) (pe_lst (pa_cons (pe_op op_add (pv 3) pe_int) pa_nil))))
      (pss_cons (ps_expr (pe_bm PySem.F.plainAttrs_list PySem.F.slot_list_extend PySem.F.type_list_extend mt_extend (pv 5) (pa_cons (pe_ifExp (pt_cmpR op_in_seq (pe_ix ix_tup (pv 4) pe_int (fun _ _ => rfl)) (pe_tup (pa_cons pe_str (pa_cons pe_str pa_nil))) rfl) (pe_lst (pa_cons (pe_dget hu (pv 1) (pe_ix ix_tup (pv 4) (pe_un un_neg pe_int) (fun _ _ => rfl)) (fun _ _ => rfl)) pa_nil)) (pe_lst pa_nil)) pa_nil)))
      (pss_one (ps_expr (pe_bm PySem.F.plainAttrs_list PySem.F.slot_list_append PySem.F.type_list_append mt_append (pv 2) (pa_cons (pv 5) pa_nil)))))))
      (pss_one (ps_ret (pv 2)))))), ?_⟩
    dsimp only [cxK, cxKn]
    have hlen := hrows.1
    have at_ : ∀ i, i < (as.map V.ref).length → ∃ r b, rows[i]? = some r ∧ (as.map V.ref)[i]? = some (.ref b) ∧ RowAt H b r := fun i hi => by
      rw [List.length_map] at hi
      have h1 : as[i]? = some as[i] := List.getElem?_eq_getElem hi
      obtain ⟨r, h2, h3⟩ := hrows.get h1
      exact ⟨r, _, h2, by rw [List.getElem?_map, h1]; rfl, h3⟩
    refine q_asgD (ed_spots (ei_enum (j := 3) (k := 4) (ea_cons (ev_var rfl) ea_nil) (sq_of hl)) hrows hn) fun d H1 hd e1 h1 => ?_
    refine q_asgL (el_lst ea_nil (Nat.le_of_ble_eq_true rfl)) fun l H2 hl2 e2 h2 => ?_
    have e12 := e1.trans e2
    refine q_forE (xs := as.map V.ref) (ea_cons (ev_var rfl) ea_nil) (sq_of (e12 _ _ hl)) (fun i σ' H' => (∃ u v z, σ' = [some (.ref a), some (.ref d), some (.ref l), u, v, z]) ∧ GoalsTo H1 H' l rows i)
      (fun H3 e3 => ⟨⟨_, _, _, rfl⟩, [], hl2, e2.trans e3, e3 _ _ h2, rfl, fun i r g _ h => by simp at h⟩) (fun i σ' H' _ p => by obtain ⟨_, gs, _, e, _⟩ := p; exact sq_of (e _ _ (e1 _ _ hl))) (fun i x σ' Ha Hb hx p eb => ?_) (fun σ' H' p => ?_)
    · obtain ⟨⟨u, v, z, rfl⟩, gs, g1, g2, g3, g4, g5⟩ := p
      have hi := (List.getElem?_eq_some_iff.mp hx).1
      obtain ⟨r, b, r1, r2, r3⟩ := at_ i hi
      rw [r2] at hx; cases hx
      obtain ⟨p, q, r4, _⟩ := r3
      have e1b : Ex H1 Hb := g2.trans eb
      have word : ∀ {H3 : Hp} {v : Option V}, Ex H1 H3 → Ev (tOp (rIxT K) (tVar 4) (tC (.int 0))) [some (.ref a), some (.ref d), some (.ref l), some (.int (i : Nat)), some (.ref b), v] H3 (.str r.word) := fun e => ev_row (j := 0) ((e1.trans e) _ _ r4) (ev_var rfl) rfl
      refine q_asgL (xs := (if r.isEnd then [] else [(i : Int) + 1]).map V.int) (el_if (et_ops endsV Tag.isEnd (by decide +kernel) rfl (T.kENDS Hb) (word e1b)) (fun hb => ?_) (fun hb => ?_)) fun ps H3 hps e3 h3 => ?_
      · have : r.isEnd = true := by cases r <;> simp [Row.tag, Tag.isEnd] at hb <;> rfl
        rw [this]; exact el_lst ea_nil (Nat.le_of_ble_eq_true rfl)
      · have : r.isEnd = false := by cases r <;> simp [Row.tag, Tag.isEnd] at hb <;> rfl
        rw [this]; exact el_lst (ea_cons (ev_op (ev_var rfl) ev_c rv_I0) ea_nil) (Nat.le_of_ble_eq_true rfl)
      have e13 := e1b.trans e3
      have hmore : EvL (tIf (tTest (tOp (rIn K false) (tOp (rIxT K) (tVar 4) (tC (.int 0))) (tTup (tCons (tC (.str "go")) (tCons (tC (.str "unless")) tNil))))) (tLst (tCons (tDGet (tVar 1) (tOp (rIxT K) (tVar 4) (tUn (rU fun i => .int (-i)) (tC (.int 2))))) tNil)) (tLst tNil)) [some (.ref a), some (.ref d), some (.ref l), some (.int (i : Nat)), some (.ref b), some (.ref ps)] H3 ((match r.target with | some t => [(idx rows t : Int)] | none => []).map V.int) := by
        refine el_if (et_words [.go, .unless] (by decide) (by decide +kernel) (word e13)) (fun hb => ?_) (fun hb => ?_)
        · have ht : ∃ t, r.target = some t := by cases r <;> simp [Row.tag] at hb <;> exact ⟨_, rfl⟩
          obtain ⟨t, ht⟩ := ht
          obtain ⟨jx, q', hq'⟩ := wf.targ i r t r1 ht
          have hix := idx_eq wf hq'
          rw [ht]
          show EvL _ _ _ [V.int (idx rows t : Int)]
          rw [hix]
          refine el_lst (ea_cons (ev_dget (k := Sum.inl t) (e13 _ _ h1) (ev_var rfl) ?_ (spots_at wf hq')) ea_nil) (Nat.le_of_ble_eq_true rfl)
          cases r <;> simp [Row.tag] at hb <;> cases ht
          all_goals exact ev_op (ev_var rfl) (ev_un ev_c ru_neg) (rv_ixT (st_of ((e1.trans e13) _ _ r4)) rfl)
        · have : r.target = none := by cases r <;> simp [Row.tag] at hb <;> rfl
          rw [this]; exact el_lst ea_nil (Nat.le_of_ble_eq_true rfl)
      refine q_extL h3 (ev_var rfl) hmore ?_ fun H4 e4 => ?_
      · split <;> split <;> simp
      have m1 : Ex Hb (upd H4 ps (.lst ((if r.isEnd then [] else [(i : Int) + 1]).map V.int ++ (match r.target with | some t => [(idx rows t : Int)] | none => []).map V.int))) := Ex.mut (e3.trans e4) hps
      have hl4 := m1 _ _ (eb _ _ g3)
      have hpl : ps ≠ l := fun z => by rw [z, eb _ _ g3] at hps; cases hps
      refine s_app hl4 (ev_var rfl) (ev_var rfl) (by rw [List.length_map, g4]; have := hlen; rw [List.length_map] at hi; omega) fun H5 e5 => nxM ⟨⟨_, _, _, rfl⟩, gs ++ [ps], g1, Ex.mut ((e1b.trans m1).trans e5) g1, by rw [upd_same]; simp, by simp [g4], fun i' r' g hr' hg => ?_⟩
      by_cases hi' : i' < gs.length
      · rw [List.getElem?_append_left hi'] at hg
        obtain ⟨z1, z2⟩ := g5 i' r' g hr' hg
        exact ⟨z1, by rw [upd_ne z1]; exact e5 _ _ (m1 _ _ (eb _ _ z2))⟩
      · have e' : i' = i := by have := (List.getElem?_eq_some_iff.mp hg).1; simp at this; omega
        subst e'
        rw [List.getElem?_append_right (by omega)] at hg
        rw [g4, Nat.sub_self] at hg
        have : ps = g := by simpa using hg
        subst this
        rw [r1] at hr'; cases hr'
        exact ⟨hpl, by rw [upd_ne hpl]; refine e5 _ _ ?_; rw [upd_same]; unfold succs; rw [List.map_append]; try rfl⟩
    · obtain ⟨⟨u, v, z, rfl⟩, gs, g1, g2, g3, g4, g5⟩ := p
      refine s_ret (ev_var rfl) fun H3 e3 => rtM (k l H3 (fresh_back e1 g1) ((e1.trans g2).trans e3) ?_)
      have g4' : gs.length = rows.length := by rw [g4, List.length_map, hlen]
      exact ⟨gs, e3 _ _ g3, g4', fun i' r' g hr' hg => e3 _ _ (g5 i' r' g hr' hg).2⟩
end
end K51

/-! Walks 3: what is wanted behind each row. -/
namespace K51
open PySem L2 Evl
section
variable {P : Program} {w : World} {K : PySem.W.Frag} {mg : Str → Option Value} {base : Heap} {o1 o2 o3 o4 o5 : Addr}
theorem ev_lenT {σ : L2.St} {H : Hp} {ta : TE} {p : Addr} {xs : List V} (ha : Ev ta σ H (.ref p)) (h : SqT K H p xs) : Ev (tCB (rLenS K) (tCons ta tNil)) σ H (.int (xs.length : Int)) := fun H1 e Q q =>
  ha H1 e _ fun H2 e2 => ⟨p, xs, rfl, Or.inr (ex_t (e.trans e2) h), q H2 e2⟩
theorem el_sets {σ : L2.St} {H : Hp} {rows : List Row} {vs : List Nat} {wi : TI} {j n : Nat} {bd : Nat → L2.St → L2.St} (hi : EvI wi (gName j) σ H n bd) (hn : n = rows.length) (hz : n ≤ 40000) (hw : ∀ i, i < n → wipe (bd i (wipe σ vs)) vs = wipe σ vs) :
    ∀ H1, Ex H H1 → ∀ Q : VK, (∀ p H2, H1 p = none → Ex H1 H2 → SetsAt H2 p (rows.map fun _ => []) → Q (.ref p) H2) → tLc wi (gName j) tYes tDNewK vs σ H1 Q := fun H0 e Q q => hi H0 e _ fun J H1 e1 w D hD => by
  obtain ⟨G, Y, wk, hG, hY⟩ := w.ok
  refine lc_it wk (fun i H' => H1 D = none ∧ Ex H1 H' ∧ ∃ ds : List Addr, H' D = some (.lst (ds.map V.ref)) ∧ ds.length = i ∧ ∀ d ∈ ds, H' d = some (.dK [])) ⟨hD, Ex.new hD, [], upd_same, rfl, fun d hd => by simp at hd⟩ (fun i H' _ z => hG H' z.2.1) (fun i x Ha Hb hin z y => ?_) (fun H' z => ?_)
  · obtain ⟨z1, z2, ds, z3, z4, z5⟩ := z
    refine hY i Ha x Hb hin z2 y (wipe σ vs) _ fun Hc ec => ⟨hw i hin, ?_⟩
    dsimp only [tYes]
    rw [if_pos rfl]
    intro p hp
    have hpD : p ≠ D := fun z => by rw [z, ec _ _ z3] at hp; cases hp
    refine ⟨ds.map V.ref, by rw [upd_ne (Ne.symm hpD)]; exact ec _ _ z3, sz_lt (by rw [List.length_map]; omega), z1, Ex.mut ((z2.trans ec).trans (Ex.new hp)) z1, ds ++ [p], by rw [upd_same]; simp, by simp [z4], fun d hd => ?_⟩
    rcases List.mem_append.mp hd with h | h
    · have h5 := z5 d h
      have hdD : d ≠ D := fun z => by rw [z, z3] at h5; cases h5
      rw [upd_ne hdD]; exact (ec.trans (Ex.new hp)) _ _ h5
    · have : d = p := by simpa using h
      subst this
      rw [upd_ne hpD, upd_same]
  · obtain ⟨z1, z2, ds, z3, z4, z5⟩ := z
    refine q D H' (fresh_back e1 z1) (e1.trans z2) ⟨ds, z3, by simp [z4, hn], fun i a b ha hb => ?_⟩
    rw [List.getElem?_map] at hb
    cases hr : rows[i]? with
    | none => rw [hr] at hb; cases hb
    | some r =>
      rw [hr] at hb
      cases hb
      exact z5 a (List.mem_of_getElem? ha)

theorem ei_ints {σ : L2.St} {H : Hp} {a : Addr} {js : List Int} {tl : TE} {j : Nat} (h : Ev tl σ H (.ref a)) (hx : SqL K H a (js.map V.int)) : EvI (iList K tl) (gName j) σ H js.length fun i s => s.set j (js.map V.int)[i]? := by
  have := ei_list (j := j) h hx
  rw [List.length_map] at this
  exact this
theorem ei_intsN {σ : L2.St} {H : Hp} {js : List Int} {tl : TE} {j : Nat} (h : EvL tl σ H (js.map V.int)) : EvI (iList K tl) (gName j) σ H js.length fun i s => s.set j (js.map V.int)[i]? := by
  have := ei_listN (K := K) (j := j) h
  rw [List.length_map] at this
  exact this
theorem ev_laid {σ : L2.St} {H : Hp} {E : XK} {te : TE} {a : Addr} {r : Row} (h : Ev te σ H (.ref a)) (hr : RowAt H a r) : Ev (tCall spLB [] E (tCons te tNil)) σ H (oV r.lays) :=
  ev_call (ea_cons h ea_nil) fun H1 e Q q E => ⟨a, r, rfl, hr.mono (tl_ex e), fun H2 e2 => q H2 e2⟩
theorem el_readM {σ : L2.St} {H : Hp} {E : XK} {te : TE} {a : Addr} {r : Row} (h : Ev te σ H (.ref a)) (hr : RowAt H a r) : EvL (tCall spRBm [] E (tCons te tNil)) σ H (r.reads.map V.int) :=
  el_call (ea_cons h ea_nil) fun H1 e Q q E => ⟨a, r, rfl, hr.mono (tl_ex e), fun p H2 hp e2 h2 => q p H2 hp e2 h2⟩
theorem scal_oV (c : Int) (o : Option Int) : scal (.int c) (oV o) = true := by cases o <;> rfl
theorem int_oV (c : Int) (o : Option Int) : decide (V.int c = oV o) = decide (some c = o) := by
  cases o with
  | none => rfl
  | some d =>
    by_cases h : c = d
    · subst h; simp [oV]
    · show decide (V.int c = V.int d) = _
      rw [decide_eq_false (fun z => h (Option.some.inj z)), decide_eq_false (fun z => h (V.int.inj z))]

/-- the table's heap -/
structure WSt (H1 H : Hp) (A B : Addr) (ka kb : List (List Int)) : Prop where
  fa : H1 A = none
  fb : H1 B = none
  ne : A ≠ B
  ex : Ex H1 H
  sa : SetsAt H A ka
  sb : SetsAt H B kb
theorem now_small {rows : List Row} {ka kb : List (List Int)} (wf : WF rows) (hn : rows.length ≤ 10000) (h : Inc rows ka kb) (ms : List Int) : (nowK ka ms).length ≤ 30000 := by
  have h1 := nodup_len (nodup_nowK (js := ms) (ka := ka)) (now_cells h)
  have h2 := cells_len wf.bnd
  omega
theorem part_small {rows : List Row} {ka kb : List (List Int)} (wf : WF rows) (hn : rows.length ≤ 10000) (h : Inc rows ka kb) (ms : List Int) (i m : Nat) : (addAll (nowK ka ms) ((at' ka i).take m)).length ≤ 30000 := by
  have h1 := nodup_len (b := cells rows) (nodup_addAll (b := (at' ka i).take m) (nodup_nowK (js := ms) (ka := ka))) fun x hx => by
    rcases mem_addAll.mp hx with z | z
    · exact now_cells h x z
    · exact (h.na i).2 x (List.mem_of_mem_take z)
  have h2 := cells_len wf.bnd
  omega

/-! ### machine: wanted_behind -/
abbrev sWm : Stmt := top 8
abbrev nWm : List Str := ["rows", "behind", "ahead", "found", "is_done", "number", "some", "here", "row", "other", "cell"]
theorem scWm : FnScope nWm ["rows"] (defScope sWm) := ⟨rfl, rfl, rfl, by decide +kernel, rfl, by decide +kernel, by decide +kernel⟩
def spWm : Sp := fun vs H Q _ => ∃ a rows, vs = [.ref a] ∧ RowsT H a rows ∧ WF rows ∧ rows.length ≤ 10000 ∧ ∀ p H2 ks, H p = none → Ex H H2 → SetsAt H2 p ks → Sound rows [] ks → Q (.ref p) H2
theorem ok_Wm {f f1 f2 f3 : Addr} {fd d1 d2 d3 : FuncData} (F : Fun K "wanted_behind" "wanted_behind" sWm f fd) (T : Txt K mg o1 o2 o3 o4 o5)
    (C_behind_of : CalAt P w K mg base 1 "behind_of" ["rows"] spBh f1 d1) (C_laid_by_machine : CalAt P w K mg base 1 "laid_by_machine" ["row"] spLB f2 d2) (C_read_by_machine : CalAt P w K mg base 1 "read_by_machine" ["row"] spRBm f3 d3) : FnOk P w K mg base CX0 2 f fd ["rows"] spWm := by
  refine F.ok scWm (fun vs H Q E h => ?_) (fun cdv A outer s H vs Q E hr h => ?_)
  · obtain ⟨a, rows, rfl, _⟩ := h; rfl
  · obtain ⟨a, rows, rfl, ⟨as, hl, hrows⟩, wf, hn, k⟩ := h
    have nd := scWm.nd
    have hu := hu_of hr
    refine ⟨_, (pss_cons (ps_set (i := 1) nd rfl (Or.inl rfl) (pe_call C_behind_of.ok (hr.mono (by decide)) rfl C_behind_of.g C_behind_of.kp C_behind_of.b .nil pass0 (pa_cons (pv 0) pa_nil)))
      (pss_cons (ps_set (i := 2) nd rfl (Or.inr rfl) (pe_lc (own := [("row", 8)]) (g := gName 8) (by rfl) nd (pi_tup (pv 0)) (blkOk_by (own := [("row", 8)]) (N := nWm) (sc := defScope sWm) (by decide +kernel)) (fun _ _ _ _ _ => (pg_name (i := 8) nd rfl (Or.inl rfl))) (fun _ _ _ _ _ => pts_nil) (fun _ _ _ _ _ => pe_dnewK)))
      (pss_cons (ps_setLc (i := 3) (own := [("row", 8)]) (g := gName 8) (by rfl) nd rfl rfl (sw_true rfl rfl rfl (by decide +kernel)) (pi_tup (pv 0)) (blkOk_by (own := [("row", 8)]) (N := nWm) (sc := defScope sWm) (by decide +kernel)) (fun _ _ _ _ _ => (pg_name (i := 8) nd rfl (Or.inl rfl))) (fun _ _ _ _ _ => pts_nil) (fun _ _ _ _ _ => pe_dnewK))
      (pss_cons (ps_set (i := 4) nd rfl (Or.inl rfl) pe_bl)
      (pss_cons (ps_while PassesOwn.never (pt_not (pt_val (pv 4))) (pss_cons (ps_set (i := 4) nd rfl (Or.inl rfl) pe_bl)
      (pss_one (ps_for PassesOwn.never rfl (pi_range3 rfl T.range (pa_cons (pe_op op_sub (pe_callB call_len_seq (by rfl) T.len PySem.boot_len (pa_cons (pv 0) pa_nil)) pe_int) (pa_cons (pe_un un_neg pe_int) (pa_cons (pe_un un_neg pe_int) pa_nil)))) (pg_name (i := 5) nd rfl (Or.inr rfl)) (pss_cons (ps_setDc2 (i := 6) (own := [("other", 9), ("cell", 10)]) (vs1 := [10]) (g := gName 9) (g1 := gName 10) (by rfl) nd rfl rfl (sw_dict rfl rfl rfl (by decide +kernel)) (pi_list (pe_ix ix_list (pv 1) (pv 5) (fun _ _ => rfl))) (blkOk_by (own := [("other", 9), ("cell", 10)]) (N := nWm) (sc := defScope sWm) (by decide +kernel)) (by decide) (fun _ _ _ _ _ => (pg_name (i := 9) nd rfl (Or.inl rfl))) (fun _ _ _ _ _ => pts_nil) (fun _ _ _ _ _ => (pi_keys (pe_ix (r := rIxL K) ix_list (pv 2) (pv 9) (fun _ _ => rfl)))) (fun _ _ _ _ _ => (pg_name (i := 10) nd rfl (Or.inl rfl))) (fun _ _ _ _ _ => pts_nil) (fun _ _ _ _ _ => (pv 10)) (fun _ _ _ _ _ => pe_bl))
      (pss_cons (ps_lock (ps_setDc (i := 7) (own := [("cell", 10)]) (g := gName 10) (by rfl) nd rfl rfl (sw_dict rfl rfl rfl (by decide +kernel)) (pi_keys (pv 6)) (blkOk_by (own := [("cell", 10)]) (N := nWm) (sc := defScope sWm) (by decide +kernel)) (fun _ _ _ _ _ => (pg_name (i := 10) nd rfl (Or.inl rfl))) (fun _ _ _ _ _ => (pts_one (pt_cmpR op_ne (pv 10) (pe_call C_laid_by_machine.ok (hr.mono (by decide)) rfl C_laid_by_machine.g C_laid_by_machine.kp C_laid_by_machine.b .nil pass0 (pa_cons (pe_ix (r := rIxT K) ix_tup (pv 0) (pv 5) (fun _ _ => rfl)) pa_nil)) (nomark _)))) (fun _ _ _ _ _ => (pv 10)) (fun _ _ _ _ _ => pe_bl)))
      (pss_cons (ps_expr (pe_bm PySem.F.plainAttrs_dict PySem.F.slot_dict_update PySem.F.type_dict_update mt_update (pv 7) (pa_cons (pe_dc (own := [("cell", 10)]) (g := gName 10) (by rfl) nd (pi_list (pe_call C_read_by_machine.ok (hr.mono (by decide)) rfl C_read_by_machine.g C_read_by_machine.kp C_read_by_machine.b .nil pass0 (pa_cons (pe_ix ix_tup (pv 0) (pv 5) (fun _ _ => rfl)) pa_nil))) (blkOk_by (own := [("cell", 10)]) (N := nWm) (sc := defScope sWm) (by decide +kernel)) (fun _ _ _ _ _ => (pg_name (i := 10) nd rfl (Or.inl rfl))) (fun _ _ _ _ _ => pts_nil) (fun _ _ _ _ _ => (pv 10)) (fun _ _ _ _ _ => pe_bl)) pa_nil)))
      (pss_cons (ps_if (pt_cmpR (op_neD2 (Nat.lt_of_succ_lt hu)) (pv 7) (pe_ix ix_list (pv 2) (pv 5) (fun _ _ => rfl)) (nomark _)) (pss_one (ps_set (i := 4) nd rfl (Or.inl rfl) pe_bl)) pss_nil)
      (pss_cons (ps_asg (pv 7) (pg_sub (pv 2) (pv 5) set_list))
      (pss_one (ps_asg (pv 6) (pg_sub (pv 3) (pv 5) set_list))))))))))))
      (pss_one (ps_ret (pv 3)))))))), ?_⟩
    dsimp only [cxK, cxKn]
    have row : ∀ i, i < rows.length → ∃ r b, rows[i]? = some r ∧ (as.map V.ref)[i]? = some (.ref b) ∧ RowAt H b r := fun i hi => by
      have h2 : rows[i]? = some rows[i] := List.getElem?_eq_getElem hi
      obtain ⟨b, h1, h3⟩ := hrows.get' h2
      exact ⟨_, b, h2, by rw [List.getElem?_map, h1]; rfl, h3⟩
    have hlen := hrows.1
    refine q_asgR (r_call (r_ea (ea_cons (ev_var rfl) ea_nil) fun H1 e1 => ?_))
    refine ⟨a, rows, rfl, RowsT.mono (tl_ex e1) ⟨as, hl, hrows⟩, wf, by omega, fun G H2 hG e2 hgo => ?_⟩
    have e02 := e1.trans e2
    obtain ⟨gs, go1, go2, go3⟩ := hgo
    refine q_asgR (el_sets (rows := rows) (ei_tup (ev_var rfl) (st_of (e02 _ _ hl))) (by rw [List.length_map, hlen]) (by rw [List.length_map]; omega) (fun i _ => rfl) _ (Ex.refl _) _ fun A H3 hA e3 sA => ?_)
    have e03 := e02.trans e3
    refine q_asgR (el_sets (rows := rows) (ei_tup (ev_var rfl) (st_of (e03 _ _ hl))) (by rw [List.length_map, hlen]) (by rw [List.length_map]; omega) (fun i _ => rfl) _ (Ex.refl _) _ fun B H4 hB e4 sB => ?_)
    have hAB : A ≠ B := fun z => by
      obtain ⟨ds, h, _⟩ := sA
      rw [← z, h] at hB; cases hB
    refine q_asg ev_c fun H5 e5 => ?_
    have st0 : WSt H2 H5 A B (rows.map fun _ => []) (rows.map fun _ => []) := ⟨hA, fresh_back e3 hB, hAB, (e3.trans e4).trans e5, (sA.ex e4).ex e5, sB.ex e5⟩
    refine q_while (fun m σ' H' => ∃ d u5 u6 u7 ka kb, σ' = [some (.ref a), some (.ref G), some (.ref A), some (.ref B), some (.bl d), u5, u6, u7, none, none, none] ∧ WSt H2 H' A B ka kb ∧ Inc rows ka kb ∧
      ((d = false ∧ m + (total ka + total kb) = 2 * (rows.length * (cells rows).length) + 1) ∨ (d = true ∧ m = 0 ∧ ∃ ka0 T0, Turn rows ka0 T0 ka kb rows.length false)))
      (2 * (rows.length * (cells rows).length) + 1 - (total (rows.map fun _ => []) + total (rows.map fun _ => [])))
      ⟨false, none, none, none, _, _, rfl, st0, inc_start rows, .inl ⟨rfl, by have := inc_bound (inc_start rows); omega⟩⟩ (fun m σ' H' hw => ?_)
    obtain ⟨d, u5, u6, u7, ka, kb, rfl, st, inc, hd⟩ := hw
    refine ⟨!d, et_not (et_B (ev_var rfl)), fun hb H6 e6 => ?_, fun hb H6 e6 => ?_⟩
    · have ed : d = false := by simpa using hb
      subst ed
      have hm : m + (total ka + total kb) = 2 * (rows.length * (cells rows).length) + 1 := by
        rcases hd with z | z
        · exact z.2
        · cases z.1
      have st6 : WSt H2 H6 A B ka kb := ⟨st.fa, st.fb, st.ne, st.ex.trans e6, st.sa.ex e6, st.sb.ex e6⟩
      refine ⟨fun σ' H' => ∃ d u5 u6 u7 ka' kb', σ' = [some (.ref a), some (.ref G), some (.ref A), some (.ref B), some (.bl d), u5, u6, u7, none, none, none] ∧ WSt H2 H' A B ka' kb' ∧ Turn rows ka (total ka + total kb) ka' kb' rows.length (!d), fun σ2 H2' hN => ?_, ?_⟩
      · obtain ⟨d, u5, u6, u7, ka', kb', rfl, st', tn⟩ := hN
        have hb' := inc_bound tn.inc
        cases d with
        | false => exact ⟨2 * (rows.length * (cells rows).length) + 1 - (total ka' + total kb'), by have := tn.more rfl; omega, false, u5, u6, u7, ka', kb', rfl, st', tn.inc, .inl ⟨rfl, by omega⟩⟩
        | true => exact ⟨0, by have := inc_bound inc; omega, true, u5, u6, u7, ka', kb', rfl, st', tn.inc, .inr ⟨rfl, rfl, _, _, tn⟩⟩
      · refine q_asg ev_c fun H7 e7 => ?_
        have st7 : WSt H2 H7 A B ka kb := ⟨st.fa, st.fb, st.ne, st6.ex.trans e7, st6.sa.ex e7, st6.sb.ex e7⟩
        refine s_forDown (n := rows.length) ?_ (by omega) (fun t σ' H' => ∃ d u5 u6 u7 ka' kb', σ' = [some (.ref a), some (.ref G), some (.ref A), some (.ref B), some (.bl d), u5, u6, u7, none, none, none] ∧ WSt H2 H' A B ka' kb' ∧ Turn rows ka (total ka + total kb) ka' kb' t (!d))
          (fun H8 e8 => ⟨true, u5, u6, u7, ka, kb, rfl, ⟨st.fa, st.fb, st.ne, st7.ex.trans e8, st7.sa.ex e8, st7.sb.ex e8⟩, Turn.start inc⟩) (fun i t σ' H8 hit p => ?_) (fun σ' H8 p => nxM p)
        · have := ea_cons (ev_op (r := rI0 fun i j => .int (i - j)) (ev_lenT (K := K) (σ := [some (.ref a), some (.ref G), some (.ref A), some (.ref B), some (.bl true), u5, u6, u7, none, none, none]) (ta := tVar 0) (ev_var rfl) (st_of (st7.ex _ _ (e02 _ _ hl)))) (ev_c (v := .int 1)) rv_I0) (ea_cons (ev_un ev_c (ru_neg (i := 1))) (ea_cons (ev_un ev_c (ru_neg (i := 1))) ea_nil))
          rw [List.length_map, hlen] at this
          exact this
        · obtain ⟨d, u5, u6, u7, ka', kb', rfl, st8, tn⟩ := p
          obtain ⟨r, b, r1, r2, r3⟩ := row i (by omega)
          have hi : i < rows.length := by omega
          have hg : gs[i]? = some gs[i] := List.getElem?_eq_getElem (by omega)
          have hgg := go3 i r _ r1 hg
          have la := tn.inc.la
          have lb := tn.inc.lb
          have hsmall := now_small wf hn tn.inc
          refine q_asgD (ed_dc2 (js := succs rows i r) (ka := ka') (A := A) (ei_ints (a := gs[i]) (ev_op (ev_var rfl) (ev_var rfl) (rv_ixL (xs := gs.map V.ref) (sq_of (st8.ex _ _ go1)) (atI_nat (by rw [List.getElem?_map, hg]; rfl)))) (sq_of (st8.ex _ _ hgg))) st8.sa (fun c hc => by have := succs_lt wf r1 hc; omega) (fun _ => rfl) (fun _ => rfl) (fun _ => rfl) (fun _ _ => rfl) (fun _ _ => rfl)
            (fun ms => by have := hsmall ms; omega) (fun ms i m => by have := part_small wf hn tn.inc ms i m; omega)) fun p9 H9 h9 e9 k9 => ?_
          refine q_lockDc (fun c => !decide (some c = r.lays)) k9 rfl (by have := hsmall (succs rows i r); omega) (fun _ => rfl) (fun _ => rfl) (fun c Hx bx _ => ?_) fun p10 H10 h10 e10 k10 => ?_
          · have tx := bx.tl k9
            have hrow : RowAt Hx b r := (r3.mono (tl_ex (e02.trans (st8.ex.trans e9)))).mono tx
            refine et_is (et_test (ev_op (ev_var rfl) (ev_laid (ev_op (ev_var rfl) (ev_var rfl) (rv_ixT (xs := as.map V.ref) (st_of (tx _ _ (e9 _ _ (st8.ex _ _ (e02 _ _ hl))))) (atI_nat r2))) hrow) (rv_ne (scal_oV _ _)))) ?_
            rw [int_oV]
          have e810 := e9.trans e10
          refine q_updD (ls := addAll [] (r.reads.filter fun _ => true)) k10 (ev_var rfl) (ed_cells (fun _ => true) (ei_intsN (el_readM (r := r) (ev_op (ev_var rfl) (ev_var rfl) (rv_ixT (xs := as.map V.ref) (st_of (e810 _ _ (st8.ex _ _ (e02 _ _ hl)))) (atI_nat r2))) (r3.mono (tl_ex (e02.trans (st8.ex.trans e810)))))) (by have := reads_three (wf.bnd r (List.mem_of_getElem? r1)); omega) (fun _ => rfl) (fun _ => rfl) (fun _ _ _ _ => et_yes)) ?_ fun H11 e11 => ?_
          · have h1 := nodup_len (b := nowK ka' (succs rows i r)) (nodup_addAll (b := (nowK ka' (succs rows i r)).filter fun c => !decide (some c = r.lays)) List.nodup_nil) (fun x hx => by
              rcases mem_addAll.mp hx with z | z
              · simp at z
              · exact (List.mem_filter.mp z).1)
            have h2 := len_addAll (a := []) (b := r.reads.filter fun _ => true)
            have h3 := List.length_filter_le (fun _ => true) r.reads
            have h4 := reads_three (wf.bnd r (List.mem_of_getElem? r1))
            have h5 := hsmall (succs rows i r)
            simp only [List.length_nil] at h2
            omega
          rw [keep_all]
          show tSeq _ _ _ _ (upd H11 p10 (.dK (mkD (hereK (nowK ka' (succs rows i r)) r))))
          have e12 : Ex H8 (upd H11 p10 (.dK (mkD (hereK (nowK ka' (succs rows i r)) r)))) := e9.trans (Ex.mut (e10.trans e11) h10)
          have hp12 : (upd H11 p10 (.dK (mkD (hereK (nowK ka' (succs rows i r)) r)))) p10 = some (.dK (mkD (hereK (nowK ka' (succs rows i r)) r))) := upd_same
          have hp9 : (upd H11 p10 (.dK (mkD (hereK (nowK ka' (succs rows i r)) r)))) p9 = some (.dK (mkD (nowK ka' (succs rows i r)))) := by
            rw [upd_ne (fun z => by rw [← z, k9] at h10; cases h10)]; exact e11 _ _ (e10 _ _ k9)
          generalize upd H11 p10 (.dK (mkD (hereK (nowK ka' (succs rows i r)) r))) = H12 at e12 hp12 hp9 ⊢
          obtain ⟨ds, dA, sa1, sa2, sa3, sa4⟩ := (st8.sa.ex e12).get (i := i) (by omega)
          refine q_ifAsg (v := .bl (d && decide ((hereK (nowK ka' (succs rows i r)) r).length = (at' ka' i).length))) (et_test (ev_op (ev_var rfl) (ev_op (ev_var rfl) (ev_var rfl) (rv_ixL (xs := ds.map V.ref) (sq_of sa1) (atI_nat sa3))) (rv_neD hp12 sa4 fun hl => same_of_len (tn.inc.na i).1 nodup_hereK (tn.inc.ua i r r1) (by omega)))) (fun hb => ?_) (fun hb => ?_) fun H13 e13 => ?_
          · have : decide ((hereK (nowK ka' (succs rows i r)) r).length = (at' ka' i).length) = false := by simpa using hb
            rw [this, Bool.and_false]; exact ev_c
          · have : decide ((hereK (nowK ka' (succs rows i r)) r).length = (at' ka' i).length) = true := by simpa using hb
            rw [this, Bool.and_true]; rfl
          have e813 := e12.trans e13
          refine q_setL (j := i) (e13 _ _ sa1) (ev_var rfl) (ev_var rfl) (ev_var rfl) (by rw [List.length_map]; omega) fun H14 e14 => ?_
          have e814 := e813.trans e14
          have sA' := SetsAt.set (i := i) (st8.sa.ex e814) (p := p10) (k := hereK (nowK ka' (succs rows i r)) r) (e14 _ _ (e13 _ _ hp12)) (e14 _ _ (e13 _ _ sa1)) (by omega)
          have sB' := (st8.sb.ex e814).other (m := A) (o := .lst ((ds.map V.ref).set i (.ref p10))) (e14 _ _ (e13 _ _ sa1)) (Ne.symm st.ne)
          have hpA : p9 ≠ A := fun z => by rw [z, sa1] at hp9; cases hp9
          have hp9' : (upd H14 A (.lst ((ds.map V.ref).set i (.ref p10)))) p9 = some (.dK (mkD (nowK ka' (succs rows i r)))) := by
            rw [upd_ne hpA]; exact e14 _ _ (e13 _ _ hp9)
          have ex' : Ex H2 (upd H14 A (.lst ((ds.map V.ref).set i (.ref p10)))) := Ex.mut (st8.ex.trans e814) st.fa
          have sbL := sB'.get (i := i) (by omega)
          generalize upd H14 A (.lst ((ds.map V.ref).set i (.ref p10))) = H15 at sA' sB' hp9' ex' sbL ⊢
          obtain ⟨ds2, dB, sb1, sb2, sb3, sb4⟩ := sbL
          refine s_setL (j := i) sb1 (ev_var rfl) (ev_var rfl) (ev_var rfl) (by rw [List.length_map]; omega) fun H16 e16 => nxM ?_
          refine ⟨_, _, _, _, _, _, rfl, ⟨st.fa, st.fb, st.ne, Ex.mut (ex'.trans e16) st.fb, (sA'.ex e16).other (e16 _ _ sb1) st.ne, SetsAt.set (i := i) (sB'.ex e16) (e16 _ _ hp9') (e16 _ _ sb1) (by omega)⟩, Turn.step tn r1 hit (fun z => ?_) (fun z => ?_)⟩
          · cases d <;> simp at z ⊢; exact z
          · cases d <;> simp at z ⊢; exact .inl z
    · have ed : d = true := by simpa using hb
      subst ed
      rcases hd with ⟨z, _⟩ | ⟨_, _, ka0, T0, tn⟩
      · cases z
      · refine s_ret (ev_var rfl) fun H7 e7 => rtM ?_
        exact k B H7 kb (fresh_back e02 st.fb) ((e02.trans st.ex).trans (e6.trans e7)) (st.sb.ex (e6.trans e7)) (Turn.sound0 wf tn)
end
end K51

/-! Walks 4: lean's wanted_behind. -/
namespace K51
open PySem L2 Evl
section
variable {P : Program} {w : World} {K : PySem.W.Frag} {mg : Str → Option Value} {base : Heap} {o1 o2 o3 o4 o5 : Addr}
theorem int_len {a b : Nat} : decide (V.int (a : Int) = V.int (b : Int)) = decide (a = b) := by
  by_cases h : a = b
  · subst h; simp
  · rw [decide_eq_false h, decide_eq_false (fun z => h (by have := V.int.inj z; omega))]
theorem ei_tupI {σ : L2.St} {H : Hp} {E : XK} {te : TE} {a : Addr} {r : Row} {j : Nat} (h : Ev te σ H (.ref a)) (hr : RowAt H a r) : EvI (iTup K (tCall spRBl [] E (tCons te tNil))) (gName j) σ H r.reads.length fun i s => s.set j (r.reads.map V.int)[i]? := fun H1 e R k =>
  h H1 e _ fun H2 e2 => ⟨a, r, rfl, hr.mono (tl_ex (e.trans e2)), fun p H3 e3 hp => ⟨p, rfl, ⟨_, st_of hp⟩, k _ H3 (e2.trans e3) ⟨_, _, (by
    have := walk_tup (K := K) (a := p) (xs := r.reads.map V.int)
    rw [List.length_map] at this
    exact this), fun H4 e4 => ex_t e4 (st_of hp), fun i Ha x Hb _ _ y σ0 R rr => by
    obtain ⟨rfl, hx⟩ := y
    show R (σ0.set j (some x)) Hb
    have q := rr Hb (Ex.refl Hb)
    rw [hx] at q
    exact q⟩⟩⟩
abbrev sWl : Stmt := top 27
abbrev nWl : List Str := ["rows", "named", "goals", "ahead", "behind", "goes", "at", "now", "first", "row", "goal", "cell", "some"]
theorem scWl : FnScope nWl ["rows", "named"] (defScope sWl) := ⟨rfl, rfl, rfl, by decide +kernel, rfl, by decide +kernel, by decide +kernel⟩
def spWl : Sp := fun vs H Q _ => ∃ a b rows named, vs = [.ref a, .ref b] ∧ RowsL H a rows ∧ H b = some (.lst (named.map V.int)) ∧ named.length ≤ 1000 ∧ WF rows ∧ rows.length ≤ 10000 ∧ ∀ p H2 ks, H p = none → Ex H H2 → SetsAt H2 p ks → Sound rows named ks → Q (.ref p) H2
theorem ok_Wl {f f1 f2 f3 : Addr} {fd d1 d2 d3 : FuncData} (F : Fun K "wanted_behind" "wanted_behind" sWl f fd) (T : Txt K mg o1 o2 o3 o4 o5)
    (C_goals_of : CalAt P w K mg base 1 "goals_of" ["rows"] spGo f1 d1) (C_laid_by_lean : CalAt P w K mg base 1 "laid_by_lean" ["row"] spLB f2 d2) (C_read_by_lean : CalAt P w K mg base 1 "read_by_lean" ["row"] spRBl f3 d3) : FnOk P w K mg base CX0 2 f fd ["rows", "named"] spWl := by
  refine F.ok scWl (fun vs H Q E h => ?_) (fun cdv A outer s H vs Q E hr h => ?_)
  · obtain ⟨a, b, rows, named, rfl, _⟩ := h; rfl
  · obtain ⟨a, nb, rows, named, rfl, ⟨as, hl, hrows⟩, hnm, hnz, wf, hn, k⟩ := h
    have nd := scWl.nd
    have hu := hu_of hr
    refine ⟨_, (pss_cons (ps_set (i := 2) nd rfl (Or.inl rfl) (pe_call C_goals_of.ok (hr.mono (by decide)) rfl C_goals_of.g C_goals_of.kp C_goals_of.b .nil pass0 (pa_cons (pv 0) pa_nil)))
      (pss_cons (ps_set (i := 3) nd rfl (Or.inr rfl) (pe_lc (own := [("row", 9)]) (g := gName 9) (by rfl) nd (pi_list (pv 0)) (blkOk_by (own := [("row", 9)]) (N := nWl) (sc := defScope sWl) (by decide +kernel)) (fun _ _ _ _ _ => (pg_name (i := 9) nd rfl (Or.inl rfl))) (fun _ _ _ _ _ => pts_nil) (fun _ _ _ _ _ => pe_dnewK)))
      (pss_cons (ps_setLc (i := 4) (own := [("row", 9)]) (g := gName 9) (by rfl) nd rfl rfl (sw_true rfl rfl rfl (by decide +kernel)) (pi_list (pv 0)) (blkOk_by (own := [("row", 9)]) (N := nWl) (sc := defScope sWl) (by decide +kernel)) (fun _ _ _ _ _ => (pg_name (i := 9) nd rfl (Or.inl rfl))) (fun _ _ _ _ _ => pts_nil) (fun _ _ _ _ _ => pe_dnewK))
      (pss_cons (ps_set (i := 5) nd rfl (Or.inl rfl) pe_bl)
      (pss_cons (ps_while PassesOwn.never (pt_val (pv 5)) (pss_cons (ps_set (i := 5) nd rfl (Or.inl rfl) pe_bl)
      (pss_one (ps_for PassesOwn.never rfl (pi_range3 rfl T.range (pa_cons (pe_op op_sub (pe_callB call_len_seq (by rfl) T.len PySem.boot_len (pa_cons (pv 0) pa_nil)) pe_int) (pa_cons (pe_un un_neg pe_int) (pa_cons (pe_un un_neg pe_int) pa_nil)))) (pg_name (i := 6) nd rfl (Or.inr rfl)) (pss_cons (ps_setDc2 (i := 7) (own := [("goal", 10), ("cell", 11)]) (vs1 := [11]) (g := gName 10) (g1 := gName 11) (by rfl) nd rfl rfl (sw_dict rfl rfl rfl (by decide +kernel)) (pi_list (pe_ix ix_list (pv 2) (pv 6) (fun _ _ => rfl))) (blkOk_by (own := [("goal", 10), ("cell", 11)]) (N := nWl) (sc := defScope sWl) (by decide +kernel)) (by decide) (fun _ _ _ _ _ => (pg_name (i := 10) nd rfl (Or.inl rfl))) (fun _ _ _ _ _ => pts_nil) (fun _ _ _ _ _ => (pi_keys (pe_ix (r := rIxL K) ix_list (pv 3) (pv 10) (fun _ _ => rfl)))) (fun _ _ _ _ _ => (pg_name (i := 11) nd rfl (Or.inl rfl))) (fun _ _ _ _ _ => pts_nil) (fun _ _ _ _ _ => (pv 11)) (fun _ _ _ _ _ => pe_bl))
      (pss_cons (ps_lock (ps_setDc (i := 8) (own := [("cell", 11)]) (g := gName 11) (by rfl) nd rfl rfl (sw_dict rfl rfl rfl (by decide +kernel)) (pi_keys (pv 7)) (blkOk_by (own := [("cell", 11)]) (N := nWl) (sc := defScope sWl) (by decide +kernel)) (fun _ _ _ _ _ => (pg_name (i := 11) nd rfl (Or.inl rfl))) (fun _ _ _ _ _ => (pts_one (pt_cmpR op_ne (pv 11) (pe_call C_laid_by_lean.ok (hr.mono (by decide)) rfl C_laid_by_lean.g C_laid_by_lean.kp C_laid_by_lean.b .nil pass0 (pa_cons (pe_ix (r := rIxL K) ix_list (pv 0) (pv 6) (fun _ _ => rfl)) pa_nil)) (nomark _)))) (fun _ _ _ _ _ => (pv 11)) (fun _ _ _ _ _ => pe_bl)))
      (pss_cons (ps_expr (pe_bm PySem.F.plainAttrs_dict PySem.F.slot_dict_update PySem.F.type_dict_update mt_update (pv 8) (pa_cons (pe_dc (own := [("cell", 11)]) (g := gName 11) (by rfl) nd (pi_tup (pe_call C_read_by_lean.ok (hr.mono (by decide)) rfl C_read_by_lean.g C_read_by_lean.kp C_read_by_lean.b .nil pass0 (pa_cons (pe_ix ix_list (pv 0) (pv 6) (fun _ _ => rfl)) pa_nil))) (blkOk_by (own := [("cell", 11)]) (N := nWl) (sc := defScope sWl) (by decide +kernel)) (fun _ _ _ _ _ => (pg_name (i := 11) nd rfl (Or.inl rfl))) (fun _ _ _ _ _ => pts_nil) (fun _ _ _ _ _ => (pv 11)) (fun _ _ _ _ _ => pe_bl)) pa_nil)))
      (pss_cons (ps_set (i := 5) nd rfl (Or.inl rfl) (pe_or (pv 5) (pe_or (pe_cmpR op_ne (pe_callB call_lenD (by rfl) T.len PySem.boot_len (pa_cons (pv 8) pa_nil)) (pe_callB call_lenD (by rfl) T.len PySem.boot_len (pa_cons (pe_ix ix_list (pv 3) (pv 6) (fun _ _ => rfl)) pa_nil)) (nomark _)) (pe_one (pe_cmpR op_ne (pe_callB call_lenD (by rfl) T.len PySem.boot_len (pa_cons (pv 7) pa_nil)) (pe_callB call_lenD (by rfl) T.len PySem.boot_len (pa_cons (pe_ix ix_list (pv 4) (pv 6) (fun _ _ => rfl)) pa_nil)) (nomark _))))))
      (pss_one (ps_asg (pe_tup (pa_cons (pv 8) (pa_cons (pv 7) pa_nil))) (pg_tup (n := 2) rfl (pgs_cons (pg_sub (pv 3) (pv 6) set_list) (pgs_cons (pg_sub (pv 4) (pv 6) set_list) pgs_nil)))))))))))))
      (pss_one (ps_ret (pe_lc (own := [("some", 12)]) (g := gName 12) (by rfl) nd (pi_list (pv 4)) (blkOk_by (own := [("some", 12)]) (N := nWl) (sc := defScope sWl) (by decide +kernel)) (fun _ _ _ _ _ => (pg_name (i := 12) nd rfl (Or.inl rfl))) (fun _ _ _ _ _ => pts_nil) (fun _ _ _ _ _ => (pe_dc (own := [("cell", 11)]) (g := gName 11) (wi := iList K _) (by rfl) nd (pi_list (pe_op op_cat (pe_callTy (call_listD rfl) (by rfl) T.list (by decide +kernel) (pa_cons (pv 12) pa_nil)) (pv 1))) (blkOk_own (own := [("cell", 11)]) (N := nWl) (by decide +kernel)) (fun _ _ _ _ _ => (pg_name (i := 11) nd rfl (Or.inl rfl))) (fun _ _ _ _ _ => pts_nil) (fun _ _ _ _ _ => (pv 11)) (fun _ _ _ _ _ => pe_bl))))))))))), ?_⟩
    dsimp only [cxK, cxKn, List.map]
    have row : ∀ i, i < rows.length → ∃ r b, rows[i]? = some r ∧ (as.map V.ref)[i]? = some (.ref b) ∧ RowAt H b r := fun i hi => by
      have h2 : rows[i]? = some rows[i] := List.getElem?_eq_getElem hi
      obtain ⟨b, h1, h3⟩ := hrows.get' h2
      exact ⟨_, b, h2, by rw [List.getElem?_map, h1]; rfl, h3⟩
    have hlen := hrows.1
    refine q_asgR (r_call (r_ea (ea_cons (ev_var rfl) ea_nil) fun H1 e1 => ?_))
    refine ⟨a, rows, rfl, RowsL.ex e1 ⟨as, hl, hrows⟩, wf, by omega, fun G H2 hG e2 hgo => ?_⟩
    have e02 := e1.trans e2
    obtain ⟨gs, go1, go2, go3⟩ := hgo
    refine q_asgR (el_sets (rows := rows) (ei_list (ev_var rfl) (sq_of (e02 _ _ hl))) (by rw [List.length_map, hlen]) (by rw [List.length_map]; omega) (fun i _ => rfl) _ (Ex.refl _) _ fun A H3 hA e3 sA => ?_)
    have e03 := e02.trans e3
    refine q_asgR (el_sets (rows := rows) (ei_list (ev_var rfl) (sq_of (e03 _ _ hl))) (by rw [List.length_map, hlen]) (by rw [List.length_map]; omega) (fun i _ => rfl) _ (Ex.refl _) _ fun B H4 hB e4 sB => ?_)
    have hAB : A ≠ B := fun z => by
      obtain ⟨ds, h, _⟩ := sA
      rw [← z, h] at hB; cases hB
    refine q_asg ev_c fun H5 e5 => ?_
    have st0 : WSt H2 H5 A B (rows.map fun _ => []) (rows.map fun _ => []) := ⟨hA, fresh_back e3 hB, hAB, (e3.trans e4).trans e5, (sA.ex e4).ex e5, sB.ex e5⟩
    refine q_while (fun m σ' H' => ∃ d u5 u6 u7 ka kb, σ' = [some (.ref a), some (.ref nb), some (.ref G), some (.ref A), some (.ref B), some (.bl d), u5, u6, u7, none, none, none, none] ∧ WSt H2 H' A B ka kb ∧ Inc rows ka kb ∧
      ((d = true ∧ m + (total ka + total kb) = 2 * (rows.length * (cells rows).length) + 1) ∨ (d = false ∧ m = 0 ∧ ∃ ka0 T0, Turn rows ka0 T0 ka kb rows.length false)))
      (2 * (rows.length * (cells rows).length) + 1 - (total (rows.map fun _ => []) + total (rows.map fun _ => [])))
      ⟨true, none, none, none, _, _, rfl, st0, inc_start rows, .inl ⟨rfl, by have := inc_bound (inc_start rows); omega⟩⟩ (fun m σ' H' hw => ?_)
    obtain ⟨d, u5, u6, u7, ka, kb, rfl, st, inc, hd⟩ := hw
    refine ⟨d, et_B (ev_var rfl), fun hb H6 e6 => ?_, fun hb H6 e6 => ?_⟩
    · subst hb
      have hm : m + (total ka + total kb) = 2 * (rows.length * (cells rows).length) + 1 := by
        rcases hd with z | z
        · exact z.2
        · cases z.1
      have st6 : WSt H2 H6 A B ka kb := ⟨st.fa, st.fb, st.ne, st.ex.trans e6, st.sa.ex e6, st.sb.ex e6⟩
      refine ⟨fun σ' H' => ∃ d u5 u6 u7 ka' kb', σ' = [some (.ref a), some (.ref nb), some (.ref G), some (.ref A), some (.ref B), some (.bl d), u5, u6, u7, none, none, none, none] ∧ WSt H2 H' A B ka' kb' ∧ Turn rows ka (total ka + total kb) ka' kb' rows.length d, fun σ2 H2' hN => ?_, ?_⟩
      · obtain ⟨d, u5, u6, u7, ka', kb', rfl, st', tn⟩ := hN
        have hb' := inc_bound tn.inc
        cases d with
        | true => exact ⟨2 * (rows.length * (cells rows).length) + 1 - (total ka' + total kb'), by have := tn.more rfl; omega, true, u5, u6, u7, ka', kb', rfl, st', tn.inc, .inl ⟨rfl, by omega⟩⟩
        | false => exact ⟨0, by have := inc_bound inc; omega, false, u5, u6, u7, ka', kb', rfl, st', tn.inc, .inr ⟨rfl, rfl, _, _, tn⟩⟩
      · refine q_asg ev_c fun H7 e7 => ?_
        have st7 : WSt H2 H7 A B ka kb := ⟨st.fa, st.fb, st.ne, st6.ex.trans e7, st6.sa.ex e7, st6.sb.ex e7⟩
        refine s_forDown (n := rows.length) ?_ (by omega) (fun t σ' H' => ∃ d u5 u6 u7 ka' kb', σ' = [some (.ref a), some (.ref nb), some (.ref G), some (.ref A), some (.ref B), some (.bl d), u5, u6, u7, none, none, none, none] ∧ WSt H2 H' A B ka' kb' ∧ Turn rows ka (total ka + total kb) ka' kb' t d)
          (fun H8 e8 => ⟨false, u5, u6, u7, ka, kb, rfl, ⟨st.fa, st.fb, st.ne, st7.ex.trans e8, st7.sa.ex e8, st7.sb.ex e8⟩, Turn.start inc⟩) (fun i t σ' H8 hit p => ?_) (fun σ' H8 p => nxM p)
        · have := ea_cons (ev_op (r := rI0 fun i j => .int (i - j)) (ev_len (K := K) (σ := [some (.ref a), some (.ref nb), some (.ref G), some (.ref A), some (.ref B), some (.bl false), u5, u6, u7, none, none, none, none]) (ta := tVar 0) (ev_var rfl) (sq_of (st7.ex _ _ (e02 _ _ hl)))) (ev_c (v := .int 1)) rv_I0) (ea_cons (ev_un ev_c (ru_neg (i := 1))) (ea_cons (ev_un ev_c (ru_neg (i := 1))) ea_nil))
          rw [List.length_map, hlen] at this
          exact this
        · obtain ⟨d, u5, u6, u7, ka', kb', rfl, st8, tn⟩ := p
          obtain ⟨r, b, r1, r2, r3⟩ := row i (by omega)
          have hi : i < rows.length := by omega
          have hg : gs[i]? = some gs[i] := List.getElem?_eq_getElem (by omega)
          have hgg := go3 i r _ r1 hg
          have la := tn.inc.la
          have lb := tn.inc.lb
          have hsmall := now_small wf hn tn.inc
          refine q_asgD (ed_dc2 (js := succs rows i r) (ka := ka') (A := A) (ei_ints (a := gs[i]) (ev_op (ev_var rfl) (ev_var rfl) (rv_ixL (xs := gs.map V.ref) (sq_of (st8.ex _ _ go1)) (atI_nat (by rw [List.getElem?_map, hg]; rfl)))) (sq_of (st8.ex _ _ hgg))) st8.sa (fun c hc => by have := succs_lt wf r1 hc; omega) (fun _ => rfl) (fun _ => rfl) (fun _ => rfl) (fun _ _ => rfl) (fun _ _ => rfl)
            (fun ms => by have := hsmall ms; omega) (fun ms i m => by have := part_small wf hn tn.inc ms i m; omega)) fun p9 H9 h9 e9 k9 => ?_
          refine q_lockDc (fun c => !decide (some c = r.lays)) k9 rfl (by have := hsmall (succs rows i r); omega) (fun _ => rfl) (fun _ => rfl) (fun c Hx bx _ => ?_) fun p10 H10 h10 e10 k10 => ?_
          · have hrow : RowAt Hx b r := (r3.mono (tl_ex (e02.trans (st8.ex.trans e9)))).mono (bx.tl k9)
            have hla : H9 a = some (.lst (as.map V.ref)) := e9 _ _ (st8.ex _ _ (e02 _ _ hl))
            have hap : a ≠ p9 := fun z => by rw [z, k9] at hla; cases hla
            refine et_is (et_test (ev_op (ev_var rfl) (ev_laid (ev_op (ev_var rfl) (ev_var rfl) (rv_ixL (xs := as.map V.ref) (sq_of (bx _ _ hla hap)) (atI_nat r2))) hrow) (rv_ne (scal_oV _ _)))) ?_
            rw [int_oV]
          have e810 := e9.trans e10
          refine q_updD (ls := addAll [] (r.reads.filter fun _ => true)) k10 (ev_var rfl) (ed_cells (fun _ => true) (ei_tupI (r := r) (ev_op (ev_var rfl) (ev_var rfl) (rv_ixL (xs := as.map V.ref) (sq_of (e810 _ _ (st8.ex _ _ (e02 _ _ hl)))) (atI_nat r2))) (r3.mono (tl_ex (e02.trans (st8.ex.trans e810))))) (by have := reads_three (wf.bnd r (List.mem_of_getElem? r1)); omega) (fun _ => rfl) (fun _ => rfl) (fun _ _ _ _ => et_yes)) ?_ fun H11 e11 => ?_
          · have h1 := nodup_len (b := nowK ka' (succs rows i r)) (nodup_addAll (b := (nowK ka' (succs rows i r)).filter fun c => !decide (some c = r.lays)) List.nodup_nil) (fun x hx => by
              rcases mem_addAll.mp hx with z | z
              · simp at z
              · exact (List.mem_filter.mp z).1)
            have h2 := len_addAll (a := []) (b := r.reads.filter fun _ => true)
            have h3 := List.length_filter_le (fun _ => true) r.reads
            have h4 := reads_three (wf.bnd r (List.mem_of_getElem? r1))
            have h5 := hsmall (succs rows i r)
            simp only [List.length_nil] at h2
            omega
          rw [keep_all]
          show tSeq _ _ _ _ (upd H11 p10 (.dK (mkD (hereK (nowK ka' (succs rows i r)) r))))
          have e12 : Ex H8 (upd H11 p10 (.dK (mkD (hereK (nowK ka' (succs rows i r)) r)))) := e9.trans (Ex.mut (e10.trans e11) h10)
          have hp12 : (upd H11 p10 (.dK (mkD (hereK (nowK ka' (succs rows i r)) r)))) p10 = some (.dK (mkD (hereK (nowK ka' (succs rows i r)) r))) := upd_same
          have hp9 : (upd H11 p10 (.dK (mkD (hereK (nowK ka' (succs rows i r)) r)))) p9 = some (.dK (mkD (nowK ka' (succs rows i r)))) := by
            rw [upd_ne (fun z => by rw [← z, k9] at h10; cases h10)]; exact e11 _ _ (e10 _ _ k9)
          generalize upd H11 p10 (.dK (mkD (hereK (nowK ka' (succs rows i r)) r))) = H12 at e12 hp12 hp9 ⊢
          obtain ⟨ds, dA, sa1, sa2, sa3, sa4⟩ := (st8.sa.ex e12).get (i := i) (by omega)
          obtain ⟨ds2, dB, sb1, sb2, sb3, sb4⟩ := (st8.sb.ex e12).get (i := i) (by omega)
          refine q_asg (v := .bl (d || ((!decide ((hereK (nowK ka' (succs rows i r)) r).length = (at' ka' i).length)) || (!decide ((nowK ka' (succs rows i r)).length = (at' kb' i).length))))) (ev_orV (ev_var rfl) fun _ => ev_orV ?_ fun _ => ?_) fun H13 e13 => ?_
          · have := ev_op (r := rNe) (ev_lenD (σ := [some (.ref a), some (.ref nb), some (.ref G), some (.ref A), some (.ref B), some (.bl d), some (.int (i : Nat)), some (.ref p9), some (.ref p10), none, none, none, none]) (ta := tVar 8) (ev_var rfl) hp12) (ev_lenD (ta := tOp (rIxL K) (tVar 3) (tVar 6)) (ev_op (ev_var rfl) (ev_var rfl) (rv_ixL (xs := ds.map V.ref) (sq_of sa1) (atI_nat sa3))) sa4) (rv_ne rfl)
            refine ev_is this ?_
            rw [int_len]
          · have := ev_op (r := rNe) (ev_lenD (σ := [some (.ref a), some (.ref nb), some (.ref G), some (.ref A), some (.ref B), some (.bl d), some (.int (i : Nat)), some (.ref p9), some (.ref p10), none, none, none, none]) (ta := tVar 7) (ev_var rfl) hp9) (ev_lenD (ta := tOp (rIxL K) (tVar 4) (tVar 6)) (ev_op (ev_var rfl) (ev_var rfl) (rv_ixL (xs := ds2.map V.ref) (sq_of sb1) (atI_nat sb3))) sb4) (rv_ne rfl)
            refine ev_is this ?_
            rw [int_len]
          have e813 := e12.trans e13
          refine s_asg2 (ev_var rfl) (ev_var rfl) fun H14 e14 => ?_
          have e814 := e813.trans e14
          refine g_setL (j := i) (e14 _ _ (e13 _ _ sa1)) (ev_var rfl) (ev_var rfl) (by rw [List.length_map]; omega) fun H14' e14' => ?_
          have e814' := e814.trans e14'
          have sa1' := e14' _ _ (e14 _ _ (e13 _ _ sa1))
          have sA' := SetsAt.set (i := i) (st8.sa.ex e814') (p := p10) (k := hereK (nowK ka' (succs rows i r)) r) (e14' _ _ (e14 _ _ (e13 _ _ hp12))) sa1' (by omega)
          have sB' := (st8.sb.ex e814').other (m := A) (o := .lst ((ds.map V.ref).set i (.ref p10))) sa1' (Ne.symm st.ne)
          have hpA : p9 ≠ A := fun z => by rw [z, sa1] at hp9; cases hp9
          have hp9' : (upd H14' A (.lst ((ds.map V.ref).set i (.ref p10)))) p9 = some (.dK (mkD (nowK ka' (succs rows i r)))) := by
            rw [upd_ne hpA]; exact e14' _ _ (e14 _ _ (e13 _ _ hp9))
          have ex' : Ex H2 (upd H14' A (.lst ((ds.map V.ref).set i (.ref p10)))) := Ex.mut (st8.ex.trans e814') st.fa
          have sbL := sB'.get (i := i) (by omega)
          generalize upd H14' A (.lst ((ds.map V.ref).set i (.ref p10))) = H15 at sA' sB' hp9' ex' sbL ⊢
          obtain ⟨ds3, dB3, sc1, sc2, sc3, sc4⟩ := sbL
          refine g_last (g_setL (j := i) sc1 (ev_var rfl) (ev_var rfl) (by rw [List.length_map]; omega) fun H16 e16 => g_nil (nxM ?_))
          refine ⟨_, _, _, _, _, _, rfl, ⟨st.fa, st.fb, st.ne, Ex.mut (ex'.trans e16) st.fb, (sA'.ex e16).other (e16 _ _ sc1) st.ne, SetsAt.set (i := i) (sB'.ex e16) (e16 _ _ hp9') (e16 _ _ sc1) (by omega)⟩, Turn.step tn r1 hit (fun z => ?_) (fun z => ?_)⟩
          · simp only [Bool.or_eq_false_iff, Bool.not_eq_false', decide_eq_true_eq] at z
            exact ⟨z.1, z.2.1⟩
          · simp only [Bool.or_eq_true, Bool.not_eq_true', decide_eq_false_iff_not] at z
            exact z
    · subst hb
      rcases hd with ⟨z, _⟩ | ⟨_, _, ka0, T0, tn⟩
      · cases z
      · have st6 : WSt H2 H6 A B ka kb := ⟨st.fa, st.fb, st.ne, st.ex.trans e6, st.sa.ex e6, st.sb.ex e6⟩
        have lb := tn.inc.lb
        obtain ⟨ds, hB6, hd6⟩ := st6.sb
        have e06 := e02.trans st6.ex
        refine s_retR (el_dicts (ks := kb.map fun k => addAll (addAll [] k) named) (bd := fun i s => s.set 12 ((ds.map V.ref)[i]?)) ?_ (by rw [List.length_map]; omega) (fun _ _ => rfl) (fun i k H7 e7 hk => ?_) _ (Ex.refl _) _ fun p H7 hp e7 h7 => rtM ?_)
        · have := ei_list (K := K) (σ := [some (.ref a), some (.ref nb), some (.ref G), some (.ref A), some (.ref B), some (.bl false), u5, u6, u7, none, none, none, none]) (tl := tVar 4) (j := 12) (ev_var rfl) (sq_of hB6)
          rw [List.length_map, hd6.1] at this
          rw [List.length_map]
          exact this
        · rw [List.getElem?_map] at hk
          cases hkb : kb[i]? with
          | none => rw [hkb] at hk; cases hk
          | some kk =>
            rw [hkb] at hk
            have ek : k = addAll (addAll [] kk) named := (Option.some.inj hk).symm
            subst ek
            obtain ⟨d, hd1, hd2⟩ := hd6.get' hkb
            have hdm : (ds.map V.ref)[i]? = some (.ref d) := by rw [List.getElem?_map, hd1]; rfl
            have hkl : kk.length ≤ 30000 := by
              have h1 := tn.inc.nb i
              have e : at' kb i = kk := by unfold at'; rw [hkb]; rfl
              rw [e] at h1
              have h2 := nodup_len h1.1 h1.2
              have h3 := cells_len wf.bnd
              omega
            show EvD _ (List.set _ 12 (ds.map V.ref)[i]?) _ _
            rw [hdm]
            have h9 := ed_cells (σ := List.set (wipe [some (.ref a), some (.ref nb), some (.ref G), some (.ref A), some (.ref B), some (.bl false), u5, u6, u7, none, none, none, none] [12]) 12 (some (.ref d))) (H := H7) (vs := [11]) (j := 11) (ks := kk ++ named) (tt := tYes) (fun _ => true)
              (ei_intsN (K := K) (tl := tOp rCat (tCB (fun xs H Q => ∃ (a : Addr) (kvs : List (Key × V)), xs = [.ref a] ∧ Rd H a (.dK kvs) ∧ ∀ p, H p = none → Q (.ref p) (upd H p (.lst (kvs.map fun kv => kV kv.1)))) (tCons (tVar 12) tNil)) (tVar 1)) ?_) (by rw [List.length_append]; omega) (fun _ => rfl) (fun _ => rfl) (fun _ _ _ _ => et_yes)
            · rw [keep_all] at h9
              have ea : addAll [] (kk ++ named) = addAll (addAll [] kk) named := by unfold addAll; rw [List.foldl_append]
              rw [ea] at h9
              exact h9
            · rw [List.map_append]
              exact el_cat (el_listD (ev_var rfl) (e7 _ _ hd2)) (ev_var rfl) (e7 _ _ (e06 _ _ hnm)) (by rw [List.length_map, List.length_map]; omega)
        · exact k p H7 _ (fresh_back e06 hp) (e06.trans e7) h7 (Turn.sound wf tn named)
end
end K51

/-! Walks 5: lean's folding. -/
namespace K51
open PySem L2 Evl
section
variable {P : Program} {w : World} {K : PySem.W.Frag} {mg : Str → Option Value} {base : Heap} {o1 o2 o3 o4 o5 : Addr}
abbrev sRk : Stmt := top 22
abbrev nRk : List Str := ["word", "one", "other", "found"]
theorem scRk : FnScope nRk ["word", "one", "other"] (defScope sRk) := ⟨rfl, rfl, rfl, by decide +kernel, rfl, by decide +kernel, by decide +kernel⟩
def apV : Except Flt Int → V
  | .ok v => .int v
  | .error _ => .non
def spRk : Sp := fun vs H Q _ => ∃ (o : Op) (a b : Int), vs = [.str o.word, .int a, .int b] ∧ Small a ∧ Small b ∧ RetV (apV (o.ap a b)) H Q
theorem ok_Rk {f : Addr} {fd : FuncData} (F : Fun K "reckoned" "reckoned" sRk f fd) (T : Txt K mg o1 o2 o3 o4 o5) : FnOk P w K mg base CX0 1 f fd ["word", "one", "other"] spRk := by
  refine F.ok scRk (fun vs H Q E h => ?_) (fun cdv A outer s H vs Q E hr h => ?_)
  · obtain ⟨o, a, b, rfl, _⟩ := h; rfl
  · obtain ⟨o, a, b, rfl, ha, hb, k⟩ := h
    have nd := scRk.nd
    have hu := hu_of hr
    refine ⟨_, (pss_cons (ps_if (pt_cmpR op_in_seq (pv 0) (pe_tup (pa_cons pe_str (pa_cons pe_str pa_nil))) rfl) (pss_cons (ps_if (pt_cmpR op_eq (pv 2) pe_int (nomark _)) (pss_one (ps_ret pe_non)) pss_nil)
      (pss_one (ps_ret (pe_ifExp (pt_cmpR op_eq (pv 0) pe_str (nomark _)) (pe_op op_fdivS (pv 1) (pv 2)) (pe_op op_modN (pv 1) (pv 2)))))) pss_nil)
      (pss_cons (ps_if (pt_cmpR op_in_seq (pv 0) (pe_tup (pa_cons pe_str (pa_cons pe_str pa_nil))) rfl) (pss_one (ps_ret (pe_callTy call_int1 (by rfl) T.int (by decide +kernel) (pa_cons (pe_ifExp (pt_cmpR op_eq (pv 0) pe_str (nomark _)) (pe_cmpR op_lt (pv 1) (pv 2) (nomark _)) (pe_cmpR op_eq (pv 1) (pv 2) (nomark _))) pa_nil)))) pss_nil)
      (pss_cons (ps_set (i := 3) nd rfl (Or.inl rfl) (pe_ifExp (pt_cmpR op_eq (pv 0) pe_str (nomark _)) (pe_op op_add (pv 1) (pv 2)) (pe_ifExp (pt_cmpR op_eq (pv 0) pe_str (nomark _)) (pe_op op_sub (pv 1) (pv 2)) (pe_op op_mul (pv 1) (pv 2)))))
      (pss_one (ps_ret (pe_ifExp (pt_chain op_le op_le (pe_op op_sub pe_int (C8.pe_gc (by rfl) T.gGREATEST)) (pv 3) (C8.pe_gc (by rfl) T.gGREATEST)) (pv 3) pe_non)))))), ?_⟩
    dsimp only [cxK, cxKn, List.map]
    have word : ∀ {s : L2.St} {H1 : Hp}, Ev (tVar 0) (some (.str o.word) :: s) H1 (.str (Row.two o 0 0 0 ⟨0, 0⟩).word) := ev_var rfl
    refine q_when (et_words [.two .over, .two .rest] (by decide) (by decide +kernel) word) (fun h1 H1 e1 => ?_) (fun h1 H1 e1 => ?_)
    · by_cases hz : b = 0
      · refine q_when (b := true) (et_is (et_test (ev_op (ev_var rfl) ev_c (rv_eq rfl))) (by simp [hz])) (fun _ H2 e2 => s_ret ev_c fun H3 e3 => ?_) (fun z => by cases z)
        have : o.ap a b = .error .nought := by cases o <;> simp [Row.tag] at h1 <;> simp [Op.ap, hz]
        rw [this] at k
        exact rtM (k H3 ((e1.trans e2).trans e3))
      · refine q_when (b := false) (et_is (et_test (ev_op (ev_var rfl) ev_c (rv_eq rfl))) (by simp [hz])) (fun z => by cases z) (fun _ H2 e2 => s_ret (v := apV (o.ap a b)) (ev_if (et_word (.two .over) word) (fun h => ?_) (fun h => ?_)) fun H3 e3 => rtM (k H3 ((e1.trans e2).trans e3)))
        · have ho : o = .over := by cases o <;> simp [Row.tag] at h <;> rfl
          subst ho
          have e : Op.ap .over a b = .ok (a.fdiv b) := by simp [Op.ap, hz]
          rw [e]
          exact ev_op (ev_var rfl) (ev_var rfl) (rv_I ⟨hz, log2_small hb⟩)
        · have ho : o = .rest := by cases o <;> simp [Row.tag] at h h1 <;> rfl
          subst ho
          have e : Op.ap .rest a b = .ok (a.fmod b) := by simp [Op.ap, hz, rest_eq]
          rw [e]
          exact ev_op (ev_var rfl) (ev_var rfl) (rv_I hz)
    · refine q_when (et_words [.two .less, .two .same] (by decide) (by decide +kernel) word) (fun h2 H2 e2 => ?_) (fun h2 H2 e2 => ?_)
      · refine s_ret (v := apV (o.ap a b)) ?_ fun H3 e3 => rtM (k H3 ((e1.trans e2).trans e3))
        cases o <;> simp [Row.tag] at h2
        · refine ev_is (ev_intB (b := decide (a < b)) (ev_if (et_word (.two .less) word) (fun _ => ev_op (ev_var rfl) (ev_var rfl) rv_I0) (fun z => by simp [Row.tag] at z))) ?_
          by_cases h : a < b <;> simp [Op.ap, apV, h]
        · refine ev_is (ev_intB (b := decide (a = b)) (ev_if (et_word (.two .less) word) (fun z => by simp [Row.tag] at z) (fun _ => ev_is (ev_op (ev_var rfl) (ev_var rfl) (rv_eq rfl)) (by by_cases h : a = b <;> simp [h])))) ?_
          by_cases h : a = b <;> simp [Op.ap, apV, h]
      · have e02 := e1.trans e2
        have fin : ∀ v : Int, o.ap a b = fit v → ∀ H3, Ex H H3 → tRet (tIf (tTest (tChain (rI0 fun i j => V.bl (decide (i ≤ j))) (rI0 fun i j => V.bl (decide (i ≤ j))) (tOp (rI0 fun i j => V.int (i - j)) (tC (V.int 0)) (tC (V.int big))) (tVar 3) (tC (V.int big)))) (tVar 3) (tC V.non))
            { nx := fun x H' => Q V.non H', rt := Q } [some (.str o.word), some (.int a), some (.int b), some (.int v)] H3 := fun v hv H3 e3 => by
          refine s_ret (v := apV (o.ap a b)) ?_ fun H4 e4 => rtM (k H4 (e3.trans e4))
          rw [hv]
          refine ev_if (et_test (ev_chain (ev_op ev_c ev_c rv_I0) (ev_var rfl) rv_I0 (fun _ => ev_c) (fun _ => rv_I0))) (fun h => ?_) (fun h => ?_)
          · have h' : 0 - big ≤ v ∧ v ≤ big := by simpa using h
            unfold fit; rw [if_pos h']; exact ev_var rfl
          · have h' : ¬(0 - big ≤ v ∧ v ≤ big) := by
              intro z
              have : (decide (0 - big ≤ v) && decide (v ≤ big)) = true := by rw [decide_eq_true z.1, decide_eq_true z.2]; rfl
              rw [this] at h; cases h
            unfold fit; rw [if_neg h']; exact ev_c
        have mul : CMul a b := .inl (by unfold Small big at ha; omega)
        cases o <;> simp [Row.tag] at h1 h2
        · exact q_asg (v := .int (a + b)) (ev_if (et_word (.two .add) word) (fun _ => ev_op (ev_var rfl) (ev_var rfl) rv_I0) (fun z => by simp [Row.tag] at z)) fun H3 e3 => fin _ rfl H3 (e02.trans e3)
        · exact q_asg (v := .int (a - b)) (ev_if (et_word (.two .add) word) (fun z => by simp [Row.tag] at z) (fun _ => ev_if (et_word (.two .take) word) (fun _ => ev_op (ev_var rfl) (ev_var rfl) rv_I0) (fun z => by simp [Row.tag] at z))) fun H3 e3 => fin _ rfl H3 (e02.trans e3)
        · exact q_asg (v := .int (a * b)) (ev_if (et_word (.two .add) word) (fun z => by simp [Row.tag] at z) (fun _ => ev_if (et_word (.two .take) word) (fun z => by simp [Row.tag] at z) (fun _ => ev_op (ev_var rfl) (ev_var rfl) (rv_I mul)))) fun H3 e3 => fin _ rfl H3 (e02.trans e3)

abbrev sFd : Stmt := top 23
abbrev nFd : List Str := ["row", "known", "word", "place", "found"]
theorem scFd : FnScope nFd ["row", "known"] (defScope sFd) := ⟨rfl, rfl, rfl, by decide +kernel, rfl, by decide +kernel, by decide +kernel⟩
/-- what is known -/
def KnAt (H : Hp) (d : Addr) (kn : Cells) (n : Nat) : Prop := ∃ kvs, H d = some (.dK kvs) ∧ kvs.length ≤ n ∧ ∀ x, valV kvs (Sum.inl x) = (kn x).map V.int
def spFd : Sp := fun vs H Q _ => ∃ a r d kn n, vs = [.ref a, .ref d] ∧ RowAt H a r ∧ KnAt H d kn n ∧ SmallC kn ∧
  (folded r kn = none → RetV .non H Q) ∧ ∀ r', folded r kn = some r' → ∀ p H2, Ex H H2 → RowAt H2 p r' → Q (.ref p) H2
theorem ok_Fd {f f1 : Addr} {fd d1 : FuncData} (F : Fun K "folded" "folded" sFd f fd) (T : Txt K mg o1 o2 o3 o4 o5) (C_reckoned : CalAt P w K mg base 1 "reckoned" ["word", "one", "other"] spRk f1 d1) : FnOk P w K mg base CX0 2 f fd ["row", "known"] spFd := by
  refine F.ok scFd (fun vs H Q E h => ?_) (fun cdv A outer s H vs Q E hr h => ?_)
  · obtain ⟨a, r, d, kn, n, rfl, _⟩ := h; rfl
  · obtain ⟨a, r, d, kn, n, rfl, hrow, hkn, hsm, k1, k2⟩ := h
    have nd := scFd.nd
    have hu := hu_of hr
    refine ⟨_, (pss_cons (ps_par (i := 2) (j := 3) (by rfl) nd rfl rfl (by decide) rfl rfl (pa_cons (pe_ix ix_tup (pv 0) pe_int (fun _ _ => rfl)) (pa_cons (pe_ix ix_tup (pv 0) (pe_un un_neg pe_int) (fun _ _ => rfl)) pa_nil)) rfl)
      (pss_cons (ps_if (pw_and (pt_cmpR op_eq (pv 2) pe_str (nomark _)) (pw_and1 (pt_cmp (pc_din hu (pe_ix ix_tup (pv 0) pe_int (fun _ _ => rfl)) (pv 1))))).pt (pss_one (ps_ret (pe_tup (pa_cons pe_str (pa_cons (pe_ix ix_tup (pv 0) pe_int (fun _ _ => rfl)) (pa_cons (pe_dget hu (pv 1) (pe_ix ix_tup (pv 0) pe_int (fun _ _ => rfl)) (fun _ _ => rfl)) (pa_cons (pv 3) pa_nil))))))) pss_nil)
      (pss_cons (ps_if (pw_and (pt_cmpR op_in_seq (pv 2) (C8.pe_gc (by rfl) T.gTWOS) rfl) (pw_and (pt_cmp (pc_din hu (pe_ix ix_tup (pv 0) pe_int (fun _ _ => rfl)) (pv 1))) (pw_and1 (pt_cmp (pc_din hu (pe_ix ix_tup (pv 0) pe_int (fun _ _ => rfl)) (pv 1)))))).pt (pss_cons (ps_set (i := 4) nd rfl (Or.inl rfl) (pe_call C_reckoned.ok (hr.mono (by decide)) rfl C_reckoned.g C_reckoned.kp C_reckoned.b .nil pass0 (pa_cons (pv 2) (pa_cons (pe_dget hu (pv 1) (pe_ix ix_tup (pv 0) pe_int (fun _ _ => rfl)) (fun _ _ => rfl)) (pa_cons (pe_dget hu (pv 1) (pe_ix ix_tup (pv 0) pe_int (fun _ _ => rfl)) (fun _ _ => rfl)) pa_nil)))))
      (pss_one (ps_ret (pe_ifExp (pt_cmpR op_isN (pv 4) pe_non (nomark _)) (pv 0) (pe_tup (pa_cons pe_str (pa_cons (pe_ix ix_tup (pv 0) pe_int (fun _ _ => rfl)) (pa_cons (pv 4) (pa_cons (pv 3) pa_nil))))))))) pss_nil)
      (pss_cons (ps_if (pw_and (pt_cmpR op_eq (pv 2) pe_str (nomark _)) (pw_and1 (pt_cmp (pc_din hu (pe_ix ix_tup (pv 0) pe_int (fun _ _ => rfl)) (pv 1))))).pt (pss_one (ps_ret (pe_ifExp (pt_cmpR op_eq (pe_dget hu (pv 1) (pe_ix ix_tup (pv 0) pe_int (fun _ _ => rfl)) (fun _ _ => rfl)) pe_int (nomark _)) (pe_tup (pa_cons pe_str (pa_cons (pe_ix ix_tup (pv 0) pe_int (fun _ _ => rfl)) (pa_cons (pv 3) pa_nil)))) pe_non))) pss_nil)
      (pss_one (ps_ret (pv 0))))))), ?_⟩
    dsimp only [cxK, cxKn, List.map]
    obtain ⟨p, q, h1, h2, h3⟩ := hrow
    obtain ⟨kvs, hd, hdn, hval⟩ := hkn
    have hrow : RowAt H a r := ⟨p, q, h1, h2, h3⟩
    have hsome : ∀ c, (valV kvs (Sum.inl c)).isSome = (kn c).isSome := fun c => by rw [hval]; cases kn c <;> rfl
    refine q_par (ev_row (j := 0) (v := .str r.word) h1 (ev_var rfl) rfl) (ev_op (ev_var rfl) (ev_un ev_c ru_neg) (rv_ixT (st_of h1) (v := .ref p) (by cases r <;> rfl))) fun H1 e1 => ?_
    have word : ∀ {H2 : Hp} {u : Option V}, Ev (tVar 2) [some (.ref a), some (.ref d), some (.str r.word), some (.ref p), u] H2 (.str r.word) := ev_var rfl
    have din : ∀ {H2 : Hp} {c : Int} {j : Nat} {u : Option V}, Ex H H2 → (r.vals p q)[j]? = some (.int c) → Ev (tDIn (tOp (rIxT K) (tVar 0) (tC (.int (j : Nat)))) (tVar 1)) [some (.ref a), some (.ref d), some (.str r.word), some (.ref p), u] H2 (.bl (kn c).isSome) := fun e hj =>
      ev_is (ev_din (k := Sum.inl _) (e _ _ hd) (ev_row (e _ _ h1) (ev_var rfl) hj) (ev_var rfl)) (by rw [hsome])
    have dget : ∀ {H2 : Hp} {c v : Int} {j : Nat} {u : Option V}, Ex H H2 → (r.vals p q)[j]? = some (.int c) → kn c = some v → Ev (tDGet (tVar 1) (tOp (rIxT K) (tVar 0) (tC (.int (j : Nat))))) [some (.ref a), some (.ref d), some (.str r.word), some (.ref p), u] H2 (.int v) := fun e hj hv =>
      ev_dget (k := Sum.inl _) (e _ _ hd) (ev_var rfl) (ev_row (e _ _ h1) (ev_var rfl) hj) (by rw [hval, hv]; rfl)
    have fall : folded r kn = some r → ∀ H2, Ex H H2 → Q (.ref a) H2 := fun h H2 e => k2 r h a H2 e (hrow.mono (tl_ex e))
    by_cases hc : r.tag = .copy
    · cases r <;> simp [Row.tag] at hc
      rename_i x dd pl
      cases hk : kn dd with
      | some v =>
        refine q_when (b := true) (et_is (et_and (et_word .copy word) fun _ => et_B (din (j := 2) e1 rfl)) (by simp [hk, Row.tag])) (fun _ H2 e2 => ?_) (fun z => by cases z)
        have e2 := e1.trans e2
        refine s_retU (eu_tup (ea_cons ev_c (ea_cons (ev_row (j := 1) (e2 _ _ h1) (ev_var rfl) rfl) (ea_cons (dget (j := 2) e2 rfl hk) (ea_cons (ev_var rfl) ea_nil)))) (Nat.le_of_ble_eq_true rfl)) fun t H3 _ e3 ht => rtM ?_
        exact k2 (.put x v pl) (by simp [folded, hk]) t H3 (e2.trans e3) ⟨p, q, ht, e3 _ _ (e2 _ _ h2), fun z => by cases z⟩
      | none =>
        have hf : folded (.copy x dd pl) kn = some (.copy x dd pl) := by simp [folded, hk]
        refine q_when (b := false) (et_is (et_and (et_word .copy word) fun _ => et_B (din (j := 2) e1 rfl)) (by simp [hk])) (fun z => by cases z) (fun _ H2 e2 => ?_)
        refine q_when (b := false) (et_is (et_and (b := false) (et_ops opsV Tag.isTwo (by decide +kernel) rfl (T.kTWOS H2) word) fun z => by cases z) (by simp)) (fun z => by cases z) (fun _ H3 e3 => ?_)
        refine q_when (b := false) (et_is (et_and (b := false) (et_word .unless word) fun z => by simp [Row.tag] at z) (by simp)) (fun z => by cases z) (fun _ H4 e4 => ?_)
        exact s_ret (ev_var rfl) fun H5 e5 => rtM (fall hf H5 ((((e1.trans e2).trans e3).trans e4).trans e5))
    refine q_when (b := false) (et_is (et_and (b := false) (et_word .copy word) fun z => absurd (of_decide_eq_true z) hc) (by simp)) (fun z => by cases z) (fun _ H2 e2 => ?_)
    have e2 := e1.trans e2
    by_cases ht : r.tag.isTwo = true
    · cases r <;> simp [Row.tag, Tag.isTwo] at ht
      rename_i o x dd ee pl
      have no : ((kn dd).isSome && (kn ee).isSome) = false → folded (.two o x dd ee pl) kn = some (.two o x dd ee pl) := fun h => by
        cases h1 : kn dd with
        | none => simp [folded, h1]
        | some u => cases h2 : kn ee with
          | none => simp [folded, h1, h2]
          | some v => rw [h1, h2] at h; cases h
      cases hb : (kn dd).isSome && (kn ee).isSome with
      | false =>
        refine q_when (b := false) (et_is (et_and (et_ops opsV Tag.isTwo (by decide +kernel) rfl (T.kTWOS H2) word) fun _ => et_and (et_B (din (j := 2) e2 rfl)) fun _ => et_B (din (j := 3) e2 rfl)) (by rw [hb, Bool.and_false])) (fun z => by cases z) (fun _ H3 e3 => ?_)
        refine q_when (b := false) (et_is (et_and (b := false) (et_word .unless word) fun z => by simp [Row.tag] at z) (by simp)) (fun z => by cases z) (fun _ H4 e4 => ?_)
        exact s_ret (ev_var rfl) fun H5 e5 => rtM (fall (no hb) H5 (((e2.trans e3).trans e4).trans e5))
      | true =>
        obtain ⟨hb1, hb2⟩ := (Bool.and_eq_true _ _).mp hb
        obtain ⟨u, hu1⟩ := Option.isSome_iff_exists.mp hb1
        obtain ⟨v, hv1⟩ := Option.isSome_iff_exists.mp hb2
        refine q_when (b := true) (et_is (et_and (et_ops opsV Tag.isTwo (by decide +kernel) rfl (T.kTWOS H2) word) fun _ => et_and (et_B (din (j := 2) e2 rfl)) fun _ => et_B (din (j := 3) e2 rfl)) (by rw [hb]; rfl)) (fun _ H3 e3 => ?_) (fun z => by cases z)
        have e3 := e2.trans e3
        refine q_asg (v := apV (o.ap u v)) (ev_call (ea_cons word (ea_cons (dget (j := 2) e3 rfl hu1) (ea_cons (dget (j := 3) e3 rfl hv1) ea_nil))) fun H4 e4 Q4 q4 E4 => ⟨o, u, v, rfl, hsm _ _ hu1, hsm _ _ hv1, fun H5 e5 => q4 H5 e5⟩) fun H4 e4 => ?_
        have e4 := e3.trans e4
        cases hap : o.ap u v with
        | error er =>
          refine s_ret (v := .ref a) (ev_if (et_isN (ev_var rfl)) (fun _ => ev_var rfl) (fun z => by simp [apV] at z)) fun H5 e5 => rtM (fall (by simp [folded, hu1, hv1, hap]) H5 (e4.trans e5))
        | ok z =>
          refine s_retU (xs := [.str "put", .int x, .int z, .ref p]) (eu_if (b := false) (et_is (et_isN (ev_var rfl)) (by simp [apV])) (fun z => by cases z) (fun _ => eu_tup (ea_cons ev_c (ea_cons (ev_row (j := 1) (e4 _ _ h1) (ev_var rfl) rfl) (ea_cons (ev_var rfl) (ea_cons (ev_var rfl) ea_nil)))) (Nat.le_of_ble_eq_true rfl))) fun t H5 _ e5 ht => rtM ?_
          exact k2 (.put x z pl) (by simp [folded, hu1, hv1, hap]) t H5 (e4.trans e5) ⟨p, q, ht, e5 _ _ (e4 _ _ h2), fun z => by cases z⟩
    have ht : r.tag.isTwo = false := by simpa using ht
    refine q_when (b := false) (et_is (et_and (b := false) (et_ops opsV Tag.isTwo (by decide +kernel) rfl (T.kTWOS H2) word) fun z => by rw [ht] at z; cases z) (by simp)) (fun z => by cases z) (fun _ H3 e3 => ?_)
    have e3 := e2.trans e3
    by_cases hs : r.tag = .unless
    · obtain ⟨c, t, pl, rfl⟩ := unless_of hs
      cases hk : kn c with
      | none =>
        refine q_when (b := false) (et_is (et_and (et_word .unless word) fun _ => et_B (din (j := 1) e3 rfl)) (by simp [hk])) (fun z => by cases z) (fun _ H4 e4 => ?_)
        exact s_ret (ev_var rfl) fun H5 e5 => rtM (fall (by simp [folded, hk]) H5 ((e3.trans e4).trans e5))
      | some v =>
        refine q_when (b := true) (et_is (et_and (et_word .unless word) fun _ => et_B (din (j := 1) e3 rfl)) (by simp [hk, Row.tag])) (fun _ H4 e4 => ?_) (fun z => by cases z)
        have e4 := e3.trans e4
        by_cases hv : v = 0
        · refine s_retU (xs := [.str "go", .int t, .ref p]) (eu_if (b := true) (et_is (et_test (ev_op (dget (j := 1) e4 rfl hk) ev_c (rv_eq rfl))) (by simp [hv])) (fun _ => eu_tup (ea_cons ev_c (ea_cons (ev_row (j := 2) (e4 _ _ h1) (ev_var rfl) rfl) (ea_cons (ev_var rfl) ea_nil))) (Nat.le_of_ble_eq_true rfl)) (fun z => by cases z)) fun t' H5 _ e5 ht => rtM ?_
          exact k2 (.go t pl) (by simp [folded, hk, hv]) t' H5 (e4.trans e5) ⟨p, q, ht, e5 _ _ (e4 _ _ h2), fun z => by cases z⟩
        · refine s_ret (v := .non) (ev_if (b := false) (et_is (et_test (ev_op (dget (j := 1) e4 rfl hk) ev_c (rv_eq rfl))) (by simp [hv])) (fun z => by cases z) (fun _ => ev_c)) fun H5 e5 => rtM (k1 (by simp [folded, hk, hv]) H5 (e4.trans e5))
    refine q_when (b := false) (et_is (et_and (b := false) (et_word .unless word) fun z => absurd (of_decide_eq_true z) hs) (by simp)) (fun z => by cases z) (fun _ H4 e4 => ?_)
    have hf : folded r kn = some r := by cases r <;> simp [Row.tag, Tag.isTwo] at hc ht hs <;> rfl
    exact s_ret (ev_var rfl) fun H5 e5 => rtM (fall hf H5 ((e3.trans e4).trans e5))

/-! ### all_folded -/
abbrev sAf : Stmt := top 24
abbrev nAf : List Str := ["rows", "known", "found", "row", "other", "cell"]
theorem scAf : FnScope nAf ["rows"] (defScope sAf) := ⟨rfl, rfl, rfl, by decide +kernel, rfl, by decide +kernel, by decide +kernel⟩
def spAf : Sp := fun vs H Q _ => ∃ a rows, vs = [.ref a] ∧ RowsL H a rows ∧ (∀ r ∈ rows, r.Bnd) ∧ rows.length ≤ 10000 ∧ ∀ p H2, H p = none → Ex H H2 → RowsL H2 p (foldR rows) → Q (.ref p) H2
theorem q_whenS {t : TT} {tu tz : TS} {D : Ends} {σ : L2.St} {H : Hp} {b : Bool} (M : L2.St → Hp → Prop) (h : EvT t σ H b) (k : ∀ σ1 H1, M σ1 H1 → tz D σ1 H1) (h1 : b = true → ∀ H1, Ex H H1 → (∀ σ2 H2, M σ2 H2 → tz D σ2 H2) → tu { D with nx := tz D } σ H1) (h2 : b = false → ∀ H1, Ex H H1 → M σ H1) : tSeq (tIfS t tu tNext) tz D σ H :=
  q_when h (fun hb H1 e => h1 hb H1 e k) (fun hb H1 e => k σ H1 (h2 hb H1 e))
theorem q_ifK {t : TT} {tu tw tz : TS} {D : Ends} {σ : L2.St} {H : Hp} {b : Bool} (M : Hp → Prop) (h : EvT t σ H b) (k : ∀ H1, M H1 → tz D σ H1) (h1 : b = true → ∀ H1, Ex H H1 → (∀ H2, M H2 → tz D σ H2) → tu { D with nx := tz D } σ H1) (h2 : b = false → ∀ H1, Ex H H1 → (∀ H2, M H2 → tz D σ H2) → tw { D with nx := tz D } σ H1) : tSeq (tIfS t tu tw) tz D σ H :=
  q_if h (fun hb H1 e => h1 hb H1 e k) (fun hb H1 e => h2 hb H1 e k)
theorem knAt_new {H : Hp} {p : Addr} : KnAt (upd H p (.dK [])) p (fun _ => none) 0 := ⟨[], upd_same, Nat.le_refl _, fun _ => rfl⟩
theorem KnAt.mono {H H' : Hp} {d : Addr} {kn : Cells} {n m : Nat} (h : KnAt H d kn n) (e : H' d = H d) (hm : n ≤ m) : KnAt H' d kn m := by
  obtain ⟨kvs, h1, h2, h3⟩ := h
  exact ⟨kvs, by rw [e]; exact h1, by omega, h3⟩
theorem KnAt.ex {H H' : Hp} {d : Addr} {kn : Cells} {n m : Nat} (h : KnAt H d kn n) (e : Ex H H') (hm : n ≤ m) : KnAt H' d kn m := by
  obtain ⟨kvs, h1, h2, h3⟩ := h
  exact ⟨kvs, e _ _ h1, by omega, h3⟩
/-- rows found so far, what is known -/
structure FSt (H0 H : Hp) (l d : Addr) (fs : List Row) (kn : Cells) (n : Nat) : Prop where
  fl : H0 l = none
  fd : H0 d = none
  ex : Ex H0 H
  rows : RowsL H l fs
  kn : KnAt H d kn n
theorem FSt.ne {H0 H : Hp} {l d : Addr} {fs : List Row} {kn : Cells} {n : Nat} (h : FSt H0 H l d fs kn n) : l ≠ d := fun z => by
  obtain ⟨as, h1, _⟩ := h.rows
  obtain ⟨kvs, h2, _⟩ := h.kn
  rw [z, h2] at h1; cases h1
theorem FSt.mono {H0 H H' : Hp} {l d : Addr} {fs : List Row} {kn : Cells} {n m : Nat} (h : FSt H0 H l d fs kn n) (e : Ex H H') (hm : n ≤ m) : FSt H0 H' l d fs kn m := ⟨h.fl, h.fd, h.ex.trans e, h.rows.ex e, h.kn.ex e hm⟩
/-- another dict -/
theorem FSt.put {H0 H : Hp} {l d : Addr} {fs : List Row} {kn kn' : Cells} {n m : Nat} {kvs : List (Key × V)} (h : FSt H0 H l d fs kn n) (hm : kvs.length ≤ m) (hv : ∀ x, valV kvs (Sum.inl x) = (kn' x).map V.int) : FSt H0 (upd H d (.dK kvs)) l d fs kn' m := by
  refine ⟨h.fl, h.fd, Ex.mut h.ex h.fd, ?_, kvs, upd_same, hm, hv⟩
  obtain ⟨as, h1, h2⟩ := h.rows
  obtain ⟨kvs', h3, _⟩ := h.kn
  exact ⟨as, by rw [upd_ne h.ne]; exact h1, h2.imp fun _ _ => RowAt.mono (TL.mut h3 fun _ z => by cases z)⟩
theorem FSt.app {H0 H : Hp} {l d : Addr} {fs : List Row} {kn : Cells} {n : Nat} {as : List Addr} {p : Addr} {r : Row} (h : FSt H0 H l d fs kn n) (hl : H l = some (.lst (as.map V.ref))) (hr : RowAt H p r) : FSt H0 (upd H l (.lst (as.map V.ref ++ [.ref p]))) l d (fs ++ [r]) kn n := by
  have hTL : TL H (upd H l (.lst (as.map V.ref ++ [.ref p]))) := TL.mut hl fun _ z => by cases z
  refine ⟨h.fl, h.fd, Ex.mut h.ex h.fl, ⟨as ++ [p], by rw [upd_same]; simp, ?_⟩, h.kn.mono (by rw [upd_ne (Ne.symm h.ne)]) (Nat.le_refl _)⟩
  obtain ⟨bs, h1, h2⟩ := h.rows
  rw [hl] at h1
  have e : bs = as := by
    have := HO.lst.inj (Option.some.inj h1)
    exact (List.map_inj_right (fun _ _ z => V.ref.inj z)).mp this.symm
  subst e
  exact All2.snoc (h2.imp fun _ _ => RowAt.mono hTL) (hr.mono hTL)
theorem ok_Af {f f1 f2 : Addr} {fd d1 d2 : FuncData} (F : Fun K "all_folded" "all_folded" sAf f fd) (T : Txt K mg o1 o2 o3 o4 o5) (C_folded : CalAt P w K mg base 2 "folded" ["row", "known"] spFd f1 d1) (C_laid_by_lean : CalAt P w K mg base 1 "laid_by_lean" ["row"] spLB f2 d2) : FnOk P w K mg base CX0 3 f fd ["rows"] spAf := by
  refine F.ok scAf (fun vs H Q E h => ?_) (fun cdv A outer s H vs Q E hr h => ?_)
  · obtain ⟨a, rows, rfl, _⟩ := h; rfl
  · obtain ⟨a, rows, rfl, ⟨as, hl, hrows⟩, hbnd, hn, k⟩ := h
    have nd := scAf.nd
    have hu := hu_of hr
    refine ⟨_, (pss_cons (ps_set (i := 1) nd rfl (Or.inl rfl) pe_dnewK)
      (pss_cons (ps_set (i := 2) nd rfl (Or.inl rfl) (pe_lst pa_nil))
      (pss_cons (ps_for PassesOwn.never rfl (pi_list (pv 0)) (pg_name (i := 3) nd rfl (Or.inl rfl)) (pss_cons (ps_if (pt_cmpR op_eq (pe_ix ix_tup (pv 3) pe_int (fun _ _ => rfl)) pe_str (nomark _)) (pss_one (ps_set (i := 1) nd rfl (Or.inl rfl) pe_dnewK)) pss_nil)
      (pss_cons (ps_set (i := 4) nd rfl (Or.inl rfl) (pe_call C_folded.ok (hr.mono (by decide)) rfl C_folded.g C_folded.kp C_folded.b .nil pass0 (pa_cons (pv 3) (pa_cons (pv 1) pa_nil))))
      (pss_one (ps_if (pt_cmpR op_notN (pv 4) pe_non (nomark _)) (pss_cons (ps_set (i := 5) nd rfl (Or.inl rfl) (pe_call C_laid_by_lean.ok (hr.mono (by decide)) rfl C_laid_by_lean.g C_laid_by_lean.kp C_laid_by_lean.b .nil pass0 (pa_cons (pv 4) pa_nil)))
      (pss_cons (ps_if (pw_and (pt_cmpR op_notN (pv 5) pe_non (nomark _)) (pw_and1 (pt_cmpR op_eq (pe_ix ix_tup (pv 4) pe_int (fun _ _ => rfl)) pe_str (nomark _)))).pt (pss_one (ps_dput hu (pv 1) (pv 5) (pe_ix ix_tup (pv 4) pe_int (fun _ _ => rfl)) rfl)) (pss_one (ps_if (pt_cmpR op_notN (pv 5) pe_non (nomark _)) (pss_one (ps_expr (pe_dpop2 (pv 1) (pv 5) pe_non ⟨rfl, rfl, rfl, rfl⟩))) pss_nil)))
      (pss_one (ps_expr (pe_bm PySem.F.plainAttrs_list PySem.F.slot_list_append PySem.F.type_list_append mt_append (pv 2) (pa_cons (pv 4) pa_nil)))))) pss_nil)))))
      (pss_one (ps_ret (pv 2)))))), ?_⟩
    dsimp only [cxK, cxKn, List.map]
    have hlen := hrows.1
    refine q_asgR fun dk hdk => ?_
    refine q_asgL (el_lst ea_nil (Nat.le_of_ble_eq_true rfl)) fun l H1 hl1 e1 h1 => ?_
    have e01 : Ex H H1 := (Ex.new hdk).trans e1
    have hdl : dk ≠ l := fun z => by rw [← z, upd_same] at hl1; cases hl1
    have hl0 : H l = none := by rw [upd_ne (Ne.symm hdl)] at hl1; exact hl1
    refine q_forLn (xs := as.map V.ref) (ev_var rfl) (sq_of (e01 _ _ hl)) (fun i σ' H' => ∃ d u4 u5 u6, σ' = [some (.ref a), some (.ref d), some (.ref l), u4, u5, u6] ∧ FSt H H' l d (((foldL rows).take i).filterMap id) (stAt foldF rows (fun _ => none) i) i) (fun H2 e2 => ⟨dk, none, none, none, rfl, hl0, hdk, e01.trans e2, ⟨[], e2 _ _ h1, All2.nil⟩, [], e2 _ _ (e1 _ _ upd_same), Nat.le_refl _, fun _ => by cases rows <;> rfl⟩)
      (fun i σ' H' _ p => by obtain ⟨d, u4, u5, u6, _, st⟩ := p; exact sq_of (st.ex _ _ hl)) (fun i x σ' H2 hx p => ?_) (fun σ' H2 p => ?_)
    · obtain ⟨d, u4, u5, u6, rfl, st⟩ := p
      rw [List.getElem?_map] at hx
      cases hai : as[i]? with
      | none => rw [hai] at hx; cases hx
      | some b =>
      rw [hai] at hx; cases hx
      obtain ⟨r, hr1, hr2⟩ := hrows.get hai
      have hsm := known_small hbnd i
      have hstep := stAt_succ foldF (s := fun _ => none) hr1
      have hscan := scan_at foldF (s := fun _ => none) hr1
      have htake : (foldL rows).take (i + 1) = (foldL rows).take i ++ [folded r (knIn r (stAt foldF rows (fun _ => none) i))] := take_succ_some hscan
      obtain ⟨p, q, hp1, _⟩ := id hr2
      refine q_whenS (fun σ' H' => ∃ d', σ' = [some (.ref a), some (.ref d'), some (.ref l), some (.ref b), u5, u6] ∧ FSt H H' l d' (((foldL rows).take i).filterMap id) (knIn r (stAt foldF rows (fun _ => none) i)) i) (et_word .label (ev_row (j := 0) (st.ex _ _ hp1) (ev_var rfl) rfl)) (fun σ' H3 m => ?_) (fun hb H3 e3 kk => ?_) (fun hb H3 e3 => ⟨d, rfl, ?_⟩)
      · obtain ⟨d', rfl, st3⟩ := m
        have hb3 : RowAt H3 b r := hr2.mono (tl_ex st3.ex)
        have hsm3 : SmallC (knIn r (stAt foldF rows (fun _ => none) i)) := hsm.knIn r
        generalize hkn : knIn r (stAt foldF rows (fun _ => none) i) = kn at st3 hsm3 htake hscan
        have hst : stAt foldF rows (fun _ => none) (i + 1) = learn (folded r kn) kn := by
          rw [hstep]
          show learn (folded r (knIn r _)) (knIn r _) = _
          rw [hkn]
        cases hf : folded r kn with
        | none =>
          refine q_asgR (r_call (r_ea (ea_cons (ev_var rfl) (ea_cons (ev_var rfl) ea_nil)) fun H4 e4 => ⟨b, r, d', kn, i, rfl, hb3.mono (tl_ex e4), st3.kn.ex e4 (Nat.le_refl _), hsm3, fun _ H5 e5 => ?_, fun r' h => by rw [hf] at h; cases h⟩))
          refine s_when (b := false) (et_is (et_notN (ev_var rfl)) (by simp)) (fun z => by cases z) (fun _ H6 e6 => nxM ⟨d', _, _, _, rfl, ?_⟩)
          rw [htake, hst, hf]
          simpa [learn] using st3.mono ((e4.trans e5).trans e6) (Nat.le_succ i)
        | some r' =>
          refine q_asgR (r_call (r_ea (ea_cons (ev_var rfl) (ea_cons (ev_var rfl) ea_nil)) fun H4 e4 => ⟨b, r, d', kn, i, rfl, hb3.mono (tl_ex e4), st3.kn.ex e4 (Nat.le_refl _), hsm3, (fun h => by rw [hf] at h; cases h), fun r2 h2 p5 H5 e5 hr5 => ?_⟩))
          rw [hf] at h2; cases h2
          obtain ⟨p', q', hp5, _⟩ := id hr5
          refine s_when (b := true) (et_is (et_notN (ev_var rfl)) (by simp)) (fun _ H6 e6 => ?_) (fun z => by cases z)
          refine q_asg (ev_laid (ev_var rfl) (hr5.mono (tl_ex e6))) fun H7 e7 => ?_
          have e57 := e6.trans e7
          have st7 := st3.mono ((e4.trans e5).trans e57) (Nat.le_refl i)
          have hr7 : RowAt H7 p5 r' := hr5.mono (tl_ex e57)
          have hp7 := e7 _ _ (e6 _ _ hp5)
          refine q_ifK (fun H8 => FSt H H8 l d' (((foldL rows).take i).filterMap id) (learn (some r') kn) (i + 1) ∧ RowAt H8 p5 r') (et_and (et_notN (ev_var rfl)) fun _ => et_word .put (ev_row (j := 0) hp7 (ev_var rfl) rfl)) (fun H8 m => ?_) (fun hb H8 e8 kk => ?_) (fun hb H8 e8 kk => ?_)
          · obtain ⟨st8, hr8⟩ := m
            obtain ⟨bs, hb8, hb9⟩ := id st8.rows
            refine s_app hb8 (ev_var rfl) (ev_var rfl) (by rw [List.length_map, hb9.1]; have := List.length_filterMap_le id ((foldL rows).take i); have h2 : ((foldL rows).take i).length ≤ (foldL rows).length := by rw [List.length_take]; omega
                                                           have h3 : (foldL rows).length = rows.length := scan_len _ _ _
                                                           omega) fun H9 e9 => nxM ⟨d', _, _, _, rfl, ?_⟩
            have := (st8.mono e9 (Nat.le_refl _)).app (as := bs) (p := p5) (e9 _ _ hb8) (hr8.mono (tl_ex e9))
            rw [htake, hst, hf, List.filterMap_append]
            exact this
          · have st8 := st7.mono e8 (Nat.le_refl _)
            obtain ⟨kvs, hd8, hdn, hdv⟩ := id st8.kn
            simp only [Bool.and_eq_true, decide_eq_true_eq] at hb
            obtain ⟨x, nn, pl, rfl⟩ := put_of hb.2
            refine s_dput (k := Sum.inl x) hd8 (ev_row (j := 2) (e8 _ _ hp7) (ev_var rfl) rfl) (ev_var rfl) (ev_var rfl) (by have := hlen; have := (List.getElem?_eq_some_iff.mp hai).1; omega) fun H9 e9 => nxM (kk _ ⟨(st8.mono e9 (Nat.le_refl _)).put (by have := length_putK kvs (Sum.inl x : Key) (.int nn); omega) fun y => ?_, (hr7.mono (tl_ex (e8.trans e9))).mono (TL.mut (e9 _ _ hd8) fun _ z => by cases z)⟩)
            rw [valV_put, hdv]
            by_cases e : y = x
            · subst e; simp [learn, setC]
            · rw [if_neg (fun z => e (Sum.inl.inj z))]; simp [learn, setC, e]
          · have st8 := st7.mono e8 (Nat.le_refl _)
            obtain ⟨kvs, hd8, hdn, hdv⟩ := id st8.kn
            rcases Option.eq_none_or_eq_some r'.lays with hlay | ⟨x, hlay⟩
            · refine s_when (b := false) (et_is (et_notN (ev_var rfl)) (by simp [hlay, oV])) (fun z => by cases z) (fun _ H9 e9 => nxM (kk H9 ⟨?_, hr7.mono (tl_ex (e8.trans e9))⟩))
              have : learn (some r') kn = kn := by cases r' <;> simp [Row.lays] at hlay <;> simp [learn, Row.lays, hlay]
              rw [this]; exact st8.mono e9 (Nat.le_succ i)
            · have hput : r'.tag ≠ .put := fun z => by rw [hlay] at hb; simp [oV, z] at hb
              have hlearn : learn (some r') kn = clr kn x := by cases r' <;> simp [Row.lays, Row.tag] at hlay hput <;> simp [learn, Row.lays, hlay]
              refine s_when (b := true) (et_is (et_notN (ev_var rfl)) (by simp [hlay, oV])) (fun _ H9 e9 => ?_) (fun z => by cases z)
              have st9 := st8.mono e9 (Nat.le_refl _)
              refine s_dpop (k := Sum.inl x) (e9 _ _ hd8) (ev_var rfl) (ev_is (ev_var rfl) (by rw [hlay]; rfl)) ev_c (fun H10 e10 _ => nxM (kk _ ⟨?_, (hr7.mono (tl_ex ((e8.trans e9).trans e10))).mono (TL.mut (e10 _ _ (e9 _ _ hd8)) fun _ z => by cases z)⟩)) (fun H10 e10 hv => nxM (kk _ ⟨?_, hr7.mono (tl_ex ((e8.trans e9).trans e10))⟩))
              · rw [hlearn]
                refine (st9.mono e10 (Nat.le_refl _)).put (by have := dropK_len (kvs := kvs) (k := (Sum.inl x : Key)); omega) fun y => ?_
                rw [dropK_at, hdv]
                by_cases e : y = x
                · subst e; simp [clr]
                · rw [if_neg (fun z => e (Sum.inl.inj z))]; simp [clr, e]
              · have s10 := st9.mono e10 (Nat.le_succ i)
                rw [hlearn]
                refine ⟨s10.fl, s10.fd, s10.ex, s10.rows, kvs, e10 _ _ (e9 _ _ hd8), by omega, fun y => ?_⟩
                rw [hdv]
                by_cases e : y = x
                · subst e
                  rw [hdv] at hv
                  cases hk : kn y with
                  | none => simp [clr]
                  | some v => rw [hk] at hv; cases hv
                · simp [clr, e]
      · refine s_asgR fun p hp => nxM (kk _ _ ⟨p, rfl, ?_⟩)
        have hlab : r.isLabel = true := by cases r <;> simp [Row.tag] at hb <;> rfl
        have hk : knIn r (stAt foldF rows (fun _ => none) i) = fun _ => none := by unfold knIn; rw [if_pos hlab]
        rw [hk]
        have s3 := (st.mono e3 (Nat.le_refl _)).mono (Ex.new (o := .dK []) hp) (Nat.le_refl _)
        have hpH : H p = none := fresh_back (st.ex.trans e3) hp
        exact ⟨s3.fl, hpH, s3.ex, s3.rows, [], upd_same, Nat.zero_le _, fun _ => rfl⟩
      · have hlab : r.isLabel = false := by cases r <;> simp [Row.tag] at hb <;> rfl
        have hk : knIn r (stAt foldF rows (fun _ => none) i) = stAt foldF rows (fun _ => none) i := by unfold knIn; rw [hlab]; rfl
        rw [hk]; exact st.mono e3 (Nat.le_refl _)
    · obtain ⟨d, u4, u5, u6, rfl, st⟩ := p
      have hfl : (foldL rows).take (as.map V.ref).length = foldL rows := List.take_of_length_le (by rw [List.length_map, hlen, show (foldL rows).length = rows.length from scan_len _ _ _]; exact Nat.le_refl _)
      refine s_ret (ev_var rfl) fun H3 e3 => rtM (k l H3 st.fl (st.ex.trans e3) ?_)
      have := st.rows
      rw [hfl] at this
      exact this.ex e3
end
end K51

/-! Rows as data; rows picked out. -/
namespace K51
open PySem L2 Evl
/-! ### rows as data -/
def oD : Option Int → PyData
  | none => .none
  | some c => .int c
def Row.midD : Row → List PyData
  | .begin _ => []
  | .put c n _ => [.int c, .int n]
  | .copy c d _ => [.int c, .int d]
  | .two _ c d e _ => [.int c, .int d, .int e]
  | .fetch c f n _ => [.int c, .str f, .str n]
  | .lay n c _ => [.str n, .int c]
  | .label k _ => [.int k]
  | .go k _ => [.int k]
  | .unless c k _ => [.int c, .int k]
  | .call c f n cs _ => [oD c, .str f, .str n, .tuple (cs.map PyData.int)]
  | .say kd c _ => [.str kd, .int c]
  | .give c _ => [oD c]
  | .nothing _ => []
def plD (p : Pl) : PyData := .tuple [.int p.line, .int p.col]
def rowD (r : Row) : PyData := .tuple (.str r.word :: (r.midD ++ [plD r.place]))
section
variable {K : PySem.W.Frag} {H : Hp}
theorem dp_ints : ∀ {xs : List Int}, DpAll K H (xs.map V.int) (xs.map PyData.int)
  | [] => .nil
  | x :: xs => .cons (.int x) dp_ints
theorem dp_oV {c : Option Int} : Dp K H (oV c) (oD c) := by
  cases c with
  | none => exact .non
  | some c => exact .int c
theorem dp_pl {p : Addr} {pl : Pl} (h : H p = some (.tup (plV pl))) : Dp K H (.ref p) (plD pl) := .tup (st_of h) (.cons (.int _) (.cons (.int _) .nil))
theorem dp_vals {p q : Addr} {r : Row} (h2 : H p = some (.tup (plV r.place))) (h3 : r.isCall = true → H q = some (.tup (r.cells.map V.int))) : DpAll K H (r.vals p q) (.str r.word :: (r.midD ++ [plD r.place])) := by
  refine .cons (.str _) ?_
  have hp := dp_pl (K := K) h2
  cases r <;> first | exact .cons hp .nil | exact .cons (.int _) (.cons hp .nil) | exact .cons dp_oV (.cons hp .nil) | exact .cons (.int _) (.cons (.int _) (.cons hp .nil)) | exact .cons (.str _) (.cons (.int _) (.cons hp .nil)) | exact .cons (.int _) (.cons (.int _) (.cons (.int _) (.cons hp .nil))) | exact .cons (.int _) (.cons (.str _) (.cons (.str _) (.cons hp .nil))) | exact .cons dp_oV (.cons (.str _) (.cons (.str _) (.cons (.tup (st_of (h3 rfl)) dp_ints) (.cons hp .nil))))
theorem dp_row {a : Addr} {r : Row} (h : RowAt H a r) : Dp K H (.ref a) (rowD r) := by
  obtain ⟨p, q, h1, h2, h3⟩ := h
  exact .tup (st_of h1) (dp_vals h2 h3)
theorem dp_rows : ∀ {as : List Addr} {rows : List Row}, All2 (RowAt H) as rows → DpAll K H (as.map V.ref) (rows.map rowD)
  | [], [], _ => .nil
  | [], _ :: _, h => by have := h.1; simp at this
  | _ :: _, [], h => by have := h.1; simp at this
  | a :: as, r :: rows, h => .cons (dp_row (h.2 0 a r rfl rfl)) (dp_rows (as := as) (rows := rows) ⟨by have := h.1; simpa using this, fun i x y e1 e2 => h.2 (i + 1) x y (by simpa using e1) (by simpa using e2)⟩)
end
theorem lay_ints : ∀ {xs : List Int}, PyData.canLayAll0 (xs.map PyData.int) = true
  | [] => by simp [PyData.canLayAll0]
  | x :: xs => by simp [PyData.canLayAll0, PyData.canLay0, lay_ints]
theorem deep_ints : ∀ {xs : List Int}, PyData.depthAll (xs.map PyData.int) = 0
  | [] => by simp [PyData.depthAll]
  | x :: xs => by simp [PyData.depthAll, PyData.depth, deep_ints]
theorem word_nm (r : Row) : r.word.cps.all (· < 0x110000) = true := Tag.all (p := fun t => t.word.cps.all (· < 0x110000)) (by decide +kernel) r.tag
theorem lay_str {x : S} (h : Nm x) : PyData.canLay0 (.str x) = true := h.1
theorem lay_word (r : Row) : PyData.canLay0 (.str r.word) = true := word_nm r
theorem lay_oD {c : Option Int} : PyData.canLay0 (oD c) = true := by cases c <;> simp [oD, PyData.canLay0]
theorem deep_oD {c : Option Int} : PyData.depth (oD c) = 0 := by cases c <;> simp [oD, PyData.depth]
theorem lay_pl {p : Pl} : PyData.canLay0 (plD p) = true := by simp [plD, PyData.canLay0, PyData.canLayAll0]
theorem deep_pl {p : Pl} : PyData.depth (plD p) = 1 := by simp [plD, PyData.depth, PyData.depthAll]
theorem lay_row {r : Row} (h : r.Bnd) : PyData.canLay0 (rowD r) = true := by
  have hw := lay_word r
  have hp := lay_pl (p := r.place)
  unfold rowD
  simp only [PyData.canLay0] at hw ⊢
  cases r with
  | fetch c f n p =>
    have h1 := lay_str h.2.1
    have h2 := lay_str h.2.2
    simp only [PyData.canLay0] at h1 h2
    simp [Row.midD, PyData.canLayAll0, PyData.canLay0, hw, hp, h1, h2]
  | call c f n cs p =>
    have h1 := lay_str h.2.1
    have h2 := lay_str h.2.2
    simp only [PyData.canLay0] at h1 h2
    simp [Row.midD, PyData.canLayAll0, PyData.canLay0, hw, hp, h1, h2, lay_oD, lay_ints]
  | lay n c p =>
    have h1 := lay_str (x := n) h
    simp only [PyData.canLay0] at h1
    simp [Row.midD, PyData.canLayAll0, PyData.canLay0, hw, hp, h1]
  | say n c p =>
    have h1 := lay_str (x := n) h
    simp only [PyData.canLay0] at h1
    simp [Row.midD, PyData.canLayAll0, PyData.canLay0, hw, hp, h1]
  | _ => simp [Row.midD, PyData.canLayAll0, PyData.canLay0, hw, hp, lay_oD]
theorem deep_row (r : Row) : PyData.depth (rowD r) = 2 := by
  unfold rowD
  cases r <;> simp [Row.midD, PyData.depth, PyData.depthAll, deep_pl, deep_oD, deep_ints]
theorem lay_rows : ∀ {rows : List Row}, (∀ r ∈ rows, r.Bnd) → PyData.canLayAll0 (rows.map rowD) = true
  | [], _ => by simp [PyData.canLayAll0]
  | r :: rows, h => by
    simp only [List.map_cons, PyData.canLayAll0]
    rw [lay_row (h r (List.mem_cons_self ..)), lay_rows fun x hx => h x (List.mem_cons_of_mem _ hx)]; rfl
theorem deep_rows : ∀ {rows : List Row}, PyData.depthAll (rows.map rowD) ≤ 2
  | [] => by simp [PyData.depthAll]
  | r :: rows => by
    simp only [List.map_cons, PyData.depthAll]
    have h1 := deep_rows (rows := rows)
    have h2 := deep_row r
    omega
theorem shaped_rows {rows : List Row} (h : ∀ r ∈ rows, r.Bnd) : SeqAt.shaped (.list (rows.map rowD)) = true := by
  have h2 : PyData.depth (.list (rows.map rowD)) ≤ 64 := by
    have := deep_rows (rows := rows)
    simp only [PyData.depth]
    omega
  show (PyData.canLay0 (.list (rows.map rowD)) && decide (PyData.depth (.list (rows.map rowD)) ≤ 64)) = true
  rw [Bool.and_eq_true]
  exact ⟨by simp only [PyData.canLay0]; exact lay_rows h, decide_eq_true h2⟩

/-! ### rows that are picked out -/
def pick (as : List Addr) (l : List (Option Row)) : List Addr := (as.zip l).filterMap fun p => p.2.map fun _ => p.1
def oneOf (o : Option Row) (a : Addr) : List Addr := match o with
  | some _ => [a]
  | none => []
theorem pick_snoc {as : List Addr} {l : List (Option Row)} {a : Addr} {o : Option Row} (h : as.length = l.length) : pick (as ++ [a]) (l ++ [o]) = pick as l ++ oneOf o a := by
  unfold pick
  rw [List.zip_append h, List.filterMap_append]
  cases o <;> simp [oneOf]
theorem pick_all {F : Addr → Row → Prop} : ∀ {as : List Addr} {rows : List Row} {l : List (Option Row)}, All2 F as rows → l.length = rows.length → (∀ (i : Nat) r, rows[i]? = some r → l[i]? = some none ∨ l[i]? = some (some r)) → All2 F (pick as l) (l.filterMap id)
  | [], rows, l, h, hl, _ => by
    have h1 := h.1
    have : l = [] := List.length_eq_zero_iff.mp (by rw [hl, ← h1]; rfl)
    subst this; exact All2.nil
  | a :: as, [], _, h, _, _ => by have := h.1; simp at this
  | a :: as, r :: rows, [], h, hl, _ => by simp at hl
  | a :: as, r :: rows, o :: l, h, hl, hk => by
    have ih := pick_all (F := F) (as := as) (rows := rows) (l := l) ⟨by have := h.1; simpa using this, fun i x y e1 e2 => h.2 (i + 1) x y (by simpa using e1) (by simpa using e2)⟩ (by simpa using hl) (fun i r' hr => by simpa using hk (i + 1) r' (by simpa using hr))
    rcases hk 0 r rfl with z | z
    · have : o = none := by simpa using z
      subst this; exact ih
    · have : o = some r := by simpa using z
      subst this
      have hf := h.2 0 a r rfl rfl
      refine ⟨by have := ih.1; simp [pick] at this ⊢; exact this, fun i x y e1 e2 => ?_⟩
      cases i with
      | zero =>
        have e1 : a = x := by simpa [pick] using e1
        have e2 : r = y := by simpa using e2
        subst e1; subst e2; exact hf
      | succ i => exact ih.2 i x y (by simpa [pick] using e1) (by simpa using e2)
/-- the first n of them -/
def pickN (as : List Addr) (l : List (Option Row)) (n : Nat) : List Addr := pick (as.take n) (l.take n)
theorem pickN_zero {as : List Addr} {l : List (Option Row)} : pickN as l 0 = [] := by simp [pickN, pick]
theorem pickN_step {as : List Addr} {l : List (Option Row)} {n : Nat} {a : Addr} {o : Option Row} (ha : as[n]? = some a) (ho : l[n]? = some o) : pickN as l (n + 1) = pickN as l n ++ oneOf o a := by
  unfold pickN
  rw [take_succ_some ha, take_succ_some ho]
  have h1 : n < as.length := (List.getElem?_eq_some_iff.mp ha).1
  have h2 : n < l.length := (List.getElem?_eq_some_iff.mp ho).1
  refine pick_snoc ?_
  rw [List.length_take, List.length_take]; omega
theorem pickN_all {as : List Addr} {l : List (Option Row)} {n : Nat} (h1 : as.length = n) (h2 : l.length = n) : pickN as l n = pick as l := by
  unfold pickN
  rw [List.take_of_length_le (by omega), List.take_of_length_le (by omega)]
theorem pickN_len {as : List Addr} {l : List (Option Row)} {n : Nat} : (pickN as l n).length ≤ n := by
  unfold pickN pick
  have := List.length_filterMap_le (fun p : Addr × Option Row => p.2.map fun _ => p.1) ((as.take n).zip (l.take n))
  simp only [List.length_zip, List.length_take] at this
  omega
/-- a comprehension that picks -/
theorem given_pick {as : List Addr} {l : List (Option Row)} (hl : as.length = l.length) : ∀ n, n ≤ as.length → given n (fun i => ((l[i]?).bind id).isSome) (fun i => ((as.map V.ref)[i]?).getD .non) = (pickN as l n).map V.ref
  | 0, _ => by rw [pickN_zero]; rfl
  | n + 1, h => by
    have ha : as[n]? = some as[n] := List.getElem?_eq_getElem h
    obtain ⟨o, ho⟩ : ∃ o, l[n]? = some o := ⟨_, List.getElem?_eq_getElem (by omega)⟩
    have ih := given_pick hl n (Nat.le_of_lt h)
    rw [pickN_step ha ho, List.map_append, ← ih]
    cases o with
    | none => rw [given_no (by rw [ho]; rfl)]; simp [oneOf]
    | some r => rw [given_yes (by rw [ho]; rfl)]; simp [oneOf, List.getElem?_map, ha]
end K51

/-! Walks 6: lean's come_to. -/
namespace K51
open PySem L2 Evl
theorem dropGo_ix : ∀ {fs : List Row} {i : Nat} {r r' : Row}, fs[i]? = some r → fs[i + 1]? = some r' → (dropGo fs)[i]? = some (if leads r r' then none else some r)
  | [], i, r, r', h, _ => by simp at h
  | [x], i, r, r', _, h => by simp at h
  | x :: y :: fs, 0, r, r', h1, h2 => by
    have e1 : x = r := by simpa using h1
    have e2 : y = r' := by simpa using h2
    subst e1; subst e2; rfl
  | x :: y :: fs, i + 1, r, r', h1, h2 => by
    have := dropGo_ix (fs := y :: fs) (i := i) (r := r) (r' := r') (by simpa using h1) (by simpa using h2)
    simpa [dropGo] using this
theorem dropGo_last' : ∀ {fs : List Row} {i : Nat} {r : Row}, fs[i]? = some r → i + 1 = fs.length → (dropGo fs)[i]? = some (some r)
  | [], i, r, h, _ => by simp at h
  | [x], 0, r, h, _ => by
    have e1 : x = r := by simpa using h
    subst e1; rfl
  | [x], i + 1, r, _, h => by simp at h
  | x :: y :: fs, 0, r, h1, h2 => by simp at h2
  | x :: y :: fs, i + 1, r, h1, h2 => by
    have := dropGo_last' (fs := y :: fs) (i := i) (r := r) (by simpa using h1) (by simpa using h2)
    simpa [dropGo] using this
theorem cut_take (xs : List V) (k : Nat) : cutV xs none (some (k : Int)) = xs.take k := by
  unfold cutV
  rw [HT.sIx_none, HT.sIx_nat, List.drop_zero, Nat.sub_zero]
  by_cases h : k ≤ xs.length
  · rw [Nat.min_eq_left h]
  · rw [Nat.min_eq_right (by omega), List.take_of_length_le (Nat.le_refl _), List.take_of_length_le (by omega)]
theorem cut_one (xs : List V) : cutV xs (some 1) none = xs.drop 1 := by
  unfold cutV
  rw [HT.sIx_none, show HT.sIx xs.length 0 (some (1 : Int)) = min 1 xs.length from HT.sIx_nat _ _ 1]
  cases xs with
  | nil => rfl
  | cons x xs =>
    rw [Nat.min_eq_left (by simp), List.take_of_length_le (by simp)]
theorem cut_last (xs : List V) : cutV xs (some (-1)) none = xs.drop (xs.length - 1) := by
  unfold cutV
  rw [HT.sIx_none]
  have : HT.sIx xs.length 0 (some (-1 : Int)) = xs.length - 1 := by
    rw [show HT.sIx xs.length 0 (some (-1 : Int)) = if (-1 : Int) < 0 then ((-1 : Int) + (xs.length : Int)).toNat else min (-1 : Int).toNat xs.length from rfl, if_pos (by decide)]
    omega
  rw [this, List.take_of_length_le (by rw [List.length_drop]; omega)]
section
variable {K : PySem.W.Frag} {σ : L2.St} {H H' : Hp} {ta tb te : TE}
/-- some tuple -/
def EvW (te : TE) (σ : L2.St) (H : Hp) (xs : List V) : Prop := ∀ H1, Ex H H1 → ∀ Q : VK, (∀ p H2, Ex H1 H2 → H2 p = some (.tup xs) → Q (.ref p) H2) → te σ H1 Q
theorem ew_sl {tl th : TO} {a : Addr} {xs : List V} {lo hi : Option Int} (h : Ev te σ H (.ref a)) (h1 : EvO tl σ H lo) (h2 : EvO th σ H hi) (hs : H a = some (.tup xs)) : EvW (tSl (rSlA K) te tl th) σ H (cutV xs lo hi) := fun H1 e _ q =>
  h H1 e _ fun H2 e2 => h1 H2 (e.trans e2) _ fun H3 e3 => h2 H3 ((e.trans e2).trans e3) _ fun H4 e4 =>
    ⟨a, xs, rfl, st_of ((((e.trans e2).trans e3).trans e4) _ _ hs), fun z => q a _ ((e2.trans e3).trans e4) (by
      have : cutV xs lo hi = xs := by
        unfold cutV; rw [z.1, z.2, List.drop_zero, Nat.sub_zero, List.take_length]
      rw [this]; exact (((e.trans e2).trans e3).trans e4) _ _ hs), fun _ p hp => q p _ (((e2.trans e3).trans e4).trans (Ex.new hp)) upd_same⟩
theorem ew_of {xs : List V} (h : EvU te σ H xs) : EvW te σ H xs := fun H1 e Q q => h H1 e Q fun p H2 _ e2 h2 => q p H2 e2 h2
mutual
theorem dp_ex (e : Ex H H') : ∀ {d : PyData} {v : V}, Dp K H v d → Dp K H' v d
  | _, _, .non => .non
  | _, _, .bl b => .bl b
  | _, _, .int i => .int i
  | _, _, .str x => .str x
  | _, _, .lst h1 h2 => .lst (ex_l e h1) (dps_ex e h2)
  | _, _, .tup h1 h2 => .tup (ex_t e h1) (dps_ex e h2)
theorem dps_ex (e : Ex H H') : ∀ {ds : List PyData} {vs : List V}, DpAll K H vs ds → DpAll K H' vs ds
  | _, _, .nil => .nil
  | _, _, .cons h1 h2 => .cons (dp_ex e h1) (dps_ex e h2)
end
theorem dps_take : ∀ {k : Nat} {vs : List V} {ds : List PyData}, DpAll K H vs ds → DpAll K H (vs.take k) (ds.take k)
  | 0, _, _, _ => by rw [List.take_zero, List.take_zero]; exact .nil
  | k + 1, _, _, .nil => .nil
  | k + 1, _, _, .cons h1 h2 => .cons h1 (dps_take h2)
theorem et_neT {xs ys : List V} {ds es : List PyData} (ha : EvW ta σ H xs) (hb : EvW tb σ H ys) (h1 : DpAll K H xs ds) (h2 : DpAll K H ys es) (s1 : SeqAt.shaped (.tuple ds) = true) (s2 : SeqAt.shaped (.tuple es) = true) :
    EvT (tTest (tOp (rNeD K) ta tb)) σ H (!PyData.eqv (.tuple ds) (.tuple es)) := et_test fun H1 e Q q =>
  ha H1 e _ fun p H2 e2 hp => hb H2 (e.trans e2) _ fun p' H3 e3 hp' => ⟨.tuple ds, .tuple es, .tup (st_of (e3 _ _ hp)) (dps_ex ((e.trans e2).trans e3) h1), .tup (st_of hp') (dps_ex ((e.trans e2).trans e3) h2), s1, s2, q H3 (e2.trans e3)⟩
end
theorem word_go (r : Row) : (r.word == Str.ofString "go") = decide (r.tag = .go) := eq_of_beq (Tag.all (p := fun t => (t.word == Str.ofString "go") == decide (t = .go)) (by decide +kernel) r.tag)
theorem word_label (r : Row) : (r.word == Str.ofString "label") = decide (r.tag = .label) := eq_of_beq (Tag.all (p := fun t => (t.word == Str.ofString "label") == decide (t = .label)) (by decide +kernel) r.tag)
theorem shaped_of {ds : List PyData} (h : PyData.canLayAll0 ds = true) (h2 : PyData.depthAll ds ≤ 60) : SeqAt.shaped (.tuple ds) = true := by
  show (PyData.canLay0 (.tuple ds) && decide (PyData.depth (.tuple ds) ≤ 64)) = true
  rw [Bool.and_eq_true]
  refine ⟨by simp only [PyData.canLay0]; exact h, decide_eq_true ?_⟩
  simp only [PyData.depth]; omega
theorem lay_take : ∀ {k : Nat} {ds : List PyData}, PyData.canLayAll0 ds = true → PyData.canLayAll0 (ds.take k) = true
  | 0, _, _ => by simp [PyData.canLayAll0]
  | k + 1, [], _ => by simp [PyData.canLayAll0]
  | k + 1, d :: ds, h => by
    simp only [PyData.canLayAll0, Bool.and_eq_true] at h
    simp only [List.take_succ_cons, PyData.canLayAll0, Bool.and_eq_true]
    exact ⟨h.1, lay_take h.2⟩
theorem deep_take : ∀ {k : Nat} {ds : List PyData}, PyData.depthAll (ds.take k) ≤ PyData.depthAll ds
  | 0, _ => by simp [PyData.depthAll]
  | k + 1, [] => by simp [PyData.depthAll]
  | k + 1, d :: ds => by
    simp only [List.take_succ_cons, PyData.depthAll]
    have := deep_take (k := k) (ds := ds)
    omega
/-- the data of a row, its parts -/
def Row.ds (r : Row) : List PyData := .str r.word :: (r.midD ++ [plD r.place])
theorem shaped_take {r : Row} (h : r.Bnd) (k : Nat) : SeqAt.shaped (.tuple (r.ds.take k)) = true := by
  have h1 : PyData.canLayAll0 r.ds = true := by have := lay_row h; unfold rowD at this; simp only [PyData.canLay0] at this; exact this
  have h2 : PyData.depthAll r.ds ≤ 1 := by have := deep_row r; unfold rowD at this; simp only [PyData.depth] at this; unfold Row.ds; omega
  exact shaped_of (lay_take h1) (by have := deep_take (k := k) (ds := r.ds); omega)
theorem eqv_go (r : Row) : PyData.eqv (.tuple (r.ds.take 1)) (.tuple [.str (Str.ofString "go")]) = decide (r.tag = .go) := by
  show PyData.eqv (.tuple [.str r.word]) (.tuple [.str (Str.ofString "go")]) = _
  simp only [PyData.eqv, PyData.eqvAll, Bool.and_true]
  exact word_go r
theorem eqv_label (r : Row) (k : Int) (pl : Pl) : PyData.eqv (.tuple (r.ds.take 2)) (.tuple [.str (Str.ofString "label"), .int k]) = leads (.go k pl) r := by
  have hw := word_label r
  cases r with
  | label j q =>
    show PyData.eqv (.tuple [.str _, .int j]) _ = decide (k = j)
    simp only [PyData.eqv, PyData.eqvAll, Bool.and_true]
    rw [hw]
    by_cases h : k = j
    · subst h; simp [Row.tag]
    · rw [decide_eq_false h]; simp [Row.tag, Ne.symm h]
  | _ =>
    simp only [Row.ds, Row.midD, List.cons_append, List.nil_append, List.take_succ_cons, List.take_zero, PyData.eqv, PyData.eqvAll, hw]
    simp [Row.tag, leads]

/-! ### come_to -/
abbrev sCt : Stmt := top 25
abbrev nCt : List Str := ["rows", "found", "is_open", "row", "kept", "goals", "other"]
theorem scCt : FnScope nCt ["rows"] (defScope sCt) := ⟨rfl, rfl, rfl, by decide +kernel, rfl, by decide +kernel, by decide +kernel⟩
def spCt : Sp := fun vs H Q _ => ∃ a rows, vs = [.ref a] ∧ RowsL H a rows ∧ (∀ r ∈ rows, r.Bnd) ∧ rows.length ≤ 10000 ∧ ∀ p H2, H p = none → Ex H H2 → RowsL H2 p (comeTo rows) → Q (.ref p) H2
theorem drop_last {α : Type} {xs : List α} {x : α} {n : Nat} (h : xs[n]? = some x) (hn : n + 1 = xs.length) : xs.drop n = [x] := by
  have h1 : n < xs.length := by omega
  rw [List.drop_eq_getElem_cons h1]
  have h2 : xs[n] = x := (List.getElem?_eq_some_iff.mp h).2
  rw [h2, List.drop_of_length_le (by omega)]
theorem mergeIn {f : Nat → Bool} {p : Nat → Key × V} {k : Key} : ∀ {n : Nat}, (valV (mergeK [] (pairs n f p)) k).isSome = true ↔ ∃ i, i < n ∧ f i = true ∧ (p i).1 = k
  | 0 => by constructor
            · intro h; cases h
            · rintro ⟨i, h, _⟩; omega
  | n + 1 => by
    cases hf : f n with
    | true =>
      rw [pairs_yes hf, merge_snoc, valV_put]
      by_cases e : k = (p n).1
      · rw [if_pos e]; exact ⟨fun _ => ⟨n, by omega, hf, e.symm⟩, fun _ => rfl⟩
      · rw [if_neg e, mergeIn]
        exact ⟨fun ⟨i, h1, h2, h3⟩ => ⟨i, by omega, h2, h3⟩, fun ⟨i, h1, h2, h3⟩ => ⟨i, by
          by_cases ei : i = n
          · subst ei; exact absurd h3.symm e
          · omega, h2, h3⟩⟩
    | false =>
      rw [pairs_no hf, mergeIn]
      exact ⟨fun ⟨i, h1, h2, h3⟩ => ⟨i, by omega, h2, h3⟩, fun ⟨i, h1, h2, h3⟩ => ⟨i, by
        by_cases ei : i = n
        · subst ei; rw [hf] at h2; cases h2
        · omega, h2, h3⟩⟩
section
variable {P : Program} {w : World} {K : PySem.W.Frag} {mg : Str → Option Value} {base : Heap} {o1 o2 o3 o4 o5 : Addr}
theorem ok_Ct {f : Addr} {fd : FuncData} (F : Fun K "come_to" "come_to" sCt f fd) (T : Txt K mg o1 o2 o3 o4 o5) : FnOk P w K mg base CX0 1 f fd ["rows"] spCt := by
  refine F.ok scCt (fun vs H Q E h => ?_) (fun cdv A outer s H vs Q E hr h => ?_)
  · obtain ⟨a, rows, rfl, _⟩ := h; rfl
  · obtain ⟨a, rows, rfl, ⟨as, hl, hrows⟩, hbnd, hn, k⟩ := h
    have nd := scCt.nd
    have hu := hu_of hr
    refine ⟨_, (pss_cons (ps_set (i := 1) nd rfl (Or.inl rfl) (pe_lst pa_nil))
      (pss_cons (ps_set (i := 2) nd rfl (Or.inl rfl) pe_bl)
      (pss_cons (ps_for PassesOwn.never rfl (pi_list (pv 0)) (pg_name (i := 3) nd rfl (Or.inl rfl)) (pss_cons (ps_set (i := 2) nd rfl (Or.inl rfl) (pe_or (pv 2) (pe_one (pe_cmpR op_eq (pe_ix ix_tup (pv 3) pe_int (fun _ _ => rfl)) pe_str (nomark _)))))
      (pss_cons (ps_if (pt_val (pv 2)) (pss_one (ps_expr (pe_bm PySem.F.plainAttrs_list PySem.F.slot_list_append PySem.F.type_list_append mt_append (pv 1) (pa_cons (pv 3) pa_nil)))) pss_nil)
      (pss_one (ps_if (pt_cmpR op_in_seq (pe_ix ix_tup (pv 3) pe_int (fun _ _ => rfl)) (C8.pe_gc (by rfl) T.gENDS) rfl) (pss_one (ps_set (i := 2) nd rfl (Or.inl rfl) pe_bl)) pss_nil)))))
      (pss_cons (ps_setLc (i := 4) (own := [("row", 3), ("other", 6)]) (g := gTup K 2 (gCons (gName 3) (gCons (gName 6) (gNil)))) (by rfl) nd rfl rfl (sw_true rfl rfl rfl (by decide +kernel)) (pi_zip (by rfl) T.zip (pa_cons (pv 1) (pa_cons (pe_slice sl_list (pv 1) (po_some pe_int) po_none) pa_nil))) (blkOk_by (own := [("row", 3), ("other", 6)]) (N := nCt) (sc := defScope sCt) (by decide +kernel)) (fun _ _ _ _ _ => (pg_tup (n := 2) rfl (pgs_cons (pg_name (i := 3) nd rfl (Or.inl rfl)) (pgs_cons (pg_name (i := 6) nd rfl (Or.inl rfl)) pgs_nil)))) (fun _ _ _ _ _ => (pts_one (pw_or (pt_cmpR (r := rNeD K) (op_neD hr.units) (pe_slice (r := rSlA K) sl_tupA (pv 3) po_none (po_some pe_int)) (pe_tup (pa_cons pe_str pa_nil)) (nomark _)) (pw_or1 (pt_cmpR (r := rNeD K) (op_neD hr.units) (pe_slice (r := rSlA K) sl_tupA (pv 6) po_none (po_some pe_int)) (pe_tup (pa_cons pe_str (pa_cons (pe_ix (r := rIxT K) ix_tup (pv 3) pe_int (fun _ _ => rfl)) pa_nil))) (nomark _)))).pt)) (fun _ _ _ _ _ => (pv 3)))
      (pss_cons (ps_expr (pe_bm PySem.F.plainAttrs_list PySem.F.slot_list_extend PySem.F.type_list_extend mt_extend (pv 4) (pa_cons (pe_slice sl_list (pv 1) (po_some (pe_un un_neg pe_int)) po_none) pa_nil)))
      (pss_cons (ps_set (i := 5) nd rfl (Or.inr rfl) (pe_dc (own := [("row", 3)]) (g := gName 3) (by rfl) nd (pi_list (pv 4)) (blkOk_by (own := [("row", 3)]) (N := nCt) (sc := defScope sCt) (by decide +kernel)) (fun _ _ _ _ _ => (pg_name (i := 3) nd rfl (Or.inl rfl))) (fun _ _ _ _ _ => (pts_one (pt_cmpR (r := rIn K false) op_in_seq (pe_ix (r := rIxT K) ix_tup (pv 3) pe_int (fun _ _ => rfl)) (pe_tup (pa_cons pe_str (pa_cons pe_str pa_nil))) rfl))) (fun _ _ _ _ _ => (pe_ix (r := rIxT K) ix_tup (pv 3) (pe_un un_neg pe_int) (fun _ _ => rfl))) (fun _ _ _ _ _ => pe_bl)))
      (pss_one (ps_ret (pe_lc (own := [("row", 3)]) (g := gName 3) (by rfl) nd (pi_list (pv 4)) (blkOk_by (own := [("row", 3)]) (N := nCt) (sc := defScope sCt) (by decide +kernel)) (fun _ _ _ _ _ => (pg_name (i := 3) nd rfl (Or.inl rfl))) (fun _ _ _ _ _ => (pts_one (pw_or (pt_cmpR op_ne (pe_ix (r := rIxT K) ix_tup (pv 3) pe_int (fun _ _ => rfl)) pe_str (nomark _)) (pw_or1 (pt_cmp (pc_din hu (pe_ix (r := rIxT K) ix_tup (pv 3) pe_int (fun _ _ => rfl)) (pv 5))))).pt)) (fun _ _ _ _ _ => (pv 3))))))))))), ?_⟩
    dsimp only [cxK, cxKn, List.map]
    have hlen := hrows.1
    refine q_asgL (el_lst ea_nil (Nat.le_of_ble_eq_true rfl)) fun l H1 hl1 e1 h1 => ?_
    refine q_asg ev_c fun H2 e2 => ?_
    have hrl : (reachL rows).length = rows.length := scan_len _ _ _
    refine q_forLn (xs := as.map V.ref) (ev_var rfl) (sq_of (e2 _ _ (e1 _ _ hl))) (fun i σ' H' => ∃ u, σ' = [some (.ref a), some (.ref l), some (.bl (stAt reachF rows true i)), u, none, none, none] ∧ Ex H H' ∧ H' l = some (.lst ((pickN as (reachL rows) i).map V.ref))) (fun H3 e3 => ⟨none, by cases rows <;> rfl, (e1.trans e2).trans e3, by rw [pickN_zero]; exact e3 _ _ (e2 _ _ h1)⟩)
      (fun i σ' H' _ p => by obtain ⟨_, _, e, _⟩ := p; exact sq_of (e _ _ hl)) (fun i x σ' H3 hx p => ?_) (fun σ' H3 p => ?_)
    · obtain ⟨u, rfl, ex, hls⟩ := p
      rw [List.getElem?_map] at hx
      cases hai : as[i]? with
      | none => rw [hai] at hx; cases hx
      | some b =>
      rw [hai] at hx; cases hx
      obtain ⟨r, hr1, hr2⟩ := hrows.get hai
      obtain ⟨p, q, hp, _⟩ := id hr2
      have hstep := stAt_succ reachF (s := true) hr1
      have hscan : (reachL rows)[i]? = some (reachF r (stAt reachF rows true i)).1 := scan_at reachF (s := true) hr1
      have hi : i < rows.length := (List.getElem?_eq_some_iff.mp hr1).1
      generalize stAt reachF rows true i = o at hstep hscan
      have hlab : r.isLabel = decide (r.tag = .label) := by cases r <;> rfl
      have hend : r.isEnd = r.tag.isEnd := by cases r <;> rfl
      refine q_asg (ev_orV (ev_var rfl) fun _ => ev_word .label (ev_row (j := 0) (ex _ _ hp) (ev_var rfl) rfl)) fun H4 e4 => ?_
      have ex4 := ex.trans e4
      refine q_whenK (fun H5 => Ex H H5 ∧ H5 l = some (.lst ((pickN as (reachL rows) (i + 1)).map V.ref))) (et_B (ev_var rfl)) (fun H5 m => ?_) (fun hb H5 e5 kk => ?_) (fun hb H5 e5 => ⟨ex4.trans e5, ?_⟩)
      · obtain ⟨ex5, hl5⟩ := m
        refine s_ifAsg (v := .bl (if r.isEnd then false else (o || r.isLabel))) (et_ops endsV Tag.isEnd (by decide +kernel) rfl (T.kENDS H5) (ev_row (j := 0) (ex5 _ _ hp) (ev_var rfl) rfl)) (fun hb => ?_) (fun hb => ?_) fun H6 e6 => nxM ⟨some (.ref b), ?_, ex5.trans e6, e6 _ _ hl5⟩
        · rw [hend, hb]; exact ev_c
        · rw [hend, hb, hlab]; rfl
        · rw [hstep]; rfl
      · refine s_app (e5 _ _ (e4 _ _ hls)) (ev_var rfl) (ev_var rfl) (by rw [List.length_map]; have := pickN_len (as := as) (l := reachL rows) (n := i); omega) fun H6 e6 => nxM (kk _ ⟨Ex.mut ((ex4.trans e5).trans e6) (fresh_back (Ex.refl H) (by
            have := hl1; exact this)), ?_⟩)
        rw [upd_same, pickN_step hai hscan]
        have : (reachF r o).1 = some r := by unfold reachF; rw [hlab, hb]; rfl
        rw [this]; simp [oneOf]
      · rw [pickN_step hai hscan]
        have : (reachF r o).1 = none := by unfold reachF; rw [hlab, hb]; rfl
        rw [this]; simp only [oneOf, List.append_nil]
        exact e5 _ _ (e4 _ _ hls)
    · obtain ⟨u, rfl, ex, hls⟩ := p
      rw [List.length_map, pickN_all rfl (by rw [hrl, hlen])] at hls
      have hfs := pick_all hrows hrl (reach_k rows)
      have hfb : ∀ r ∈ (reachL rows).filterMap id, r.Bnd := fun r hr => by
        obtain ⟨j, hj⟩ := List.mem_iff_getElem?.mp hr
        obtain ⟨i, h2, _⟩ := pos_from hj
        obtain ⟨r', h3⟩ := (reach_pass rows).row h2
        exact (reach_pass rows).bnd hbnd i r h2
      have hfl : ((reachL rows).filterMap id).length ≤ 10000 := by have := List.length_filterMap_le id (reachL rows); omega
      have hct : comeTo rows = (dropL ((dropGo ((reachL rows).filterMap id)).filterMap id)).filterMap id := rfl
      rw [hct] at k
      generalize (reachL rows).filterMap id = fs at hfs hfb hfl k
      generalize pick as (reachL rows) = fas at hfs hls
      have hfl2 := hfs.1
      have dgl := dropGo_len fs
      have row : ∀ i, i < fas.length → ∃ r b, fs[i]? = some r ∧ fas[i]? = some b ∧ (fas.map V.ref)[i]? = some (.ref b) ∧ RowAt H b r := fun i hi => by
        have h1 : fas[i]? = some fas[i] := List.getElem?_eq_getElem hi
        obtain ⟨r, h2, h3⟩ := hfs.get h1
        exact ⟨r, _, h2, h1, by rw [List.getElem?_map, h1]; rfl, h3⟩
      generalize hop : stAt reachF rows true (as.map V.ref).length = op
      have hzip : EvL (tLc (iZip K (tCons (tVar 1) (tCons (tSl (rSlL K) (tVar 1) (tPart (tC (.int 1))) tNoPart) tNil))) (g2 K 3 6)
        (tOr (tTest (tOp (rNeD K) (tSl (rSlA K) (tVar 3) tNoPart (tPart (tC (.int 1)))) (tTup (tCons (tC (.str "go")) tNil)))) (tTest (tOp (rNeD K) (tSl (rSlA K) (tVar 6) tNoPart (tPart (tC (.int 2)))) (tTup (tCons (tC (.str "label")) (tCons (tOp (rIxT K) (tVar 3) (tC (.int 1))) tNil)))))) (tVar 3) [3, 6])
        [some (.ref a), some (.ref l), some (.bl op), u, none, none, none] H3 (given (fas.length - 1) (fun i => (((dropGo fs)[i]?).bind id).isSome) fun i => ((fas.map V.ref)[i]?).getD .non) := by
        refine el_lc _ _ (bd := fun i s => (s.set 3 (fas.map V.ref)[i]?).set 6 ((fas.map V.ref).drop 1)[i]?) ?_ (by omega) (fun i _ => rfl) (fun i H4 e4 hi => ?_) (fun i H4 e4 hi hf => ?_)
        · have := ei_zip (K := K) (σ := [some (.ref a), some (.ref l), some (.bl op), u, none, none, none]) (H := H3) (j := 3) (k := 6) (ta := tVar 1) (tb := tSl (rSlL K) (tVar 1) (tPart (tC (.int 1))) tNoPart) (a := l) (ev_var rfl) (sq_of hls) (el_sl (ev_var rfl) (eo_some ev_c) eo_none (sq_of hls))
          rw [cut_one, List.length_drop, List.length_map, Nat.min_eq_right (by omega)] at this
          exact this
        · obtain ⟨r, b, r1, r2, r3, r4⟩ := row i (by omega)
          obtain ⟨r', b', s1, s2, s3, s4⟩ := row (i + 1) (by omega)
          show EvT _ (List.set (List.set _ 3 (fas.map V.ref)[i]?) 6 ((fas.map V.ref).drop 1)[i]?) _ _
          rw [r3, List.getElem?_drop, Nat.add_comm 1 i, s3, dropGo_ix r1 s1]
          have hb1 := hfb r (List.mem_of_getElem? r1)
          have hb2 := hfb r' (List.mem_of_getElem? s1)
          obtain ⟨p, q, w1, w2, w3⟩ := r4
          obtain ⟨p', q', x1, x2, x3⟩ := s4
          have exx := ex.trans e4
          have sh : ∀ {ds : List PyData}, PyData.canLayAll0 ds = true → PyData.depthAll ds ≤ 60 → SeqAt.shaped (.tuple ds) = true := fun h1 h2 => shaped_of h1 h2
          have t1 := et_neT (K := K) (σ := List.set (List.set (wipe [some (.ref a), some (.ref l), some (.bl op), u, none, none, none] [3, 6]) 3 (some (.ref b))) 6 (some (.ref b'))) (H := H4) (ds := r.ds.take 1) (es := [.str (Str.ofString "go")]) (ew_sl (K := K) (te := tVar 3) (ev_var rfl) eo_none (eo_some (ev_c (v := .int 1))) (exx _ _ w1)) (ew_of (eu_tup (ea_cons (ev_c (v := .str (Str.ofString "go"))) ea_nil) (Nat.le_of_ble_eq_true rfl)))
            (by rw [show (1 : Int) = ((1 : Nat) : Int) from rfl, cut_take]; exact dps_take (dps_ex exx (dp_vals w2 w3))) (.cons (.str _) .nil) (shaped_take hb1 1) (sh (by simp [PyData.canLayAll0, PyData.canLay0]; decide +kernel) (by simp [PyData.depthAll, PyData.depth]))
          rw [eqv_go] at t1
          by_cases hgo : r.tag = .go
          · obtain ⟨kk, pl, rfl⟩ : ∃ kk pl, r = .go kk pl := by cases r <;> simp [Row.tag] at hgo; exact ⟨_, _, rfl⟩
            have t2 := et_neT (K := K) (σ := List.set (List.set (wipe [some (.ref a), some (.ref l), some (.bl op), u, none, none, none] [3, 6]) 3 (some (.ref b))) 6 (some (.ref b'))) (H := H4) (ds := r'.ds.take 2) (es := [.str (Str.ofString "label"), .int kk]) (ew_sl (K := K) (te := tVar 6) (ev_var rfl) eo_none (eo_some (ev_c (v := .int 2))) (exx _ _ x1)) (ew_of (eu_tup (ea_cons (ev_c (v := .str (Str.ofString "label"))) (ea_cons (ev_row (K := K) (j := 1) (te := tVar 3) (exx _ _ w1) (ev_var rfl) rfl) ea_nil)) (Nat.le_of_ble_eq_true rfl)))
              (by rw [show (2 : Int) = ((2 : Nat) : Int) from rfl, cut_take]; exact dps_take (dps_ex exx (dp_vals x2 x3))) (.cons (.str _) (.cons (.int _) .nil)) (shaped_take hb2 2) (sh (by simp [PyData.canLayAll0, PyData.canLay0]; decide +kernel) (by simp [PyData.depthAll, PyData.depth]))
            rw [eqv_label r' kk pl] at t2
            refine et_is (et_or t1 fun _ => t2) ?_
            cases hl : leads (.go kk pl) r' <;> simp [Row.tag, hl]
          · have hno : leads r r' = false := by cases r <;> simp [Row.tag] at hgo <;> rfl
            rw [hno]
            exact et_is (et_or (b := true) t1 fun z => by simp [hgo] at z) (by simp [hgo])
        · obtain ⟨r, b, r1, r2, r3, r4⟩ := row i (by omega)
          show Ev _ (List.set (List.set _ 3 (fas.map V.ref)[i]?) 6 _) _ _
          rw [r3]; exact ev_var rfl
      rw [given_pick (by omega) _ (by omega)] at hzip
      refine q_asgL hzip fun kl H4 hkl e4 h4 => ?_
      have ex4 := ex.trans e4
      refine q_extL (ys := (fas.map V.ref).drop ((fas.map V.ref).length - 1)) h4 (ev_var rfl) (by
        have := el_sl (K := K) (σ := [some (.ref a), some (.ref l), some (.bl op), u, some (.ref kl), none, none]) (H := H4) (te := tVar 1) (tl := tPart (tUn (rU fun i => .int (-i)) (tC (.int 1)))) (th := tNoPart) (ev_var rfl) (eo_some (ev_un ev_c ru_neg)) eo_none (sq_of (e4 _ _ hls))
        rw [cut_last] at this
        exact this) ?_ fun H5 e5 => ?_
      · rw [List.length_drop, List.length_map, List.length_map]
        have := pickN_len (as := fas) (l := dropGo fs) (n := fas.length - 1)
        omega
      have hlast : (pickN fas (dropGo fs) (fas.length - 1)).map V.ref ++ (fas.map V.ref).drop ((fas.map V.ref).length - 1) = (pick fas (dropGo fs)).map V.ref := by
        rw [List.length_map]
        by_cases h0 : fas.length = 0
        · have : fas = [] := List.length_eq_zero_iff.mp h0
          subst this
          simp [pickN, pick]
        · obtain ⟨r, b, r1, r2, r3, r4⟩ := row (fas.length - 1) (by omega)
          rw [drop_last r3 (by rw [List.length_map]; omega), ← pickN_all (n := fas.length) rfl (by omega)]
          have e : fas.length = (fas.length - 1) + 1 := by omega
          conv => rhs; rw [e]
          rw [pickN_step r2 (dropGo_last' r1 (by omega))]
          simp [oneOf]
      rw [hlast]
      have hks := pick_all hfs dgl (dropGo_k fs)
      have hkb : ∀ r ∈ (dropGo fs).filterMap id, r.Bnd := fun r hr => by
        obtain ⟨j, hj⟩ := List.mem_iff_getElem?.mp hr
        obtain ⟨i, h2, _⟩ := pos_from hj
        exact (dropGo_pass fs).bnd hfb i r h2
      have hkl2 : ((dropGo fs).filterMap id).length ≤ 10000 := by have := List.length_filterMap_le id (dropGo fs); omega
      generalize (dropGo fs).filterMap id = ks at hks hkb hkl2 k
      generalize pick fas (dropGo fs) = kas at hks
      have ex6 : Ex H (upd H5 kl (.lst (kas.map V.ref))) := Ex.mut (ex4.trans e5) (fresh_back ex hkl)
      have hk6 : (upd H5 kl (.lst (kas.map V.ref))) kl = some (.lst (kas.map V.ref)) := upd_same
      generalize upd H5 kl (.lst (kas.map V.ref)) = H6 at ex6 hk6 ⊢
      have hklen := hks.1
      have row : ∀ i, i < kas.length → ∃ r b, ks[i]? = some r ∧ kas[i]? = some b ∧ (kas.map V.ref)[i]? = some (.ref b) ∧ RowAt H b r := fun i hi => by
        have h1 : kas[i]? = some kas[i] := List.getElem?_eq_getElem hi
        obtain ⟨r, h2, h3⟩ := hks.get h1
        exact ⟨r, _, h2, h1, by rw [List.getElem?_map, h1]; rfl, h3⟩
      have hik : ∀ {H7 : Hp} {u5 : Option V}, Ex H6 H7 → EvI (iList K (tVar 4)) (gName 3) [some (.ref a), some (.ref l), some (.bl op), u, some (.ref kl), u5, none] H7 kas.length fun i s => s.set 3 (kas.map V.ref)[i]? := fun {H7 u5} e7 => by
        have := ei_list (K := K) (j := 3) (σ := [some (.ref a), some (.ref l), some (.bl op), u, some (.ref kl), u5, none]) (tl := tVar 4) (ev_var rfl) (sq_of (e7 _ _ hk6))
        rw [List.length_map] at this
        exact this
      refine q_asgD (ed_dc (fun i => (((ks[i]?).bind Row.target)).isSome) (fun i => ((Sum.inl (((ks[i]?).bind Row.target).getD 0) : Key), V.bl true)) (hik (Ex.refl _)) (vs := [3]) (by omega) (fun i _ => rfl) (fun i H7 e7 hi => ?_) (fun i H7 e7 hi hf => ?_) (fun i H7 e7 hi hf => ev_c)) fun gd H7 hgd e7 h7 => ?_
      · obtain ⟨r, b, r1, r2, r3, r4⟩ := row i hi
        obtain ⟨p, q, w1, _⟩ := r4
        rw [r3, r1]
        refine et_is (et_words [.go, .unless] (by decide) (by decide +kernel) (ev_row (j := 0) ((ex6.trans e7) _ _ w1) (ev_var rfl) rfl)) ?_
        show _ = r.target.isSome
        cases r <;> rfl
      · obtain ⟨r, b, r1, r2, r3, r4⟩ := row i hi
        obtain ⟨p, q, w1, _⟩ := r4
        rw [r1] at hf
        rw [r3, r1]
        show Ev _ _ _ (.int (r.target.getD 0))
        have hf : r.target.isSome = true := hf
        cases r <;> simp [Row.target] at hf
        all_goals exact ev_op (ev_var rfl) (ev_un ev_c ru_neg) (rv_ixT (st_of ((ex6.trans e7) _ _ w1)) rfl)
      · have hgoals : ∀ t, (valV (mergeK [] (pairs kas.length (fun i => (((ks[i]?).bind Row.target)).isSome) (fun i => ((Sum.inl (((ks[i]?).bind Row.target).getD 0) : Key), V.bl true)))) (Sum.inl t)).isSome = decide (t ∈ goals ks) := fun t => by
          by_cases hg : t ∈ goals ks
          · rw [decide_eq_true hg, mergeIn]
            obtain ⟨r, hr, ht⟩ := List.mem_filterMap.mp hg
            obtain ⟨i, hi⟩ := List.mem_iff_getElem?.mp hr
            refine ⟨i, by have := (List.getElem?_eq_some_iff.mp hi).1; omega, by rw [hi]; show r.target.isSome = true; rw [ht]; rfl, by rw [hi]; show Sum.inl (r.target.getD 0) = _; rw [ht]; rfl⟩
          · rw [decide_eq_false hg]
            cases hx : (valV (mergeK [] (pairs kas.length (fun i => (((ks[i]?).bind Row.target)).isSome) (fun i => ((Sum.inl (((ks[i]?).bind Row.target).getD 0) : Key), V.bl true)))) (Sum.inl t)).isSome with
            | false => rfl
            | true =>
              obtain ⟨i, h1, h2, h3⟩ := mergeIn.mp hx
              exfalso; apply hg
              cases hr : ks[i]? with
              | none => rw [hr] at h2; cases h2
              | some r =>
                rw [hr] at h2 h3
                have h2 : r.target.isSome = true := h2
                have h3 : r.target.getD 0 = t := Sum.inl.inj h3
                obtain ⟨tt, ht⟩ := Option.isSome_iff_exists.mp h2
                rw [ht] at h3
                have : tt = t := h3
                subst this
                exact List.mem_filterMap.mpr ⟨r, List.mem_of_getElem? hr, ht⟩
        refine s_retL (el_lc (fun i => (((dropL ks)[i]?).bind id).isSome) (fun i => ((kas.map V.ref)[i]?).getD .non) (hik e7) (vs := [3]) (by omega) (fun i _ => rfl) (fun i H8 e8 hi => ?_) (fun i H8 e8 hi hf => ?_)) fun p H8 hp e8 h8 => rtM ?_
        · obtain ⟨r, b, r1, r2, r3, r4⟩ := row i hi
          obtain ⟨p, q, w1, _⟩ := r4
          rw [r3, dropL_at r1]
          have wd := (ex6.trans (e7.trans e8)) _ _ w1
          by_cases hlb : r.tag = .label
          · obtain ⟨kk, pl, rfl⟩ : ∃ kk pl, r = .label kk pl := by cases r <;> simp [Row.tag] at hlb; exact ⟨_, _, rfl⟩
            refine et_is (et_or (et_wordN .label (ev_row (j := 0) wd (ev_var rfl) rfl)) fun _ => et_B (ev_din (k := Sum.inl kk) (e8 _ _ h7) (ev_row (j := 1) wd (ev_var rfl) rfl) (ev_var rfl))) ?_
            rw [hgoals]
            simp only [Row.labelOf]
            by_cases hg : kk ∈ goals ks <;> simp [Row.tag, hg]
          · refine et_is (et_or (b := true) (et_wordN .label (ev_row (j := 0) wd (ev_var rfl) rfl)) fun z => by simp [hlb] at z) ?_
            have : r.labelOf = none := by cases r <;> simp [Row.tag] at hlb <;> rfl
            simp [this, hlb]
        · obtain ⟨r, b, r1, r2, r3, r4⟩ := row i hi
          rw [r3]; exact ev_var rfl
        · rw [given_pick (by rw [dropL_len]; omega) _ (Nat.le_refl _), pickN_all rfl (by rw [dropL_len]; omega)] at h8
          have exf := ex6.trans (e7.trans e8)
          refine k p H8 (fresh_back (ex6.trans e7) hp) exf ⟨_, h8, ?_⟩
          exact (pick_all hks (dropL_len ks) (dropL_k ks)).imp fun _ _ => RowAt.mono (tl_ex exf)
end
end K51

/-! Walks 7: lean's without_idle, lean_rows, lean_of. -/
namespace K51
open PySem L2 Evl
section
variable {K : PySem.W.Frag} {σ : L2.St} {H : Hp} {ta : TA} {tu tz : TS} {D : Ends}
theorem q_un6 {a : Addr} {v1 v2 v3 v4 v5 v6 : V} (h : σ[0]? = some (some (.ref a))) (ht : H a = some (.tup [v1, v2, v3, v4, v5, v6])) (k : tz D ((((((σ.set 1 (some v1)).set 2 (some v2)).set 3 (some v3)).set 4 (some v4)).set 5 (some v5)).set 6 (some v6)) H) :
    tSeq (tAsg (tVar 0) (gTup K 6 (gCons (gName 1) (gCons (gName 2) (gCons (gName 3) (gCons (gName 4) (gCons (gName 5) (gCons (gName 6) gNil)))))))) tz D σ H :=
  ⟨.ref a, h, a, _, rfl, st_of ht, rfl, v1, _, rfl, v2, _, rfl, v3, _, rfl, v4, _, rfl, v5, _, rfl, v6, _, rfl, rfl, k⟩
theorem el_catN {t1 t2 : TE} {xs ys : List V} (ha : EvL t1 σ H xs) (hb : EvL t2 σ H ys) (hz : xs.length + ys.length ≤ 100000) : EvL (tOp rCat t1 t2) σ H (xs ++ ys) := fun H1 e Q q =>
  ha H1 e _ fun p H2 hp e2 h2 => hb H2 (e.trans e2) _ fun p' H3 hp' e3 h3 => ⟨p, p', xs, ys, rfl, rfl, e3 _ _ h2, h3, sz_of hz, fun l hl => q l _ (fresh_back (e2.trans e3) hl) ((e2.trans e3).trans (Ex.new hl)) upd_same⟩
theorem r_consE {te : TE} {tr : TA} {v : V} {Q : List V → Hp → Prop} (h : Ev te σ H v) (k : ∀ H1, Ex H H1 → tr σ H1 fun xs H2 => Q (v :: xs) H2) : tCons te tr σ H Q := h H (Ex.refl H) _ k
theorem given_all {xs : List V} : given xs.length (fun _ => true) (fun i => (xs[i]?).getD .non) = xs := by
  have : ∀ n, n ≤ xs.length → given n (fun _ => true) (fun i => (xs[i]?).getD .non) = xs.take n := fun n => by
    induction n with
    | zero => intro _; rfl
    | succ n ih =>
      intro h
      have hx : xs[n]? = some xs[n] := List.getElem?_eq_getElem h
      rw [given_yes rfl, ih (by omega), take_succ_some hx, hx]; rfl
  rw [this _ (Nat.le_refl _), List.take_length]
theorem q_forZ {a b : Addr} {xs ys : List V} {j k n : Nat} (h : EvA ta σ H [.ref a, .ref b]) (hx : SqL K H a xs) (hy : SqL K H b ys) (hn : n = min xs.length ys.length) (Pv : Nat → L2.St → Hp → Prop) (h0 : ∀ H1, Ex H H1 → Pv 0 σ H1) (hl : ∀ i σ' H', i ≤ n → Pv i σ' H' → SqL K H' a xs ∧ SqL K H' b ys)
    (hs : ∀ i x y σ' Ha Hb, xs[i]? = some x → ys[i]? = some y → Pv i σ' Ha → Ex Ha Hb → tu { D with nx := Pv (i + 1), ct := Pv (i + 1), bk := tz D } ((σ'.set j (some x)).set k (some y)) Hb) (hd : ∀ σ' H', Pv n σ' H' → tz D σ' H') : tSeq (tFor (iZip K ta) (g2 K j k) tu) tz D σ H :=
  h H (Ex.refl H) _ fun H1 e => ⟨a, b, xs, ys, rfl, ex_l e hx, ex_l e hy, for_it (walk_zip hn) Pv (h0 H1 e) (fun i σ' H' hi p => hl i σ' H' hi p) (fun i x σ' Ha Hb hi p y => by
    obtain ⟨T, x, y, rfl, hT, rfl, h1, h2⟩ := y
    exact g2_go hT fun Hc ec => hs i x y σ' Ha Hc h1 h2 p ec) hd⟩
end
section
variable {P : Program} {w : World} {K : PySem.W.Frag} {mg : Str → Option Value} {base : Heap} {o1 o2 o3 o4 o5 : Addr}
abbrev sWi : Stmt := top 29
abbrev nWi : List Str := ["rows", "named", "behind", "found", "row", "some", "is_idle"]
theorem scWi : FnScope nWi ["rows", "named"] (defScope sWi) := ⟨rfl, rfl, rfl, by decide +kernel, rfl, by decide +kernel, by decide +kernel⟩
def spWi : Sp := fun vs H Q _ => ∃ a b rows named, vs = [.ref a, .ref b] ∧ RowsL H a rows ∧ H b = some (.lst (named.map V.int)) ∧ named.length ≤ 1000 ∧ WF rows ∧ rows.length ≤ 10000 ∧ ∀ p H2 ks, H p = none → Ex H H2 → Sound rows named ks → RowsL H2 p ((idleL rows ks).filterMap id) → Q (.ref p) H2
def Tag.quiet : Tag → Bool
  | .put => true | .copy => true | .two .less => true | .two .same => true | .fetch => true
  | _ => false
theorem quiet_tag (r : Row) : r.quiet = r.tag.quiet := by
  cases r with
  | two o c d e p => cases o <;> rfl
  | _ => rfl
theorem ok_Wi {f f1 : Addr} {fd d1 : FuncData} (F : Fun K "without_idle" "without_idle" sWi f fd) (T : Txt K mg o1 o2 o3 o4 o5) (C_wanted_behind_lean : CalAt P w K mg base 2 "wanted_behind_lean" ["rows", "named"] spWl f1 d1) : FnOk P w K mg base CX0 3 f fd ["rows", "named"] spWi := by
  refine F.ok scWi (fun vs H Q E h => ?_) (fun cdv A outer s H vs Q E hr h => ?_)
  · obtain ⟨a, b, rows, named, rfl, _⟩ := h; rfl
  · obtain ⟨a, nb, rows, named, rfl, ⟨as, hl, hrows⟩, hnm, hnz, wf, hn, k⟩ := h
    have nd := scWi.nd
    have hu := hu_of hr
    refine ⟨_, (pss_cons (ps_set (i := 2) nd rfl (Or.inl rfl) (pe_call C_wanted_behind_lean.ok (hr.mono (by decide)) rfl C_wanted_behind_lean.g C_wanted_behind_lean.kp C_wanted_behind_lean.b .nil pass0 (pa_cons (pv 0) (pa_cons (pv 1) pa_nil))))
      (pss_cons (ps_set (i := 3) nd rfl (Or.inl rfl) (pe_lst pa_nil))
      (pss_cons (ps_for PassesOwn.never rfl (pi_zip (by rfl) T.zip (pa_cons (pv 0) (pa_cons (pv 2) pa_nil))) (pg_tup (n := 2) rfl (pgs_cons (pg_name (i := 4) nd rfl (Or.inl rfl)) (pgs_cons (pg_name (i := 5) nd rfl (Or.inl rfl)) pgs_nil))) (pss_cons (ps_set (i := 6) nd rfl (Or.inl rfl) (pe_or (pe_and (pe_cmpR op_in_seq (pe_ix ix_tup (pv 4) pe_int (fun _ _ => rfl)) (C8.pe_gc (by rfl) T.gQUIET) rfl) (pe_one (pe_cmp (pc_dnotin hu (pe_ix ix_tup (pv 4) pe_int (fun _ _ => rfl)) (pv 5))))) (pe_one (pe_and (pe_cmpR op_eq (pe_ix ix_tup (pv 4) pe_int (fun _ _ => rfl)) pe_str (nomark _)) (pe_one (pe_cmpR op_eq (pe_ix ix_tup (pv 4) pe_int (fun _ _ => rfl)) (pe_ix ix_tup (pv 4) pe_int (fun _ _ => rfl)) (nomark _)))))))
      (pss_one (ps_expr (pe_bm PySem.F.plainAttrs_list PySem.F.slot_list_extend PySem.F.type_list_extend mt_extend (pv 3) (pa_cons (pe_ifExp (pt_val (pv 6)) (pe_lst pa_nil) (pe_lst (pa_cons (pv 4) pa_nil))) pa_nil))))))
      (pss_one (ps_ret (pv 3)))))), ?_⟩
    dsimp only [cxK, cxKn, List.map]
    have hlen := hrows.1
    refine q_asgR (r_call (r_ea (ea_cons (ev_var rfl) (ea_cons (ev_var rfl) ea_nil)) fun H1 e1 => ?_))
    refine ⟨a, nb, rows, named, rfl, RowsL.ex e1 ⟨as, hl, hrows⟩, e1 _ _ hnm, hnz, wf, hn, fun bp H2 ks hbp e2 hsets hsound => ?_⟩
    have e02 := e1.trans e2
    refine q_asgL (el_lst ea_nil (Nat.le_of_ble_eq_true rfl)) fun l H3 hl3 e3 h3 => ?_
    have e03 := e02.trans e3
    obtain ⟨ds, hb2, hd2⟩ := hsets
    have hkl := hsound.1
    have hil : (idleL rows ks).length = rows.length := idleL_len hkl
    refine q_forZ (n := rows.length) (xs := as.map V.ref) (ys := ds.map V.ref) (ea_cons (ev_var rfl) (ea_cons (ev_var rfl) ea_nil)) (sq_of (e03 _ _ hl)) (sq_of (e3 _ _ hb2)) (by rw [List.length_map, List.length_map, hlen, hd2.1, hkl, Nat.min_self]) (fun i σ' H' => ∃ u v z, σ' = [some (.ref a), some (.ref nb), some (.ref bp), some (.ref l), u, v, z] ∧ Ex H2 H' ∧ H' l = some (.lst ((pickN as (idleL rows ks) i).map V.ref)))
      (fun H4 e4 => ⟨none, none, none, rfl, e3.trans e4, by rw [pickN_zero]; exact e4 _ _ h3⟩) (fun i σ' H' _ p => by obtain ⟨_, _, _, _, e, _⟩ := p; exact ⟨sq_of (e _ _ (e02 _ _ hl)), sq_of (e _ _ hb2)⟩) (fun i x y σ' Ha Hb hx hy p eb => ?_) (fun σ' H4 p => ?_)
    · obtain ⟨u, v, z, rfl, ex, hls⟩ := p
      rw [List.getElem?_map] at hx hy
      cases hai : as[i]? with
      | none => rw [hai] at hx; cases hx
      | some b =>
      cases hdi : ds[i]? with
      | none => rw [hdi] at hy; cases hy
      | some d =>
      rw [hai] at hx; cases hx
      rw [hdi] at hy; cases hy
      obtain ⟨r, hr1, hr2⟩ := hrows.get hai
      obtain ⟨kk, hk1, hk2⟩ := hd2.get hdi
      obtain ⟨p, q, hp, _⟩ := id hr2
      have hi : i < rows.length := (List.getElem?_eq_some_iff.mp hr1).1
      have exb := ex.trans eb
      have wd := exb _ _ (e02 _ _ hp)
      have hpick := idleL_at hr1 hk1
      have hq := quiet_tag r
      refine q_asg (v := .bl (r.idle kk)) ?_ fun H5 e5 => ?_
      · have t1 := ev_op (σ := [some (.ref a), some (.ref nb), some (.ref bp), some (.ref l), some (.ref b), some (.ref d), z]) (H := Hb) (r := rIn K false) (ev_row (K := K) (te := tVar 4) (j := 0) (v := .str r.word) wd (ev_var rfl) rfl) (ev_c (v := .ref o4)) (rv_isT (T.kQUIET Hb) rfl rfl)
        have e1q : inV (.str r.word) quietV = r.tag.quiet := eq_of_beq (Tag.all (p := fun t => inV (.str t.word) quietV == t.quiet) (by decide +kernel) r.tag)
        rw [e1q] at t1
        have t2 : r.tag.quiet = true → ∃ x, r.lays = some x ∧ Ev (tDNotIn (tOp (rIxT K) (tVar 4) (tC (.int 1))) (tVar 5)) [some (.ref a), some (.ref nb), some (.ref bp), some (.ref l), some (.ref b), some (.ref d), z] Hb (.bl (decide (x ∉ kk))) := fun hqt => by
          obtain ⟨x, hx⟩ : ∃ x, r.lays = some x := by cases r <;> simp [Row.tag, Tag.quiet] at hqt <;> exact ⟨_, rfl⟩
          refine ⟨x, hx, ev_is (ev_dnotin (k := Sum.inl x) (exb _ _ hk2) (ev_row (j := 1) wd (ev_var rfl) ?_) (ev_var rfl)) ?_⟩
          · cases r <;> simp [Row.tag, Tag.quiet] at hqt <;> cases hx <;> rfl
          · rw [valV_mkD]; by_cases h : x ∈ kk <;> simp [h]
        have t3 : Ev (tAndV (tOp rEq (tOp (rIxT K) (tVar 4) (tC (.int 0))) (tC (.str "copy"))) (tOp rEq (tOp (rIxT K) (tVar 4) (tC (.int 1))) (tOp (rIxT K) (tVar 4) (tC (.int 2))))) [some (.ref a), some (.ref nb), some (.ref bp), some (.ref l), some (.ref b), some (.ref d), z] Hb (.bl r.selfCopy) := by
          by_cases hc : r.tag = .copy
          · obtain ⟨x, dd, pl, rfl⟩ : ∃ x dd pl, r = .copy x dd pl := by cases r <;> simp [Row.tag] at hc; exact ⟨_, _, _, rfl⟩
            refine ev_is (ev_andV (ev_word .copy (ev_row (j := 0) wd (ev_var rfl) rfl)) fun _ => ev_op (ev_row (j := 1) wd (ev_var rfl) rfl) (ev_row (j := 2) wd (ev_var rfl) rfl) (rv_eq rfl)) ?_
            by_cases h : x = dd <;> simp [Row.tag, Row.selfCopy, h]
          · refine ev_is (ev_andV (b := false) (ev_word .copy (ev_row (j := 0) wd (ev_var rfl) rfl)) fun z => by simp [hc] at z) ?_
            have : r.selfCopy = false := by cases r <;> first | rfl | (exact absurd rfl hc)
            simp [this]
        cases hqt : r.tag.quiet with
        | false =>
          rw [hqt] at t1
          refine ev_is (ev_orV (ev_andV (b := false) t1 fun z => by cases z) fun _ => t3) ?_
          unfold Row.idle; rw [hq, hqt]; simp
        | true =>
          obtain ⟨x, hx, t2'⟩ := t2 hqt
          rw [hqt] at t1
          refine ev_is (ev_orV (ev_andV t1 fun _ => t2') fun _ => t3) ?_
          unfold Row.idle; rw [hq, hqt, hx]
      · have hsel : EvL (tIf (tB (tVar 6)) (tLst tNil) (tLst (tCons (tVar 4) tNil))) [some (.ref a), some (.ref nb), some (.ref bp), some (.ref l), some (.ref b), some (.ref d), some (.bl (r.idle kk))] H5 ((oneOf (if r.idle kk then none else some r) b).map V.ref) := by
          refine el_if (et_B (ev_var rfl)) (fun h => ?_) (fun h => ?_)
          · rw [h]; exact el_lst ea_nil (Nat.le_of_ble_eq_true rfl)
          · rw [h]; exact el_lst (ea_cons (ev_var rfl) ea_nil) (Nat.le_of_ble_eq_true rfl)
        refine s_extL (e5 _ _ (eb _ _ hls)) (ev_var rfl) hsel ?_ fun H6 e6 => nxM ⟨_, _, _, rfl, Ex.mut ((exb.trans e5).trans e6) hl3, ?_⟩
        · rw [List.length_map, List.length_map]
          have := pickN_len (as := as) (l := idleL rows ks) (n := i)
          have : (oneOf (if r.idle kk then none else some r) b).length ≤ 1 := by cases r.idle kk <;> simp [oneOf]
          omega
        · rw [upd_same, pickN_step hai hpick, List.map_append]
    · obtain ⟨u, v, z, rfl, ex, hls⟩ := p
      rw [pickN_all hlen hil] at hls
      refine s_ret (ev_var rfl) fun H5 e5 => rtM ?_
      have e05 := (e02.trans ex).trans e5
      exact k l H5 ks (fresh_back e02 hl3) e05 hsound ⟨_, e5 _ _ hls, (pick_all hrows hil (idleL_k hkl)).imp fun _ _ => RowAt.mono (tl_ex e05)⟩

/-! ### lean_rows -/
abbrev sLr : Stmt := top 30
abbrev nLr : List Str := ["rows", "named", "found", "goes", "other"]
theorem scLr : FnScope nLr ["rows", "named"] (defScope sLr) := ⟨rfl, rfl, rfl, by decide +kernel, rfl, by decide +kernel, by decide +kernel⟩
def spLr : Sp := fun vs H Q _ => ∃ a b rows, ∃ named : List Int, vs = [.ref a, .ref b] ∧ RowsT H a rows ∧ H b = some (.lst (named.map V.int)) ∧ named.length ≤ 1000 ∧ WF rows ∧ rows.length ≤ 10000 ∧ ∀ p H2 rows', H p = none → Ex H H2 → (∀ cs, (∀ x ∈ cs, x ∈ named) → Leaner cs rows rows') → RowsL H2 p rows' → Q (.ref p) H2
theorem ok_Lr {f f1 f2 f3 : Addr} {fd d1 d2 d3 : FuncData} (F : Fun K "lean_rows" "lean_rows" sLr f fd) (T : Txt K mg o1 o2 o3 o4 o5) (C_without_idle : CalAt P w K mg base 3 "without_idle" ["rows", "named"] spWi f1 d1) (C_come_to : CalAt P w K mg base 1 "come_to" ["rows"] spCt f2 d2) (C_all_folded : CalAt P w K mg base 3 "all_folded" ["rows"] spAf f3 d3) : FnOk P w K mg base CX0 4 f fd ["rows", "named"] spLr := by
  refine F.ok scLr (fun vs H Q E h => ?_) (fun cdv A outer s H vs Q E hr h => ?_)
  · obtain ⟨a, b, rows, named, rfl, _⟩ := h; rfl
  · obtain ⟨a, nb, rows, named, rfl, ⟨as, hl, hrows⟩, hnm, hnz, wf, hn, k⟩ := h
    have nd := scLr.nd
    have hu := hu_of hr
    refine ⟨_, (pss_cons (ps_set (i := 2) nd rfl (Or.inl rfl) (pe_callTy call_list_of (by rfl) T.list (by decide +kernel) (pa_cons (pv 0) pa_nil)))
      (pss_cons (ps_set (i := 3) nd rfl (Or.inl rfl) pe_bl)
      (pss_cons (ps_while PassesOwn.never (pt_val (pv 3)) (pss_cons (ps_set (i := 4) nd rfl (Or.inl rfl) (pe_call C_without_idle.ok (hr.mono (by decide)) rfl C_without_idle.g C_without_idle.kp C_without_idle.b .nil pass0 (pa_cons (pe_call C_come_to.ok (hr.mono (by decide)) rfl C_come_to.g C_come_to.kp C_come_to.b .nil pass0 (pa_cons (pe_call C_all_folded.ok (hr.mono (by decide)) rfl C_all_folded.g C_all_folded.kp C_all_folded.b .nil pass0 (pa_cons (pv 2) pa_nil)) pa_nil)) (pa_cons (pv 1) pa_nil))))
      (pss_cons (ps_set (i := 3) nd rfl (Or.inl rfl) (pe_cmpR (op_neD hr.units) (pv 4) (pv 2) (nomark _)))
      (pss_one (ps_set (i := 2) nd rfl (Or.inl rfl) (pv 4))))))
      (pss_one (ps_ret (pv 2)))))), ?_⟩
    dsimp only [cxK, cxKn, List.map]
    have hcp : ∀ {H1 : Hp}, Ex H H1 → EvL (tCB (fun xs H Q => ∃ p ys, xs = [V.ref p] ∧ (SqL K H p ys ∨ SqT K H p ys) ∧ ∀ (l : Addr), H l = none → Q (V.ref l) (upd H l (HO.lst ys))) (tCons (tVar 0) tNil)) [some (.ref a), some (.ref nb), none, none, none] H1 (as.map V.ref) := fun e1 H2 e2 Q q =>
      ⟨_, rfl, a, _, rfl, .inr (st_of (e2 _ _ (e1 _ _ hl))), fun l hl' => q l _ hl' (Ex.new hl') upd_same⟩
    refine q_asgL (hcp (Ex.refl H)) fun l0 H1 hl0 e1 h1 => ?_
    refine q_asg ev_c fun H2 e2 => ?_
    refine q_while (fun m σ' H' => ∃ d l rws u4, σ' = [some (.ref a), some (.ref nb), some (.ref l), some (.bl d), u4] ∧ H l = none ∧ Ex H H' ∧ RowsL H' l rws ∧ (∀ cs, (∀ x ∈ cs, x ∈ named) → Leaner cs rows rws) ∧ m = wsum rws + (if d = true then 1 else 0)) (wsum rows + 1)
      ⟨true, l0, rows, none, rfl, hl0, e1.trans e2, ⟨as, e2 _ _ h1, hrows.imp fun _ _ => RowAt.mono (tl_ex (e1.trans e2))⟩, fun cs _ => Leaner.refl wf, rfl⟩ (fun m σ' H3 hw => ?_)
    obtain ⟨d, l, rws, u4, rfl, hlH, ex, hrw, hlean, rfl⟩ := hw
    refine ⟨d, et_B (ev_var rfl), fun hb H4 e4 => ?_, fun hb H4 e4 => ?_⟩
    · subst hb
      have hL := hlean [] (fun x hx => by simp at hx)
      have hwf := hL.wf
      have hlen : rws.length ≤ 10000 := Nat.le_trans hL.len hn
      have hF := fold_leaner (cs := []) hwf
      have hC := comeTo_leaner (cs := []) hF.wf
      refine ⟨fun σ' H' => ∃ d l rws' u4, σ' = [some (.ref a), some (.ref nb), some (.ref l), some (.bl d), u4] ∧ H l = none ∧ Ex H H' ∧ RowsL H' l rws' ∧ (∀ cs, (∀ x ∈ cs, x ∈ named) → Leaner cs rows rws') ∧ wsum rws' + (if d = true then 1 else 0) < wsum rws + 1, fun σ2 H2' hN => ?_, ?_⟩
      · obtain ⟨d, l, rws', u4, rfl, z1, z2, z3, z4, z5⟩ := hN
        exact ⟨_, z5, d, l, rws', u4, rfl, z1, z2, z3, z4, rfl⟩
      · refine q_asgR (r_call (r_cons (r_call (r_cons (r_call (r_ea (ea_cons (ev_var rfl) ea_nil) fun H5 e5 => ?_))))))
        have e45 := e4.trans e5
        refine ⟨l, rws, rfl, hrw.ex e45, hwf.bnd, hlen, fun p1 H6 _ e6 hr6 => ?_⟩
        refine r_ea ea_nil fun H7 e7 => ?_
        refine ⟨p1, foldR rws, rfl, hr6.ex e7, hF.wf.bnd, Nat.le_trans hF.len hlen, fun p2 H8 _ e8 hr8 => ?_⟩
        refine r_ea (ea_cons (ev_var rfl) ea_nil) fun H9 e9 => ?_
        have e39 := e45.trans (e6.trans (e7.trans (e8.trans e9)))
        refine ⟨p2, nb, comeTo (foldR rws), named, rfl, hr8.ex e9, e39 _ _ (ex _ _ hnm), hnz, hC.wf, Nat.le_trans hC.len (Nat.le_trans hF.len hlen), fun p3 H10 ks hp3 e10 hsnd hr10 => ?_⟩
        have e310 := e39.trans e10
        have hless := turn_less (rows := rws) hsnd.1
        have hT : ∀ cs, (∀ x ∈ cs, x ∈ named) → Leaner cs rows ((idleL (comeTo (foldR rws)) ks).filterMap id) := fun cs hcs => (hlean cs hcs).trans (turn_leaner hwf hcs hsnd)
        have hTb := (hT [] (fun x hx => by simp at hx)).wf.bnd
        generalize (idleL (comeTo (foldR rws)) ks).filterMap id = rws' at hr10 hless hT hTb
        obtain ⟨bs, hb10, hbr⟩ := hr10
        obtain ⟨cs3, hc3, hcr⟩ := hrw.ex e310
        refine q_asg (v := .bl (!PyData.eqv (.list (rws'.map rowD)) (.list (rws.map rowD)))) (ev_op (ev_var rfl) (ev_var rfl) fun H11 e11 Q q => ⟨_, _, .lst (sq_of (e11 _ _ hb10)) (dps_ex e11 (dp_rows hbr)), .lst (sq_of (e11 _ _ hc3)) (dps_ex e11 (dp_rows hcr)), shaped_rows hTb, shaped_rows hwf.bnd, q H11 (Ex.refl _)⟩) fun H11 e11 => ?_
        refine s_asg (ev_var rfl) fun H12 e12 => nxM ⟨_, p3, rws', _, rfl, fresh_back (ex.trans e39) hp3, (ex.trans e310).trans (e11.trans e12), ⟨bs, e12 _ _ (e11 _ _ hb10), hbr.imp fun _ _ => RowAt.mono (tl_ex (e11.trans e12))⟩, hT, ?_⟩
        have h1 := hless.1
        cases he : PyData.eqv (.list (rws'.map rowD)) (.list (rws.map rowD)) with
        | true => simp; omega
        | false =>
          simp
          by_cases hw : wsum rws' = wsum rws
          · have := hless.2 hw
            subst this
            have hr := SeqAt.eqv_refl (.list (rws'.map rowD)) (by simp only [PyData.canLay0]; exact lay_rows hTb)
            rw [hr] at he; cases he
          · omega
    · subst hb
      exact s_ret (ev_var rfl) fun H5 e5 => rtM (k l H5 rws hlH (ex.trans (e4.trans e5)) hlean (hrw.ex (e4.trans e5)))
abbrev sLo : Stmt := top 31
abbrev nLo : List Str := ["one", "name", "parts", "kind", "is_out", "rows", "names", "named", "row"]
theorem scLo : FnScope nLo ["one"] (defScope sLo) := ⟨rfl, rfl, rfl, by decide +kernel, rfl, by decide +kernel, by decide +kernel⟩
/-- a def as the law makes it: its parts' kinds at pa, its names at na -/
structure MadeAt (H : Hp) (m : Addr) (vn vk vo : V) (pa ra na : Addr) (rows : List Row) : Prop where
  tup : H m = some (.tup [vn, .ref pa, vk, vo, .ref ra, .ref na])
  rows : RowsT H ra rows
def PartsAt (H : Hp) (pa : Addr) (np : Nat) : Prop := ∃ xs, H pa = some (.tup xs) ∧ xs.length = np ∧ ∀ x ∈ xs, ∃ s, x = .str s
/-- a name of the def -/
structure Nm5 where
  word : S
  sort : S
  cell : Int
  first : Int
  last : Int
def NamesAt (H : Hp) (na : Addr) (ns : List Nm5) : Prop := ∃ bs : List Addr, H na = some (.tup (bs.map V.ref)) ∧ All2 (fun b n => H b = some (.tup [.str n.word, .str n.sort, .int n.cell, .int n.first, .int n.last])) bs ns
def shownCs (ns : List Nm5) (np : Nat) : List Int := ns.map Nm5.cell ++ (List.range np).map Int.ofNat
def spLo : Sp := fun vs H Q _ => ∃ m vn vk vo pa ra na rows np ns, vs = [.ref m] ∧ MadeAt H m vn vk vo pa ra na rows ∧ PartsAt H pa np ∧ NamesAt H na ns ∧ np ≤ 100 ∧ ns.length ≤ 100 ∧ WF rows ∧ rows.length ≤ 10000 ∧
  ∀ m' H2 ra' rows', Ex H H2 → MadeAt H2 m' vn vk vo pa ra' na rows' → (∀ xs, (∀ x ∈ xs, x ∈ shownCs ns np) → Leaner xs rows rows') → Q (.ref m') H2
theorem ok_Lo {f f1 : Addr} {fd d1 : FuncData} (F : Fun K "lean_of" "lean_of" sLo f fd) (T : Txt K mg o1 o2 o3 o4 o5) (C_lean_rows : CalAt P w K mg base 4 "lean_rows" ["rows", "named"] spLr f1 d1) : FnOk P w K mg base CX0 5 f fd ["one"] spLo := by
  refine F.ok scLo (fun vs H Q E h => ?_) (fun cdv A outer s H vs Q E hr h => ?_)
  · obtain ⟨m, vn, vk, vo, pa, ra, na, rows, np, ns, rfl, _⟩ := h; rfl
  · obtain ⟨m, vn, vk, vo, pa, ra, na, rows, np, ns, rfl, hm, hp, hnm, hnp, hcs, wf, hn, k⟩ := h
    have nd := scLo.nd
    have hu := hu_of hr
    refine ⟨_, (pss_cons (ps_asg (pv 0) (pg_tup (n := 6) rfl (pgs_cons (pg_name (i := 1) nd rfl (Or.inl rfl)) (pgs_cons (pg_name (i := 2) nd rfl (Or.inl rfl)) (pgs_cons (pg_name (i := 3) nd rfl (Or.inl rfl)) (pgs_cons (pg_name (i := 4) nd rfl (Or.inl rfl)) (pgs_cons (pg_name (i := 5) nd rfl (Or.inl rfl)) (pgs_cons (pg_name (i := 6) nd rfl (Or.inl rfl)) pgs_nil))))))))
      (pss_cons (ps_set (i := 7) nd rfl (Or.inl rfl) (pe_op op_cat (pe_lc (own := [("row", 8)]) (g := gName 8) (by rfl) nd (pi_tup (pv 6)) (blkOk_by (own := [("row", 8)]) (N := nLo) (sc := defScope sLo) (by decide +kernel)) (fun _ _ _ _ _ => (pg_name (i := 8) nd rfl (Or.inl rfl))) (fun _ _ _ _ _ => pts_nil) (fun _ _ _ _ _ => (pe_ix (r := rIxT K) ix_tup (pv 8) pe_int (fun _ _ => rfl)))) (pe_listRg rfl (by rfl) T.list (prg_1 (by rfl) T.range (pe_callB call_len_seq (by rfl) T.len PySem.boot_len (pa_cons (pv 2) pa_nil))))))
      (pss_one (ps_ret (pe_tup (pa_cons (pv 1) (pa_cons (pv 2) (pa_cons (pv 3) (pa_cons (pv 4) (pa_cons (pe_tupleOf (by rfl) T.tuple (pe_call C_lean_rows.ok (hr.mono (by decide)) rfl C_lean_rows.g C_lean_rows.kp C_lean_rows.b .nil pass0 (pa_cons (pv 5) (pa_cons (pv 7) pa_nil)))) (pa_cons (pv 6) pa_nil))))))))))), ?_⟩
    dsimp only [cxK, cxKn, List.map]
    obtain ⟨ht, hrt⟩ := hm
    refine q_un6 rfl ht ?_
    obtain ⟨xs, hp1, hp2, hp3⟩ := id hp
    obtain ⟨bs, hn1, hn2'⟩ := id hnm
    have hn2 : All2 (fun b c => ∃ s1 s2 l1 l2, H b = some (.tup [.str s1, .str s2, .int c, .int l1, .int l2])) bs (ns.map Nm5.cell) := ⟨by rw [List.length_map]; exact hn2'.1, fun i b c h1 h2 => by
      rw [List.getElem?_map] at h2
      cases hni : ns[i]? with
      | none => rw [hni] at h2; cases h2
      | some n => rw [hni] at h2; cases h2; exact ⟨_, _, _, _, hn2'.2 i b n h1 hni⟩⟩
    unfold shownCs at k
    have hcs : (ns.map Nm5.cell).length ≤ 100 := by rw [List.length_map]; exact hcs
    generalize ns.map Nm5.cell = cs at hn2 k hcs
    have hA : EvL (tLc (iTup K (tVar 6)) (gName 8) tYes (tOp (rIxT K) (tVar 8) (tC (.int 2))) [8]) [some (.ref m), some vn, some (.ref pa), some vk, some vo, some (.ref ra), some (.ref na), none, none] H (cs.map V.int) := by
      have := el_lc (fun _ => true) (fun i => ((cs.map V.int)[i]?).getD .non) (ei_tup (K := K) (j := 8) (σ := [some (.ref m), some vn, some (.ref pa), some vk, some vo, some (.ref ra), some (.ref na), none, none]) (tl := tVar 6) (ev_var rfl) (st_of hn1)) (vs := [8]) (tt := tYes) (te := tOp (rIxT K) (tVar 8) (tC (.int 2))) (by rw [List.length_map, hn2.1]; omega) (fun i _ => rfl) (fun i H1 e1 hi => et_yes) (fun i H1 e1 hi _ => ?_)
      · rw [List.length_map, hn2.1] at this
        have e := given_all (xs := cs.map V.int)
        rw [List.length_map] at e
        rw [e] at this
        exact this
      · rw [List.length_map] at hi
        have hb : bs[i]? = some bs[i] := List.getElem?_eq_getElem hi
        obtain ⟨c, h1, s1, s2, l1, l2, h2⟩ := hn2.get hb
        show Ev _ (List.set _ 8 (bs.map V.ref)[i]?) _ _
        rw [List.getElem?_map, hb, List.getElem?_map, h1]
        exact ev_op (ev_var rfl) ev_c (rv_ixT (st_of (e1 _ _ h2)) (atI_nat (j := 2) rfl))
    have hB : ∀ {H1 : Hp}, Ex H H1 → EvL (tLstRg (tRg1 (tCB (fun xs H Q => ∃ p ys, xs = [V.ref p] ∧ (SqL K H p ys ∨ SqT K H p ys) ∧ Q (V.int (ys.length : Int)) H) (tCons (tVar 2) tNil)))) [some (.ref m), some vn, some (.ref pa), some vk, some vo, some (.ref ra), some (.ref na), none, none] H1 (((List.range np).map Int.ofNat).map V.int) := fun e1 H2 e2 Q q =>
      ⟨_, rfl, pa, xs, rfl, .inr (st_of (e2 _ _ (e1 _ _ hp1))), _, rfl, RgOk.of_le (by omega) (by omega) (by omega) (by omega), fun l hl => by
        have : rgV 0 (xs.length : Int) = ((List.range np).map Int.ofNat).map V.int := by
          rw [hp2]; unfold rgV; rw [List.map_map, show ((np : Int) - 0).toNat = np by omega]; exact List.map_congr_left fun i _ => congrArg V.int (Int.zero_add _)
        rw [this]
        exact q l _ hl (Ex.new hl) upd_same⟩
    refine q_asgL (el_catN hA (hB (Ex.refl H)) (by rw [List.length_map, List.length_map, List.length_map, List.length_range]; omega)) fun l H1 hl e1 h1 => ?_
    refine s_retR (r_consE (ev_var rfl) fun H2 e2 => r_consE (ev_var rfl) fun H3 e3 => r_consE (ev_var rfl) fun H4 e4 => r_consE (ev_var rfl) fun H5 e5 => r_cons ?_)
    have e15 := e1.trans (e2.trans (e3.trans (e4.trans e5)))
    refine r_call (r_ea (ea_cons (ev_var rfl) (ea_cons (ev_var rfl) ea_nil)) fun H6 e6 => ?_)
    have e16 := e15.trans e6
    refine ⟨ra, l, rows, cs ++ (List.range np).map Int.ofNat, rfl, hrt.mono (tl_ex e16), ?_, by rw [List.length_append, List.length_map, List.length_range]; omega, wf, hn, fun p H7 rows' hp7 e7 hln hr7 => ?_⟩
    · rw [List.map_append]; exact (e2.trans (e3.trans (e4.trans (e5.trans e6)))) _ _ h1
    obtain ⟨ps, hps, hps2⟩ := hr7
    refine .inl ⟨p, _, rfl, sq_of hps, fun q hq => ?_⟩
    refine r_consE (ev_var rfl) fun H8 e8 => ?_
    refine ⟨Nat.le_of_ble_eq_true rfl, fun t ht9 => rtM ?_⟩
    have eQ : Ex H7 (upd H8 t (.tup [vn, .ref pa, vk, vo, .ref q, .ref na])) := ((Ex.new hq).trans e8).trans (Ex.new ht9)
    refine k t _ q rows' ((e16.trans e7).trans eQ) ⟨upd_same, ps, ?_, hps2.imp fun _ _ => RowAt.mono (tl_ex eQ)⟩ hln
    exact (e8.trans (Ex.new ht9)) _ _ upd_same
end
end K51

/-! Walks 8: the machine's handed_on. -/
namespace K51
open PySem L2 Evl
section
variable {P : Program} {w : World} {K : PySem.W.Frag} {mg : Str → Option Value} {base : Heap} {o1 o2 o3 o4 o5 : Addr}
abbrev sHo : Stmt := top 10
abbrev nHo : List Str := ["rows", "named", "wanted", "found", "number", "cell", "some"]
theorem scHo : FnScope nHo ["rows", "named"] (defScope sHo) := ⟨rfl, rfl, rfl, by decide +kernel, rfl, by decide +kernel, by decide +kernel⟩
def spHo : Sp := fun vs H Q _ => ∃ a d rows, ∃ nk : List Int, vs = [.ref a, .ref d] ∧ RowsT H a rows ∧ H d = some (.dK (mkD nk)) ∧ WF rows ∧ rows.length ≤ 10000 ∧
  ∀ p H2 ks, ∀ lft : List Bool, H p = none → Ex H H2 → Sound rows [] ks → lft.length = rows.length → LeftOk rows nk ks (fun i => (lft[i]?).getD false) → H2 p = some (.lst (lft.map V.bl)) → Q (.ref p) H2
theorem shaped_ints {xs : List Int} : SeqAt.shaped (.list (xs.map PyData.int)) = true := by
  show (PyData.canLay0 (.list (xs.map PyData.int)) && decide (PyData.depth (.list (xs.map PyData.int)) ≤ 64)) = true
  rw [Bool.and_eq_true]
  refine ⟨by simp only [PyData.canLay0]; exact lay_ints, decide_eq_true ?_⟩
  simp only [PyData.depth, deep_ints]; omega
theorem ev_count {σ : L2.St} {H : Hp} {ta tb : TE} {p : Addr} {ns : List Int} {c : Int} (ha : Ev ta σ H (.ref p)) (hp : H p = some (.lst (ns.map V.int))) (hb : Ev tb σ H (.int c)) : Ev (tBM K "list" (rCntI K) ta (tCons tb tNil)) σ H (.int ((ns.count c : Nat) : Int)) := fun H1 e Q q =>
  ha H1 e _ fun H2 e2 => ⟨.inl ⟨rfl, _, sq_of ((e.trans e2) _ _ hp)⟩, hb H2 (e.trans e2) _ fun H3 e3 => ⟨p, ns, c, rfl, rfl, sq_of (((e.trans e2).trans e3) _ _ hp), q H3 (e2.trans e3)⟩⟩
theorem ok_Ho {f f1 f2 f3 : Addr} {fd d1 d2 d3 : FuncData} (F : Fun K "handed_on" "handed_on" sHo f fd) (T : Txt K mg o1 o2 o3 o4 o5) (C_wanted_behind_machine : CalAt P w K mg base 2 "wanted_behind_machine" ["rows"] spWm f1 d1) (C_laid_by_machine : CalAt P w K mg base 1 "laid_by_machine" ["row"] spLB f2 d2) (C_read_by_machine : CalAt P w K mg base 1 "read_by_machine" ["row"] spRBm f3 d3) : FnOk P w K mg base CX0 3 f fd ["rows", "named"] spHo := by
  refine F.ok scHo (fun vs H Q E h => ?_) (fun cdv A outer s H vs Q E hr h => ?_)
  · obtain ⟨a, d, rows, nk, rfl, _⟩ := h; rfl
  · obtain ⟨a, nd', rows, nk, rfl, ⟨as, hl, hrows⟩, hnd, wf, hn, k⟩ := h
    have nd := scHo.nd
    have hu := hu_of hr
    refine ⟨_, (pss_cons (ps_set (i := 2) nd rfl (Or.inl rfl) (pe_call C_wanted_behind_machine.ok (hr.mono (by decide)) rfl C_wanted_behind_machine.g C_wanted_behind_machine.kp C_wanted_behind_machine.b .nil pass0 (pa_cons (pv 0) pa_nil)))
      (pss_cons (ps_set (i := 3) nd rfl (Or.inl rfl) (pe_op op_rep (pe_lst (pa_cons pe_bl pa_nil)) (pe_callB call_len_seq (by rfl) T.len PySem.boot_len (pa_cons (pv 0) pa_nil))))
      (pss_cons (ps_for PassesOwn.never rfl (pi_range1 rfl T.range (pa_cons (pe_op op_sub (pe_callB call_len_seq (by rfl) T.len PySem.boot_len (pa_cons (pv 0) pa_nil)) pe_int) pa_nil)) (pg_name (i := 4) nd rfl (Or.inl rfl)) (pss_cons (ps_set (i := 5) nd rfl (Or.inl rfl) (pe_call C_laid_by_machine.ok (hr.mono (by decide)) rfl C_laid_by_machine.g C_laid_by_machine.kp C_laid_by_machine.b .nil pass0 (pa_cons (pe_ix ix_tup (pv 0) (pv 4) (fun _ _ => rfl)) pa_nil)))
      (pss_cons (ps_set (i := 6) nd rfl (Or.inl rfl) (pe_call C_read_by_machine.ok (hr.mono (by decide)) rfl C_read_by_machine.g C_read_by_machine.kp C_read_by_machine.b .nil pass0 (pa_cons (pe_ix ix_tup (pv 0) (pe_op op_add (pv 4) pe_int) (fun _ _ => rfl)) pa_nil)))
      (pss_one (ps_if (pw_and (pt_cmpR op_notN (pv 5) pe_non (nomark _)) (pw_and (pt_cmp (pc_dnotin hu (pv 5) (pv 1))) (pw_and (pt_cmpR (op_eqD hr.units) (pe_slice sl_list (pv 6) po_none (po_some pe_int)) (pe_lst (pa_cons (pv 5) pa_nil)) (nomark _)) (pw_and1 (pt_cmpR op_eq (pe_bm PySem.F.plainAttrs_list PySem.F.slot_list_count PySem.F.type_list_count mt_lcount (pv 6) (pa_cons (pv 5) pa_nil)) pe_int (nomark _)))))).pt (pss_one (ps_asg (pe_or (pe_cmp (pc_dnotin hu (pv 5) (pe_ix ix_list (pv 2) (pe_op op_add (pv 4) pe_int) (fun _ _ => rfl)))) (pe_one (pe_cmpR op_eq (pv 5) (pe_call C_laid_by_machine.ok (hr.mono (by decide)) rfl C_laid_by_machine.g C_laid_by_machine.kp C_laid_by_machine.b .nil pass0 (pa_cons (pe_ix ix_tup (pv 0) (pe_op op_add (pv 4) pe_int) (fun _ _ => rfl)) pa_nil)) (nomark _)))) (pg_sub (pv 3) (pv 4) set_list))) pss_nil)))))
      (pss_one (ps_ret (pv 3)))))), ?_⟩
    dsimp only [cxK, cxKn, List.map]
    have row : ∀ i, i < rows.length → ∃ r b, rows[i]? = some r ∧ (as.map V.ref)[i]? = some (.ref b) ∧ RowAt H b r := fun i hi => by
      have h2 : rows[i]? = some rows[i] := List.getElem?_eq_getElem hi
      obtain ⟨b, h1, h3⟩ := hrows.get' h2
      exact ⟨_, b, h2, by rw [List.getElem?_map, h1]; rfl, h3⟩
    have hlen := hrows.1
    refine q_asgR (r_call (r_ea (ea_cons (ev_var rfl) ea_nil) fun H1 e1 => ?_))
    refine ⟨a, rows, rfl, RowsT.mono (tl_ex e1) ⟨as, hl, hrows⟩, wf, hn, fun wp H2 ks hwp e2 hsets hsnd => ?_⟩
    have e02 := e1.trans e2
    have hkl := hsnd.1
    have hrep : EvL (tOp rRep (tLst (tCons (tC (V.bl false)) tNil)) (tCB (fun xs H Q => ∃ p ys, xs = [V.ref p] ∧ (SqL K H p ys ∨ SqT K H p ys) ∧ Q (V.int (ys.length : Int)) H) (tCons (tVar 0) tNil))) [some (.ref a), some (.ref nd'), some (.ref wp), none, none, none, none] H2 ((List.replicate rows.length false).map V.bl) := fun H3 e3 Q q =>
      el_lst (ea_cons ev_c ea_nil) (Nat.le_of_ble_eq_true rfl) H3 (Ex.refl _) _ fun p H4 hp e4 h4 => ev_lenT (K := K) (xs := as.map V.ref) (ev_var rfl) (st_of ((e02.trans (e3.trans e4)) _ _ hl)) H4 (Ex.refl _) _ fun H5 e5 => by
        rw [List.length_map, hlen]
        refine ⟨p, (rows.length : Int), _, rfl, rfl, e5 _ _ h4, by omega, by omega, by
          rw [show ((rows.length : Int)).toNat = rows.length by omega]; exact sz_of (by simp; omega), fun l hl' => ?_⟩
        have : (List.replicate ((rows.length : Int)).toNat [V.bl false]).flatten = (List.replicate rows.length false).map V.bl := by
          rw [show ((rows.length : Int)).toNat = rows.length by omega]; simp
        rw [this]
        exact q l _ (fresh_back (e4.trans e5) hl') ((e4.trans e5).trans (Ex.new hl')) upd_same
    refine q_asgL hrep fun l H3 hl3 e3 h3 => ?_
    refine q_forR1 (n := (rows.length : Int) - 1) ?_ ?_ (fun i σ' H' => ∃ u v z, σ' = [some (.ref a), some (.ref nd'), some (.ref wp), some (.ref l), u, v, z] ∧ Ex H2 H' ∧ ∃ lft : List Bool, lft.length = rows.length ∧ H' l = some (.lst (lft.map V.bl)) ∧ LeftOk rows nk ks fun i => (lft[i]?).getD false)
      (fun H4 e4 => ⟨none, none, none, rfl, e3.trans e4, List.replicate rows.length false, by simp, e4 _ _ h3, ⟨fun i hi => by
        by_cases h : i < rows.length
        · rw [List.getElem?_replicate, if_pos h] at hi; cases hi
        · rw [List.getElem?_replicate, if_neg h] at hi; cases hi⟩⟩) (fun i σ' H4 hi p => ?_) (fun σ' H4 p => ?_)
    · have := ea_cons (ev_op (r := rI0 fun i j => .int (i - j)) (ev_lenT (K := K) (σ := [some (.ref a), some (.ref nd'), some (.ref wp), some (.ref l), none, none, none]) (ta := tVar 0) (ev_var rfl) (st_of (e3 _ _ (e02 _ _ hl)))) (ev_c (v := .int 1)) rv_I0) ea_nil
      rw [List.length_map, hlen] at this
      exact this
    · obtain ⟨lr, hlr, _⟩ := wf.last
      have : 0 < rows.length := List.length_pos_of_mem (List.mem_of_getLast? hlr)
      omega
    · obtain ⟨u, v, z, rfl, ex, lft, hll, hls, hok⟩ := p
      obtain ⟨r, b, r1, r2, r3⟩ := row i (by omega)
      obtain ⟨r', b', s1, s2, s3⟩ := row (i + 1) (by omega)
      refine q_asg (ev_laid (r := r) (ev_op (ev_var rfl) (ev_var rfl) (rv_ixT (st_of ((e02.trans ex) _ _ hl)) (atI_nat r2))) (r3.mono (tl_ex (e02.trans ex)))) fun H5 e5 => ?_
      have ex5 := ex.trans e5
      have ix1 : ∀ {H7 : Hp} {v z : Option V}, Ex H2 H7 → Ev (tOp (rIxT K) (tVar 0) (tOp (rI0 fun i j => .int (i + j)) (tVar 4) (tC (.int 1)))) [some (.ref a), some (.ref nd'), some (.ref wp), some (.ref l), some (.int (i : Nat)), v, z] H7 (.ref b') := fun e7 =>
        ev_op (ev_var rfl) (ev_op (ev_var rfl) ev_c rv_I0) (rv_ixT (st_of ((e02.trans e7) _ _ hl)) (by rw [show ((i : Int) + 1) = ((i + 1 : Nat) : Int) by omega]; exact atI_nat s2))
      refine q_asgL (el_readM (r := r') (ix1 ex5) (s3.mono (tl_ex (e02.trans ex5)))) fun pr H6 hpr e6 h6 => ?_
      have e26 := ex5.trans e6
      have same : ∀ H7, Ex H6 H7 → (∃ u v z, [some (.ref a), some (.ref nd'), some (.ref wp), some (.ref l), some (.int (i : Nat)), some (oV r.lays), some (.ref pr)] = [some (.ref a), some (.ref nd'), some (.ref wp), some (.ref l), u, v, z] ∧ Ex H2 H7 ∧ ∃ lft : List Bool, lft.length = rows.length ∧ H7 l = some (.lst (lft.map V.bl)) ∧ LeftOk rows nk ks fun i => (lft[i]?).getD false) := fun H7 e7 =>
        ⟨_, _, _, rfl, e26.trans e7, lft, hll, e7 _ _ (e6 _ _ (e5 _ _ hls)), hok⟩
      rcases Option.eq_none_or_eq_some r.lays with hlay | ⟨x, hlay⟩
      · refine s_when (b := false) (et_is (et_and (b := false) (et_notN (ev_var rfl)) fun z => by simp [hlay, oV] at z) (by simp)) (fun z => by cases z) (fun _ H7 e7 => nxM (same H7 e7))
      · have hx5 : ∀ {H7 : Hp}, Ev (tVar 5) [some (.ref a), some (.ref nd'), some (.ref wp), some (.ref l), some (.int (i : Nat)), some (oV r.lays), some (.ref pr)] H7 (.int x) := ev_is (ev_var rfl) (by rw [hlay]; rfl)
        have t2 : Ev (tDNotIn (tVar 5) (tVar 1)) [some (.ref a), some (.ref nd'), some (.ref wp), some (.ref l), some (.int (i : Nat)), some (oV r.lays), some (.ref pr)] H6 (.bl (decide (x ∉ nk))) :=
          ev_is (ev_dnotin (k := Sum.inl x) ((e02.trans e26) _ _ hnd) hx5 (ev_var rfl)) (by rw [valV_mkD]; by_cases h : x ∈ nk <;> simp [h])
        have t3 : Ev (tOp (rEqD K) (tSl (rSlL K) (tVar 6) tNoPart (tPart (tC (.int 1)))) (tLst (tCons (tVar 5) tNil))) [some (.ref a), some (.ref nd'), some (.ref wp), some (.ref l), some (.int (i : Nat)), some (oV r.lays), some (.ref pr)] H6 (.bl (decide (r'.reads.take 1 = [x]))) := by
          refine ev_is (ev_opLL (xs := (r'.reads.take 1).map V.int) (ys := [.int x]) (z := .bl (PyData.eqv (.list ((r'.reads.take 1).map PyData.int)) (.list [.int x]))) ?_ (el_lst (ea_cons hx5 ea_nil) (Nat.le_of_ble_eq_true rfl)) fun p q H7 hp hq _ H8 e8 Q q' => ?_) ?_
          · have := el_sl (K := K) (σ := [some (.ref a), some (.ref nd'), some (.ref wp), some (.ref l), some (.int (i : Nat)), some (oV r.lays), some (.ref pr)]) (H := H6) (te := tVar 6) (tl := tNoPart) (th := tPart (tC (.int 1))) (ev_var rfl) eo_none (eo_some ev_c) (sq_of h6)
            rw [show (1 : Int) = ((1 : Nat) : Int) from rfl, cut_take, ← List.map_take] at this
            exact this
          · refine ⟨_, _, .lst (sq_of (e8 _ _ hp)) dp_ints, .lst (sq_of (e8 _ _ hq)) (.cons (.int x) .nil), shaped_ints, shaped_ints (xs := [x]), q' H8 (Ex.refl _)⟩
          · cases hrd : r'.reads with
            | nil => simp [PyData.eqv, PyData.eqvAll]
            | cons y ys => by_cases h : y = x <;> simp [PyData.eqv, PyData.eqvAll, h]
        have t4 : Ev (tOp rEq (tBM K "list" (rCntI K) (tVar 6) (tCons (tVar 5) tNil)) (tC (.int 1))) [some (.ref a), some (.ref nd'), some (.ref wp), some (.ref l), some (.int (i : Nat)), some (oV r.lays), some (.ref pr)] H6 (.bl (decide (r'.reads.count x = 1))) := by
          refine ev_is (ev_op (ev_count (ns := r'.reads) (ev_var rfl) h6 hx5) ev_c (rv_eq rfl)) ?_
          by_cases h : r'.reads.count x = 1
          · simp [h]
          · have h2 : ¬ ((r'.reads.count x : Nat) : Int) = 1 := by omega
            simp [h, h2]
        have wget := hsets.get (i := i + 1) (by omega)
        obtain ⟨ds, dw, g1, g2, g3, g4⟩ := wget
        refine s_when (b := decide (x ∉ nk) && (decide (r'.reads.take 1 = [x]) && decide (r'.reads.count x = 1))) (et_is (et_and (et_notN hx5) fun _ => et_and (et_B t2) fun _ => et_and (et_test t3) fun _ => et_test t4) (by simp)) (fun hb H7 e7 => ?_) (fun _ H7 e7 => nxM (same H7 e7))
        simp only [Bool.and_eq_true, decide_eq_true_eq] at hb
        obtain ⟨b1, b2, b3⟩ := hb
        have e27 := e26.trans e7
        have vv : Ev (tOrV (tDNotIn (tVar 5) (tOp (rIxL K) (tVar 2) (tOp (rI0 fun i j => V.int (i + j)) (tVar 4) (tC (V.int 1))))) (tOp rEq (tVar 5) (tCall spLB [] E0 (tCons (tOp (rIxT K) (tVar 0) (tOp (rI0 fun i j => V.int (i + j)) (tVar 4) (tC (V.int 1)))) tNil)))) [some (.ref a), some (.ref nd'), some (.ref wp), some (.ref l), some (.int (i : Nat)), some (oV r.lays), some (.ref pr)] H7 (.bl (decide (x ∉ at' ks (i + 1)) || decide (some x = r'.lays))) := by
          refine ev_orV (ev_is (ev_dnotin (k := Sum.inl x) (e27 _ _ g4) hx5 (ev_op (ev_var rfl) (ev_op (ev_var rfl) ev_c rv_I0) (rv_ixL (sq_of (e27 _ _ g1)) (by rw [show ((i : Int) + 1) = ((i + 1 : Nat) : Int) by omega]; exact atI_nat g3)))) (by rw [valV_mkD]; by_cases h : x ∈ at' ks (i + 1) <;> simp [h])) fun _ => ?_
          refine ev_is (ev_op hx5 (ev_laid (ix1 e27) (s3.mono (tl_ex (e02.trans e27)))) (rv_eq (scal_oV _ _))) ?_
          rw [int_oV]
        refine s_setL (j := i) (e7 _ _ (e6 _ _ (e5 _ _ hls))) vv (ev_var rfl) (ev_var rfl) (by rw [List.length_map]; omega) fun H8 e8 => nxM ⟨_, _, _, rfl, Ex.mut (e27.trans e8) hl3, lft.set i (decide (x ∉ at' ks (i + 1)) || decide (some x = r'.lays)), by simp [hll], by rw [upd_same, List.map_set], ⟨fun i' hi' => ?_⟩⟩
        by_cases ei : i' = i
        · subst ei
          rw [List.getElem?_set_self (by omega)] at hi'
          have hi' : (decide (x ∉ at' ks (i' + 1)) || decide (some x = r'.lays)) = true := hi'
          obtain ⟨kk, hk⟩ : ∃ kk, ks[i' + 1]? = some kk := ⟨_, List.getElem?_eq_getElem (by omega)⟩
          have hat : at' ks (i' + 1) = kk := by unfold at'; rw [hk]; rfl
          rw [hat] at hi'
          obtain ⟨rest, hrd⟩ : ∃ rest, r'.reads = x :: rest := by
            cases hrd : r'.reads with
            | nil => rw [hrd] at b2; simp at b2
            | cons y ys => rw [hrd] at b2; have : y = x := by simpa using b2
                           subst this; exact ⟨ys, rfl⟩
          rw [hrd, List.count_cons_self] at b3
          exact ⟨r, r', x, rest, kk, r1, s1, hlay, b1, hrd, fun hm => by have := List.count_pos_iff.mpr hm; omega, hk, by
            simp only [Bool.or_eq_true, decide_eq_true_eq] at hi'
            exact hi'.imp id Eq.symm⟩
        · rw [List.getElem?_set_ne (Ne.symm ei)] at hi'
          exact hok.ok i' hi'
    · obtain ⟨u, v, z, rfl, ex, lft, hll, hls, hok⟩ := p
      exact s_ret (ev_var rfl) fun H5 e5 => rtM (k l H5 ks lft (fresh_back e02 hl3) ((e02.trans ex).trans e5) hsnd hll hok (e5 _ _ hls))
end
end K51

/-! Walks 9: the maker of machine rows. -/
namespace K51
open PySem L2 Evl
/-! ### machine rows as values -/
inductive MTag where
  | row | nothing | push | load | store | fetch | lay | two (o : Op) | jump | «unless» | call | give | say
  deriving DecidableEq
def MTag.word : MTag → S
  | .row => "row" | .nothing => "nothing" | .push => "push" | .load => "load" | .store => "store" | .fetch => "fetch" | .lay => "lay" | .two o => o.word
  | .jump => "jump" | .unless => "unless" | .call => "call" | .give => "give" | .say => "say"
def MOp.tag : MOp → MTag
  | .row => .row | .nothing => .nothing | .push _ => .push | .load _ => .load | .store _ => .store | .fetch _ _ => .fetch | .lay _ => .lay | .two o => .two o
  | .jump _ => .jump | .unless _ => .unless | .call _ _ _ => .call | .give _ => .give | .say _ => .say
def MTag.all' (p : MTag → Bool) : Bool := p .row && p .nothing && p .push && p .load && p .store && p .fetch && p .lay && p .jump && p .unless && p .call && p .give && p .say && p (.two .add) && p (.two .take) && p (.two .times) && p (.two .over) && p (.two .rest) && p (.two .less) && p (.two .same)
theorem MTag.all {p : MTag → Bool} (h : MTag.all' p = true) (t : MTag) : p t = true := by
  unfold MTag.all' at h
  simp only [Bool.and_eq_true] at h
  obtain ⟨⟨⟨⟨⟨⟨⟨⟨⟨⟨⟨⟨⟨⟨⟨⟨⟨⟨h1, h2⟩, h3⟩, h4⟩, h5⟩, h6⟩, h7⟩, h8⟩, h9⟩, h10⟩, h11⟩, h12⟩, h13⟩, h14⟩, h15⟩, h16⟩, h17⟩, h18⟩, h19⟩ := h
  cases t <;> first | assumption | (rename_i o; cases o <;> assumption)
def MOp.mid : MOp → List V
  | .row => [] | .nothing => []
  | .push n => [.int n] | .load c => [.int c] | .store c => [.int c]
  | .fetch f n => [.str f, .str n] | .lay n => [.str n] | .two _ => []
  | .jump t => [.int t] | .unless t => [.int t]
  | .call f n m => [.str f, .str n, .int (m : Nat)]
  | .give b => [.int (if b = true then 1 else 0)]
  | .say kd => [.str kd]
def MOp.vals (op : MOp) : List V := .str op.tag.word :: op.mid
def MRow.vals (m : MRow) : List V := m.op.vals ++ [.int (m.k : Nat)]
def MRowsAt (H : Hp) (l : Addr) (ms : List MRow) : Prop := ∃ as : List Addr, H l = some (.lst (as.map V.ref)) ∧ All2 (fun a m => H a = some (.tup m.vals)) as ms
theorem MRowsAt.ex {H H' : Hp} {l : Addr} {ms : List MRow} (e : Ex H H') (h : MRowsAt H l ms) : MRowsAt H' l ms :=
  let ⟨as, h1, h2⟩ := h
  ⟨as, e _ _ h1, h2.imp fun _ _ q => e _ _ q⟩

/-! ### the instance -/
def mkF (ra la fa sa : Addr) : List (Str × V) := [("rows", .ref ra), ("left", .ref la), ("found", .ref fa), ("spots", .ref sa)]
theorem lk_here {k : Str} {v : V} {r : List (Str × V)} : List.lookup k ((k, v) :: r) = some v := by
  have e : (k == k) = true := beq_self_eq_true k
  simp only [List.lookup, e]
theorem lk_skip {k k' : Str} {v : V} {r : List (Str × V)} (h : (k == k') = false) : List.lookup k ((k', v) :: r) = List.lookup k r := by simp only [List.lookup, h]
theorem lk_rows {ra la fa sa : Addr} : (mkF ra la fa sa).lookup ("rows" : Str) = some (.ref ra) := lk_here
theorem lk_left {ra la fa sa : Addr} : (mkF ra la fa sa).lookup ("left" : Str) = some (.ref la) := (lk_skip (by decide +kernel)).trans lk_here
theorem lk_found {ra la fa sa : Addr} : (mkF ra la fa sa).lookup ("found" : Str) = some (.ref fa) := (lk_skip (by decide +kernel)).trans ((lk_skip (by decide +kernel)).trans lk_here)
theorem lk_spots {ra la fa sa : Addr} : (mkF ra la fa sa).lookup ("spots" : Str) = some (.ref sa) := (lk_skip (by decide +kernel)).trans ((lk_skip (by decide +kernel)).trans ((lk_skip (by decide +kernel)).trans lk_here))
theorem lk_no {ra la fa sa : Addr} {m : Str} (h : ((m == "rows") || (m == "left") || (m == "found") || (m == "spots")) = false) : (mkF ra la fa sa).lookup m = none := by
  simp only [Bool.or_eq_false_iff] at h
  obtain ⟨⟨⟨h1, h2⟩, h3⟩, h4⟩ := h
  exact (lk_skip h1).trans ((lk_skip h2).trans ((lk_skip h3).trans ((lk_skip h4).trans rfl)))
structure MkT (K : PySem.W.Frag) (mg : Str → Option Value) (C fi : Addr) : Prop where
  cl : Cls K C
  nr : NoAttr K C "rows"
  nl : NoAttr K C "left"
  nf : NoAttr K C "found"
  ns : NoAttr K C "spots"
  g : mg "Maker" = some (.ref C)
  make : Mk K C fi
structure MethAt (P : Program) (w : World) (K : PySem.W.Frag) (mg : Str → Option Value) (base : Heap) (k : Nat) (C : Addr) (m : Str) (ps : List Str) (sp : Sp) (f : Addr) (fd : FuncData) : Prop where
  ok : FnOk P w K mg base CX0 k f fd ps sp
  m : Meth K C m f
  b : Binds K fd ps []
structure MSt (C : Addr) (H : Hp) (x ra la fa sa : Addr) (rows : List Row) (lft : List Bool) (ms : List MRow) (kvs : List (Key × V)) : Prop where
  ins : ∃ dx, H x = some (.ins C dx (mkF ra la fa sa))
  rows : RowsT H ra rows
  left : H la = some (.lst (lft.map V.bl))
  found : MRowsAt H fa ms
  spots : H sa = some (.dK kvs)
  ne : la ≠ fa
/-- all stays but the rows made and the spots -/
def MGo (fa sa : Addr) (H H' : Hp) : Prop := ∀ b o, H b = some o → b ≠ fa → b ≠ sa → H' b = some o
theorem MGo.ex {fa sa : Addr} {H H' : Hp} (e : Ex H H') : MGo fa sa H H' := fun b o h _ _ => e b o h
theorem MGo.trans {fa sa : Addr} {H H1 H2 : Hp} (a : MGo fa sa H H1) (b : MGo fa sa H1 H2) : MGo fa sa H H2 := fun x o h h1 h2 => b x o (a x o h h1 h2) h1 h2
section
variable {C : Addr} {H H' : Hp} {x ra la fa sa : Addr} {rows : List Row} {lft : List Bool} {ms : List MRow} {kvs : List (Key × V)}
theorem MSt.ex (e : Ex H H') (h : MSt C H x ra la fa sa rows lft ms kvs) : MSt C H' x ra la fa sa rows lft ms kvs :=
  ⟨let ⟨dx, h1⟩ := h.ins; ⟨dx, e _ _ h1⟩, h.rows.mono (tl_ex e), e _ _ h.left, h.found.ex e, e _ _ h.spots, h.ne⟩
theorem MSt.fs (h : MSt C H x ra la fa sa rows lft ms kvs) : fa ≠ sa := fun z => by
  obtain ⟨as, h1, _⟩ := h.found
  rw [z, h.spots] at h1; cases h1
theorem MSt.tl (h : MSt C H x ra la fa sa rows lft ms kvs) (g : MGo fa sa H H') : TL H H' := fun a xs e => by
  obtain ⟨as, h1, _⟩ := h.found
  exact g a _ e (fun z => by rw [z, h1] at e; cases e) (fun z => by rw [z, h.spots] at e; cases e)
/-- a machine row more -/
theorem MSt.app {p : Addr} {m : MRow} {as : List Addr} (h : MSt C H x ra la fa sa rows lft ms kvs) (hf : H fa = some (.lst (as.map V.ref))) (hp : H p = some (.tup m.vals)) : MSt C (upd H fa (.lst (as.map V.ref ++ [.ref p]))) x ra la fa sa rows lft (ms ++ [m]) kvs ∧ MGo fa sa H (upd H fa (.lst (as.map V.ref ++ [.ref p]))) := by
  have hT : TL H (upd H fa (.lst (as.map V.ref ++ [.ref p]))) := TL.mut hf fun _ z => by cases z
  obtain ⟨dx, hi⟩ := h.ins
  obtain ⟨bs, hb, hb2⟩ := h.found
  have eb : bs = as := by
    rw [hf] at hb
    exact ((List.map_inj_right (fun _ _ z => V.ref.inj z)).mp (HO.lst.inj (Option.some.inj hb))).symm
  subst eb
  refine ⟨⟨⟨dx, by rw [upd_ne (fun z => by rw [z, hf] at hi; cases hi)]; exact hi⟩, h.rows.mono hT, by rw [upd_ne h.ne]; exact h.left, ⟨bs ++ [p], by rw [upd_same]; simp, All2.snoc (hb2.imp fun _ _ q => hT _ _ q) (hT _ _ hp)⟩, by rw [upd_ne (Ne.symm h.fs)]; exact h.spots, h.ne⟩, fun b o e h1 _ => by rw [upd_ne h1]; exact e⟩
theorem MSt.put {kvs' : List (Key × V)} (h : MSt C H x ra la fa sa rows lft ms kvs) : MSt C (upd H sa (.dK kvs')) x ra la fa sa rows lft ms kvs' ∧ MGo fa sa H (upd H sa (.dK kvs')) := by
  have hT : TL H (upd H sa (.dK kvs')) := TL.mut h.spots fun _ z => by cases z
  obtain ⟨dx, hi⟩ := h.ins
  obtain ⟨bs, hb, hb2⟩ := h.found
  have hsp := h.spots
  refine ⟨⟨⟨dx, by rw [upd_ne (fun z => by rw [z, hsp] at hi; cases hi)]; exact hi⟩, h.rows.mono hT, by rw [upd_ne (fun z => by have hl := h.left; rw [z, hsp] at hl; cases hl)]; exact h.left, ⟨bs, by rw [upd_ne h.fs]; exact hb, hb2.imp fun _ _ q => hT _ _ q⟩, upd_same, h.ne⟩, fun b o e _ h1 => by rw [upd_ne h1]; exact e⟩
theorem ev_fld {K : PySem.W.Frag} {σ : L2.St} {te : TE} {f : Str} {v : V} {dx : Addr} {fs : List (Str × V)} (cl : Cls K C) (na : NoAttr K C f) (hx : H x = some (.ins C dx fs)) (h : Ev te σ H (.ref x)) (hl : fs.lookup f = some v) : Ev (tFld K te f) σ H v := fun H1 e Q q =>
  h H1 e _ fun H2 e2 => ⟨x, C, dx, fs, v, rfl, (e.trans e2) _ _ hx, cl, na, hl, q H2 e2⟩
end

section
variable {P : Program} {w : World} {K : PySem.W.Frag} {mg : Str → Option Value} {base : Heap} {o1 o2 o3 o4 o5 C fi : Addr}
/-! ### put -/
abbrev sPut : Stmt := inClass (top 11) 1
abbrev nPut : List Str := ["self", "number", "row"]
theorem scPut : FnScope nPut ["self", "number", "row"] (defScope sPut) := ⟨rfl, rfl, rfl, by decide +kernel, rfl, by decide +kernel, by decide +kernel⟩
def spPut (C : Addr) : Sp := fun vs H Q _ => ∃ x dx ra la fa sa q rv, ∃ (n : Int) (as : List Addr), vs = [.ref x, .int n, .ref q] ∧ H x = some (.ins C dx (mkF ra la fa sa)) ∧ H fa = some (.lst (as.map V.ref)) ∧ as.length < 100000 ∧ H q = some (.tup rv) ∧ rv ≠ [] ∧ rv.length ≤ 100 ∧
  ∀ H1 p, H p = none → Ex H H1 → H1 p = some (.tup (rv ++ [.int n])) → Q .non (upd H1 fa (.lst (as.map V.ref ++ [.ref p])))
theorem ok_Put {f : Addr} {fd : FuncData} (F : Fun K "put" "Maker.put" sPut f fd) (M : MkT K mg C fi) : FnOk P w K mg base CX0 1 f fd ["self", "number", "row"] (spPut C) := by
  refine F.ok scPut (fun vs H Q E h => ?_) (fun cdv A outer s H vs Q E hr h => ?_)
  · obtain ⟨x, dx, ra, la, fa, sa, q, rv, n, as, rfl, _⟩ := h; rfl
  · obtain ⟨x, dx, ra, la, fa, sa, q, rv, n, as, rfl, hx, hf, hz, hq, hne, hrz, k⟩ := h
    have nd := scPut.nd
    refine ⟨_, (pss_one (ps_expr (pe_bm PySem.F.plainAttrs_list PySem.F.slot_list_append PySem.F.type_list_append mt_append (pe_fld (pv 0) rfl) (pa_cons (pe_op op_catA (pv 2) (pe_tup (pa_cons (pv 1) pa_nil))) pa_nil)))), ?_⟩
    dsimp only [cxK, cxKn, List.map]
    have hcat : EvU (tOp (rCatA K) (tVar 2) (tTup (tCons (tVar 1) tNil))) [some (.ref x), some (.int n), some (.ref q)] H (rv ++ [.int n]) := fun H1 e Q q' =>
      ⟨.ref q, rfl, eu_tup (ea_cons (ev_var rfl) ea_nil) (Nat.le_of_ble_eq_true rfl) H1 (Ex.refl _) _ fun p H2 hp e2 h2 => ⟨q, p, rv, [.int n], rfl, rfl, st_of ((e.trans e2) _ _ hq), st_of h2, sz_of (by simp; omega), fun z => absurd z hne, (fun _ z => by cases z), fun _ _ l hl => q' l _ (fresh_back e2 hl) (e2.trans (Ex.new hl)) upd_same⟩⟩
    refine s_appU hf (ev_fld M.cl M.nf hx (ev_var rfl) lk_found) hcat (by rw [List.length_map]; exact hz) fun p H1 hp e1 h1 => ?_
    exact k H1 p hp e1 h1
theorem put_kbn {f : Addr} {fd : FuncData} (F : Fun K "put" "Maker.put" sPut f fd) : KBn K fd ["self", "number", "row"] 2 ["row"] (fun us ws => us ++ ws) (fun vs zs => vs ++ zs) := by
  obtain ⟨oc, od, kV, doc, pm, an, cdv, ct, osl, rfl, lk, hcd⟩ := F.ex
  refine ⟨fun s us ws _ h1 h2 => ?_, fun r1 r2 => r1.append r2⟩
  match us, h1, ws, h2 with
  | [_, _], _, [_], _ => exact BindsTo.of_eq rfl
end
end K51

/-! Walks 10: the maker's load and make. -/
namespace K51
open PySem L2 Evl
/-- a list, new since B -/
def EvK (te : TE) (σ : L2.St) (H B : Hp) (xs : List V) : Prop := ∀ H1, Ex H H1 → ∀ Q : VK, (∀ p H2, B p = none → Ex H1 H2 → H2 p = some (.lst xs) → Q (.ref p) H2) → te σ H1 Q
theorem ek_new {te : TE} {σ : L2.St} {H B : Hp} {xs : List V} (e : Ex B H) (h : EvL te σ H xs) : EvK te σ H B xs := fun H1 a Q q => h H1 a Q fun p H2 hp e2 h2 => q p H2 (fresh_back (e.trans a) hp) e2 h2
theorem ek_old {te : TE} {σ : L2.St} {H B : Hp} {xs : List V} {p : Addr} (h : Ev te σ H (.ref p)) (hp : B p = none) (hx : H p = some (.lst xs)) : EvK te σ H B xs := fun H1 a Q q => h H1 a Q fun H2 e2 => q p H2 hp e2 ((a.trans e2) _ _ hx)
theorem s_forK {K : PySem.W.Frag} {σ : L2.St} {H B : Hp} {xs : List V} {tl : TE} {tu : TS} {D : Ends} {j : Nat} (h : EvK tl σ H B xs) (Pv : Addr → Nat → L2.St → Hp → Prop) (h0 : ∀ p H1, B p = none → Ex H H1 → H1 p = some (.lst xs) → Pv p 0 σ H1) (hl : ∀ p i σ' H', i ≤ xs.length → Pv p i σ' H' → SqL K H' p xs)
    (hs : ∀ p i x σ' H', xs[i]? = some x → Pv p i σ' H' → tu { D with nx := Pv p (i + 1), ct := Pv p (i + 1), bk := D.nx } (σ'.set j (some x)) H') (hd : ∀ p σ' H', Pv p xs.length σ' H' → D.nx σ' H') : tFor (iList K tl) (gName j) tu D σ H :=
  h H (Ex.refl H) _ fun p H1 hp e h1 => ⟨p, rfl, ⟨xs, sq_of h1⟩, for_list (Pv p) (h0 p H1 hp e h1) (hl p) (hs p) (hd p)⟩
structure PutAt (P : Program) (w : World) (K : PySem.W.Frag) (mg : Str → Option Value) (base : Heap) (C : Addr) (f : Addr) (fd : FuncData) : Prop where
  ok : FnOk P w K mg base CX0 1 f fd ["self", "number", "row"] (spPut C)
  m : Meth K C "put" f
  kb : KBn K fd ["self", "number", "row"] 2 ["row"] (fun us ws => us ++ ws) (fun vs zs => vs ++ zs)
theorem putE {σ : L2.St} {H : Hp} {C x ra la fa sa : Addr} {rows : List Row} {lft : List Bool} {ms : List MRow} {kvs : List (Key × V)} {E : XK} {tx tn tq : TE} {op : MOp} {i nk : Nat} {Q : VK} (hnk : 1 = nk) (hx : Ev tx σ H (.ref x)) (hn : Ev tn σ H (.int (i : Nat))) (hq : EvU tq σ H op.vals) (st : MSt C H x ra la fa sa rows lft ms kvs) (hz : ms.length ≤ 90000)
    (k : ∀ H', MGo fa sa H H' → MSt C H' x ra la fa sa rows lft (ms ++ [⟨op, i⟩]) kvs → Q .non H') : tMethK C "put" 2 nk (spPut C) (fun vs zs => vs ++ zs) E tx (tCons tn tNil) (tCons tq tNil) σ H Q := by
  obtain ⟨dx, hi⟩ := st.ins
  refine hx H (Ex.refl _) _ fun H1 e1 => ⟨x, dx, _, rfl, e1 _ _ hi, lk_no (by decide +kernel), ea_cons hn ea_nil H1 e1 _ fun H2 e2 => hq H2 (e1.trans e2) _ fun q H3 _ e3 h3 => ⟨rfl, hnk, ?_⟩⟩
  have e13 := (e1.trans e2).trans e3
  have st3 := st.ex e13
  obtain ⟨as, hf, ha⟩ := st3.found
  refine ⟨x, dx, ra, la, fa, sa, q, op.vals, (i : Nat), as, rfl, e13 _ _ hi, hf, by rw [ha.1]; omega, h3, (by unfold MOp.vals; simp), ?_, fun H4 p hp e4 h4 => ?_⟩
  · cases op <;> simp [MOp.vals, MOp.mid]
  · obtain ⟨s1, s2⟩ := (st3.ex e4).app (m := ⟨op, i⟩) (e4 _ _ hf) h4
    exact k _ ((MGo.ex (e13.trans e4)).trans s2) s1
section
variable {P : Program} {w : World} {K : PySem.W.Frag} {mg : Str → Option Value} {base : Heap} {o1 o2 o3 o4 o5 C fi : Addr}
abbrev sLd : Stmt := inClass (top 11) 2
abbrev nLd : List Str := ["self", "number", "some", "cell"]
theorem scLd : FnScope nLd ["self", "number"] (defScope sLd) := ⟨rfl, rfl, rfl, by decide +kernel, rfl, by decide +kernel, by decide +kernel⟩
def spLd (C : Addr) : Sp := fun vs H Q _ => ∃ x ra la fa sa rows lft ms kvs, ∃ (i : Nat) (r : Row), vs = [.ref x, .int (i : Nat)] ∧ MSt C H x ra la fa sa rows lft ms kvs ∧ rows[i]? = some r ∧ lft.length = rows.length ∧ r.Bnd ∧ ms.length ≤ 80000 ∧
  ∀ H', MGo fa sa H H' → MSt C H' x ra la fa sa rows lft (ms ++ (loads (lf (fun i => (lft[i]?).getD false) i) r).map fun c => ⟨.load c, i⟩) kvs → Q .non H'
theorem ok_Ld {f f1 f2 : Addr} {fd d1 d2 : FuncData} (F : Fun K "load" "Maker.load" sLd f fd) (T : Txt K mg o1 o2 o3 o4 o5) (M : MkT K mg C fi) (M_put : PutAt P w K mg base C f1 d1) (C_read_by_machine : CalAt P w K mg base 1 "read_by_machine" ["row"] spRBm f2 d2) : FnOk P w K mg base CX0 2 f fd ["self", "number"] (spLd C) := by
  refine F.ok scLd (fun vs H Q E h => ?_) (fun cdv A outer s H vs Q E hr h => ?_)
  · obtain ⟨x, ra, la, fa, sa, rows, lft, ms, kvs, i, r, rfl, _⟩ := h; rfl
  · obtain ⟨x, ra, la, fa, sa, rows, lft, ms, kvs, i, r, rfl, st, hr', hll, hb, hz, k⟩ := h
    have nd := scLd.nd
    refine ⟨_, (pss_cons (ps_set (i := 2) nd rfl (Or.inl rfl) (pe_call C_read_by_machine.ok (hr.mono (by decide)) rfl C_read_by_machine.g C_read_by_machine.kp C_read_by_machine.b .nil pass0 (pa_cons (pe_ix ix_tup (pe_fld (pv 0) rfl) (pv 1) (fun _ _ => rfl)) pa_nil)))
      (pss_one (ps_for PassesOwn.never rfl (pi_list (pe_ifExp (pw_and (pt_cmpR op_gt (pv 1) pe_int (nomark _)) (pw_and1 (pt_val (pe_ix ix_list (pe_fld (pv 0) rfl) (pe_op op_sub (pv 1) pe_int) (fun _ _ => rfl))))).pt (pe_slice sl_list (pv 2) (po_some pe_int) po_none) (pv 2))) (pg_name (i := 3) nd rfl (Or.inl rfl)) (pss_one (ps_expr (pe_methK (pv 0) M.cl M_put.m M_put.ok (hr.mono (by decide)) M_put.kb pass0 (pa_cons (pv 1) pa_nil) (pk_cons (pe_tup (pa_cons pe_str (pa_cons (pv 3) pa_nil))) pk_nil))))))), ?_⟩
    dsimp only [cxK, cxKn, List.map]
    obtain ⟨dx, hins⟩ := st.ins
    obtain ⟨as, hra, hrs⟩ := st.rows
    obtain ⟨ba, hba1, hba2⟩ := hrs.get' hr'
    have hbm : (as.map V.ref)[i]? = some (.ref ba) := by rw [List.getElem?_map, hba1]; rfl
    have hil : i < rows.length := (List.getElem?_eq_some_iff.mp hr').1
    refine q_asgL (el_readM (r := r) (ev_op (ev_fld M.cl M.nr hins (ev_var rfl) lk_rows) (ev_var rfl) (rv_ixT (st_of hra) (atI_nat hbm))) hba2) fun s1 H1 hs1 e1 h1 => ?_
    have st1 := st.ex e1
    have hxs : EvK (tIf (tAnd (tTest (tOp (rI0 fun i j => V.bl (decide (j < i))) (tVar 1) (tC (V.int 0)))) (tB (tOp (rIxL K) (tFld K (tVar 0) "left") (tOp (rI0 fun i j => V.int (i - j)) (tVar 1) (tC (V.int 1)))))) (tSl (rSlL K) (tVar 2) (tPart (tC (V.int 1))) tNoPart) (tVar 2)) [some (.ref x), some (.int (i : Nat)), some (.ref s1), none] H1 H ((loads (lf (fun i => (lft[i]?).getD false) i) r).map V.int) := by
      have hbool : EvT (tAnd (tTest (tOp (rI0 fun i j => V.bl (decide (j < i))) (tVar 1) (tC (V.int 0)))) (tB (tOp (rIxL K) (tFld K (tVar 0) "left") (tOp (rI0 fun i j => V.int (i - j)) (tVar 1) (tC (V.int 1)))))) [some (.ref x), some (.int (i : Nat)), some (.ref s1), none] H1 (lf (fun i => (lft[i]?).getD false) i) := by
        cases i with
        | zero => exact et_is (et_and (b := false) (et_test (ev_op (ev_var rfl) ev_c rv_I0)) fun z => by simp at z) (by simp [lf])
        | succ i =>
          have hb : lft[i]? = some lft[i] := List.getElem?_eq_getElem (by omega)
          refine et_is (et_and (et_test (ev_op (ev_var rfl) ev_c rv_I0)) fun _ => et_B (b := lft[i]) (ev_op (ev_fld M.cl M.nl (e1 _ _ hins) (ev_var rfl) lk_left) (ev_op (ev_var rfl) ev_c rv_I0) (rv_ixL (xs := lft.map V.bl) (i := ((i + 1 : Nat) : Int) - 1) (v := .bl lft[i]) (sq_of st1.left) (by
            rw [show (((i + 1 : Nat) : Int) - 1) = (i : Nat) by omega]
            exact atI_nat (by rw [List.getElem?_map, hb]; rfl))))) ?_
          rw [lf_succ, hb]
          have : decide ((0 : Int) < ((i + 1 : Nat) : Int)) = true := decide_eq_true (by omega)
          rw [this]; rfl
      cases hlf : lf (fun i => (lft[i]?).getD false) i with
      | true =>
        rw [hlf] at hbool
        refine ek_new e1 (el_if hbool (fun _ => ?_) (fun z => by cases z))
        have := el_sl (K := K) (σ := [some (.ref x), some (.int (i : Nat)), some (.ref s1), none]) (H := H1) (te := tVar 2) (tl := tPart (tC (.int 1))) (th := tNoPart) (ev_var rfl) (eo_some ev_c) eo_none (sq_of h1)
        rw [cut_one, ← List.map_drop] at this
        exact this
      | false =>
        rw [hlf] at hbool
        exact ek_old (ev_if hbool (fun z => by cases z) (fun _ => ev_var rfl)) hs1 h1
    have hfk : ∀ {b : Addr}, H b = none → b ≠ fa ∧ b ≠ sa := fun hb => by
      obtain ⟨fs, hf, _⟩ := st.found
      exact ⟨(fun z => by rw [z, hf] at hb; cases hb), (fun z => by rw [z, st.spots] at hb; cases hb)⟩
    have hll3 : (loads (lf (fun i => (lft[i]?).getD false) i) r).length ≤ 3 := by
      have h3 := reads_three hb
      unfold loads; split
      · rw [List.length_drop]; omega
      · exact h3
    generalize loads (lf (fun i => (lft[i]?).getD false) i) r = cs at hxs k hll3
    refine s_forK hxs (fun p j σ' H' => (∃ u, σ' = [some (.ref x), some (.int (i : Nat)), some (.ref s1), u]) ∧ H p = none ∧ MGo fa sa H H' ∧ MSt C H' x ra la fa sa rows lft (ms ++ (cs.take j).map fun c => ⟨.load c, i⟩) kvs ∧ H' p = some (.lst (cs.map V.int)))
      (fun p H2 hp e2 h2 => ⟨⟨none, rfl⟩, hp, MGo.ex (e1.trans e2), by simpa using st1.ex e2, h2⟩) (fun p j σ' H' _ z => sq_of z.2.2.2.2) (fun p j v σ' H2 hv z => ?_) (fun p σ' H2 z => ?_)
    · obtain ⟨⟨u, rfl⟩, hp, hg, st2, h2⟩ := z
      rw [List.getElem?_map] at hv
      cases hc : cs[j]? with
      | none => rw [hc] at hv; cases hv
      | some c =>
        rw [hc] at hv; cases hv
        refine s_dropR (putE (op := .load c) (i := i) rfl (ev_var rfl) (ev_var rfl) (eu_tup (ea_cons ev_c (ea_cons (ev_var rfl) ea_nil)) (Nat.le_of_ble_eq_true rfl)) st2 (by rw [List.length_append, List.length_map, List.length_take]; omega) fun H3 g3 st3 => nxM ⟨⟨_, rfl⟩, hp, hg.trans g3, ?_, g3 _ _ h2 (hfk hp).1 (hfk hp).2⟩)
        rw [take_succ_some hc, List.map_append, ← List.append_assoc]
        exact st3
    · obtain ⟨⟨u, rfl⟩, hp, hg, st2, h2⟩ := z
      rw [List.length_map, List.take_length] at st2
      exact nxM (k H2 hg st2)

/-! ### make -/
abbrev sMk : Stmt := inClass (top 11) 3
abbrev nMk : List Str := ["self", "number", "row", "word"]
theorem scMk : FnScope nMk ["self", "number", "row"] (defScope sMk) := ⟨rfl, rfl, rfl, by decide +kernel, rfl, by decide +kernel, by decide +kernel⟩
def spotK (r : Row) (n : Nat) (kvs : List (Key × V)) : List (Key × V) := match r.labelOf with
  | some k => putK kvs (Sum.inl k) (.int (n : Nat))
  | none => kvs
def spMk (C : Addr) : Sp := fun vs H Q _ => ∃ x ra la fa sa rows lft ms kvs b, ∃ (i : Nat) (r : Row), vs = [.ref x, .int (i : Nat), .ref b] ∧ MSt C H x ra la fa sa rows lft ms kvs ∧ RowAt H b r ∧ rows[i]? = some r ∧ lft.length = rows.length ∧ r.Bnd ∧ ms.length ≤ 80000 ∧ kvs.length ≤ 80000 ∧
  ∀ H', MGo fa sa H H' → MSt C H' x ra la fa sa rows lft (ms ++ (mcode (lf (fun i => (lft[i]?).getD false) i) ((lft[i]?).getD false) r).map (⟨·, i⟩)) (spotK r ms.length kvs) → Q .non H'
theorem ok_Mk {f f1 f2 f3 : Addr} {fd d1 d2 d3 : FuncData} (F : Fun K "make" "Maker.make" sMk f fd) (T : Txt K mg o1 o2 o3 o4 o5) (M : MkT K mg C fi) (M_put : PutAt P w K mg base C f1 d1) (M_load : MethAt P w K mg base 2 C "load" ["self", "number"] (spLd C) f2 d2) (C_laid_by_machine : CalAt P w K mg base 1 "laid_by_machine" ["row"] spLB f3 d3) : FnOk P w K mg base CX0 3 f fd ["self", "number", "row"] (spMk C) := by
  refine F.ok scMk (fun vs H Q E h => ?_) (fun cdv A outer s H vs Q E hr h => ?_)
  · obtain ⟨x, ra, la, fa, sa, rows, lft, ms, kvs, b, i, r, rfl, _⟩ := h; rfl
  · obtain ⟨x, ra, la, fa, sa, rows, lft, ms, kvs, b, i, r, rfl, st, hrow, hr', hll, hb, hz, hkz, k⟩ := h
    have nd := scMk.nd
    have hu := hu_of hr
    refine ⟨_, (pss_cons (ps_set (i := 3) nd rfl (Or.inl rfl) (pe_ix ix_tup (pv 2) pe_int (fun _ _ => rfl)))
      (pss_cons (ps_if (pt_cmpR op_eq (pv 3) pe_str (nomark _)) (pss_cons (ps_dput hu (pe_fld (pv 0) rfl) (pe_ix ix_tup (pv 2) pe_int (fun _ _ => rfl)) (pe_callB call_len_seq (by rfl) T.len PySem.boot_len (pa_cons (pe_fld (pv 0) rfl) pa_nil)) rfl)
      (pss_one (ps_retN))) pss_nil)
      (pss_cons (ps_expr (pe_meth (pv 0) M.cl M_load.m M_load.ok (hr.mono (by decide)) M_load.b .nil pass0 (pa_cons (pv 1) pa_nil)))
      (pss_cons (ps_if (pt_cmpR op_eq (pv 3) pe_str (nomark _)) (pss_one (ps_expr (pe_methK (pv 0) M.cl M_put.m M_put.ok (hr.mono (by decide)) M_put.kb pass0 (pa_cons (pv 1) pa_nil) (pk_cons (pe_tup (pa_cons pe_str pa_nil)) pk_nil)))) (pss_one (ps_if (pt_cmpR op_eq (pv 3) pe_str (nomark _)) (pss_one (ps_expr (pe_methK (pv 0) M.cl M_put.m M_put.ok (hr.mono (by decide)) M_put.kb pass0 (pa_cons (pv 1) pa_nil) (pk_cons (pe_tup (pa_cons pe_str (pa_cons (pe_ix ix_tup (pv 2) pe_int (fun _ _ => rfl)) pa_nil))) pk_nil)))) (pss_one (ps_if (pt_cmpR op_eq (pv 3) pe_str (nomark _)) (pss_one (ps_expr (pe_methK (pv 0) M.cl M_put.m M_put.ok (hr.mono (by decide)) M_put.kb pass0 (pa_cons (pv 1) pa_nil) (pk_cons (pe_tup (pa_cons pe_str (pa_cons (pe_ix ix_tup (pv 2) pe_int (fun _ _ => rfl)) (pa_cons (pe_ix ix_tup (pv 2) pe_int (fun _ _ => rfl)) pa_nil)))) pk_nil)))) (pss_one (ps_if (pt_cmpR op_in_seq (pv 3) (pe_tup (pa_cons pe_str (pa_cons pe_str (pa_cons pe_str pa_nil)))) rfl) (pss_one (ps_expr (pe_methK (pv 0) M.cl M_put.m M_put.ok (hr.mono (by decide)) M_put.kb pass0 (pa_cons (pv 1) pa_nil) (pk_cons (pe_tup (pa_cons (pe_ifExp (pt_cmpR op_eq (pv 3) pe_str (nomark _)) pe_str (pv 3)) (pa_cons (pe_ix ix_tup (pv 2) pe_int (fun _ _ => rfl)) pa_nil))) pk_nil)))) (pss_one (ps_if (pt_cmpR op_eq (pv 3) pe_str (nomark _)) (pss_one (ps_expr (pe_methK (pv 0) M.cl M_put.m M_put.ok (hr.mono (by decide)) M_put.kb pass0 (pa_cons (pv 1) pa_nil) (pk_cons (pe_tup (pa_cons pe_str (pa_cons (pe_ix ix_tup (pv 2) pe_int (fun _ _ => rfl)) pa_nil))) pk_nil)))) (pss_one (ps_if (pt_cmpR op_eq (pv 3) pe_str (nomark _)) (pss_one (ps_expr (pe_methK (pv 0) M.cl M_put.m M_put.ok (hr.mono (by decide)) M_put.kb pass0 (pa_cons (pv 1) pa_nil) (pk_cons (pe_tup (pa_cons pe_str (pa_cons (pe_ix ix_tup (pv 2) pe_int (fun _ _ => rfl)) (pa_cons (pe_ix ix_tup (pv 2) pe_int (fun _ _ => rfl)) (pa_cons (pe_callB call_len_seq (by rfl) T.len PySem.boot_len (pa_cons (pe_ix ix_tup (pv 2) pe_int (fun _ _ => rfl)) pa_nil)) pa_nil))))) pk_nil)))) (pss_one (ps_if (pt_cmpR op_eq (pv 3) pe_str (nomark _)) (pss_one (ps_expr (pe_methK (pv 0) M.cl M_put.m M_put.ok (hr.mono (by decide)) M_put.kb pass0 (pa_cons (pv 1) pa_nil) (pk_cons (pe_tup (pa_cons pe_str (pa_cons (pe_callTy call_int1 (by rfl) T.int (by decide +kernel) (pa_cons (pe_cmpR op_notN (pe_ix ix_tup (pv 2) pe_int (fun _ _ => rfl)) pe_non (nomark _)) pa_nil)) pa_nil))) pk_nil)))) (pss_one (ps_if (pt_cmpR op_ne (pv 3) pe_str (nomark _)) (pss_one (ps_expr (pe_methK (pv 0) M.cl M_put.m M_put.ok (hr.mono (by decide)) M_put.kb pass0 (pa_cons (pv 1) pa_nil) (pk_cons (pe_tup (pa_cons (pv 3) pa_nil)) pk_nil)))) pss_nil)))))))))))))))
      (pss_one (ps_if (pw_and (pt_cmpR op_notN (pe_call C_laid_by_machine.ok (hr.mono (by decide)) (by rfl) C_laid_by_machine.g C_laid_by_machine.kp C_laid_by_machine.b .nil pass0 (pa_cons (pv 2) pa_nil)) pe_non (nomark _)) (pw_and1 (pt_not (pt_val (pe_ix ix_list (pe_fld (pv 0) rfl) (pv 1) (fun _ _ => rfl)))))).pt (pss_one (ps_expr (pe_methK (pv 0) M.cl M_put.m M_put.ok (hr.mono (by decide)) M_put.kb pass0 (pa_cons (pv 1) pa_nil) (pk_cons (pe_tup (pa_cons pe_str (pa_cons (pe_call C_laid_by_machine.ok (hr.mono (by decide)) (by rfl) C_laid_by_machine.g C_laid_by_machine.kp C_laid_by_machine.b .nil pass0 (pa_cons (pv 2) pa_nil)) pa_nil))) pk_nil)))) pss_nil)))))), ?_⟩
    dsimp only [cxK, cxKn, List.map]
    obtain ⟨p, q, hw1, hw2, hw3⟩ := id hrow
    obtain ⟨dx, hins⟩ := st.ins
    have hlb : lft[i]? = some ((lft[i]?).getD false) := by
      have : i < lft.length := by rw [hll]; exact (List.getElem?_eq_some_iff.mp hr').1
      rw [List.getElem?_eq_getElem this]; rfl
    refine q_asg (ev_row (j := 0) (v := .str r.word) hw1 (ev_var rfl) rfl) fun H1 e1 => ?_
    have wd : ∀ {H2 : Hp}, Ev (tVar 3) [some (.ref x), some (.int (i : Nat)), some (.ref b), some (.str r.word)] H2 (.str r.word) := ev_var rfl
    have st1 := st.ex e1
    refine q_when (et_word .label wd) (fun hl H2 e2 => ?_) (fun hl H2 e2 => ?_)
    · obtain ⟨kk, pl, rfl⟩ := label_of (of_decide_eq_true hl)
      have st2 := st1.ex e2
      have e02 := e1.trans e2
      obtain ⟨as, hfa, hfr⟩ := st2.found
      refine q_dput (k := Sum.inl kk) (v := .int (ms.length : Nat)) st2.spots ?_ (ev_fld M.cl M.ns (e02 _ _ hins) (ev_var rfl) lk_spots) (ev_row (j := 1) (e02 _ _ hw1) (ev_var rfl) rfl) (by omega) fun H3 e3 => ?_
      · have := ev_len (K := K) (σ := [some (.ref x), some (.int (i : Nat)), some (.ref b), some (.str (Row.label kk pl).word)]) (H := H2) (ta := tFld K (tVar 0) "found") (ev_fld M.cl M.nf (e02 _ _ hins) (ev_var rfl) lk_found) (sq_of hfa)
        rw [List.length_map, hfr.1] at this
        exact this
      · obtain ⟨s1, s2⟩ := (st2.ex e3).put (kvs' := putK kvs (Sum.inl kk) (.int (ms.length : Nat)))
        refine rtM (k _ ((MGo.ex (e02.trans e3)).trans s2) ?_)
        have : mcode (lf (fun i => (lft[i]?).getD false) i) ((lft[i]?).getD false) (.label kk pl) = [] := by
          unfold mcode loads stores body
          split <;> rfl
        rw [this]
        simpa [spotK, Row.labelOf] using s1
    have hl : r.tag ≠ .label := of_decide_eq_false hl
    have e02 := e1.trans e2
    have st2 := st1.ex e2
    have hsp : spotK r ms.length kvs = kvs := by cases r <;> first | rfl | (exact absurd rfl hl)
    rw [hsp] at k
    have hl3 : ((loads (lf (fun i => (lft[i]?).getD false) i) r)).length ≤ 3 := by
      have h3 := reads_three hb
      unfold loads; split
      · rw [List.length_drop]; omega
      · exact h3
    refine q_dropR (ev_var (i := 0) rfl H2 (Ex.refl _) _ fun H3 e3 => ⟨x, dx, _, rfl, (e02.trans e3) _ _ hins, lk_no (by decide +kernel), r_ea (ea_cons (ev_var rfl) ea_nil) fun H4 e4 => ?_⟩)
    have e24 := e3.trans e4
    refine ⟨x, ra, la, fa, sa, rows, lft, ms, kvs, i, r, rfl, st2.ex e24, hr', hll, hb, hz, fun H5 g5 st5 => ?_⟩
    have g05 : MGo fa sa H H5 := (MGo.ex (e02.trans e24)).trans g5
    have hw5 := st.tl g05 _ _ hw1
    have hrow5 : RowAt H5 b r := hrow.mono (st.tl g05)
    obtain ⟨dx5, hins5⟩ := st5.ins
    have hms : (ms ++ (loads (lf (fun i => (lft[i]?).getD false) i) r).map fun c => (⟨.load c, i⟩ : MRow)).length ≤ 80003 := by rw [List.length_append, List.length_map]; omega
    refine q_ifK (fun H6 => MGo fa sa H5 H6 ∧ MSt C H6 x ra la fa sa rows lft ((ms ++ (loads (lf (fun i => (lft[i]?).getD false) i) r).map fun c => (⟨.load c, i⟩ : MRow)) ++ (body r).map fun o => (⟨o, i⟩ : MRow)) kvs) (et_word .begin wd) (fun H6 m => ?_) (fun h1 H6 e6 kk => ?_) (fun h1 H6 e6 kk => ?_)
    · obtain ⟨g6, st6⟩ := m
      have hrow6 : RowAt H6 b r := hrow5.mono (st5.tl g6)
      have hbl : (body r).length ≤ 1 := by cases r <;> simp [body]
      have hst : ∀ H7, MGo fa sa H6 H7 → MSt C H7 x ra la fa sa rows lft (((ms ++ (loads (lf (fun i => (lft[i]?).getD false) i) r).map fun c => (⟨.load c, i⟩ : MRow)) ++ (body r).map fun o => (⟨o, i⟩ : MRow)) ++ (stores ((lft[i]?).getD false) r).map fun o => (⟨o, i⟩ : MRow)) kvs → Q .non H7 := fun H7 g7 st7 => by
        refine k H7 ((g05.trans g6).trans g7) ?_
        unfold mcode
        rw [List.map_append, List.map_append, List.map_map, ← List.append_assoc, ← List.append_assoc]
        exact st7
      obtain ⟨dx6, hins6⟩ := st6.ins
      have tlay : ∀ {H7 : Hp}, Ex H6 H7 → Ev (tCall spLB [] E0 (tCons (tVar 2) tNil)) [some (.ref x), some (.int (i : Nat)), some (.ref b), some (.str r.word)] H7 (oV r.lays) := fun e7 => ev_laid (ev_var rfl) (hrow6.mono (tl_ex e7))
      have tleft : Ev (tOp (rIxL K) (tFld K (tVar 0) "left") (tVar 1)) [some (.ref x), some (.int (i : Nat)), some (.ref b), some (.str r.word)] H6 (.bl ((lft[i]?).getD false)) :=
        ev_op (ev_fld M.cl M.nl hins6 (ev_var rfl) lk_left) (ev_var rfl) (rv_ixL (xs := lft.map V.bl) (sq_of st6.left) (atI_nat (by rw [List.getElem?_map, hlb]; rfl)))
      rcases Option.eq_none_or_eq_some r.lays with hlay | ⟨c, hlay⟩
      · refine s_when (b := false) (et_is (et_and (b := false) (et_notN (tlay (Ex.refl _))) fun z => by simp [hlay, oV] at z) (by simp)) (fun z => by cases z) (fun _ H7 e7 => nxM ?_)
        refine hst H7 (MGo.ex e7) ?_
        have : stores ((lft[i]?).getD false) r = [] := by unfold stores; rw [hlay]
        rw [this]; simpa using st6.ex e7
      · cases hlv : (lft[i]?).getD false with
        | true =>
          rw [hlv] at tleft hst
          refine s_when (b := false) (et_is (et_and (et_notN (tlay (Ex.refl _))) fun _ => et_not (et_B tleft)) (by simp)) (fun z => by cases z) (fun _ H7 e7 => nxM ?_)
          refine hst H7 (MGo.ex e7) ?_
          have : stores true r = [] := by unfold stores; rw [hlay]; rfl
          rw [this]; simpa using st6.ex e7
        | false =>
          rw [hlv] at tleft hst
          refine s_when (b := true) (et_is (et_and (et_notN (tlay (Ex.refl _))) fun _ => et_not (et_B tleft)) (by simp [hlay, oV])) (fun _ H7 e7 => ?_) (fun z => by cases z)
          refine s_dropR (putE (op := .store c) (i := i) rfl (ev_var rfl) (ev_var rfl) (eu_tup (ea_cons ev_c (ea_cons (ev_is (tlay e7) (by rw [hlay]; rfl)) ea_nil)) (Nat.le_of_ble_eq_true rfl)) (st6.ex e7) (by rw [List.length_append, List.length_map]; omega) fun H8 g8 st8 => nxM (hst H8 ((MGo.ex e7).trans g8) ?_))
          have : stores false r = [.store c] := by unfold stores; rw [hlay]; rfl
          rw [this]; exact st8
    · obtain ⟨pl, rfl⟩ := begin_of (of_decide_eq_true h1)
      exact s_dropR (putE (op := .row) (i := i) rfl (ev_var rfl) (ev_var rfl) (eu_tup (ea_cons ev_c ea_nil) (Nat.le_of_ble_eq_true rfl)) (st5.ex e6) (by omega) fun H7 g7 st7 => nxM (kk _ ⟨(MGo.ex e6).trans g7, st7⟩))
    have h1 := of_decide_eq_false h1
    refine s_if (et_word .put wd) (fun h2 H7 e7 => ?_) (fun h2 H7 e7 => ?_)
    · have e7 := e6.trans e7
      obtain ⟨c, n, pl, rfl⟩ := put_of (of_decide_eq_true h2)
      exact s_dropR (putE (op := .push n) (i := i) rfl (ev_var rfl) (ev_var rfl) (eu_tup (ea_cons ev_c (ea_cons (ev_row (j := 2) (e7 _ _ hw5) (ev_var rfl) rfl) ea_nil)) (Nat.le_of_ble_eq_true rfl)) (st5.ex e7) (by omega) fun H8 g8 st8 => nxM (kk _ ⟨(MGo.ex e7).trans g8, st8⟩))
    have h2 := of_decide_eq_false h2
    have e7 := e6.trans e7
    refine s_if (et_word .fetch wd) (fun h3 H8 e8 => ?_) (fun h3 H8 e8 => ?_)
    · have e8 := e7.trans e8
      obtain ⟨c, ff, n, pl, rfl⟩ := fetch_of (of_decide_eq_true h3)
      exact s_dropR (putE (op := .fetch ff n) (i := i) rfl (ev_var rfl) (ev_var rfl) (eu_tup (ea_cons ev_c (ea_cons (ev_row (j := 2) (e8 _ _ hw5) (ev_var rfl) rfl) (ea_cons (ev_row (j := 3) (e8 _ _ hw5) (ev_var rfl) rfl) ea_nil))) (Nat.le_of_ble_eq_true rfl)) (st5.ex e8) (by omega) fun H9 g9 st9 => nxM (kk _ ⟨(MGo.ex e8).trans g9, st9⟩))
    have h3 := of_decide_eq_false h3
    have e8 := e7.trans e8
    refine s_if (et_words [.lay, .go, .say] (by decide) (by decide +kernel) wd) (fun h4 H9 e9 => ?_) (fun h4 H9 e9 => ?_)
    · have e9 := e8.trans e9
      have sel : r.tag = .lay ∨ r.tag = .go ∨ r.tag = .say := by simpa using h4
      rcases sel with h | h | h
      · obtain ⟨n, c, pl, rfl⟩ := lay_of h
        exact s_dropR (putE (op := .lay n) (i := i) rfl (ev_var rfl) (ev_var rfl) (eu_tup (ea_cons (ev_if (b := false) (et_is (et_word .go wd) (by simp [Row.tag])) (fun z => by cases z) (fun _ => ev_var rfl)) (ea_cons (ev_row (j := 1) (e9 _ _ hw5) (ev_var rfl) rfl) ea_nil)) (Nat.le_of_ble_eq_true rfl)) (st5.ex e9) (by omega) fun H10 g10 st10 => nxM (kk _ ⟨(MGo.ex e9).trans g10, st10⟩))
      · obtain ⟨t, pl, rfl⟩ := go_of h
        exact s_dropR (putE (op := .jump t) (i := i) rfl (ev_var rfl) (ev_var rfl) (eu_tup (ea_cons (ev_if (b := true) (et_is (et_word .go wd) (by simp [Row.tag])) (fun _ => ev_c) (fun z => by cases z)) (ea_cons (ev_row (j := 1) (e9 _ _ hw5) (ev_var rfl) rfl) ea_nil)) (Nat.le_of_ble_eq_true rfl)) (st5.ex e9) (by omega) fun H10 g10 st10 => nxM (kk _ ⟨(MGo.ex e9).trans g10, st10⟩))
      · obtain ⟨kd, c, pl, rfl⟩ := say_of h
        exact s_dropR (putE (op := .say kd) (i := i) rfl (ev_var rfl) (ev_var rfl) (eu_tup (ea_cons (ev_if (b := false) (et_is (et_word .go wd) (by simp [Row.tag])) (fun z => by cases z) (fun _ => ev_var rfl)) (ea_cons (ev_row (j := 1) (e9 _ _ hw5) (ev_var rfl) rfl) ea_nil)) (Nat.le_of_ble_eq_true rfl)) (st5.ex e9) (by omega) fun H10 g10 st10 => nxM (kk _ ⟨(MGo.ex e9).trans g10, st10⟩))
    have e9 := e8.trans e9
    refine s_if (et_word .unless wd) (fun h5 H10 e10 => ?_) (fun h5 H10 e10 => ?_)
    · have e10 := e9.trans e10
      obtain ⟨c, t, pl, rfl⟩ := unless_of (of_decide_eq_true h5)
      exact s_dropR (putE (op := .unless t) (i := i) rfl (ev_var rfl) (ev_var rfl) (eu_tup (ea_cons ev_c (ea_cons (ev_row (j := 2) (e10 _ _ hw5) (ev_var rfl) rfl) ea_nil)) (Nat.le_of_ble_eq_true rfl)) (st5.ex e10) (by omega) fun H11 g11 st11 => nxM (kk _ ⟨(MGo.ex e10).trans g11, st11⟩))
    have h5 := of_decide_eq_false h5
    have e10 := e9.trans e10
    refine s_if (et_word .call wd) (fun h6 H11 e11 => ?_) (fun h6 H11 e11 => ?_)
    · have e11 := e10.trans e11
      obtain ⟨c, ff, n, cs, pl, rfl⟩ := call_of (of_decide_eq_true h6)
      have hq5 := st.tl g05 _ _ (hw3 rfl)
      have tlen : ∀ {H12 : Hp}, Ex H5 H12 → Ev (tCB (fun xs H Q => ∃ p ys, xs = [V.ref p] ∧ (SqL K H p ys ∨ SqT K H p ys) ∧ Q (V.int (ys.length : Int)) H) (tCons (tOp (rIxT K) (tVar 2) (tC (.int 4))) tNil)) [some (.ref x), some (.int (i : Nat)), some (.ref b), some (.str (Row.call c ff n cs pl).word)] H12 (.int (cs.length : Nat)) := fun e12 => by
        have := ev_lenT (K := K) (σ := [some (.ref x), some (.int (i : Nat)), some (.ref b), some (.str (Row.call c ff n cs pl).word)]) (ta := tOp (rIxT K) (tVar 2) (tC (.int 4))) (ev_row (K := K) (te := tVar 2) (j := 4) (e12 _ _ hw5) (ev_var rfl) rfl) (st_of (e12 _ _ hq5))
        rw [List.length_map] at this
        exact this
      exact s_dropR (putE (op := .call ff n cs.length) (i := i) rfl (ev_var rfl) (ev_var rfl) (eu_tup (ea_cons ev_c (ea_cons (ev_row (j := 2) (e11 _ _ hw5) (ev_var rfl) rfl) (ea_cons (ev_row (j := 3) (e11 _ _ hw5) (ev_var rfl) rfl) (ea_cons (tlen e11) ea_nil)))) (Nat.le_of_ble_eq_true rfl)) (st5.ex e11) (by omega) fun H12 g12 st12 => nxM (kk _ ⟨(MGo.ex e11).trans g12, st12⟩))
    have h6 := of_decide_eq_false h6
    have e11 := e10.trans e11
    refine s_if (et_word .give wd) (fun h7 H12 e12 => ?_) (fun h7 H12 e12 => ?_)
    · have e12 := e11.trans e12
      obtain ⟨c, pl, rfl⟩ := give_of (of_decide_eq_true h7)
      exact s_dropR (putE (op := .give c.isSome) (i := i) rfl (ev_var rfl) (ev_var rfl) (eu_tup (ea_cons ev_c (ea_cons (ev_is (ev_intB (ev_op (ev_row (j := 1) (v := oV c) (e12 _ _ hw5) (ev_var rfl) rfl) (ev_c (v := .non)) (z := .bl (!decide (oV c = .non))) fun H13 _ _ q => ⟨rfl, q H13 (Ex.refl _)⟩)) (by cases c <;> rfl)) ea_nil)) (Nat.le_of_ble_eq_true rfl)) (st5.ex e12) (by omega) fun H13 g13 st13 => nxM (kk _ ⟨(MGo.ex e12).trans g13, st13⟩))
    have h7 := of_decide_eq_false h7
    have e12 := e11.trans e12
    refine s_when (et_wordN .copy wd) (fun h8 H13 e13 => ?_) (fun h8 H13 e13 => ?_)
    · have e13 := e12.trans e13
      have h8 : r.tag ≠ .copy := by simpa using h8
      have hh : ∃ op, body r = [op] ∧ op.vals = [.str r.word] := by
        cases r with
        | two o c d e pl => exact ⟨.two o, rfl, rfl⟩
        | nothing pl => exact ⟨.nothing, rfl, rfl⟩
        | _ => simp [Row.tag] at h1 h2 h3 h4 h5 h6 h7 h8 hl
      obtain ⟨op, hb1, hb2⟩ := hh
      rw [hb1] at kk
      refine s_dropR (putE (op := op) (i := i) rfl (ev_var rfl) (ev_var rfl) ?_ (st5.ex e13) (by omega) fun H14 g14 st14 => nxM (kk _ ⟨(MGo.ex e13).trans g14, st14⟩))
      rw [hb2]
      exact eu_tup (ea_cons wd ea_nil) (Nat.le_of_ble_eq_true rfl)
    · have e13 := e12.trans e13
      have h8 : r.tag = .copy := by simpa using h8
      obtain ⟨c, d, pl, rfl⟩ := copy_of h8
      exact nxM (kk _ ⟨MGo.ex e13, by simpa [body] using st5.ex e13⟩)
end
end K51

/-! Walks 11: the maker's led and __init__, machine_of. -/
namespace K51
open PySem L2 Evl
section
variable {P : Program} {w : World} {K : PySem.W.Frag} {mg : Str → Option Value} {base : Heap} {o1 o2 o3 o4 o5 C fi : Addr}
abbrev sLed : Stmt := inClass (top 11) 4
abbrev nLed : List Str := ["self", "found", "row"]
theorem scLed : FnScope nLed ["self"] (defScope sLed) := ⟨rfl, rfl, rfl, by decide +kernel, rfl, by decide +kernel, by decide +kernel⟩
def mtarget : MOp → Option Int
  | .jump t => some t
  | .unless t => some t
  | _ => none
def spLed (C : Addr) : Sp := fun vs H Q _ => ∃ x ra la fa sa rows lft ms kvs, ∃ left : Nat → Bool, vs = [.ref x] ∧ MSt C H x ra la fa sa rows lft ms kvs ∧ ms.length ≤ 90000 ∧ (∀ m ∈ ms, ∀ t, mtarget m.op = some t → valV kvs (Sum.inl t) = some (.int (mpos left rows (idx rows t) : Nat))) ∧
  ∀ p H2, H p = none → Ex H H2 → MRowsAt H2 p (ms.map (fix left rows)) → Q (.ref p) H2
theorem ok_Led {f : Addr} {fd : FuncData} (F : Fun K "led" "Maker.led" sLed f fd) (T : Txt K mg o1 o2 o3 o4 o5) (M : MkT K mg C fi) : FnOk P w K mg base CX0 1 f fd ["self"] (spLed C) := by
  refine F.ok scLed (fun vs H Q E h => ?_) (fun cdv A outer s H vs Q E hr h => ?_)
  · obtain ⟨x, ra, la, fa, sa, rows, lft, ms, kvs, left, rfl, _⟩ := h; rfl
  · obtain ⟨x, ra, la, fa, sa, rows, lft, ms, kvs, left, rfl, st, hz, hsp, k⟩ := h
    have nd := scLed.nd
    have hu := hu_of hr
    refine ⟨_, (pss_cons (ps_set (i := 1) nd rfl (Or.inl rfl) (pe_lst pa_nil))
      (pss_cons (ps_for PassesOwn.never rfl (pi_list (pe_fld (pv 0) rfl)) (pg_name (i := 2) nd rfl (Or.inl rfl)) (pss_one (ps_expr (pe_bm PySem.F.plainAttrs_list PySem.F.slot_list_append PySem.F.type_list_append mt_append (pv 1) (pa_cons (pe_ifExp (pt_cmpR op_in_seq (pe_ix ix_tup (pv 2) pe_int (fun _ _ => rfl)) (pe_tup (pa_cons pe_str (pa_cons pe_str pa_nil))) rfl) (pe_tup (pa_cons (pe_ix ix_tup (pv 2) pe_int (fun _ _ => rfl)) (pa_cons (pe_dget hu (pe_fld (pv 0) rfl) (pe_ix ix_tup (pv 2) pe_int (fun _ _ => rfl)) (fun _ _ => rfl)) (pa_cons (pe_ix ix_tup (pv 2) pe_int (fun _ _ => rfl)) pa_nil)))) (pv 2)) pa_nil)))))
      (pss_one (ps_ret (pv 1))))), ?_⟩
    dsimp only [cxK, cxKn, List.map]
    obtain ⟨dx, hins⟩ := st.ins
    obtain ⟨as, hfa, hms⟩ := st.found
    refine q_asgL (el_lst ea_nil (Nat.le_of_ble_eq_true rfl)) fun l H1 hl1 e1 h1 => ?_
    refine q_forLn (xs := as.map V.ref) (ev_fld M.cl M.nf (e1 _ _ hins) (ev_var rfl) lk_found) (sq_of (e1 _ _ hfa)) (fun i σ' H' => ∃ u, σ' = [some (.ref x), some (.ref l), u] ∧ Ex H H' ∧ MRowsAt H' l ((ms.take i).map (fix left rows))) (fun H2 e2 => ⟨none, rfl, e1.trans e2, [], e2 _ _ h1, All2.nil⟩)
      (fun i σ' H' _ p => by obtain ⟨_, _, e, _⟩ := p; exact sq_of (e _ _ hfa)) (fun i v σ' H2 hv p => ?_) (fun σ' H2 p => ?_)
    · obtain ⟨u, rfl, ex, bs, hb, hb2⟩ := p
      rw [List.getElem?_map] at hv
      cases hai : as[i]? with
      | none => rw [hai] at hv; cases hv
      | some a =>
      rw [hai] at hv; cases hv
      obtain ⟨m, hm1, hm2⟩ := hms.get hai
      have hi : i < ms.length := (List.getElem?_eq_some_iff.mp hm1).1
      have hbz : bs.length < 100000 := by rw [hb2.1, List.length_map, List.length_take]; omega
      have wd : Ev (tOp (rIxT K) (tVar 2) (tC (.int 0))) [some (.ref x), some (.ref l), some (.ref a)] H2 (.str m.op.tag.word) := ev_row (j := 0) (ex _ _ hm2) (ev_var rfl) (by unfold MRow.vals MOp.vals; rfl)
      have tst : EvT (tTest (tOp (rIn K false) (tOp (rIxT K) (tVar 2) (tC (.int 0))) (tTup (tCons (tC (.str "jump")) (tCons (tC (.str "unless")) tNil))))) [some (.ref x), some (.ref l), some (.ref a)] H2 ((mtarget m.op).isSome) := by
        refine et_is (et_test (ev_inU wd (eu_tup (ea_cons ev_c (ea_cons ev_c ea_nil)) (Nat.le_of_ble_eq_true rfl)) rfl rfl)) ?_
        have := eq_of_beq (MTag.all (p := fun t => inV (.str t.word) [.str "jump", .str "unless"] == (decide (t = .jump) || decide (t = .unless))) (by decide +kernel) m.op.tag)
        rw [this]
        cases m.op <;> rfl
      have next : ∀ p H3, H2 p = none ∨ p = a → Ex H2 H3 → H3 p = some (.tup (fix left rows m).vals) → ∃ u : Option V, ([some (V.ref x), some (V.ref l), some (V.ref a)] : L2.St) = [some (V.ref x), some (V.ref l), u] ∧ Ex H (upd H3 l (.lst (bs.map V.ref ++ [.ref p]))) ∧ MRowsAt (upd H3 l (.lst (bs.map V.ref ++ [.ref p]))) l ((ms.take (i + 1)).map (fix left rows)) := fun p H3 _ e3 h3 => by
        refine ⟨_, rfl, Ex.mut (ex.trans e3) hl1, bs ++ [p], by rw [upd_same]; simp, ?_⟩
        have hT : TL H3 (upd H3 l (.lst (bs.map V.ref ++ [.ref p]))) := TL.mut (e3 _ _ hb) fun _ z => by cases z
        rw [take_succ_some hm1, List.map_append]
        exact All2.snoc (hb2.imp fun _ _ q => hT _ _ (e3 _ _ q)) (hT _ _ h3)
      cases hmt : mtarget m.op with
      | none =>
        rw [hmt] at tst
        refine s_app hb (ev_var rfl) (ev_if tst (fun z => by cases z) (fun _ => ev_var rfl)) (by rw [List.length_map]; exact hbz) fun H3 e3 => nxM (next a H3 (.inr rfl) e3 ?_)
        have : fix left rows m = m := by unfold fix; cases hop : m.op <;> rw [hop] at hmt <;> first | rfl | cases hmt
        rw [this]; exact e3 _ _ (ex _ _ hm2)
      | some t =>
        rw [hmt] at tst
        have hv := hsp m (List.mem_of_getElem? hm1) t hmt
        obtain ⟨op, kk⟩ := m
        have hvals : ∃ op', fix left rows ⟨op, kk⟩ = ⟨op', kk⟩ ∧ op'.vals = [.str op.tag.word, .int (mpos left rows (idx rows t) : Nat)] ∧ op.vals = [.str op.tag.word, .int t] := by
          cases op <;> simp [mtarget] at hmt
          · subst hmt; exact ⟨_, rfl, rfl, rfl⟩
          · subst hmt; exact ⟨_, rfl, rfl, rfl⟩
        obtain ⟨op', hf, hov, hvo⟩ := hvals
        have hrow : H2 a = some (.tup [.str op.tag.word, .int t, .int (kk : Nat)]) := by
          have := ex _ _ hm2
          unfold MRow.vals at this
          rw [hvo] at this; exact this
        refine s_appU (ys := [.str op.tag.word, .int (mpos left rows (idx rows t) : Nat), .int (kk : Nat)]) hb (ev_var rfl) (eu_if tst (fun _ => ?_) (fun z => by cases z)) (by rw [List.length_map]; exact hbz) fun p H3 hp e3 h3 => nxM (next p H3 (.inl hp) e3 ?_)
        · exact eu_tup (ea_cons wd (ea_cons (ev_dget (k := Sum.inl t) (ex _ _ st.spots) (ev_fld M.cl M.ns (ex _ _ hins) (ev_var rfl) lk_spots) (ev_row (j := 1) hrow (ev_var rfl) rfl) hv) (ea_cons (ev_row (j := 2) hrow (ev_var rfl) rfl) ea_nil))) (Nat.le_of_ble_eq_true rfl)
        · rw [hf]; unfold MRow.vals; rw [hov]; exact h3
    · obtain ⟨u, rfl, ex, hmr⟩ := p
      rw [List.length_map, hms.1, List.take_length] at hmr
      exact s_ret (ev_var rfl) fun H3 e3 => rtM (k l H3 hl1 (ex.trans e3) (hmr.ex e3))

/-! ### __init__ -/
abbrev sIni : Stmt := inClass (top 11) 0
abbrev nIni : List Str := ["self", "rows", "named", "number", "row"]
theorem scIni : FnScope nIni ["self", "rows", "named"] (defScope sIni) := ⟨rfl, rfl, rfl, by decide +kernel, rfl, by decide +kernel, by decide +kernel⟩
theorem put_skip {f g : Str} {v x : V} {r : List (Str × V)} (h : (g == f) = false) : putF f v ((g, x) :: r) = (g, x) :: putF f v r := by
  have : ¬ g = f := fun z => by rw [z, beq_self_eq_true] at h; cases h
  show (if g = f then _ else _) = _
  rw [if_neg this]
def mk2 (ra la : Addr) : List (Str × V) := [("rows", .ref ra), ("left", .ref la)]
def mk3 (ra la fa : Addr) : List (Str × V) := [("rows", .ref ra), ("left", .ref la), ("found", .ref fa)]
theorem put_left {ra la : Addr} : putF "left" (.ref la) (putF "rows" (.ref ra) []) = mk2 ra la := put_skip (by decide +kernel)
theorem put_found {ra la fa : Addr} : putF "found" (.ref fa) (mk2 ra la) = mk3 ra la fa := by
  unfold mk2
  rw [put_skip (by decide +kernel), put_skip (by decide +kernel)]; rfl
theorem put_spots {ra la fa sa : Addr} : putF "spots" (.ref sa) (mk3 ra la fa) = mkF ra la fa sa := by
  unfold mk3
  rw [put_skip (by decide +kernel), put_skip (by decide +kernel), put_skip (by decide +kernel)]; rfl
def spIni (C : Addr) : Sp := fun vs H Q _ => ∃ x ra d dx rows, ∃ nk : List Int, vs = [.ref x, .ref ra, .ref d] ∧ H x = some (.ins C dx []) ∧ RowsT H ra rows ∧ H d = some (.dK (mkD nk)) ∧ WF rows ∧ rows.length ≤ 10000 ∧
  ∀ H' la fa sa ks lft kvs, (∀ b o, H b = some o → b ≠ x → H' b = some o) → Sound rows [] ks → lft.length = rows.length → LeftOk rows nk ks (fun i => (lft[i]?).getD false) → MSt C H' x ra la fa sa rows lft (pre (fun i => (lft[i]?).getD false) 0 rows) kvs →
    (∀ (j : Nat) t q, rows[j]? = some (.label t q) → valV kvs (Sum.inl t) = some (.int (mpos (fun i => (lft[i]?).getD false) rows j : Nat))) → Q .non H'
theorem But.trans' {x : Addr} {H H1 H2 : Hp} (a : But x H H1) (b : But x H1 H2) : But x H H2 := fun c o h hc => b c o (a c o h hc) hc
theorem But.ex {x : Addr} {H H1 : Hp} (e : Ex H H1) : But x H H1 := fun c o h _ => e c o h
theorem But.upd {x : Addr} {H : Hp} {o : HO} : But x H (L2.upd H x o) := fun c u h hc => by rw [upd_ne hc]; exact h
def kFld (K : PySem.W.Frag) (i : Nat) (f : Str) (tz : TS) (D : Ends) (σ : L2.St) : VK := fun y H1 => tVar i σ H1 fun x H2 => ∃ a C dx fs, x = .ref a ∧ H2 a = some (.ins C dx fs) ∧ Cls K C ∧ NoAttr K C f ∧ fs.length < 1000 ∧ tz D σ (upd H2 a (.ins C dx (putF f y fs)))
theorem q_fldR {i : Nat} {f : Str} {tz : TS} {D : Ends} {σ : L2.St} {tv : TE} {H : Hp} (h : tv σ H (kFld K i f tz D σ)) : tSeq (sFld K (tVar i) tv f) tz D σ H := h
theorem kFld_go {i : Nat} {f : Str} {tz : TS} {D : Ends} {σ : L2.St} {H1 : Hp} {x dx : Addr} {fs : List (Str × V)} {y : V} (hσ : σ[i]? = some (some (.ref x))) (hx : H1 x = some (.ins C dx fs)) (cl : Cls K C) (na : NoAttr K C f) (hl : fs.length < 1000) (k : tz D σ (upd H1 x (.ins C dx (putF f y fs)))) : kFld K i f tz D σ y H1 :=
  ⟨.ref x, hσ, x, C, dx, fs, rfl, hx, cl, na, hl, k⟩
theorem s_forET {a : Addr} {xs : List V} {ta : TA} {j k : Nat} {σ : L2.St} {H : Hp} {tu : TS} {D : Ends} (h : EvA ta σ H [.ref a]) (hx : SqT K H a xs) (Pv : Nat → L2.St → Hp → Prop) (h0 : ∀ H1, Ex H H1 → Pv 0 σ H1) (hl : ∀ i σ' H', i ≤ xs.length → Pv i σ' H' → SqT K H' a xs)
    (hs : ∀ i x σ' Ha Hb, xs[i]? = some x → Pv i σ' Ha → Ex Ha Hb → tu { D with nx := Pv (i + 1), ct := Pv (i + 1), bk := D.nx } ((σ'.set j (some (.int (i : Nat)))).set k (some x)) Hb) (hd : ∀ σ' H', Pv xs.length σ' H' → D.nx σ' H') : tFor (iEnumT K ta) (g2 K j k) tu D σ H :=
  h H (Ex.refl H) _ fun H1 e => ⟨a, xs, rfl, ex_t e hx, for_it walk_enumT Pv (h0 H1 e) (fun i σ' H' hi p => hl i σ' H' hi p) (fun i x σ' Ha Hb hi p y => by
    obtain ⟨T, x, y, rfl, hT, rfl, h1, h2⟩ := y
    cases h1
    exact g2_go hT fun Hc ec => hs i y σ' Ha Hc h2 p ec) hd⟩
theorem mcode_len {l left : Bool} {r : Row} (h : r.Bnd) : (mcode l left r).length ≤ 5 := by
  have h3 := reads_three h
  have h4 : (loads l r).length ≤ 3 := by
    unfold loads; split
    · rw [List.length_drop]; omega
    · exact h3
  have h5 : (body r).length ≤ 1 := by cases r <;> simp [body]
  have h6 : (stores left r).length ≤ 1 := by
    unfold stores; split
    · split <;> simp
    · simp
  unfold mcode
  rw [List.length_append, List.length_append, List.length_map]; omega
theorem pre_len {left : Nat → Bool} : ∀ {rows : List Row} {i : Nat}, (∀ r ∈ rows, r.Bnd) → (pre left i rows).length ≤ 5 * rows.length
  | [], i, _ => by simp [pre]
  | r :: rows, i, h => by
    have h1 := pre_len (left := left) (rows := rows) (i := i + 1) fun x hx => h x (List.mem_cons_of_mem _ hx)
    have h2 := mcode_len (l := lf left i) (left := left i) (h r (List.mem_cons_self ..))
    simp only [pre, List.length_append, List.length_map, List.length_cons]; omega
theorem ok_Ini {f f1 f2 : Addr} {fd d1 d2 : FuncData} (F : Fun K "__init__" "Maker.__init__" sIni f fd) (T : Txt K mg o1 o2 o3 o4 o5) (M : MkT K mg C fi) (C_handed_on : CalAt P w K mg base 3 "handed_on" ["rows", "named"] spHo f1 d1) (M_make : MethAt P w K mg base 3 C "make" ["self", "number", "row"] (spMk C) f2 d2) : FnOk P w K mg base CX0 4 f fd ["self", "rows", "named"] (spIni C) := by
  refine F.ok scIni (fun vs H Q E h => ?_) (fun cdv A outer s H vs Q E hr h => ?_)
  · obtain ⟨x, ra, d, dx, rows, nk, rfl, _⟩ := h; rfl
  · obtain ⟨x, ra, d, dx, rows, nk, rfl, hx, ⟨as, hra, hrows⟩, hd, wf, hn, k⟩ := h
    have nd := scIni.nd
    have hu := hu_of hr
    refine ⟨_, (pss_cons (ps_fld (pv 0) (pv 1) rfl)
      (pss_cons (ps_fld (pv 0) (pe_call C_handed_on.ok (hr.mono (by decide)) (by rfl) C_handed_on.g C_handed_on.kp C_handed_on.b .nil pass0 (pa_cons (pv 1) (pa_cons (pv 2) pa_nil))) rfl)
      (pss_cons (ps_fld (pv 0) (pe_lst pa_nil) rfl)
      (pss_cons (ps_fld (pv 0) pe_dnewK rfl)
      (pss_one (ps_for PassesOwn.never rfl (pi_enumT (by rfl) T.enumerate (pa_cons (pv 1) pa_nil)) (pg_tup (n := 2) rfl (pgs_cons (pg_name (i := 3) nd rfl (Or.inl rfl)) (pgs_cons (pg_name (i := 4) nd rfl (Or.inl rfl)) pgs_nil))) (pss_one (ps_expr (pe_meth (pv 0) M.cl M_make.m M_make.ok (hr.mono (by decide)) M_make.b .nil pass0 (pa_cons (pv 3) (pa_cons (pv 4) pa_nil))))))))))), ?_⟩
    dsimp only [cxK, cxKn, List.map]
    have hax : ∀ {b : Addr} {xs : List V}, H b = some (.tup xs) → b ≠ x := fun h z => by rw [z, hx] at h; cases h
    have hdx : d ≠ x := fun z => by rw [z, hx] at hd; cases hd
    refine q_fldR (r_ev (ev_var rfl) fun H1 e1 => kFld_go rfl (e1 _ _ hx) M.cl M.nr (show (0 : Nat) < 1000 by decide) ?_)
    have b0 : But x H (upd H1 x (.ins C dx (putF "rows" (.ref ra) []))) := (But.ex e1).trans' But.upd
    have hxa : (upd H1 x (.ins C dx (putF "rows" (.ref ra) []))) x = some (.ins C dx (putF "rows" (.ref ra) [])) := upd_same
    generalize upd H1 x (.ins C dx (putF "rows" (.ref ra) [])) = Ha at b0 hxa ⊢
    have tl : ∀ {H' : Hp}, But x H H' → TL H H' := fun b a xs h => b a _ h (hax h)
    refine q_fldR (r_call (r_ea (ea_cons (ev_var rfl) (ea_cons (ev_var rfl) ea_nil)) fun Hb eb => ?_))
    have b1 := b0.trans' (But.ex eb)
    refine ⟨ra, d, rows, nk, rfl, RowsT.mono (tl b1) ⟨as, hra, hrows⟩, b1 _ _ hd hdx, wf, hn, fun la Hc ks lft hla ec hsnd hlen hlo hlc => ?_⟩
    have hxc := ec _ _ (eb _ _ hxa)
    have hlax : la ≠ x := fun z => by rw [z, eb _ _ hxa] at hla; cases hla
    refine kFld_go rfl hxc M.cl M.nl (show (1 : Nat) < 1000 by decide) ?_
    rw [put_left]
    have b2 : But x Hc (upd Hc x (.ins C dx (mk2 ra la))) := But.upd
    have hxd : (upd Hc x (.ins C dx (mk2 ra la))) x = some (.ins C dx (mk2 ra la)) := upd_same
    generalize upd Hc x (.ins C dx (mk2 ra la)) = Hd at b2 hxd ⊢
    refine q_fldR (el_lst ea_nil (Nat.le_of_ble_eq_true rfl) Hd (Ex.refl _) _ fun fa He hfa ee hfe => ?_)
    have hfax : fa ≠ x := fun z => by rw [z, hxd] at hfa; cases hfa
    have hlafa : la ≠ fa := fun z => by have := b2 _ _ hlc hlax; rw [z, hfa] at this; cases this
    refine kFld_go rfl (ee _ _ hxd) M.cl M.nf (by simp [mk2]) ?_
    rw [put_found]
    have b3 : But x He (upd He x (.ins C dx (mk3 ra la fa))) := But.upd
    have hxf : (upd He x (.ins C dx (mk3 ra la fa))) x = some (.ins C dx (mk3 ra la fa)) := upd_same
    generalize upd He x (.ins C dx (mk3 ra la fa)) = Hf at b3 hxf ⊢
    refine q_fldR fun sa hsa => ?_
    have hsax : sa ≠ x := fun z => by rw [z, hxf] at hsa; cases hsa
    refine kFld_go rfl (by rw [upd_ne (Ne.symm hsax)]; exact hxf) M.cl M.ns (by simp [mk3]) ?_
    rw [put_spots]
    have b4 : But x Hf (upd (upd Hf sa (.dK [])) x (.ins C dx (mkF ra la fa sa))) := (But.ex (Ex.new hsa)).trans' But.upd
    have hxg : (upd (upd Hf sa (.dK [])) x (.ins C dx (mkF ra la fa sa))) x = some (.ins C dx (mkF ra la fa sa)) := upd_same
    have hsg : (upd (upd Hf sa (.dK [])) x (.ins C dx (mkF ra la fa sa))) sa = some (.dK []) := by rw [upd_ne hsax, upd_same]
    generalize upd (upd Hf sa (.dK [])) x (.ins C dx (mkF ra la fa sa)) = Hg at b4 hxg hsg ⊢
    have b04 : But x H Hg := ((b1.trans' (But.ex ec)).trans' b2).trans' ((But.ex ee).trans' (b3.trans' b4))
    have hlg : Hg la = some (.lst (lft.map V.bl)) := b4 _ _ (b3 _ _ (ee _ _ (b2 _ _ hlc hlax)) hlax) hlax
    have hfg : Hg fa = some (.lst []) := b4 _ _ (b3 _ _ hfe hfax) hfax
    have hrg : RowsT Hg ra rows := RowsT.mono (tl b04) ⟨as, hra, hrows⟩
    have st0 : MSt C Hg x ra la fa sa rows lft [] [] := ⟨⟨dx, hxg⟩, hrg, hlg, ⟨[], hfg, All2.nil⟩, hsg, hlafa⟩
    obtain ⟨as2, hra2, hrows2⟩ := hrg
    have newfs : ∀ {b : Addr} {o : HO}, H b = some o → b ≠ fa ∧ b ≠ sa := fun {b o} h => by
      by_cases hbx : b = x
      · subst hbx; exact ⟨Ne.symm hfax, Ne.symm hsax⟩
      · have h1 := ((b1.trans' (But.ex ec)).trans' b2) _ _ h hbx
        refine ⟨fun z => ?_, fun z => ?_⟩
        · rw [z, hfa] at h1; cases h1
        · have h2 := b3 _ _ (ee _ _ h1) hbx
          rw [z, hsa] at h2; cases h2
    refine s_forET (xs := as2.map V.ref) (ea_cons (ev_var rfl) ea_nil) (st_of hra2) (fun i σ' H' => (∃ u v, σ' = [some (.ref x), some (.ref ra), some (.ref d), u, v]) ∧ ∃ kvs, MGo fa sa Hg H' ∧ MSt C H' x ra la fa sa rows lft (pre (fun i => (lft[i]?).getD false) 0 (rows.take i)) kvs ∧ kvs.length ≤ i ∧ ∀ (j : Nat) t q, j < i → rows[j]? = some (.label t q) → valV kvs (Sum.inl t) = some (.int (mpos (fun i => (lft[i]?).getD false) rows j : Nat)))
      (fun Hh eh => ⟨⟨none, none, rfl⟩, [], MGo.ex eh, st0.ex eh, Nat.le_refl _, fun j t q h => by omega⟩) (fun i σ' H' _ z => by
        obtain ⟨_, kvs, g, _⟩ := z
        exact st_of (st0.tl g _ _ hra2)) (fun i v σ' Hi Hj hv z eij => ?_) (fun σ' Hi z => ?_)
    · obtain ⟨⟨u, w', rfl⟩, kvs, g, st, hkl, hkv⟩ := z
      rw [List.getElem?_map] at hv
      cases hai : as2[i]? with
      | none => rw [hai] at hv; cases hv
      | some b =>
      rw [hai] at hv; cases hv
      obtain ⟨r, hr1, hr2⟩ := hrows2.get hai
      have hi : i < rows.length := (List.getElem?_eq_some_iff.mp hr1).1
      have stj := st.ex eij
      have gj := g.trans (MGo.ex eij)
      obtain ⟨dx2, hins⟩ := stj.ins
      have hpl := pre_len (left := fun i => (lft[i]?).getD false) (rows := rows.take i) (i := 0) fun r hr => wf.bnd r (List.mem_of_mem_take hr)
      have hpl2 : (rows.take i).length ≤ 10000 := by rw [List.length_take]; omega
      refine s_dropR ⟨.ref x, rfl, x, dx2, _, rfl, hins, lk_no (by decide +kernel), r_ea (ea_cons (ev_var rfl) (ea_cons (ev_var rfl) ea_nil)) fun Hk ek => ?_⟩
      refine ⟨x, ra, la, fa, sa, rows, lft, _, kvs, b, i, r, rfl, stj.ex ek, (hr2.mono (st0.tl gj)).mono (tl_ex ek), hr1, hlen, wf.bnd r (List.mem_of_getElem? hr1), by omega, by omega, fun Hl gl stl => nxM ?_⟩
      refine ⟨⟨_, _, rfl⟩, spotK r (pre (fun i => (lft[i]?).getD false) 0 (rows.take i)).length kvs, gj.trans ((MGo.ex ek).trans gl), ?_, ?_, fun j t q hj hjl => ?_⟩
      · have e : pre (fun i => (lft[i]?).getD false) 0 (rows.take (i + 1)) = pre (fun i => (lft[i]?).getD false) 0 (rows.take i) ++ (mcode (lf (fun i => (lft[i]?).getD false) i) ((lft[i]?).getD false) r).map (⟨·, i⟩) := by
          rw [take_succ_some hr1, pre_append]
          have : 0 + (rows.take i).length = i := by rw [List.length_take]; omega
          rw [this]; simp [pre]
        rw [e]; exact stl
      · unfold spotK
        split
        · exact Nat.le_trans (length_putK _ _ _) (by omega)
        · omega
      · by_cases hji : j = i
        · subst hji
          rw [hr1] at hjl; cases hjl
          show valV (putK kvs (Sum.inl t) _) _ = _
          rw [valV_put, if_pos rfl]; rfl
        · have := hkv j t q (by omega) hjl
          unfold spotK
          split
          · rename_i kk hkk
            obtain ⟨q2, rfl⟩ := labelOf_eq hkk
            rw [valV_put, if_neg, this]
            intro ze
            have ze := Sum.inl.inj ze
            subst ze
            exact hji (wf.uniq _ _ _ _ _ hjl hr1)
          · exact this
    · obtain ⟨⟨u, w', rfl⟩, kvs, g, st, hkl, hkv⟩ := z
      have hl2 : (as2.map V.ref).length = rows.length := by rw [List.length_map, hrows2.1]
      rw [hl2] at st hkv
      rw [List.take_length] at st
      refine nxM (k Hi la fa sa ks lft kvs (fun b o h hb => g _ _ (b04 _ _ h hb) (newfs h).1 (newfs h).2) hsnd hlen hlo st fun j t q hj => hkv j t q (List.getElem?_eq_some_iff.mp hj).1 hj)
end
end K51

/-! Walks 12: machine_of. -/
namespace K51
open PySem L2 Evl
def bdN (ns : List Nm5) (i : Nat) (s : L2.St) : L2.St := match ns[i]? with
  | some n => ((((s.set 9 (some (.str n.word))).set 10 (some (.str n.sort))).set 8 (some (.int n.cell))).set 11 (some (.int n.first))).set 12 (some (.int n.last))
  | none => s
theorem pre_target {left : Nat → Bool} : ∀ {rows : List Row} {i : Nat} {m : MRow} {t : Int}, m ∈ pre left i rows → mtarget m.op = some t → ∃ r ∈ rows, r.target = some t
  | [], i, m, t, h, _ => by simp [pre] at h
  | r :: rows, i, m, t, h, ht => by
    simp only [pre, List.mem_append, List.mem_map] at h
    rcases h with ⟨op, hop, rfl⟩ | h
    · refine ⟨r, List.mem_cons_self .., ?_⟩
      unfold mcode at hop
      rw [List.mem_append, List.mem_append] at hop
      rcases hop with h | h | h
      · obtain ⟨c, _, rfl⟩ := List.mem_map.mp h; cases ht
      · cases r <;> simp [body] at h <;> subst h <;> simp [mtarget] at ht <;> simp [Row.target, ht]
      · unfold stores at h
        split at h
        · split at h
          · simp at h
          · simp at h; subst h; cases ht
        · simp at h
    · obtain ⟨r', h1, h2⟩ := pre_target h ht
      exact ⟨r', List.mem_cons_of_mem _ h1, h2⟩
section
variable {P : Program} {w : World} {K : PySem.W.Frag} {mg : Str → Option Value} {base : Heap} {o1 o2 o3 o4 o5 C fi : Addr}
theorem ei_names {σ : L2.St} {H : Hp} {na : Addr} {ns : List Nm5} {tl : TE} (h : Ev tl σ H (.ref na)) (hn : NamesAt H na ns) : EvI (iTup K tl) (gTup K 5 (gCons (gName 9) (gCons (gName 10) (gCons (gName 8) (gCons (gName 11) (gCons (gName 12) gNil)))))) σ H ns.length (bdN ns) := fun H1 e R k => by
  obtain ⟨bs, h1, h2⟩ := hn
  refine h H1 e _ fun H2 e2 => ⟨na, rfl, ⟨_, st_of ((e.trans e2) _ _ h1)⟩, k _ H2 e2 ⟨_, _, (by
    have := walk_tup (K := K) (a := na) (xs := bs.map V.ref)
    rw [List.length_map, h2.1] at this
    exact this), fun H3 e3 => st_of (((e.trans e2).trans e3) _ _ h1), fun i Ha x Hb hi ea y σ0 R r => ?_⟩⟩
  obtain ⟨rfl, hx⟩ := y
  have hni : ns[i]? = some ns[i] := List.getElem?_eq_getElem hi
  obtain ⟨b, hb1, hb2⟩ := h2.get' hni
  rw [List.getElem?_map, hb1] at hx
  have hx : x = .ref b := (Option.some.inj hx).symm
  subst hx
  have q := r Hb (Ex.refl Hb)
  unfold bdN at q
  rw [hni] at q
  exact ⟨b, _, rfl, st_of ((((e.trans e2).trans ea)) _ _ hb2), rfl, _, _, rfl, _, _, rfl, _, _, rfl, _, _, rfl, _, _, rfl, rfl, q⟩
abbrev sMo : Stmt := top 12
abbrev nMo : List Str := ["made", "name", "kinds", "kind", "is_out", "rows", "names", "named", "cell", "word", "sort", "first", "last"]
theorem scMo : FnScope nMo ["made"] (defScope sMo) := ⟨rfl, rfl, rfl, by decide +kernel, rfl, by decide +kernel, by decide +kernel⟩
def spMo : Sp := fun vs H Q _ => ∃ m vn vk vo pa ra na rows np ns, vs = [.ref m] ∧ MadeAt H m vn vk vo pa ra na rows ∧ PartsAt H pa np ∧ NamesAt H na ns ∧ np ≤ 100 ∧ ns.length ≤ 100 ∧ WF rows ∧ rows.length ≤ 10000 ∧
  ∀ p H2 ks left nk, H p = none → Ex H H2 → Sound rows [] ks → LeftOk rows nk ks left → (∀ x ∈ shownCs ns np, x ∈ nk) → MRowsAt H2 p (mrows left rows) → Q (.ref p) H2
theorem ok_Mo {f f1 f2 : Addr} {fd d1 d2 : FuncData} (F : Fun K "machine_of" "machine_of" sMo f fd) (T : Txt K mg o1 o2 o3 o4 o5) (M : MkT K mg C fi) (M_init : MethAt P w K mg base 4 C "__init__" ["self", "rows", "named"] (spIni C) fi d1) (M_led : MethAt P w K mg base 1 C "led" ["self"] (spLed C) f2 d2) : FnOk P w K mg base CX0 6 f fd ["made"] spMo := by
  refine F.ok scMo (fun vs H Q E h => ?_) (fun cdv A outer s H vs Q E hr h => ?_)
  · obtain ⟨m, vn, vk, vo, pa, ra, na, rows, np, ns, rfl, _⟩ := h; rfl
  · obtain ⟨m, vn, vk, vo, pa, ra, na, rows, np, ns, rfl, ⟨hm, hrt⟩, hp, hnm, hnp, hns, wf, hn, k⟩ := h
    have nd := scMo.nd
    have hu := hu_of hr
    refine ⟨_, (pss_cons (ps_asg (pv 0) (pg_tup (n := 6) rfl (pgs_cons (pg_name (i := 1) nd rfl (Or.inl rfl)) (pgs_cons (pg_name (i := 2) nd rfl (Or.inl rfl)) (pgs_cons (pg_name (i := 3) nd rfl (Or.inl rfl)) (pgs_cons (pg_name (i := 4) nd rfl (Or.inl rfl)) (pgs_cons (pg_name (i := 5) nd rfl (Or.inl rfl)) (pgs_cons (pg_name (i := 6) nd rfl (Or.inl rfl)) pgs_nil))))))))
      (pss_cons (ps_setDc (i := 7) (own := [("word", 9), ("sort", 10), ("cell", 8), ("first", 11), ("last", 12)]) (g := gTup K 5 (gCons (gName 9) (gCons (gName 10) (gCons (gName 8) (gCons (gName 11) (gCons (gName 12) (gNil))))))) (by rfl) nd rfl rfl (sw_dict rfl rfl rfl (by decide +kernel)) (pi_tup (pv 6)) (blkOk_by (own := [("word", 9), ("sort", 10), ("cell", 8), ("first", 11), ("last", 12)]) (N := nMo) (sc := defScope sMo) (by decide +kernel)) (fun _ _ _ _ _ => (pg_tup (n := 5) rfl (pgs_cons (pg_name (i := 9) nd rfl (Or.inl rfl)) (pgs_cons (pg_name (i := 10) nd rfl (Or.inl rfl)) (pgs_cons (pg_name (i := 8) nd rfl (Or.inl rfl)) (pgs_cons (pg_name (i := 11) nd rfl (Or.inl rfl)) (pgs_cons (pg_name (i := 12) nd rfl (Or.inl rfl)) pgs_nil))))))) (fun _ _ _ _ _ => pts_nil) (fun _ _ _ _ _ => (pv 8)) (fun _ _ _ _ _ => pe_bl))
      (pss_cons (ps_for PassesOwn.never rfl (pi_range1 rfl T.range (pa_cons (pe_callB call_len_seq (by rfl) T.len PySem.boot_len (pa_cons (pv 2) pa_nil)) pa_nil)) (pg_name (i := 8) nd rfl (Or.inl rfl)) (pss_one (ps_dput hu (pv 7) (pv 8) pe_bl rfl)))
      (pss_one (ps_ret (pe_meth0 (pe_make M.make M_init.ok hr rfl M.g M_init.b .nil pass0 (pa_cons (pv 5) (pa_cons (pv 7) pa_nil))) M.cl M_led.m M_led.ok (hr.mono (by decide)) M_led.b .nil pass0)))))), ?_⟩
    dsimp only [cxK, cxKn, List.map]
    refine q_un6 rfl hm ?_
    obtain ⟨xs, hp1, hp2, hp3⟩ := id hp
    have hd := ed_dc (tt := tYes) (tk := tVar 8) (tv := tC (.bl true)) (fun _ => true) (fun i => ((Sum.inl (((ns.map Nm5.cell)[i]?).getD 0) : Key), V.bl true)) (ei_names (K := K) (σ := [some (.ref m), some vn, some (.ref pa), some vk, some vo, some (.ref ra), some (.ref na), none, none, none, none, none, none]) (H := H) (tl := tVar 6) (ev_var rfl) hnm) (vs := [9, 10, 8, 11, 12]) (by omega) (fun i hi => ?_) (fun i H1 e1 hi => et_yes) (fun i H1 e1 hi _ => ?_) (fun i H1 e1 hi _ => ev_c)
    rotate_left
    · unfold bdN; rw [List.getElem?_eq_getElem hi]; rfl
    · have hni : ns[i]? = some ns[i] := List.getElem?_eq_getElem hi
      unfold bdN
      rw [hni, List.getElem?_map, hni]
      exact ev_var rfl
    have hcs := cells_given (ks := ns.map Nm5.cell) (fun _ => true) ns.length (by rw [List.length_map]; exact Nat.le_refl _)
    rw [hcs, keep_all, List.take_of_length_le (by rw [List.length_map]; exact Nat.le_refl _), merge_cells] at hd
    refine q_asgD hd fun d H1 hd1 e1 h1 => ?_
    have ha1 := e1 _ _ hp1
    refine q_forR1 (n := (np : Int)) ?_ (by omega) (fun i σ' H' => (∃ u, σ' = [some (.ref m), some vn, some (.ref pa), some vk, some vo, some (.ref ra), some (.ref na), some (.ref d), u, none, none, none, none]) ∧ Ex H H' ∧ H' d = some (.dK (mkD (addAll (addAll [] (ns.map Nm5.cell)) ((List.range i).map Int.ofNat))))) (fun H2 e2 => ⟨⟨none, rfl⟩, e1.trans e2, e2 _ _ h1⟩) (fun i σ' H2 hi p => ?_) (fun σ' H2 p => ?_)
    · have := ea_cons (ev_lenT (K := K) (σ := [some (.ref m), some vn, some (.ref pa), some vk, some vo, some (.ref ra), some (.ref na), some (.ref d), none, none, none, none, none]) (ta := tVar 2) (ev_var rfl) (st_of ha1)) ea_nil
      rw [hp2] at this
      exact this
    · obtain ⟨⟨u, rfl⟩, ex, hd2⟩ := p
      refine s_dput (k := Sum.inl (i : Int)) hd2 ev_c (ev_var rfl) (ev_var rfl) ?_ fun H3 e3 => nxM ⟨⟨_, rfl⟩, Ex.mut (ex.trans e3) hd1, ?_⟩
      · rw [len_mkD]
        have l1 := len_addAll (a := addAll [] (ns.map Nm5.cell)) (b := (List.range i).map Int.ofNat)
        have l2 := len_addAll (a := []) (b := ns.map Nm5.cell)
        simp only [List.length_map, List.length_range, List.length_nil] at l1 l2
        omega
      · rw [upd_same, put_mkD, List.range_succ, List.map_append, List.map_singleton, addAll_snoc]; rfl
    · obtain ⟨⟨u, rfl⟩, ex, hd2⟩ := p
      rw [show ((np : Int)).toNat = np by omega] at hd2
      have hmem : ∀ x ∈ shownCs ns np, x ∈ addAll (addAll [] (ns.map Nm5.cell)) ((List.range np).map Int.ofNat) := fun x hx => by
        rw [mem_addAll, mem_addAll]
        rcases List.mem_append.mp hx with z | z
        · exact .inl (.inr z)
        · exact .inr z
      generalize addAll (addAll [] (ns.map Nm5.cell)) ((List.range np).map Int.ofNat) = nk at hd2 hmem
      refine s_retR (r_ea (ea_cons (ev_var rfl) (ea_cons (ev_var rfl) ea_nil)) fun H3 e3 x dx hx hdx hne => ?_)
      have e03 := ex.trans e3
      have eX : Ex H3 (upd (upd H3 dx (.own x)) x (.ins C dx [])) := (Ex.new hdx).trans (Ex.new (by rw [upd_ne (Ne.symm hne)]; exact hx))
      refine ⟨x, ra, d, dx, rows, nk, rfl, upd_same, hrt.mono (tl_ex (e03.trans eX)), eX _ _ (e3 _ _ hd2), wf, hn, fun H5 la fa sa ks lft kvs hbut hsnd hlen hlo st hkv => ⟨rfl, ?_⟩⟩
      have e35 : Ex H3 H5 := fun b o h => hbut b o (eX _ _ h) (fun z => by rw [z, hx] at h; cases h)
      obtain ⟨dx5, hins⟩ := st.ins
      refine ⟨x, dx5, _, rfl, hins, lk_no (by decide +kernel), ?_⟩
      have hpl := pre_len (left := fun i => (lft[i]?).getD false) (rows := rows) (i := 0) wf.bnd
      refine ⟨x, ra, la, fa, sa, rows, lft, _, kvs, fun i => (lft[i]?).getD false, rfl, st, by omega, fun mr hmr t ht => ?_, fun p H6 hp6 e6 hmr => rtM ?_⟩
      · obtain ⟨r, h1, h2⟩ := pre_target hmr ht
        obtain ⟨i, hi⟩ := List.mem_iff_getElem?.mp h1
        obtain ⟨j, q, hj⟩ := wf.targ i r t hi h2
        rw [idx_eq wf hj]
        exact hkv j t q hj
      · exact k p H6 ks _ nk (fresh_back (e03.trans e35) hp6) ((e03.trans e35).trans e6) hsnd hlo hmem hmr
end
end K51

/-! Walks 13: the law's reckon and came. -/
namespace K51
open PySem L2 Evl
section
variable {P : Program} {w : World} {K : PySem.W.Frag} {mg : Str → Option Value} {base : Heap} {o1 o2 o3 o4 o5 : Addr}
def Flt.word : Flt → S
  | .nought => "nought"
  | .great => "great"
def rkV : Except Flt Int → V
  | .ok v => .int v
  | .error e => .str e.word
abbrev sLk : Stmt := top 43
abbrev nLk : List Str := ["_law_word", "_law_one", "_law_other", "_law_found"]
theorem scLk : FnScope nLk ["_law_word", "_law_one", "_law_other"] (defScope sLk) := ⟨rfl, rfl, rfl, by decide +kernel, rfl, by decide +kernel, by decide +kernel⟩
def spLk : Sp := fun vs H Q _ => ∃ (o : Op) (a b : Int), vs = [.str o.word, .int a, .int b] ∧ Small a ∧ Small b ∧ RetV (rkV (o.ap a b)) H Q
theorem ev_big {σ : L2.St} {H : Hp} : Ev (tOp (rI CPow fun i j => .int (i ^ j.toNat)) (tC (.int 10)) (tC (.int 12))) σ H (.int big) := ev_op ev_c ev_c (rv_I (by unfold CPow; decide))
theorem ok_Lk {f : Addr} {fd : FuncData} (F : Fun K "_law_reckon" "_law_reckon" sLk f fd) (T : Txt K mg o1 o2 o3 o4 o5) : FnOk P w K mg base CX0 1 f fd ["_law_word", "_law_one", "_law_other"] spLk := by
  refine F.ok scLk (fun vs H Q E h => ?_) (fun cdv A outer s H vs Q E hr h => ?_)
  · obtain ⟨o, a, b, rfl, _⟩ := h; rfl
  · obtain ⟨o, a, b, rfl, ha, hb, k⟩ := h
    have nd := scLk.nd
    have hu := hu_of hr
    refine ⟨_, (pss_cons (ps_if (pt_cmpR op_in_seq (pv 0) (pe_tup (pa_cons pe_str (pa_cons pe_str pa_nil))) rfl) (pss_one (ps_ret (pe_ifExp (pt_cmpR op_eq (pv 2) pe_int (nomark _)) pe_str (pe_ifExp (pt_cmpR op_eq (pv 0) pe_str (nomark _)) (pe_op op_fdivS (pv 1) (pv 2)) (pe_op op_sub (pv 1) (pe_op op_mul (pe_op op_fdivS (pv 1) (pv 2)) (pv 2))))))) pss_nil)
      (pss_cons (ps_if (pt_cmpR op_in_seq (pv 0) (pe_tup (pa_cons pe_str (pa_cons pe_str pa_nil))) rfl) (pss_one (ps_ret (pe_ifExp (pt_cmpR op_eq (pv 0) pe_str (nomark _)) (pe_callTy call_int1 (by rfl) T.int (by decide +kernel) (pa_cons (pe_cmpR op_lt (pv 1) (pv 2) (nomark _)) pa_nil)) (pe_callTy call_int1 (by rfl) T.int (by decide +kernel) (pa_cons (pe_cmpR op_eq (pv 1) (pv 2) (nomark _)) pa_nil))))) pss_nil)
      (pss_cons (ps_set (i := 3) nd rfl (Or.inl rfl) (pe_ifExp (pt_cmpR op_eq (pv 0) pe_str (nomark _)) (pe_op op_add (pv 1) (pv 2)) (pe_ifExp (pt_cmpR op_eq (pv 0) pe_str (nomark _)) (pe_op op_sub (pv 1) (pv 2)) (pe_op op_mul (pv 1) (pv 2)))))
      (pss_one (ps_ret (pe_ifExp (pt_chain op_le op_le (pe_op op_sub pe_int (pe_op op_pow pe_int pe_int)) (pv 3) (pe_op op_pow pe_int pe_int)) (pv 3) pe_str)))))), ?_⟩
    dsimp only [cxK, cxKn, List.map]
    have mul : CMul (a.fdiv b) b := .inr (by unfold Small big at hb; omega)
    have mul2 : CMul a b := .inl (by unfold Small big at ha; omega)
    have word : ∀ {s : L2.St} {H1 : Hp}, Ev (tVar 0) (some (.str o.word) :: s) H1 (.str (Row.two o 0 0 0 ⟨0, 0⟩).word) := ev_var rfl
    refine q_when (et_words [.two .over, .two .rest] (by decide) (by decide +kernel) word) (fun h1 H1 e1 => ?_) (fun h1 H1 e1 => ?_)
    · refine s_ret (v := rkV (o.ap a b)) ?_ fun H3 e3 => rtM (k H3 (e1.trans e3))
      by_cases hz : b = 0
      · have : o.ap a b = .error .nought := by cases o <;> simp [Row.tag] at h1 <;> simp [Op.ap, hz]
        rw [this]
        exact ev_if (b := true) (et_is (et_test (ev_op (ev_var rfl) ev_c (rv_eq rfl))) (by simp [hz])) (fun _ => ev_c) (fun z => by cases z)
      · refine ev_if (b := false) (et_is (et_test (ev_op (ev_var rfl) ev_c (rv_eq rfl))) (by simp [hz])) (fun z => by cases z) (fun _ => ev_if (et_word (.two .over) word) (fun h => ?_) (fun h => ?_))
        · have ho : o = .over := by cases o <;> simp [Row.tag] at h <;> rfl
          subst ho
          have e : Op.ap .over a b = .ok (a.fdiv b) := by simp [Op.ap, hz]
          rw [e]
          exact ev_op (ev_var rfl) (ev_var rfl) (rv_I ⟨hz, log2_small hb⟩)
        · have ho : o = .rest := by cases o <;> simp [Row.tag] at h h1 <;> rfl
          subst ho
          have e : Op.ap .rest a b = .ok (a - a.fdiv b * b) := by simp [Op.ap, hz]
          rw [e]
          exact ev_op (ev_var rfl) (ev_op (ev_op (ev_var rfl) (ev_var rfl) (rv_I ⟨hz, log2_small hb⟩)) (ev_var rfl) (rv_I mul)) rv_I0
    · refine q_when (et_words [.two .less, .two .same] (by decide) (by decide +kernel) word) (fun h2 H2 e2 => ?_) (fun h2 H2 e2 => ?_)
      · refine s_ret (v := rkV (o.ap a b)) ?_ fun H3 e3 => rtM (k H3 ((e1.trans e2).trans e3))
        cases o <;> simp [Row.tag] at h2
        · refine ev_if (et_word (.two .less) word) (fun _ => ev_is (ev_intB (b := decide (a < b)) (ev_op (ev_var rfl) (ev_var rfl) rv_I0)) ?_) (fun z => by simp [Row.tag] at z)
          by_cases h : a < b <;> simp [Op.ap, rkV, h]
        · refine ev_if (et_word (.two .less) word) (fun z => by simp [Row.tag] at z) (fun _ => ev_is (ev_intB (b := decide (a = b)) (ev_is (ev_op (ev_var rfl) (ev_var rfl) (rv_eq rfl)) (by by_cases h : a = b <;> simp [h]))) ?_)
          by_cases h : a = b <;> simp [Op.ap, rkV, h]
      · have e02 := e1.trans e2
        have fin : ∀ v : Int, o.ap a b = fit v → ∀ H3, Ex H H3 → tRet (tIf (tTest (tChain (rI0 fun i j => V.bl (decide (i ≤ j))) (rI0 fun i j => V.bl (decide (i ≤ j))) (tOp (rI0 fun i j => V.int (i - j)) (tC (V.int 0)) (tOp (rI CPow fun i j => .int (i ^ j.toNat)) (tC (.int 10)) (tC (.int 12)))) (tVar 3) (tOp (rI CPow fun i j => .int (i ^ j.toNat)) (tC (.int 10)) (tC (.int 12))))) (tVar 3) (tC (.str "great")))
            { nx := fun x H' => Q V.non H', rt := Q } [some (.str o.word), some (.int a), some (.int b), some (.int v)] H3 := fun v hv H3 e3 => by
          refine s_ret (v := rkV (o.ap a b)) ?_ fun H4 e4 => rtM (k H4 (e3.trans e4))
          rw [hv]
          refine ev_if (et_test (ev_chain (ev_op ev_c ev_big rv_I0) (ev_var rfl) rv_I0 (fun _ => ev_big) (fun _ => rv_I0))) (fun h => ?_) (fun h => ?_)
          · have h' : 0 - big ≤ v ∧ v ≤ big := by simpa using h
            unfold fit; rw [if_pos h']; exact ev_var rfl
          · have h' : ¬(0 - big ≤ v ∧ v ≤ big) := by
              intro z
              have : (decide (0 - big ≤ v) && decide (v ≤ big)) = true := by rw [decide_eq_true z.1, decide_eq_true z.2]; rfl
              rw [this] at h; cases h
            unfold fit; rw [if_neg h']; exact ev_c
        cases o <;> simp [Row.tag] at h1 h2
        · exact q_asg (v := .int (a + b)) (ev_if (et_word (.two .add) word) (fun _ => ev_op (ev_var rfl) (ev_var rfl) rv_I0) (fun z => by simp [Row.tag] at z)) fun H3 e3 => fin _ rfl H3 (e02.trans e3)
        · exact q_asg (v := .int (a - b)) (ev_if (et_word (.two .add) word) (fun z => by simp [Row.tag] at z) (fun _ => ev_if (et_word (.two .take) word) (fun _ => ev_op (ev_var rfl) (ev_var rfl) rv_I0) (fun z => by simp [Row.tag] at z))) fun H3 e3 => fin _ rfl H3 (e02.trans e3)
        · exact q_asg (v := .int (a * b)) (ev_if (et_word (.two .add) word) (fun z => by simp [Row.tag] at z) (fun _ => ev_if (et_word (.two .take) word) (fun z => by simp [Row.tag] at z) (fun _ => ev_op (ev_var rfl) (ev_var rfl) (rv_I mul2)))) fun H3 e3 => fin _ rfl H3 (e02.trans e3)
/-! ### came -/
abbrev sLc : Stmt := top 44
abbrev nLc : List Str := ["_law_file", "_law_name", "_law_worths", "_law_found", "_law_worth"]
theorem scLc : FnScope nLc ["_law_file", "_law_name", "_law_worths"] (defScope sLc) := ⟨rfl, rfl, rfl, by decide +kernel, rfl, by decide +kernel, by decide +kernel⟩
def spLc : Sp := fun vs H Q _ => ∃ (f n : S) (a : Addr) (xs : List Int), vs = [.str f, .str n, .ref a] ∧ H a = some (.lst (xs.map V.int)) ∧ (f ++ n).length ≤ 100 ∧ xs.length ≤ 60000 ∧ RetV (.int (came f n xs)) H Q
theorem ok_Lc {f : Addr} {fd : FuncData} (F : Fun K "_law_came" "_law_came" sLc f fd) (T : Txt K mg o1 o2 o3 o4 o5) : FnOk P w K mg base CX0 1 f fd ["_law_file", "_law_name", "_law_worths"] spLc := by
  refine F.ok scLc (fun vs H Q E h => ?_) (fun cdv A outer s H vs Q E hr h => ?_)
  · obtain ⟨f, n, a, xs, rfl, _⟩ := h; rfl
  · obtain ⟨ff, n, a, xs, rfl, ha, hz, hx, k⟩ := h
    have nd := scLc.nd
    refine ⟨_, (pss_cons (ps_set (i := 3) nd rfl (Or.inl rfl) (pe_op op_add (pe_op op_mul (pe_callB call_len_str (by rfl) T.len PySem.boot_len (pa_cons (pe_op op_add_str (pv 0) (pv 1)) pa_nil)) pe_int) (pe_callB call_len_seq (by rfl) T.len PySem.boot_len (pa_cons (pv 2) pa_nil))))
      (pss_cons (ps_for PassesOwn.never rfl (pi_list (pv 2)) (pg_name (i := 4) nd rfl (Or.inl rfl)) (pss_one (ps_set (i := 3) nd rfl (Or.inl rfl) (pe_op op_mod (pe_op op_add (pe_op op_mul (pv 3) pe_int) (pv 4)) pe_int))))
      (pss_one (ps_ret (pe_op op_sub (pv 3) pe_int))))), ?_⟩
    dsimp only [cxK, cxKn, List.map]
    have hlen : ff.length + n.length ≤ 100 := by rw [Str.length_append] at hz; exact hz
    have t1 : Ev (tCB (fun xs H Q => ∃ z, xs = [.str z] ∧ z.length ≤ sizeLine ∧ Q (.int z.length) H) (tCons (tOp (fun x y H Q => ∃ i j, x = .str i ∧ y = .str j ∧ i.length + j.length ≤ sizeLine ∧ Q (.str (i ++ j)) H) (tVar 0) (tVar 1)) tNil)) [some (.str ff), some (.str n), some (.ref a), none, none] H (.int ((ff ++ n).length : Int)) := fun H1 e Q q =>
      ⟨_, rfl, _, rfl, ff, n, rfl, rfl, sz_of (by omega), _, rfl, sz_of (by omega), q H1 (Ex.refl _)⟩
    have t2 := ev_len (K := K) (σ := [some (.str ff), some (.str n), some (.ref a), none, none]) (H := H) (ta := tVar 2) (ev_var rfl) (sq_of ha)
    rw [List.length_map] at t2
    refine q_asg (ev_op (ev_op t1 ev_c (rv_I (.inr (by decide)))) t2 rv_I0) fun H1 e1 => ?_
    generalize hi0 : ((ff ++ n).length : Int) * 7 + (xs.length : Int) = i0
    refine q_forLn (xs := xs.map V.int) (ev_var rfl) (sq_of (e1 _ _ ha)) (fun i σ' H' => (∃ u, σ' = [some (.str ff), some (.str n), some (.ref a), some (.int ((xs.take i).foldl (fun a v => (a * 31 + v) % 1009) i0)), u]) ∧ Ex H H') (fun H2 e2 => ⟨⟨none, rfl⟩, e1.trans e2⟩) (fun i σ' H' _ p => sq_of (p.2 _ _ ha)) (fun i v σ' H2 hv p => ?_) (fun σ' H2 p => ?_)
    · obtain ⟨⟨u, rfl⟩, ex⟩ := p
      rw [List.getElem?_map] at hv
      cases hxi : xs[i]? with
      | none => rw [hxi] at hv; cases hv
      | some x =>
        rw [hxi] at hv; cases hv
        refine s_asg (ev_op (ev_op (ev_op (ev_var rfl) ev_c (rv_I (.inr (by decide)))) (ev_var rfl) rv_I0) ev_c (rv_I (by decide))) fun H3 e3 => nxM ⟨⟨some (.int x), ?_⟩, ex.trans e3⟩
        rw [take_succ_some hxi, List.foldl_append]; rfl
    · obtain ⟨⟨u, rfl⟩, ex⟩ := p
      refine s_ret (ev_op (ev_var rfl) ev_c rv_I0) fun H3 e3 => rtM ?_
      have := k H3 (ex.trans e3)
      rw [List.length_map, List.take_length]
      unfold came at this
      rw [hi0] at this
      exact this
end
end K51

/-! Walks 14: the law's worked. -/
namespace K51
open PySem L2 Evl
/-- the keeps' dict -/
def KeepsAt (H : Hp) (d : Addr) (k : Keeps) (n : Nat) : Prop := ∃ kvs : List (List Key × V), H d = some (.dT kvs) ∧ kvs.length ≤ n ∧ ∀ f m, valV kvs [Sum.inr f, Sum.inr m] = (k f m).map V.int
theorem KeepsAt.ex {H H' : Hp} {d : Addr} {k : Keeps} {n m : Nat} (h : KeepsAt H d k n) (e : Ex H H') (hm : n ≤ m) : KeepsAt H' d k m :=
  let ⟨kvs, h1, h2, h3⟩ := h
  ⟨kvs, e _ _ h1, by omega, h3⟩
theorem KeepsAt.at {H H' : Hp} {d : Addr} {k : Keeps} {n m : Nat} (h : KeepsAt H d k n) (e : H' d = H d) (hm : n ≤ m) : KeepsAt H' d k m :=
  let ⟨kvs, h1, h2, h3⟩ := h
  ⟨kvs, by rw [e]; exact h1, by omega, h3⟩
/-- what an op does with pile and keeps, what it tells -/
inductive Wk (r : Row) : MOp → List Int → Keeps → List PyData → List Int → Keeps → Prop
  | say {kd p v k} : Wk r (.say kd) (p ++ [v]) k [.str kd, .int v] p k
  | lay {n p v k} : Wk r (.lay n) (p ++ [v]) k [.str n, .int v] p (setK k fileF n v)
  | give0 {p k} : Wk r (.give false) p k [.none] p k
  | give1 {p v k} : Wk r (.give true) (p ++ [v]) k [.int v] p k
  | fetch {f n p k} : Wk r (.fetch f n) p k [.str f, .str n] (p ++ [fetched k f n]) k
  | call {f n many p vs k} : vs.length = many → Wk r (.call f n many) (p ++ vs) k [.str f, .str n, .list (vs.map PyData.int)] (p ++ backOf r f n vs) k
  | two {o p a b v k} : o.ap a b = .ok v → Wk r (.two o) (p ++ [a, b]) k [] (p ++ [v]) k
  | twoF {o p a b w k} : o.ap a b = .error w → Wk r (.two o) (p ++ [a, b]) k [.str w.word] p k
def MOp.Bnd : MOp → Prop
  | .fetch f n => (f ++ n).length ≤ 100 ∧ Nm f ∧ Nm n
  | .call f n _ => (f ++ n).length ≤ 100 ∧ Nm f ∧ Nm n
  | .lay n => Nm n
  | .say kd => Nm kd
  | .push n => Small n
  | _ => True
theorem is_mword (u t : MTag) : decide (V.str u.word = V.str t.word) = decide (u = t) :=
  eq_of_beq (MTag.all (p := fun t => decide (V.str u.word = V.str t.word) == decide (u = t)) (MTag.all (p := fun u => MTag.all' fun t => decide (V.str u.word = V.str t.word) == decide (u = t)) (by decide +kernel) u) t)
section
variable {K : PySem.W.Frag} {σ : L2.St} {H : Hp} {te : TE} {D : Ends} {tu tz : TS} {t : TT}
theorem et_mword {u : MTag} (t : MTag) (h : Ev te σ H (.str u.word)) : EvT (tTest (tOp rEq te (tC (.str t.word)))) σ H (decide (u = t)) := et_is (et_test (ev_op h ev_c (rv_eq rfl))) (is_mword u t)
theorem et_mwords {u : MTag} (ts : List MTag) (hl : ts.length ≤ 100) (ht : MTag.all' (fun t => inV (.str t.word) (ts.map fun t => V.str t.word) == ts.contains t) = true) (h : Ev te σ H (.str u.word)) :
    EvT (tTest (tOp (rIn K false) te (tTup ((ts.map MTag.word).foldr (fun w t => tCons (tC (.str w)) t) tNil)))) σ H (ts.contains u) := by
  have e : (ts.map MTag.word).map V.str = ts.map fun t => V.str t.word := by simp
  have fl : ((ts.map MTag.word).map V.str).all flatV = true := by
    rw [List.all_eq_true]; intro x hx
    obtain ⟨y, _, rfl⟩ := List.mem_map.mp hx; rfl
  refine et_is (et_test (ev_inU h (eu_tup ea_strs (by simp; omega)) rfl fl)) ?_
  rw [e]
  exact eq_of_beq (MTag.all ht u)
theorem q_skip (h : EvT t σ H false) (k : ∀ H1, Ex H H1 → tz D σ H1) : tSeq (tIfS t tu tNext) tz D σ H := q_when h (fun z => by cases z) fun _ H1 e => k H1 e
theorem q_take (h : EvT t σ H true) (k : ∀ H1, Ex H H1 → tu { D with nx := tz D } σ H1) : tSeq (tIfS t tu tNext) tz D σ H := q_when h (fun _ H1 e => k H1 e) fun z => by cases z
theorem r_pop {pl : Addr} {p : List Int} {v : Int} {i : Nat} {Q : VK} (hv : σ[i]? = some (some (.ref pl))) (hp : H pl = some (.lst ((p ++ [v]).map V.int))) (k : Q (.int v) (upd H pl (.lst (p.map V.int)))) : tBM0 K "list" rPop (tVar i) σ H Q :=
  ⟨.ref pl, hv, .inl ⟨rfl, _, sq_of hp⟩, pl, _, .int v, rfl, rfl, hp, by simp, by
    have : ((p ++ [v]).map V.int).dropLast = p.map V.int := by simp
    rw [this]; exact k⟩
theorem r_tup {ta : TA} {Q : VK} (h : ta σ H fun vs H1 => vs.length ≤ sizeLine ∧ ∀ p, H1 p = none → Q (.ref p) (upd H1 p (.tup vs))) : tTup ta σ H Q := h
theorem r_ifT {t : TT} {ta tb : TE} {Q : VK} (h : EvT t σ H true) (k : ∀ H1, Ex H H1 → ta σ H1 Q) : tIf t ta tb σ H Q := h H (Ex.refl H) _ fun H1 e => k H1 e
theorem r_rev {Q : VK} (h : te σ H fun x H1 => ∃ a xs, x = .ref a ∧ SqL K H1 a xs ∧ ∀ p, H1 p = none → Q (.ref p) (upd H1 p (.lst xs.reverse))) : tRevL K te σ H Q := h
theorem r_lcR1 {ta : TA} {j : Nat} {tt : TT} {vs : List Nat} {n : Nat} {Q : VK} (h : EvA ta σ H [.int (n : Nat)]) (hn : n ≤ 100000) (k : ∀ H1, Ex H H1 → ∀ D, H1 D = none → ∃ Pv : Nat → Hp → Prop, Pv 0 (upd H1 D (.lst [])) ∧ (∀ i H, i < n → Pv i H → wipe ((wipe σ vs).set j (some (.int (i : Nat)))) vs = wipe σ vs ∧ tt ((wipe σ vs).set j (some (.int (i : Nat)))) H fun b H3 =>
      if b = true then te ((wipe σ vs).set j (some (.int (i : Nat)))) H3 fun y H4 => ∃ acc, H4 D = some (.lst acc) ∧ acc.length < sizeLine ∧ Pv (i + 1) (upd H4 D (.lst (acc ++ [y]))) else Pv (i + 1) H3) ∧ ∀ H, Pv n H → Q (.ref D) H) : tLc (iRng1 ta) (gName j) tt te vs σ H Q :=
  h H (Ex.refl _) _ fun H1 e => ⟨(n : Nat), rfl, by omega, by omega, fun D hD => by
    obtain ⟨Pv, h0, hs, hd⟩ := k H1 e D hD
    have e3 : ((n : Nat) : Int).toNat = n := by omega
    rw [e3]
    refine lc_range (lo := 0) (n := n) Pv h0 (fun i H' hi p => ?_) hd
    have e0 : (0 : Int) + (i : Int) = (i : Int) := Int.zero_add _
    show wipe ((wipe σ vs).set j (some (.int ((0 : Int) + (i : Int))))) vs = wipe σ vs ∧ tt ((wipe σ vs).set j (some (.int ((0 : Int) + (i : Int))))) H' fun b H3 => if b = true then te ((wipe σ vs).set j (some (.int ((0 : Int) + (i : Int))))) H3 fun y H4 => ∃ acc, H4 D = some (.lst acc) ∧ acc.length < sizeLine ∧ Pv (i + 1) (upd H4 D (.lst (acc ++ [y]))) else Pv (i + 1) H3
    rw [e0]
    exact hs i H' hi p⟩
theorem r_nil {Q : List V → Hp → Prop} (h : Q [] H) : tNil σ H Q := h
end
theorem atI_last {xs : List Int} {v : Int} : atI ((xs ++ [v]).map V.int) (-1) = some (.int v) := by
  have hl : ((xs ++ [v]).map V.int).length = xs.length + 1 := by simp
  unfold atI ixN
  rw [hl, if_neg (by decide), if_pos (by omega)]
  have : ((-1 : Int) + ((xs.length + 1 : Nat) : Int)).toNat = xs.length := by omega
  show ((xs ++ [v]).map V.int)[((-1 : Int) + ((xs.length + 1 : Nat) : Int)).toNat]? = _
  rw [this]; simp
theorem ev_dget2T {σ : L2.St} {H : Hp} {td ty tx : TE} {d : Addr} {k : Keeps} {f n : S} {m : Nat} {z : Int} (hk : KeepsAt H d k m) (h1 : Ev td σ H (.ref d)) (h2 : EvU ty σ H [.str f, .str n]) (h3 : Ev tx σ H (.int z)) : Ev (tDGet2 td ty tx) σ H (.int ((k f n).getD z)) := fun H1 e Q q => by
  obtain ⟨kvs, hd, _, hv⟩ := hk
  refine h1 H1 e _ fun H2 e2 => ⟨d, rfl, .inr ⟨kvs, .inl ((e.trans e2) _ _ hd)⟩, h2 H2 (e.trans e2) _ fun p H3 _ e3 h3' => h3 H3 ((e.trans e2).trans e3) _ fun H4 e4 => ⟨_, DGet.t (k := [Sum.inr f, Sum.inr n]) ((((e.trans e2).trans e3).trans e4) _ _ hd) (e4 _ _ h3'), ?_⟩⟩
  rw [hv]
  have := q H4 ((e2.trans e3).trans e4)
  cases hkf : k f n with
  | none => rw [hkf] at this; exact this
  | some v => rw [hkf] at this; exact this
section
variable {P : Program} {w : World} {K : PySem.W.Frag} {mg : Str → Option Value} {base : Heap} {o1 o2 o3 o4 o5 : Addr}
abbrev sLw : Stmt := top 48
abbrev nLw : List Str := ["_law_row", "_law_middle_here", "_law_pile", "_law_keeps", "_law_word", "_law_worths", "_law_other", "_law_worth", "_law_again"]
theorem scLw : FnScope nLw ["_law_row", "_law_middle_here", "_law_pile", "_law_keeps"] (defScope sLw) := ⟨rfl, rfl, rfl, by decide +kernel, rfl, by decide +kernel, by decide +kernel⟩
def spLw (K0 : PySem.W.Frag) : Sp := fun vs H Q _ => ∃ a b pl kd m r pile k told pile' k', ∃ n : Nat, vs = [.ref a, .ref b, .ref pl, .ref kd] ∧ H a = some (.tup (MRow.vals m)) ∧ RowAt H b r ∧ (m.op.tag = .call → r.tag = .call) ∧ H pl = some (.lst (pile.map V.int)) ∧ KeepsAt H kd k n ∧ (∀ v ∈ pile, Small v) ∧ pile.length ≤ 60000 ∧ n ≤ 60000 ∧ m.op.Bnd ∧ Wk r m.op pile k told pile' k' ∧
  ∀ H' t xs, MGo pl kd H H' → H' pl = some (.lst (pile'.map V.int)) → KeepsAt H' kd k' (n + 1) → H' t = some (.tup xs) → (∀ Hs : Hp, (∀ b o, H' b = some o → H b = none → Hs b = some o) → DpAll K0 Hs xs told) → Q (.ref t) H'
theorem ok_Lw {f f1 f2 : Addr} {fd d1 d2 : FuncData} (F : Fun K "_law_worked" "_law_worked" sLw f fd) (T : Txt K mg o1 o2 o3 o4 o5) (hstr : mg "str" = none) (C__law_came : CalAt P w K mg base 1 "_law_came" ["_law_file", "_law_name", "_law_worths"] spLc f1 d1) (C__law_reckon : CalAt P w K mg base 1 "_law_reckon" ["_law_word", "_law_one", "_law_other"] spLk f2 d2) : FnOk P w K mg base CX0 2 f fd ["_law_row", "_law_middle_here", "_law_pile", "_law_keeps"] (spLw K) := by
  refine F.ok scLw (fun vs H Q E h => ?_) (fun cdv A outer s H vs Q E hr h => ?_)
  · obtain ⟨a, b, pl, kd, m, r, pile, k, told, pile', k', n, rfl, _⟩ := h; rfl
  · obtain ⟨a, b, pl, kd, ⟨op, kk⟩, r, pile, kp, told, pile', kp', n, rfl, ha, hb, hcall, hpl, hkd, hsm, hpz, hnz, hbd, hwk, k⟩ := h
    have nd := scLw.nd
    have hu := hu_of hr
    refine ⟨_, (pss_cons (ps_set (i := 4) nd rfl (Or.inl rfl) (pe_ix ix_tup (pv 0) pe_int (fun _ _ => rfl)))
      (pss_cons (ps_if (pt_cmpR op_eq (pv 4) pe_str (nomark _)) (pss_one (ps_ret (pe_tup (pa_cons (pe_ix ix_tup (pv 0) pe_int (fun _ _ => rfl)) (pa_cons (pe_bm0 PySem.F.plainAttrs_list PySem.F.slot_list_pop PySem.F.type_list_pop mt_pop (pv 2)) pa_nil))))) pss_nil)
      (pss_cons (ps_if (pt_cmpR op_eq (pv 4) pe_str (nomark _)) (pss_cons (ps_dput hu (pv 3) (pe_tup (pa_cons pe_str (pa_cons (pe_ix ix_tup (pv 0) pe_int (fun _ _ => rfl)) pa_nil))) (pe_ix ix_list (pv 2) (pe_un un_neg pe_int) (fun _ _ => rfl)) rfl)
      (pss_one (ps_ret (pe_tup (pa_cons (pe_ix ix_tup (pv 0) pe_int (fun _ _ => rfl)) (pa_cons (pe_bm0 PySem.F.plainAttrs_list PySem.F.slot_list_pop PySem.F.type_list_pop mt_pop (pv 2)) pa_nil)))))) pss_nil)
      (pss_cons (ps_if (pt_cmpR op_eq (pv 4) pe_str (nomark _)) (pss_one (ps_ret (pe_tup (pa_cons (pe_ifExp (pt_cmpR op_eq (pe_ix ix_tup (pv 0) pe_int (fun _ _ => rfl)) pe_int (nomark _)) (pe_bm0 PySem.F.plainAttrs_list PySem.F.slot_list_pop PySem.F.type_list_pop mt_pop (pv 2)) pe_non) pa_nil)))) pss_nil)
      (pss_cons (ps_if (pt_cmpR op_eq (pv 4) pe_str (nomark _)) (pss_cons (ps_expr (pe_bm PySem.F.plainAttrs_list PySem.F.slot_list_append PySem.F.type_list_append mt_append (pv 2) (pa_cons (pe_dget2 hu (pv 3) (pe_tup (pa_cons (pe_ix ix_tup (pv 0) pe_int (fun _ _ => rfl)) (pa_cons (pe_ix ix_tup (pv 0) pe_int (fun _ _ => rfl)) pa_nil))) (pe_op op_mul (pe_callB call_len_str (by rfl) T.len PySem.boot_len (pa_cons (pe_op op_add_str (pe_ix ix_tup (pv 0) pe_int (fun _ _ => rfl)) (pe_ix ix_tup (pv 0) pe_int (fun _ _ => rfl))) pa_nil)) pe_int) ⟨rfl, rfl, rfl, rfl⟩) pa_nil)))
      (pss_one (ps_ret (pe_tup (pa_cons (pe_ix ix_tup (pv 0) pe_int (fun _ _ => rfl)) (pa_cons (pe_ix ix_tup (pv 0) pe_int (fun _ _ => rfl)) pa_nil)))))) pss_nil)
      (pss_cons (ps_if (pt_cmpR op_eq (pv 4) pe_str (nomark _)) (pss_cons (ps_set (i := 5) nd rfl (Or.inl rfl) (pe_revL (pe_lc (own := [("_law_again", 8)]) (g := gName 8) (te := tBM0 K "list" rPop (tVar 2)) (by rfl) nd (pi_range1 rfl T.range (pa_cons (pe_ix ix_tup (pv 0) pe_int (fun _ _ => rfl)) pa_nil)) (blkOk_by (own := [("_law_again", 8)]) (N := nLw) (sc := defScope sLw) (by decide +kernel)) (fun _ _ _ _ _ => (pg_name (i := 8) nd rfl (Or.inl rfl))) (fun _ _ _ _ _ => pts_nil) (fun _ _ _ _ _ => (pe_bm0 PySem.F.plainAttrs_list PySem.F.slot_list_pop PySem.F.type_list_pop mt_pop (pv 2))))))
      (pss_cons (ps_if (pt_cmpR op_notN (pe_ix ix_tup (pv 1) pe_int (fun _ _ => rfl)) pe_non (nomark _)) (pss_one (ps_expr (pe_bm PySem.F.plainAttrs_list PySem.F.slot_list_append PySem.F.type_list_append mt_append (pv 2) (pa_cons (pe_call C__law_came.ok (hr.mono (by decide)) (by rfl) C__law_came.g C__law_came.kp C__law_came.b .nil pass0 (pa_cons (pe_ix ix_tup (pv 0) pe_int (fun _ _ => rfl)) (pa_cons (pe_ix ix_tup (pv 0) pe_int (fun _ _ => rfl)) (pa_cons (pv 5) pa_nil)))) pa_nil)))) pss_nil)
      (pss_one (ps_ret (pe_tup (pa_cons (pe_ix ix_tup (pv 0) pe_int (fun _ _ => rfl)) (pa_cons (pe_ix ix_tup (pv 0) pe_int (fun _ _ => rfl)) (pa_cons (pv 5) pa_nil)))))))) pss_nil)
      (pss_cons (ps_set (i := 6) nd rfl (Or.inl rfl) (pe_bm0 PySem.F.plainAttrs_list PySem.F.slot_list_pop PySem.F.type_list_pop mt_pop (pv 2)))
      (pss_cons (ps_set (i := 7) nd rfl (Or.inl rfl) (pe_call C__law_reckon.ok (hr.mono (by decide)) (by rfl) C__law_reckon.g C__law_reckon.kp C__law_reckon.b .nil pass0 (pa_cons (pv 4) (pa_cons (pe_bm0 PySem.F.plainAttrs_list PySem.F.slot_list_pop PySem.F.type_list_pop mt_pop (pv 2)) (pa_cons (pv 6) pa_nil)))))
      (pss_cons (ps_if (pt_val (pe_callB call_isi (by rfl) T.isinstance (by decide +kernel) (pa_cons (pv 7) (pa_cons (pe_bltn (v := .ty "str") (by rfl) hstr (by decide +kernel) rfl) pa_nil)))) (pss_one (ps_ret (pe_tup (pa_cons (pv 7) pa_nil)))) pss_nil)
      (pss_cons (ps_expr (pe_bm PySem.F.plainAttrs_list PySem.F.slot_list_append PySem.F.type_list_append mt_append (pv 2) (pa_cons (pv 7) pa_nil)))
      (pss_one (ps_ret (pe_tup pa_nil))))))))))))), ?_⟩
    dsimp only [cxK, cxKn, List.map]
    have hrow : H a = some (.tup (.str op.tag.word :: (op.mid ++ [.int (kk : Nat)]))) := ha
    refine q_asg (ev_row (j := 0) hrow (ev_var rfl) rfl) fun H1 e1 => ?_
    have wd : ∀ {H2 : Hp} {s : L2.St}, Ev (tVar 4) (some (.ref a) :: some (.ref b) :: some (.ref pl) :: some (.ref kd) :: some (.str op.tag.word) :: s) H2 (.str op.tag.word) := ev_var rfl
    have hnp : pl ≠ kd := fun z => by
      obtain ⟨kvs, h1, _⟩ := hkd
      rw [← z, hpl] at h1; cases h1
    have hno : ∀ {t : Addr} {Hz : Hp} {p2 : List Int}, Hz pl = some (.lst (p2.map V.int)) → Hz t = none → t ≠ pl := fun h1 h2 z => by rw [z, h1] at h2; cases h2
    -- a tuple is given back
    have out : ∀ {Hz : Hp} {t : Addr} {xs : List V}, MGo pl kd H Hz → Hz pl = some (.lst (pile'.map V.int)) → KeepsAt Hz kd kp' (n + 1) → Hz t = none → (∀ Hs : Hp, (∀ b o, (upd Hz t (.tup xs)) b = some o → H b = none → Hs b = some o) → DpAll K Hs xs told) → Q (.ref t) (upd Hz t (.tup xs)) := fun {Hz t xs} hg hp hk ht hd =>
      k _ t xs (hg.trans (MGo.ex (Ex.new ht))) (Ex.new ht _ _ hp) (hk.ex (Ex.new ht) (Nat.le_refl _)) upd_same hd
    have popG : ∀ {Hz : Hp} {p2 p3 : List Int}, MGo pl kd H Hz → Hz pl = some (.lst (p2.map V.int)) → MGo pl kd H (upd Hz pl (.lst (p3.map V.int))) := fun hg hp => hg.trans fun c o h h1 _ => by rw [upd_ne h1]; exact h
    have keepG : ∀ {Hz : Hp} {u : HO} {kk : Keeps} {m : Nat}, KeepsAt Hz kd kk m → KeepsAt (upd Hz pl u) kd kk m := fun h => h.at (by rw [upd_ne (Ne.symm hnp)]) (Nat.le_refl _)
    cases hwk with
    | @say kdd p v _ =>
      refine q_take (et_is (et_mword .say wd) (by simp [MOp.tag])) fun H2 e2 => s_retR (r_tup (r_consE (ev_row (j := 1) (v := .str kdd) ((e1.trans e2) _ _ hrow) (ev_var rfl) rfl) fun H3 e3 => r_cons (r_pop (p := pile') (v := v) rfl (((e1.trans e2).trans e3) _ _ hpl) (r_nil ⟨sz_of (by simp), fun t ht => rtM (out (popG (MGo.ex ((e1.trans e2).trans e3)) (((e1.trans e2).trans e3) _ _ hpl)) upd_same (keepG (hkd.ex ((e1.trans e2).trans e3) (Nat.le_succ _))) ht fun H' _ => .cons (.str _) (.cons (.int _) .nil))⟩))))
    | @lay nn p v _ =>
      refine q_skip (et_is (et_mword .say wd) (by simp [MOp.tag])) fun H2 e2 => ?_
      refine q_take (et_is (et_mword .lay wd) (by simp [MOp.tag])) fun H3 e3 => ?_
      have e13 := (e1.trans e2).trans e3
      obtain ⟨kvs, hd1, hd2, hd3⟩ := id hkd
      refine ev_op (ev_var (i := 2) rfl) (ev_un ev_c ru_neg) (rv_ixL (sq_of (e13 _ _ hpl)) (v := .int v) atI_last) H3 (Ex.refl _) _ fun H4 e4 => ev_var (i := 3) rfl H4 (Ex.refl _) _ fun H5 e5 => eu_tup (ea_cons (ev_c (v := .str fileF)) (ea_cons (ev_row (K := K) (te := tVar 0) (j := 1) (v := .str nn) (((e13.trans e4).trans e5) _ _ hrow) (ev_var rfl) rfl) ea_nil)) (Nat.le_of_ble_eq_true rfl) H5 (Ex.refl _) _ fun q H6 hq e6 h6 => ?_
      have e16 := ((e13.trans e4).trans e5).trans e6
      refine ⟨kd, _, rfl, DPut.t (k := [Sum.inr fileF, Sum.inr nn]) (e16 _ _ hd1) h6 (sz_lt (by omega)), ?_⟩
      have hk6 : KeepsAt (upd H6 kd (.dT (putK kvs [Sum.inr fileF, Sum.inr nn] (.int v)))) kd (setK kp fileF nn v) (n + 1) := by
        refine ⟨_, upd_same, Nat.le_trans (length_putK _ _ _) (by omega), fun f m => ?_⟩
        rw [valV_put]
        by_cases h : f = fileF ∧ m = nn
        · obtain ⟨h1, h2⟩ := h; subst h1; subst h2; rw [if_pos rfl]; simp [setK]
        · rw [if_neg (fun z => h (by have := List.cons.inj z; exact ⟨Sum.inr.inj this.1, Sum.inr.inj (List.cons.inj this.2).1⟩)), hd3]; simp [setK, h]
      have g6 : MGo pl kd H (upd H6 kd (.dT (putK kvs [Sum.inr fileF, Sum.inr nn] (.int v)))) := (MGo.ex e16).trans fun c o h _ h1 => by rw [upd_ne h1]; exact h
      have hp6 : (upd H6 kd (.dT (putK kvs [Sum.inr fileF, Sum.inr nn] (.int v)))) pl = some (.lst ((pile' ++ [v]).map V.int)) := by rw [upd_ne hnp]; exact e16 _ _ hpl
      have ha6 : (upd H6 kd (.dT (putK kvs [Sum.inr fileF, Sum.inr nn] (.int v)))) a = some (.tup (.str (MOp.lay nn).tag.word :: ((MOp.lay nn).mid ++ [.int (kk : Nat)]))) := by rw [upd_ne (fun z => by rw [← z, hrow] at hd1; cases hd1)]; exact e16 _ _ hrow
      generalize upd H6 kd (.dT (putK kvs [Sum.inr fileF, Sum.inr nn] (.int v))) = H7 at hk6 g6 hp6 ha6 ⊢
      exact s_retR (r_tup (r_consE (ev_row (j := 1) (v := .str nn) ha6 (ev_var rfl) rfl) fun H8 e8 => r_cons (r_pop (p := pile') (v := v) rfl (e8 _ _ hp6) (r_nil ⟨sz_of (by simp), fun t ht => rtM (out (popG (g6.trans (MGo.ex e8)) (e8 _ _ hp6)) upd_same (keepG (hk6.ex e8 (Nat.le_refl _))) ht fun H' _ => .cons (.str _) (.cons (.int _) .nil))⟩))))
    | @give0 p _ =>
      refine q_skip (et_is (et_mword .say wd) (by simp [MOp.tag])) fun H2 e2 => ?_
      refine q_skip (et_is (et_mword .lay wd) (by simp [MOp.tag])) fun H3 e3 => ?_
      refine q_take (et_is (et_mword .give wd) (by simp [MOp.tag])) fun H4 e4 => ?_
      have e14 := ((e1.trans e2).trans e3).trans e4
      refine s_retR (r_tup (r_consE (v := .non) (ev_if (b := false) (et_is (et_test (ev_op (ev_row (j := 1) (v := .int 0) (e14 _ _ hrow) (ev_var rfl) rfl) ev_c (rv_eq rfl))) (by decide)) (fun z => by cases z) (fun _ => ev_c)) fun H5 e5 => r_nil ⟨sz_of (by simp), fun t ht => rtM (out (MGo.ex (e14.trans e5)) ((e14.trans e5) _ _ hpl) (hkd.ex (e14.trans e5) (Nat.le_succ _)) ht fun H' _ => .cons .non .nil)⟩))
    | @give1 p v _ =>
      refine q_skip (et_is (et_mword .say wd) (by simp [MOp.tag])) fun H2 e2 => ?_
      refine q_skip (et_is (et_mword .lay wd) (by simp [MOp.tag])) fun H3 e3 => ?_
      refine q_take (et_is (et_mword .give wd) (by simp [MOp.tag])) fun H4 e4 => ?_
      have e14 := ((e1.trans e2).trans e3).trans e4
      refine s_retR (r_tup (r_cons (r_ifT (et_is (et_test (ev_op (ev_row (j := 1) (v := .int 1) (e14 _ _ hrow) (ev_var rfl) rfl) ev_c (rv_eq rfl))) (by decide)) fun H5 e5 => r_pop (p := pile') (v := v) rfl ((e14.trans e5) _ _ hpl) (r_nil ⟨sz_of (by simp), fun t ht => rtM (out (popG (MGo.ex (e14.trans e5)) ((e14.trans e5) _ _ hpl)) upd_same (keepG (hkd.ex (e14.trans e5) (Nat.le_succ _))) ht fun H' _ => .cons (.int _) .nil)⟩))))
    | @fetch ff nn p _ =>
      refine q_skip (et_is (et_mword .say wd) (by simp [MOp.tag])) fun H2 e2 => ?_
      refine q_skip (et_is (et_mword .lay wd) (by simp [MOp.tag])) fun H3 e3 => ?_
      refine q_skip (et_is (et_mword .give wd) (by simp [MOp.tag])) fun H4 e4 => ?_
      refine q_take (et_is (et_mword .fetch wd) (by simp [MOp.tag])) fun H5 e5 => ?_
      have e15 := (((e1.trans e2).trans e3).trans e4).trans e5
      have hfl : ff.length + nn.length ≤ 100 := by have := hbd.1; rw [Str.length_append] at this; exact this
      have i1 : ∀ {H6 : Hp}, Ex H H6 → Ev (tOp (rIxT K) (tVar 0) (tC (.int 1))) [some (.ref a), some (.ref b), some (.ref pl), some (.ref kd), some (.str (MOp.fetch ff nn).tag.word), none, none, none, none] H6 (.str ff) := fun e => ev_row (j := 1) (e _ _ hrow) (ev_var rfl) rfl
      have i2 : ∀ {H6 : Hp}, Ex H H6 → Ev (tOp (rIxT K) (tVar 0) (tC (.int 2))) [some (.ref a), some (.ref b), some (.ref pl), some (.ref kd), some (.str (MOp.fetch ff nn).tag.word), none, none, none, none] H6 (.str nn) := fun e => ev_row (j := 2) (e _ _ hrow) (ev_var rfl) rfl
      have tlen : Ev (tCB (fun xs H Q => ∃ z, xs = [.str z] ∧ z.length ≤ sizeLine ∧ Q (.int z.length) H) (tCons (tOp (fun x y H Q => ∃ i j, x = .str i ∧ y = .str j ∧ i.length + j.length ≤ sizeLine ∧ Q (.str (i ++ j)) H) (tOp (rIxT K) (tVar 0) (tC (.int 1))) (tOp (rIxT K) (tVar 0) (tC (.int 2)))) tNil)) [some (.ref a), some (.ref b), some (.ref pl), some (.ref kd), some (.str (MOp.fetch ff nn).tag.word), none, none, none, none] H5 (.int ((ff ++ nn).length : Int)) := fun H6 e6 Q q =>
        i1 (e15.trans e6) H6 (Ex.refl _) _ fun H7 e7 => i2 ((e15.trans e6).trans e7) H7 (Ex.refl _) _ fun H8 e8 => ⟨ff, nn, rfl, rfl, sz_of (by omega), _, rfl, sz_of (Nat.le_trans hbd.1 (by decide)), q H8 (e7.trans e8)⟩
      have tget := ev_dget2T (σ := [some (.ref a), some (.ref b), some (.ref pl), some (.ref kd), some (.str (MOp.fetch ff nn).tag.word), none, none, none, none]) (H := H5) (td := tVar 3) (f := ff) (n := nn) (hkd.ex e15 (Nat.le_refl _)) (ev_var rfl) (eu_tup (ea_cons (i1 e15) (ea_cons (i2 e15) ea_nil)) (Nat.le_of_ble_eq_true rfl)) (ev_op (r := rI CMul fun i j => .int (i * j)) tlen (ev_c (v := .int 11)) (rv_I (.inr (by decide))))
      refine q_app (e15 _ _ hpl) (ev_var rfl) tget (by rw [List.length_map]; omega) fun H6 e6 => ?_
      have hp6 : (upd H6 pl (.lst (pile.map V.int ++ [.int ((kp ff nn).getD (((ff ++ nn).length : Int) * 11))]))) pl = some (.lst ((pile ++ [fetched kp ff nn]).map V.int)) := by rw [upd_same, List.map_append]; rfl
      have g6 : MGo pl kd H (upd H6 pl (.lst (pile.map V.int ++ [.int ((kp ff nn).getD (((ff ++ nn).length : Int) * 11))]))) := (MGo.ex (e15.trans e6)).trans fun c o h h1 _ => by rw [upd_ne h1]; exact h
      have k6 : KeepsAt (upd H6 pl (.lst (pile.map V.int ++ [.int ((kp ff nn).getD (((ff ++ nn).length : Int) * 11))]))) kd kp (n + 1) := keepG (hkd.ex (e15.trans e6) (Nat.le_succ _))
      have ha6 : (upd H6 pl (.lst (pile.map V.int ++ [.int ((kp ff nn).getD (((ff ++ nn).length : Int) * 11))]))) a = some (.tup (.str (MOp.fetch ff nn).tag.word :: ((MOp.fetch ff nn).mid ++ [.int (kk : Nat)]))) := by rw [upd_ne (fun z => by rw [← z, hrow] at hpl; cases hpl)]; exact (e15.trans e6) _ _ hrow
      generalize upd H6 pl (.lst (pile.map V.int ++ [.int ((kp ff nn).getD (((ff ++ nn).length : Int) * 11))])) = H7 at hp6 g6 k6 ha6 ⊢
      refine s_retR (r_tup (r_consE (ev_row (j := 1) (v := .str ff) ha6 (ev_var rfl) rfl) fun H8 e8 => r_consE (ev_row (j := 2) (v := .str nn) (e8 _ _ ha6) (ev_var rfl) rfl) fun H9 e9 => r_nil ⟨sz_of (by simp), fun t ht => rtM (out (g6.trans (MGo.ex (e8.trans e9))) ((e8.trans e9) _ _ hp6) (k6.ex (e8.trans e9) (Nat.le_refl _)) ht fun H' _ => .cons (.str _) (.cons (.str _) .nil))⟩))
    | @call ff nn many p vs _ h =>
      refine q_skip (et_is (et_mword .say wd) (by simp [MOp.tag])) fun H2 e2 => ?_
      refine q_skip (et_is (et_mword .lay wd) (by simp [MOp.tag])) fun H3 e3 => ?_
      refine q_skip (et_is (et_mword .give wd) (by simp [MOp.tag])) fun H4 e4 => ?_
      refine q_skip (et_is (et_mword .fetch wd) (by simp [MOp.tag])) fun H5 e5 => ?_
      refine q_take (et_is (et_mword .call wd) (by simp [MOp.tag])) fun H6 e6 => ?_
      have e16 := (((e1.trans e2).trans e3).trans (e4.trans e5)).trans e6
      obtain ⟨cc, f', n', cs', ppl, rfl⟩ := call_of (hcall rfl)
      obtain ⟨pp, qq, hb1, _⟩ := id hb
      have hvz : p.length + vs.length ≤ 60000 := by simpa using hpz
      have hrows : H6 a = some (.tup (.str (MOp.call ff nn many).tag.word :: ((MOp.call ff nn many).mid ++ [.int (kk : Nat)]))) := e16 _ _ hrow
      refine q_asgR (r_rev (r_lcR1 (n := many) (ea_cons (ev_row (j := 3) (v := .int (many : Nat)) hrows (ev_var rfl) rfl) ea_nil) (by omega) fun H7 e7 Dl hD => ?_))
      have e07 := e16.trans e7
      have hDp : Dl ≠ pl := fun z => by rw [z, e07 _ _ hpl] at hD; cases hD
      refine ⟨fun i H' => i ≤ many ∧ (∀ c o, H7 c = some o → c ≠ pl → H' c = some o) ∧ H' Dl = some (.lst ((vs.reverse.take i).map V.int)) ∧ H' pl = some (.lst ((p ++ vs.take (many - i)).map V.int)),
        ⟨Nat.zero_le _, fun c o hc _ => Ex.new hD _ _ hc, by rw [upd_same]; rfl, by rw [upd_ne (Ne.symm hDp), Nat.sub_zero, ← h, List.take_length]; exact e07 _ _ hpl⟩, fun i H' hi z => ⟨rfl, ?_⟩, fun H' z => ?_⟩
      · obtain ⟨z0, z1, z2, z3⟩ := z
        have hi' : i < many := hi
        dsimp only [tYes]
        rw [if_pos rfl]
        have hlast : vs[many - (i + 1)]? = some (vs[many - (i + 1)]'(by omega)) := List.getElem?_eq_getElem _
        have hsp : vs.take (many - i) = vs.take (many - (i + 1)) ++ [vs[many - (i + 1)]'(by omega)] := by
          have e : many - i = (many - (i + 1)) + 1 := by omega
          rw [e, take_succ_some hlast]
        refine r_pop (p := p ++ vs.take (many - (i + 1))) (v := vs[many - (i + 1)]'(by omega)) rfl (by rw [z3, hsp, List.append_assoc]) ?_
        refine ⟨_, by rw [upd_ne hDp]; exact z2, sz_lt (by rw [List.length_map, List.length_take]; omega), hi', fun c o hc hcp => ?_, ?_, ?_⟩
        · by_cases hcD : c = Dl
          · rw [hcD, hD] at hc; cases hc
          · rw [upd_ne hcD, upd_ne hcp]; exact z1 c o hc hcp
        · rw [upd_same]
          have : vs.reverse[i]? = some (vs[many - (i + 1)]'(by omega)) := by
            rw [List.getElem?_reverse (by omega), show vs.length - 1 - i = many - (i + 1) by omega]; exact hlast
          rw [take_succ_some this, List.map_append]; rfl
        · rw [upd_ne (Ne.symm hDp), upd_same]
      · obtain ⟨_, z1, z2, z3⟩ := z
        rw [Nat.sub_self, List.take_zero, List.append_nil] at z3
        rw [List.take_of_length_le (by rw [List.length_reverse]; omega)] at z2
        refine ⟨Dl, _, rfl, sq_of z2, fun q hq => ?_⟩
        rw [← List.map_reverse, List.reverse_reverse]
        have eq : Ex H' (upd H' q (.lst (vs.map V.int))) := Ex.new hq
        have gq : MGo pl kd H (upd H' q (.lst (vs.map V.int))) := (MGo.ex e07).trans fun c o hc h1 _ => eq _ _ (z1 c o hc h1)
        have pq : (upd H' q (.lst (vs.map V.int))) pl = some (.lst (p.map V.int)) := eq _ _ z3
        obtain ⟨kvs, hd1, hd2, hd3⟩ := id hkd
        have kq : KeepsAt (upd H' q (.lst (vs.map V.int))) kd kp n := ⟨kvs, eq _ _ (z1 _ _ (e07 _ _ hd1) (Ne.symm hnp)), hd2, hd3⟩
        have hqq : (upd H' q (.lst (vs.map V.int))) q = some (.lst (vs.map V.int)) := upd_same
        have hqn : H q = none := by
          cases hq2 : H q with
          | none => rfl
          | some o =>
            have hqp : q ≠ pl := fun z => by rw [z, z3] at hq; cases hq
            have := z1 _ _ (e07 _ _ hq2) hqp
            rw [hq] at this; cases this
        have hqp : q ≠ pl := fun z => by rw [z, z3] at hq; cases hq
        have haq : (upd H' q (.lst (vs.map V.int))) a = some (.tup (.str (MOp.call ff nn many).tag.word :: ((MOp.call ff nn many).mid ++ [.int (kk : Nat)]))) := eq _ _ (z1 _ _ (e07 _ _ hrow) (fun z => by rw [z, hpl] at hrow; cases hrow))
        have hbq : (upd H' q (.lst (vs.map V.int))) b = some (.tup ((Row.call cc f' n' cs' ppl).vals pp qq)) := eq _ _ (z1 _ _ (e07 _ _ hb1) (fun z => by rw [z, hpl] at hb1; cases hb1))
        generalize upd H' q (.lst (vs.map V.int)) = Hq at gq pq kq hqq haq hbq ⊢
        refine q_whenK (fun Hr => MGo pl kd H Hr ∧ Hr pl = some (.lst ((p ++ backOf (Row.call cc f' n' cs' ppl) ff nn vs).map V.int)) ∧ KeepsAt Hr kd kp (n + 1) ∧ Hr q = some (.lst (vs.map V.int)) ∧ Hr a = some (.tup (.str (MOp.call ff nn many).tag.word :: ((MOp.call ff nn many).mid ++ [.int (kk : Nat)])))) (et_notN (ev_row (j := 1) (v := oV cc) hbq (ev_var rfl) rfl)) (fun Hr m => ?_) (fun hb9 Hr er kk9 => ?_) (fun hb9 Hr er => ?_)
        · obtain ⟨m1, m2, m3, m4, m5⟩ := m
          refine s_retR (r_tup (r_consE (ev_row (j := 1) (v := .str ff) m5 (ev_var rfl) rfl) fun H8 e8 => r_consE (ev_row (j := 2) (v := .str nn) (e8 _ _ m5) (ev_var rfl) rfl) fun H9 e9 => r_consE (v := .ref q) (ev_var rfl) fun H10 e10 => r_nil ⟨sz_of (by simp), fun t ht => rtM (out (m1.trans (MGo.ex ((e8.trans e9).trans e10))) (((e8.trans e9).trans e10) _ _ m2) (m3.ex ((e8.trans e9).trans e10) (Nat.le_refl _)) ht fun H11 e11 => .cons (.str _) (.cons (.str _) (.cons (.lst (sq_of (e11 q _ (Ex.new ht _ _ (((e8.trans e9).trans e10) _ _ m4)) hqn)) dp_ints) .nil)))⟩))
        · cases cc with
          | none => simp [oV] at hb9
          | some c =>
            have hcame : Ev (tCall spLc [] E0 (tCons (tOp (rIxT K) (tVar 0) (tC (.int 1))) (tCons (tOp (rIxT K) (tVar 0) (tC (.int 2))) (tCons (tVar 5) tNil)))) [some (.ref a), some (.ref b), some (.ref pl), some (.ref kd), some (.str (MOp.call ff nn many).tag.word), some (.ref q), none, none, none] Hr (.int (came ff nn vs)) :=
              ev_call (ea_cons (ev_row (j := 1) (v := .str ff) (er _ _ haq) (ev_var rfl) rfl) (ea_cons (ev_row (j := 2) (v := .str nn) (er _ _ haq) (ev_var rfl) rfl) (ea_cons (ev_var rfl) ea_nil))) fun H8 e8 Q8 q8 E8 => ⟨ff, nn, q, vs, rfl, e8 _ _ (er _ _ hqq), hbd.1, by omega, fun H9 e9 => q8 H9 e9⟩
            refine s_app (er _ _ pq) (ev_var rfl) hcame (by rw [List.length_map]; omega) fun H8 e8 => nxM (kk9 _ ⟨?_, ?_, ?_, ?_, ?_⟩)
            · exact (gq.trans (MGo.ex (er.trans e8))).trans fun c o hc h1 _ => by rw [upd_ne h1]; exact hc
            · rw [upd_same, List.map_append]; rfl
            · exact keepG (kq.ex (er.trans e8) (Nat.le_succ _))
            · rw [upd_ne hqp]; exact (er.trans e8) _ _ hqq
            · rw [upd_ne (fun z => by rw [z, hpl] at hrow; cases hrow)]; exact (er.trans e8) _ _ haq
        · cases cc with
          | some c => simp [oV] at hb9
          | none => exact ⟨gq.trans (MGo.ex er), by simpa [backOf, Row.keepsVal] using er _ _ pq, kq.ex er (Nat.le_succ _), er _ _ hqq, er _ _ haq⟩
    | @two o p x y v _ h =>
      have skip : ∀ {D : Ends} {t1 t2 t3 t4 t5 tz : TS}, (∀ H6, Ex H1 H6 → tz D [some (.ref a), some (.ref b), some (.ref pl), some (.ref kd), some (.str (MOp.two o).tag.word), none, none, none, none] H6) →
          tSeq (tIfS (tTest (tOp rEq (tVar 4) (tC (.str "say")))) t1 tNext) (tSeq (tIfS (tTest (tOp rEq (tVar 4) (tC (.str "lay")))) t2 tNext) (tSeq (tIfS (tTest (tOp rEq (tVar 4) (tC (.str "give")))) t3 tNext) (tSeq (tIfS (tTest (tOp rEq (tVar 4) (tC (.str "fetch")))) t4 tNext) (tSeq (tIfS (tTest (tOp rEq (tVar 4) (tC (.str "call")))) t5 tNext) tz)))) D [some (.ref a), some (.ref b), some (.ref pl), some (.ref kd), some (.str (MOp.two o).tag.word), none, none, none, none] H1 := fun k =>
        q_skip (et_is (et_mword .say wd) (by simp [MOp.tag])) fun H2 e2 => q_skip (et_is (et_mword .lay wd) (by simp [MOp.tag])) fun H3 e3 => q_skip (et_is (et_mword .give wd) (by simp [MOp.tag])) fun H4 e4 => q_skip (et_is (et_mword .fetch wd) (by simp [MOp.tag])) fun H5 e5 => q_skip (et_is (et_mword .call wd) (by simp [MOp.tag])) fun H6 e6 => k H6 ((((e2.trans e3).trans e4).trans e5).trans e6)
      refine skip fun H6 e6 => ?_
      have e06 := e1.trans e6
      have hsx : Small x ∧ Small y := ⟨hsm x (by simp), hsm y (by simp)⟩
      refine q_asgR (r_pop (p := p ++ [x]) (v := y) rfl (by have := e06 _ _ hpl; rw [List.append_assoc]; exact this) ?_)
      have g7 : MGo pl kd H (upd H6 pl (.lst ((p ++ [x]).map V.int))) := popG (MGo.ex e06) (e06 _ _ hpl)
      have p7 : (upd H6 pl (.lst ((p ++ [x]).map V.int))) pl = some (.lst ((p ++ [x]).map V.int)) := upd_same
      have k7 : KeepsAt (upd H6 pl (.lst ((p ++ [x]).map V.int))) kd kp n := keepG (hkd.ex e06 (Nat.le_refl _))
      generalize upd H6 pl (.lst ((p ++ [x]).map V.int)) = H7 at g7 p7 k7 ⊢
      refine q_asgR (r_call (r_consE wd fun H8 e8 => r_cons (r_pop (p := p) (v := x) rfl (e8 _ _ p7) ?_)))
      have g8 : MGo pl kd H (upd H8 pl (.lst (p.map V.int))) := popG (g7.trans (MGo.ex e8)) (e8 _ _ p7)
      have p8 : (upd H8 pl (.lst (p.map V.int))) pl = some (.lst (p.map V.int)) := upd_same
      have k8 : KeepsAt (upd H8 pl (.lst (p.map V.int))) kd kp n := keepG (k7.ex e8 (Nat.le_refl _))
      generalize upd H8 pl (.lst (p.map V.int)) = H9 at g8 p8 k8 ⊢
      refine r_ea (ea_cons (ev_var rfl) ea_nil) fun H10 e10 => ⟨o, x, y, rfl, hsx.1, hsx.2, fun H11 e11 => ?_⟩
      rw [h]
      dsimp only [rkV]
      refine q_when (b := false) (et_B fun H12 e12 Q q => ⟨_, rfl, _, _, .type "int", .type "str", false, rfl, .ty _, .base (.int v), kit_ty (by decide +kernel), q H12 (Ex.refl _)⟩) (fun z => by cases z) (fun _ H12 e12 => ?_)
      have e912 := (e10.trans e11).trans e12
      refine q_app (e912 _ _ p8) (ev_var rfl) (ev_var rfl) (by rw [List.length_map]; simp at hpz; omega) fun H13 e13 => ?_
      have g13 : MGo pl kd H (upd H13 pl (.lst (p.map V.int ++ [.int v]))) := (g8.trans (MGo.ex (e912.trans e13))).trans fun c o h h1 _ => by rw [upd_ne h1]; exact h
      have p13 : (upd H13 pl (.lst (p.map V.int ++ [.int v]))) pl = some (.lst ((p ++ [v]).map V.int)) := by rw [upd_same, List.map_append]; rfl
      have k13 : KeepsAt (upd H13 pl (.lst (p.map V.int ++ [.int v]))) kd kp (n + 1) := keepG (k8.ex (e912.trans e13) (Nat.le_succ _))
      generalize upd H13 pl (.lst (p.map V.int ++ [.int v])) = H14 at g13 p13 k13 ⊢
      exact s_retR (r_tup (r_nil ⟨sz_of (by simp), fun t ht => rtM (out g13 p13 k13 ht fun H' _ => .nil)⟩))
    | @twoF o p x y w' _ h =>
      have skip : ∀ {D : Ends} {t1 t2 t3 t4 t5 tz : TS}, (∀ H6, Ex H1 H6 → tz D [some (.ref a), some (.ref b), some (.ref pl), some (.ref kd), some (.str (MOp.two o).tag.word), none, none, none, none] H6) →
          tSeq (tIfS (tTest (tOp rEq (tVar 4) (tC (.str "say")))) t1 tNext) (tSeq (tIfS (tTest (tOp rEq (tVar 4) (tC (.str "lay")))) t2 tNext) (tSeq (tIfS (tTest (tOp rEq (tVar 4) (tC (.str "give")))) t3 tNext) (tSeq (tIfS (tTest (tOp rEq (tVar 4) (tC (.str "fetch")))) t4 tNext) (tSeq (tIfS (tTest (tOp rEq (tVar 4) (tC (.str "call")))) t5 tNext) tz)))) D [some (.ref a), some (.ref b), some (.ref pl), some (.ref kd), some (.str (MOp.two o).tag.word), none, none, none, none] H1 := fun k =>
        q_skip (et_is (et_mword .say wd) (by simp [MOp.tag])) fun H2 e2 => q_skip (et_is (et_mword .lay wd) (by simp [MOp.tag])) fun H3 e3 => q_skip (et_is (et_mword .give wd) (by simp [MOp.tag])) fun H4 e4 => q_skip (et_is (et_mword .fetch wd) (by simp [MOp.tag])) fun H5 e5 => q_skip (et_is (et_mword .call wd) (by simp [MOp.tag])) fun H6 e6 => k H6 ((((e2.trans e3).trans e4).trans e5).trans e6)
      refine skip fun H6 e6 => ?_
      have e06 := e1.trans e6
      have hsx : Small x ∧ Small y := ⟨hsm x (by simp), hsm y (by simp)⟩
      refine q_asgR (r_pop (p := pile' ++ [x]) (v := y) rfl (by have := e06 _ _ hpl; rw [List.append_assoc]; exact this) ?_)
      have g7 : MGo pl kd H (upd H6 pl (.lst ((pile' ++ [x]).map V.int))) := popG (MGo.ex e06) (e06 _ _ hpl)
      have p7 : (upd H6 pl (.lst ((pile' ++ [x]).map V.int))) pl = some (.lst ((pile' ++ [x]).map V.int)) := upd_same
      have k7 : KeepsAt (upd H6 pl (.lst ((pile' ++ [x]).map V.int))) kd kp n := keepG (hkd.ex e06 (Nat.le_refl _))
      generalize upd H6 pl (.lst ((pile' ++ [x]).map V.int)) = H7 at g7 p7 k7 ⊢
      refine q_asgR (r_call (r_consE wd fun H8 e8 => r_cons (r_pop (p := pile') (v := x) rfl (e8 _ _ p7) ?_)))
      have g8 : MGo pl kd H (upd H8 pl (.lst (pile'.map V.int))) := popG (g7.trans (MGo.ex e8)) (e8 _ _ p7)
      have p8 : (upd H8 pl (.lst (pile'.map V.int))) pl = some (.lst (pile'.map V.int)) := upd_same
      have k8 : KeepsAt (upd H8 pl (.lst (pile'.map V.int))) kd kp n := keepG (k7.ex e8 (Nat.le_refl _))
      generalize upd H8 pl (.lst (pile'.map V.int)) = H9 at g8 p8 k8 ⊢
      refine r_ea (ea_cons (ev_var rfl) ea_nil) fun H10 e10 => ⟨o, x, y, rfl, hsx.1, hsx.2, fun H11 e11 => ?_⟩
      rw [h]
      dsimp only [rkV]
      refine q_when (b := true) (et_B fun H12 e12 Q q => ⟨_, rfl, _, _, .type "str", .type "str", true, rfl, .ty _, .base (.str _), kit_ty (by decide +kernel), q H12 (Ex.refl _)⟩) (fun _ H12 e12 => ?_) (fun z => by cases z)
      have e912 := (e10.trans e11).trans e12
      exact s_retR (r_tup (r_consE (v := .str w'.word) (ev_var rfl) fun H13 e13 => r_nil ⟨sz_of (by simp), fun t ht => rtM (out (g8.trans (MGo.ex (e912.trans e13))) ((e912.trans e13) _ _ p8) (k8.ex (e912.trans e13) (Nat.le_succ _)) ht fun H' _ => .cons (.str _) .nil)⟩))
end
end K51

/-! Walks 15: the law's machine. -/
namespace K51
open PySem L2 Evl
def rawJ : Raw → Nat
  | .begin j _ => j | .nothing j _ => j | .fetch j _ _ => j | .lay j _ _ => j | .say j _ _ => j | .give j _ => j | .call j _ _ _ => j | .fault j _ _ => j
def rawWord : Raw → S
  | .begin _ _ => "begin" | .nothing _ _ => "nothing" | .fetch _ _ _ => "fetch" | .lay _ _ _ => "lay" | .say _ _ _ => "say" | .give _ _ => "give" | .call _ _ _ _ => "call" | .fault _ o _ => o.word
def rawTail : Raw → List PyData
  | .begin _ _ => [] | .nothing _ _ => []
  | .fetch _ f n => [.str f, .str n] | .lay _ n v => [.str n, .int v] | .say _ kd v => [.str kd, .int v] | .give _ v => [oD v]
  | .call _ f n vs => [.str f, .str n, .list (vs.map PyData.int)] | .fault _ _ w => [.str w.word]
def RawRest (K : PySem.W.Frag) (H : Hp) (raw : Raw) (xs : List V) : Prop := match raw with
  | .begin _ c => ∃ d n, xs = [.ref d] ∧ KnAt H d c n
  | .nothing _ c => ∃ d n, xs = [.ref d] ∧ KnAt H d c n
  | r => DpAll K H xs (rawTail r)
def RawAt (K : PySem.W.Frag) (H : Hp) (a : Addr) (raw : Raw) : Prop := ∃ xs, H a = some (.tup (.str (rawWord raw) :: .int (rawJ raw : Nat) :: xs)) ∧ RawRest K H raw xs
def FoundAt (K : PySem.W.Frag) (H : Hp) (l : Addr) (raws : List Raw) : Prop := ∃ as : List Addr, H l = some (.lst (as.map V.ref)) ∧ All2 (RawAt K H) as raws
/-- an event that a run goes on behind -/
def RawC : Raw → Prop
  | .begin _ _ => True | .fetch _ f _ => Nm f | .lay _ n _ => Nm n | .say _ kd _ => Nm kd | .call _ f _ _ => Nm f
  | _ => False
theorem RawRest.ex {K : PySem.W.Frag} {H H' : Hp} {raw : Raw} {xs : List V} (e : Ex H H') (h : RawRest K H raw xs) : RawRest K H' raw xs := by
  cases raw with
  | begin j c => obtain ⟨d, n, h1, h2⟩ := h; exact ⟨d, n, h1, h2.ex e (Nat.le_refl _)⟩
  | nothing j c => obtain ⟨d, n, h1, h2⟩ := h; exact ⟨d, n, h1, h2.ex e (Nat.le_refl _)⟩
  | _ => exact dps_ex e h
theorem RawAt.ex {K : PySem.W.Frag} {H H' : Hp} {a : Addr} {raw : Raw} (e : Ex H H') (h : RawAt K H a raw) : RawAt K H' a raw :=
  let ⟨xs, h1, h2⟩ := h
  ⟨xs, e _ _ h1, h2.ex e⟩
def hide (H : Hp) (pl cd kd fl : Addr) : Hp := fun b => if b = pl ∨ b = cd ∨ b = kd ∨ b = fl then none else H b
section
variable {K : PySem.W.Frag} {H0 H H' : Hp} {pl cd kd fl : Addr}
theorem hide_sub : Ex (hide H pl cd kd fl) H := fun b o h => by
  unfold hide at h; split at h
  · cases h
  · exact h
theorem hide_ex (e : Ex H H') : Ex (hide H pl cd kd fl) (hide H' pl cd kd fl) := fun b o h => by
  unfold hide at h ⊢; split at h
  · cases h
  · rename_i hb; rw [if_neg hb]; exact e _ _ h
theorem hide_upd {a : Addr} {o : HO} (ha : a = pl ∨ a = cd ∨ a = kd ∨ a = fl) : Ex (hide H pl cd kd fl) (hide (upd H a o) pl cd kd fl) := fun b o h => by
  unfold hide at h ⊢; split at h
  · cases h
  · rename_i hb; rw [if_neg hb, upd_ne (fun z => hb (by rw [z]; exact ha))]; exact h
theorem hide_go (h : ∀ b o, H b = some o → b ≠ pl → b ≠ kd → H' b = some o) : Ex (hide H pl cd kd fl) (hide H' pl cd kd fl) := fun b o hb => by
  unfold hide at hb ⊢; split at hb
  · cases hb
  · rename_i hn; rw [if_neg hn]; exact h b o hb (fun z => hn (.inl z)) (fun z => hn (.inr (.inr (.inl z))))
theorem hide_at {b : Addr} {o : HO} (h : H b = some o) (h1 : b ≠ pl) (h2 : b ≠ cd) (h3 : b ≠ kd) (h4 : b ≠ fl) : hide H pl cd kd fl b = some o := by
  unfold hide; rw [if_neg (by rintro (z | z | z | z); exact h1 z; exact h2 z; exact h3 z; exact h4 z)]; exact h
/-- the machine's state in the heap -/
structure LSt (K : PySem.W.Frag) (H0 H : Hp) (pl cd kd fl : Addr) (pile : List Int) (c : Cells) (k : Keeps) (done : List Raw) (N : Nat) : Prop where
  fp : H0 pl = none
  fc : H0 cd = none
  fk : H0 kd = none
  ff : H0 fl = none
  npf : pl ≠ fl
  ex : Ex H0 H
  atP : H pl = some (.lst (pile.map V.int))
  atC : KnAt H cd c N
  atK : KeepsAt H kd k N
  atF : ∃ as : List Addr, H fl = some (.lst (as.map V.ref)) ∧ All2 (RawAt K (hide H pl cd kd fl)) as done
  zp : pile.length ≤ N
  zd : done.length ≤ N
variable {pile pile' : List Int} {c c' : Cells} {k k' : Keeps} {done : List Raw} {N N' : Nat}
theorem LSt.ne (h : LSt K H0 H pl cd kd fl pile c k done N) : pl ≠ cd ∧ pl ≠ kd ∧ cd ≠ kd ∧ fl ≠ cd ∧ fl ≠ kd := by
  obtain ⟨kvs, h1, _⟩ := h.atC
  obtain ⟨kws, h2, _⟩ := h.atK
  obtain ⟨as, h3, _⟩ := h.atF
  have h4 := h.atP
  refine ⟨fun z => ?_, fun z => ?_, fun z => ?_, fun z => ?_, fun z => ?_⟩
  · rw [z, h1] at h4; cases h4
  · rw [z, h2] at h4; cases h4
  · rw [z, h2] at h1; cases h1
  · rw [z, h1] at h3; cases h3
  · rw [z, h2] at h3; cases h3
theorem LSt.go (h : LSt K H0 H pl cd kd fl pile c k done N) (g : Ex (hide H pl cd kd fl) (hide H' pl cd kd fl)) (hp : H' pl = some (.lst (pile'.map V.int))) (hc : KnAt H' cd c' N') (hk : KeepsAt H' kd k' N') (hf : H' fl = H fl) (hz : pile'.length ≤ N') (hN : N ≤ N') : LSt K H0 H' pl cd kd fl pile' c' k' done N' := by
  obtain ⟨as, h1, h2⟩ := h.atF
  refine ⟨h.fp, h.fc, h.fk, h.ff, h.npf, fun b o hb => ?_, hp, hc, hk, ⟨as, by rw [hf]; exact h1, h2.imp fun _ _ => RawAt.ex g⟩, hz, Nat.le_trans h.zd hN⟩
  have n1 : b ≠ pl := fun z => by rw [z, h.fp] at hb; cases hb
  have n2 : b ≠ cd := fun z => by rw [z, h.fc] at hb; cases hb
  have n3 : b ≠ kd := fun z => by rw [z, h.fk] at hb; cases hb
  have n4 : b ≠ fl := fun z => by rw [z, h.ff] at hb; cases hb
  exact hide_sub _ _ (g _ _ (hide_at (h.ex _ _ hb) n1 n2 n3 n4))
theorem LSt.mono (h : LSt K H0 H pl cd kd fl pile c k done N) (e : Ex H H') (hN : N ≤ N') : LSt K H0 H' pl cd kd fl pile c k done N' := by
  obtain ⟨as, h1, h2⟩ := h.atF
  exact h.go (hide_ex e) (e _ _ h.atP) (h.atC.ex e hN) (h.atK.ex e hN) (by rw [h1]; exact e _ _ h1) (Nat.le_trans h.zp hN) hN
theorem LSt.setP (h : LSt K H0 H pl cd kd fl pile c k done N) (hz : pile'.length ≤ N) : LSt K H0 (upd H pl (.lst (pile'.map V.int))) pl cd kd fl pile' c k done N := by
  obtain ⟨n1, n2, n3, n4, n5⟩ := h.ne
  exact h.go (hide_upd (.inl rfl)) upd_same (h.atC.mono (by rw [upd_ne (Ne.symm n1)]) (Nat.le_refl _)) (h.atK.at (by rw [upd_ne (Ne.symm n2)]) (Nat.le_refl _)) (by rw [upd_ne (Ne.symm h.npf)]) hz (Nat.le_refl _)
theorem LSt.setC (h : LSt K H0 H pl cd kd fl pile c k done N) {kvs : List (Key × V)} (hl : kvs.length ≤ N) (hv : ∀ x, valV kvs (Sum.inl x) = (c' x).map V.int) : LSt K H0 (upd H cd (.dK kvs)) pl cd kd fl pile c' k done N := by
  obtain ⟨n1, n2, n3, n4, n5⟩ := h.ne
  exact h.go (hide_upd (.inr (.inl rfl))) (by rw [upd_ne n1]; exact h.atP) ⟨kvs, upd_same, hl, hv⟩ (h.atK.at (by rw [upd_ne (Ne.symm n3)]) (Nat.le_refl _)) (by rw [upd_ne n4]) h.zp (Nat.le_refl _)
theorem LSt.app (h : LSt K H0 H pl cd kd fl pile c k done N) {as : List Addr} {t : Addr} {raw : Raw} (hf : H fl = some (.lst (as.map V.ref))) (hr : RawAt K (hide H pl cd kd fl) t raw) (hz : done.length < N) : LSt K H0 (upd H fl (.lst (as.map V.ref ++ [.ref t]))) pl cd kd fl pile c k (done ++ [raw]) N := by
  obtain ⟨n1, n2, n3, n4, n5⟩ := h.ne
  have g := hide_upd (H := H) (pl := pl) (cd := cd) (kd := kd) (fl := fl) (a := fl) (o := .lst (as.map V.ref ++ [.ref t])) (.inr (.inr (.inr rfl)))
  have ex2 : Ex H0 (upd H fl (.lst (as.map V.ref ++ [.ref t]))) := Ex.mut h.ex h.ff
  obtain ⟨bs, hb, hb2⟩ := h.atF
  have e : bs = as := by
    rw [hf] at hb
    exact ((List.map_inj_right (fun _ _ z => V.ref.inj z)).mp (HO.lst.inj (Option.some.inj hb))).symm
  subst e
  exact ⟨h.fp, h.fc, h.fk, h.ff, h.npf, ex2, by rw [upd_ne h.npf]; exact h.atP, h.atC.mono (by rw [upd_ne (Ne.symm n4)]) (Nat.le_refl _), h.atK.at (by rw [upd_ne (Ne.symm n5)]) (Nat.le_refl _), ⟨bs ++ [t], by rw [upd_same]; simp, All2.snoc (hb2.imp fun _ _ => RawAt.ex g) (hr.ex g)⟩, h.zp, by rw [List.length_append]; simp; omega⟩
end
def SmallK (k : Keeps) : Prop := ∀ f n v, k f n = some v → Small v
structure MsOk (rows : List Row) (ms : List MRow) : Prop where
  bnd : ∀ m ∈ ms, m.op.Bnd
  call : ∀ m ∈ ms, m.op.tag = .call → ∃ r, rows[m.k]? = some r ∧ r.tag = .call
  lt : ∀ m ∈ ms, m.k < rows.length
def partsC (xs : List Int) : Cells := fun x => if 0 ≤ x then xs[x.toNat]? else none
section
variable {P : Program} {w : World} {K : PySem.W.Frag} {mg : Str → Option Value} {base : Heap} {o1 o2 o3 o4 o5 : Addr}
abbrev sLm : Stmt := top 47
abbrev nLm : List Str := ["_law_rows", "_law_made_here", "_law_parts", "_law_most", "_law_pile", "_law_cells", "_law_keeps", "_law_found", "_law_at", "_law_k", "_law_row", "_law_word", "_law_told"]
theorem scLm : FnScope nLm ["_law_rows", "_law_made_here", "_law_parts", "_law_most"] (defScope sLm) := ⟨rfl, rfl, rfl, by decide +kernel, rfl, by decide +kernel, by decide +kernel⟩
def spLm (K0 : PySem.W.Frag) : Sp := fun vs H Q _ => ∃ ma md pa vn vk vo ppa ra na rows ms, ∃ (parts : List Int) (most : Int), ∃ raws n, vs = [.ref ma, .ref md, .ref pa, .int most] ∧ MRowsAt H ma ms ∧ MadeAt H md vn vk vo ppa ra na rows ∧ H pa = some (.lst (parts.map V.int)) ∧ MsOk rows ms ∧ (∀ v ∈ parts, Small v) ∧ parts.length ≤ 100 ∧ n ≤ 50000 ∧
  MRuns rows ms 0 [] (partsC parts) (fun _ _ => none) most raws n ∧ ∀ p H2, H p = none → Ex H H2 → FoundAt K0 H2 p raws → Q (.ref p) H2
theorem q_asgG {te : TE} {g : TG} {tz : TS} {D : Ends} {σ : L2.St} {H : Hp} (h : te σ H fun v H1 => g v σ H1 (tz D)) : tSeq (tAsg te g) tz D σ H := h
theorem q_ifS {t : TT} {tu tw tz : TS} {D : Ends} {σ : L2.St} {H : Hp} {b : Bool} (M : L2.St → Hp → Prop) (h : EvT t σ H b) (k : ∀ σ1 H1, M σ1 H1 → tz D σ1 H1) (h1 : b = true → ∀ H1, Ex H H1 → (∀ σ2 H2, M σ2 H2 → tz D σ2 H2) → tu { D with nx := tz D } σ H1) (h2 : b = false → ∀ H1, Ex H H1 → (∀ σ2 H2, M σ2 H2 → tz D σ2 H2) → tw { D with nx := tz D } σ H1) : tSeq (tIfS t tu tw) tz D σ H :=
  q_if h (fun hb H1 e => h1 hb H1 e k) (fun hb H1 e => h2 hb H1 e k)
/-- which turn comes -/
def LW (K : PySem.W.Frag) (H0 : Hp) (ma md pa : Addr) (rows : List Row) (ms : List MRow) (raws : List Raw) (NN : Nat) (pl cd kd fl : Addr) (m : Nat) (σ : L2.St) (H : Hp) : Prop :=
  ∃ (pc : Nat) (pile : List Int) (c : Cells) (k : Keeps) (most : Int) (done rest : List Raw) (N : Nat) (u9 u10 u11 u12 : Option V), σ = [some (.ref ma), some (.ref md), some (.ref pa), some (.int most), some (.ref pl), some (.ref cd), some (.ref kd), some (.ref fl), some (.int (pc : Nat)), u9, u10, u11, u12] ∧
    LSt K H0 H pl cd kd fl pile c k done N ∧ N + m ≤ NN ∧ MRuns rows ms pc pile c k most rest m ∧ done ++ rest = raws ∧ (∀ raw ∈ done, RawC raw) ∧ (∀ v ∈ pile, Small v) ∧ SmallC c ∧ SmallK k
theorem mruns_out {rows : List Row} {ms : List MRow} {pc : Nat} {pile : List Int} {c : Cells} {k : Keeps} {most : Int} {raws : List Raw} {n : Nat} (h : MRuns rows ms pc pile c k most raws n) (hm : most < 0) : raws = [] := by
  cases h <;> first | rfl | omega
theorem mruns_at {rows : List Row} {ms : List MRow} {pc : Nat} {pile : List Int} {c : Cells} {k : Keeps} {most : Int} {raws : List Raw} {n : Nat} (h : MRuns rows ms pc pile c k most raws n) (hm : 0 ≤ most) : ∃ m, ms[pc]? = some m := by
  cases h <;> first | exact ⟨_, by assumption⟩ | omega
/-- what comes of a worked op -/
def WOut (rows : List Row) (ms : List MRow) (mr : MRow) (pc : Nat) (pile' : List Int) (c : Cells) (k' : Keeps) (most : Int) (raws : List Raw) (n : Nat) (told : List PyData) : Prop :=
  (told = [] ∧ mr.op.tag ≠ .give ∧ mr.op.tag ≠ .nothing ∧ ∃ m, n = m + 1 ∧ MRuns rows ms (pc + 1) pile' c k' most raws m) ∨
  ∃ raw, told ≠ [] ∧ rawWord raw = mr.op.tag.word ∧ rawJ raw = mr.k ∧ (∀ H K xs, DpAll K H xs told → RawRest K H raw xs) ∧
    ((mr.op.tag ≠ .give ∧ mr.op.tag ≠ .nothing ∧ RawC raw ∧ ∃ rs m, raws = raw :: rs ∧ n = m + 1 ∧ MRuns rows ms (pc + 1) pile' c k' most rs m) ∨ ((mr.op.tag = .give ∨ ∃ j o w, raw = .fault j o w) ∧ raws = [raw]))
/-- which step a run makes -/
inductive MStep (rows : List Row) (ms : List MRow) (r : Row) (mr : MRow) (pc : Nat) (pile : List Int) (c : Cells) (k : Keeps) (most : Int) (raws : List Raw) (n : Nat) : Prop
  | row {rs m} : mr.op = .row → pile = [] → raws = .begin mr.k c :: rs → n = m + 1 → MRuns rows ms (pc + 1) [] c k (most - 1) rs m → MStep rows ms r mr pc pile c k most raws n
  | nothing : mr.op = .nothing → pile = [] → raws = [.nothing mr.k c] → MStep rows ms r mr pc pile c k most raws n
  | jump {t m : Nat} : mr.op = .jump (t : Nat) → n = m + 1 → MRuns rows ms t pile c k most raws m → MStep rows ms r mr pc pile c k most raws n
  | «unless» {t : Int} {p v} {m pc' : Nat} : mr.op = .unless t → pile = p ++ [v] → n = m + 1 → ((v = 0 ∧ t = (pc' : Nat)) ∨ (v ≠ 0 ∧ pc' = pc + 1)) → MRuns rows ms pc' p c k most raws m → MStep rows ms r mr pc pile c k most raws n
  | push {v m} : mr.op = .push v → n = m + 1 → MRuns rows ms (pc + 1) (pile ++ [v]) c k most raws m → MStep rows ms r mr pc pile c k most raws n
  | load {x v m} : mr.op = .load x → c x = some v → n = m + 1 → MRuns rows ms (pc + 1) (pile ++ [v]) c k most raws m → MStep rows ms r mr pc pile c k most raws n
  | store {x p v m} : mr.op = .store x → pile = p ++ [v] → n = m + 1 → MRuns rows ms (pc + 1) p (setC c x v) k most raws m → MStep rows ms r mr pc pile c k most raws n
  | work {told pile' k'} : Wk r mr.op pile k told pile' k' → WOut rows ms mr pc pile' c k' most raws n told → MStep rows ms r mr pc pile c k most raws n
theorem mstep {rows : List Row} {ms : List MRow} {r : Row} {mr : MRow} {pc : Nat} {pile : List Int} {c : Cells} {k : Keeps} {most : Int} {raws : List Raw} {n : Nat} (h : MRuns rows ms pc pile c k most raws n) (hm : 0 ≤ most) (ha : ms[pc]? = some mr) (hr : rows[mr.k]? = some r) (hb : mr.op.Bnd) : MStep rows ms r mr pc pile c k most raws n := by
  cases h with
  | out h => omega
  | row h0 h1 h2 => rw [ha] at h1; cases h1; exact .row rfl rfl rfl rfl h2
  | nothing h0 h1 => rw [ha] at h1; cases h1; exact .nothing rfl rfl rfl
  | push h0 h1 h2 => rw [ha] at h1; cases h1; exact .push rfl rfl h2
  | load h0 h1 h2 h3 => rw [ha] at h1; cases h1; exact .load rfl h2 rfl h3
  | store h0 h1 h2 h3 => rw [ha] at h1; cases h1; exact .store rfl h2 rfl h3
  | fetch h0 h1 h2 => rw [ha] at h1; cases h1; exact .work .fetch (.inr ⟨.fetch _ _ _, by simp, rfl, rfl, fun _ _ _ h => h, .inl ⟨by simp [MOp.tag], by simp [MOp.tag], hb.2.1, _, _, rfl, rfl, h2⟩⟩)
  | lay h0 h1 h2 h3 => rw [ha] at h1; cases h1; subst h2; exact .work .lay (.inr ⟨.lay _ _ _, by simp, rfl, rfl, fun _ _ _ h => h, .inl ⟨by simp [MOp.tag], by simp [MOp.tag], hb, _, _, rfl, rfl, h3⟩⟩)
  | two h0 h1 h2 h3 h4 => rw [ha] at h1; cases h1; subst h2; exact .work (.two h3) (.inl ⟨rfl, by simp [MOp.tag], by simp [MOp.tag], _, rfl, h4⟩)
  | twoF h0 h1 h2 h3 => rw [ha] at h1; cases h1; subst h2; exact .work (.twoF h3) (.inr ⟨.fault _ _ _, by simp, rfl, rfl, fun _ _ _ h => h, .inr ⟨.inr ⟨_, _, _, rfl⟩, rfl⟩⟩)
  | jump h0 h1 h2 => rw [ha] at h1; cases h1; exact .jump rfl rfl h2
  | unless0 h0 h1 h2 h3 => rw [ha] at h1; cases h1; exact .unless rfl h2 rfl (.inl ⟨rfl, rfl⟩) h3
  | unless1 h0 h1 h2 h3 h4 => rw [ha] at h1; cases h1; exact .unless rfl h2 rfl (.inr ⟨h3, rfl⟩) h4
  | call h0 h1 h2 h3 h4 h5 =>
    rw [ha] at h1; cases h1; subst h2
    rw [hr] at h4; cases h4
    exact .work (.call h3) (.inr ⟨.call _ _ _ _, by simp, rfl, rfl, fun _ _ _ h => h, .inl ⟨by simp [MOp.tag], by simp [MOp.tag], hb.2.1, _, _, rfl, rfl, h5⟩⟩)
  | give0 h0 h1 => rw [ha] at h1; cases h1; exact .work .give0 (.inr ⟨.give _ none, by simp, rfl, rfl, fun _ _ _ h => h, .inr ⟨.inl rfl, rfl⟩⟩)
  | give1 h0 h1 h2 => rw [ha] at h1; cases h1; subst h2; exact .work .give1 (.inr ⟨.give _ (some _), by simp, rfl, rfl, fun _ _ _ h => h, .inr ⟨.inl rfl, rfl⟩⟩)
  | say h0 h1 h2 h3 => rw [ha] at h1; cases h1; subst h2; exact .work .say (.inr ⟨.say _ _ _, by simp, rfl, rfl, fun _ _ _ h => h, .inl ⟨by simp [MOp.tag], by simp [MOp.tag], hb, _, _, rfl, rfl, h3⟩⟩)
theorem came_small (f n : S) (vs : List Int) : Small (came f n vs) ∨ vs = [] := by
  by_cases h : vs = []
  · exact .inr h
  · left
    obtain ⟨xs, x, rfl⟩ : ∃ xs x, vs = xs ++ [x] := ⟨vs.dropLast, vs.getLast h, (List.dropLast_concat_getLast h).symm⟩
    unfold came Small big
    rw [List.foldl_append]
    simp only [List.foldl_cons, List.foldl_nil]
    generalize List.foldl _ _ xs = a
    have h1 := Int.emod_nonneg (a * 31 + x) (show (1009 : Int) ≠ 0 by decide)
    have h2 := Int.emod_lt_of_pos (a * 31 + x) (show (0 : Int) < 1009 by decide)
    omega
/-- numbers stay small -/
theorem wk_small {r : Row} {op : MOp} {pile pile' : List Int} {k k' : Keeps} {told : List PyData} (h : Wk r op pile k told pile' k') (hb : op.Bnd) (hp : ∀ v ∈ pile, Small v) (hk : SmallK k) : (∀ v ∈ pile', Small v) ∧ SmallK k' ∧ pile'.length ≤ pile.length + 1 := by
  cases h with
  | say => exact ⟨fun v hv => hp v (List.mem_append_left _ hv), hk, by simp; omega⟩
  | @lay n p v _ =>
    refine ⟨fun v hv => hp v (List.mem_append_left _ hv), fun f m u hu => ?_, by simp; omega⟩
    unfold setK at hu
    split at hu
    · cases hu; exact hp _ (by simp)
    · exact hk f m u hu
  | give0 => exact ⟨hp, hk, by omega⟩
  | give1 => exact ⟨fun v hv => hp v (List.mem_append_left _ hv), hk, by simp; omega⟩
  | @fetch f n _ _ =>
    refine ⟨fun v hv => ?_, hk, by simp⟩
    rcases List.mem_append.mp hv with z | z
    · exact hp v z
    · have : v = fetched k f n := by simpa using z
      subst this
      unfold fetched
      cases hkf : k f n with
      | none =>
        have h1 := hb.1
        show Small (((f ++ n).length : Int) * 11)
        unfold Small big
        have h2 : ((f ++ n).length : Int) ≤ 100 := by omega
        omega
      | some u => exact hk f n u hkf
  | @call f n many p vs _ h =>
    refine ⟨fun v hv => ?_, hk, ?_⟩
    · rcases List.mem_append.mp hv with z | z
      · exact hp v (List.mem_append_left _ z)
      · unfold backOf at z
        split at z
        · have : v = came f n vs := by simpa using z
          subst this
          rcases came_small f n vs with h | h
          · exact h
          · subst h
            have h1 := hb.1
            have h2 : ((f ++ n).length : Int) ≤ 100 := by omega
            unfold came Small big
            simp only [List.foldl_nil, List.length_nil]
            omega
        · simp at z
    · unfold backOf
      split <;> simp <;> omega
  | @two o p a b v _ h =>
    refine ⟨fun u hu => ?_, hk, by simp⟩
    rcases List.mem_append.mp hu with z | z
    · exact hp u (List.mem_append_left _ z)
    · have : u = v := by simpa using z
      subst this
      exact ap_small (hp a (by simp)) (hp b (by simp)) h
  | twoF => exact ⟨fun v hv => hp v (List.mem_append_left _ hv), hk, by simp; omega⟩
theorem atI_lastR {xs : List Addr} {b : Addr} : atI ((xs ++ [b]).map V.ref) (-1) = some (.ref b) := by
  have hl : ((xs ++ [b]).map V.ref).length = xs.length + 1 := by simp
  unfold atI ixN
  rw [hl, if_neg (by decide), if_pos (by omega)]
  have : ((-1 : Int) + ((xs.length + 1 : Nat) : Int)).toNat = xs.length := by omega
  show ((xs ++ [b]).map V.ref)[((-1 : Int) + ((xs.length + 1 : Nat) : Int)).toNat]? = _
  rw [this]; simp
theorem et_inSD {σ : L2.St} {H : Hp} {ta : TE} {x : V} {b : Bool} (ha : Ev ta σ H x) (h : (flatV x = true ∧ inV x [.str "great", .str "nought"] = b) ∨ (b = false ∧ ∃ d kvs, x = .ref d ∧ H d = some (.dK kvs))) : EvT (tTest (tOp (rInSD K) ta (tTup (tCons (tC (.str "great")) (tCons (tC (.str "nought")) tNil))))) σ H b :=
  et_test (ev_opV ha (eu_tup (ea_cons ev_c (ea_cons ev_c ea_nil)) (Nat.le_of_ble_eq_true rfl)) fun q H1 hq e1 H2 e2 Q q' => ⟨q, ["great", "nought"], rfl, st_of (e2 _ _ hq), by
    rcases h with ⟨h1, h2⟩ | ⟨rfl, d, kvs, rfl, h2⟩
    · exact .inl ⟨h1, by rw [show inV x ((["great", "nought"] : List Str).map V.str) = b from h2]; exact q' H2 (Ex.refl _)⟩
    · exact .inr ⟨d, kvs, rfl, (e1.trans e2) _ _ h2, q' H2 (Ex.refl _)⟩⟩)
theorem et_neNil {σ : L2.St} {H : Hp} {ta : TE} {a : Addr} {xs : List V} (ha : Ev ta σ H (.ref a)) (h : H a = some (.lst xs)) : EvT (tTest (tOp (rNeNil K) ta (tLst tNil))) σ H (!xs.isEmpty) :=
  et_test (ev_opL ha (el_lst ea_nil (Nat.le_of_ble_eq_true rfl)) fun q H1 hq e1 H2 e2 Q q' => ⟨a, q, xs, rfl, rfl, sq_of ((e1.trans e2) _ _ h), sq_of (e2 _ _ hq), q' H2 (Ex.refl _)⟩)
theorem nm_in {x : S} (h : Nm x) : inV (.str x) [.str "great", .str "nought"] = false := by
  unfold inV
  simp only [List.any_cons, List.any_nil, Bool.or_false]
  show ((Str.ofString "great" == x) || (Str.ofString "nought" == x)) = false
  rw [beq_eq_false_iff_ne.mpr (Ne.symm h.2.1), beq_eq_false_iff_ne.mpr (Ne.symm h.2.2)]; rfl
theorem raw_in {H : Hp} {b : Addr} {raw : Raw} (h : RawAt K H b raw) : (RawC raw → ∃ x tl, H b = some (.tup (.str (rawWord raw) :: .int (rawJ raw : Nat) :: x :: tl)) ∧ ((flatV x = true ∧ inV x [.str "great", .str "nought"] = false) ∨ (false = false ∧ ∃ d kvs, x = .ref d ∧ H d = some (.dK kvs)))) ∧
    (∀ j o w, raw = .fault j o w → ∃ tl, H b = some (.tup (.str (rawWord raw) :: .int (rawJ raw : Nat) :: .str w.word :: tl))) := by
  obtain ⟨xs, h1, h2⟩ := h
  refine ⟨fun hc => ?_, fun j o w hw => ?_⟩
  · cases raw with
    | begin j c => obtain ⟨d, n, rfl, kvs, h3, _⟩ := h2; exact ⟨_, _, h1, .inr ⟨rfl, d, kvs, rfl, h3⟩⟩
    | fetch j f n => cases h2 with | cons a b => cases a; exact ⟨_, _, h1, .inl ⟨rfl, nm_in hc⟩⟩
    | lay j n v => cases h2 with | cons a b => cases a; exact ⟨_, _, h1, .inl ⟨rfl, nm_in hc⟩⟩
    | say j kd v => cases h2 with | cons a b => cases a; exact ⟨_, _, h1, .inl ⟨rfl, nm_in hc⟩⟩
    | call j f n vs => cases h2 with | cons a b => cases a; exact ⟨_, _, h1, .inl ⟨rfl, nm_in hc⟩⟩
    | _ => cases hc
  · subst hw
    cases h2 with
    | cons a b => cases a; exact ⟨_, h1⟩
theorem wk1 {r : Row} {op : MOp} {a b : List Int} {k k' : Keeps} {t : List PyData} (h : Wk r op a k t b k') : ([MTag.row, .nothing].contains op.tag) = false ∧ ([MTag.jump, .unless].contains op.tag) = false ∧ ([MTag.push, .load].contains op.tag) = false ∧ decide (op.tag = .store) = false := by
  cases h <;> simp [MOp.tag]
/-- {'row': 'begin'}.get(word, word) -/
theorem wk_shaped {r : Row} {op : MOp} {a b : List Int} {k k' : Keeps} {t : List PyData} (h : Wk r op a k t b k') (hb : op.Bnd) : SeqAt.shaped (.tuple t) = true := by
  have e1 : ∀ {v : Int}, PyData.canLay0 (.int v) = true := by intro v; simp [PyData.canLay0]
  have e2 : ∀ {x : S}, PyData.depth (.str x) = 0 := by intro x; simp [PyData.depth]
  have e3 : ∀ {v : Int}, PyData.depth (.int v) = 0 := by intro x; simp [PyData.depth]
  cases h with
  | say => exact shaped_of (by simp only [PyData.canLayAll0, Bool.and_eq_true]; exact ⟨lay_str hb, e1, trivial⟩) (by simp [PyData.depthAll, PyData.depth])
  | lay => exact shaped_of (by simp only [PyData.canLayAll0, Bool.and_eq_true]; exact ⟨lay_str hb, e1, trivial⟩) (by simp [PyData.depthAll, PyData.depth])
  | give0 => exact shaped_of (by simp [PyData.canLayAll0, PyData.canLay0]) (by simp [PyData.depthAll, PyData.depth])
  | give1 => exact shaped_of (by simp [PyData.canLayAll0, PyData.canLay0]) (by simp [PyData.depthAll, PyData.depth])
  | fetch => exact shaped_of (by simp only [PyData.canLayAll0, Bool.and_eq_true]; exact ⟨lay_str hb.2.1, lay_str hb.2.2, trivial⟩) (by simp [PyData.depthAll, PyData.depth])
  | call => exact shaped_of (by simp only [PyData.canLayAll0, PyData.canLay0, Bool.and_eq_true]; exact ⟨lay_str hb.2.1, lay_str hb.2.2, lay_ints, trivial⟩) (by simp [PyData.depthAll, PyData.depth, deep_ints])
  | two => exact shaped_of (by simp [PyData.canLayAll0]) (by simp [PyData.depthAll])
  | @twoF o p a b w k h => exact shaped_of (by cases w <;> decide +kernel) (by simp [PyData.depthAll, PyData.depth])
theorem wk_len {r : Row} {op : MOp} {a b : List Int} {k k' : Keeps} {t : List PyData} (h : Wk r op a k t b k') : t.length ≤ 3 := by cases h <;> simp
theorem dp_len {H : Hp} {K : PySem.W.Frag} : ∀ {xs : List V} {ds : List PyData}, DpAll K H xs ds → xs.length = ds.length
  | _, _, .nil => rfl
  | _, _, .cons _ h => by simp [dp_len h]
/-- told != () -/
theorem et_told {K : PySem.W.Frag} {σ : L2.St} {H : Hp} {ta : TE} {a : Addr} {xs : List V} {ds : List PyData} (ha : Ev ta σ H (.ref a)) (h : H a = some (.tup xs)) (hd : DpAll K H xs ds) (hs : SeqAt.shaped (.tuple ds) = true) : EvT (tTest (tOp (rNeD K) ta (tTup tNil))) σ H (!ds.isEmpty) := et_test fun H1 e Q q =>
  ha H1 e _ fun H2 e2 => eu_tup ea_nil (by simp) H2 (Ex.refl _) _ fun p H3 hp e3 h3 => ⟨.tuple ds, .tuple [], .tup (st_of ((e2.trans e3) _ _ (e _ _ h))) (dps_ex ((e.trans e2).trans e3) hd), .tup (st_of h3) .nil, hs, by decide +kernel, by
    have e9 : PyData.eqv (.tuple ds) (.tuple []) = ds.isEmpty := by cases ds <;> simp [PyData.eqv, PyData.eqvAll]
    rw [e9]; exact q H3 (e2.trans e3)⟩
theorem ev_getW {σ : L2.St} {H : Hp} {ta tb : TE} {u : MTag} (ha : ∀ {H1 : Hp}, Ev ta σ H1 (.str u.word)) (hb : ∀ {H1 : Hp}, Ev tb σ H1 (.str u.word)) : Ev (tDGet2 (tDisp [(tC (.str "row"), tC (.str "begin"))]) ta tb) σ H (.str (if u = .row then "begin" else u.word)) := fun H1 e Q q => by
  intro p hp
  refine ⟨upd_same, [(Sum.inr (Str.ofString "row"), .str "begin")], rfl, by simp, p, rfl, .inl ⟨_, .inl upd_same⟩, ?_⟩
  have e1 : Ex H1 (upd (upd H1 p (.dK [])) p (.dK (mergeK [] [(Sum.inr (Str.ofString "row"), V.str "begin")]))) := fun b o h => by
    rw [upd_ne (ne_of_none h hp), upd_ne (ne_of_none h hp)]; exact h
  have hd : (upd (upd H1 p (.dK [])) p (.dK (mergeK [] [(Sum.inr (Str.ofString "row"), V.str "begin")]))) p = some (.dK (mergeK [] [(Sum.inr (Str.ofString "row"), V.str "begin")])) := upd_same
  generalize upd (upd H1 p (.dK [])) p (.dK (mergeK [] [(Sum.inr (Str.ofString "row"), V.str "begin")])) = H2 at e1 hd ⊢
  refine ha H2 (Ex.refl _) _ fun H3 e3 => hb H3 (Ex.refl _) _ fun H4 e4 => ⟨_, DGet.k (k := Sum.inr u.word) ((e3.trans e4) _ _ hd), ?_⟩
  have hv : (valV (mergeK [] [((Sum.inr (Str.ofString "row") : Key), V.str "begin")]) (Sum.inr u.word)).getD (.str u.word) = .str (if u = .row then "begin" else u.word) := by
    show (valV (putK [] (Sum.inr (Str.ofString "row") : Key) (V.str "begin")) (Sum.inr u.word)).getD (.str u.word) = _
    rw [valV_put]
    by_cases h : u = .row
    · subst h; rw [if_pos (show (Sum.inr MTag.row.word : Key) = Sum.inr (Str.ofString "row") from rfl)]; rfl
    · rw [if_neg (fun z => h (by
        have := is_mword u .row
        rw [show V.str u.word = V.str (MTag.word .row) from congrArg V.str (Sum.inr.inj z), decide_eq_true rfl] at this
        exact of_decide_eq_true this.symm)), if_neg h]; rfl
  rw [hv]
  exact q H4 ((e1.trans e3).trans e4)
/-- behind the step, ahead of the end test -/
abbrev LM (K : PySem.W.Frag) (H : Hp) (ma md pa : Addr) (rows : List Row) (ms : List MRow) (raws : List Raw) (pl cd kd fl : Addr) (m : Nat) (mr : MRow) (rwa : Addr) (σ' : L2.St) (H' : Hp) : Prop :=
  ∃ (most' at'' : Int) (u12' : Option V) (done' : List Raw) (as : List Addr), σ' = [some (.ref ma), some (.ref md), some (.ref pa), some (.int most'), some (.ref pl), some (.ref cd), some (.ref kd), some (.ref fl), some (.int at''), some (.int (mr.k : Nat)), some (.ref rwa), some (.str mr.op.tag.word), u12'] ∧ Ex H H' ∧ H' fl = some (.lst (as.map V.ref)) ∧ All2 (RawAt K (hide H' pl cd kd fl)) as done' ∧ as.length ≤ 70000 ∧
    ((done' = raws ∧ ((mr.op.tag = .give ∧ done' ≠ []) ∨ (mr.op.tag = .nothing ∧ done' ≠ []) ∨ ∃ ds j o w, done' = ds ++ [.fault j o w])) ∨ (mr.op.tag ≠ .give ∧ mr.op.tag ≠ .nothing ∧ (∀ raw ∈ done', RawC raw) ∧ ∀ H'', Ex H' H'' → ∃ m', m' < m ∧ LW K H ma md pa rows ms raws 60000 pl cd kd fl m' σ' H''))
theorem LM.cont {H : Hp} {ma md pa : Addr} {rows : List Row} {ms : List MRow} {raws : List Raw} {pl cd kd fl : Addr} {m : Nat} {mr : MRow} {rwa : Addr} {σ' : L2.St} {H' : Hp} {pile : List Int} {c : Cells} {k : Keeps} {most : Int} {done rest : List Raw} {N pc m' : Nat} {u12 : Option V}
    (hσ : σ' = [some (.ref ma), some (.ref md), some (.ref pa), some (.int most), some (.ref pl), some (.ref cd), some (.ref kd), some (.ref fl), some (.int (pc : Nat)), some (.int (mr.k : Nat)), some (.ref rwa), some (.str mr.op.tag.word), u12]) (st : LSt K H H' pl cd kd fl pile c k done N) (hN : N + m' ≤ 60000) (hr : MRuns rows ms pc pile c k most rest m') (hd : done ++ rest = raws)
    (hc : ∀ raw ∈ done, RawC raw) (hp : ∀ v ∈ pile, Small v) (hsc : SmallC c) (hsk : SmallK k) (hm : m' < m) (g1 : mr.op.tag ≠ .give) (g2 : mr.op.tag ≠ .nothing) : LM K H ma md pa rows ms raws pl cd kd fl m mr rwa σ' H' := by
  subst hσ
  obtain ⟨as, f1, f2⟩ := st.atF
  have zd := st.zd
  exact ⟨most, (pc : Nat), u12, done, as, rfl, st.ex, f1, f2, by rw [f2.1]; omega, .inr ⟨g1, g2, hc, fun H'' e'' => ⟨m', hm, pc, pile, c, k, most, done, rest, N, _, _, _, u12, rfl, st.mono e'' (Nat.le_refl _), hN, hr, hd, hc, hp, hsc, hsk⟩⟩⟩
theorem r_ifPop {σ : L2.St} {H : Hp} {pl : Addr} {p : List Int} {v : Int} {i : Nat} {t1 : TT} {ta tb : TE} {Q : VK} (h1 : EvT t1 σ H false) (hv : σ[i]? = some (some (.ref pl))) (hp : H pl = some (.lst ((p ++ [v]).map V.int))) (k : ∀ H1, Ex H H1 → (if v = 0 then ta else tb) σ (upd H1 pl (.lst (p.map V.int))) Q) : tIf (tOr t1 (tTest (tOp rEq (tBM0 K "list" rPop (tVar i)) (tC (.int 0))))) ta tb σ H Q :=
  h1 H (Ex.refl H) _ fun H1 e1 => by
    show tBM0 K "list" rPop (tVar i) σ H1 _
    refine r_pop hv (e1 _ _ hp) ?_
    refine And.intro rfl ⟨decide (V.int v = V.int 0), rfl, ?_⟩
    have := k H1 e1
    by_cases h : v = 0
    · rw [if_pos h] at this; subst h; exact this
    · rw [if_neg h] at this
      rw [decide_eq_false (fun z => h (V.int.inj z))]; exact this
theorem ok_Lm {f f1 : Addr} {fd d1 : FuncData} (F : Fun K "_law_machine" "_law_machine" sLm f fd) (T : Txt K mg o1 o2 o3 o4 o5) (C__law_worked : CalAt P w K mg base 2 "_law_worked" ["_law_row", "_law_middle_here", "_law_pile", "_law_keeps"] (spLw K) f1 d1) : FnOk P w K mg base CX0 3 f fd ["_law_rows", "_law_made_here", "_law_parts", "_law_most"] (spLm K) := by
  refine F.ok scLm (fun vs H Q E h => ?_) (fun cdv A outer s H vs Q E hr h => ?_)
  · obtain ⟨ma, md, pa, vn, vk, vo, ppa, ra, na, rows, ms, parts, most, raws, n, rfl, _⟩ := h; rfl
  · obtain ⟨ma, md, pa, vn, vk, vo, ppa, ra, na, rows, ms, parts, most, raws, n, rfl, hms, ⟨hmd, hrt⟩, hpa, mok, hps, hpl0, hn0, hruns, k⟩ := h
    have nd := scLm.nd
    have hu := hu_of hr
    refine ⟨_, (pss_cons (ps_asg (pe_tup (pa_cons (pe_lst pa_nil) (pa_cons pe_dnewK (pa_cons pe_dnewT (pa_cons (pe_lst pa_nil) (pa_cons pe_int pa_nil)))))) (pg_tup (n := 5) rfl (pgs_cons (pg_name (i := 4) nd rfl (Or.inl rfl)) (pgs_cons (pg_name (i := 5) nd rfl (Or.inl rfl)) (pgs_cons (pg_name (i := 6) nd rfl (Or.inl rfl)) (pgs_cons (pg_name (i := 7) nd rfl (Or.inl rfl)) (pgs_cons (pg_name (i := 8) nd rfl (Or.inl rfl)) pgs_nil)))))))
      (pss_cons (ps_for PassesOwn.never rfl (pi_range1 rfl T.range (pa_cons (pe_callB call_len_seq (by rfl) T.len PySem.boot_len (pa_cons (pv 2) pa_nil)) pa_nil)) (pg_name (i := 9) nd rfl (Or.inl rfl)) (pss_one (ps_dput hu (pv 5) (pv 9) (pe_ix ix_list (pv 2) (pv 9) (fun _ _ => rfl)) rfl)))
      (pss_cons (ps_while PassesOwn.never (pt_cmpR op_ge (pv 3) pe_int (nomark _)) (pss_cons (ps_par (i := 10) (j := 8) (by rfl) nd rfl rfl (by decide) rfl rfl (pa_cons (pe_ix ix_list (pv 0) (pv 8) (fun _ _ => rfl)) (pa_cons (pe_op op_add (pv 8) pe_int) pa_nil)) rfl)
      (pss_cons (ps_par (i := 11) (j := 9) (by rfl) nd rfl rfl (by decide) rfl rfl (pa_cons (pe_ix ix_tup (pv 10) pe_int (fun _ _ => rfl)) (pa_cons (pe_ix ix_tup (pv 10) (pe_op op_sub (pe_callB call_len_seq (by rfl) T.len PySem.boot_len (pa_cons (pv 10) pa_nil)) pe_int) (fun _ _ => rfl)) pa_nil)) rfl)
      (pss_cons (ps_if (pt_cmpR op_in_seq (pv 11) (pe_tup (pa_cons pe_str (pa_cons pe_str pa_nil))) rfl) (pss_cons (ps_set (i := 3) nd rfl (Or.inl rfl) (pe_op op_sub (pv 3) (pe_callTy call_int1 (by rfl) T.int (by decide +kernel) (pa_cons (pe_cmpR op_eq (pv 11) pe_str (nomark _)) pa_nil))))
      (pss_cons (ps_if (pt_cmpR (op_neNil hr.units0) (pv 4) (pe_lst pa_nil) (nomark _)) (pss_one (ps_ret pe_non)) pss_nil)
      (pss_one (ps_expr (pe_bm PySem.F.plainAttrs_list PySem.F.slot_list_append PySem.F.type_list_append mt_append (pv 7) (pa_cons (pe_tup (pa_cons (pe_dget2 hu (pe_disp (pps_cons pe_str pe_str pps_nil) (by rfl) (by rfl) (fun z => by cases z) (by decide)) (pv 11) (pv 11) ⟨rfl, rfl, rfl, rfl⟩) (pa_cons (pv 9) (pa_cons (pe_callTy call_dictD (by rfl) T.dict (by decide +kernel) (pa_cons (pv 5) pa_nil)) pa_nil)))) pa_nil)))))) (pss_one (ps_if (pt_cmpR op_in_seq (pv 11) (pe_tup (pa_cons pe_str (pa_cons pe_str pa_nil))) rfl) (pss_one (ps_set (i := 8) nd rfl (Or.inl rfl) (pe_ifExp (pw_or (pt_cmpR op_eq (pv 11) pe_str (nomark _)) (pw_or1 (pt_cmpR op_eq (pe_bm0 PySem.F.plainAttrs_list PySem.F.slot_list_pop PySem.F.type_list_pop mt_pop (pv 4)) pe_int (nomark _)))).pt (pe_ix ix_tup (pv 10) pe_int (fun _ _ => rfl)) (pv 8)))) (pss_one (ps_if (pt_cmpR op_in_seq (pv 11) (pe_tup (pa_cons pe_str (pa_cons pe_str pa_nil))) rfl) (pss_one (ps_expr (pe_bm PySem.F.plainAttrs_list PySem.F.slot_list_append PySem.F.type_list_append mt_append (pv 4) (pa_cons (pe_ifExp (pt_cmpR op_eq (pv 11) pe_str (nomark _)) (pe_ix ix_tup (pv 10) pe_int (fun _ _ => rfl)) (pe_dget hu (pv 5) (pe_ix ix_tup (pv 10) pe_int (fun _ _ => rfl)) (fun _ _ => rfl))) pa_nil)))) (pss_one (ps_if (pt_cmpR op_eq (pv 11) pe_str (nomark _)) (pss_one (ps_dput hu (pv 5) (pe_ix ix_tup (pv 10) pe_int (fun _ _ => rfl)) (pe_bm0 PySem.F.plainAttrs_list PySem.F.slot_list_pop PySem.F.type_list_pop mt_pop (pv 4)) rfl)) (pss_cons (ps_set (i := 12) nd rfl (Or.inl rfl) (pe_call C__law_worked.ok (hr.mono (by decide)) (by rfl) C__law_worked.g C__law_worked.kp C__law_worked.b .nil pass0 (pa_cons (pv 10) (pa_cons (pe_ix ix_tup (pe_ix ix_tup (pv 1) pe_int (fun _ _ => rfl)) (pv 9) (fun _ _ => rfl)) (pa_cons (pv 4) (pa_cons (pv 6) pa_nil))))))
      (pss_one (ps_if (pt_cmpR (op_neD hr.units) (pv 12) (pe_tup pa_nil) (nomark _)) (pss_one (ps_expr (pe_bm PySem.F.plainAttrs_list PySem.F.slot_list_append PySem.F.type_list_append mt_append (pv 7) (pa_cons (pe_op op_catA (pe_tup (pa_cons (pv 11) (pa_cons (pv 9) pa_nil))) (pv 12)) pa_nil)))) pss_nil))))))))))
      (pss_one (ps_if (pw_or (pt_cmpR op_in_seq (pv 11) (pe_tup (pa_cons pe_str (pa_cons pe_str pa_nil))) rfl) (pw_or1 (pw_and (pt_cmpR (op_neNil hr.units0) (pv 7) (pe_lst pa_nil) (nomark _)) (pw_and1 (pt_cmpR (op_inSD hr.units) (pe_ix ix_tup (pe_ix ix_list (pv 7) (pe_un un_neg pe_int) (fun _ _ => rfl)) pe_int (fun _ _ => rfl)) (pe_tup (pa_cons pe_str (pa_cons pe_str pa_nil))) rfl))).pt)).pt (pss_one (ps_ret (pv 7))) pss_nil))))))
      (pss_one (ps_ret (pv 7)))))), ?_⟩
    dsimp only [cxK, cxKn, List.map]
    obtain ⟨mas, hma, hmr⟩ := id hms
    obtain ⟨ras, hra, hrr⟩ := id hrt
    have hmr' : ∀ {pc : Nat} {m : MRow}, ms[pc]? = some m → ∃ b, mas[pc]? = some b ∧ H b = some (.tup m.vals) := fun h => hmr.get' h
    refine q_asgG (r_tup (r_cons (el_lst ea_nil (Nat.le_of_ble_eq_true rfl) H (Ex.refl _) _ fun pl H1 hpl e1 h1 => r_cons fun cd hcd => r_cons fun kd hkd => r_cons (el_lst ea_nil (Nat.le_of_ble_eq_true rfl) _ (Ex.refl _) _ fun fl H2 hfl e2 h2 => r_consE ev_c fun H3 e3 => r_nil ⟨sz_of (by simp), fun t ht => ?_⟩))))
    have e12 : Ex H1 (upd (upd H1 cd (.dK [])) kd (.dT [])) := (Ex.new hcd).trans (Ex.new hkd)
    refine ⟨t, _, rfl, st_of upd_same, rfl, _, _, rfl, _, _, rfl, _, _, rfl, _, _, rfl, _, _, rfl, rfl, ?_⟩
    have e23 := (e2.trans e3).trans (Ex.new (o := .tup [.ref pl, .ref cd, .ref kd, .ref fl, .int 0]) ht)
    have eH : Ex H (upd H3 t (.tup [.ref pl, .ref cd, .ref kd, .ref fl, .int 0])) := (e1.trans e12).trans e23
    have hcd0 : H cd = none := fresh_back e1 hcd
    have hkd1 : H1 kd = none := fresh_back (Ex.new hcd) hkd
    have hkd0 : H kd = none := fresh_back e1 hkd1
    have hfl1 : H1 fl = none := fresh_back e12 hfl
    have hfl0 : H fl = none := fresh_back e1 hfl1
    have st0 : LSt K H (upd H3 t (.tup [.ref pl, .ref cd, .ref kd, .ref fl, .int 0])) pl cd kd fl [] (fun _ => none) (fun _ _ => none) [] 0 :=
      ⟨hpl, hcd0, hkd0, hfl0, (fun z => by rw [← z, h1] at hfl1; cases hfl1), eH, e23 _ _ (e12 _ _ h1), ⟨[], e23 _ _ (Ex.new hkd _ _ upd_same), Nat.le_refl _, fun _ => rfl⟩, ⟨[], e23 _ _ upd_same, Nat.le_refl _, fun _ _ => rfl⟩, ⟨[], ((e3.trans (Ex.new ht)) _ _ h2), All2.nil⟩, Nat.le_refl _, Nat.le_refl _⟩
    generalize upd H3 t (.tup [.ref pl, .ref cd, .ref kd, .ref fl, .int 0]) = H4 at st0 eH ⊢
    refine q_forR1 (n := (parts.length : Int)) ?_ (by omega) (fun i σ' H' => (∃ u, σ' = [some (.ref ma), some (.ref md), some (.ref pa), some (.int most), some (.ref pl), some (.ref cd), some (.ref kd), some (.ref fl), some (.int 0), u, none, none, none]) ∧ LSt K H H' pl cd kd fl [] (fun x => if 0 ≤ x ∧ x < (i : Int) then parts[x.toNat]? else none) (fun _ _ => none) [] i) (fun H5 e5 => ⟨⟨none, rfl⟩, ?_⟩) (fun i σ' H5 hi p => ?_) (fun σ' H5 p => ?_)
    · have := ea_cons (ev_len (K := K) (σ := [some (.ref ma), some (.ref md), some (.ref pa), some (.int most), some (.ref pl), some (.ref cd), some (.ref kd), some (.ref fl), some (.int 0), none, none, none, none]) (ta := tVar 2) (ev_var rfl) (sq_of (eH _ _ hpa))) ea_nil
      rw [List.length_map] at this
      exact this
    · have s5 := st0.mono e5 (Nat.le_refl _)
      obtain ⟨kvs, hv1, hv2, hv3⟩ := s5.atC
      exact ⟨s5.fp, s5.fc, s5.fk, s5.ff, s5.npf, s5.ex, s5.atP, ⟨kvs, hv1, hv2, fun x => by rw [hv3]; dsimp only; rw [if_neg (by omega)]⟩, s5.atK, s5.atF, s5.zp, s5.zd⟩
    · obtain ⟨⟨u, rfl⟩, st⟩ := p
      have hpi : parts[i]? = some (parts[i]'(by omega)) := List.getElem?_eq_getElem _
      obtain ⟨kvs, hv1, hv2, hv3⟩ := st.atC
      refine s_dput (k := Sum.inl (i : Int)) (v := .int (parts[i]'(by omega))) hv1 (ev_op (ev_var rfl) (ev_var rfl) (rv_ixL (sq_of (st.ex _ _ hpa)) (atI_nat (by rw [List.getElem?_map, hpi]; rfl)))) (ev_var rfl) (ev_var rfl) (by omega) fun H6 e6 => nxM ⟨⟨_, rfl⟩, ?_⟩
      refine (st.mono e6 (Nat.le_succ i)).setC (Nat.le_trans (length_putK _ _ _) (by omega)) fun x => ?_
      rw [valV_put, hv3]
      dsimp only
      by_cases hx : x = (i : Int)
      · subst hx
        rw [if_pos rfl, if_pos (by omega)]
        rw [show ((i : Int)).toNat = i by omega, hpi]; rfl
      · rw [if_neg (fun z => hx (Sum.inl.inj z))]
        by_cases hx2 : 0 ≤ x ∧ x < (i : Int)
        · rw [if_pos hx2, if_pos (by omega)]
        · rw [if_neg hx2, if_neg (by omega)]
    · obtain ⟨⟨u, rfl⟩, st⟩ := p
      rw [show ((parts.length : Int)).toNat = parts.length by omega] at st
      refine q_while (LW K H ma md pa rows ms raws 60000 pl cd kd fl) n ⟨0, [], partsC parts, fun _ _ => none, most, [], raws, parts.length, u, none, none, none, rfl, ?_, by omega, hruns, rfl, (fun _ h => by simp at h), (fun _ h => by simp at h), fun x v h => ?_, fun _ _ _ h => by cases h⟩ (fun m σ' H6 hw => ?_)
      · obtain ⟨kvs, hv1, hv2, hv3⟩ := st.atC
        refine ⟨st.fp, st.fc, st.fk, st.ff, st.npf, st.ex, st.atP, ⟨kvs, hv1, hv2, fun x => ?_⟩, st.atK, st.atF, st.zp, st.zd⟩
        rw [hv3]; unfold partsC
        dsimp only
        by_cases hx : 0 ≤ x
        · rw [if_pos hx]
          by_cases hx2 : x < (parts.length : Int)
          · rw [if_pos ⟨hx, hx2⟩]
          · rw [if_neg (by omega), List.getElem?_eq_none (by omega)]
        · rw [if_neg hx, if_neg (by omega)]
      · unfold partsC at h
        split at h
        · exact hps v (List.mem_of_getElem? h)
        · cases h
      obtain ⟨pc, pile, c, kp, most, done, rest, N, u9, u10, u11, u12, rfl, st, hN, hmr, hdr, hdc, hsp, hsc, hsk⟩ := hw
      refine ⟨decide (0 ≤ most), et_test (ev_op (ev_var rfl) ev_c rv_I0), fun hb H7 e7 => ?_, fun hb H7 e7 => ?_⟩
      · have hmost : 0 ≤ most := of_decide_eq_true hb
        obtain ⟨mr, hmrow⟩ := mruns_at hmr hmost
        obtain ⟨rwa, hrw1, hrw2⟩ := hmr' hmrow
        obtain ⟨r, hr1⟩ : ∃ r, rows[mr.k]? = some r := ⟨_, List.getElem?_eq_getElem (mok.lt mr (List.mem_of_getElem? hmrow))⟩
        have hbd := mok.bnd mr (List.mem_of_getElem? hmrow)
        have stp := mstep hmr hmost hmrow hr1 hbd
        have st7 := st.mono e7 (Nat.le_refl _)
        refine ⟨fun σ2 H2 => ∃ m', m' < m ∧ LW K H ma md pa rows ms raws 60000 pl cd kd fl m' σ2 H2, fun σ2 H2 z => z, ?_⟩
        refine q_par (ev_op (ev_var rfl) (ev_var rfl) (rv_ixL (sq_of (st7.ex _ _ hma)) (atI_nat (by rw [List.getElem?_map, hrw1]; rfl)))) (ev_op (ev_var rfl) ev_c rv_I0) fun H8 e8 => ?_
        have st8 := st7.mono e8 (Nat.le_refl _)
        have hrow8 := st8.ex _ _ hrw2
        have hrowv : MRow.vals mr = .str mr.op.tag.word :: (mr.op.mid ++ [.int (mr.k : Nat)]) := rfl
        refine q_par (x := .str mr.op.tag.word) (y := .int (mr.k : Nat)) (ev_row (j := 0) hrow8 (ev_var rfl) (by rw [hrowv]; rfl)) (ev_op (ev_var rfl) (ev_op (ev_lenT (ev_var rfl) (st_of hrow8)) ev_c rv_I0) (rv_ixT (st_of hrow8) ?_)) fun H9 e9 => ?_
        · have : ((MRow.vals mr).length : Int) - 1 = ((mr.op.vals.length : Nat) : Int) := by unfold MRow.vals; rw [List.length_append]; simp
          rw [this]
          refine atI_nat ?_
          unfold MRow.vals
          simp
        have st9 := st8.mono e9 (Nat.le_refl _)
        have hrow9 := st9.ex _ _ hrw2
        have wd : ∀ {Hx : Hp} {s : L2.St} {a0 a1 a2 a3 a4 a5 a6 a7 a8 a9 a10 : Option V}, Ev (tVar 11) (a0 :: a1 :: a2 :: a3 :: a4 :: a5 :: a6 :: a7 :: a8 :: a9 :: a10 :: some (.str mr.op.tag.word) :: s) Hx (.str mr.op.tag.word) := ev_var rfl
        refine q_ifS (LM K H ma md pa rows ms raws pl cd kd fl m mr rwa)
          (et_mwords [.row, .nothing] (by decide) (by decide +kernel) wd) (fun σ' H' z => ?_) (fun hb1 H10 e10 kk => ?_) (fun hb1 H10 e10 kk => ?_)
        · obtain ⟨most', at'', u12', done', as, rfl, ex, hfl, hall, hz, hfin⟩ := z
          have hne := et_neNil (K := K) (σ := [some (.ref ma), some (.ref md), some (.ref pa), some (.int most'), some (.ref pl), some (.ref cd), some (.ref kd), some (.ref fl), some (.int at''), some (.int (mr.k : Nat)), some (.ref rwa), some (.str mr.op.tag.word), u12']) (H := H') (ta := tVar 7) (ev_var rfl) hfl
          have ret : done' = raws → ∀ H'', Ex H' H'' → Q (.ref fl) H'' := fun hd H'' e'' => k fl H'' st.ff (ex.trans e'') ⟨as, e'' _ _ hfl, by subst hd; exact hall.imp fun _ _ => RawAt.ex (hide_sub.trans e'')⟩
          have lastv : ∀ {ds : List Raw} {raw : Raw}, done' = ds ++ [raw] → ∃ bs b, as = bs ++ [b] ∧ RawAt K H' b raw := fun {ds raw} hd => by
            have hl := hall.1
            have hne : as ≠ [] := fun z => by rw [z, hd] at hl; simp at hl
            refine ⟨as.dropLast, as.getLast hne, (List.dropLast_concat_getLast hne).symm, ?_⟩
            have h1 : as[ds.length]? = some (as.getLast hne) := by
              have : ds.length = as.length - 1 := by rw [hl, hd]; simp
              rw [this, ← List.getLast?_eq_getElem?]
              exact List.getLast?_eq_some_getLast hne
            obtain ⟨raw', h2, h3⟩ := hall.get h1
            rw [hd, List.getElem?_append_right (Nat.le_refl _), Nat.sub_self] at h2
            have : raw = raw' := by simpa using h2
            subst this
            exact h3.ex hide_sub
          have idx2 : ∀ {bs : List Addr} {b : Addr} {w0 w1 x : V} {tl : List V}, as = bs ++ [b] → H' b = some (.tup (w0 :: w1 :: x :: tl)) → Ev (tOp (rIxT K) (tOp (rIxL K) (tVar 7) (tUn (rU fun i => V.int (-i)) (tC (V.int 1)))) (tC (V.int 2))) [some (.ref ma), some (.ref md), some (.ref pa), some (.int most'), some (.ref pl), some (.ref cd), some (.ref kd), some (.ref fl), some (.int at''), some (.int (mr.k : Nat)), some (.ref rwa), some (.str mr.op.tag.word), u12'] H' x := fun {bs b w0 w1 x tl} ha hb =>
            ev_op (ev_op (ev_var rfl) (ev_un ev_c ru_neg) (rv_ixL (v := .ref b) (sq_of hfl) (by rw [ha]; exact atI_lastR))) ev_c (rv_ixT (st_of hb) (atI_nat (j := 2) rfl))
          rcases hfin with ⟨hd, hf⟩ | ⟨g1, g2, hrc, hnx⟩
          · have tst : EvT (tOr (tTest (tOp (rIn K false) (tVar 11) (tTup (tCons (tC (.str "give")) (tCons (tC (.str "nothing")) tNil))))) (tAnd (tTest (tOp (rNeNil K) (tVar 7) (tLst tNil))) (tTest (tOp (rInSD K) (tOp (rIxT K) (tOp (rIxL K) (tVar 7) (tUn (rU fun i => V.int (-i)) (tC (V.int 1)))) (tC (V.int 2))) (tTup (tCons (tC (.str "great")) (tCons (tC (.str "nought")) tNil))))))) [some (.ref ma), some (.ref md), some (.ref pa), some (.int most'), some (.ref pl), some (.ref cd), some (.ref kd), some (.ref fl), some (.int at''), some (.int (mr.k : Nat)), some (.ref rwa), some (.str mr.op.tag.word), u12'] H' true := by
              have t1 := et_mwords (K := K) (σ := [some (.ref ma), some (.ref md), some (.ref pa), some (.int most'), some (.ref pl), some (.ref cd), some (.ref kd), some (.ref fl), some (.int at''), some (.int (mr.k : Nat)), some (.ref rwa), some (.str mr.op.tag.word), u12']) (H := H') (te := tVar 11) (u := mr.op.tag) [.give, .nothing] (by decide) (by decide +kernel) (ev_var rfl)
              rcases hf with ⟨h, _⟩ | ⟨h, _⟩ | ⟨ds, j, o, w', h⟩
              · exact et_is (et_or (b := true) t1 fun z => by rw [h] at z; simp at z) (by rw [h]; rfl)
              · exact et_is (et_or (b := true) t1 fun z => by rw [h] at z; simp at z) (by rw [h]; rfl)
              · obtain ⟨bs, b, ha, hra⟩ := lastv h
                obtain ⟨tl, hb5⟩ := (raw_in hra).2 j o w' rfl
                refine et_is (et_or t1 fun _ => et_and hne fun _ => et_inSD (b := true) (idx2 ha hb5) (.inl ⟨rfl, by cases w' <;> decide +kernel⟩)) ?_
                rw [ha]; simp
            exact s_when (b := true) tst (fun _ H'' e'' => s_ret (ev_var rfl) fun H3 e3 => rtM (ret hd H3 (e''.trans e3))) (fun z => by cases z)
          · have tst : EvT (tOr (tTest (tOp (rIn K false) (tVar 11) (tTup (tCons (tC (.str "give")) (tCons (tC (.str "nothing")) tNil))))) (tAnd (tTest (tOp (rNeNil K) (tVar 7) (tLst tNil))) (tTest (tOp (rInSD K) (tOp (rIxT K) (tOp (rIxL K) (tVar 7) (tUn (rU fun i => V.int (-i)) (tC (V.int 1)))) (tC (V.int 2))) (tTup (tCons (tC (.str "great")) (tCons (tC (.str "nought")) tNil))))))) [some (.ref ma), some (.ref md), some (.ref pa), some (.int most'), some (.ref pl), some (.ref cd), some (.ref kd), some (.ref fl), some (.int at''), some (.int (mr.k : Nat)), some (.ref rwa), some (.str mr.op.tag.word), u12'] H' false := by
              have t1 := et_mwords (K := K) (σ := [some (.ref ma), some (.ref md), some (.ref pa), some (.int most'), some (.ref pl), some (.ref cd), some (.ref kd), some (.ref fl), some (.int at''), some (.int (mr.k : Nat)), some (.ref rwa), some (.str mr.op.tag.word), u12']) (H := H') (te := tVar 11) (u := mr.op.tag) [.give, .nothing] (by decide) (by decide +kernel) (ev_var rfl)
              have hc : ([MTag.give, .nothing].contains mr.op.tag) = false := by simp [g1, g2]
              rw [hc] at t1
              by_cases h0 : done' = []
              · have has : as = [] := List.length_eq_zero_iff.mp (by rw [hall.1, h0]; rfl)
                exact et_is (et_or (b := false) t1 fun _ => et_is (et_and (b := false) hne fun z => by rw [has] at z; simp at z) (by simp)) rfl
              · have hd : done' = done'.dropLast ++ [done'.getLast h0] := (List.dropLast_concat_getLast h0).symm
                obtain ⟨bs, b, ha, hra⟩ := lastv hd
                obtain ⟨x, tl, hb5, hx⟩ := (raw_in hra).1 (hrc _ (List.getLast_mem h0))
                exact et_is (et_or t1 fun _ => et_and hne fun _ => et_inSD (b := false) (idx2 ha hb5) hx) (by simp)
            exact s_when (b := false) tst (fun z => by cases z) (fun _ H'' e'' => nxM (hnx H'' e''))
        · have st10 := (st9.mono e10 (Nat.le_succ N))
          have hpile : pile = [] := by
            cases stp with
            | row h1 h2 => exact h2
            | nothing h1 h2 => exact h2
            | jump h => rw [h] at hb1; simp [MOp.tag] at hb1
            | «unless» h => rw [h] at hb1; simp [MOp.tag] at hb1
            | push h => rw [h] at hb1; simp [MOp.tag] at hb1
            | load h => rw [h] at hb1; simp [MOp.tag] at hb1
            | store h => rw [h] at hb1; simp [MOp.tag] at hb1
            | work h => rw [(wk1 h).1] at hb1; cases hb1
          refine q_asg (v := .int (most - (if decide (mr.op.tag = .row) = true then 1 else 0))) (ev_op (ev_var rfl) (ev_intB (ev_is (ev_op wd ev_c (rv_eq rfl)) (congrArg V.bl (is_mword mr.op.tag .row)))) rv_I0) fun H11 e11 => ?_
          have st11 := st10.mono e11 (Nat.le_refl _)
          refine q_skip (et_is (et_neNil (ev_var rfl) st11.atP) (by rw [hpile]; rfl)) fun H12 e12 => ?_
          have st12 := st11.mono e12 (Nat.le_refl _)
          obtain ⟨as, hf1, hf2⟩ := st12.atF
          have ev9 : ∀ {Hx : Hp} {s : L2.St} {a0 a1 a2 a3 a4 a5 a6 a7 a8 : Option V}, Ev (tVar 9) (a0 :: a1 :: a2 :: a3 :: a4 :: a5 :: a6 :: a7 :: a8 :: some (.int (mr.k : Nat)) :: s) Hx (.int (mr.k : Nat)) := ev_var rfl
          refine s_dropR ⟨.ref fl, rfl, .inl ⟨rfl, _, sq_of hf1⟩, r_cons (r_tup (r_consE (ev_getW wd wd) fun H13 e13 => r_consE ev9 fun H14 e14 => r_cons ?_))⟩
          have e1214 := e13.trans e14
          obtain ⟨kvs, hc1, hc2, hc3⟩ := st12.atC
          refine r_ea (ea_cons (ev_var rfl) ea_nil) fun H15 e15 => ⟨cd, kvs, rfl, .inl (e15 _ _ (e1214 _ _ hc1)), fun d hd => r_nil ⟨sz_of (by simp), fun t ht => r_nil ⟨fl, as.map V.ref, .ref t, rfl, rfl, ?_, sz_lt ?_, nxM (kk _ _ ?_)⟩⟩⟩
          · exact Ex.new ht _ _ (Ex.new hd _ _ (e15 _ _ (e1214 _ _ hf1)))
          · rw [List.length_map, hf2.1]; have := st12.zd; omega
          have eT : Ex H12 (upd (upd H15 d (.dK kvs)) t (.tup [.str (if mr.op.tag = .row then "begin" else mr.op.tag.word), .int (mr.k : Nat), .ref d])) := ((e1214.trans e15).trans (Ex.new hd)).trans (Ex.new ht)
          have htt : (upd (upd H15 d (.dK kvs)) t (.tup [.str (if mr.op.tag = .row then "begin" else mr.op.tag.word), .int (mr.k : Nat), .ref d])) t = some (.tup [.str (if mr.op.tag = .row then "begin" else mr.op.tag.word), .int (mr.k : Nat), .ref d]) := upd_same
          have hdt : (upd (upd H15 d (.dK kvs)) t (.tup [.str (if mr.op.tag = .row then "begin" else mr.op.tag.word), .int (mr.k : Nat), .ref d])) d = some (.dK kvs) := Ex.new ht _ _ upd_same
          have newD : ∀ {b : Addr}, H15 b = none → b ≠ pl ∧ b ≠ cd ∧ b ≠ kd ∧ b ≠ fl := fun {b} hb => by
            have st15 := st12.mono (e1214.trans e15) (Nat.le_refl _)
            obtain ⟨kv2, w1, _⟩ := st15.atC
            obtain ⟨kv3, w2, _⟩ := st15.atK
            obtain ⟨kv4, w3, _⟩ := st15.atF
            refine ⟨fun z => ?_, fun z => ?_, fun z => ?_, fun z => ?_⟩
            · rw [z, st15.atP] at hb; cases hb
            · rw [z, w1] at hb; cases hb
            · rw [z, w2] at hb; cases hb
            · rw [z, w3] at hb; cases hb
          have ht15 : H15 t = none := fresh_back (Ex.new hd) ht
          have stT := st12.mono eT (Nat.le_refl _)
          have hfT := eT _ _ hf1
          generalize upd (upd H15 d (.dK kvs)) t (.tup [.str (if mr.op.tag = .row then "begin" else mr.op.tag.word), .int (mr.k : Nat), .ref d]) = HT at eT htt hdt stT hfT ⊢
          have hh1 : hide HT pl cd kd fl t = some (.tup [.str (if mr.op.tag = .row then "begin" else mr.op.tag.word), .int (mr.k : Nat), .ref d]) := hide_at htt (newD ht15).1 (newD ht15).2.1 (newD ht15).2.2.1 (newD ht15).2.2.2
          have hh2 : hide HT pl cd kd fl d = some (.dK kvs) := hide_at hdt (newD hd).1 (newD hd).2.1 (newD hd).2.2.1 (newD hd).2.2.2
          have zd := st12.zd
          cases stp with
          | @row rs m' h1 h2 h3 h4 h5 =>
            have hw : (if mr.op.tag = .row then (Str.ofString "begin") else mr.op.tag.word) = Str.ofString "begin" := by rw [h1]; rfl
            have stA := stT.app (raw := .begin mr.k c) hfT ⟨[.ref d], by rw [hh1, hw]; rfl, d, N + 1, rfl, kvs, hh2, hc2, hc3⟩ (by have := st.zd; omega)
            obtain ⟨as2, g1, g2⟩ := id stA.atF
            have hst : (most - (if decide (mr.op.tag = MTag.row) = true then 1 else 0)) = most - 1 := by rw [h1]; rfl
            rw [hst]
            refine ⟨_, _, _, _, as2, rfl, stA.ex, g1, g2, by rw [g2.1]; have := stA.zd; omega, .inr ⟨by rw [h1]; simp [MOp.tag], by rw [h1]; simp [MOp.tag], fun raw hraw => ?_, fun H'' e'' => ⟨m', by omega, pc + 1, [], c, kp, most - 1, done ++ [.begin mr.k c], rs, N + 1, some (.int (mr.k : Nat)), some (.ref rwa), some (.str mr.op.tag.word), u12, rfl, ?_, by omega, h5, by rw [List.append_assoc, ← hdr, h3]; rfl, fun raw hraw => ?_, fun v hv => by simp at hv, hsc, hsk⟩⟩⟩
            · rcases List.mem_append.mp hraw with z | z
              · exact hdc raw z
              · have : raw = .begin mr.k c := by simpa using z
                subst this; trivial
            · rw [h2] at stA; exact stA.mono e'' (Nat.le_refl _)
            · rcases List.mem_append.mp hraw with z | z
              · exact hdc raw z
              · have : raw = .begin mr.k c := by simpa using z
                subst this; trivial
          | nothing h1 h2 h3 =>
            have hw : (if mr.op.tag = .row then (Str.ofString "begin") else mr.op.tag.word) = Str.ofString "nothing" := by rw [h1]; rfl
            have stA := stT.app (raw := .nothing mr.k c) hfT ⟨[.ref d], by rw [hh1, hw]; rfl, d, N + 1, rfl, kvs, hh2, hc2, hc3⟩ (by have := st.zd; omega)
            obtain ⟨as2, g1, g2⟩ := id stA.atF
            exact ⟨_, _, _, _, as2, rfl, stA.ex, g1, g2, by rw [g2.1]; have := stA.zd; omega, .inl ⟨by rw [← hdr, h3], .inr (.inl ⟨by rw [h1]; rfl, by simp⟩)⟩⟩
          | jump h => rw [h] at hb1; simp [MOp.tag] at hb1
          | «unless» h => rw [h] at hb1; simp [MOp.tag] at hb1
          | push h => rw [h] at hb1; simp [MOp.tag] at hb1
          | load h => rw [h] at hb1; simp [MOp.tag] at hb1
          | store h => rw [h] at hb1; simp [MOp.tag] at hb1
          | work h => rw [(wk1 h).1] at hb1; cases hb1
        · have st10 := st9.mono e10 (Nat.le_succ N)
          have hrow10 := st10.ex _ _ hrw2
          cases stp with
          | row h => rw [h] at hb1; simp [MOp.tag] at hb1
          | nothing h => rw [h] at hb1; simp [MOp.tag] at hb1
          | @jump t m' h1 h2 h3 =>
            refine s_if (b := true) (et_is (et_mwords [.jump, .unless] (by decide) (by decide +kernel) wd) (by rw [h1]; rfl)) (fun _ H11 e11 => ?_) (fun z => by cases z)
            have hv : MRow.vals mr = [.str mr.op.tag.word, .int (t : Nat), .int (mr.k : Nat)] := by unfold MRow.vals MOp.vals; rw [h1]; rfl
            refine s_asgR (r_ifT (et_is (et_or (b := true) (et_mword .jump wd) fun z => by rw [h1] at z; simp [MOp.tag] at z) (by rw [h1]; rfl)) fun H12 e12 => r_ev (ev_row (j := 1) ((e11.trans e12) _ _ hrow10) (ev_var rfl) (by rw [hv]; rfl)) fun H13 e13 => nxM (kk _ _ ?_))
            exact LM.cont rfl (st10.mono ((e11.trans e12).trans e13) (Nat.le_refl _)) (by omega) h3 hdr hdc hsp hsc hsk (by omega) (by rw [h1]; simp [MOp.tag]) (by rw [h1]; simp [MOp.tag])
          | @«unless» t p v m' pc' h1 h2 h3 h4 h5 =>
            refine s_if (b := true) (et_is (et_mwords [.jump, .unless] (by decide) (by decide +kernel) wd) (by rw [h1]; rfl)) (fun _ H11 e11 => ?_) (fun z => by cases z)
            have st11 := st10.mono e11 (Nat.le_refl _)
            have hv : MRow.vals mr = [.str mr.op.tag.word, .int t, .int (mr.k : Nat)] := by unfold MRow.vals MOp.vals; rw [h1]; rfl
            refine s_asgR (r_ifPop (p := p) (v := v) (et_is (et_mword .jump wd) (by rw [h1]; simp [MOp.tag])) rfl (by rw [← h2]; exact st11.atP) fun H12 e12 => ?_)
            have st12 := (st11.mono e12 (Nat.le_refl _)).setP (pile' := p) (by have := st11.zp; rw [h2] at this; simp at this; omega)
            have hrow12 := st12.ex _ _ hrw2
            generalize upd H12 pl (.lst (p.map V.int)) = H13 at st12 hrow12 ⊢
            have hsp' : ∀ u ∈ p, Small u := fun u hu => hsp u (by rw [h2]; exact List.mem_append_left _ hu)
            rcases h4 with ⟨z1, z2⟩ | ⟨z1, z2⟩
            · rw [if_pos z1]
              exact r_ev (ev_row (j := 1) hrow12 (ev_var rfl) (by rw [hv]; rfl)) fun H14 e14 => nxM (kk _ _ (LM.cont (by rw [z2]; rfl) (st12.mono e14 (Nat.le_refl _)) (by omega) h5 hdr hdc hsp' hsc hsk (by omega) (by rw [h1]; simp [MOp.tag]) (by rw [h1]; simp [MOp.tag])))
            · rw [if_neg z1]
              exact r_ev (ev_var rfl) fun H14 e14 => nxM (kk _ _ (LM.cont (by rw [z2]; rfl) (st12.mono e14 (Nat.le_refl _)) (by omega) h5 hdr hdc hsp' hsc hsk (by omega) (by rw [h1]; simp [MOp.tag]) (by rw [h1]; simp [MOp.tag])))
          | @push v m' h1 h2 h3 =>
            refine s_if (b := false) (et_is (et_mwords [.jump, .unless] (by decide) (by decide +kernel) wd) (by rw [h1]; rfl)) (fun z => by cases z) (fun _ H11 e11 => ?_)
            refine s_if (b := true) (et_is (et_mwords [.push, .load] (by decide) (by decide +kernel) wd) (by rw [h1]; rfl)) (fun _ H12 e12 => ?_) (fun z => by cases z)
            have st12 := st10.mono (e11.trans e12) (Nat.le_refl _)
            have hv : MRow.vals mr = [.str mr.op.tag.word, .int v, .int (mr.k : Nat)] := by unfold MRow.vals MOp.vals; rw [h1]; rfl
            have zp := st.zp
            have hsv : Small v := by rw [h1] at hbd; exact hbd
            refine s_app st12.atP (ev_var rfl) (v := .int v) (ev_if (b := true) (et_is (et_mword .push wd) (by rw [h1]; rfl)) (fun _ => ev_row (j := 1) ((e11.trans e12) _ _ hrow10) (ev_var rfl) (by rw [hv]; rfl)) (fun z => by cases z)) (by rw [List.length_map]; omega) fun H13 e13 => nxM (kk _ _ ?_)
            have stP := (st12.mono e13 (Nat.le_refl _)).setP (pile' := pile ++ [v]) (by rw [List.length_append]; simp; omega)
            rw [List.map_append] at stP
            exact LM.cont rfl stP (by omega) h3 hdr hdc (fun u hu => (List.mem_append.mp hu).elim (hsp u) (fun z => by have : u = v := by simpa using z
                                                                                                                       subst this; exact hsv)) hsc hsk (by omega) (by rw [h1]; simp [MOp.tag]) (by rw [h1]; simp [MOp.tag])
          | @load x v m' h1 h2 h3 h4 =>
            refine s_if (b := false) (et_is (et_mwords [.jump, .unless] (by decide) (by decide +kernel) wd) (by rw [h1]; rfl)) (fun z => by cases z) (fun _ H11 e11 => ?_)
            refine s_if (b := true) (et_is (et_mwords [.push, .load] (by decide) (by decide +kernel) wd) (by rw [h1]; rfl)) (fun _ H12 e12 => ?_) (fun z => by cases z)
            have st12 := st10.mono (e11.trans e12) (Nat.le_refl _)
            have hv : MRow.vals mr = [.str mr.op.tag.word, .int x, .int (mr.k : Nat)] := by unfold MRow.vals MOp.vals; rw [h1]; rfl
            have zp := st.zp
            have hsv : Small v := hsc x v h2
            obtain ⟨kvs, hc1, hc2, hc3⟩ := id st12.atC
            refine s_app st12.atP (ev_var rfl) (v := .int v) (ev_if (b := false) (et_is (et_mword .push wd) (by rw [h1]; simp [MOp.tag])) (fun z => by cases z) (fun _ => ev_dget (k := Sum.inl x) hc1 (ev_var rfl) (ev_row (j := 1) ((e11.trans e12) _ _ hrow10) (ev_var rfl) (by rw [hv]; rfl)) (by rw [hc3, h2]; rfl))) (by rw [List.length_map]; omega) fun H13 e13 => nxM (kk _ _ ?_)
            have stP := (st12.mono e13 (Nat.le_refl _)).setP (pile' := pile ++ [v]) (by rw [List.length_append]; simp; omega)
            rw [List.map_append] at stP
            exact LM.cont rfl stP (by omega) h4 hdr hdc (fun u hu => (List.mem_append.mp hu).elim (hsp u) (fun z => by have : u = v := by simpa using z
                                                                                                                       subst this; exact hsv)) hsc hsk (by omega) (by rw [h1]; simp [MOp.tag]) (by rw [h1]; simp [MOp.tag])
          | @store x p v m' h1 h2 h3 h4 =>
            refine s_if (b := false) (et_is (et_mwords [.jump, .unless] (by decide) (by decide +kernel) wd) (by rw [h1]; rfl)) (fun z => by cases z) (fun _ H11 e11 => ?_)
            refine s_if (b := false) (et_is (et_mwords [.push, .load] (by decide) (by decide +kernel) wd) (by rw [h1]; rfl)) (fun z => by cases z) (fun _ H12 e12 => ?_)
            refine s_if (b := true) (et_is (et_mword .store wd) (by rw [h1]; rfl)) (fun _ H13 e13 => ?_) (fun z => by cases z)
            have st13 := st9.mono (e10.trans ((e11.trans e12).trans e13)) (Nat.le_refl N)
            have hv : MRow.vals mr = [.str mr.op.tag.word, .int x, .int (mr.k : Nat)] := by unfold MRow.vals MOp.vals; rw [h1]; rfl
            have hsv : Small v := hsp v (by rw [h2]; simp)
            have hpz : p.length ≤ N := by have := st13.zp; rw [h2] at this; simp at this; omega
            refine r_pop (p := p) (v := v) rfl (by rw [← h2]; exact st13.atP) ?_
            have stP := st13.setP (pile' := p) hpz
            have hrowP := stP.ex _ _ hrw2
            generalize upd H13 pl (.lst (p.map V.int)) = H14 at stP hrowP ⊢
            obtain ⟨kvs, hc1, hc2, hc3⟩ := id stP.atC
            refine r_ev (ev_var rfl) fun H15 e15 => r_ev (ev_row (j := 1) (v := .int x) (e15 _ _ hrowP) (ev_var rfl) (by rw [hv]; rfl)) fun H16 e16 => ⟨cd, _, rfl, DPut.k (k := Sum.inl x) ((e15.trans e16) _ _ hc1) (sz_lt (by omega)), nxM (kk _ _ ?_)⟩
            have stQ := (stP.mono (e15.trans e16) (Nat.le_succ N)).setC (c' := setC c x v) (kvs := putK kvs (Sum.inl x) (.int v)) (by
              have h9 := length_putK kvs (Sum.inl x : Key) (.int v)
              omega) fun y => by
                rw [valV_put, hc3]
                by_cases e : y = x
                · subst e; simp [setC]
                · rw [if_neg (fun z => e (Sum.inl.inj z))]; simp [setC, e]
            exact LM.cont rfl stQ (by omega) h4 hdr hdc (fun u hu => hsp u (by rw [h2]; exact List.mem_append_left _ hu)) (hsc.set hsv) hsk (by omega) (by rw [h1]; simp [MOp.tag]) (by rw [h1]; simp [MOp.tag])
          | @work told pile' k' hW hout =>
            obtain ⟨w1, w2, w3, w4⟩ := wk1 hW
            refine s_if (b := false) (et_is (et_mwords [.jump, .unless] (by decide) (by decide +kernel) wd) w2) (fun z => by cases z) (fun _ H11 e11 => ?_)
            refine s_if (b := false) (et_is (et_mwords [.push, .load] (by decide) (by decide +kernel) wd) w3) (fun z => by cases z) (fun _ H12 e12 => ?_)
            refine s_if (b := false) (et_is (et_mword .store wd) w4) (fun z => by cases z) (fun _ H13 e13 => ?_)
            have st13 := st9.mono (e10.trans ((e11.trans e12).trans e13)) (Nat.le_refl N)
            obtain ⟨rb, hrb1, hrb2⟩ := hrr.get' hr1
            refine q_asgR (r_call (r_consE (v := .ref rwa) (ev_var rfl) fun H14 e14 => r_consE (v := .ref rb) (ev_op (ev_op (ev_var rfl) ev_c (rv_ixT (st_of (((st13.ex.trans e14)) _ _ hmd)) (atI_nat (j := 4) rfl))) (ev_var rfl) (rv_ixT (st_of ((st13.ex.trans e14) _ _ hra)) (atI_nat (by rw [List.getElem?_map, hrb1]; rfl)))) fun H15 e15 => r_ea (ea_cons (ev_var rfl) (ea_cons (ev_var rfl) ea_nil)) fun H16 e16 => ?_))
            have st16 := st13.mono ((e14.trans e15).trans e16) (Nat.le_refl N)
            have hcallr : mr.op.tag = .call → r.tag = .call := fun hc => by
              obtain ⟨r2, hr2, hr3⟩ := mok.call mr (List.mem_of_getElem? hmrow) hc
              rw [hr1] at hr2; cases hr2; exact hr3
            obtain ⟨sm1, sm2, sm3⟩ := wk_small hW hbd hsp hsk
            refine ⟨rwa, rb, pl, kd, mr, r, pile, kp, told, pile', k', N, rfl, st16.ex _ _ hrw2, hrb2.mono (tl_ex st16.ex), hcallr, st16.atP, st16.atK, hsp, by have := st16.zp; omega, by omega, hbd, hW, fun H' t xs hg hp' hk' ht hnew => ?_⟩
            obtain ⟨n1, n2, n3, n4, n5⟩ := st16.ne
            have stW := st16.go (pile' := pile') (c' := c) (k' := k') (N' := N + 1) (hide_go hg) hp' (by
              obtain ⟨kvs, v1, v2, v3⟩ := st16.atC
              exact ⟨kvs, hg _ _ v1 (Ne.symm n1) n3, by omega, v3⟩) hk' (by
              obtain ⟨as, v1, v2⟩ := st16.atF
              rw [v1]; exact hg _ _ v1 (Ne.symm st16.npf) n5) (by have := st16.zp; omega) (Nat.le_succ N)
            have hsh : SeqAt.shaped (.tuple told) = true := wk_shaped hW hbd
            have htd : DpAll K H' xs told := hnew H' fun _ _ h _ => h
            have zd := st16.zd
            dsimp only
            refine s_when (et_told (ev_var rfl) ht htd hsh) (fun hb H17 e17 => ?_) (fun hb H17 e17 => ?_)
            · rcases hout with ⟨z, _⟩ | ⟨raw, o1, o2, o3, o4, o5⟩
              · rw [z] at hb; cases hb
              · have stV := stW.mono e17 (Nat.le_refl _)
                obtain ⟨as, hf1, hf2⟩ := stV.atF
                have hlx := dp_len htd
                have hlt : told.length ≤ 3 := wk_len hW
                refine s_appU hf1 (ev_var rfl) (ys := [.str mr.op.tag.word, .int (mr.k : Nat)] ++ xs) ?_ (by rw [List.length_map, hf2.1]; omega) fun p H18 hp e18 hp2 => nxM (kk _ _ ?_)
                · intro H19 e19 Q q
                  refine eu_tup (ea_cons (ev_var rfl) (ea_cons (ev_var rfl) ea_nil)) (by simp) H19 e19 _ fun p1 H20 h20 e20 h21 => ev_var rfl H20 (e19.trans e20) _ fun H21 e21 => ?_
                  have hx21 := (((e17.trans e19).trans e20).trans e21) _ _ ht
                  refine ⟨p1, t, _, _, rfl, rfl, st_of (e21 _ _ h21), st_of hx21, sz_of (by simp; omega), fun z => (by cases z), fun _ z => ?_, fun _ _ p2 hp2 => q p2 _ (fresh_back (e20.trans e21) hp2) ((e20.trans e21).trans (Ex.new hp2)) upd_same⟩
                  have : told = [] := List.length_eq_zero_iff.mp (by rw [← hlx, z]; rfl)
                  exact absurd this o1
                · have stX := stV.mono e18 (Nat.le_refl _)
                  have newP : p ≠ pl ∧ p ≠ cd ∧ p ≠ kd ∧ p ≠ fl := by
                    obtain ⟨kv2, w1, _⟩ := stV.atC
                    obtain ⟨kv3, w2, _⟩ := stV.atK
                    refine ⟨fun z => ?_, fun z => ?_, fun z => ?_, fun z => ?_⟩
                    · rw [z, stV.atP] at hp; cases hp
                    · rw [z, w1] at hp; cases hp
                    · rw [z, w2] at hp; cases hp
                    · rw [z, hf1] at hp; cases hp
                  have hdp : DpAll K (hide H18 pl cd kd fl) xs told := hnew _ fun b o hb1 hb2 => by
                    obtain ⟨kv2, w1, _⟩ := st16.atC
                    obtain ⟨kv3, w2, _⟩ := st16.atK
                    obtain ⟨kv4, w3, _⟩ := st16.atF
                    refine hide_at ((e17.trans e18) _ _ hb1) (fun z => ?_) (fun z => ?_) (fun z => ?_) (fun z => ?_)
                    · rw [z, st16.atP] at hb2; cases hb2
                    · rw [z, w1] at hb2; cases hb2
                    · rw [z, w2] at hb2; cases hb2
                    · rw [z, w3] at hb2; cases hb2
                  have stY := stX.app (raw := raw) (e18 _ _ hf1) ⟨xs, by rw [o2, o3]; exact hide_at hp2 newP.1 newP.2.1 newP.2.2.1 newP.2.2.2, o4 _ _ _ hdp⟩ (by omega)
                  rcases o5 with ⟨g1, g2, g3, rs, m', g4, g5, g6⟩ | ⟨g1, g2⟩
                  · subst g4
                    exact LM.cont rfl stY (by omega) g6 (by rw [List.append_assoc]; exact hdr) (fun q hq => (List.mem_append.mp hq).elim (hdc q) (fun z => by
                      have : q = raw := by simpa using z
                      subst this; exact g3)) sm1 hsc sm2 (by omega) g1 g2
                  · subst g2
                    obtain ⟨as2, v1, v2⟩ := id stY.atF
                    refine ⟨_, _, _, _, as2, rfl, stY.ex, v1, v2, by rw [v2.1]; have := stY.zd; omega, .inl ⟨hdr, ?_⟩⟩
                    rcases g1 with g1 | ⟨j, o, w, g1⟩
                    · exact .inl ⟨g1, by simp⟩
                    · exact .inr (.inr ⟨done, j, o, w, by rw [g1]⟩)
            · rcases hout with ⟨z, g1, g2, m', z2, z3⟩ | ⟨raw, o1, _⟩
              · exact nxM (kk _ _ (LM.cont rfl (stW.mono e17 (Nat.le_refl _)) (by omega) z3 hdr hdc sm1 hsc sm2 (by omega) g1 g2))
              · cases told with
                | nil => exact absurd rfl o1
                | cons => cases hb
      · have hneg : most < 0 := by have := of_decide_eq_false hb; omega
        have hrest := mruns_out hmr hneg
        subst hrest
        rw [List.append_nil] at hdr
        subst hdr
        obtain ⟨as, hf1, hf2⟩ := st.atF
        refine s_ret (ev_var rfl) fun H8 e8 => rtM (k fl H8 st.ff ((st.ex.trans e7).trans e8) ⟨as, e8 _ _ (e7 _ _ hf1), hf2.imp fun _ _ => RawAt.ex (hide_sub.trans (e7.trans e8))⟩)
end
end K51

/-! Walks 16: the law's is_over and shown. -/
namespace K51
open PySem L2 Evl
def Evt.word : Evt → S
  | .begin _ _ => "begin" | .nothing _ => "nothing" | .lay _ _ _ => "lay" | .say _ _ _ => "say" | .give _ _ => "give" | .call _ _ _ _ => "call" | .fault _ o _ => o.word
def Evt.place : Evt → Pl
  | .begin p _ => p | .nothing p => p | .lay p _ _ => p | .say p _ _ => p | .give p _ => p | .call p _ _ _ => p | .fault p _ _ => p
def Evt.tail : Evt → List PyData
  | .begin _ vs => [.list (vs.map PyData.int)] | .nothing _ => [] | .lay _ n v => [.str n, .int v] | .say _ k v => [.str k, .int v] | .give _ v => [oD v]
  | .call _ f n vs => [.str f, .str n, .list (vs.map PyData.int)] | .fault _ _ w => [.str w.word]
def evD (e : Evt) : PyData := .tuple (.str e.word :: plD e.place :: e.tail)
def EvAt (K : PySem.W.Frag) (H : Hp) (a : Addr) (e : Evt) : Prop := ∃ p xs, H a = some (.tup (.str e.word :: .ref p :: xs)) ∧ H p = some (.tup (plV e.place)) ∧ DpAll K H xs e.tail
theorem EvAt.ex {K : PySem.W.Frag} {H H' : Hp} {a : Addr} {e : Evt} (x : Ex H H') (h : EvAt K H a e) : EvAt K H' a e :=
  let ⟨p, xs, h1, h2, h3⟩ := h
  ⟨p, xs, x _ _ h1, x _ _ h2, dps_ex x h3⟩
def layName : Evt → Option S
  | .lay _ n _ => some n
  | _ => none
def overL (n : S) : List Evt → Bool
  | [] => false
  | e :: es => match layName e with
    | none => false
    | some m => if m = n then true else overL n es
def overE (es : List Evt) (i : Nat) : Bool := match (es[i]?).bind layName with
  | none => false
  | some n => overL n (es.drop (i + 1))
theorem op_notlay (o : Op) : decide (V.str o.word = .str "lay") = false := by cases o <;> decide +kernel
theorem lay_wordE (e : Evt) : decide (V.str e.word = .str "lay") = (layName e).isSome := by
  cases e with
  | fault p o w => exact op_notlay o
  | begin p vs => exact (by decide +kernel : decide (V.str (Str.ofString "begin") = V.str (Str.ofString "lay")) = false)
  | nothing p => exact (by decide +kernel : decide (V.str (Str.ofString "nothing") = V.str (Str.ofString "lay")) = false)
  | lay p n v => exact (by decide +kernel : decide (V.str (Str.ofString "lay") = V.str (Str.ofString "lay")) = true)
  | say p n v => exact (by decide +kernel : decide (V.str (Str.ofString "say") = V.str (Str.ofString "lay")) = false)
  | give p v => exact (by decide +kernel : decide (V.str (Str.ofString "give") = V.str (Str.ofString "lay")) = false)
  | call p f n vs => exact (by decide +kernel : decide (V.str (Str.ofString "call") = V.str (Str.ofString "lay")) = false)
theorem lay_at {K : PySem.W.Frag} {H : Hp} {a : Addr} {e : Evt} {n : S} (h : EvAt K H a e) (hl : layName e = some n) : ∃ p v, H a = some (.tup [.str "lay", .ref p, .str n, .int v]) := by
  obtain ⟨p, xs, h1, h2, h3⟩ := h
  cases e with
  | lay q m v =>
    cases hl
    cases h3 with
    | cons a1 a2 => cases a1; cases a2 with
      | cons b1 b2 => cases b1; cases b2; exact ⟨p, v, h1⟩
  | _ => cases hl
theorem cut_fromN (xs : List V) (k : Nat) : cutV xs (some (k : Int)) none = xs.drop k := by
  unfold cutV
  rw [HT.sIx_none, HT.sIx_nat]
  by_cases h : k ≤ xs.length
  · rw [Nat.min_eq_left h, List.take_of_length_le (by rw [List.length_drop]; omega)]
  · rw [Nat.min_eq_right (by omega), List.drop_of_length_le (Nat.le_refl _), List.drop_of_length_le (by omega)]; simp
theorem el_is {te : TE} {σ : L2.St} {H : Hp} {xs ys : List V} (h : EvL te σ H xs) (e : xs = ys) : EvL te σ H ys := by rw [← e]; exact h
theorem atI_end {xs : List V} {v : V} : atI (xs ++ [v]) (-1) = some v := by
  have hl : (xs ++ [v]).length = xs.length + 1 := by simp
  unfold atI ixN
  rw [hl, if_neg (by decide), if_pos (by omega)]
  have : ((-1 : Int) + ((xs.length + 1 : Nat) : Int)).toNat = xs.length := by omega
  show (xs ++ [v])[((-1 : Int) + ((xs.length + 1 : Nat) : Int)).toNat]? = _
  rw [this]; simp
section
variable {P : Program} {w : World} {K : PySem.W.Frag} {mg : Str → Option Value} {base : Heap} {o1 o2 o3 o4 o5 : Addr}
abbrev sLz : Stmt := top 52
abbrev nLz : List Str := ["_law_told", "_law_at", "_law_part"]
theorem scLz : FnScope nLz ["_law_told", "_law_at"] (defScope sLz) := ⟨rfl, rfl, rfl, by decide +kernel, rfl, by decide +kernel, by decide +kernel⟩
def spLz (K0 : PySem.W.Frag) : Sp := fun vs H Q _ => ∃ l as es, ∃ i : Nat, vs = [.ref l, .int i] ∧ H l = some (.lst (as.map V.ref)) ∧ All2 (EvAt K0 H) as es ∧ i < es.length ∧ es.length ≤ 70000 ∧ RetV (.bl (overE es i)) H Q
theorem ok_Lz {f : Addr} {fd : FuncData} (F : Fun K "_law_is_over" "_law_is_over" sLz f fd) (T : Txt K mg o1 o2 o3 o4 o5) : FnOk P w K mg base CX0 1 f fd ["_law_told", "_law_at"] (spLz K) := by
  refine F.ok scLz (fun vs H Q E h => ?_) (fun cdv A outer s H vs Q E hr h => ?_)
  · obtain ⟨l, as, es, i, rfl, _⟩ := h; rfl
  · obtain ⟨l, as, es, i, rfl, hl, hA, hi, hz, k⟩ := h
    have nd := scLz.nd
    have hu := hu_of hr
    refine ⟨_, (pss_cons (ps_if (pt_cmpR op_ne (pe_ix ix_tup (pe_ix ix_list (pv 0) (pv 1) (fun _ _ => rfl)) pe_int (fun _ _ => rfl)) pe_str (nomark _)) (pss_one (ps_ret pe_bl)) pss_nil)
      (pss_cons (ps_for PassesOwn.never rfl (pi_list (pe_slice sl_list (pv 0) (po_some (pe_op op_add (pv 1) pe_int)) po_none)) (pg_name (i := 2) nd rfl (Or.inl rfl)) (pss_cons (ps_if (pt_cmpR op_ne (pe_ix ix_tup (pv 2) pe_int (fun _ _ => rfl)) pe_str (nomark _)) (pss_one (ps_ret pe_bl)) pss_nil)
      (pss_one (ps_if (pt_cmpR op_eq (pe_ix ix_tup (pv 2) pe_int (fun _ _ => rfl)) (pe_ix ix_tup (pe_ix ix_list (pv 0) (pv 1) (fun _ _ => rfl)) pe_int (fun _ _ => rfl)) (nomark _)) (pss_one (ps_ret pe_bl)) pss_nil))))
      (pss_one (ps_ret pe_bl)))), ?_⟩
    dsimp only [cxK, cxKn, List.map]
    obtain ⟨e, he⟩ : ∃ e, es[i]? = some e := ⟨_, List.getElem?_eq_getElem hi⟩
    obtain ⟨a, ha, hea⟩ := hA.get' he
    have ixE : ∀ {H1 : Hp} {s : L2.St}, Ex H H1 → Ev (tOp (rIxL K) (tVar 0) (tVar 1)) (some (.ref l) :: some (.int (i : Nat)) :: s) H1 (.ref a) := fun e1 => ev_op (ev_var rfl) (ev_var rfl) (rv_ixL (sq_of (e1 _ _ hl)) (atI_nat (by rw [List.getElem?_map, ha]; rfl)))
    obtain ⟨p0, xs0, h0, hp0, hd0⟩ := id hea
    refine q_when (b := !(layName e).isSome) (et_is (et_test (ev_op (ev_row (j := 0) h0 (ixE (Ex.refl H)) rfl) ev_c (rv_ne rfl))) (by rw [← lay_wordE])) (fun hb H1 e1 => ?_) (fun hb H1 e1 => ?_)
    · refine s_ret (v := .bl (overE es i)) (ev_is ev_c ?_) fun H2 e2 => rtM (k H2 (e1.trans e2))
      have : layName e = none := by cases h : layName e with
        | none => rfl
        | some n => rw [h] at hb; cases hb
      unfold overE; rw [he]; simp [this]
    · obtain ⟨n, hn⟩ : ∃ n, layName e = some n := by cases h : layName e with
        | none => rw [h] at hb; cases hb
        | some n => exact ⟨n, rfl⟩
      have hov : overE es i = overL n (es.drop (i + 1)) := by unfold overE; rw [he]; simp [hn]
      have hall := hA
      refine q_forNLn (xs := (as.drop (i + 1)).map V.ref) (el_is (el_sl (ev_var rfl) (eo_some (ev_op (ev_var rfl) ev_c rv_I0)) eo_none (sq_of (e1 _ _ hl))) (by rw [show ((i : Nat) : Int) + 1 = ((i + 1 : Nat) : Int) by omega, cut_fromN, List.map_drop]))
        (fun p j σ' H' => (∃ u, σ' = [some (.ref l), some (.int (i : Nat)), u]) ∧ Ex H H' ∧ H' p = some (.lst ((as.drop (i + 1)).map V.ref)) ∧ overL n (es.drop (i + 1)) = overL n (es.drop (i + 1 + j))) (fun p H2 hp e2 h2 => ?_) (fun p j σ' H' _ m => sq_of m.2.2.1) (fun p j x σ' H' hx m => ?_) (fun p σ' H' m => ?_)
      · exact ⟨⟨_, rfl⟩, e1.trans e2, h2, rfl⟩
      · obtain ⟨⟨u, rfl⟩, m2, m3, m4⟩ := m
        rw [List.getElem?_map, List.getElem?_drop] at hx
        obtain ⟨b, hb', rfl⟩ : ∃ b, as[i + 1 + j]? = some b ∧ x = .ref b := by
          cases h : as[i + 1 + j]? with
          | none => rw [h] at hx; cases hx
          | some b => rw [h] at hx; exact ⟨b, rfl, (Option.some.inj hx).symm⟩
        obtain ⟨e', he', hbe⟩ := hA.get hb'
        have hdrop : es.drop (i + 1 + j) = e' :: es.drop (i + 1 + (j + 1)) := by
          obtain ⟨h1, h2⟩ := List.getElem?_eq_some_iff.mp he'
          rw [← h2]; exact (List.drop_eq_getElem_cons h1)
        have hbe' := hbe.ex m2
        obtain ⟨p1, xs1, k1, _, _⟩ := id hbe'
        refine q_when (b := !(layName e').isSome) (et_is (et_test (ev_op (ev_row (j := 0) k1 (ev_var rfl) rfl) ev_c (rv_ne rfl))) (by rw [← lay_wordE])) (fun hb1 H3 e3 => ?_) (fun hb1 H3 e3 => ?_)
        · refine s_ret (v := .bl (overE es i)) (ev_is ev_c ?_) fun H4 e4 => rtM (k H4 ((m2.trans e3).trans e4))
          have : layName e' = none := by cases h : layName e' with
            | none => rfl
            | some n => rw [h] at hb1; cases hb1
          rw [hov, m4, hdrop]; unfold overL; rw [this]
        · obtain ⟨m', hm'⟩ : ∃ m', layName e' = some m' := by cases h : layName e' with
            | none => rw [h] at hb1; cases hb1
            | some n => exact ⟨n, rfl⟩
          obtain ⟨q1, v1, l1⟩ := lay_at hbe' hm'
          obtain ⟨q2, v2, l2⟩ := lay_at hea hn
          have m23 := m2.trans e3
          have hstep : overL n (es.drop (i + 1 + j)) = if m' = n then true else overL n (es.drop (i + 1 + (j + 1))) := by
            rw [hdrop]; conv => lhs; unfold overL
            rw [hm']
          refine s_when (b := decide (V.str m' = V.str n)) (et_test (ev_op (ev_row (j := 2) (e3 _ _ l1) (ev_var rfl) rfl) (ev_row (j := 2) (m23 _ _ l2) (ixE m23) rfl) (rv_eq rfl))) (fun hb2 H4 e4 => ?_) (fun hb2 H4 e4 => ?_)
          · have hmn : m' = n := V.str.inj (of_decide_eq_true hb2)
            refine s_ret (v := .bl (overE es i)) (ev_is ev_c ?_) fun H5 e5 => rtM (k H5 ((m23.trans e4).trans e5))
            rw [hov, m4, hstep, if_pos hmn]
          · have hmn : ¬ m' = n := fun z => of_decide_eq_false hb2 (congrArg V.str z)
            exact nxM ⟨⟨_, rfl⟩, m23.trans e4, (e3.trans e4) _ _ m3, by rw [m4, hstep, if_neg hmn]⟩
      · obtain ⟨⟨u, rfl⟩, m2, m3, m4⟩ := m
        refine s_ret (v := .bl (overE es i)) (ev_is ev_c ?_) fun H2 e2 => rtM (k H2 (m2.trans e2))
        rw [hov, m4, List.drop_of_length_le]
        · rfl
        · rw [List.length_map, List.length_drop, hA.1]; omega
/-! ### shown -/
theorem ev_dgetK {σ : L2.St} {H : Hp} {td ty tx : TE} {d : Addr} {c : Cells} {n : Nat} {x z : Int} (hk : KnAt H d c n) (h1 : Ev td σ H (.ref d)) (h2 : Ev ty σ H (.int x)) (h3 : Ev tx σ H (.int z)) : Ev (tDGet2 td ty tx) σ H (.int ((c x).getD z)) := fun H1 e Q q => by
  obtain ⟨kvs, hd, _, hv⟩ := hk
  refine h1 H1 e _ fun H2 e2 => ⟨d, rfl, .inl ⟨kvs, .inl ((e.trans e2) _ _ hd)⟩, h2 H2 (e.trans e2) _ fun H3 e3 => h3 H3 ((e.trans e2).trans e3) _ fun H4 e4 => ⟨_, DGet.k (k := Sum.inl x) ((((e.trans e2).trans e3).trans e4) _ _ hd), ?_⟩⟩
  rw [hv]
  have := q H4 ((e2.trans e3).trans e4)
  cases hc : c x with
  | none => rw [hc] at this; exact this
  | some v => rw [hc] at this; exact this
def Raw.isB : Raw → Bool | .begin _ _ => true | _ => false
def Raw.isN : Raw → Bool | .nothing _ _ => true | _ => false
def Raw.isF : Raw → Bool | .fetch _ _ _ => true | _ => false
theorem op_notb (o : Op) : decide (V.str o.word = .str "begin") = false := by cases o <;> decide +kernel
theorem raw_b (r : Raw) : decide (V.str (rawWord r) = .str "begin") = r.isB := by
  cases r with
  | fault j o w => exact op_notb o
  | begin j c => exact (by decide +kernel : decide (V.str (Str.ofString "begin") = V.str (Str.ofString "begin")) = true)
  | nothing j c => exact (by decide +kernel : decide (V.str (Str.ofString "nothing") = V.str (Str.ofString "begin")) = false)
  | fetch j f n => exact (by decide +kernel : decide (V.str (Str.ofString "fetch") = V.str (Str.ofString "begin")) = false)
  | lay j n v => exact (by decide +kernel : decide (V.str (Str.ofString "lay") = V.str (Str.ofString "begin")) = false)
  | say j n v => exact (by decide +kernel : decide (V.str (Str.ofString "say") = V.str (Str.ofString "begin")) = false)
  | give j v => exact (by decide +kernel : decide (V.str (Str.ofString "give") = V.str (Str.ofString "begin")) = false)
  | call j f n vs => exact (by decide +kernel : decide (V.str (Str.ofString "call") = V.str (Str.ofString "begin")) = false)
theorem op_notn (o : Op) : decide (V.str o.word = .str "nothing") = false := by cases o <;> decide +kernel
theorem raw_n (r : Raw) : decide (V.str (rawWord r) = .str "nothing") = r.isN := by
  cases r with
  | fault j o w => exact op_notn o
  | begin j c => exact (by decide +kernel : decide (V.str (Str.ofString "begin") = V.str (Str.ofString "nothing")) = false)
  | nothing j c => exact (by decide +kernel : decide (V.str (Str.ofString "nothing") = V.str (Str.ofString "nothing")) = true)
  | fetch j f n => exact (by decide +kernel : decide (V.str (Str.ofString "fetch") = V.str (Str.ofString "nothing")) = false)
  | lay j n v => exact (by decide +kernel : decide (V.str (Str.ofString "lay") = V.str (Str.ofString "nothing")) = false)
  | say j n v => exact (by decide +kernel : decide (V.str (Str.ofString "say") = V.str (Str.ofString "nothing")) = false)
  | give j v => exact (by decide +kernel : decide (V.str (Str.ofString "give") = V.str (Str.ofString "nothing")) = false)
  | call j f n vs => exact (by decide +kernel : decide (V.str (Str.ofString "call") = V.str (Str.ofString "nothing")) = false)
theorem op_notf (o : Op) : decide (V.str o.word = .str "fetch") = false := by cases o <;> decide +kernel
theorem raw_f (r : Raw) : decide (V.str (rawWord r) = .str "fetch") = r.isF := by
  cases r with
  | fault j o w => exact op_notf o
  | begin j c => exact (by decide +kernel : decide (V.str (Str.ofString "begin") = V.str (Str.ofString "fetch")) = false)
  | nothing j c => exact (by decide +kernel : decide (V.str (Str.ofString "nothing") = V.str (Str.ofString "fetch")) = false)
  | fetch j f n => exact (by decide +kernel : decide (V.str (Str.ofString "fetch") = V.str (Str.ofString "fetch")) = true)
  | lay j n v => exact (by decide +kernel : decide (V.str (Str.ofString "lay") = V.str (Str.ofString "fetch")) = false)
  | say j n v => exact (by decide +kernel : decide (V.str (Str.ofString "say") = V.str (Str.ofString "fetch")) = false)
  | give j v => exact (by decide +kernel : decide (V.str (Str.ofString "give") = V.str (Str.ofString "fetch")) = false)
  | call j f n vs => exact (by decide +kernel : decide (V.str (Str.ofString "call") = V.str (Str.ofString "fetch")) = false)
theorem raw_other {cs : List Int} {rows : List Row} {r : Raw} (h1 : r.isB = false) (h2 : r.isN = false) (h3 : r.isF = false) : ∃ e, showR cs rows r = some e ∧ e.word = rawWord r ∧ e.place = placeAt rows (rawJ r) ∧ e.tail = rawTail r ∧ ∀ (K : PySem.W.Frag) (H : Hp) xs, RawRest K H r xs → DpAll K H xs (rawTail r) := by
  cases r with
  | begin j c => cases h1
  | nothing j c => cases h2
  | fetch j f n => cases h3
  | lay j n v => exact ⟨_, rfl, rfl, rfl, rfl, fun _ _ _ h => h⟩
  | say j n v => exact ⟨_, rfl, rfl, rfl, rfl, fun _ _ _ h => h⟩
  | give j v => exact ⟨_, rfl, rfl, rfl, rfl, fun _ _ _ h => h⟩
  | call j f n vs => exact ⟨_, rfl, rfl, rfl, rfl, fun _ _ _ h => h⟩
  | fault j o w => exact ⟨_, rfl, rfl, rfl, rfl, fun _ _ _ h => h⟩
theorem tail_some (r : Raw) (h1 : r.isB = false) (h2 : r.isN = false) : rawTail r ≠ [] := by
  cases r with
  | begin j c => cases h1
  | nothing j c => cases h2
  | _ => simp [rawTail]
/-- what is left of the events -/
def keptE (es : List Evt) : List Evt := ((List.range es.length).filter fun i => !overE es i).map fun i => (es[i]?).getD (.nothing ⟨0, 0⟩)
theorem all2_maps {α β : Type} {F : α → β → Prop} {f1 : Nat → α} {f2 : Nat → β} : ∀ {l : List Nat}, (∀ i ∈ l, F (f1 i) (f2 i)) → All2 F (l.map f1) (l.map f2)
  | l, h => ⟨by simp, fun i a b h1 h2 => by
    rw [List.getElem?_map] at h1 h2
    cases hl : l[i]? with
    | none => rw [hl] at h1; cases h1
    | some j =>
      rw [hl] at h1 h2
      cases h1; cases h2
      exact h j (List.mem_of_getElem? hl)⟩
def csOf (ns : List Nm5) (np : Nat) : List Int := (List.range np).map Int.ofNat ++ ns.map Nm5.cell
def EvsAt (K : PySem.W.Frag) (H : Hp) (l : Addr) (es : List Evt) : Prop := ∃ as : List Addr, H l = some (.lst (as.map V.ref)) ∧ All2 (EvAt K H) as es
abbrev hid1 (H : Hp) (t : Addr) : Hp := hide H t t t t
theorem hid1_at {H : Hp} {t b : Addr} {o : HO} (h : H b = some o) (h1 : b ≠ t) : hid1 H t b = some o := hide_at h h1 h1 h1 h1
theorem hid1_upd {H : Hp} {t : Addr} {o : HO} : Ex (hid1 H t) (hid1 (upd H t o) t) := hide_upd (.inl rfl)
abbrev sLs : Stmt := top 51
abbrev nLs : List Str := ["_law_found", "_law_made_here", "_law_cells", "_law_told", "_law_part", "_law_place_here", "_law_name", "_law_cell", "_law_k"]
theorem scLs : FnScope nLs ["_law_found", "_law_made_here"] (defScope sLs) := ⟨rfl, rfl, rfl, by decide +kernel, rfl, by decide +kernel, by decide +kernel⟩
def spLs (K0 : PySem.W.Frag) : Sp := fun vs H Q _ => ∃ fl md vn vk vo pa ra na rows np ns raws, vs = [.ref fl, .ref md] ∧ FoundAt K0 H fl raws ∧ MadeAt H md vn vk vo pa ra na rows ∧ PartsAt H pa np ∧ NamesAt H na ns ∧ np ≤ 100 ∧ ns.length ≤ 100 ∧ (∀ r ∈ raws, rawJ r < rows.length) ∧ raws.length ≤ 30000 ∧
  ∀ p H2, H p = none → Ex H H2 → EvsAt K0 H2 p (keptE (raws.filterMap (showR (csOf ns np) rows))) → Q (.ref p) H2
theorem ok_Ls {f f1 : Addr} {fd d1 : FuncData} (F : Fun K "_law_shown" "_law_shown" sLs f fd) (T : Txt K mg o1 o2 o3 o4 o5) (C__law_is_over : CalAt P w K mg base 1 "_law_is_over" ["_law_told", "_law_at"] (spLz K) f1 d1) : FnOk P w K mg base CX0 2 f fd ["_law_found", "_law_made_here"] (spLs K) := by
  refine F.ok scLs (fun vs H Q E h => ?_) (fun cdv A outer s H vs Q E hr h => ?_)
  · obtain ⟨fl, md, vn, vk, vo, pa, ra, na, rows, np, ns, raws, rfl, _⟩ := h; rfl
  · obtain ⟨fl, md, vn, vk, vo, pa, ra, na, rows, np, ns, raws, rfl, ⟨as, hfl, hall⟩, hmd, hp, hnm, hnp, hns, hj, hz, k⟩ := h
    have nd := scLs.nd
    have hu := hu_of hr
    refine ⟨_, (pss_cons (ps_asg (pe_tup (pa_cons (pe_op op_cat (pe_listRg rfl (by rfl) T.list (prg_1 (by rfl) T.range (pe_callB call_len_seq (by rfl) T.len PySem.boot_len (pa_cons (pe_ix ix_tup (pv 1) pe_int (fun _ _ => rfl)) pa_nil)))) (pe_lc (own := [("_law_name", 6)]) (g := gName 6) (by rfl) nd (pi_tup (pe_ix ix_tup (pv 1) pe_int (fun _ _ => rfl))) (blkOk_by (own := [("_law_name", 6)]) (N := nLs) (sc := defScope sLs) (by decide +kernel)) (fun _ _ _ _ _ => (pg_name (i := 6) nd rfl (Or.inl rfl))) (fun _ _ _ _ _ => pts_nil) (fun _ _ _ _ _ => (pe_ix (r := rIxT K) ix_tup (pv 6) pe_int (fun _ _ => rfl))))) (pa_cons (pe_lst pa_nil) pa_nil))) (pg_tup (n := 2) rfl (pgs_cons (pg_name (i := 2) nd rfl (Or.inl rfl)) (pgs_cons (pg_name (i := 3) nd rfl (Or.inr rfl)) pgs_nil))))
      (pss_cons (ps_for PassesOwn.never rfl (pi_list (pv 0)) (pg_name (i := 4) nd rfl (Or.inr rfl)) (pss_cons (ps_set (i := 5) nd rfl (Or.inl rfl) (pe_ix ix_tup (pe_ix ix_tup (pe_ix ix_tup (pv 1) pe_int (fun _ _ => rfl)) (pe_ix ix_tup (pv 4) pe_int (fun _ _ => rfl)) (fun _ _ => rfl)) (pe_un un_neg pe_int) (fun _ _ => rfl)))
      (pss_one (ps_if (pt_cmpR op_eq (pe_ix ix_tup (pv 4) pe_int (fun _ _ => rfl)) pe_str (nomark _)) (pss_one (ps_expr (pe_bm PySem.F.plainAttrs_list PySem.F.slot_list_append PySem.F.type_list_append mt_append (pv 3) (pa_cons (pe_tup (pa_cons (pe_ix ix_tup (pv 4) pe_int (fun _ _ => rfl)) (pa_cons (pv 5) (pa_cons (pe_lc (own := [("_law_cell", 7)]) (g := gName 7) (by rfl) nd (pi_list (pv 2)) (blkOk_by (own := [("_law_cell", 7)]) (N := nLs) (sc := defScope sLs) (by decide +kernel)) (fun _ _ _ _ _ => (pg_name (i := 7) nd rfl (Or.inl rfl))) (fun _ _ _ _ _ => pts_nil) (fun _ _ _ _ _ => (pe_dget2 hu (pe_ix (r := rIxT K) ix_tup (pv 4) pe_int (fun _ _ => rfl)) (pv 7) pe_int ⟨rfl, rfl, rfl, rfl⟩))) pa_nil)))) pa_nil)))) (pss_one (ps_if (pt_cmpR op_eq (pe_ix ix_tup (pv 4) pe_int (fun _ _ => rfl)) pe_str (nomark _)) (pss_one (ps_expr (pe_bm PySem.F.plainAttrs_list PySem.F.slot_list_append PySem.F.type_list_append mt_append (pv 3) (pa_cons (pe_tup (pa_cons (pe_ix ix_tup (pv 4) pe_int (fun _ _ => rfl)) (pa_cons (pv 5) pa_nil))) pa_nil)))) (pss_one (ps_if (pt_cmpR op_ne (pe_ix ix_tup (pv 4) pe_int (fun _ _ => rfl)) pe_str (nomark _)) (pss_one (ps_expr (pe_bm PySem.F.plainAttrs_list PySem.F.slot_list_append PySem.F.type_list_append mt_append (pv 3) (pa_cons (pe_op op_catA (pe_tup (pa_cons (pe_ix ix_tup (pv 4) pe_int (fun _ _ => rfl)) (pa_cons (pv 5) pa_nil))) (pe_slice sl_tupA (pv 4) (po_some pe_int) po_none)) pa_nil)))) pss_nil))))))))
      (pss_one (ps_ret (pe_lc (own := [("_law_k", 8)]) (g := gName 8) (by rfl) nd (pi_range1 rfl T.range (pa_cons (pe_callB call_len_seq (by rfl) T.len PySem.boot_len (pa_cons (pv 3) pa_nil)) pa_nil)) (blkOk_by (own := [("_law_k", 8)]) (N := nLs) (sc := defScope sLs) (by decide +kernel)) (fun _ _ _ _ _ => (pg_name (i := 8) nd rfl (Or.inl rfl))) (fun _ _ _ _ _ => (pts_one (pt_not (pt_val (pe_call C__law_is_over.ok (hr.mono (by decide)) (by rfl) C__law_is_over.g C__law_is_over.kp C__law_is_over.b .nil pass0 (pa_cons (pv 3) (pa_cons (pv 8) pa_nil))))))) (fun _ _ _ _ _ => (pe_ix (r := rIxL K) ix_list (pv 3) (pv 8) (fun _ _ => rfl)))))))), ?_⟩
    dsimp only [cxK, cxKn, List.map]
    obtain ⟨ht, hrt⟩ := hmd
    obtain ⟨xs, hp1, hp2, hp3⟩ := id hp
    obtain ⟨nb, hn1, hn2⟩ := id hnm
    have hA : EvL (tLc (iTup K (tOp (rIxT K) (tVar 1) (tC (.int 5)))) (gName 6) tYes (tOp (rIxT K) (tVar 6) (tC (.int 2))) [6]) [some (.ref fl), some (.ref md), none, none, none, none, none, none, none] H ((ns.map Nm5.cell).map V.int) := by
      have hev : Ev (tOp (rIxT K) (tVar 1) (tC (.int 5))) [some (.ref fl), some (.ref md), none, none, none, none, none, none, none] H (.ref na) := ev_op (ev_var rfl) ev_c (rv_ixT (st_of ht) (atI_nat (j := 5) rfl))
      have := el_lc (fun _ => true) (fun i => (((ns.map Nm5.cell).map V.int)[i]?).getD .non) (ei_tup (K := K) (j := 6) hev (st_of hn1)) (vs := [6]) (tt := tYes) (te := tOp (rIxT K) (tVar 6) (tC (.int 2))) (by rw [List.length_map, hn2.1]; omega) (fun i _ => rfl) (fun i H1 e1 hi => et_yes) (fun i H1 e1 hi _ => ?_)
      · rw [List.length_map, hn2.1] at this
        have e := given_all (xs := (ns.map Nm5.cell).map V.int)
        rw [List.length_map, List.length_map] at e
        rw [e] at this
        exact this
      · rw [List.length_map] at hi
        have hb : nb[i]? = some nb[i] := List.getElem?_eq_getElem hi
        obtain ⟨n, h1, h2⟩ := hn2.get hb
        show Ev _ (List.set _ 6 (nb.map V.ref)[i]?) _ _
        rw [List.getElem?_map, hb, List.getElem?_map, List.getElem?_map, h1]
        exact ev_op (ev_var rfl) ev_c (rv_ixT (st_of (e1 _ _ h2)) (atI_nat (j := 2) rfl))
    have hB : EvL (tLstRg (tRg1 (tCB (fun xs H Q => ∃ p ys, xs = [V.ref p] ∧ (SqL K H p ys ∨ SqT K H p ys) ∧ Q (V.int (ys.length : Int)) H) (tCons (tOp (rIxT K) (tVar 1) (tC (V.int 1))) tNil)))) [some (.ref fl), some (.ref md), none, none, none, none, none, none, none] H (((List.range np).map Int.ofNat).map V.int) := fun H2 e2 Q q => by
      have hl := ev_lenT (K := K) (σ := [some (.ref fl), some (.ref md), none, none, none, none, none, none, none]) (H := H) (ta := tOp (rIxT K) (tVar 1) (tC (V.int 1))) (ev_op (ev_var rfl) ev_c (rv_ixT (v := .ref pa) (st_of ht) (atI_nat (j := 1) rfl))) (st_of hp1)
      unfold tLstRg tRg1
      refine hl H2 e2 _ fun H3 e3 => ⟨_, rfl, RgOk.of_le (by omega) (by omega) (by omega) (by omega), fun l hl => ?_⟩
      have : rgV 0 (xs.length : Int) = ((List.range np).map Int.ofNat).map V.int := by
        rw [hp2]; unfold rgV; rw [List.map_map, show ((np : Int) - 0).toNat = np by omega]; exact List.map_congr_left fun i _ => congrArg V.int (Int.zero_add _)
      rw [this]
      exact q l _ (fresh_back e3 hl) (e3.trans (Ex.new hl)) upd_same
    have hcat := el_catN hB hA (by rw [List.length_map, List.length_map, List.length_map, List.length_map, List.length_range]; omega)
    rw [← List.map_append, show (List.range np).map Int.ofNat ++ ns.map Nm5.cell = csOf ns np from rfl] at hcat
    have hcz : (csOf ns np).length ≤ 200 := by unfold csOf; rw [List.length_append, List.length_map, List.length_map, List.length_range]; omega
    generalize csOf ns np = cs at hcat hcz k
    refine q_asgG (r_tup (r_cons (hcat H (Ex.refl H) _ fun l H1 hl e1 h1 => r_cons (el_lst ea_nil (by simp) H1 (Ex.refl H1) _ fun tl H2 htl e2 h2 => r_nil ⟨Nat.le_of_ble_eq_true rfl, fun p hp => ?_⟩))))
    refine ⟨p, _, rfl, st_of upd_same, rfl, _, _, rfl, _, _, rfl, rfl, ?_⟩
    have e3 : Ex H2 (upd H2 p (.tup [.ref l, .ref tl])) := Ex.new hp
    generalize upd H2 p (.tup [.ref l, .ref tl]) = H3 at e3
    have htl0 : H tl = none := fresh_back e1 htl
    have hltl : l ≠ tl := fun z => by rw [z, htl] at h1; cases h1
    have exh : ∀ {H5 : Hp}, Ex H H5 → Ex H (hid1 H5 tl) := fun e b o hb => hid1_at (e _ _ hb) fun z => by rw [z, htl0] at hb; cases hb
    refine q_forLn (xs := as.map V.ref) (ev_var rfl) (sq_of (((e1.trans e2).trans e3) _ _ hfl)) (fun i σ' H' => (∃ u4 u5, σ' = [some (.ref fl), some (.ref md), some (.ref l), some (.ref tl), u4, u5, none, none, none]) ∧ Ex H H' ∧ H' l = some (.lst (cs.map V.int)) ∧ ∃ bs : List Addr, H' tl = some (.lst (bs.map V.ref)) ∧ All2 (EvAt K (hid1 H' tl)) bs ((raws.take i).filterMap (showR cs rows)))
      (fun H4 e4 => ⟨⟨_, _, rfl⟩, ((e1.trans e2).trans e3).trans e4, ((e2.trans e3).trans e4) _ _ h1, [], (e3.trans e4) _ _ h2, All2.nil⟩) (fun i σ' H' _ m => sq_of (m.2.1 _ _ hfl)) (fun i x σ' H' hx m => ?_) (fun σ' H' m => ?_)
    · obtain ⟨⟨u4, u5, rfl⟩, ex, hl', bs, ht', hev⟩ := m
      rw [List.getElem?_map] at hx
      obtain ⟨a, ha, rfl⟩ : ∃ a, as[i]? = some a ∧ x = .ref a := by
        cases h : as[i]? with
        | none => rw [h] at hx; cases hx
        | some b => rw [h] at hx; exact ⟨b, rfl, (Option.some.inj hx).symm⟩
      obtain ⟨raw, hraw, hra⟩ := hall.get ha
      obtain ⟨r, hr1⟩ : ∃ r, rows[rawJ raw]? = some r := ⟨_, List.getElem?_eq_getElem (hj raw (List.mem_of_getElem? hraw))⟩
      obtain ⟨ras, hrt1, hrt2⟩ := id hrt
      obtain ⟨rb, hrb1, pp, qq, hb1, hb2, hb3⟩ := hrt2.get' hr1
      obtain ⟨tlx, hx1, hx2⟩ := hra
      have hpl : placeAt rows (rawJ raw) = r.place := placeAt_eq hr1
      have hi : i < 30000 := by have := (List.getElem?_eq_some_iff.mp hraw).1; omega
      have hbz : bs.length ≤ 30000 := by
        rw [hev.1]
        have h1 := List.length_filterMap_le (showR cs rows) (raws.take i)
        rw [List.length_take] at h1; omega
      have hai : ∀ {s : L2.St} {H5 : Hp} {j : Nat} {v : V} {a0 a1 a2 a3 : Option V}, Ex H H5 → (V.str (rawWord raw) :: .int (rawJ raw : Nat) :: tlx)[j]? = some v → Ev (tOp (rIxT K) (tVar 4) (tC (.int (j : Int)))) (a0 :: a1 :: a2 :: a3 :: some (.ref a) :: s) H5 v := fun e h => ev_row (e _ _ hx1) (ev_var rfl) h
      refine q_asg (v := .ref pp) (ev_op (ev_op (ev_op (ev_var rfl) ev_c (rv_ixT (v := .ref ra) (st_of (ex _ _ ht)) (atI_nat (j := 4) rfl))) (hai (j := 1) ex rfl) (rv_ixT (v := .ref rb) (st_of (ex _ _ hrt1)) (atI_nat (by rw [List.getElem?_map, hrb1]; rfl)))) (ev_un ev_c ru_neg) (rv_ixT (st_of (ex _ _ hb1)) (atI_end (xs := .str r.word :: r.mid qq)))) fun H4 e4 => ?_
      have e04 := ex.trans e4
      have fin : ∀ (e : Evt) (H5 : Hp) (t : Addr), showR cs rows raw = some e → Ex H4 H5 → EvAt K (hid1 H5 tl) t e → ((∃ u4 u5, [some (V.ref fl), some (.ref md), some (.ref l), some (.ref tl), some (.ref a), some (.ref pp), none, none, none] = [some (V.ref fl), some (.ref md), some (.ref l), some (.ref tl), u4, u5, none, none, none]) ∧ Ex H (upd H5 tl (.lst (bs.map V.ref ++ [.ref t]))) ∧ (upd H5 tl (.lst (bs.map V.ref ++ [.ref t]))) l = some (.lst (cs.map V.int)) ∧ ∃ bs' : List Addr, (upd H5 tl (.lst (bs.map V.ref ++ [.ref t]))) tl = some (.lst (bs'.map V.ref)) ∧ All2 (EvAt K (hid1 (upd H5 tl (.lst (bs.map V.ref ++ [.ref t]))) tl)) bs' ((raws.take (i + 1)).filterMap (showR cs rows))) := fun e H5 t he e5 hevt =>
        ⟨⟨_, _, rfl⟩, Ex.mut (e04.trans e5) htl0, by rw [upd_ne hltl]; exact (e4.trans e5) _ _ hl', bs ++ [t], by rw [upd_same]; simp, by
          rw [take_succ_some hraw, List.filterMap_append]
          simp only [List.filterMap_cons, List.filterMap_nil, he]
          exact All2.snoc (hev.imp fun _ _ z => z.ex ((hide_ex (e4.trans e5)).trans hid1_upd)) (hevt.ex hid1_upd)⟩
      have htl4 := e4 _ _ ht'
      have newT : ∀ {H5 : Hp} {t : Addr}, Ex H4 H5 → H5 t = none → t ≠ tl := fun e h z => by rw [z, e _ _ htl4] at h; cases h
      have hpp : pp ≠ tl := fun z => by rw [z, htl0] at hb2; cases hb2
      have hplc : ∀ {H5 : Hp}, Ex H4 H5 → hid1 H5 tl pp = some (.tup (plV (placeAt rows (rawJ raw)))) := fun e => by rw [hpl]; exact hid1_at ((e04.trans e) _ _ hb2) hpp
      refine s_if (b := raw.isB) (et_is (et_test (ev_op (hai (j := 0) e04 rfl) ev_c (rv_eq rfl))) (raw_b raw)) (fun hb H5 e5 => ?_) (fun hb H5 e5 => ?_)
      · cases raw with
        | begin j c =>
          obtain ⟨d, n, rfl, hkn⟩ := hx2
          have e05 := e04.trans e5
          have hcomp : EvL (tLc (iList K (tVar 2)) (gName 7) tYes (tDGet2 (tOp (rIxT K) (tVar 4) (tC (.int 2))) (tVar 7) (tC (.int 0))) [7]) [some (V.ref fl), some (.ref md), some (.ref l), some (.ref tl), some (.ref a), some (.ref pp), none, none, none] H5 ((shown cs c).map V.int) := by
            have := el_lcL (K := K) (fun _ => true) (fun i => (((shown cs c).map V.int)[i]?).getD .non) (te := tDGet2 (tOp (rIxT K) (tVar 4) (tC (.int 2))) (tVar 7) (tC (.int 0))) (t := tYes) (j := 7) (vs := [7]) (tl := tVar 2) (σ := [some (V.ref fl), some (.ref md), some (.ref l), some (.ref tl), some (.ref a), some (.ref pp), none, none, none]) (H := H5) (a := l) (xs := cs.map V.int) (ev_var rfl) (sq_of ((e4.trans e5) _ _ hl')) (by rw [List.length_map]; omega) (fun x => rfl) (fun i x H1 e1 hi => et_yes) (fun i x H1 e1 hi _ => ?_)
            · have e := given_all (xs := (shown cs c).map V.int)
              rw [List.length_map, show (shown cs c).length = cs.length by unfold shown; rw [List.length_map]] at e
              rw [List.length_map, e] at this
              exact this
            · rw [List.getElem?_map] at hi
              cases hci : cs[i]? with
              | none => rw [hci] at hi; cases hi
              | some x0 =>
                rw [hci] at hi; cases hi
                unfold shown
                rw [List.getElem?_map, List.getElem?_map, hci]
                exact ev_dgetK (hkn.ex (e05.trans e1) (Nat.le_refl _)) (hai (j := 2) (e05.trans e1) rfl) (ev_var rfl) ev_c
          refine s_dropR ⟨.ref tl, rfl, .inl ⟨rfl, _, sq_of (e5 _ _ htl4)⟩, r_cons (r_tup (r_consE (hai (j := 0) e05 rfl) fun H6 e6 => r_consE (ev_var rfl) fun H7 e7 => r_cons (hcomp H7 (e6.trans e7) _ fun q H8 hq e8 h8 => r_nil ⟨sz_of (by simp), fun t ht9 => r_nil ⟨tl, bs.map V.ref, .ref t, rfl, rfl, ?_, sz_lt (by rw [List.length_map]; omega), nxM (fin (.begin (placeAt rows j) (shown cs c)) _ t rfl ?_ ⟨pp, [.ref q], hid1_at upd_same (newT (e5.trans (e6.trans (e7.trans e8))) ht9), hplc ?_, ?_⟩)⟩⟩)))⟩
          · exact (e5.trans (e6.trans (e7.trans (e8.trans (Ex.new ht9))))) _ _ htl4
          · exact e5.trans (e6.trans (e7.trans (e8.trans (Ex.new ht9))))
          · exact e5.trans (e6.trans (e7.trans (e8.trans (Ex.new ht9))))
          · exact .cons (.lst (sq_of (hid1_at (Ex.new ht9 _ _ h8) (newT (e5.trans (e6.trans e7)) hq))) dp_ints) .nil
        | _ => cases hb
      · refine s_if (b := raw.isN) (et_is (et_test (ev_op (hai (j := 0) (e04.trans e5) rfl) ev_c (rv_eq rfl))) (raw_n raw)) (fun hn H6 e6 => ?_) (fun hn H6 e6 => ?_)
        · cases raw with
          | nothing j c =>
            have e46 := e5.trans e6
            refine s_dropR ⟨.ref tl, rfl, .inl ⟨rfl, _, sq_of (e46 _ _ htl4)⟩, r_cons (r_tup (r_consE (hai (j := 0) (e04.trans e46) rfl) fun H7 e7 => r_consE (ev_var rfl) fun H8 e8 => r_nil ⟨sz_of (by simp), fun t ht9 => r_nil ⟨tl, bs.map V.ref, .ref t, rfl, rfl, ?_, sz_lt (by rw [List.length_map]; omega), nxM (fin (.nothing (placeAt rows j)) _ t rfl ?_ ⟨pp, [], hid1_at upd_same (newT (e46.trans (e7.trans e8)) ht9), hplc ?_, .nil⟩)⟩⟩))⟩
            · exact (e46.trans (e7.trans (e8.trans (Ex.new ht9)))) _ _ htl4
            · exact e46.trans (e7.trans (e8.trans (Ex.new ht9)))
            · exact e46.trans (e7.trans (e8.trans (Ex.new ht9)))
          | _ => cases hn
        · refine s_when (b := !raw.isF) (et_is (et_test (ev_op (hai (j := 0) ((e04.trans e5).trans e6) rfl) ev_c (rv_ne rfl))) (by rw [← raw_f])) (fun hf H7 e7 => ?_) (fun hf H7 e7 => ?_)
          · have hf' : raw.isF = false := by cases h : raw.isF with
              | true => rw [h] at hf; cases hf
              | false => rfl
            obtain ⟨e, he1, he2, he3, he4, he5⟩ := raw_other (cs := cs) (rows := rows) hb hn hf'
            have hdp := he5 K H tlx hx2
            have hne : tlx ≠ [] := fun z => tail_some raw hb hn (List.length_eq_zero_iff.mp (by rw [← dp_len hdp, z]; rfl))
            have hlen : tlx.length ≤ 10 := by
              rw [dp_len hdp]
              cases raw <;> simp [rawTail]
            have e47 := e5.trans (e6.trans e7)
            have hcut : cutV (V.str (rawWord raw) :: .int (rawJ raw : Nat) :: tlx) (some 2) none = tlx := cut_fromN _ 2
            have hsl := ew_sl (K := K) (σ := [some (V.ref fl), some (.ref md), some (.ref l), some (.ref tl), some (.ref a), some (.ref pp), none, none, none]) (H := H7) (te := tVar 4) (tl := tPart (tC (.int 2))) (th := tNoPart) (ev_var rfl) (eo_some ev_c) eo_none ((e04.trans e47) _ _ hx1)
            rw [hcut] at hsl
            refine s_dropR ⟨.ref tl, rfl, .inl ⟨rfl, _, sq_of (e47 _ _ htl4)⟩, r_cons (r_op (r_tup (r_consE (hai (j := 0) (e04.trans e47) rfl) fun H8 e8 => r_consE (ev_var rfl) fun H9 e9 => r_nil ⟨sz_of (by simp), fun p1 hp1 => ?_⟩)))⟩
            have e8p := e8.trans (e9.trans (Ex.new (o := .tup [.str (rawWord raw), .ref pp]) hp1))
            refine hsl _ e8p _ fun p2 H10 e10 h10 => ⟨p1, p2, _, _, rfl, rfl, st_of (e10 _ _ upd_same), st_of h10, sz_of (by simp; omega), (fun z => by cases z), (fun _ z => absurd z hne), fun _ _ t ht9 => r_nil ⟨tl, bs.map V.ref, .ref t, rfl, rfl, ?_, sz_lt (by rw [List.length_map]; omega), nxM (fin e _ t he1 ?_ ⟨pp, tlx, ?_, ?_, ?_⟩)⟩⟩
            · exact (e47.trans (e8p.trans (e10.trans (Ex.new ht9)))) _ _ htl4
            · exact e47.trans (e8p.trans (e10.trans (Ex.new ht9)))
            · rw [he2]; exact hid1_at upd_same (newT (e47.trans (e8p.trans e10)) ht9)
            · rw [he3]; exact hplc (e47.trans (e8p.trans (e10.trans (Ex.new ht9))))
            · rw [he4]; exact dps_ex (exh (e04.trans (e47.trans (e8p.trans (e10.trans (Ex.new ht9)))))) hdp
          · cases raw with
            | fetch j f n =>
              have e47 := e5.trans (e6.trans e7)
              refine nxM ⟨⟨_, _, rfl⟩, e04.trans e47, (e4.trans e47) _ _ hl', bs, e47 _ _ htl4, ?_⟩
              rw [take_succ_some hraw, List.filterMap_append]
              have h0 : List.filterMap (showR cs rows) [Raw.fetch j f n] = [] := rfl
              rw [h0, List.append_nil]
              exact hev.imp fun _ _ z => z.ex (hide_ex (e4.trans e47))
            | _ => cases hf
    · obtain ⟨⟨u4, u5, rfl⟩, ex, hl', bs, ht', hev⟩ := m
      have hes : raws.take (as.map V.ref).length = raws := List.take_of_length_le (by rw [List.length_map, hall.1]; exact Nat.le_refl _)
      rw [hes] at hev
      have hez : (raws.filterMap (showR cs rows)).length ≤ 30000 := Nat.le_trans (List.length_filterMap_le ..) hz
      generalize hE : raws.filterMap (showR cs rows) = es at hev hez k
      have hlc := el_lcR1 (j := 8) (vs := [8]) (σ := [some (V.ref fl), some (.ref md), some (.ref l), some (.ref tl), u4, u5, none, none, none]) (H := H') (t := tNot (tB (tCall (spLz K) [] E0 (tCons (tVar 3) (tCons (tVar 8) tNil))))) (te := tOp (rIxL K) (tVar 3) (tVar 8)) (ta := tCons (tCB (rLenS K) (tCons (tVar 3) tNil)) tNil) (n := (es.length : Nat)) (fun i => !overE es i) (fun i => ((bs.map V.ref)[i]?).getD .non) ?_ (by omega) (fun x => rfl) (fun i H1 e1 hi => ?_) (fun i H1 e1 hi hf => ?_)
      · rw [show ((es.length : Nat) : Int).toNat = es.length by omega] at hlc
        refine s_retL hlc fun p H5 hp5 e5 h5 => rtM (k p H5 (fresh_back ex hp5) (ex.trans e5) ⟨((List.range es.length).filter fun i => !overE es i).map fun i => (bs[i]?).getD 0, ?_, ?_⟩)
        · rw [h5]; unfold given
          rw [List.map_map]
          refine congrArg (fun z => some (HO.lst z)) (List.map_congr_left fun i hi => ?_)
          have hi' : i < bs.length := by rw [hev.1]; exact List.mem_range.mp (List.mem_filter.mp hi).1
          simp [List.getElem?_map, List.getElem?_eq_getElem hi']
        · refine all2_maps fun i hi => ?_
          have hi' : i < es.length := List.mem_range.mp (List.mem_filter.mp hi).1
          have hb' : i < bs.length := by rw [hev.1]; exact hi'
          have := hev.2 i _ _ (List.getElem?_eq_getElem hb') (List.getElem?_eq_getElem hi')
          rw [List.getElem?_eq_getElem hb', List.getElem?_eq_getElem hi']
          exact this.ex (hide_sub.trans e5)
      · have := ev_len (K := K) (σ := [some (V.ref fl), some (.ref md), some (.ref l), some (.ref tl), u4, u5, none, none, none]) (H := H') (ta := tVar 3) (ev_var rfl) (sq_of ht')
        rw [List.length_map, hev.1] at this
        exact ea_cons this ea_nil
      · refine et_not (et_B (ev_call (ea_cons (ev_var rfl) (ea_cons (ev_var rfl) ea_nil)) fun H5 e5 Q' q' E' => ⟨tl, bs, es, i, rfl, (e1.trans e5) _ _ ht', hev.imp fun _ _ z => z.ex (hide_sub.trans (e1.trans e5)), by omega, by omega, fun H6 e6 => q' H6 e6⟩))
      · have hi' : i < bs.length := by rw [hev.1]; omega
        rw [List.getElem?_map, List.getElem?_eq_getElem hi']
        exact ev_op (ev_var rfl) (ev_var rfl) (rv_ixL (sq_of (e1 _ _ ht')) (atI_nat (by rw [List.getElem?_map, List.getElem?_eq_getElem hi']; rfl)))
end
end K51

/-! Walks 17: the law's alike. -/
namespace K51
open PySem L2 Evl
def FlatV (x : V) : Prop := x = .non ∨ (∃ i, x = .int i) ∨ ∃ s, x = .str s
def Alk (K : PySem.W.Frag) (H : Hp) : Nat → V → V → Prop
  | 0, x, y => x = y ∧ FlatV x
  | d + 1, x, y => (x = y ∧ FlatV x) ∨ ∃ a b xs ys, x = .ref a ∧ y = .ref b ∧ ((SqL K H a xs ∧ SqL K H b ys) ∨ (SqT K H a xs ∧ SqT K H b ys)) ∧ xs.length ≤ 30000 ∧ All2 (Alk K H d) xs ys
theorem Alk.ex {K : PySem.W.Frag} {H H' : Hp} (e : Ex H H') : ∀ {d : Nat} {x y : V}, Alk K H d x y → Alk K H' d x y
  | 0, x, y, h => h
  | d + 1, x, y, .inl h => .inl h
  | d + 1, x, y, .inr ⟨a, b, xs, ys, h1, h2, h3, h4, h5⟩ => .inr ⟨a, b, xs, ys, h1, h2, h3.imp (fun z => ⟨ex_l e z.1, ex_l e z.2⟩) (fun z => ⟨ex_t e z.1, ex_t e z.2⟩), h4, h5.imp fun _ _ z => Alk.ex e z⟩
theorem ty_flat {K : PySem.W.Frag} {H : Hp} {x : V} (h : FlatV x) : ∃ t, TyX K H x (.type t) ∧ (t = "NoneType" ∨ t = "int" ∨ t = "str") := by
  rcases h with rfl | ⟨i, rfl⟩ | ⟨s, rfl⟩
  · exact ⟨_, .base .non, .inl rfl⟩
  · exact ⟨_, .base (.int i), .inr (.inl rfl)⟩
  · exact ⟨_, .base (.str s), .inr (.inr rfl)⟩
theorem ty_sqL {K : PySem.W.Frag} {H : Hp} {a : Addr} {xs : List V} (h : SqL K H a xs) : TyX K H (.ref a) (.type "list") := by
  rcases h with (h | ⟨o, h⟩) | ⟨o, its, n, h1, h2, _⟩
  · exact .base (.lst h)
  · exact .base (.frz h)
  · exact .kList h1 h2
theorem ty_sqT {K : PySem.W.Frag} {H : Hp} {a : Addr} {xs : List V} (h : SqT K H a xs) : TyX K H (.ref a) (.type "tuple") := by
  rcases h with (h | ⟨o, h⟩) | ⟨o, its, n, h1, h2, _⟩
  · exact .base (.tup h)
  · exact .fTuple h
  · exact .kTuple h1 h2
section
variable {K : PySem.W.Frag} {σ : L2.St} {H : Hp} {te ta : TE} {x v : V}
theorem ev_isi {t n : String} {b : Bool} (hx : Ev te σ H x) (ty : ∀ H1, Ex H H1 → TyX K H1 x (.type t)) (hb : kitB t n = some b) : Ev (tCB (rIsi K) (tCons te (tCons (tC (.ty n)) tNil))) σ H (.bl b) := fun H1 e Q q =>
  hx H1 e _ fun H2 e2 => ⟨x, .ty n, .type t, .type n, b, rfl, .ty n, ty H2 (e.trans e2), kit_ty hb, q H2 e2⟩
theorem ev_isiT {t : String} {b1 b2 : Bool} (hx : Ev te σ H x) (ty : ∀ H1, Ex H H1 → TyX K H1 x (.type t)) (h1 : kitB t "tuple" = some b1) (h2 : kitB t "list" = some b2) :
    Ev (tCB (rIsiT K) (tCons te (tCons (tTup (tCons (tC (.ty "tuple")) (tCons (tC (.ty "list")) tNil))) tNil))) σ H (.bl (b1 || b2)) := fun H1 e Q q =>
  hx H1 e _ fun H2 e2 => ⟨Nat.le_of_ble_eq_true rfl, fun p hp => ⟨x, p, _, .type t, [.type "tuple", .type "list"], b1 || b2, rfl, upd_same, .cons (.ty _) (.cons (.ty _) .nil), ty _ (e.trans (e2.trans (Ex.new hp))),
    kitAny_cons (kit_ty h1) (fun z => kitAny_cons (kit_ty h2) (fun z2 => by rw [z, z2]; exact kitAny_nil) (fun z2 => by rw [z, z2]; rfl)) (fun z => by rw [z]; rfl), q _ (e2.trans (Ex.new hp))⟩⟩
def SqE (K : PySem.W.Frag) (H : Hp) (a : Addr) (xs : List V) : Prop := SqL K H a xs ∨ SqT K H a xs
theorem SqE.ex {H' : Hp} {a : Addr} {xs : List V} (e : Ex H H') (h : SqE K H a xs) : SqE K H' a xs := h.imp (ex_l e) (ex_t e)
theorem ev_lenE {a : Addr} {xs : List V} (ha : Ev te σ H (.ref a)) (h : SqE K H a xs) : Ev (tCB (rLenS K) (tCons te tNil)) σ H (.int (xs.length : Int)) := fun H1 e Q q =>
  ha H1 e _ fun H2 e2 => ⟨a, xs, rfl, h.ex (e.trans e2), q H2 e2⟩
theorem ev_ixE {a : Addr} {xs : List V} {i : Nat} (ha : Ev te σ H (.ref a)) (hi : Ev ta σ H (.int (i : Nat))) (h : SqE K H a xs) (hv : xs[i]? = some v) : Ev (tOp (rIx K) te ta) σ H v :=
  ev_op ha hi fun H1 e Q q => by
    rcases h.ex e with z | z
    · exact .inl ⟨a, xs, _, v, rfl, rfl, z, atI_nat hv, q H1 (Ex.refl H1)⟩
    · exact .inr (.inl ⟨a, xs, _, v, rfl, rfl, z, atI_nat hv, q H1 (Ex.refl H1)⟩)
theorem ty_sqE {a : Addr} {xs ys : List V} {b : Addr} (h : (SqL K H a xs ∧ SqL K H b ys) ∨ (SqT K H a xs ∧ SqT K H b ys)) : ∃ t, (∀ H1, Ex H H1 → TyX K H1 (.ref a) (.type t)) ∧ (∀ H1, Ex H H1 → TyX K H1 (.ref b) (.type t)) ∧ ((t = "list") ∨ t = "tuple") := by
  rcases h with ⟨h1, h2⟩ | ⟨h1, h2⟩
  · exact ⟨_, fun H1 e => ty_sqL (ex_l e h1), fun H1 e => ty_sqL (ex_l e h2), .inl rfl⟩
  · exact ⟨_, fun H1 e => ty_sqT (ex_t e h1), fun H1 e => ty_sqT (ex_t e h2), .inr rfl⟩
end
section
variable {P : Program} {w : World} {K : PySem.W.Frag} {mg : Str → Option Value} {base : Heap} {o1 o2 o3 o4 o5 : Addr}
abbrev sLa : Stmt := top 34
abbrev nLa : List Str := ["_law_one", "_law_other", "_law_k"]
theorem scLa : FnScope nLa ["_law_one", "_law_other"] (defScope sLa) := ⟨rfl, rfl, rfl, by decide +kernel, rfl, by decide +kernel, by decide +kernel⟩
def spLa (K0 : PySem.W.Frag) (d : Nat) : Sp := fun vs H Q _ => ∃ x y, vs = [x, y] ∧ Alk K0 H d x y ∧ RetV (.bl true) H Q
def spLb (K0 : PySem.W.Frag) : Nat → Sp
  | 0 => fun _ _ _ _ => False
  | d + 1 => spLa K0 d
theorem ok_La1 {f : Addr} {fd : FuncData} (F : Fun K "_law_alike" "_law_alike" sLa f fd) (T : Txt K mg o1 o2 o3 o4 o5) (hbool : mg "bool" = none) {d : Nat} (C__law_alike : CalAt P w K mg base (d + 1) "_law_alike" ["_law_one", "_law_other"] (spLb K d) f fd) : FnOk P w K mg base CX0 (d + 2) f fd ["_law_one", "_law_other"] (spLa K d) := by
  refine F.ok scLa (fun vs H Q E h => ?_) (fun cdv A outer s H vs Q E hr h => ?_)
  · obtain ⟨x, y, rfl, _⟩ := h; rfl
  · obtain ⟨x, y, rfl, hxy, k⟩ := h
    have nd := scLa.nd
    have hu := hu_of hr
    refine ⟨_, (pss_cons (ps_if (pw_and (pt_val (pe_callB call_isiT (by rfl) T.isinstance (by decide +kernel) (pa_cons (pv 0) (pa_cons (pe_tup (pa_cons (pe_bltn (v := .ty "tuple") (by rfl) T.tuple (by decide +kernel) rfl) (pa_cons (pe_bltn (v := .ty "list") (by rfl) T.list (by decide +kernel) rfl) pa_nil))) pa_nil)))) (pw_and1 (pt_val (pe_callB call_isiT (by rfl) T.isinstance (by decide +kernel) (pa_cons (pv 1) (pa_cons (pe_tup (pa_cons (pe_bltn (v := .ty "tuple") (by rfl) T.tuple (by decide +kernel) rfl) (pa_cons (pe_bltn (v := .ty "list") (by rfl) T.list (by decide +kernel) rfl) pa_nil))) pa_nil)))))).pt (pss_cons (ps_if (pw_or (pt_cmpR op_ne (pe_callB call_isi (by rfl) T.isinstance (by decide +kernel) (pa_cons (pv 0) (pa_cons (pe_bltn (v := .ty "tuple") (by rfl) T.tuple (by decide +kernel) rfl) pa_nil))) (pe_callB call_isi (by rfl) T.isinstance (by decide +kernel) (pa_cons (pv 1) (pa_cons (pe_bltn (v := .ty "tuple") (by rfl) T.tuple (by decide +kernel) rfl) pa_nil))) (nomark _)) (pw_or1 (pt_cmpR op_ne (pe_callB call_len_seq (by rfl) T.len PySem.boot_len (pa_cons (pv 0) pa_nil)) (pe_callB call_len_seq (by rfl) T.len PySem.boot_len (pa_cons (pv 1) pa_nil)) (nomark _)))).pt (pss_one (ps_ret pe_bl)) pss_nil)
      (pss_one (ps_ret (pe_cmpR (op_eqD hr.units) (pe_lc (own := [("_law_k", 2)]) (g := gName 2) (by rfl) nd (pi_range1 rfl T.range (pa_cons (pe_callB call_len_seq (by rfl) T.len PySem.boot_len (pa_cons (pv 0) pa_nil)) pa_nil)) (blkOk_by (own := [("_law_k", 2)]) (N := nLa) (sc := defScope sLa) (by decide +kernel)) (fun _ _ _ _ _ => (pg_name (i := 2) nd rfl (Or.inl rfl))) (fun _ _ _ _ _ => (pts_one (pt_not (pt_val (pe_call C__law_alike.ok hr (by rfl) C__law_alike.g C__law_alike.kp C__law_alike.b .nil pass0 (pa_cons (pe_ix (r := rIx K) ix_seq (pv 0) (pv 2) (fun _ _ => rfl)) (pa_cons (pe_ix (r := rIx K) ix_seq (pv 1) (pv 2) (fun _ _ => rfl)) pa_nil))))))) (fun _ _ _ _ _ => (pv 2))) (pe_lst pa_nil) (nomark _))))) pss_nil)
      (pss_one (ps_ret (pe_and (pe_cmpR op_eq (pv 0) (pv 1) (nomark _)) (pe_one (pe_cmpR op_eq (pe_callB call_isi (by rfl) T.isinstance (by decide +kernel) (pa_cons (pv 0) (pa_cons (pe_bltn (v := .ty "bool") (by rfl) hbool (by decide +kernel) rfl) pa_nil))) (pe_callB call_isi (by rfl) T.isinstance (by decide +kernel) (pa_cons (pv 1) (pa_cons (pe_bltn (v := .ty "bool") (by rfl) hbool (by decide +kernel) rfl) pa_nil))) (nomark _))))))), ?_⟩
    dsimp only [cxK, cxKn, List.map]
    have hcase : (x = y ∧ FlatV x) ∨ ∃ d', d = d' + 1 ∧ ∃ a b xs ys, x = .ref a ∧ y = .ref b ∧ ((SqL K H a xs ∧ SqL K H b ys) ∨ (SqT K H a xs ∧ SqT K H b ys)) ∧ xs.length ≤ 30000 ∧ All2 (Alk K H d') xs ys := by
      cases d with
      | zero => exact .inl hxy
      | succ d => exact hxy.imp id fun h => ⟨d, rfl, h⟩
    rcases hcase with ⟨hxy, hf⟩ | ⟨d', rfl, a, b, xs, ys, rfl, rfl, hs, hz, hall⟩
    · subst hxy
      obtain ⟨t, ht, h3⟩ := ty_flat (K := K) (H := H) hf
      have htx : ∀ H1, Ex H H1 → TyX K H1 x (.type t) := fun H1 _ => by
        obtain ⟨t', ht', h3'⟩ := ty_flat (K := K) (H := H1) hf
        rcases hf with rfl | ⟨i, rfl⟩ | ⟨s, rfl⟩
        · cases ht with | base b => cases b; exact .base .non
        · cases ht with | base b => cases b; exact .base (.int _)
        · cases ht with | base b => cases b; exact .base (.str _)
      have hk : kitB t "tuple" = some false ∧ kitB t "list" = some false ∧ kitB t "bool" = some false := by
        rcases h3 with rfl | rfl | rfl <;> exact ⟨by decide +kernel, by decide +kernel, by decide +kernel⟩
      have hsc : scal x x = true := by rcases hf with rfl | ⟨i, rfl⟩ | ⟨s, rfl⟩ <;> rfl
      refine q_when (b := false) (et_and (a := false) (b := false) (et_B (ev_isiT (b1 := false) (b2 := false) (ev_var rfl) htx hk.1 hk.2.1)) fun z => by cases z) (fun z => by cases z) fun _ H1 e1 => ?_
      refine s_ret (v := .bl true) (ev_is (ev_andV (a := decide (x = x)) (b := decide (V.bl false = V.bl false)) (ev_op (ev_var rfl) (ev_var rfl) (rv_eq hsc)) fun _ => ev_op (ev_isi (b := false) (ev_var rfl) (fun H2 e2 => htx H2 (e1.trans e2)) hk.2.2) (ev_isi (b := false) (ev_var rfl) (fun H2 e2 => htx H2 (e1.trans e2)) hk.2.2) (rv_eq rfl)) (by simp)) fun H2 e2 => rtM (k H2 (e1.trans e2))
    · have hA : SqE K H a xs := hs.imp And.left And.left
      have hB : SqE K H b ys := hs.imp And.right And.right
      obtain ⟨t, ta, tb, ht⟩ := ty_sqE hs
      obtain ⟨b1, b2, k1, k2, k3⟩ : ∃ b1 b2, kitB t "tuple" = some b1 ∧ kitB t "list" = some b2 ∧ (b1 || b2) = true := by
        rcases ht with rfl | rfl
        · exact ⟨false, true, by decide +kernel, by decide +kernel, rfl⟩
        · exact ⟨true, false, by decide +kernel, by decide +kernel, rfl⟩
      refine q_when (b := true) (et_is (et_and (a := b1 || b2) (b := b1 || b2) (et_B (ev_isiT (ev_var rfl) ta k1 k2)) fun _ => et_B (ev_isiT (ev_var rfl) tb k1 k2)) (by rw [k3]; rfl)) (fun _ H1 e1 => ?_) (fun z => by cases z)
      refine q_when (b := false) (et_is (et_or (a := !decide (V.bl b1 = V.bl b1)) (b := !decide (V.int (xs.length : Int) = V.int (ys.length : Int))) (et_test (ev_op (ev_isi (ev_var rfl) (fun H2 e2 => ta H2 (e1.trans e2)) k1) (ev_isi (ev_var rfl) (fun H2 e2 => tb H2 (e1.trans e2)) k1) (rv_ne rfl)))
        fun _ => et_test (ev_op (ev_lenE (ev_var rfl) (hA.ex e1)) (ev_lenE (ev_var rfl) (hB.ex e1)) (rv_ne rfl))) (by rw [hall.1]; simp)) (fun z => by cases z) fun _ H2 e2 => ?_
      have e12 := e1.trans e2
      have hlc := el_lcR1 (j := 2) (vs := [2]) (σ := [some (.ref a), some (.ref b), none]) (H := H2) (t := tNot (tB (tCall (spLa K d') [] E0 (tCons (tOp (rIx K) (tVar 0) (tVar 2)) (tCons (tOp (rIx K) (tVar 1) (tVar 2)) tNil))))) (te := tVar 2) (ta := tCons (tCB (rLenS K) (tCons (tVar 0) tNil)) tNil) (n := (xs.length : Nat)) (fun i => false) (fun i => .int (i : Nat)) (ea_cons (ev_lenE (ev_var rfl) (hA.ex e12)) ea_nil) (by omega) (fun x => rfl) (fun i H3 e3 hi => ?_) (fun i H3 e3 hi hf => by cases hf)
      · have hg : given ((xs.length : Nat) : Int).toNat (fun _ => false) (fun i => V.int (i : Nat)) = [] := by
          unfold given
          rw [List.filter_eq_nil_iff.mpr (by simp)]; rfl
        rw [hg] at hlc
        refine s_ret (v := .bl true) (ev_opLL hlc (el_lst ea_nil (by simp)) fun p q H3 hp hq e3 H4 e4 Q' q' => ⟨.list [], .list [], .lst (sq_of (e4 _ _ hp)) .nil, .lst (sq_of (e4 _ _ hq)) .nil, by decide +kernel, by decide +kernel, ?_⟩) fun H3 e3 => rtM (k H3 (e12.trans e3))
        exact q' H4 (Ex.refl H4)
      · have hix : i < xs.length := by omega
        have hiy : i < ys.length := by rw [← hall.1]; exact hix
        have hxy := hall.2 i _ _ (List.getElem?_eq_getElem hix) (List.getElem?_eq_getElem hiy)
        exact et_is (et_not (et_B (ev_call (z := .bl true) (ea_cons (ev_ixE (ev_var rfl) (ev_var rfl) (hA.ex (e12.trans e3)) (List.getElem?_eq_getElem hix)) (ea_cons (ev_ixE (ev_var rfl) (ev_var rfl) (hB.ex (e12.trans e3)) (List.getElem?_eq_getElem hiy)) ea_nil)) fun H5 e5 Q' q' E' => ⟨_, _, rfl, hxy.ex (e12.trans (e3.trans e5)), fun H6 e6 => q' H6 e6⟩))) rfl
/-- at every depth -/
theorem ok_La {f : Addr} {fd : FuncData} (F : Fun K "_law_alike" "_law_alike" sLa f fd) (T : Txt K mg o1 o2 o3 o4 o5) (hbool : mg "bool" = none) (hg : mg "_law_alike" = some (.ref f)) (kp : PySem.W.keepIn K (.ref f) = true) (b : Binds K fd ["_law_one", "_law_other"] []) : ∀ d, FnOk P w K mg base CX0 (d + 1) f fd ["_law_one", "_law_other"] (spLb K d)
  | 0 => F.ok scLa (fun vs H Q E h => nomatch h) (fun cdv A outer s H vs Q E hr h => nomatch h)
  | d + 1 => ok_La1 F T hbool ⟨ok_La F T hbool hg kp b d, hg, kp, b⟩
end
end K51

/-! Walks 18: the law's taken; the generator's state. -/
namespace K51
open PySem L2 Evl
theorem But.trans {d : Addr} {H H1 H2 : Hp} (a : But d H H1) (b : But d H1 H2) : But d H H2 := fun x o h hne => b x o (a x o h hne) hne
theorem But.of {d : Addr} {H H1 : Hp} (e : Ex H H1) : But d H H1 := fun x o h _ => e x o h
theorem But.put {d : Addr} {H H1 : Hp} {o : HO} (e : But d H H1) : But d H (L2.upd H1 d o) := fun x u h hne => by rw [upd_ne hne]; exact e x u h hne
theorem q_setL2 {σ : L2.St} {H : Hp} {ta tb te : TE} {v : V} {D : Ends} {tz : TS} {l : Addr} {xs ys : List V} {j : Nat} (hl : H l = some (.lst xs)) (h : Ev te σ H v) (ho : Ev ta σ H (.ref l)) (hi : Ev tb σ H (.int (j : Int))) (hj : j < xs.length) (hy : xs.set j v = ys) (k : ∀ H1, Ex H H1 → tz D σ (upd H1 l (.lst ys))) :
    tSeq (tAsg te (gSub ta tb rSetL)) tz D σ H := q_setL hl h ho hi hj fun H1 e => by rw [hy]; exact k H1 e
/-- the script, and where it is -/
structure LrAt (K : PySem.W.Frag) (HB H : Hp) (lr sc : Addr) (xs : List Int) : Prop where
  fr : HB lr = none
  ex : Ex HB H
  scr : SqL K HB sc (xs.map V.int)
  at' : ∃ p m q : Int, H lr = some (.lst [.ref sc, .int p, .int m, .int q]) ∧ 0 ≤ p ∧ 0 ≤ m ∧ m < 2147483647 ∧ 0 ≤ q
theorem LrAt.mono {K : PySem.W.Frag} {HB H H' : Hp} {lr sc : Addr} {xs : List Int} (h : LrAt K HB H lr sc xs) (e : Ex H H') : LrAt K HB H' lr sc xs :=
  let ⟨p, m, q, h1, h2⟩ := h.at'
  ⟨h.fr, h.ex.trans e, h.scr, p, m, q, e _ _ h1, h2⟩
theorem LrAt.but {K : PySem.W.Frag} {HB H H' : Hp} {lr sc : Addr} {xs : List Int} (h : LrAt K HB H lr sc xs) (e : But lr H H') {p m q : Int} (h1 : H' lr = some (.lst [.ref sc, .int p, .int m, .int q])) (h2 : 0 ≤ p ∧ 0 ≤ m ∧ m < 2147483647 ∧ 0 ≤ q) : LrAt K HB H' lr sc xs :=
  ⟨h.fr, fun b o hb => e b o (h.ex b o hb) (fun z => by rw [z, h.fr] at hb; cases hb), h.scr, p, m, q, h1, h2⟩
section
variable {P : Program} {w : World} {K : PySem.W.Frag} {mg : Str → Option Value} {base : Heap} {o1 o2 o3 o4 o5 : Addr}
abbrev sLt : Stmt := top 33
abbrev nLt : List Str := ["_law_row", "_law_many", "_law_found", "_law_cell"]
theorem scLt : FnScope nLt ["_law_row", "_law_many"] (defScope sLt) := ⟨rfl, rfl, rfl, by decide +kernel, rfl, by decide +kernel, by decide +kernel⟩
def spLt (K0 : PySem.W.Frag) : Sp := fun vs H Q _ => ∃ HB lr sc xs, ∃ n : Int, vs = [.ref lr, .int n] ∧ LrAt K0 HB H lr sc xs ∧ xs.length ≤ 100 ∧ 1 ≤ n ∧ n ≤ 1000000 ∧ ∀ H' r, But lr H H' → LrAt K0 HB H' lr sc xs → 0 ≤ r → r < n → Q (.int r) H'
theorem ok_Lt {f : Addr} {fd : FuncData} (F : Fun K "_law_taken" "_law_taken" sLt f fd) (T : Txt K mg o1 o2 o3 o4 o5) : FnOk P w K mg base CX0 1 f fd ["_law_row", "_law_many"] (spLt K) := by
  refine F.ok scLt (fun vs H Q E h => ?_) (fun cdv A outer s H vs Q E hr h => ?_)
  · obtain ⟨HB, lr, sc, xs, n, rfl, _⟩ := h; rfl
  · obtain ⟨HB, lr, sc, xs, n, rfl, hl, hxz, hn1, hn2, k⟩ := h
    have nd := scLt.nd
    have hu := hu_of hr
    refine ⟨_, (pss_cons (ps_if (pt_cmpR op_gt (pe_ix ix_list (pv 0) pe_int (fun _ _ => rfl)) pe_int (nomark _)) (pss_cons (ps_set (i := 2) nd rfl (Or.inl rfl) (pe_op op_mod (pe_ix ix_list (pv 0) pe_int (fun _ _ => rfl)) (pv 1)))
      (pss_cons (ps_asg (pe_op op_fdivS (pe_ix ix_list (pv 0) pe_int (fun _ _ => rfl)) (pv 1)) (pg_sub (pv 0) pe_int set_list))
      (pss_one (ps_ret (pv 2))))) pss_nil)
      (pss_cons (ps_asg (pe_op op_add (pe_ix ix_list (pv 0) pe_int (fun _ _ => rfl)) pe_int) (pg_sub (pv 0) pe_int set_list))
      (pss_cons (ps_if (pt_cmpR op_gt (pe_ix ix_list (pv 0) pe_int (fun _ _ => rfl)) (pe_callB call_len_seq (by rfl) T.len PySem.boot_len (pa_cons (pe_ix ix_list (pv 0) pe_int (fun _ _ => rfl)) pa_nil)) (nomark _)) (pss_cons (ps_asg (pe_op op_mod (pe_op op_add (pe_op op_mul (pe_ix ix_list (pv 0) pe_int (fun _ _ => rfl)) pe_int) pe_int) pe_int) (pg_sub (pv 0) pe_int set_list))
      (pss_one (ps_ret (pe_op op_mod (pe_op op_fdivS (pe_ix ix_list (pv 0) pe_int (fun _ _ => rfl)) pe_int) (pv 1))))) pss_nil)
      (pss_cons (ps_set (i := 3) nd rfl (Or.inl rfl) (pe_ix ix_list (pe_ix ix_list (pv 0) pe_int (fun _ _ => rfl)) (pe_op op_sub (pe_ix ix_list (pv 0) pe_int (fun _ _ => rfl)) pe_int) (fun _ _ => rfl)))
      (pss_cons (ps_asg (pe_op op_mod (pe_op op_add (pe_op op_add (pe_op op_mul (pe_ix ix_list (pv 0) pe_int (fun _ _ => rfl)) pe_int) (pv 3)) pe_int) pe_int) (pg_sub (pv 0) pe_int set_list))
      (pss_cons (ps_if (pt_cmpR op_ge (pv 3) (pe_op op_pow pe_int pe_int) (nomark _)) (pss_one (ps_asg (pe_op op_fdivS (pv 3) (pv 1)) (pg_sub (pv 0) pe_int set_list))) pss_nil)
      (pss_one (ps_ret (pe_op op_mod (pv 3) (pv 1)))))))))), ?_⟩
    dsimp only [cxK, cxKn, List.map]
    obtain ⟨p, m, q, h0, hp, hm0, hm1, hq⟩ := hl.at'
    have ix : ∀ {H1 : Hp} {s : L2.St} {ys : List V} {j : Nat} {v : V}, H1 lr = some (.lst ys) → ys[j]? = some v → Ev (tOp (rIxL K) (tVar 0) (tC (.int (j : Int)))) (some (.ref lr) :: s) H1 v := fun h hv => ev_op (ev_var rfl) ev_c (rv_ixL (sq_of h) (atI_nat hv))
    have hn0 : (n : Int) ≠ 0 ∧ n.natAbs.log2 < 9000 := ⟨by omega, log2_small (by unfold Small big; omega)⟩
    have modb : ∀ a : Int, 0 ≤ a % n ∧ a % n < n := fun a => ⟨Int.emod_nonneg _ hn0.1, Int.emod_lt_of_pos _ (by omega)⟩
    refine q_when (b := decide (q > 0)) (et_test (ev_op (ix (j := 3) h0 rfl) ev_c rv_I0)) (fun hb H1 e1 => ?_) (fun hb H1 e1 => ?_)
    · refine q_asg (ev_op (ix (j := 3) (e1 _ _ h0) rfl) (ev_var rfl) (rv_I (by omega))) fun H2 e2 => ?_
      have e12 := e1.trans e2
      refine q_setL (j := 3) (e12 _ _ h0) (ev_op (ix (j := 3) (e12 _ _ h0) rfl) (ev_var rfl) (rv_I hn0)) (ev_var rfl) ev_c (by simp) fun H3 e3 => ?_
      refine s_ret (ev_var rfl) fun H4 e4 => rtM (k H4 _ ((But.put (But.of (e12.trans e3))).trans (But.of e4)) (hl.but ((But.put (But.of (e12.trans e3))).trans (But.of e4)) (e4 _ _ upd_same) ⟨hp, hm0, hm1, ?_⟩) (modb q).1 (modb q).2)
      exact Int.fdiv_nonneg hq (by omega)
    · refine q_setL2 (ys := [.ref sc, .int (p + 1), .int m, .int q]) (j := 1) (e1 _ _ h0) (ev_op (ix (j := 1) (e1 _ _ h0) rfl) ev_c rv_I0) (ev_var rfl) ev_c (by simp) rfl fun H2 e2 => ?_
      have b2 : But lr H (upd H2 lr (.lst [.ref sc, .int (p + 1), .int m, .int q])) := But.put (But.of (e1.trans e2))
      have l2 : LrAt K HB (upd H2 lr (.lst [.ref sc, .int (p + 1), .int m, .int q])) lr sc xs := hl.but b2 upd_same ⟨by omega, hm0, hm1, hq⟩
      have h2 : (upd H2 lr (.lst [.ref sc, .int (p + 1), .int m, .int q])) lr = some (.lst [.ref sc, .int (p + 1), .int m, .int q]) := upd_same
      generalize upd H2 lr (.lst [.ref sc, .int (p + 1), .int m, .int q]) = H3 at b2 l2 h2
      have hs3 : ∀ {H4 : Hp}, Ex H3 H4 → SqL K H4 sc (xs.map V.int) := fun e => ex_l (l2.ex.trans e) hl.scr
      have hlen : Ev (tCB (rLenS K) (tCons (tOp (rIxL K) (tVar 0) (tC (.int 0))) tNil)) [some (.ref lr), some (.int n), none, none] H3 (.int (xs.length : Int)) := by
        have := ev_len (K := K) (σ := [some (.ref lr), some (.int n), none, none]) (H := H3) (ta := tOp (rIxL K) (tVar 0) (tC (.int 0))) (ix (j := 0) h2 rfl) (hs3 (Ex.refl _))
        rw [List.length_map] at this; exact this
      have cm : ∀ z : Int, CMul z 48271 := fun z => .inr (by decide)
      have mb : ∀ a : Int, 0 ≤ a % 2147483647 ∧ a % 2147483647 < 2147483647 := fun a => ⟨Int.emod_nonneg _ (by decide), Int.emod_lt_of_pos _ (by decide)⟩
      refine q_when (b := decide (p + 1 > (xs.length : Int))) (et_test (ev_op (ix (j := 1) h2 rfl) hlen rv_I0)) (fun hb4 H4 e4 => ?_) (fun hb4 H4 e4 => ?_)
      · refine q_setL (j := 2) (e4 _ _ h2) (ev_op (ev_op (ev_op (ix (j := 2) (e4 _ _ h2) rfl) ev_c (rv_I (cm m))) ev_c rv_I0) ev_c (rv_I (by decide))) (ev_var rfl) ev_c (by simp) fun H5 e5 => ?_
        refine s_ret (ev_op (ev_op (ix (j := 2) upd_same rfl) ev_c (rv_I ⟨by decide, by decide⟩)) (ev_var rfl) (rv_I (by omega))) fun H6 e6 => rtM (k H6 _ ((b2.trans (But.put (But.of (e4.trans e5)))).trans (But.of e6)) (l2.but ((But.put (But.of (e4.trans e5))).trans (But.of e6)) (e6 _ _ upd_same) ⟨by omega, (mb _).1, (mb _).2, hq⟩) (modb _).1 (modb _).2)
      · have hp4 : p + 1 ≤ (xs.length : Int) := by have := of_decide_eq_false hb4; omega
        obtain ⟨c, hc⟩ : ∃ c, xs[p.toNat]? = some c := ⟨_, List.getElem?_eq_getElem (by omega)⟩
        have hcell : Ev (tOp (rIxL K) (tOp (rIxL K) (tVar 0) (tC (.int 0))) (tOp (rI0 fun i j => V.int (i - j)) (tOp (rIxL K) (tVar 0) (tC (.int 1))) (tC (.int 1)))) [some (.ref lr), some (.int n), none, none] H4 (.int c) :=
          ev_op (ix (j := 0) (e4 _ _ h2) rfl) (ev_op (ix (j := 1) (e4 _ _ h2) rfl) ev_c rv_I0) (rv_ixL (hs3 e4) (by
            rw [show p + 1 - 1 = ((p.toNat : Nat) : Int) by omega]
            exact atI_nat (by rw [List.getElem?_map, hc]; rfl)))
        refine q_asg hcell fun H5 e5 => ?_
        have h5 := (e4.trans e5) _ _ h2
        refine q_setL2 (ys := [.ref sc, .int (p + 1), .int ((m * 48271 + c + 11) % 2147483647), .int q]) (j := 2) h5 (ev_op (ev_op (ev_op (ev_op (ix (j := 2) h5 rfl) ev_c (rv_I (cm m))) (ev_var rfl) rv_I0) ev_c rv_I0) ev_c (rv_I (by decide))) (ev_var rfl) ev_c (by simp) rfl fun H6 e6 => ?_
        have b6 : But lr H (upd H6 lr (.lst [.ref sc, .int (p + 1), .int ((m * 48271 + c + 11) % 2147483647), .int q])) := b2.trans (But.put (But.of ((e4.trans e5).trans e6)))
        have l6 : LrAt K HB (upd H6 lr (.lst [.ref sc, .int (p + 1), .int ((m * 48271 + c + 11) % 2147483647), .int q])) lr sc xs := hl.but b6 upd_same ⟨by omega, (mb _).1, (mb _).2, hq⟩
        have h6 : (upd H6 lr (.lst [.ref sc, .int (p + 1), .int ((m * 48271 + c + 11) % 2147483647), .int q])) lr = some (.lst [.ref sc, .int (p + 1), .int ((m * 48271 + c + 11) % 2147483647), .int q]) := upd_same
        have hm6 := mb (m * 48271 + c + 11)
        generalize upd H6 lr (.lst [.ref sc, .int (p + 1), .int ((m * 48271 + c + 11) % 2147483647), .int q]) = H7 at b6 l6 h6
        generalize (m * 48271 + c + 11) % 2147483647 = m2 at h6 hm6
        have hpow : Ev (tOp (rI CPow fun i j => .int (i ^ j.toNat)) (tC (.int 10)) (tC (.int 18))) [some (.ref lr), some (.int n), none, some (.int c)] H7 (.int (10 ^ 18)) := ev_op ev_c ev_c (rv_I (by unfold CPow; decide))
        refine q_whenK (b := decide ((10 : Int) ^ 18 ≤ c)) (fun H8 => But lr H H8 ∧ LrAt K HB H8 lr sc xs) (et_test (ev_op (ev_var rfl) hpow rv_I0)) (fun H8 m8 => ?_) (fun hc8 H8 e8 kk => ?_) (fun hc8 H8 e8 => ⟨b6.trans (But.of e8), l6.mono e8⟩)
        · exact s_ret (ev_op (ev_var rfl) (ev_var rfl) (rv_I (by omega))) fun H9 e9 => rtM (k H9 _ (m8.1.trans (But.of e9)) (m8.2.mono e9) (modb c).1 (modb c).2)
        · refine s_setL (j := 3) (e8 _ _ h6) (ev_op (ev_var rfl) (ev_var rfl) (rv_I hn0)) (ev_var rfl) ev_c (by simp) fun H9 e9 => nxM (kk _ ?_)
          have hc0 : (0 : Int) ≤ c := by have := of_decide_eq_true hc8; omega
          exact ⟨b6.trans (But.put (But.of (e8.trans e9))), l6.but (But.put (But.of (e8.trans e9))) upd_same ⟨by omega, hm6.1, hm6.2, Int.fdiv_nonneg hc0 (by omega)⟩⟩
end
end K51

/-! Walks 19: the generator's state; operand, fresh, place, lays. -/
namespace K51
open PySem L2 Evl
def sD (ra : Addr) (line labels next : Int) (da na : Addr) : List (Key × V) :=
  [(Sum.inr "rows", .ref ra), (Sum.inr "line", .int line), (Sum.inr "labels", .int labels), (Sum.inr "next", .int next), (Sum.inr "laid", .ref da), (Sum.inr "named", .ref na)]
section
variable {ra ra' da da' na : Addr} {line labels next v : Int}
theorem sD_rows : valV (sD ra line labels next da na) (Sum.inr "rows") = some (.ref ra) := by kernel_rfl
theorem sD_line : valV (sD ra line labels next da na) (Sum.inr "line") = some (.int line) := by kernel_rfl
theorem sD_labels : valV (sD ra line labels next da na) (Sum.inr "labels") = some (.int labels) := by kernel_rfl
theorem sD_next : valV (sD ra line labels next da na) (Sum.inr "next") = some (.int next) := by kernel_rfl
theorem sD_laid : valV (sD ra line labels next da na) (Sum.inr "laid") = some (.ref da) := by kernel_rfl
theorem sD_named : valV (sD ra line labels next da na) (Sum.inr "named") = some (.ref na) := by kernel_rfl
theorem put_rows : putK (sD ra line labels next da na) (Sum.inr "rows") (.ref ra') = sD ra' line labels next da na := by
  unfold putK
  rw [valV_any, sD_rows]
  kernel_rfl
theorem put_line : putK (sD ra line labels next da na) (Sum.inr "line") (.int v) = sD ra v labels next da na := by
  unfold putK
  rw [valV_any, sD_line]
  kernel_rfl
theorem put_labels : putK (sD ra line labels next da na) (Sum.inr "labels") (.int v) = sD ra line v next da na := by
  unfold putK
  rw [valV_any, sD_labels]
  kernel_rfl
theorem put_next : putK (sD ra line labels next da na) (Sum.inr "next") (.int v) = sD ra line labels v da na := by
  unfold putK
  rw [valV_any, sD_next]
  kernel_rfl
theorem put_laid : putK (sD ra line labels next da na) (Sum.inr "laid") (.ref da') = sD ra line labels next da' na := by
  unfold putK
  rw [valV_any, sD_laid]
  kernel_rfl
end
/-! ### the state -/
structure GM where
  rows : List Row
  line : Int
  labels : Int
  next : Int
  laid : List Int
  named : List Int
structure GS (K : PySem.W.Frag) (HB H : Hp) (lr sc : Addr) (xs : List Int) (sd ra da na : Addr) (g : GM) : Prop where
  l : LrAt K HB H lr sc xs
  xz : xs.length ≤ 100
  fs : HB sd = none
  fr : HB ra = none
  fd : HB da = none
  n1 : lr ≠ ra
  n2 : lr ≠ da
  n3 : ra ≠ da
  n4 : na ≠ lr
  n5 : na ≠ ra
  n6 : na ≠ da
  atS : H sd = some (.dK (sD ra g.line g.labels g.next da na))
  atR : ∃ as : List Addr, H ra = some (.lst (as.map V.ref)) ∧ All2 (RowAt H) as g.rows
  atL : H da = some (.lst (g.laid.map V.int))
  atN : H na = some (.lst (g.named.map V.int))
  zl : g.laid.length ≤ g.rows.length + 10
abbrev Fr (H : Hp) (lr sd ra da : Addr) (H' : Hp) (ra' da' : Addr) : Prop := Ex (hide H lr sd ra da) (hide H' lr sd ra' da')
section
variable {K : PySem.W.Frag} {HB H H' : Hp} {lr sc : Addr} {xs : List Int} {sd ra da na ra' da' : Addr} {g : GM}
theorem GS.lrs (h : GS K HB H lr sc xs sd ra da na g) : lr ≠ sd ∧ ra ≠ sd ∧ da ≠ sd ∧ na ≠ sd := by
  obtain ⟨p, m, q, h1, _⟩ := h.l.at'
  obtain ⟨as, h2, _⟩ := h.atR
  refine ⟨fun z => ?_, fun z => ?_, fun z => ?_, fun z => ?_⟩
  · rw [z, h.atS] at h1; cases h1
  · rw [z, h.atS] at h2; cases h2
  · have := h.atL; rw [z, h.atS] at this; cases this
  · have := h.atN; rw [z, h.atS] at this; cases this
theorem GS.mono (h : GS K HB H lr sc xs sd ra da na g) (e : Ex H H') : GS K HB H' lr sc xs sd ra da na g :=
  let ⟨as, h1, h2⟩ := h.atR
  { h with l := h.l.mono e, atS := e _ _ h.atS, atR := ⟨as, e _ _ h1, h2.imp fun _ _ => RowAt.mono (tl_ex e)⟩, atL := e _ _ h.atL, atN := e _ _ h.atN }
theorem GS.tk (h : GS K HB H lr sc xs sd ra da na g) (b : But lr H H') (l : LrAt K HB H' lr sc xs) : GS K HB H' lr sc xs sd ra da na g :=
  let ⟨as, h1, h2⟩ := h.atR
  let ⟨_, _, _, hp, _⟩ := h.l.at'
  { h with l := l, atS := b _ _ h.atS (Ne.symm h.lrs.1), atR := ⟨as, b _ _ h1 (Ne.symm h.n1), h2.imp fun _ _ => RowAt.mono fun x xs hx => b _ _ hx fun z => by rw [z, hp] at hx; cases hx⟩, atL := b _ _ h.atL (Ne.symm h.n2), atN := b _ _ h.atN h.n4 }
theorem fr_but (b : But lr H H') : Fr H lr sd ra da H' ra da := fun x o hx => by
  unfold hide at hx ⊢; split at hx
  · cases hx
  · rename_i hn; rw [if_neg hn]; exact b x o hx fun z => hn (.inl z)
theorem fr_ex (e : Ex H H') : Fr H lr sd ra da H' ra da := hide_ex e
theorem Fr.refl : Fr H lr sd ra da H ra da := fun _ _ h => h
/-- an object that is none of the four stays -/
theorem Fr.at {b : Addr} {o : HO} (f : Fr H lr sd ra da H' ra' da') (h : H b = some o) (h1 : b ≠ lr) (h2 : b ≠ sd) (h3 : b ≠ ra) (h4 : b ≠ da) : H' b = some o := hide_sub _ _ (f _ _ (hide_at h h1 h2 h3 h4))
theorem GS.ne_tup (h : GS K HB H lr sc xs sd ra da na g) {b : Addr} {ys : List V} (hb : H b = some (.tup ys)) : b ≠ lr ∧ b ≠ sd ∧ b ≠ ra ∧ b ≠ da := by
  obtain ⟨p, m, q, h1, _⟩ := h.l.at'
  obtain ⟨as, h2, _⟩ := h.atR
  refine ⟨fun z => ?_, fun z => ?_, fun z => ?_, fun z => ?_⟩
  · rw [z, h1] at hb; cases hb
  · rw [z, h.atS] at hb; cases hb
  · rw [z, h2] at hb; cases hb
  · rw [z, h.atL] at hb; cases hb
theorem GS.tl (h : GS K HB H lr sc xs sd ra da na g) (f : Fr H lr sd ra da H' ra' da') : TL H H' := fun b ys hb =>
  let ⟨h1, h2, h3, h4⟩ := h.ne_tup hb
  f.at hb h1 h2 h3 h4
theorem GS.setS (h : GS K HB H lr sc xs sd ra da na g) {line labels next : Int} : GS K HB (upd H sd (.dK (sD ra line labels next da na))) lr sc xs sd ra da na { g with line := line, labels := labels, next := next } :=
  let ⟨as, h1, h2⟩ := h.atR
  let ⟨p, m, q, hp, hq⟩ := h.l.at'
  let ⟨n1, n2, n3, n4⟩ := h.lrs
  { h with
    l := ⟨h.l.fr, Ex.mut h.l.ex h.fs, h.l.scr, p, m, q, by rw [upd_ne n1]; exact hp, hq⟩
    atS := upd_same
    atR := ⟨as, by rw [upd_ne n2]; exact h1, h2.imp fun _ _ => RowAt.mono (TL.mut h.atS fun _ z => by cases z)⟩
    atL := by rw [upd_ne n3]; exact h.atL
    atN := by rw [upd_ne n4]; exact h.atN }
theorem fr_sd {o : HO} : Fr H lr sd ra da (upd H sd o) ra da := hide_upd (.inr (.inl rfl))
theorem GS.addR (h : GS K HB H lr sc xs sd ra da na g) {as : List Addr} {t : Addr} {r : Row} (ha : H ra = some (.lst (as.map V.ref))) (ht : RowAt H t r) : GS K HB (upd H ra (.lst (as.map V.ref ++ [.ref t]))) lr sc xs sd ra da na { g with rows := g.rows ++ [r] } := by
  obtain ⟨bs, h1, h2⟩ := h.atR
  obtain ⟨p, m, q, hp, hq⟩ := h.l.at'
  obtain ⟨n1, n2, n3, n4⟩ := h.lrs
  have e : bs = as := by
    rw [h1] at ha
    exact ((List.map_inj_right (fun _ _ z => V.ref.inj z)).mp (HO.lst.inj (Option.some.inj ha)))
  subst e
  have tl : TL H (upd H ra (.lst (bs.map V.ref ++ [.ref t]))) := TL.mut h1 fun _ z => by cases z
  exact { h with
    l := ⟨h.l.fr, Ex.mut h.l.ex h.fr, h.l.scr, p, m, q, by rw [upd_ne h.n1]; exact hp, hq⟩
    atS := by rw [upd_ne (Ne.symm n2)]; exact h.atS
    atR := ⟨bs ++ [t], by rw [upd_same]; simp, All2.snoc (h2.imp fun _ _ => RowAt.mono tl) (ht.mono tl)⟩
    atL := by rw [upd_ne (Ne.symm h.n3)]; exact h.atL
    atN := by rw [upd_ne h.n5]; exact h.atN
    zl := by have := h.zl; simp; omega }
theorem fr_ra {o : HO} : Fr H lr sd ra da (upd H ra o) ra da := hide_upd (.inr (.inr (.inl rfl)))
theorem GS.addL (h : GS K HB H lr sc xs sd ra da na g) {c : Int} (hz : g.laid.length < g.rows.length + 10) : GS K HB (upd H da (.lst (g.laid.map V.int ++ [.int c]))) lr sc xs sd ra da na { g with laid := g.laid ++ [c] } := by
  obtain ⟨as, h1, h2⟩ := h.atR
  obtain ⟨p, m, q, hp, hq⟩ := h.l.at'
  obtain ⟨n1, n2, n3, n4⟩ := h.lrs
  have tl : TL H (upd H da (.lst (g.laid.map V.int ++ [.int c]))) := TL.mut h.atL fun _ z => by cases z
  exact { h with
    l := ⟨h.l.fr, Ex.mut h.l.ex h.fd, h.l.scr, p, m, q, by rw [upd_ne h.n2]; exact hp, hq⟩
    atS := by rw [upd_ne (Ne.symm n3)]; exact h.atS
    atR := ⟨as, by rw [upd_ne h.n3]; exact h1, h2.imp fun _ _ => RowAt.mono tl⟩
    atL := by rw [upd_same]; simp
    atN := by rw [upd_ne h.n6]; exact h.atN
    zl := by simp; omega }
theorem fr_da {o : HO} : Fr H lr sd ra da (upd H da o) ra da := hide_upd (.inr (.inr (.inr rfl)))
end
section
variable {K : PySem.W.Frag} {HB H H' : Hp} {lr sc : Addr} {xs : List Int} {sd ra da na : Addr} {g : GM} {σ : L2.St} {Q : VK} {E : XK} {tr : TA} {td : TE}
theorem r_tk {n : Int} (ha : EvA tr σ H [.ref lr, .int n]) (l : LrAt K HB H lr sc xs) (hx : xs.length ≤ 100) (hn : 1 ≤ n ∧ n ≤ 1000000) (k : ∀ H' r, But lr H H' → LrAt K HB H' lr sc xs → 0 ≤ r → r < n → Q (.int r) H') : tCall (spLt K) [] E tr σ H Q :=
  r_call (r_ea ha fun H1 e1 => ⟨HB, lr, sc, xs, n, rfl, l.mono e1, hx, hn.1, hn.2, fun H' r hb hl h0 h1 => k H' r ((But.of e1).trans hb) hl h0 h1⟩)
theorem r_tg {n : Int} (ha : EvA tr σ H [.ref lr, .int n]) (s : GS K HB H lr sc xs sd ra da na g) (hn : 1 ≤ n ∧ n ≤ 1000000) (k : ∀ H' r, GS K HB H' lr sc xs sd ra da na g → Fr H lr sd ra da H' ra da → 0 ≤ r → r < n → Q (.int r) H') : tCall (spLt K) [] E tr σ H Q :=
  r_tk ha s.l s.xz hn fun H' r hb hl h0 h1 => k H' r (s.tk hb hl) (fr_but hb) h0 h1
theorem GS.evR (s : GS K HB H lr sc xs sd ra da na g) (h : Ev td σ H (.ref sd)) : Ev (tDGet td (tC (.str "rows"))) σ H (.ref ra) := ev_dget (k := Sum.inr "rows") s.atS h ev_c sD_rows
theorem GS.evLine (s : GS K HB H lr sc xs sd ra da na g) (h : Ev td σ H (.ref sd)) : Ev (tDGet td (tC (.str "line"))) σ H (.int g.line) := ev_dget (k := Sum.inr "line") s.atS h ev_c sD_line
theorem GS.evLabels (s : GS K HB H lr sc xs sd ra da na g) (h : Ev td σ H (.ref sd)) : Ev (tDGet td (tC (.str "labels"))) σ H (.int g.labels) := ev_dget (k := Sum.inr "labels") s.atS h ev_c sD_labels
theorem GS.evNext (s : GS K HB H lr sc xs sd ra da na g) (h : Ev td σ H (.ref sd)) : Ev (tDGet td (tC (.str "next"))) σ H (.int g.next) := ev_dget (k := Sum.inr "next") s.atS h ev_c sD_next
theorem GS.evL (s : GS K HB H lr sc xs sd ra da na g) (h : Ev td σ H (.ref sd)) : Ev (tDGet td (tC (.str "laid"))) σ H (.ref da) := ev_dget (k := Sum.inr "laid") s.atS h ev_c sD_laid
theorem GS.evN (s : GS K HB H lr sc xs sd ra da na g) (h : Ev td σ H (.ref sd)) : Ev (tDGet td (tC (.str "named"))) σ H (.ref na) := ev_dget (k := Sum.inr "named") s.atS h ev_c sD_named
/-- behind a number: is it c? -/
theorem k_eq {r c : Int} {R : Bool → Hp → Prop} (h : R (decide (r = c)) H) : (tC (.int c) : TE) σ H fun y H2 => rEq (.int r) y H2 fun z H3 => ∃ b, z = .bl b ∧ R b H3 := by
  have : decide (V.int r = V.int c) = decide (r = c) := by by_cases h : r = c <;> simp [h]
  exact ⟨rfl, _, rfl, by rw [this]; exact h⟩
end
section
variable {P : Program} {w : World} {K : PySem.W.Frag} {mg : Str → Option Value} {base : Heap} {o1 o2 o3 o4 o5 : Addr}
abbrev TkAt (P : Program) (w : World) (K : PySem.W.Frag) (mg : Str → Option Value) (base : Heap) (f : Addr) (fd : FuncData) : Prop := CalAt P w K mg base 1 "_law_taken" ["_law_row", "_law_many"] (spLt K) f fd
abbrev sLop : Stmt := top 35
abbrev nLop : List Str := ["_law_row", "_law_s", "_law_some"]
theorem scLop : FnScope nLop ["_law_row", "_law_s"] (defScope sLop) := ⟨rfl, rfl, rfl, by decide +kernel, rfl, by decide +kernel, by decide +kernel⟩
def spLop (K0 : PySem.W.Frag) : Sp := fun vs H Q _ => ∃ HB lr sc xs sd ra da na g, vs = [.ref lr, .ref sd] ∧ GS K0 HB H lr sc xs sd ra da na g ∧ g.laid ≠ [] ∧ g.rows.length ≤ 1000 ∧ ∀ H' x, GS K0 HB H' lr sc xs sd ra da na g → Fr H lr sd ra da H' ra da → x ∈ g.laid → Q (.int x) H'
theorem ok_Lop {f f1 : Addr} {fd d1 : FuncData} (F : Fun K "_law_operand" "_law_operand" sLop f fd) (T : Txt K mg o1 o2 o3 o4 o5) (C__law_taken : TkAt P w K mg base f1 d1) : FnOk P w K mg base CX0 2 f fd ["_law_row", "_law_s"] (spLop K) := by
  refine F.ok scLop (fun vs H Q E h => ?_) (fun cdv A outer s H vs Q E hr h => ?_)
  · obtain ⟨HB, lr, sc, xs, sd, ra, da, na, g, rfl, _⟩ := h; rfl
  · obtain ⟨HB, lr, sc, xs, sd, ra, da, na, g, rfl, gs, hne, hz, k⟩ := h
    have nd := scLop.nd
    have hu := hu_of hr
    refine ⟨_, (pss_cons (ps_set (i := 2) nd rfl (Or.inl rfl) (pe_dget hu (pv 1) pe_str (fun _ _ => rfl)))
      (pss_one (ps_ret (pe_ifExp (pt_cmpR op_eq (pe_call C__law_taken.ok (hr.mono (by decide)) (by rfl) C__law_taken.g C__law_taken.kp C__law_taken.b .nil pass0 (pa_cons (pv 0) (pa_cons pe_int pa_nil))) pe_int (nomark _)) (pe_ix ix_list (pv 2) (pe_un un_neg pe_int) (fun _ _ => rfl)) (pe_ix ix_list (pv 2) (pe_call C__law_taken.ok (hr.mono (by decide)) (by rfl) C__law_taken.g C__law_taken.kp C__law_taken.b .nil pass0 (pa_cons (pv 0) (pa_cons (pe_callB call_len_seq (by rfl) T.len PySem.boot_len (pa_cons (pv 2) pa_nil)) pa_nil))) (fun _ _ => rfl)))))), ?_⟩
    dsimp only [cxK, cxKn, List.map]
    refine q_asg (gs.evL (ev_var rfl)) fun H1 e1 => ?_
    have g1 := gs.mono e1
    refine s_retR (r_tg (n := 2) (ea_cons (ev_var rfl) (ea_cons ev_c ea_nil)) g1 (by omega) fun H2 r g2 f2 h0 h1 => k_eq ?_)
    have fin : ∀ {H3 H4 : Hp} {i : Nat} {x : Int}, GS K HB H3 lr sc xs sd ra da na g → Fr H2 lr sd ra da H3 ra da → Ex H3 H4 → g.laid[i]? = some x → Q (.int x) H4 := fun g3 f3 e4 hi => k _ _ (g3.mono e4) ((fr_ex e1).trans (f2.trans (f3.trans (fr_ex e4)))) (List.mem_of_getElem? hi)
    by_cases hr0 : r = 0
    · rw [decide_eq_true hr0]
      obtain ⟨ys, y, hy⟩ : ∃ ys y, g.laid = ys ++ [y] := ⟨_, _, (List.dropLast_concat_getLast hne).symm⟩
      refine r_ev (v := .int y) (ev_op (ev_var rfl) (ev_un ev_c ru_neg) (rv_ixL (sq_of g2.atL) (by rw [hy, List.map_append]; exact atI_end))) fun H3 e3 => ?_
      exact rtM (fin (i := ys.length) g2 Fr.refl e3 (by rw [hy]; simp))
    · rw [decide_eq_false hr0]
      have hl := ev_len (K := K) (σ := [some (V.ref lr), some (.ref sd), some (.ref da)]) (H := H2) (ta := tVar 2) (ev_var rfl) (sq_of g2.atL)
      rw [List.length_map] at hl
      have hpos : 0 < g.laid.length := List.length_pos_iff.mpr hne
      have hzl := g2.zl
      refine r_op (r_ev (ev_var rfl) fun H3 e3 => r_tg (n := (g.laid.length : Int)) (ea_cons (ev_var rfl) (ea_cons (hl.mono e3) ea_nil)) (g2.mono e3) (by omega) fun H4 r2 g4 f4 h2 h3 => ?_)
      obtain ⟨x, hx⟩ : ∃ x, g.laid[r2.toNat]? = some x := ⟨_, List.getElem?_eq_getElem (by omega)⟩
      refine ⟨da, _, r2, .int x, rfl, rfl, sq_of g4.atL, ?_, rtM (fin g4 ((fr_ex e3).trans f4) (Ex.refl _) hx)⟩
      rw [show r2 = ((r2.toNat : Nat) : Int) by omega]
      exact atI_nat (by rw [List.getElem?_map, hx]; rfl)
/-! ### fresh -/
abbrev sLfr : Stmt := top 36
abbrev nLfr : List Str := ["_law_row", "_law_s", "_law_way"]
theorem scLfr : FnScope nLfr ["_law_row", "_law_s"] (defScope sLfr) := ⟨rfl, rfl, rfl, by decide +kernel, rfl, by decide +kernel, by decide +kernel⟩
def spLfr (K0 : PySem.W.Frag) : Sp := fun vs H Q _ => ∃ HB lr sc xs sd ra da na g, vs = [.ref lr, .ref sd] ∧ GS K0 HB H lr sc xs sd ra da na g ∧ g.rows.length ≤ 1000 ∧ g.named.length ≤ 1000 ∧ ∀ H' (x n : Int), GS K0 HB H' lr sc xs sd ra da na { g with next := n } → Fr H lr sd ra da H' ra da → Q (.int x) H'
theorem ok_Lfr {f f1 : Addr} {fd d1 : FuncData} (F : Fun K "_law_fresh" "_law_fresh" sLfr f fd) (T : Txt K mg o1 o2 o3 o4 o5) (C__law_taken : TkAt P w K mg base f1 d1) : FnOk P w K mg base CX0 2 f fd ["_law_row", "_law_s"] (spLfr K) := by
  refine F.ok scLfr (fun vs H Q E h => ?_) (fun cdv A outer s H vs Q E hr h => ?_)
  · obtain ⟨HB, lr, sc, xs, sd, ra, da, na, g, rfl, _⟩ := h; rfl
  · obtain ⟨HB, lr, sc, xs, sd, ra, da, na, g, rfl, gs, hz, hnz, k⟩ := h
    have nd := scLfr.nd
    have hu := hu_of hr
    refine ⟨_, (pss_cons (ps_set (i := 2) nd rfl (Or.inl rfl) (pe_call C__law_taken.ok (hr.mono (by decide)) (by rfl) C__law_taken.g C__law_taken.kp C__law_taken.b .nil pass0 (pa_cons (pv 0) (pa_cons pe_int pa_nil))))
      (pss_cons (ps_if (pw_and (pt_cmpR op_eq (pv 2) pe_int (nomark _)) (pw_and1 (pt_cmpR (op_neNil hr.units0) (pe_dget hu (pv 1) pe_str (fun _ _ => rfl)) (pe_lst pa_nil) (nomark _)))).pt (pss_one (ps_ret (pe_ix ix_list (pe_dget hu (pv 1) pe_str (fun _ _ => rfl)) (pe_call C__law_taken.ok (hr.mono (by decide)) (by rfl) C__law_taken.g C__law_taken.kp C__law_taken.b .nil pass0 (pa_cons (pv 0) (pa_cons (pe_callB call_len_seq (by rfl) T.len PySem.boot_len (pa_cons (pe_dget hu (pv 1) pe_str (fun _ _ => rfl)) pa_nil)) pa_nil))) (fun _ _ => rfl)))) pss_nil)
      (pss_cons (ps_if (pw_and (pt_cmpR op_eq (pv 2) pe_int (nomark _)) (pw_and1 (pt_cmpR (op_neNil hr.units0) (pe_dget hu (pv 1) pe_str (fun _ _ => rfl)) (pe_lst pa_nil) (nomark _)))).pt (pss_one (ps_ret (pe_ix ix_list (pe_dget hu (pv 1) pe_str (fun _ _ => rfl)) (pe_call C__law_taken.ok (hr.mono (by decide)) (by rfl) C__law_taken.g C__law_taken.kp C__law_taken.b .nil pass0 (pa_cons (pv 0) (pa_cons (pe_callB call_len_seq (by rfl) T.len PySem.boot_len (pa_cons (pe_dget hu (pv 1) pe_str (fun _ _ => rfl)) pa_nil)) pa_nil))) (fun _ _ => rfl)))) pss_nil)
      (pss_cons (ps_dput hu (pv 1) pe_str (pe_op op_add (pe_dget hu (pv 1) pe_str (fun _ _ => rfl)) pe_int) rfl)
      (pss_one (ps_ret (pe_op op_sub (pe_dget hu (pv 1) pe_str (fun _ _ => rfl)) pe_int))))))), ?_⟩
    dsimp only [cxK, cxKn, List.map]
    refine q_asgR (r_tg (n := 6) (ea_cons (ev_var rfl) (ea_cons ev_c ea_nil)) gs (by omega) fun H1 wy g1 f1 h0 h1 => ?_)
    have tw : ∀ {H2 : Hp} {c : Int} {s : L2.St}, EvT (tTest (tOp rEq (tVar 2) (tC (.int c)))) (some (.ref lr) :: some (.ref sd) :: some (.int wy) :: s) H2 (decide (V.int wy = V.int c)) := et_test (ev_op (ev_var rfl) ev_c (rv_eq rfl))
    refine q_when (b := decide (V.int wy = V.int 0) && !(g.named.map V.int).isEmpty) (et_and tw fun _ => et_neNil (g1.evN (ev_var rfl)) g1.atN) (fun hb H2 e2 => ?_) (fun hb H2 e2 => ?_)
    · have g2 := g1.mono e2
      have hne : 0 < g.named.length := by
        cases h : g.named with
        | nil => rw [h] at hb; simp at hb
        | cons => simp
      have hl := ev_len (K := K) (σ := [some (V.ref lr), some (.ref sd), some (.int wy)]) (H := H2) (ta := tDGet (tVar 1) (tC (.str "named"))) (g2.evN (ev_var rfl)) (sq_of g2.atN)
      rw [List.length_map] at hl
      refine s_retR (r_op (r_ev (g2.evN (ev_var rfl)) fun H3 e3 => r_tg (n := (g.named.length : Int)) (ea_cons (ev_var rfl) (ea_cons (hl.mono e3) ea_nil)) (g2.mono e3) (by omega) fun H4 r2 g4 f4 h2 h3 => ?_))
      obtain ⟨x, hx⟩ : ∃ x, g.named[r2.toNat]? = some x := ⟨_, List.getElem?_eq_getElem (by omega)⟩
      refine ⟨na, _, r2, .int x, rfl, rfl, sq_of g4.atN, ?_, rtM (k _ x g.next g4 (f1.trans ((fr_ex (e2.trans e3)).trans f4)))⟩
      rw [show r2 = ((r2.toNat : Nat) : Int) by omega]
      exact atI_nat (by rw [List.getElem?_map, hx]; rfl)
    · have g2 := g1.mono e2
      refine q_when (b := decide (V.int wy = V.int 1) && !(g.laid.map V.int).isEmpty) (et_and tw fun _ => et_neNil (g2.evL (ev_var rfl)) g2.atL) (fun hb H3 e3 => ?_) (fun hb H3 e3 => ?_)
      · have g3 := g2.mono e3
        have hne : 0 < g.laid.length := by
          cases h : g.laid with
          | nil => rw [h] at hb; simp at hb
          | cons => simp
        have hzl := g3.zl
        have hl := ev_len (K := K) (σ := [some (V.ref lr), some (.ref sd), some (.int wy)]) (H := H3) (ta := tDGet (tVar 1) (tC (.str "laid"))) (g3.evL (ev_var rfl)) (sq_of g3.atL)
        rw [List.length_map] at hl
        refine s_retR (r_op (r_ev (g3.evL (ev_var rfl)) fun H4 e4 => r_tg (n := (g.laid.length : Int)) (ea_cons (ev_var rfl) (ea_cons (hl.mono e4) ea_nil)) (g3.mono e4) (by omega) fun H5 r2 g5 f5 h2 h3 => ?_))
        obtain ⟨x, hx⟩ : ∃ x, g.laid[r2.toNat]? = some x := ⟨_, List.getElem?_eq_getElem (by omega)⟩
        refine ⟨da, _, r2, .int x, rfl, rfl, sq_of g5.atL, ?_, rtM (k _ x g.next g5 (f1.trans ((fr_ex (e2.trans (e3.trans e4))).trans f5)))⟩
        rw [show r2 = ((r2.toNat : Nat) : Int) by omega]
        exact atI_nat (by rw [List.getElem?_map, hx]; rfl)
      · have g3 := g2.mono e3
        refine q_dput (k := Sum.inr "next") g3.atS (ev_op (g3.evNext (ev_var rfl)) ev_c rv_I0) (ev_var rfl) ev_c (by unfold sD; simp) fun H4 e4 => ?_
        rw [put_next]
        have g4 := (g3.mono e4).setS (line := g.line) (labels := g.labels) (next := g.next + 1)
        refine s_ret (ev_op (g4.evNext (ev_var rfl)) ev_c rv_I0) fun H5 e5 => rtM (k _ _ (g.next + 1) (g4.mono e5) (f1.trans ((fr_ex (e2.trans (e3.trans e4))).trans (fr_sd.trans (fr_ex e5)))))
end
end K51

/-! Walks 20: place, lays. -/
namespace K51
open PySem L2 Evl
def Row.at (p : Pl) : Row → Row
  | .begin _ => .begin p
  | .put c n _ => .put c n p
  | .copy c d _ => .copy c d p
  | .two o c d e _ => .two o c d e p
  | .fetch c f n _ => .fetch c f n p
  | .lay n c _ => .lay n c p
  | .label k _ => .label k p
  | .go k _ => .go k p
  | .unless c k _ => .unless c k p
  | .call c f n cs _ => .call c f n cs p
  | .say kd c _ => .say kd c p
  | .give c _ => .give c p
  | .nothing _ => .nothing p
theorem at_vals (r : Row) (pl : Pl) (p q : Addr) : (r.at pl).vals p q = .str r.word :: (r.mid q ++ [.ref p]) := by cases r <;> rfl
theorem at_place (r : Row) (pl : Pl) : (r.at pl).place = pl := by cases r <;> rfl
theorem at_call (r : Row) (pl : Pl) : (r.at pl).isCall = r.isCall := by cases r <;> rfl
theorem at_cells (r : Row) (pl : Pl) : (r.at pl).cells = r.cells := by cases r <;> rfl
theorem at_straight (r : Row) (pl : Pl) : (r.at pl).straight = r.straight := by cases r <;> rfl
theorem at_reads (r : Row) (pl : Pl) : (r.at pl).reads = r.reads := by
  cases r with
  | give c p => cases c <;> rfl
  | _ => rfl
theorem at_lays (r : Row) (pl : Pl) : (r.at pl).lays = r.lays := by cases r <;> rfl
theorem at_bnd (r : Row) (pl : Pl) : (r.at pl).Bnd = r.Bnd := by cases r <;> rfl
theorem mid_first (r : Row) (q : Addr) (h : r.tag.isLaying = true) : ∃ tl, r.mid q = oV r.lays :: tl ∧ tl.length ≤ 3 := by cases r <;> simp [Row.tag, Tag.isLaying] at h <;> exact ⟨_, rfl, by simp⟩
theorem lays_call (r : Row) (h : r.tag.isLaying = true) : (!decide (r.tag = .call) || !decide (oV r.lays = V.non)) = r.lays.isSome := by
  cases r <;> simp [Row.tag, Tag.isLaying] at h <;> try rfl
  rename_i c _ _ _ _
  cases c <;> rfl
section
variable {P : Program} {w : World} {K : PySem.W.Frag} {mg : Str → Option Value} {base : Heap} {o1 o2 o3 o4 o5 : Addr}
abbrev sLpl : Stmt := top 37
abbrev nLpl : List Str := ["_law_row", "_law_s"]
theorem scLpl : FnScope nLpl ["_law_row", "_law_s"] (defScope sLpl) := ⟨rfl, rfl, rfl, by decide +kernel, rfl, by decide +kernel, by decide +kernel⟩
def spLpl (K0 : PySem.W.Frag) : Sp := fun vs H Q _ => ∃ HB lr sc xs sd ra da na g, vs = [.ref lr, .ref sd] ∧ GS K0 HB H lr sc xs sd ra da na g ∧ ∀ H' p pl, GS K0 HB H' lr sc xs sd ra da na g → Fr H lr sd ra da H' ra da → H' p = some (.tup (plV pl)) → Q (.ref p) H'
theorem ok_Lpl {f f1 : Addr} {fd d1 : FuncData} (F : Fun K "_law_place" "_law_place" sLpl f fd) (T : Txt K mg o1 o2 o3 o4 o5) (C__law_taken : TkAt P w K mg base f1 d1) : FnOk P w K mg base CX0 2 f fd ["_law_row", "_law_s"] (spLpl K) := by
  refine F.ok scLpl (fun vs H Q E h => ?_) (fun cdv A outer s H vs Q E hr h => ?_)
  · obtain ⟨HB, lr, sc, xs, sd, ra, da, na, g, rfl, _⟩ := h; rfl
  · obtain ⟨HB, lr, sc, xs, sd, ra, da, na, g, rfl, gs, k⟩ := h
    have nd := scLpl.nd
    have hu := hu_of hr
    refine ⟨_, (pss_one (ps_ret (pe_tup (pa_cons (pe_dget hu (pv 1) pe_str (fun _ _ => rfl)) (pa_cons (pe_op op_add pe_int (pe_call C__law_taken.ok (hr.mono (by decide)) (by rfl) C__law_taken.g C__law_taken.kp C__law_taken.b .nil pass0 (pa_cons (pv 0) (pa_cons pe_int pa_nil)))) pa_nil))))), ?_⟩
    refine s_retR (r_tup (r_consE (gs.evLine (ev_var rfl)) fun H1 e1 => r_cons (r_op (r_ev ev_c fun H2 e2 => r_tg (n := 40) (ea_cons (ev_var rfl) (ea_cons ev_c ea_nil)) (gs.mono (e1.trans e2)) (by omega) fun H3 r g3 f3 h0 h1 => ⟨1, r, rfl, rfl, r_nil ⟨sz_of (by simp), fun p hp => rtM ?_⟩⟩))))
    exact k _ p ⟨g.line, 1 + r⟩ (g3.mono (Ex.new hp)) ((fr_ex (e1.trans e2)).trans (f3.trans (fr_ex (Ex.new hp)))) upd_same
theorem r_bm {σ : L2.St} {H : Hp} {Q : VK} {T : String} {r : V → List V → Hp → VK → Prop} {to : TE} {t : TA} {v : V} (h : Ev to σ H v) (k : ∀ H1, Ex H H1 → tyV K T v H1 ∧ t σ H1 fun xs H2 => r v xs H2 Q) : tBM K T r to t σ H Q := h H (Ex.refl H) _ k
/-- a place, and what is asked behind it -/
theorem r_pl {σ : L2.St} {H : Hp} {Q : VK} {E : XK} {tr : TA} {HB : Hp} {lr sc : Addr} {xs : List Int} {sd ra da na : Addr} {g : GM} (ha : EvA tr σ H [.ref lr, .ref sd]) (gs : GS K HB H lr sc xs sd ra da na g) (k : ∀ H' p pl, GS K HB H' lr sc xs sd ra da na g → Fr H lr sd ra da H' ra da → H' p = some (.tup (plV pl)) → Q (.ref p) H') : tCall (spLpl K) [] E tr σ H Q :=
  r_call (r_ea ha fun H1 e1 => ⟨HB, lr, sc, xs, sd, ra, da, na, g, rfl, gs.mono e1, fun H' p pl h1 h2 h3 => k H' p pl h1 ((fr_ex e1).trans h2) h3⟩)
theorem r_opnd {σ : L2.St} {H : Hp} {Q : VK} {E : XK} {tr : TA} {HB : Hp} {lr sc : Addr} {xs : List Int} {sd ra da na : Addr} {g : GM} (ha : EvA tr σ H [.ref lr, .ref sd]) (gs : GS K HB H lr sc xs sd ra da na g) (hne : g.laid ≠ []) (hz : g.rows.length ≤ 1000) (k : ∀ H' x, GS K HB H' lr sc xs sd ra da na g → Fr H lr sd ra da H' ra da → x ∈ g.laid → Q (.int x) H') : tCall (spLop K) [] E tr σ H Q :=
  r_call (r_ea ha fun H1 e1 => ⟨HB, lr, sc, xs, sd, ra, da, na, g, rfl, gs.mono e1, hne, hz, fun H' x h1 h2 h3 => k H' x h1 ((fr_ex e1).trans h2) h3⟩)
theorem r_fsh {σ : L2.St} {H : Hp} {Q : VK} {E : XK} {tr : TA} {HB : Hp} {lr sc : Addr} {xs : List Int} {sd ra da na : Addr} {g : GM} (ha : EvA tr σ H [.ref lr, .ref sd]) (gs : GS K HB H lr sc xs sd ra da na g) (hz : g.rows.length ≤ 1000) (hn : g.named.length ≤ 1000) (k : ∀ H' (x n : Int), GS K HB H' lr sc xs sd ra da na { g with next := n } → Fr H lr sd ra da H' ra da → Q (.int x) H') : tCall (spLfr K) [] E tr σ H Q :=
  r_call (r_ea ha fun H1 e1 => ⟨HB, lr, sc, xs, sd, ra, da, na, g, rfl, gs.mono e1, hz, hn, fun H' x n h1 h2 => k H' x n h1 ((fr_ex e1).trans h2)⟩)
/-! ### lays -/
abbrev sLly : Stmt := top 49
abbrev nLly : List Str := ["_law_row", "_law_s", "_law_middle_here"]
theorem scLly : FnScope nLly ["_law_row", "_law_s", "_law_middle_here"] (defScope sLly) := ⟨rfl, rfl, rfl, by decide +kernel, rfl, by decide +kernel, by decide +kernel⟩
def GM.lay (g : GM) (r : Row) : GM := { g with rows := g.rows ++ [r], laid := g.laid ++ r.lays.toList }
def spLly (K0 : PySem.W.Frag) : Sp := fun vs H Q _ => ∃ HB lr sc xs sd ra da na g, ∃ (t q : Addr) (r : Row), vs = [.ref lr, .ref sd, .ref t] ∧ GS K0 HB H lr sc xs sd ra da na g ∧ g.rows.length ≤ 1000 ∧ r.tag.isLaying = true ∧ H t = some (.tup (.str r.word :: r.mid q)) ∧ (r.isCall = true → H q = some (.tup (r.cells.map V.int))) ∧ ∀ H' pl, GS K0 HB H' lr sc xs sd ra da na (g.lay (r.at pl)) → Fr H lr sd ra da H' ra da → Q .non H'
theorem ok_Lly {f f1 : Addr} {fd d1 : FuncData} (F : Fun K "_law_lays" "_law_lays" sLly f fd) (T : Txt K mg o1 o2 o3 o4 o5) (C__law_place : CalAt P w K mg base 2 "_law_place" ["_law_row", "_law_s"] (spLpl K) f1 d1) : FnOk P w K mg base CX0 3 f fd ["_law_row", "_law_s", "_law_middle_here"] (spLly K) := by
  refine F.ok scLly (fun vs H Q E h => ?_) (fun cdv A outer s H vs Q E hr h => ?_)
  · obtain ⟨HB, lr, sc, xs, sd, ra, da, na, g, t, q, r, rfl, _⟩ := h; rfl
  · obtain ⟨HB, lr, sc, xs, sd, ra, da, na, g, t, q, r, rfl, gs, hz, hlay, ht, hq, k⟩ := h
    have nd := scLly.nd
    have hu := hu_of hr
    refine ⟨_, (pss_cons (ps_expr (pe_bm PySem.F.plainAttrs_list PySem.F.slot_list_append PySem.F.type_list_append mt_append (pe_dget hu (pv 1) pe_str (fun _ _ => rfl)) (pa_cons (pe_op op_catA (pv 2) (pe_tup (pa_cons (pe_call C__law_place.ok (hr.mono (by decide)) (by rfl) C__law_place.g C__law_place.kp C__law_place.b .nil pass0 (pa_cons (pv 0) (pa_cons (pv 1) pa_nil))) pa_nil))) pa_nil)))
      (pss_one (ps_if (pw_or (pt_cmpR op_ne (pe_ix ix_tup (pv 2) pe_int (fun _ _ => rfl)) pe_str (nomark _)) (pw_or1 (pt_cmpR op_notN (pe_ix ix_tup (pv 2) pe_int (fun _ _ => rfl)) pe_non (nomark _)))).pt (pss_one (ps_expr (pe_bm PySem.F.plainAttrs_list PySem.F.slot_list_append PySem.F.type_list_append mt_append (pe_dget hu (pv 1) pe_str (fun _ _ => rfl)) (pa_cons (pe_ix ix_tup (pv 2) pe_int (fun _ _ => rfl)) pa_nil)))) pss_nil))), ?_⟩
    dsimp only [cxK, cxKn, List.map]
    obtain ⟨mt, hmid, hmz⟩ := mid_first r q hlay
    obtain ⟨as, hra, hall⟩ := gs.atR
    refine q_dropR (r_bm (gs.evR (ev_var rfl)) fun H1 e1 => ⟨.inl ⟨rfl, _, sq_of (e1 _ _ hra)⟩, r_cons (r_op (r_ev (v := .ref t) (ev_var rfl) fun H2 e2 => r_tup (r_cons (r_pl (ea_cons (ev_var rfl) (ea_cons (ev_var rfl) ea_nil)) (gs.mono (e1.trans e2)) fun H3 p pl g3 f3 hp => r_nil ⟨sz_of (by simp), fun tp htp => ?_⟩))))⟩)
    have tl3 := ((gs.mono (e1.trans e2)).tl f3)
    have e12 := e1.trans e2
    have ht3 := tl3 _ _ (e12 _ _ ht)
    refine ⟨t, tp, _, _, rfl, rfl, st_of (Ex.new htp _ _ ht3), st_of upd_same, sz_of (by rw [hmid]; simp; omega), (fun z => by cases z), (fun _ z => by cases z), fun _ _ t2 ht2 => r_nil ?_⟩
    have e34 := (Ex.new (o := .tup [.ref p]) htp).trans (Ex.new (o := .tup ((V.str r.word :: r.mid q) ++ [.ref p])) ht2)
    have g5 := g3.mono e34
    have hrow : RowAt (upd (upd H3 tp (.tup [.ref p])) t2 (.tup ((V.str r.word :: r.mid q) ++ [.ref p]))) t2 (r.at pl) := ⟨p, q, by rw [at_vals]; exact upd_same, by rw [at_place]; exact e34 _ _ hp, fun z => by
      rw [at_call] at z
      rw [at_cells]; exact e34 _ _ (tl3 _ _ (e12 _ _ (hq z)))⟩
    have ht5 := e34 _ _ ht3
    have f5 : Fr H lr sd ra da (upd (upd H3 tp (.tup [.ref p])) t2 (.tup ((V.str r.word :: r.mid q) ++ [.ref p]))) ra da := (fr_ex e12).trans (f3.trans (fr_ex e34))
    generalize upd (upd H3 tp (.tup [.ref p])) t2 (.tup ((V.str r.word :: r.mid q) ++ [.ref p])) = H5 at g5 hrow ht5 f5
    obtain ⟨bs, hrb, hallb⟩ := g5.atR
    refine ⟨ra, bs.map V.ref, .ref t2, rfl, rfl, hrb, sz_lt (by rw [List.length_map, hallb.1]; omega), ?_⟩
    have ht6 : (upd H5 ra (.lst (bs.map V.ref ++ [.ref t2]))) t = some (.tup (.str r.word :: r.mid q)) := by rw [upd_ne ((g5.ne_tup ht5).2.2.1)]; exact ht5
    have g6 := g5.addR hrb hrow
    have f6 := f5.trans (fr_ra (o := .lst (bs.map V.ref ++ [.ref t2])))
    generalize upd H5 ra (.lst (bs.map V.ref ++ [.ref t2])) = H6 at ht6 g6 f6
    dsimp only
    have i0 : ∀ {H7 : Hp} {s : L2.St} {a0 a1 : Option V}, Ex H6 H7 → Ev (tOp (rIxT K) (tVar 2) (tC (.int 0))) (a0 :: a1 :: some (.ref t) :: s) H7 (.str r.word) := fun e => ev_row (j := 0) (e _ _ ht6) (ev_var rfl) rfl
    have i1 : ∀ {H7 : Hp} {s : L2.St} {a0 a1 : Option V}, Ex H6 H7 → Ev (tOp (rIxT K) (tVar 2) (tC (.int 1))) (a0 :: a1 :: some (.ref t) :: s) H7 (oV r.lays) := fun e => ev_row (j := 1) (e _ _ ht6) (ev_var rfl) (by rw [hmid]; rfl)
    refine s_when (b := r.lays.isSome) (et_is (et_or (a := !decide (r.tag = .call)) (b := !decide (oV r.lays = V.non)) (et_wordN .call (i0 (Ex.refl _))) fun _ => et_notN (i1 (Ex.refl _))) (lays_call r hlay)) (fun hb H7 e7 => ?_) (fun hb H7 e7 => ?_)
    · obtain ⟨c, hc⟩ := Option.isSome_iff_exists.mp hb
      have g7 := g6.mono e7
      have hzl := g7.zl
      have hrl : (g.rows ++ [r.at pl]).length = g.rows.length + 1 := by simp
      have hzl2 := gs.zl
      refine s_dropR (r_bm (g7.evL (ev_var rfl)) fun H8 e8 => ⟨.inl ⟨rfl, _, sq_of ((g7.mono e8).atL)⟩, r_cons (r_ev (v := .int c) (ev_is (i1 (e7.trans e8)) (by rw [hc]; rfl)) fun H9 e9 => r_nil ⟨da, g.laid.map V.int, .int c, rfl, rfl, (g7.mono (e8.trans e9)).atL, sz_lt (by rw [List.length_map]; omega), nxM ?_⟩)⟩)
      have g10 := (g7.mono (e8.trans e9)).addL (c := c) (by rw [hrl]; exact Nat.lt_of_le_of_lt hzl2 (by omega))
      refine k _ pl ?_ (f6.trans ((fr_ex (e7.trans (e8.trans e9))).trans fr_da))
      have : g.lay (r.at pl) = { g with rows := g.rows ++ [r.at pl], laid := g.laid ++ [c] } := by unfold GM.lay; rw [at_lays, hc]; rfl
      rw [this]; exact g10
    · refine nxM (k _ pl ?_ (f6.trans (fr_ex e7)))
      have hc : r.lays = none := by cases h : r.lays with
        | none => rfl
        | some c => rw [h] at hb; cases hb
      have : g.lay (r.at pl) = { g with rows := g.rows ++ [r.at pl] } := by unfold GM.lay; rw [at_lays, hc]; simp
      rw [this]; exact g6.mono e7
end
end K51

/-! Walks 21: straight. -/
namespace K51
open PySem L2 Evl
theorem ops_at : ∀ i, i < 7 → ∃ o : Op, opsV[i]? = some (.str o.word)
  | 0, _ => ⟨.add, rfl⟩ | 1, _ => ⟨.take, rfl⟩ | 2, _ => ⟨.times, rfl⟩ | 3, _ => ⟨.over, rfl⟩ | 4, _ => ⟨.rest, rfl⟩ | 5, _ => ⟨.less, rfl⟩ | 6, _ => ⟨.same, rfl⟩
  | n + 7, h => absurd h (by omega)
theorem nm_of {x : S} (h : (x.cps.all (· < 0x110000) && decide (x ≠ Str.ofString "great") && decide (x ≠ Str.ofString "nought")) = true) : Nm x := by
  simp only [Bool.and_eq_true, decide_eq_true_eq] at h
  exact ⟨h.1.1, h.1.2, h.2⟩
theorem nm_ka {z : S} (h : z = Str.ofString "ka" ∨ z = Str.ofString "kb") : Nm z ∧ z.length ≤ 10 := by rcases h with rfl | rfl <;> exact ⟨nm_of (by decide +kernel), by decide +kernel⟩
theorem nm_fg {z : S} (h : z = Str.ofString "f" ∨ z = Str.ofString "g") : Nm z ∧ z.length ≤ 10 := by rcases h with rfl | rfl <;> exact ⟨nm_of (by decide +kernel), by decide +kernel⟩
theorem nm_da {z : S} (h : z = Str.ofString "da" ∨ z = Str.ofString "db") : Nm z ∧ z.length ≤ 10 := by rcases h with rfl | rfl <;> exact ⟨nm_of (by decide +kernel), by decide +kernel⟩
theorem nm_kd {z : S} (h : z = Str.ofString "num" ∨ z = Str.ofString "yes") : Nm z ∧ z.length ≤ 10 := by rcases h with rfl | rfl <;> exact ⟨nm_of (by decide +kernel), by decide +kernel⟩
theorem q_parR {i j : Nat} {t : TA} {tz : TS} {D : Ends} {σ : L2.St} {H : Hp} (h : t σ H fun xs H1 => ∃ x y, xs = [x, y] ∧ tz D ((σ.set i (some x)).set j (some y)) H1) : tSeq (tPar i j t) tz D σ H := h
section
variable {P : Program} {w : World} {K : PySem.W.Frag} {mg : Str → Option Value} {base : Heap} {o1 o2 o3 o4 o5 : Addr}
section
variable {HB H H' : Hp} {lr sc : Addr} {xs : List Int} {sd ra da na : Addr} {g : GM} {σ : L2.St} {Q : VK} {E : XK}
theorem k_row {vs : List V} {r : Row} {p q : Addr} (gs : GS K HB H lr sc xs sd ra da na g) (hz : g.rows.length ≤ 1000) (hv : vs = r.vals p q) (hp : H p = some (.tup (plV r.place))) (hq : r.isCall = true → H q = some (.tup (r.cells.map V.int)))
    (k : ∀ H3, GS K HB H3 lr sc xs sd ra da na { g with rows := g.rows ++ [r] } → Fr H lr sd ra da H3 ra da → Q .non H3) : vs.length ≤ sizeLine ∧ ∀ t, H t = none → (tNil : TA) σ (upd H t (.tup vs)) fun ys H3 => rAppend (.ref ra) (.ref t :: ys) H3 Q := by
  subst hv
  refine ⟨sz_of ?_, fun t ht => r_nil ?_⟩
  · unfold Row.vals
    have : (r.mid q).length ≤ 4 := by cases r <;> simp [Row.mid]
    simp; omega
  · have g2 := gs.mono (Ex.new (o := .tup (r.vals p q)) ht)
    obtain ⟨as, h1, h2⟩ := g2.atR
    have hrow : RowAt (upd H t (.tup (r.vals p q))) t r := ⟨p, q, upd_same, Ex.new ht _ _ hp, fun z => Ex.new ht _ _ (hq z)⟩
    exact ⟨ra, as.map V.ref, .ref t, rfl, rfl, h1, sz_lt (by rw [List.length_map, h2.1]; omega), k _ (g2.addR h1 hrow) ((fr_ex (Ex.new ht)).trans fr_ra)⟩
theorem k_lys {vs : List V} {r : Row} {q : Addr} (gs : GS K HB H lr sc xs sd ra da na g) (hz : g.rows.length ≤ 1000) (hlay : r.tag.isLaying = true) (hv : vs = .str r.word :: r.mid q) (hq : r.isCall = true → H q = some (.tup (r.cells.map V.int)))
    (k : ∀ H3 pl, GS K HB H3 lr sc xs sd ra da na (g.lay (r.at pl)) → Fr H lr sd ra da H3 ra da → Q .non H3) : vs.length ≤ sizeLine ∧ ∀ t, H t = none → (tNil : TA) σ (upd H t (.tup vs)) fun ys H3 => spLly K ((V.ref lr :: V.ref sd :: V.ref t :: ys) ++ []) H3 Q E := by
  subst hv
  refine ⟨sz_of ?_, fun t ht => r_nil ?_⟩
  · have : (r.mid q).length ≤ 4 := by cases r <;> simp [Row.mid]
    simp; omega
  · exact ⟨HB, lr, sc, xs, sd, ra, da, na, g, t, q, r, rfl, gs.mono (Ex.new ht), hz, hlay, upd_same, fun z => Ex.new ht _ _ (hq z), fun H' pl h1 h2 => k H' pl h1 ((fr_ex (Ex.new ht)).trans h2)⟩
/-- what a def that makes rows promises -/
def GPost (K : PySem.W.Frag) (HB H : Hp) (lr sc : Addr) (xs : List Int) (sd ra da na : Addr) (g : GM) (sz : Nat) (Q : VK) : Prop := ∀ H' ra' da' g' code, GS K HB H' lr sc xs sd ra' da' na g' → Fr H lr sd ra da H' ra' da' → g'.rows = g.rows ++ code → Frag g.labels g'.labels g.laid code g'.laid → g'.rows.length ≤ sz → g'.named = g.named → (∀ x ∈ g.laid, x ∈ g'.laid) → Q .non H'
theorem GPost.one {r : Row} {g' : GM} {sz : Nat} (k : GPost K HB H lr sc xs sd ra da na g sz Q) (gs : GS K HB H' lr sc xs sd ra da na g') (f : Fr H lr sd ra da H' ra da) (h1 : g'.rows = g.rows ++ [r]) (h2 : g'.labels = g.labels) (h3 : g'.named = g.named) (h4 : g'.laid = g.laid ++ r.lays.toList) (h5 : r.straight = true) (h6 : ∀ x ∈ r.reads, x ∈ g.laid) (h7 : r.Bnd) (h8 : g.rows.length + 1 ≤ sz) : Q .non H' := by
  refine k H' ra da g' [r] gs f h1 ?_ (by rw [h1]; simp; omega) h3 (fun x hx => by rw [h4]; exact List.mem_append_left _ hx)
  rw [h2, h4]
  refine .one h5 h6 h7 fun x hx => ?_
  rcases List.mem_append.mp hx with h | h
  · exact .inl h
  · exact .inr (by simpa using h)
theorem r_lst {ta : TA} (h : ta σ H fun vs H1 => vs.length ≤ sizeLine ∧ ∀ p, H1 p = none → Q (.ref p) (upd H1 p (.lst vs))) : tLst ta σ H Q := h
theorem GS.ne_new (h : GS K HB H lr sc xs sd ra da na g) {b : Addr} (hb : H b = none) : b ≠ lr ∧ b ≠ sd ∧ b ≠ ra ∧ b ≠ da := by
  obtain ⟨p, m, q, h1, _⟩ := h.l.at'
  obtain ⟨as, h2, _⟩ := h.atR
  refine ⟨fun z => ?_, fun z => ?_, fun z => ?_, fun z => ?_⟩
  · rw [z, h1] at hb; cases hb
  · rw [z, h.atS] at hb; cases hb
  · rw [z, h2] at hb; cases hb
  · rw [z, h.atL] at hb; cases hb
theorem r_ifF {t : TT} {ta tb : TE} (h : EvT t σ H false) (k : ∀ H1, Ex H H1 → tb σ H1 Q) : tIf t ta tb σ H Q := h H (Ex.refl H) _ fun H1 e => k H1 e
theorem r_then {te : TE} {kk : V → Hp → VK → Prop} (h : te σ H fun x H1 => kk x H1 Q) : tThen te kk σ H Q := h
theorem r_cb {r : List V → Hp → VK → Prop} {ta : TA} (h : ta σ H fun ys H1 => r ys H1 Q) : tCB r ta σ H Q := h
theorem s_ifR {t : TT} {tu tw : TS} {D : Ends} (h : t σ H fun b H1 => if b = true then tu D σ H1 else tw D σ H1) : tIfS t tu tw D σ H := h
theorem q_asgK {te : TE} {tz : TS} {D : Ends} {i : Nat} (M : V → Hp → Prop) (k : ∀ v H1, M v H1 → tz D (σ.set i (some v)) H1) (h : (∀ v H1, M v H1 → tz D (σ.set i (some v)) H1) → te σ H fun v H1 => tz D (σ.set i (some v)) H1) : tSeq (tAsg te (gName i)) tz D σ H := h k
theorem r_bmR {to : TE} {t : TA} (gs : GS K HB H lr sc xs sd ra da na g) (ha : Ev to σ H (.ref ra)) (k : ∀ H1, Ex H H1 → t σ H1 fun ys H2 => rAppend (.ref ra) ys H2 Q) : tBM K "list" rAppend to t σ H Q :=
  let ⟨as, h1, _⟩ := gs.atR
  r_bm ha fun H1 e1 => ⟨.inl ⟨rfl, _, sq_of (e1 _ _ h1)⟩, k H1 e1⟩
theorem fr_mut {H4 : Hp} {D : Addr} {o : HO} {ra' da' : Addr} (f : Fr H lr sd ra da H4 ra' da') (hD : H D = none) : Fr H lr sd ra da (upd H4 D o) ra' da' := fun b u hb => by
  have hbD : b ≠ D := fun z => by
    have := hide_sub _ _ hb
    rw [z, hD] at this; cases this
  have := f b u hb
  unfold hide at this ⊢
  split at this
  · cases this
  · rename_i hn; rw [if_neg hn, upd_ne hbD]; exact this
theorem GS.but (h : GS K HB H lr sc xs sd ra da na g) {D : Addr} {ys : List V} {o : HO} (hD : H D = some (.lst ys)) (hB : HB D = none) (d1 : D ≠ lr) (d2 : D ≠ ra) (d3 : D ≠ da) (d4 : D ≠ na) : GS K HB (upd H D o) lr sc xs sd ra da na g := by
  obtain ⟨as, h1, h2⟩ := h.atR
  obtain ⟨p, m, q, hp, hq⟩ := h.l.at'
  have d5 : sd ≠ D := fun z => by rw [← z, h.atS] at hD; cases hD
  have tl : TL H (upd H D o) := TL.mut hD fun _ z => by cases z
  exact { h with
    l := ⟨h.l.fr, Ex.mut h.l.ex hB, h.l.scr, p, m, q, by rw [upd_ne (Ne.symm d1)]; exact hp, hq⟩
    atS := by rw [upd_ne d5]; exact h.atS
    atR := ⟨as, by rw [upd_ne (Ne.symm d2)]; exact h1, h2.imp fun _ _ => RowAt.mono tl⟩
    atL := by rw [upd_ne (Ne.symm d3)]; exact h.atL
    atN := by rw [upd_ne (Ne.symm d4)]; exact h.atN }
theorem r_lcTg {tr : TA} {j : Nat} {tt : TT} {te : TE} {vs : List Nat} {n : Int} (ha : EvA tr σ H [.ref lr, .int n]) (gs : GS K HB H lr sc xs sd ra da na g) (hn : 1 ≤ n ∧ n ≤ 10000) (k : ∀ H1 (r : Nat), GS K HB H1 lr sc xs sd ra da na g → Fr H lr sd ra da H1 ra da → (r : Int) < n → ∀ D, H1 D = none → ∃ Pv : Nat → Hp → Prop, Pv 0 (upd H1 D (.lst [])) ∧ (∀ i H, i < r → Pv i H → wipe ((wipe σ vs).set j (some (.int (i : Nat)))) vs = wipe σ vs ∧ tt ((wipe σ vs).set j (some (.int (i : Nat)))) H fun b H3 =>
      if b = true then te ((wipe σ vs).set j (some (.int (i : Nat)))) H3 fun y H4 => ∃ acc, H4 D = some (.lst acc) ∧ acc.length < sizeLine ∧ Pv (i + 1) (upd H4 D (.lst (acc ++ [y]))) else Pv (i + 1) H3) ∧ ∀ H, Pv r H → Q (.ref D) H) : tLc (iRng1 (tCons (tCall (spLt K) [] E tr) tNil)) (gName j) tt te vs σ H Q := by
  unfold tLc iRng1
  exact r_cons (r_tg ha gs ⟨hn.1, by omega⟩ fun H1 r g1 f1 h0 h1 => r_nil ⟨r, rfl, by omega, by omega, fun D hD => by
    obtain ⟨Pv, p0, ps, pd⟩ := k H1 r.toNat g1 f1 (by omega) D hD
    refine lc_range (lo := 0) (n := r.toNat) Pv p0 (fun i H' hi p => ?_) pd
    have e0 : (0 : Int) + (i : Int) = (i : Int) := Int.zero_add _
    show wipe ((wipe σ vs).set j (some (.int ((0 : Int) + (i : Int))))) vs = wipe σ vs ∧ tt ((wipe σ vs).set j (some (.int ((0 : Int) + (i : Int))))) H' fun b H3 => if b = true then te ((wipe σ vs).set j (some (.int ((0 : Int) + (i : Int))))) H3 fun y H4 => ∃ acc, H4 D = some (.lst acc) ∧ acc.length < sizeLine ∧ Pv (i + 1) (upd H4 D (.lst (acc ++ [y]))) else Pv (i + 1) H3
    rw [e0]
    exact ps i H' hi p⟩)
/-- one of two texts -/
theorem r_two {x y : Str} {ix : TA} {E : XK} (gs : GS K HB H lr sc xs sd ra da na g) (ha : ∀ {H1 : Hp}, Ex H H1 → EvA ix σ H1 [.ref lr, .int 2]) (k : ∀ H' z, GS K HB H' lr sc xs sd ra da na g → Fr H lr sd ra da H' ra da → (z = x ∨ z = y) → Q (.str z) H') : tOp (rIxL K) (tLst (tCons (tC (.str x)) (tCons (tC (.str y)) tNil))) (tCall (spLt K) [] E ix) σ H Q := by
  refine r_op (r_lst (r_consE ev_c fun H1 e1 => r_consE ev_c fun H2 e2 => r_nil ⟨Nat.le_of_ble_eq_true rfl, fun p hp => ?_⟩))
  have e3 := e1.trans (e2.trans (Ex.new (o := .lst [.str x, .str y]) hp))
  obtain ⟨m1, m2, m3, m4⟩ := (gs.mono (e1.trans e2)).ne_new hp
  refine r_tg (n := 2) (ha e3) (gs.mono e3) (by omega) fun H4 r g4 f4 h0 h1 => ?_
  have hp4 : H4 p = some (.lst [.str x, .str y]) := f4.at upd_same m1 m2 m3 m4
  rcases (show r = 0 ∨ r = 1 by omega) with rfl | rfl
  · exact ⟨p, _, 0, .str x, rfl, rfl, sq_of hp4, rfl, k H4 x g4 ((fr_ex e3).trans f4) (.inl rfl)⟩
  · exact ⟨p, _, 1, .str y, rfl, rfl, sq_of hp4, rfl, k H4 y g4 ((fr_ex e3).trans f4) (.inr rfl)⟩
end
abbrev sLsg : Stmt := top 38
abbrev nLsg : List Str := ["_law_row", "_law_s", "_law_way", "_law_ops", "_law_one", "_law_other", "_law_number", "_law_keep", "_law_cells", "_law_cell", "_law_k"]
theorem scLsg : FnScope nLsg ["_law_row", "_law_s"] (defScope sLsg) := ⟨rfl, rfl, rfl, by decide +kernel, rfl, by decide +kernel, by decide +kernel⟩
def spLsg (K0 : PySem.W.Frag) : Sp := fun vs H Q _ => ∃ HB lr sc xs sd ra da na g, vs = [.ref lr, .ref sd] ∧ GS K0 HB H lr sc xs sd ra da na g ∧ g.laid ≠ [] ∧ g.rows.length ≤ 990 ∧ g.named.length ≤ 1000 ∧ GPost K0 HB H lr sc xs sd ra da na g (g.rows.length + 1) Q
theorem ok_Lsg {f f1 f2 f3 f4 f5 : Addr} {fd d1 d2 d3 d4 d5 : FuncData} (F : Fun K "_law_straight" "_law_straight" sLsg f fd) (T : Txt K mg o1 o2 o3 o4 o5) (C__law_taken : TkAt P w K mg base f1 d1) (C__law_operand : CalAt P w K mg base 2 "_law_operand" ["_law_row", "_law_s"] (spLop K) f2 d2)
    (C__law_fresh : CalAt P w K mg base 2 "_law_fresh" ["_law_row", "_law_s"] (spLfr K) f3 d3) (C__law_place : CalAt P w K mg base 2 "_law_place" ["_law_row", "_law_s"] (spLpl K) f4 d4) (C__law_lays : CalAt P w K mg base 3 "_law_lays" ["_law_row", "_law_s", "_law_middle_here"] (spLly K) f5 d5) : FnOk P w K mg base CX0 4 f fd ["_law_row", "_law_s"] (spLsg K) := by
  refine F.ok scLsg (fun vs H Q E h => ?_) (fun cdv A outer s H vs Q E hr h => ?_)
  · obtain ⟨HB, lr, sc, xs, sd, ra, da, na, g, rfl, _⟩ := h; rfl
  · obtain ⟨HB, lr, sc, xs, sd, ra, da, na, g, rfl, gs, hne, hz, hnz, k⟩ := h
    have nd := scLsg.nd
    have hu := hu_of hr
    refine ⟨_, (pss_cons (ps_par (i := 2) (j := 3) (by rfl) nd rfl rfl (by decide) rfl rfl (pa_cons (pe_call C__law_taken.ok (hr.mono (by decide)) (by rfl) C__law_taken.g C__law_taken.kp C__law_taken.b .nil pass0 (pa_cons (pv 0) (pa_cons pe_int pa_nil))) (pa_cons (pe_lst (pa_cons pe_str (pa_cons pe_str (pa_cons pe_str (pa_cons pe_str (pa_cons pe_str (pa_cons pe_str (pa_cons pe_str pa_nil)))))))) pa_nil)) rfl)
      (pss_one (ps_if (pt_cmpR op_lt (pv 2) pe_int (nomark _)) (pss_cons (ps_par (i := 4) (j := 5) (by rfl) nd rfl rfl (by decide) rfl rfl (pa_cons (pe_call C__law_operand.ok (hr.mono (by decide)) (by rfl) C__law_operand.g C__law_operand.kp C__law_operand.b .nil pass0 (pa_cons (pv 0) (pa_cons (pv 1) pa_nil))) (pa_cons (pe_call C__law_operand.ok (hr.mono (by decide)) (by rfl) C__law_operand.g C__law_operand.kp C__law_operand.b .nil pass0 (pa_cons (pv 0) (pa_cons (pv 1) pa_nil))) pa_nil)) rfl)
      (pss_one (ps_expr (pe_call C__law_lays.ok (hr.mono (by decide)) (by rfl) C__law_lays.g C__law_lays.kp C__law_lays.b .nil pass0 (pa_cons (pv 0) (pa_cons (pv 1) (pa_cons (pe_tup (pa_cons (pe_ix ix_list (pv 3) (pe_call C__law_taken.ok (hr.mono (by decide)) (by rfl) C__law_taken.g C__law_taken.kp C__law_taken.b .nil pass0 (pa_cons (pv 0) (pa_cons pe_int pa_nil))) (fun _ _ => rfl)) (pa_cons (pe_call C__law_fresh.ok (hr.mono (by decide)) (by rfl) C__law_fresh.g C__law_fresh.kp C__law_fresh.b .nil pass0 (pa_cons (pv 0) (pa_cons (pv 1) pa_nil))) (pa_cons (pv 4) (pa_cons (pv 5) pa_nil))))) pa_nil))))))) (pss_one (ps_if (pt_cmpR op_eq (pv 2) pe_int (nomark _)) (pss_cons (ps_set (i := 6) nd rfl (Or.inl rfl) (pe_ix ix_list (pe_lst (pa_cons (pe_call C__law_taken.ok (hr.mono (by decide)) (by rfl) C__law_taken.g C__law_taken.kp C__law_taken.b .nil pass0 (pa_cons (pv 0) (pa_cons pe_int pa_nil))) (pa_cons (pe_call C__law_taken.ok (hr.mono (by decide)) (by rfl) C__law_taken.g C__law_taken.kp C__law_taken.b .nil pass0 (pa_cons (pv 0) (pa_cons (pe_op op_pow pe_int pe_int) pa_nil))) (pa_cons (pe_op op_sub pe_int (pe_call C__law_taken.ok (hr.mono (by decide)) (by rfl) C__law_taken.g C__law_taken.kp C__law_taken.b .nil pass0 (pa_cons (pv 0) (pa_cons pe_int pa_nil)))) pa_nil)))) (pe_call C__law_taken.ok (hr.mono (by decide)) (by rfl) C__law_taken.g C__law_taken.kp C__law_taken.b .nil pass0 (pa_cons (pv 0) (pa_cons pe_int pa_nil))) (fun _ _ => rfl)))
      (pss_one (ps_expr (pe_call C__law_lays.ok (hr.mono (by decide)) (by rfl) C__law_lays.g C__law_lays.kp C__law_lays.b .nil pass0 (pa_cons (pv 0) (pa_cons (pv 1) (pa_cons (pe_tup (pa_cons pe_str (pa_cons (pe_call C__law_fresh.ok (hr.mono (by decide)) (by rfl) C__law_fresh.g C__law_fresh.kp C__law_fresh.b .nil pass0 (pa_cons (pv 0) (pa_cons (pv 1) pa_nil))) (pa_cons (pv 6) pa_nil)))) pa_nil))))))) (pss_one (ps_if (pt_cmpR op_eq (pv 2) pe_int (nomark _)) (pss_cons (ps_set (i := 4) nd rfl (Or.inl rfl) (pe_call C__law_operand.ok (hr.mono (by decide)) (by rfl) C__law_operand.g C__law_operand.kp C__law_operand.b .nil pass0 (pa_cons (pv 0) (pa_cons (pv 1) pa_nil))))
      (pss_one (ps_expr (pe_call C__law_lays.ok (hr.mono (by decide)) (by rfl) C__law_lays.g C__law_lays.kp C__law_lays.b .nil pass0 (pa_cons (pv 0) (pa_cons (pv 1) (pa_cons (pe_tup (pa_cons pe_str (pa_cons (pe_call C__law_fresh.ok (hr.mono (by decide)) (by rfl) C__law_fresh.g C__law_fresh.kp C__law_fresh.b .nil pass0 (pa_cons (pv 0) (pa_cons (pv 1) pa_nil))) (pa_cons (pv 4) pa_nil)))) pa_nil))))))) (pss_one (ps_if (pt_cmpR op_eq (pv 2) pe_int (nomark _)) (pss_cons (ps_set (i := 7) nd rfl (Or.inl rfl) (pe_ix ix_list (pe_lst (pa_cons pe_str (pa_cons pe_str pa_nil))) (pe_call C__law_taken.ok (hr.mono (by decide)) (by rfl) C__law_taken.g C__law_taken.kp C__law_taken.b .nil pass0 (pa_cons (pv 0) (pa_cons pe_int pa_nil))) (fun _ _ => rfl)))
      (pss_one (ps_if (pt_cmpR op_eq (pe_call C__law_taken.ok (hr.mono (by decide)) (by rfl) C__law_taken.g C__law_taken.kp C__law_taken.b .nil pass0 (pa_cons (pv 0) (pa_cons pe_int pa_nil))) pe_int (nomark _)) (pss_one (ps_expr (pe_call C__law_lays.ok (hr.mono (by decide)) (by rfl) C__law_lays.g C__law_lays.kp C__law_lays.b .nil pass0 (pa_cons (pv 0) (pa_cons (pv 1) (pa_cons (pe_tup (pa_cons pe_str (pa_cons (pe_call C__law_fresh.ok (hr.mono (by decide)) (by rfl) C__law_fresh.g C__law_fresh.kp C__law_fresh.b .nil pass0 (pa_cons (pv 0) (pa_cons (pv 1) pa_nil))) (pa_cons (pe_ix ix_list (pe_lst (pa_cons pe_str (pa_cons pe_str pa_nil))) (pe_call C__law_taken.ok (hr.mono (by decide)) (by rfl) C__law_taken.g C__law_taken.kp C__law_taken.b .nil pass0 (pa_cons (pv 0) (pa_cons pe_int pa_nil))) (fun _ _ => rfl)) (pa_cons (pv 7) pa_nil))))) pa_nil)))))) (pss_one (ps_expr (pe_bm PySem.F.plainAttrs_list PySem.F.slot_list_append PySem.F.type_list_append mt_append (pe_dget hu (pv 1) pe_str (fun _ _ => rfl)) (pa_cons (pe_tup (pa_cons pe_str (pa_cons (pv 7) (pa_cons (pe_call C__law_operand.ok (hr.mono (by decide)) (by rfl) C__law_operand.g C__law_operand.kp C__law_operand.b .nil pass0 (pa_cons (pv 0) (pa_cons (pv 1) pa_nil))) (pa_cons (pe_call C__law_place.ok (hr.mono (by decide)) (by rfl) C__law_place.g C__law_place.kp C__law_place.b .nil pass0 (pa_cons (pv 0) (pa_cons (pv 1) pa_nil))) pa_nil))))) pa_nil))))))) (pss_one (ps_if (pt_cmpR op_eq (pv 2) pe_int (nomark _)) (pss_one (ps_expr (pe_bm PySem.F.plainAttrs_list PySem.F.slot_list_append PySem.F.type_list_append mt_append (pe_dget hu (pv 1) pe_str (fun _ _ => rfl)) (pa_cons (pe_tup (pa_cons pe_str (pa_cons (pe_ix ix_list (pe_lst (pa_cons pe_str (pa_cons pe_str pa_nil))) (pe_call C__law_taken.ok (hr.mono (by decide)) (by rfl) C__law_taken.g C__law_taken.kp C__law_taken.b .nil pass0 (pa_cons (pv 0) (pa_cons pe_int pa_nil))) (fun _ _ => rfl)) (pa_cons (pe_call C__law_operand.ok (hr.mono (by decide)) (by rfl) C__law_operand.g C__law_operand.kp C__law_operand.b .nil pass0 (pa_cons (pv 0) (pa_cons (pv 1) pa_nil))) (pa_cons (pe_call C__law_place.ok (hr.mono (by decide)) (by rfl) C__law_place.g C__law_place.kp C__law_place.b .nil pass0 (pa_cons (pv 0) (pa_cons (pv 1) pa_nil))) pa_nil))))) pa_nil)))) (pss_cons (ps_set (i := 8) nd rfl (Or.inl rfl) (pe_tupleOf (by rfl) T.tuple (pe_lc (own := [("_law_k", 10)]) (g := gName 10) (by rfl) nd (pi_range1 rfl T.range (pa_cons (pe_call C__law_taken.ok (hr.mono (by decide)) (by rfl) C__law_taken.g C__law_taken.kp C__law_taken.b .nil pass0 (pa_cons (pv 0) (pa_cons pe_int pa_nil))) pa_nil)) (blkOk_by (own := [("_law_k", 10)]) (N := nLsg) (sc := defScope sLsg) (by decide +kernel)) (fun _ _ _ _ _ => (pg_name (i := 10) nd rfl (Or.inl rfl))) (fun _ _ _ _ _ => pts_nil) (fun _ _ _ _ _ => (pe_call C__law_operand.ok (hr.mono (by decide)) (by rfl) C__law_operand.g C__law_operand.kp C__law_operand.b .nil pass0 (pa_cons (pv 0) (pa_cons (pv 1) pa_nil)))))))
      (pss_cons (ps_set (i := 9) nd rfl (Or.inl rfl) (pe_ix ix_list (pe_lst (pa_cons pe_non (pa_cons pe_int pa_nil))) (pe_callTy call_int1 (by rfl) T.int (by decide +kernel) (pa_cons (pe_cmpR op_gt (pe_call C__law_taken.ok (hr.mono (by decide)) (by rfl) C__law_taken.g C__law_taken.kp C__law_taken.b .nil pass0 (pa_cons (pv 0) (pa_cons pe_int pa_nil))) pe_int (nomark _)) pa_nil)) (fun _ _ => rfl)))
      (pss_cons (ps_set (i := 9) nd rfl (Or.inl rfl) (pe_ifExp (pt_cmpR op_isN (pv 9) pe_non (nomark _)) (pv 9) (pe_call C__law_fresh.ok (hr.mono (by decide)) (by rfl) C__law_fresh.g C__law_fresh.kp C__law_fresh.b .nil pass0 (pa_cons (pv 0) (pa_cons (pv 1) pa_nil)))))
      (pss_one (ps_expr (pe_call C__law_lays.ok (hr.mono (by decide)) (by rfl) C__law_lays.g C__law_lays.kp C__law_lays.b .nil pass0 (pa_cons (pv 0) (pa_cons (pv 1) (pa_cons (pe_tup (pa_cons pe_str (pa_cons (pv 9) (pa_cons (pe_ix ix_list (pe_lst (pa_cons pe_str (pa_cons pe_str pa_nil))) (pe_call C__law_taken.ok (hr.mono (by decide)) (by rfl) C__law_taken.g C__law_taken.kp C__law_taken.b .nil pass0 (pa_cons (pv 0) (pa_cons pe_int pa_nil))) (fun _ _ => rfl)) (pa_cons (pe_ix ix_list (pe_lst (pa_cons pe_str (pa_cons pe_str pa_nil))) (pe_call C__law_taken.ok (hr.mono (by decide)) (by rfl) C__law_taken.g C__law_taken.kp C__law_taken.b .nil pass0 (pa_cons (pv 0) (pa_cons pe_int pa_nil))) (fun _ _ => rfl)) (pa_cons (pv 8) pa_nil)))))) pa_nil)))))))))))))))))))), ?_⟩
    dsimp only [cxK, cxKn, List.map]
    refine q_parR (r_cons (r_tg (n := 10) (ea_cons (ev_var rfl) (ea_cons ev_c ea_nil)) gs (by omega) fun H1 wy g1 f1 h0 h1 => r_cons (el_lst (vs := opsV) (ea_cons ev_c (ea_cons ev_c (ea_cons ev_c (ea_cons ev_c (ea_cons ev_c (ea_cons ev_c (ea_cons ev_c ea_nil))))))) (Nat.le_of_ble_eq_true rfl) H1 (Ex.refl H1) _ fun ol H2 hol e2 h2 => r_nil ⟨_, _, rfl, ?_⟩)))
    have g2 := g1.mono e2
    have f2 := f1.trans (fr_ex e2)
    obtain ⟨m1, m2, m3, m4⟩ := g1.ne_new hol
    have tw : ∀ {H3 : Hp} {c : Int} {s : L2.St}, EvT (tTest (tOp rEq (tVar 2) (tC (.int c)))) (some (.ref lr) :: some (.ref sd) :: some (.int wy) :: s) H3 (decide (V.int wy = V.int c)) := et_test (ev_op (ev_var rfl) ev_c (rv_eq rfl))
    refine s_if (b := decide (wy < 5)) (et_test (ev_op (ev_var rfl) ev_c rv_I0)) (fun hb H3 e3 => ?_) (fun hb H3 e3 => ?_)
    · refine q_parR (r_cons (r_opnd (ea_cons (ev_var rfl) (ea_cons (ev_var rfl) ea_nil)) (g2.mono e3) hne (by omega) fun H4 x1 g4 f4 hx1 => r_cons (r_opnd (ea_cons (ev_var rfl) (ea_cons (ev_var rfl) ea_nil)) g4 hne (by omega) fun H5 x2 g5 f5 hx2 => r_nil ⟨_, _, rfl, ?_⟩)))
      have f35 := (fr_ex e3).trans (f4.trans f5)
      have hol5 : H5 ol = some (.lst opsV) := Fr.at f35 h2 m1 m2 m3 m4
      refine s_dropR (r_call (r_consE (v := .ref lr) (ev_var rfl) fun H6 e6 => r_consE (v := .ref sd) (ev_var rfl) fun H7 e7 => r_cons (r_tup (r_cons (r_op (r_ev (v := .ref ol) (ev_var rfl) fun H8 e8 => r_tg (n := 7) (ea_cons (ev_var rfl) (ea_cons ev_c ea_nil)) (g5.mono (e6.trans (e7.trans e8))) (by omega) fun H9 ro g9 f9 k0 k1 => ?_))))))
      obtain ⟨o, ho⟩ := ops_at ro.toNat (by omega)
      have hol9 : H9 ol = some (.lst opsV) := f9.at ((e6.trans (e7.trans e8)) _ _ hol5) m1 m2 m3 m4
      refine ⟨ol, opsV, ro, .str o.word, rfl, rfl, sq_of hol9, by rw [show ro = ((ro.toNat : Nat) : Int) by omega]; exact atI_nat ho, r_cons (r_fsh (ea_cons (ev_var rfl) (ea_cons (ev_var rfl) ea_nil)) g9 (by omega) (by omega) fun H10 c nx g10 f10 => r_consE (v := .int x1) (ev_var rfl) fun H11 e11 => r_consE (v := .int x2) (ev_var rfl) fun H12 e12 => r_nil (k_lys (r := .two o c x1 x2 ⟨0, 0⟩) (q := ol) (g10.mono (e11.trans e12)) (by show g.rows.length ≤ 1000; omega) rfl rfl (fun z => by cases z) fun H13 pl g13 f13 => nxM ?_))⟩
      exact GPost.one k g13 (f2.trans (f35.trans ((fr_ex (e6.trans (e7.trans e8))).trans (f9.trans (f10.trans ((fr_ex (e11.trans e12)).trans f13)))))) rfl rfl rfl rfl rfl (fun x hx => by
        have : x = x1 ∨ x = x2 := by simpa [Row.at, Row.reads] using hx
        rcases this with rfl | rfl <;> assumption) trivial (Nat.le_refl _)
    · refine s_if (b := decide (V.int wy = V.int 5)) tw (fun hb H4 e4 => ?_) (fun hb H4 e4 => ?_)
      · have hp6 : ∀ {s : L2.St} {H' : Hp}, Ev (tOp (rI CPow fun i j => .int (i ^ j.toNat)) (tC (.int 10)) (tC (.int 6))) s H' (.int 1000000) := ev_op ev_c ev_c (rv_I (by unfold CPow; decide))
        refine q_asgR (r_op (r_lst (r_cons (r_tg (n := 9) (ea_cons (ev_var rfl) (ea_cons ev_c ea_nil)) (g2.mono (e3.trans e4)) (by omega) fun H5 a g5 f5 a0 a1 => r_cons (r_tg (n := 1000000) (ea_cons (ev_var rfl) (ea_cons hp6 ea_nil)) g5 (by omega) fun H6 b g6 f6 b0 b1 => r_cons (r_op (r_ev ev_c fun H7 e7 => r_tg (n := 9) (ea_cons (ev_var rfl) (ea_cons ev_c ea_nil)) (g6.mono e7) (by omega) fun H8 c g8 f8 c0 c1 => ⟨0, c, rfl, rfl, r_nil ⟨Nat.le_of_ble_eq_true rfl, fun p hp => ?_⟩⟩)))))))
        obtain ⟨p1, p2, p3, p4⟩ := g8.ne_new hp
        refine r_tg (n := 3) (ea_cons (ev_var rfl) (ea_cons ev_c ea_nil)) (g8.mono (Ex.new hp)) (by omega) fun H9 r3 g9 f9 k0 k1 => ?_
        have hp9 : H9 p = some (.lst [.int a, .int b, .int (0 - c)]) := f9.at upd_same p1 p2 p3 p4
        obtain ⟨z, hz1, hz2, hz3⟩ : ∃ z, [V.int a, .int b, .int (0 - c)][r3.toNat]? = some (.int z) ∧ -9 ≤ z ∧ z ≤ 1000000 := by
          rcases (show r3 = 0 ∨ r3 = 1 ∨ r3 = 2 by omega) with rfl | rfl | rfl
          · exact ⟨a, rfl, by omega, by omega⟩
          · exact ⟨b, rfl, by omega, by omega⟩
          · exact ⟨0 - c, rfl, by omega, by omega⟩
        refine ⟨p, _, r3, .int z, rfl, rfl, sq_of hp9, by rw [show r3 = ((r3.toNat : Nat) : Int) by omega]; exact atI_nat hz1, ?_⟩
        refine s_dropR (r_call (r_consE (v := .ref lr) (ev_var rfl) fun H10 e10 => r_consE (v := .ref sd) (ev_var rfl) fun H11 e11 => r_cons (r_tup (r_consE ev_c fun H12 e12 => r_cons (r_fsh (ea_cons (ev_var rfl) (ea_cons (ev_var rfl) ea_nil)) (g9.mono (e10.trans (e11.trans e12))) (by omega) (by omega) fun H13 c' nx g13 f13 => r_consE (v := .int z) (ev_var rfl) fun H14 e14 => r_nil (k_lys (r := .put c' z ⟨0, 0⟩) (q := p) (g13.mono e14) (by show g.rows.length ≤ 1000; omega) rfl rfl (fun z => by cases z) fun H15 pl g15 f15 => nxM ?_))))))
        exact GPost.one k g15 (f2.trans ((fr_ex (e3.trans e4)).trans (f5.trans (f6.trans ((fr_ex e7).trans (f8.trans ((fr_ex (Ex.new hp)).trans (f9.trans ((fr_ex (e10.trans (e11.trans e12))).trans (f13.trans ((fr_ex e14).trans f15))))))))))) rfl rfl rfl rfl rfl (fun x hx => by simp [Row.at, Row.reads] at hx) (by show 0 - big ≤ z ∧ z ≤ big; unfold big; omega) (Nat.le_refl _)
      · refine s_if (b := decide (V.int wy = V.int 6)) tw (fun hb H5 e5 => ?_) (fun hb H5 e5 => ?_)
        · have e25 := e3.trans (e4.trans e5)
          refine q_asgR (r_opnd (ea_cons (ev_var rfl) (ea_cons (ev_var rfl) ea_nil)) (g2.mono e25) hne (by omega) fun H6 x1 g6 f6 hx1 => ?_)
          refine s_dropR (r_call (r_consE (v := .ref lr) (ev_var rfl) fun H10 e10 => r_consE (v := .ref sd) (ev_var rfl) fun H11 e11 => r_cons (r_tup (r_consE ev_c fun H12 e12 => r_cons (r_fsh (ea_cons (ev_var rfl) (ea_cons (ev_var rfl) ea_nil)) (g6.mono (e10.trans (e11.trans e12))) (by omega) (by omega) fun H13 c' nx g13 f13 => r_consE (v := .int x1) (ev_var rfl) fun H14 e14 => r_nil (k_lys (r := .copy c' x1 ⟨0, 0⟩) (q := ol) (g13.mono e14) (by show g.rows.length ≤ 1000; omega) rfl rfl (fun z => by cases z) fun H15 pl g15 f15 => nxM ?_))))))
          exact GPost.one k g15 (f2.trans ((fr_ex e25).trans (f6.trans ((fr_ex (e10.trans (e11.trans e12))).trans (f13.trans ((fr_ex e14).trans f15)))))) rfl rfl rfl rfl rfl (fun x hx => by
            have : x = x1 := by simpa [Row.at, Row.reads] using hx
            subst this; exact hx1) trivial (Nat.le_refl _)
        · refine s_if (b := decide (V.int wy = V.int 7)) tw (fun hb H6 e6 => ?_) (fun hb H6 e6 => ?_)
          · have e26 := e3.trans (e4.trans (e5.trans e6))
            refine q_asgR (r_two (g2.mono e26) (fun e => (ea_cons (ev_var rfl) (ea_cons ev_c ea_nil))) fun H7 z g7 f7 hz7 => ?_)
            obtain ⟨nz, lz⟩ := nm_ka hz7
            have f07 := f2.trans ((fr_ex e26).trans f7)
            refine s_ifR (r_tg (n := 2) (ea_cons (ev_var rfl) (ea_cons ev_c ea_nil)) g7 (by omega) fun H8 r g8 f8 k0 k1 => k_eq ?_)
            by_cases hr0 : r = 0
            · rw [decide_eq_true hr0]
              refine s_dropR (r_call (r_consE (v := .ref lr) (ev_var rfl) fun H10 e10 => r_consE (v := .ref sd) (ev_var rfl) fun H11 e11 => r_cons (r_tup (r_consE ev_c fun H12 e12 => r_cons (r_fsh (ea_cons (ev_var rfl) (ea_cons (ev_var rfl) ea_nil)) (g8.mono (e10.trans (e11.trans e12))) (by omega) (by omega) fun H13 c' nx g13 f13 => r_cons (r_two g13 (fun e => (ea_cons (ev_var rfl) (ea_cons ev_c ea_nil))) fun H14 y g14 f14 hy => r_consE (v := .str z) (ev_var rfl) fun H15 e15 => r_nil (k_lys (r := .fetch c' y z ⟨0, 0⟩) (q := ol) (g14.mono e15) (by show g.rows.length ≤ 1000; omega) rfl rfl (fun z => by cases z) fun H16 pl g16 f16 => nxM ?_)))))))
              obtain ⟨ny, ly⟩ := nm_fg hy
              exact GPost.one k g16 (f07.trans (f8.trans ((fr_ex (e10.trans (e11.trans e12))).trans (f13.trans (f14.trans ((fr_ex e15).trans f16)))))) rfl rfl rfl rfl rfl (fun x hx => by simp [Row.at, Row.reads] at hx) (by
                refine ⟨?_, ny, nz⟩
                rw [Str.length_append]; omega) (Nat.le_refl _)
            · rw [decide_eq_false hr0]
              refine s_dropR (r_bmR g8 (g8.evR (ev_var rfl)) fun H10 e10 => r_cons (r_tup (r_consE ev_c fun H11 e11 => r_consE (v := .str z) (ev_var rfl) fun H12 e12 => r_cons (r_opnd (ea_cons (ev_var rfl) (ea_cons (ev_var rfl) ea_nil)) (g8.mono (e10.trans (e11.trans e12))) hne (by omega) fun H13 x1 g13 f13 hx1 => r_cons (r_pl (ea_cons (ev_var rfl) (ea_cons (ev_var rfl) ea_nil)) g13 fun H14 p pl g14 f14 hp => r_nil (k_row (r := .lay z x1 pl) (p := p) (q := p) g14 (by omega) rfl hp (fun z => by cases z) fun H15 g15 f15 => nxM ?_))))))
              exact GPost.one k g15 (f07.trans (f8.trans ((fr_ex (e10.trans (e11.trans e12))).trans (f13.trans (f14.trans f15))))) rfl rfl rfl (by simp [Row.lays]) rfl (fun x hx => by
                have : x = x1 := by simpa [Row.reads] using hx
                subst this; exact hx1) nz (Nat.le_refl _)
          · refine s_if (b := decide (V.int wy = V.int 8)) tw (fun hb H7 e7 => ?_) (fun hb H7 e7 => ?_)
            · have e27 := e3.trans (e4.trans (e5.trans (e6.trans e7)))
              have g7 := g2.mono e27
              refine s_dropR (r_bmR g7 (g7.evR (ev_var rfl)) fun H10 e10 => r_cons (r_tup (r_consE ev_c fun H11 e11 => r_cons (r_two (g7.mono (e10.trans e11)) (fun e => (ea_cons (ev_var rfl) (ea_cons ev_c ea_nil))) fun H12 z g12 f12 hz12 => r_cons (r_opnd (ea_cons (ev_var rfl) (ea_cons (ev_var rfl) ea_nil)) g12 hne (by omega) fun H13 x1 g13 f13 hx1 => r_cons (r_pl (ea_cons (ev_var rfl) (ea_cons (ev_var rfl) ea_nil)) g13 fun H14 p pl g14 f14 hp => r_nil (k_row (r := .say z x1 pl) (p := p) (q := p) g14 (by omega) rfl hp (fun z => by cases z) fun H15 g15 f15 => nxM ?_)))))))
              exact GPost.one k g15 (f2.trans ((fr_ex (e27.trans (e10.trans e11))).trans (f12.trans (f13.trans (f14.trans f15))))) rfl rfl rfl (by simp [Row.lays]) rfl (fun x hx => by
                have : x = x1 := by simpa [Row.reads] using hx
                subst this; exact hx1) (nm_kd hz12).1 (Nat.le_refl _)
            · have e27 := e3.trans (e4.trans (e5.trans (e6.trans e7)))
              have g7 := g2.mono e27
              refine q_asgR (r_then (r_lcTg (n := 4) (ea_cons (ev_var rfl) (ea_cons ev_c ea_nil)) g7 (by omega) fun H8 n g8 f8 hn D hD => ?_))
              obtain ⟨d1, d2, d3, d4⟩ := g8.ne_new hD
              have d5 : D ≠ na := fun z => by have := g8.atN; rw [← z, hD] at this; cases this
              have hBD : HB D = none := fresh_back g8.l.ex hD
              refine ⟨fun i H' => GS K HB H' lr sc xs sd ra da na g ∧ Fr H8 lr sd ra da H' ra da ∧ ∃ cs : List Int, cs.length = i ∧ H' D = some (.lst (cs.map V.int)) ∧ ∀ c ∈ cs, c ∈ g.laid, ⟨g8.mono (Ex.new hD), fr_ex (Ex.new hD), [], rfl, upd_same, by simp⟩, fun i H' hi p => ?_, fun H' p => ?_⟩
              · obtain ⟨gi, fi, cs, hc1, hc2, hc3⟩ := p
                refine ⟨rfl, ?_⟩
                dsimp only [tYes]
                rw [if_pos rfl]
                refine r_opnd (ea_cons (ev_var rfl) (ea_cons (ev_var rfl) ea_nil)) gi hne (by omega) fun H9 x g9 f9 hx => ⟨cs.map V.int, f9.at hc2 d1 d2 d3 d4, sz_lt (by rw [List.length_map]; omega), g9.but (f9.at hc2 d1 d2 d3 d4) hBD d1 d3 d4 d5, fr_mut (fi.trans f9) hD, cs ++ [x], by simp [hc1], by rw [upd_same]; simp, fun c hc => ?_⟩
                rcases List.mem_append.mp hc with h | h
                · exact hc3 c h
                · have : c = x := by simpa using h
                  subst this; exact hx
              · obtain ⟨g9, f9, cs, hc1, hc2, hc3⟩ := p
                refine .inl ⟨D, _, rfl, sq_of hc2, fun q hq => ?_⟩
                have g10 := g9.mono (Ex.new (o := .tup (cs.map V.int)) hq)
                have hq10 : (upd H' q (.tup (cs.map V.int))) q = some (.tup (cs.map V.int)) := upd_same
                have f10 : Fr H lr sd ra da (upd H' q (.tup (cs.map V.int))) ra da := f2.trans ((fr_ex e27).trans (f8.trans (f9.trans (fr_ex (Ex.new hq)))))
                generalize upd H' q (.tup (cs.map V.int)) = H10 at g10 hq10 f10
                refine q_asgR (r_op (r_lst (r_consE ev_c fun H11 e11 => r_consE ev_c fun H12 e12 => r_nil ⟨Nat.le_of_ble_eq_true rfl, fun p hp => r_cb (r_cons (r_op (r_tg (n := 3) (ea_cons (ev_var rfl) (ea_cons ev_c ea_nil)) (g10.mono (e11.trans (e12.trans (Ex.new hp)))) (by omega) fun H14 r g14 f14 k0 k1 => r_ev ev_c fun H15 e15 => ⟨r, 0, rfl, rfl, r_nil (.inr ⟨decide (0 < r), rfl, ?_⟩)⟩)))⟩)))
                have g12 := g10.mono (e11.trans e12)
                obtain ⟨p1, p2, p3, p4⟩ := g12.ne_new hp
                have hp15 : H15 p = some (.lst [.non, .int 0]) := e15 _ _ (f14.at upd_same p1 p2 p3 p4)
                have e10p := e11.trans (e12.trans (Ex.new (o := .lst [.non, .int 0]) hp))
                have g15 := g14.mono e15
                have f15 : Fr H10 lr sd ra da H15 ra da := (fr_ex e10p).trans (f14.trans (fr_ex e15))
                have hq15 := g10.tl f15 _ _ hq10
                obtain ⟨v, hv1, hv2⟩ : ∃ v, atI [V.non, .int 0] (if decide (0 < r) = true then 1 else 0) = some v ∧ (v = .int 0 ∨ v = .non) := by
                  by_cases h : 0 < r
                  · exact ⟨.int 0, by rw [decide_eq_true h]; rfl, .inl rfl⟩
                  · exact ⟨.non, by rw [decide_eq_false h]; rfl, .inr rfl⟩
                refine ⟨p, _, _, v, rfl, rfl, sq_of hp15, hv1, ?_⟩
                refine q_asgK (fun v' H' => ∃ (co : Option Int) (nx : Int), v' = oV co ∧ GS K HB H' lr sc xs sd ra da na { g with next := nx } ∧ Fr H lr sd ra da H' ra da ∧ H' q = some (.tup (cs.map V.int))) (fun v' H16 m => ?_) (fun kk => ?_)
                · obtain ⟨co, nx, rfl, g16, f16, hq16⟩ := m
                  refine s_dropR (r_call (r_consE (v := .ref lr) (ev_var rfl) fun H17 e17 => r_consE (v := .ref sd) (ev_var rfl) fun H18 e18 => r_cons (r_tup (r_consE ev_c fun H19 e19 => r_consE (v := oV co) (ev_var rfl) fun H20 e20 => r_cons (r_two (g16.mono (e17.trans (e18.trans (e19.trans e20)))) (fun e => (ea_cons (ev_var rfl) (ea_cons ev_c ea_nil))) fun H21 fz g21 f21 hfz => r_cons (r_two g21 (fun e => (ea_cons (ev_var rfl) (ea_cons ev_c ea_nil))) fun H22 dz g22 f22 hdz => r_consE (v := .ref q) (ev_var rfl) fun H23 e23 => r_nil (k_lys (r := .call co fz dz cs ⟨0, 0⟩) (q := q) (g22.mono e23) (by show g.rows.length ≤ 1000; omega) rfl rfl (fun _ => ?_) fun H24 pl g24 f24 => nxM ?_)))))))
                  · exact g16.tl ((fr_ex (e17.trans (e18.trans (e19.trans e20)))).trans (f21.trans (f22.trans (fr_ex e23)))) _ _ hq16
                  · obtain ⟨nf, lf⟩ := nm_fg hfz
                    obtain ⟨nd', ld⟩ := nm_da hdz
                    exact GPost.one k g24 (f16.trans ((fr_ex (e17.trans (e18.trans (e19.trans e20)))).trans (f21.trans (f22.trans ((fr_ex e23).trans f24))))) rfl rfl rfl rfl rfl (fun x hx => hc3 x hx) ⟨⟨by rw [Str.length_append]; omega, by rw [hc1]; omega⟩, nf, nd'⟩ (Nat.le_refl _)
                · rcases hv2 with rfl | rfl
                  · refine r_ifF (et_is (et_isN (ev_var rfl)) (by simp)) fun H16 e16 => r_fsh (ea_cons (ev_var rfl) (ea_cons (ev_var rfl) ea_nil)) (g15.mono e16) (by omega) (by omega) fun H17 c nx g17 f17 => kk _ _ ⟨some c, nx, rfl, g17, f10.trans (f15.trans ((fr_ex e16).trans f17)), (g15.mono e16).tl f17 _ _ (e16 _ _ hq15)⟩
                  · refine r_ifT (et_is (et_isN (ev_var rfl)) (by simp)) fun H16 e16 => r_ev (v := .non) (ev_var rfl) fun H17 e17 => kk _ _ ⟨none, g.next, rfl, g15.mono (e16.trans e17), f10.trans (f15.trans (fr_ex (e16.trans e17))), (e16.trans e17) _ _ hq15⟩
end
end K51

/-! Walks 22: block. -/
namespace K51
open PySem L2 Evl
def Mb : Nat → Nat
  | 0 => 0
  | d + 1 => max 64 (Mb d) + 23
theorem Mb_le (d : Nat) : Mb d ≤ Mb (d + 1) := by show Mb d ≤ max 64 (Mb d) + 23; omega
section
variable {P : Program} {w : World} {K : PySem.W.Frag} {mg : Str → Option Value} {base : Heap} {o1 o2 o3 o4 o5 : Addr}
section
variable {HB H H' : Hp} {lr sc : Addr} {xs : List Int} {sd ra da na ra' da' : Addr} {g g' : GM} {σ : L2.St} {Q : VK} {E : XK}
/-- rows were made from H on -/
def GInv (K : PySem.W.Frag) (HB H : Hp) (lr sc : Addr) (xs : List Int) (sd ra da na : Addr) (g : GM) (sz : Nat) (H' : Hp) : Prop := ∃ ra' da' g' code, GS K HB H' lr sc xs sd ra' da' na g' ∧ Fr H lr sd ra da H' ra' da' ∧ g'.rows = g.rows ++ code ∧ Frag g.labels g'.labels g.laid code g'.laid ∧ g'.rows.length ≤ sz ∧ g'.named = g.named ∧ ∀ x ∈ g.laid, x ∈ g'.laid
theorem GPost.go {sz : Nat} (k : GPost K HB H lr sc xs sd ra da na g sz Q) (h : GInv K HB H lr sc xs sd ra da na g sz H') : Q .non H' :=
  let ⟨ra', da', g', code, h1, h2, h3, h4, h5, h6, h7⟩ := h
  k H' ra' da' g' code h1 h2 h3 h4 h5 h6 h7
theorem GPost.mk {sz : Nat} (k : ∀ H', GInv K HB H lr sc xs sd ra da na g sz H' → Q .non H') : GPost K HB H lr sc xs sd ra da na g sz Q := fun H' ra' da' g' code h1 h2 h3 h4 h5 h6 h7 => k H' ⟨ra', da', g', code, h1, h2, h3, h4, h5, h6, h7⟩
theorem GInv.start {sz : Nat} (gs : GS K HB H lr sc xs sd ra da na g) (e : Ex H H') (hz : g.rows.length ≤ sz) : GInv K HB H lr sc xs sd ra da na g sz H' := ⟨ra, da, g, [], gs.mono e, fr_ex e, by simp, .nil, hz, rfl, fun _ h => h⟩
theorem GInv.mono {sz sz' : Nat} {H2 : Hp} (h : GInv K HB H lr sc xs sd ra da na g sz H') (e : Ex H' H2) (hz : sz ≤ sz') : GInv K HB H lr sc xs sd ra da na g sz' H2 :=
  let ⟨ra', da', g', code, h1, h2, h3, h4, h5, h6, h7⟩ := h
  ⟨ra', da', g', code, h1.mono e, h2.trans (fr_ex e), h3, h4, by omega, h6, h7⟩
/-- more behind -/
theorem GInv.app {sz : Nat} {H2 : Hp} {code : List Row} (f : Fr H lr sd ra da H' ra' da') (h3 : g'.rows = g.rows ++ code) (h4 : Frag g.labels g'.labels g.laid code g'.laid) (h6 : g'.named = g.named) (h7 : ∀ x ∈ g.laid, x ∈ g'.laid) (h : GInv K HB H' lr sc xs sd ra' da' na g' sz H2) : GInv K HB H lr sc xs sd ra da na g sz H2 :=
  let ⟨ra2, da2, g2, code2, k1, k2, k3, k4, k5, k6, k7⟩ := h
  ⟨ra2, da2, g2, code ++ code2, k1, f.trans k2, by rw [k3, h3, List.append_assoc], .app h4 k4, k5, by rw [k6, h6], fun x hx => k7 x (h7 x hx)⟩
theorem GInv.ofPost {sz : Nat} : GPost K HB H lr sc xs sd ra da na g sz fun _ H' => GInv K HB H lr sc xs sd ra da na g sz H' := .mk fun _ h => h
theorem s_forTg {tr : TA} {j : Nat} {n : Int} {tu : TS} {D : Ends} (ha : EvA tr σ H [.ref lr, .int n]) (gs : GS K HB H lr sc xs sd ra da na g) (hn : 1 ≤ n ∧ n ≤ 10000) (k : ∀ H1 (m : Nat), GS K HB H1 lr sc xs sd ra da na g → Fr H lr sd ra da H1 ra da → (m : Int) ≤ n → ∃ Pv : Nat → L2.St → Hp → Prop, Pv 0 σ H1 ∧ (∀ (i : Nat) σ' H', i < m → Pv i σ' H' → tu { D with nx := Pv (i + 1), ct := Pv (i + 1), bk := D.nx } (σ'.set j (some (.int (i : Int)))) H') ∧ ∀ σ' H', Pv m σ' H' → D.nx σ' H') :
    tFor (iRng1 (tCons (tOp (rI0 fun i j => .int (i + j)) (tC (.int 1)) (tCall (spLt K) [] E tr)) tNil)) (gName j) tu D σ H := by
  unfold tFor iRng1
  refine r_cons (r_op (r_ev ev_c fun H0 e0 => r_tg (ha.mono e0) (gs.mono e0) ⟨hn.1, by omega⟩ fun H1 r g1 f1 h0 h1 => ⟨1, r, rfl, rfl, r_nil ⟨1 + r, rfl, by omega, by omega, ?_⟩⟩))
  obtain ⟨Pv, p0, ps, pd⟩ := k H1 (1 + r).toNat g1 ((fr_ex e0).trans f1) (by omega)
  exact for_range (lo := 0) (n := (1 + r).toNat) Pv p0 (fun i σ' H' hi p => by
    have e0 : (0 : Int) + (i : Int) = (i : Int) := Int.zero_add _
    show tu { D with nx := Pv (i + 1), ct := Pv (i + 1), bk := D.nx } (σ'.set j (some (.int ((0 : Int) + (i : Int))))) H'
    rw [e0]
    exact ps i σ' H' hi p) pd
theorem q_forTg {tr : TA} {j : Nat} {n : Int} {tu tz : TS} {D : Ends} (ha : EvA tr σ H [.ref lr, .int n]) (gs : GS K HB H lr sc xs sd ra da na g) (hn : 1 ≤ n ∧ n ≤ 10000) (k : ∀ H1 (m : Nat), GS K HB H1 lr sc xs sd ra da na g → Fr H lr sd ra da H1 ra da → (m : Int) ≤ n → ∃ Pv : Nat → L2.St → Hp → Prop, Pv 0 σ H1 ∧ (∀ (i : Nat) σ' H', i < m → Pv i σ' H' → tu { D with nx := Pv (i + 1), ct := Pv (i + 1), bk := tz D } (σ'.set j (some (.int (i : Int)))) H') ∧ ∀ σ' H', Pv m σ' H' → tz D σ' H') :
    tSeq (tFor (iRng1 (tCons (tOp (rI0 fun i j => .int (i + j)) (tC (.int 1)) (tCall (spLt K) [] E tr)) tNil)) (gName j) tu) tz D σ H := s_forTg (D := { D with nx := tz D }) ha gs hn k
/-- line or labels or next is set -/
theorem q_setLine {v : Int} {td ty tv : TE} {D : Ends} {tz : TS} (gs : GS K HB H lr sc xs sd ra da na g) (hv : Ev tv σ H (.int v)) (ha : Ev td σ H (.ref sd)) (hk : Ev ty σ H (.str "line")) (n : ∀ H1, GS K HB H1 lr sc xs sd ra da na { g with line := v } → Fr H lr sd ra da H1 ra da → tz D σ H1) : tSeq (sDPut td ty tv) tz D σ H :=
  q_dput (k := Sum.inr "line") gs.atS hv ha hk (by unfold sD; simp) fun H1 e1 => by
    rw [put_line]
    exact n _ (gs.mono e1).setS ((fr_ex e1).trans fr_sd)
theorem q_setLabels {v : Int} {td ty tv : TE} {D : Ends} {tz : TS} (gs : GS K HB H lr sc xs sd ra da na g) (hv : Ev tv σ H (.int v)) (ha : Ev td σ H (.ref sd)) (hk : Ev ty σ H (.str "labels")) (n : ∀ H1, GS K HB H1 lr sc xs sd ra da na { g with labels := v } → Fr H lr sd ra da H1 ra da → tz D σ H1) : tSeq (sDPut td ty tv) tz D σ H :=
  q_dput (k := Sum.inr "labels") gs.atS hv ha hk (by unfold sD; simp) fun H1 e1 => by
    rw [put_labels]
    exact n _ (gs.mono e1).setS ((fr_ex e1).trans fr_sd)
theorem q_setNext {v : Int} {td ty tv : TE} {D : Ends} {tz : TS} (gs : GS K HB H lr sc xs sd ra da na g) (hv : Ev tv σ H (.int v)) (ha : Ev td σ H (.ref sd)) (hk : Ev ty σ H (.str "next")) (n : ∀ H1, GS K HB H1 lr sc xs sd ra da na { g with next := v } → Fr H lr sd ra da H1 ra da → tz D σ H1) : tSeq (sDPut td ty tv) tz D σ H :=
  q_dput (k := Sum.inr "next") gs.atS hv ha hk (by unfold sD; simp) fun H1 e1 => by
    rw [put_next]
    exact n _ (gs.mono e1).setS ((fr_ex e1).trans fr_sd)
/-- rows.append(("begin", (line, 3))) -/
theorem q_begin {D : Ends} {tz : TS} {td : TE} (gs : GS K HB H lr sc xs sd ra da na g) (ht : ∀ {H1 : Hp}, Ev td σ H1 (.ref sd)) (hz : g.rows.length ≤ 1000) (k : ∀ H3, GS K HB H3 lr sc xs sd ra da na { g with rows := g.rows ++ [.begin ⟨g.line, 3⟩] } → Fr H lr sd ra da H3 ra da → tz D σ H3) :
    tSeq (tDrop (tBM K "list" rAppend (tDGet td (tC (.str "rows"))) (tCons (tTup (tCons (tC (.str "begin")) (tCons (tTup (tCons (tDGet td (tC (.str "line"))) (tCons (tC (.int 3)) tNil))) tNil))) tNil))) tz D σ H := by
  refine q_dropR (r_bmR gs (gs.evR ht) fun H1 e1 => r_cons (r_tup (r_consE ev_c fun H2 e2 => r_cons (r_tup (r_consE ((gs.mono (e1.trans e2)).evLine ht) fun H3 e3 => r_consE ev_c fun H4 e4 => r_nil ⟨Nat.le_of_ble_eq_true rfl, fun p hp => r_nil (k_row (r := .begin ⟨g.line, 3⟩) (p := p) (q := p) (gs.mono (e1.trans (e2.trans (e3.trans (e4.trans (Ex.new hp)))))) hz rfl upd_same (fun z => by cases z) fun H5 g5 f5 => ?_)⟩)))))
  exact k H5 g5 ((fr_ex (e1.trans (e2.trans (e3.trans (e4.trans (Ex.new hp)))))).trans f5)
end
abbrev sLbk : Stmt := top 39
abbrev nLbk : List Str := ["_law_row", "_law_s", "_law_deep", "_law_again", "_law_more", "_law_way"]
theorem scLbk : FnScope nLbk ["_law_row", "_law_s", "_law_deep"] (defScope sLbk) := ⟨rfl, rfl, rfl, by decide +kernel, rfl, by decide +kernel, by decide +kernel⟩
def spLbk (K0 : PySem.W.Frag) (d : Nat) : Sp := fun vs H Q _ => ∃ HB lr sc xs sd ra da na g, vs = [.ref lr, .ref sd, .int (d : Nat)] ∧ GS K0 HB H lr sc xs sd ra da na g ∧ g.laid ≠ [] ∧ g.rows.length ≤ 700 ∧ g.named.length ≤ 1000 ∧ GPost K0 HB H lr sc xs sd ra da na g (max g.rows.length (Mb d) + 12) Q
/-- an if, a round, d + 1 deep -/
def spLch (K0 : PySem.W.Frag) (d : Nat) : Sp := fun vs H Q _ => ∃ HB lr sc xs sd ra da na g, vs = [.ref lr, .ref sd, .int ((d + 1 : Nat) : Int)] ∧ GS K0 HB H lr sc xs sd ra da na g ∧ g.laid ≠ [] ∧ g.rows.length ≤ 59 ∧ g.named.length ≤ 1000 ∧ GPost K0 HB H lr sc xs sd ra da na g (Mb (d + 1) + 4) Q
def spCR (K0 : PySem.W.Frag) : Nat → Sp
  | 0 => fun _ _ _ _ => False
  | d + 1 => spLch K0 d
theorem ok_Lbk {f f1 f2 f3 f4 : Addr} {fd d1 d2 d3 d4 : FuncData} (F : Fun K "_law_block" "_law_block" sLbk f fd) (T : Txt K mg o1 o2 o3 o4 o5) {d : Nat} (hd : Mb d ≤ 700) (C__law_taken : TkAt P w K mg base f1 d1) (C__law_straight : CalAt P w K mg base 4 "_law_straight" ["_law_row", "_law_s"] (spLsg K) f2 d2)
    (C__law_choice : CalAt P w K mg base (2 * d + 4) "_law_choice" ["_law_row", "_law_s", "_law_deep"] (spCR K d) f3 d3) (C__law_round : CalAt P w K mg base (2 * d + 4) "_law_round" ["_law_row", "_law_s", "_law_deep"] (spCR K d) f4 d4) : FnOk P w K mg base CX0 (2 * d + 5) f fd ["_law_row", "_law_s", "_law_deep"] (spLbk K d) := by
  refine F.ok scLbk (fun vs H Q E h => ?_) (fun cdv A outer s H vs Q E hr h => ?_)
  · obtain ⟨HB, lr, sc, xs, sd, ra, da, na, g, rfl, _⟩ := h; rfl
  · obtain ⟨HB, lr, sc, xs, sd, ra, da, na, g, rfl, gs, hne, hz, hnz, k⟩ := h
    have nd := scLbk.nd
    have hu := hu_of hr
    refine ⟨_, (pss_one (ps_for PassesOwn.never rfl (pi_range1 rfl T.range (pa_cons (pe_op op_add pe_int (pe_call C__law_taken.ok (hr.mono (by omega)) (by rfl) C__law_taken.g C__law_taken.kp C__law_taken.b .nil pass0 (pa_cons (pv 0) (pa_cons pe_int pa_nil)))) pa_nil)) (pg_name (i := 3) nd rfl (Or.inl rfl)) (pss_cons (ps_dput hu (pv 1) pe_str (pe_op op_add (pe_dget hu (pv 1) pe_str (fun _ _ => rfl)) pe_int) rfl)
      (pss_cons (ps_expr (pe_bm PySem.F.plainAttrs_list PySem.F.slot_list_append PySem.F.type_list_append mt_append (pe_dget hu (pv 1) pe_str (fun _ _ => rfl)) (pa_cons (pe_tup (pa_cons pe_str (pa_cons (pe_tup (pa_cons (pe_dget hu (pv 1) pe_str (fun _ _ => rfl)) (pa_cons pe_int pa_nil))) pa_nil))) pa_nil)))
      (pss_cons (ps_for PassesOwn.never rfl (pi_range1 rfl T.range (pa_cons (pe_op op_add pe_int (pe_call C__law_taken.ok (hr.mono (by omega)) (by rfl) C__law_taken.g C__law_taken.kp C__law_taken.b .nil pass0 (pa_cons (pv 0) (pa_cons pe_int pa_nil)))) pa_nil)) (pg_name (i := 4) nd rfl (Or.inl rfl)) (pss_one (ps_expr (pe_call C__law_straight.ok (hr.mono (by omega)) (by rfl) C__law_straight.g C__law_straight.kp C__law_straight.b .nil pass0 (pa_cons (pv 0) (pa_cons (pv 1) pa_nil))))))
      (pss_cons (ps_set (i := 5) nd rfl (Or.inl rfl) (pe_ifExp (pw_and (pt_cmpR op_gt (pv 2) pe_int (nomark _)) (pw_and1 (pt_cmpR op_lt (pe_callB call_len_seq (by rfl) T.len PySem.boot_len (pa_cons (pe_dget hu (pv 1) pe_str (fun _ _ => rfl)) pa_nil)) pe_int (nomark _)))).pt (pe_call C__law_taken.ok (hr.mono (by omega)) (by rfl) C__law_taken.g C__law_taken.kp C__law_taken.b .nil pass0 (pa_cons (pv 0) (pa_cons pe_int pa_nil))) pe_int))
      (pss_cons (ps_if (pt_cmpR op_eq (pv 5) pe_int (nomark _)) (pss_one (ps_expr (pe_call C__law_choice.ok (hr.mono (by omega)) (by rfl) C__law_choice.g C__law_choice.kp C__law_choice.b .nil pass0 (pa_cons (pv 0) (pa_cons (pv 1) (pa_cons (pv 2) pa_nil)))))) pss_nil)
      (pss_one (ps_if (pt_cmpR op_eq (pv 5) pe_int (nomark _)) (pss_one (ps_expr (pe_call C__law_round.ok (hr.mono (by omega)) (by rfl) C__law_round.g C__law_round.kp C__law_round.b .nil pass0 (pa_cons (pv 0) (pa_cons (pv 1) (pa_cons (pv 2) pa_nil)))))) pss_nil))))))))), ?_⟩
    dsimp only [cxK, cxKn, List.map]
    have sub : ∀ {L : List Int}, (∀ x ∈ g.laid, x ∈ L) → L ≠ [] := fun h z => by
      obtain ⟨x, hx⟩ := List.exists_mem_of_ne_nil _ hne
      have := h x hx
      rw [z] at this; cases this
    refine s_forTg (n := 3) (ea_cons (ev_var rfl) (ea_cons ev_c ea_nil)) gs (by omega) fun H1 m g1 f1 hm => ⟨fun i σ' H' => (∃ u3 u4 u5, σ' = [some (.ref lr), some (.ref sd), some (.int (d : Nat)), u3, u4, u5]) ∧ GInv K HB H lr sc xs sd ra da na g (max g.rows.length (Mb d) + 4 * i) H', ⟨⟨_, _, _, rfl⟩, ra, da, g, [], g1, f1, by simp, .nil, by omega, rfl, fun _ h => h⟩, fun i σ' H' hi p => ?_, fun σ' H' p => nxM (k.go (p.2.mono (Ex.refl _) (by omega)))⟩
    obtain ⟨⟨u3, u4, u5, rfl⟩, ra1, da1, gg, code, g2, f2, r2, fr2, l2, n2, s2⟩ := p
    refine q_setLine g2 (ev_op (g2.evLine (ev_var rfl)) ev_c rv_I0) (ev_var rfl) ev_c fun H3 g3 f3 => ?_
    refine q_begin g3 (ev_var rfl) (by show gg.rows.length ≤ 1000; omega) fun H4 g4 f4 => ?_
    refine q_forTg (n := 3) (ea_cons (ev_var rfl) (ea_cons ev_c ea_nil)) g4 (by omega) fun H5 m2 g5 f5 hm2 => ⟨fun j σ' H' => (∃ u4, σ' = [some (.ref lr), some (.ref sd), some (.int (d : Nat)), some (.int (i : Nat)), u4, u5]) ∧ GInv K HB H lr sc xs sd ra da na g (max g.rows.length (Mb d) + 4 * i + 1 + j) H',
      ⟨⟨_, rfl⟩, ra1, da1, _, code ++ [.begin ⟨gg.line + 1, 3⟩], g5, f2.trans (f3.trans (f4.trans f5)), by show gg.rows ++ _ = _; rw [r2, List.append_assoc], .app fr2 (Frag.one (r := .begin ⟨gg.line + 1, 3⟩) rfl (by simp [Row.reads]) trivial (fun x hx => .inl hx)), by show (gg.rows ++ _).length ≤ _; simp; omega, n2, s2⟩, fun j σ' H' hj p => ?_, fun σ' H' p => ?_⟩
    · obtain ⟨⟨u4, rfl⟩, ra6, da6, gm, code6, g6, f6, r6, fr6, l6, n6, s6⟩ := p
      refine s_dropR (r_call (r_ea (ea_cons (ev_var rfl) (ea_cons (ev_var rfl) ea_nil)) fun H7 e7 => ⟨HB, lr, sc, xs, sd, ra6, da6, na, gm, rfl, g6.mono e7, sub s6, by omega, by rw [n6]; exact hnz, .mk fun H8 h8 => nxM ⟨⟨_, rfl⟩, (GInv.app (f6.trans (fr_ex e7)) r6 fr6 n6 s6 h8).mono (Ex.refl _) (by omega)⟩⟩))
    · obtain ⟨⟨u4, rfl⟩, ra7, da7, gm, code7, g7, f7, r7, fr7, l7, n7, s7⟩ := p
      refine q_asgK (fun v H' => ∃ wy : Int, v = .int wy ∧ GS K HB H' lr sc xs sd ra7 da7 na gm ∧ Fr H lr sd ra da H' ra7 da7 ∧ ((wy = 2 ∨ wy = 3) → gm.rows.length ≤ 59 ∧ ∃ d', d = d' + 1)) (fun v H8 mm => ?_) (fun kk => ?_)
      · obtain ⟨wy, rfl, g8, f8, hw⟩ := mm
        have tw : ∀ {H3 : Hp} {c : Int} {a0 a1 a2 a3 a4 : Option V}, EvT (tTest (tOp rEq (tVar 5) (tC (.int c)))) [a0, a1, a2, a3, a4, some (.int wy)] H3 (decide (V.int wy = V.int c)) := et_test (ev_op (ev_var rfl) ev_c (rv_eq rfl))
        have done : ∀ {sz : Nat} {H9 H10 H11 : Hp}, Ex H8 H9 → GInv K HB H9 lr sc xs sd ra7 da7 na gm sz H10 → Ex H10 H11 → sz ≤ max g.rows.length (Mb d) + 4 * (i + 1) → GInv K HB H lr sc xs sd ra da na g (max g.rows.length (Mb d) + 4 * (i + 1)) H11 := fun e9 h e11 hs => (GInv.app (f8.trans (fr_ex e9)) r7 fr7 n7 s7 h).mono e11 hs
        by_cases h2 : wy = 2
        · obtain ⟨hl, d', rfl⟩ := hw (.inl h2)
          subst h2
          refine q_take (et_is tw rfl) fun H9 e9 => ?_
          refine s_dropR (r_call (r_ea (ea_cons (ev_var rfl) (ea_cons (ev_var rfl) (ea_cons (ev_var rfl) ea_nil))) fun H10 e10 => ⟨HB, lr, sc, xs, sd, ra7, da7, na, gm, rfl, g8.mono (e9.trans e10), sub s7, hl, by rw [n7]; exact hnz, .mk fun H11 h11 => nxM ?_⟩))
          refine s_when (b := false) (et_is tw rfl) (fun z => by cases z) fun _ H12 e12 => nxM ⟨⟨_, _, _, rfl⟩, done (e9.trans e10) h11 e12 (by omega)⟩
        · refine q_skip (et_is tw (by simp [h2])) fun H9 e9 => ?_
          by_cases h3 : wy = 3
          · obtain ⟨hl, d', rfl⟩ := hw (.inr h3)
            subst h3
            refine s_when (b := true) (et_is tw rfl) (fun _ H10 e10 => ?_) (fun z => by cases z)
            refine s_dropR (r_call (r_ea (ea_cons (ev_var rfl) (ea_cons (ev_var rfl) (ea_cons (ev_var rfl) ea_nil))) fun H11 e11 => ⟨HB, lr, sc, xs, sd, ra7, da7, na, gm, rfl, g8.mono (e9.trans (e10.trans e11)), sub s7, hl, by rw [n7]; exact hnz, .mk fun H12 h12 => nxM ⟨⟨_, _, _, rfl⟩, done (e9.trans (e10.trans e11)) h12 (Ex.refl _) (by omega)⟩⟩))
          · refine s_when (b := false) (et_is tw (by simp [h3])) (fun z => by cases z) fun _ H10 e10 => nxM ⟨⟨_, _, _, rfl⟩, done (sz := gm.rows.length) (Ex.refl _) (GInv.start g8 (Ex.refl _) (Nat.le_refl _)) (e9.trans e10) (by omega)⟩
      · obtain ⟨as, ha1, ha2⟩ := g7.atR
        have hl := ev_len (K := K) (σ := [some (V.ref lr), some (.ref sd), some (.int (d : Nat)), some (.int (i : Nat)), u4, u5]) (H := H') (ta := tDGet (tVar 1) (tC (.str "rows"))) (g7.evR (ev_var rfl)) (sq_of ha1)
        rw [List.length_map, ha2.1] at hl
        have hc := et_and (a := decide (((d : Nat) : Int) > 0)) (b := decide ((gm.rows.length : Int) < 60)) (et_test (ev_op (r := rI0 fun i j => V.bl (decide (j < i))) (tb := tC (.int 0)) (ev_var (i := 2) (σ := [some (V.ref lr), some (.ref sd), some (.int (d : Nat)), some (.int (i : Nat)), u4, u5]) (H := H') rfl) ev_c rv_I0)) fun _ => et_test (ev_op (r := rI0 fun i j => V.bl (decide (i < j))) (tb := tC (.int 60)) hl ev_c rv_I0)
        by_cases h0 : 0 < d ∧ gm.rows.length < 60
        · refine r_ifT (et_is hc (by rw [decide_eq_true (show ((d : Nat) : Int) > 0 by omega), decide_eq_true (show (gm.rows.length : Int) < 60 by omega)]; rfl)) fun H8 e8 => r_tg (n := 4) (ea_cons (ev_var rfl) (ea_cons ev_c ea_nil)) (g7.mono e8) (by omega) fun H9 wy g9 f9 k0 k1 => kk _ _ ⟨wy, rfl, g9, f7.trans ((fr_ex e8).trans f9), fun _ => ⟨by omega, d - 1, by omega⟩⟩
        · refine r_ifF (et_is hc ?_) fun H8 e8 => r_ev (v := .int 0) ev_c fun H9 e9 => kk _ _ ⟨0, rfl, g7.mono (e8.trans e9), f7.trans (fr_ex (e8.trans e9)), fun z => by omega⟩
          by_cases hd0 : 0 < d
          · rw [decide_eq_false (show ¬ (gm.rows.length : Int) < 60 by omega), Bool.and_false]
          · rw [decide_eq_false (show ¬ ((d : Nat) : Int) > 0 by omega), Bool.false_and]
end
end K51

/-! Walks 23: choice, round. -/
namespace K51
open PySem L2 Evl
section
variable {P : Program} {w : World} {K : PySem.W.Frag} {mg : Str → Option Value} {base : Heap} {o1 o2 o3 o4 o5 : Addr}
section
variable {HB H H0 H' : Hp} {lr sc : Addr} {xs : List Int} {sd ra da na ra' da' : Addr} {g g' : GM} {σ : L2.St} {Q : VK} {E : XK}
theorem GS.newR (h : GS K HB H lr sc xs sd ra da na g) {l : Addr} {bs : List Addr} {rows : List Row} (hl : H l = some (.lst (bs.map V.ref))) (hall : All2 (RowAt H) bs rows) (hB : HB l = none) (d1 : l ≠ lr) (d3 : l ≠ da) (d4 : l ≠ na) (hz : g.rows.length ≤ rows.length) : GS K HB (upd H sd (.dK (sD l g.line g.labels g.next da na))) lr sc xs sd l da na { g with rows := rows } := by
  obtain ⟨p, m, q, hp, hq⟩ := h.l.at'
  obtain ⟨n1, n2, n3, n4⟩ := h.lrs
  have n5 : l ≠ sd := fun z => by rw [z, h.atS] at hl; cases hl
  exact { h with
    l := ⟨h.l.fr, Ex.mut h.l.ex h.fs, h.l.scr, p, m, q, by rw [upd_ne n1]; exact hp, hq⟩
    fr := hB
    n1 := Ne.symm d1
    n3 := d3
    n5 := Ne.symm d4
    atS := upd_same
    atR := ⟨bs, by rw [upd_ne n5]; exact hl, hall.imp fun _ _ => RowAt.mono (TL.mut h.atS fun _ z => by cases z)⟩
    atL := by rw [upd_ne n3]; exact h.atL
    atN := by rw [upd_ne n4]; exact h.atN
    zl := by have := h.zl; show g.laid.length ≤ rows.length + 10; omega }
theorem GS.newL (h : GS K HB H lr sc xs sd ra da na g) {l : Addr} {laid : List Int} (hl : H l = some (.lst (laid.map V.int))) (hB : HB l = none) (d1 : l ≠ lr) (d3 : l ≠ ra) (d4 : l ≠ na) (hz : laid.length ≤ g.rows.length + 10) : GS K HB (upd H sd (.dK (sD ra g.line g.labels g.next l na))) lr sc xs sd ra l na { g with laid := laid } := by
  obtain ⟨as, h1, h2⟩ := h.atR
  obtain ⟨p, m, q, hp, hq⟩ := h.l.at'
  obtain ⟨n1, n2, n3, n4⟩ := h.lrs
  have n5 : l ≠ sd := fun z => by rw [z, h.atS] at hl; cases hl
  exact { h with
    l := ⟨h.l.fr, Ex.mut h.l.ex h.fs, h.l.scr, p, m, q, by rw [upd_ne n1]; exact hp, hq⟩
    fd := hB
    n2 := Ne.symm d1
    n3 := Ne.symm d3
    n6 := Ne.symm d4
    atS := upd_same
    atR := ⟨as, by rw [upd_ne n2]; exact h1, h2.imp fun _ _ => RowAt.mono (TL.mut h.atS fun _ z => by cases z)⟩
    atL := by rw [upd_ne n5]; exact hl
    atN := by rw [upd_ne n4]; exact h.atN
    zl := hz }
/-- the rows' or the cells' list becomes another one, new since H0 -/
theorem fr_new {o : HO} (f : Fr H0 lr sd ra da H ra da) (h : ra' = ra ∨ H0 ra' = none) (h2 : da' = da ∨ H0 da' = none) : Fr H0 lr sd ra da (upd H sd o) ra' da' := fun b u hb => by
  have hb0 := hide_sub _ _ hb
  have hbn : ¬(b = lr ∨ b = sd ∨ b = ra ∨ b = da) := fun z => by unfold hide at hb; rw [if_pos z] at hb; cases hb
  have hb1 := hide_sub _ _ (f b u hb)
  refine hide_at (by rw [upd_ne (fun z => hbn (.inr (.inl z)))]; exact hb1) (fun z => hbn (.inl z)) (fun z => hbn (.inr (.inl z))) (fun z => ?_) (fun z => ?_)
  · rcases h with e | e
    · exact hbn (.inr (.inr (.inl (z.trans e))))
    · rw [z, e] at hb0; cases hb0
  · rcases h2 with e | e
    · exact hbn (.inr (.inr (.inr (z.trans e))))
    · rw [z, e] at hb0; cases hb0
/-- s["laid"] = list(ahead) -/
theorem q_laid {ta td : TE} {al : Addr} {laid : List Int} {D : Ends} {tz : TS} (gs : GS K HB H lr sc xs sd ra da na g) (ha : Ev ta σ H (.ref al)) (hal : H al = some (.lst (laid.map V.int))) (ht : ∀ {H1 : Hp}, Ev td σ H1 (.ref sd)) (hz : laid.length ≤ g.rows.length + 10) (k : ∀ H1 da', GS K HB H1 lr sc xs sd ra da' na { g with laid := laid } → Fr H lr sd ra da H1 ra da' → tz D σ H1) :
    tSeq (sDPut td (tC (.str "laid")) (tCB (rListS K) (tCons ta tNil))) tz D σ H :=
  el_list ha (sq_of hal) H (Ex.refl H) _ fun l H1 hl e1 h1 => ht H1 (Ex.refl H1) _ fun H2 e2 => by
    have g2 := gs.mono (e1.trans e2)
    obtain ⟨m1, m2, m3, m4⟩ := gs.ne_new hl
    have m5 : l ≠ na := fun z => by have := gs.atN; rw [← z, hl] at this; cases this
    refine ⟨sd, _, rfl, DPut.k (k := Sum.inr "laid") g2.atS (sz_lt (by unfold sD; simp)), ?_⟩
    rw [put_laid]
    exact k _ l (g2.newL (e2 _ _ h1) (fresh_back gs.l.ex hl) m1 m3 m5 hz) (fr_new (fr_ex (e1.trans e2)) (.inl rfl) (.inr hl))
/-- s["rows"] = s["rows"] + [("go", k1, place), ("label", k2, place)] -/
theorem q_goLabel {t1 t2 td : TE} {E1 E2 : XK} {tr : TA} {k1 k2 : Int} {D : Ends} {tz : TS} (gs : GS K HB H lr sc xs sd ra da na g) (ht : ∀ {H1 : Hp}, Ev td σ H1 (.ref sd)) (h1 : ∀ {H1 : Hp}, Ev t1 σ H1 (.int k1)) (h2 : ∀ {H1 : Hp}, Ev t2 σ H1 (.int k2)) (ha : ∀ {H1 : Hp}, EvA tr σ H1 [.ref lr, .ref sd]) (hz : g.rows.length ≤ 900)
    (k : ∀ H1 ra' p1 p2, GS K HB H1 lr sc xs sd ra' da na { g with rows := g.rows ++ [.go k1 p1, .label k2 p2] } → Fr H lr sd ra da H1 ra' da → tz D σ H1) :
    tSeq (sDPut td (tC (.str "rows")) (tOp rCat (tDGet td (tC (.str "rows"))) (tLst (tCons (tTup (tCons (tC (.str "go")) (tCons t1 (tCons (tCall (spLpl K) [] E1 tr) tNil)))) (tCons (tTup (tCons (tC (.str "label")) (tCons t2 (tCons (tCall (spLpl K) [] E2 tr) tNil)))) tNil))))) tz D σ H := by
  refine r_op (r_ev (gs.evR ht) fun H1 e1 => r_lst (r_cons (r_tup (r_consE ev_c fun H2 e2 => r_consE h1 fun H3 e3 => r_cons (r_pl ha (gs.mono (e1.trans (e2.trans e3))) fun H4 p1 pl1 g4 f4 hp1 => r_nil ⟨Nat.le_of_ble_eq_true rfl, fun a1 ha1 => r_cons (r_tup (r_consE ev_c fun H6 e6 => r_consE h2 fun H7 e7 => r_cons (r_pl ha (g4.mono ((Ex.new ha1).trans (e6.trans e7))) fun H8 p2 pl2 g8 f8 hp2 => r_nil ⟨Nat.le_of_ble_eq_true rfl, fun a2 ha2 => r_nil ⟨Nat.le_of_ble_eq_true rfl, fun q hq => ?_⟩⟩)))⟩)))))
  have g5 := g4.mono (Ex.new (o := .tup [.str "go", .int k1, .ref p1]) ha1)
  have r1 : RowAt (upd H4 a1 (.tup [.str "go", .int k1, .ref p1])) a1 (.go k1 pl1) := ⟨p1, p1, upd_same, Ex.new ha1 _ _ hp1, fun z => by cases z⟩
  have e47 := (Ex.new (o := .tup [.str "go", .int k1, .ref p1]) ha1).trans (e6.trans e7)
  have r8 := r1.mono ((tl_ex (e6.trans e7)).trans ((g4.mono e47).tl f8))
  have e9 := Ex.new (o := .tup [.str "label", .int k2, .ref p2]) ha2
  have r9 : RowAt (upd H8 a2 (.tup [.str "label", .int k2, .ref p2])) a2 (.label k2 pl2) := ⟨p2, p2, upd_same, e9 _ _ hp2, fun z => by cases z⟩
  have e10 := Ex.new (o := .lst [.ref a1, .ref a2]) hq
  have g10 := g8.mono (e9.trans e10)
  have f10 : Fr H lr sd ra da (upd (upd H8 a2 (.tup [.str "label", .int k2, .ref p2])) q (.lst [.ref a1, .ref a2])) ra da := (fr_ex (e1.trans (e2.trans e3))).trans (f4.trans ((fr_ex e47).trans (f8.trans (fr_ex (e9.trans e10)))))
  have ra1 := r8.mono (tl_ex (e9.trans e10))
  have ra2 := r9.mono (tl_ex e10)
  have hq10 : (upd (upd H8 a2 (.tup [.str "label", .int k2, .ref p2])) q (.lst [.ref a1, .ref a2])) q = some (.lst [.ref a1, .ref a2]) := upd_same
  generalize upd (upd H8 a2 (.tup [.str "label", .int k2, .ref p2])) q (.lst [.ref a1, .ref a2]) = H10 at g10 f10 ra1 ra2 hq10
  obtain ⟨as, has1, has2⟩ := g10.atR
  refine ⟨ra, q, as.map V.ref, [.ref a1, .ref a2], rfl, rfl, has1, hq10, sz_of (by rw [List.length_map, has2.1]; simp; omega), fun l hl => ht _ (Ex.refl _) _ fun H12 e12 => ?_⟩
  have e11 := (Ex.new (o := .lst (as.map V.ref ++ [.ref a1, .ref a2])) hl).trans e12
  have g12 := g10.mono e11
  obtain ⟨m1, m2, m3, m4⟩ := g10.ne_new hl
  have m5 : l ≠ na := fun z => by have := g10.atN; rw [← z, hl] at this; cases this
  have hl12 : H12 l = some (.lst ((as ++ [a1, a2]).map V.ref)) := by rw [e12 _ _ upd_same]; simp
  refine ⟨sd, _, rfl, DPut.k (k := Sum.inr "rows") g12.atS (sz_lt (by unfold sD; simp)), ?_⟩
  rw [put_rows]
  have t1 : All2 (RowAt H12) [a1] [.go k1 pl1] := All2.snoc (l := []) (m := []) All2.nil (ra1.mono (tl_ex e11))
  have t2 : All2 (RowAt H12) ([a1] ++ [a2]) ([.go k1 pl1] ++ [.label k2 pl2]) := t1.snoc (ra2.mono (tl_ex e11))
  have hall : All2 (RowAt H12) (as ++ [a1, a2]) (g.rows ++ [.go k1 pl1, .label k2 pl2]) := (has2.imp fun _ _ => RowAt.mono (tl_ex e11)).append t2
  refine k _ l pl1 pl2 (g12.newR hl12 hall (fresh_back g10.l.ex hl) m1 m4 m5 (by simp)) ?_
  have f12 := f10.trans (fr_ex (lr := lr) (sd := sd) (ra := ra) (da := da) e11)
  have hl0 : hide H lr sd ra da l = none := fresh_back (f10.trans hide_sub) hl
  by_cases hlH : H l = none
  · exact fr_new f12 (.inr hlH) (.inl rfl)
  · exfalso
    obtain ⟨o, ho⟩ := Option.ne_none_iff_exists'.mp hlH
    rw [hide_at ho m1 m2 m3 m4] at hl0; cases hl0
end
section
variable {HB H : Hp} {lr sc : Addr} {xs : List Int} {sd ra da na : Addr} {g : GM} {σ : L2.St} {E : XK}
theorem q_whenTg {n c : Int} {tr : TA} {D : Ends} {tu tz : TS} (M : Hp → Prop) (ha : EvA tr σ H [.ref lr, .int n]) (gs : GS K HB H lr sc xs sd ra da na g) (hn : 1 ≤ n ∧ n ≤ 1000000) (k : ∀ H1, M H1 → tz D σ H1) (h1 : ∀ H1, GS K HB H1 lr sc xs sd ra da na g → Fr H lr sd ra da H1 ra da → (∀ H2, M H2 → tz D σ H2) → tu { D with nx := tz D } σ H1) (h2 : ∀ H1, GS K HB H1 lr sc xs sd ra da na g → Fr H lr sd ra da H1 ra da → M H1) :
    tSeq (tIfS (tTest (tOp rEq (tCall (spLt K) [] E tr) (tC (.int c)))) tu tNext) tz D σ H :=
  r_tg ha gs hn fun H1 r g1 f1 _ _ => k_eq (by
    by_cases h : r = c
    · rw [decide_eq_true h]; exact h1 H1 g1 f1 k
    · rw [decide_eq_false h]; exact k H1 (h2 H1 g1 f1))
end
/-! ### choice -/
abbrev sLch : Stmt := top 40
abbrev nLch : List Str := ["_law_row", "_law_s", "_law_deep", "_law_other", "_law_end", "_law_ahead"]
theorem scLch : FnScope nLch ["_law_row", "_law_s", "_law_deep"] (defScope sLch) := ⟨rfl, rfl, rfl, by decide +kernel, rfl, by decide +kernel, by decide +kernel⟩
theorem ok_Lch {f f1 f2 f3 f4 : Addr} {fd d1 d2 d3 d4 : FuncData} (F : Fun K "_law_choice" "_law_choice" sLch f fd) (T : Txt K mg o1 o2 o3 o4 o5) {d : Nat} (hd : Mb (d + 1) ≤ 700) (C__law_taken : TkAt P w K mg base f1 d1) (C__law_operand : CalAt P w K mg base 2 "_law_operand" ["_law_row", "_law_s"] (spLop K) f2 d2) (C__law_place : CalAt P w K mg base 2 "_law_place" ["_law_row", "_law_s"] (spLpl K) f3 d3)
    (C__law_block : CalAt P w K mg base (2 * d + 5) "_law_block" ["_law_row", "_law_s", "_law_deep"] (spLbk K d) f4 d4) : FnOk P w K mg base CX0 (2 * d + 6) f fd ["_law_row", "_law_s", "_law_deep"] (spLch K d) := by
  refine F.ok scLch (fun vs H Q E h => ?_) (fun cdv A outer s H vs Q E hr h => ?_)
  · obtain ⟨HB, lr, sc, xs, sd, ra, da, na, g, rfl, _⟩ := h; rfl
  · obtain ⟨HB, lr, sc, xs, sd, ra, da, na, g, rfl, gs, hne, hz, hnz, k⟩ := h
    have nd := scLch.nd
    have hu := hu_of hr
    refine ⟨_, (pss_cons (ps_dput hu (pv 1) pe_str (pe_op op_add (pe_dget hu (pv 1) pe_str (fun _ _ => rfl)) pe_int) rfl)
      (pss_cons (ps_par (i := 3) (j := 4) (by rfl) nd rfl rfl (by decide) rfl rfl (pa_cons (pe_op op_sub (pe_dget hu (pv 1) pe_str (fun _ _ => rfl)) pe_int) (pa_cons (pe_op op_sub (pe_dget hu (pv 1) pe_str (fun _ _ => rfl)) pe_int) pa_nil)) rfl)
      (pss_cons (ps_expr (pe_bm PySem.F.plainAttrs_list PySem.F.slot_list_append PySem.F.type_list_append mt_append (pe_dget hu (pv 1) pe_str (fun _ _ => rfl)) (pa_cons (pe_tup (pa_cons pe_str (pa_cons (pe_call C__law_operand.ok (hr.mono (by omega)) (by rfl) C__law_operand.g C__law_operand.kp C__law_operand.b .nil pass0 (pa_cons (pv 0) (pa_cons (pv 1) pa_nil))) (pa_cons (pv 3) (pa_cons (pe_call C__law_place.ok (hr.mono (by omega)) (by rfl) C__law_place.g C__law_place.kp C__law_place.b .nil pass0 (pa_cons (pv 0) (pa_cons (pv 1) pa_nil))) pa_nil))))) pa_nil)))
      (pss_cons (ps_set (i := 5) nd rfl (Or.inl rfl) (pe_callTy call_list_of (by rfl) T.list (by decide +kernel) (pa_cons (pe_dget hu (pv 1) pe_str (fun _ _ => rfl)) pa_nil)))
      (pss_cons (ps_expr (pe_call C__law_block.ok (hr.mono (by omega)) (by rfl) C__law_block.g C__law_block.kp C__law_block.b .nil pass0 (pa_cons (pv 0) (pa_cons (pv 1) (pa_cons (pe_op op_sub (pv 2) pe_int) pa_nil)))))
      (pss_cons (ps_dput hu (pv 1) pe_str (pe_callTy call_list_of (by rfl) T.list (by decide +kernel) (pa_cons (pv 5) pa_nil)) rfl)
      (pss_cons (ps_dput hu (pv 1) pe_str (pe_op op_cat (pe_dget hu (pv 1) pe_str (fun _ _ => rfl)) (pe_lst (pa_cons (pe_tup (pa_cons pe_str (pa_cons (pv 4) (pa_cons (pe_call C__law_place.ok (hr.mono (by omega)) (by rfl) C__law_place.g C__law_place.kp C__law_place.b .nil pass0 (pa_cons (pv 0) (pa_cons (pv 1) pa_nil))) pa_nil)))) (pa_cons (pe_tup (pa_cons pe_str (pa_cons (pv 3) (pa_cons (pe_call C__law_place.ok (hr.mono (by omega)) (by rfl) C__law_place.g C__law_place.kp C__law_place.b .nil pass0 (pa_cons (pv 0) (pa_cons (pv 1) pa_nil))) pa_nil)))) pa_nil)))) rfl)
      (pss_cons (ps_if (pt_cmpR op_eq (pe_call C__law_taken.ok (hr.mono (by omega)) (by rfl) C__law_taken.g C__law_taken.kp C__law_taken.b .nil pass0 (pa_cons (pv 0) (pa_cons pe_int pa_nil))) pe_int (nomark _)) (pss_one (ps_expr (pe_call C__law_block.ok (hr.mono (by omega)) (by rfl) C__law_block.g C__law_block.kp C__law_block.b .nil pass0 (pa_cons (pv 0) (pa_cons (pv 1) (pa_cons (pe_op op_sub (pv 2) pe_int) pa_nil)))))) pss_nil)
      (pss_cons (ps_dput hu (pv 1) pe_str (pe_callTy call_list_of (by rfl) T.list (by decide +kernel) (pa_cons (pv 5) pa_nil)) rfl)
      (pss_one (ps_expr (pe_bm PySem.F.plainAttrs_list PySem.F.slot_list_append PySem.F.type_list_append mt_append (pe_dget hu (pv 1) pe_str (fun _ _ => rfl)) (pa_cons (pe_tup (pa_cons pe_str (pa_cons (pv 4) (pa_cons (pe_call C__law_place.ok (hr.mono (by omega)) (by rfl) C__law_place.g C__law_place.kp C__law_place.b .nil pass0 (pa_cons (pv 0) (pa_cons (pv 1) pa_nil))) pa_nil)))) pa_nil))))))))))))), ?_⟩
    dsimp only [cxK, cxKn, List.map]
    have hz10 := gs.zl
    refine q_setLabels gs (ev_op (gs.evLabels (ev_var rfl)) ev_c rv_I0) (ev_var rfl) ev_c fun H1 g1 f1 => ?_
    refine q_par (x := .int g.labels) (y := .int (g.labels + 1)) (ev_is (ev_op (g1.evLabels (ev_var rfl)) ev_c rv_I0) (congrArg V.int (by show g.labels + 2 - 2 = g.labels; omega))) (ev_is (ev_op (g1.evLabels (ev_var rfl)) ev_c rv_I0) (congrArg V.int (by show g.labels + 2 - 1 = g.labels + 1; omega))) fun H2 e2 => ?_
    have g2 := g1.mono e2
    refine q_dropR (r_bmR g2 (g2.evR (ev_var rfl)) fun H3 e3 => r_cons (r_tup (r_consE ev_c fun H4 e4 => r_cons (r_opnd (ea_cons (ev_var rfl) (ea_cons (ev_var rfl) ea_nil)) (g2.mono (e3.trans e4)) hne (by show g.rows.length ≤ 1000; omega) fun H5 x g5 f5 hx => r_consE (v := .int g.labels) (ev_var rfl) fun H6 e6 => r_cons (r_pl (ea_cons (ev_var rfl) (ea_cons (ev_var rfl) ea_nil)) (g5.mono e6) fun H7 p pl g7 f7 hp => r_nil (k_row (r := .unless x g.labels pl) (p := p) (q := p) g7 (by show g.rows.length ≤ 1000; omega) rfl hp (fun z => by cases z) fun H8 g8 f8 => ?_))))))
    have f08 : Fr H lr sd ra da H8 ra da := f1.trans ((fr_ex (e2.trans (e3.trans e4))).trans (f5.trans ((fr_ex e6).trans (f7.trans f8))))
    refine q_asgL (el_list (g8.evL (ev_var rfl)) (sq_of g8.atL)) fun al H9 hal e9 h9 => ?_
    obtain ⟨m1, m2, m3, m4⟩ := g8.ne_new hal
    have g9 := g8.mono e9
    have hlen1 : (g.rows ++ [Row.unless x g.labels pl]).length = g.rows.length + 1 := by simp
    refine q_dropR (r_call (r_consE (v := .ref lr) (ev_var rfl) fun H10 e10 => r_consE (v := .ref sd) (ev_var rfl) fun H11 e11 => r_consE (v := .int (d : Nat)) (ev_is (ev_op (ev_var rfl) ev_c rv_I0) (congrArg V.int (by omega))) fun H12 e12 => r_nil ⟨HB, lr, sc, xs, sd, ra, da, na, _, rfl, g9.mono (e10.trans (e11.trans e12)), hne, by show (g.rows ++ [Row.unless x g.labels pl]).length ≤ 700; omega, hnz, .mk fun H13 h13 => ?_⟩))
    obtain ⟨ra3, da3, gm3, A', g13, f13, r13, fr13, l13, n13, s13⟩ := h13
    have l13' : gm3.rows.length ≤ max (g.rows.length + 1) (Mb d) + 12 := Nat.le_trans l13 (by show max (g.rows ++ [Row.unless x g.labels pl]).length (Mb d) + 12 ≤ _; rw [hlen1]; exact Nat.le_refl _)
    have r13' : gm3.rows = (g.rows ++ [Row.unless x g.labels pl]) ++ A' := r13
    have hMd : Mb (d + 1) = max 64 (Mb d) + 23 := rfl
    have al13 := f13 _ _ (hide_at ((e10.trans (e11.trans e12)) _ _ h9) m1 m2 m3 m4)
    have f013 := f08.trans ((fr_ex (e9.trans (e10.trans (e11.trans e12)))).trans f13)
    refine q_laid g13 (ev_var rfl) (hide_sub _ _ al13) (ev_var rfl) (by rw [r13', List.length_append, hlen1]; show g.laid.length ≤ _; omega) fun H14 da4 g14 f14 => ?_
    refine q_goLabel g14 (ev_var rfl) (ev_var rfl) (ev_var rfl) (ea_cons (ev_var rfl) (ea_cons (ev_var rfl) ea_nil)) (by show gm3.rows.length ≤ 900; omega) fun H15 ra5 p1 p2 g15 f15 => ?_
    have al15 := f15 _ _ (f14 _ _ al13)
    have f015 := f013.trans (f14.trans f15)
    have hlen2 : (gm3.rows ++ [Row.go (g.labels + 1) p1, Row.label g.labels p2]).length = gm3.rows.length + 2 := by simp
    refine q_whenTg (n := 2) (GInv K HB H15 lr sc xs sd ra5 da4 na { gm3 with rows := gm3.rows ++ [Row.go (g.labels + 1) p1, Row.label g.labels p2], laid := g.laid } (max (gm3.rows.length + 2) (Mb d) + 12)) (ea_cons (ev_var rfl) (ea_cons ev_c ea_nil)) g15 (by omega) (fun H16 m => ?_) (fun H16 g16 f16 kk => ?_) (fun H16 g16 f16 => ?_)
    · obtain ⟨ra6, da6, gm6, B', g16, f16, r16, fr16, l16, n16, s16⟩ := m
      have r16' : gm6.rows = (gm3.rows ++ [Row.go (g.labels + 1) p1, Row.label g.labels p2]) ++ B' := r16
      have al16 := f16 _ _ al15
      refine q_laid g16 (ev_var rfl) (hide_sub _ _ al16) (ev_var rfl) (by rw [r16', r13']; simp; omega) fun H17 da7 g17 f17 => ?_
      refine s_dropR (r_bmR g17 (g17.evR (ev_var rfl)) fun H18 e18 => r_cons (r_tup (r_consE ev_c fun H19 e19 => r_consE (v := .int (g.labels + 1)) (ev_var rfl) fun H20 e20 => r_cons (r_pl (ea_cons (ev_var rfl) (ea_cons (ev_var rfl) ea_nil)) (g17.mono (e18.trans (e19.trans e20))) fun H21 p' pl' g21 f21 hp' => r_nil (k_row (r := .label (g.labels + 1) pl') (p := p') (q := p') g21 (by show gm6.rows.length ≤ 1000; omega) rfl hp' (fun z => by cases z) fun H22 g22 f22 => nxM (k.go ⟨ra6, da7, _, .unless x g.labels pl :: (A' ++ (.go (g.labels + 1) p1 :: .label g.labels p2 :: (B' ++ [.label (g.labels + 1) pl']))), g22, f015.trans (f16.trans (f17.trans ((fr_ex (e18.trans (e19.trans e20))).trans (f21.trans f22)))), ?_, .choice hx fr13 fr16, ?_, ?_, fun _ h => h⟩))))))
      · show gm6.rows ++ _ = _; rw [r16', r13']; simp
      · show (gm6.rows ++ _).length ≤ _; rw [List.length_append, hMd]; simp; omega
      · show gm6.named = _; rw [n16]; show gm3.named = _; rw [n13]
    · refine s_dropR (r_call (r_consE (v := .ref lr) (ev_var rfl) fun H20 e20 => r_consE (v := .ref sd) (ev_var rfl) fun H21 e21 => r_consE (v := .int (d : Nat)) (ev_is (ev_op (ev_var rfl) ev_c rv_I0) (congrArg V.int (by omega))) fun H22 e22 => r_nil ⟨HB, lr, sc, xs, sd, ra5, da4, na, _, rfl, g16.mono (e20.trans (e21.trans e22)), hne, by show (gm3.rows ++ _).length ≤ 700; rw [hlen2]; omega, by show gm3.named.length ≤ 1000; rw [n13]; exact hnz, .mk fun H23 h23 => nxM (kk H23 ?_)⟩))
      have := GInv.app (f16.trans (fr_ex (e20.trans (e21.trans e22)))) (by simp) .nil rfl (fun _ h => h) h23
      exact this.mono (Ex.refl _) (by show max (gm3.rows ++ _).length (Mb d) + 12 ≤ _; rw [hlen2]; exact Nat.le_refl _)
    · exact ⟨ra5, da4, _, [], g16, f16, by simp, .nil, by show (gm3.rows ++ _).length ≤ _; rw [hlen2]; omega, rfl, fun _ h => h⟩
end
end K51

/-! Walks 24: round. -/
namespace K51
open PySem L2 Evl
section
variable {P : Program} {w : World} {K : PySem.W.Frag} {mg : Str → Option Value} {base : Heap} {o1 o2 o3 o4 o5 : Addr}
theorem s_par3 {i j l : Nat} {ta tb tc : TE} {x y z : V} {σ : L2.St} {H : Hp} {D : Ends} (ha : Ev ta σ H x) (hb : Ev tb σ H y) (hc : Ev tc σ H z) (k : ∀ H1, Ex H H1 → D.nx (((σ.set i (some x)).set j (some y)).set l (some z)) H1) : tPar3 i j l (tCons ta (tCons tb (tCons tc tNil))) D σ H := by
  unfold tPar3
  exact ea_cons ha (ea_cons hb (ea_cons hc ea_nil)) H (Ex.refl H) _ fun H1 e => ⟨x, y, z, rfl, k H1 e⟩
theorem q_par3 {i j l : Nat} {ta tb tc : TE} {x y z : V} {σ : L2.St} {H : Hp} {D : Ends} {tz : TS} (ha : Ev ta σ H x) (hb : Ev tb σ H y) (hc : Ev tc σ H z) (k : ∀ H1, Ex H H1 → tz D (((σ.set i (some x)).set j (some y)).set l (some z)) H1) : tSeq (tPar3 i j l (tCons ta (tCons tb (tCons tc tNil)))) tz D σ H := s_par3 (D := { D with nx := tz D }) ha hb hc k
theorem s_goLabel {HB H : Hp} {lr sc : Addr} {xs : List Int} {sd ra da na : Addr} {g : GM} {σ : L2.St} {t1 t2 td : TE} {E1 E2 : XK} {tr : TA} {k1 k2 : Int} {D : Ends} (gs : GS K HB H lr sc xs sd ra da na g) (ht : ∀ {H1 : Hp}, Ev td σ H1 (.ref sd)) (h1 : ∀ {H1 : Hp}, Ev t1 σ H1 (.int k1)) (h2 : ∀ {H1 : Hp}, Ev t2 σ H1 (.int k2)) (ha : ∀ {H1 : Hp}, EvA tr σ H1 [.ref lr, .ref sd]) (hz : g.rows.length ≤ 900)
    (k : ∀ H1 ra' p1 p2, GS K HB H1 lr sc xs sd ra' da na { g with rows := g.rows ++ [.go k1 p1, .label k2 p2] } → Fr H lr sd ra da H1 ra' da → D.nx σ H1) :
    sDPut td (tC (.str "rows")) (tOp rCat (tDGet td (tC (.str "rows"))) (tLst (tCons (tTup (tCons (tC (.str "go")) (tCons t1 (tCons (tCall (spLpl K) [] E1 tr) tNil)))) (tCons (tTup (tCons (tC (.str "label")) (tCons t2 (tCons (tCall (spLpl K) [] E2 tr) tNil)))) tNil)))) D σ H :=
  q_goLabel (D := D) (tz := fun D σ H => D.nx σ H) gs ht h1 h2 ha hz k
abbrev sLrd : Stmt := top 41
abbrev nLrd : List Str := ["_law_row", "_law_s", "_law_deep", "_law_head", "_law_end", "_law_count", "_law_ahead"]
theorem scLrd : FnScope nLrd ["_law_row", "_law_s", "_law_deep"] (defScope sLrd) := ⟨rfl, rfl, rfl, by decide +kernel, rfl, by decide +kernel, by decide +kernel⟩
theorem ok_Lrd {f f1 f2 f3 f4 : Addr} {fd d1 d2 d3 d4 : FuncData} (F : Fun K "_law_round" "_law_round" sLrd f fd) (T : Txt K mg o1 o2 o3 o4 o5) {d : Nat} (hd : Mb (d + 1) ≤ 700) (C__law_taken : TkAt P w K mg base f1 d1) (C__law_lays : CalAt P w K mg base 3 "_law_lays" ["_law_row", "_law_s", "_law_middle_here"] (spLly K) f2 d2) (C__law_place : CalAt P w K mg base 2 "_law_place" ["_law_row", "_law_s"] (spLpl K) f3 d3)
    (C__law_block : CalAt P w K mg base (2 * d + 5) "_law_block" ["_law_row", "_law_s", "_law_deep"] (spLbk K d) f4 d4) : FnOk P w K mg base CX0 (2 * d + 6) f fd ["_law_row", "_law_s", "_law_deep"] (spLch K d) := by
  refine F.ok scLrd (fun vs H Q E h => ?_) (fun cdv A outer s H vs Q E hr h => ?_)
  · obtain ⟨HB, lr, sc, xs, sd, ra, da, na, g, rfl, _⟩ := h; rfl
  · obtain ⟨HB, lr, sc, xs, sd, ra, da, na, g, rfl, gs, hne, hz, hnz, k⟩ := h
    have nd := scLrd.nd
    have hu := hu_of hr
    refine ⟨_, (pss_cons (ps_dput hu (pv 1) pe_str (pe_op op_add (pe_dget hu (pv 1) pe_str (fun _ _ => rfl)) pe_int) rfl)
      (pss_cons (ps_par3 (i := 3) (j := 4) (l := 5) (by rfl) nd rfl rfl rfl (by decide) (by decide) (by decide) rfl rfl rfl (pa_cons (pe_op op_sub (pe_dget hu (pv 1) pe_str (fun _ _ => rfl)) pe_int) (pa_cons (pe_op op_sub (pe_dget hu (pv 1) pe_str (fun _ _ => rfl)) pe_int) (pa_cons (pe_dget hu (pv 1) pe_str (fun _ _ => rfl)) pa_nil))) rfl)
      (pss_cons (ps_dput hu (pv 1) pe_str (pe_op op_add (pv 5) pe_int) rfl)
      (pss_cons (ps_expr (pe_call C__law_lays.ok (hr.mono (by omega)) (by rfl) C__law_lays.g C__law_lays.kp C__law_lays.b .nil pass0 (pa_cons (pv 0) (pa_cons (pv 1) (pa_cons (pe_tup (pa_cons pe_str (pa_cons (pv 5) (pa_cons (pe_call C__law_taken.ok (hr.mono (by omega)) (by rfl) C__law_taken.g C__law_taken.kp C__law_taken.b .nil pass0 (pa_cons (pv 0) (pa_cons pe_int pa_nil))) pa_nil)))) pa_nil)))))
      (pss_cons (ps_expr (pe_call C__law_lays.ok (hr.mono (by omega)) (by rfl) C__law_lays.g C__law_lays.kp C__law_lays.b .nil pass0 (pa_cons (pv 0) (pa_cons (pv 1) (pa_cons (pe_tup (pa_cons pe_str (pa_cons (pe_op op_add (pv 5) pe_int) (pa_cons pe_int pa_nil)))) pa_nil)))))
      (pss_cons (ps_expr (pe_bm PySem.F.plainAttrs_list PySem.F.slot_list_append PySem.F.type_list_append mt_append (pe_dget hu (pv 1) pe_str (fun _ _ => rfl)) (pa_cons (pe_tup (pa_cons pe_str (pa_cons (pv 3) (pa_cons (pe_call C__law_place.ok (hr.mono (by omega)) (by rfl) C__law_place.g C__law_place.kp C__law_place.b .nil pass0 (pa_cons (pv 0) (pa_cons (pv 1) pa_nil))) pa_nil)))) pa_nil)))
      (pss_cons (ps_dput hu (pv 1) pe_str (pe_op op_add (pe_dget hu (pv 1) pe_str (fun _ _ => rfl)) pe_int) rfl)
      (pss_cons (ps_expr (pe_bm PySem.F.plainAttrs_list PySem.F.slot_list_append PySem.F.type_list_append mt_append (pe_dget hu (pv 1) pe_str (fun _ _ => rfl)) (pa_cons (pe_tup (pa_cons pe_str (pa_cons (pe_tup (pa_cons (pe_dget hu (pv 1) pe_str (fun _ _ => rfl)) (pa_cons pe_int pa_nil))) pa_nil))) pa_nil)))
      (pss_cons (ps_expr (pe_bm PySem.F.plainAttrs_list PySem.F.slot_list_append PySem.F.type_list_append mt_append (pe_dget hu (pv 1) pe_str (fun _ _ => rfl)) (pa_cons (pe_tup (pa_cons pe_str (pa_cons (pv 5) (pa_cons (pv 4) (pa_cons (pe_call C__law_place.ok (hr.mono (by omega)) (by rfl) C__law_place.g C__law_place.kp C__law_place.b .nil pass0 (pa_cons (pv 0) (pa_cons (pv 1) pa_nil))) pa_nil))))) pa_nil)))
      (pss_cons (ps_set (i := 6) nd rfl (Or.inl rfl) (pe_callTy call_list_of (by rfl) T.list (by decide +kernel) (pa_cons (pe_dget hu (pv 1) pe_str (fun _ _ => rfl)) pa_nil)))
      (pss_cons (ps_expr (pe_call C__law_block.ok (hr.mono (by omega)) (by rfl) C__law_block.g C__law_block.kp C__law_block.b .nil pass0 (pa_cons (pv 0) (pa_cons (pv 1) (pa_cons (pe_op op_sub (pv 2) pe_int) pa_nil)))))
      (pss_cons (ps_dput hu (pv 1) pe_str (pe_callTy call_list_of (by rfl) T.list (by decide +kernel) (pa_cons (pv 6) pa_nil)) rfl)
      (pss_cons (ps_expr (pe_bm PySem.F.plainAttrs_list PySem.F.slot_list_append PySem.F.type_list_append mt_append (pe_dget hu (pv 1) pe_str (fun _ _ => rfl)) (pa_cons (pe_tup (pa_cons pe_str (pa_cons (pv 5) (pa_cons (pv 5) (pa_cons (pe_op op_add (pv 5) pe_int) (pa_cons (pe_call C__law_place.ok (hr.mono (by omega)) (by rfl) C__law_place.g C__law_place.kp C__law_place.b .nil pass0 (pa_cons (pv 0) (pa_cons (pv 1) pa_nil))) pa_nil)))))) pa_nil)))
      (pss_one (ps_dput hu (pv 1) pe_str (pe_op op_cat (pe_dget hu (pv 1) pe_str (fun _ _ => rfl)) (pe_lst (pa_cons (pe_tup (pa_cons pe_str (pa_cons (pv 3) (pa_cons (pe_call C__law_place.ok (hr.mono (by omega)) (by rfl) C__law_place.g C__law_place.kp C__law_place.b .nil pass0 (pa_cons (pv 0) (pa_cons (pv 1) pa_nil))) pa_nil)))) (pa_cons (pe_tup (pa_cons pe_str (pa_cons (pv 4) (pa_cons (pe_call C__law_place.ok (hr.mono (by omega)) (by rfl) C__law_place.g C__law_place.kp C__law_place.b .nil pass0 (pa_cons (pv 0) (pa_cons (pv 1) pa_nil))) pa_nil)))) pa_nil)))) rfl))))))))))))))), ?_⟩
    dsimp only [cxK, cxKn, List.map]
    have hz10 := gs.zl
    refine q_setLabels gs (ev_op (gs.evLabels (ev_var rfl)) ev_c rv_I0) (ev_var rfl) ev_c fun H1 g1 f1 => ?_
    refine q_par3 (x := .int g.labels) (y := .int (g.labels + 1)) (z := .int g.next) (ev_is (ev_op (g1.evLabels (ev_var rfl)) ev_c rv_I0) (congrArg V.int (by show g.labels + 2 - 2 = g.labels; omega))) (ev_is (ev_op (g1.evLabels (ev_var rfl)) ev_c rv_I0) (congrArg V.int (by show g.labels + 2 - 1 = g.labels + 1; omega))) (g1.evNext (ev_var rfl)) fun H2 e2 => ?_
    have g2 := g1.mono e2
    refine q_setNext (v := g.next + 2) g2 (ev_op (ev_var rfl) ev_c rv_I0) (ev_var rfl) ev_c fun H3 g3 f3 => ?_
    have f03 : Fr H lr sd ra da H3 ra da := f1.trans ((fr_ex e2).trans f3)
    refine q_dropR (r_call (r_consE (v := .ref lr) (ev_var rfl) fun H4 e4 => r_consE (v := .ref sd) (ev_var rfl) fun H5 e5 => r_cons (r_tup (r_consE ev_c fun H6 e6 => r_consE (v := .int g.next) (ev_var rfl) fun H7 e7 => r_cons (r_tg (n := 4) (ea_cons (ev_var rfl) (ea_cons ev_c ea_nil)) (g3.mono (e4.trans (e5.trans (e6.trans e7)))) (by omega) fun H8 v g8 f8 v0 v1 => r_nil (k_lys (r := .put g.next v ⟨0, 0⟩) (q := lr) g8 (by show g.rows.length ≤ 1000; omega) rfl rfl (fun z => by cases z) fun H9 pl9 g9 f9 => ?_))))))
    have f09 := f03.trans ((fr_ex (e4.trans (e5.trans (e6.trans e7)))).trans (f8.trans f9))
    have hl9 : (g.rows ++ [Row.put g.next v pl9]).length = g.rows.length + 1 := by simp
    refine q_dropR (r_call (r_consE (v := .ref lr) (ev_var rfl) fun H10 e10 => r_consE (v := .ref sd) (ev_var rfl) fun H11 e11 => r_cons (r_tup (r_consE ev_c fun H12 e12 => r_consE (v := .int (g.next + 1)) (ev_op (ev_var rfl) ev_c rv_I0) fun H13 e13 => r_consE ev_c fun H14 e14 => r_nil (k_lys (r := .put (g.next + 1) 1 ⟨0, 0⟩) (q := lr) (g9.mono (e10.trans (e11.trans (e12.trans (e13.trans e14))))) (by show (g.rows ++ [Row.put g.next v pl9]).length ≤ 1000; omega) rfl rfl (fun z => by cases z) fun H15 pl15 g15 f15 => ?_)))))
    have f015 := f09.trans ((fr_ex (e10.trans (e11.trans (e12.trans (e13.trans e14))))).trans f15)
    have hl15 : (g.rows ++ [Row.put g.next v pl9] ++ [Row.put (g.next + 1) 1 pl15]).length = g.rows.length + 2 := by simp
    have g15' : GS K HB H15 lr sc xs sd ra da na { g with labels := g.labels + 2, next := g.next + 2, rows := g.rows ++ [Row.put g.next v pl9] ++ [Row.put (g.next + 1) 1 pl15], laid := g.laid ++ [g.next] ++ [g.next + 1] } := g15
    clear g15
    refine q_dropR (r_bmR g15' (g15'.evR (ev_var rfl)) fun H16 e16 => r_cons (r_tup (r_consE ev_c fun H17 e17 => r_consE (v := .int g.labels) (ev_var rfl) fun H18 e18 => r_cons (r_pl (ea_cons (ev_var rfl) (ea_cons (ev_var rfl) ea_nil)) (g15'.mono (e16.trans (e17.trans e18))) fun H19 p19 pl19 g19 f19 hp19 => r_nil (k_row (r := .label g.labels pl19) (p := p19) (q := p19) g19 (by show (g.rows ++ [Row.put g.next v pl9] ++ [Row.put (g.next + 1) 1 pl15]).length ≤ 1000; omega) rfl hp19 (fun z => by cases z) fun H20 g20 f20 => ?_)))))
    have f020 := f015.trans ((fr_ex (e16.trans (e17.trans e18))).trans (f19.trans f20))
    refine q_setLine g20 (ev_op (g20.evLine (ev_var rfl)) ev_c rv_I0) (ev_var rfl) ev_c fun H21 g21 f21 => ?_
    have hl20 : (g.rows ++ [Row.put g.next v pl9] ++ [Row.put (g.next + 1) 1 pl15] ++ [Row.label g.labels pl19]).length = g.rows.length + 3 := by simp
    refine q_begin g21 (ev_var rfl) (by show (g.rows ++ [Row.put g.next v pl9] ++ [Row.put (g.next + 1) 1 pl15] ++ [Row.label g.labels pl19]).length ≤ 1000; omega) fun H22 g22 f22 => ?_
    have f022 := f020.trans (f21.trans f22)
    have hl22 : (g.rows ++ [Row.put g.next v pl9] ++ [Row.put (g.next + 1) 1 pl15] ++ [Row.label g.labels pl19] ++ [Row.begin ⟨g.line + 1, 3⟩]).length = g.rows.length + 4 := by simp
    refine q_dropR (r_bmR g22 (g22.evR (ev_var rfl)) fun H23 e23 => r_cons (r_tup (r_consE ev_c fun H24 e24 => r_consE (v := .int g.next) (ev_var rfl) fun H25 e25 => r_consE (v := .int (g.labels + 1)) (ev_var rfl) fun H26 e26 => r_cons (r_pl (ea_cons (ev_var rfl) (ea_cons (ev_var rfl) ea_nil)) (g22.mono (e23.trans (e24.trans (e25.trans e26)))) fun H27 p27 pl27 g27 f27 hp27 => r_nil (k_row (r := .unless g.next (g.labels + 1) pl27) (p := p27) (q := p27) g27 (by show (g.rows ++ [Row.put g.next v pl9] ++ [Row.put (g.next + 1) 1 pl15] ++ [Row.label g.labels pl19] ++ [Row.begin ⟨g.line + 1, 3⟩]).length ≤ 1000; omega) rfl hp27 (fun z => by cases z) fun H28 g28 f28 => ?_)))))
    have f028 := f022.trans ((fr_ex (e23.trans (e24.trans (e25.trans e26)))).trans (f27.trans f28))
    refine q_asgL (el_list (g28.evL (ev_var rfl)) (sq_of g28.atL)) fun al H29 hal e29 h29 => ?_
    obtain ⟨m1, m2, m3, m4⟩ := g28.ne_new hal
    have g29 := g28.mono e29
    have hlen1 : (g.rows ++ [Row.put g.next v pl9] ++ [Row.put (g.next + 1) 1 pl15] ++ [Row.label g.labels pl19] ++ [Row.begin ⟨g.line + 1, 3⟩] ++ [Row.unless g.next (g.labels + 1) pl27]).length = g.rows.length + 5 := by simp
    refine q_dropR (r_call (r_consE (v := .ref lr) (ev_var rfl) fun H30 e30 => r_consE (v := .ref sd) (ev_var rfl) fun H31 e31 => r_consE (v := .int (d : Nat)) (ev_is (ev_op (ev_var rfl) ev_c rv_I0) (congrArg V.int (by omega))) fun H32 e32 => r_nil ⟨HB, lr, sc, xs, sd, ra, da, na, _, rfl, g29.mono (e30.trans (e31.trans e32)), by simp, by show (g.rows ++ [Row.put g.next v pl9] ++ [Row.put (g.next + 1) 1 pl15] ++ [Row.label g.labels pl19] ++ [Row.begin ⟨g.line + 1, 3⟩] ++ [Row.unless g.next (g.labels + 1) pl27]).length ≤ 700; omega, hnz, .mk fun H33 h33 => ?_⟩))
    obtain ⟨ra3, da3, gm3, A', g33, f33, r33, fr33, l33, n33, s33⟩ := h33
    have l33' : gm3.rows.length ≤ max (g.rows.length + 5) (Mb d) + 12 := Nat.le_trans l33 (by show max (g.rows ++ [Row.put g.next v pl9] ++ [Row.put (g.next + 1) 1 pl15] ++ [Row.label g.labels pl19] ++ [Row.begin ⟨g.line + 1, 3⟩] ++ [Row.unless g.next (g.labels + 1) pl27]).length (Mb d) + 12 ≤ _; rw [hlen1]; exact Nat.le_refl _)
    have r33' : gm3.rows = (g.rows ++ [Row.put g.next v pl9] ++ [Row.put (g.next + 1) 1 pl15] ++ [Row.label g.labels pl19] ++ [Row.begin ⟨g.line + 1, 3⟩] ++ [Row.unless g.next (g.labels + 1) pl27]) ++ A' := r33
    have hMd : Mb (d + 1) = max 64 (Mb d) + 23 := rfl
    have al33 := f33 _ _ (hide_at ((e30.trans (e31.trans e32)) _ _ h29) m1 m2 m3 m4)
    have f033 := f028.trans ((fr_ex (e29.trans (e30.trans (e31.trans e32)))).trans f33)
    refine q_laid (laid := g.laid ++ [g.next] ++ [g.next + 1]) g33 (ev_var rfl) (hide_sub _ _ al33) (ev_var rfl) (by rw [r33']; simp; omega) fun H34 da4 g34 f34 => ?_
    refine q_dropR (r_bmR g34 (g34.evR (ev_var rfl)) fun H35 e35 => r_cons (r_tup (r_consE ev_c fun H36 e36 => r_consE (v := .int g.next) (ev_var rfl) fun H37 e37 => r_consE (v := .int g.next) (ev_var rfl) fun H38 e38 => r_consE (v := .int (g.next + 1)) (ev_op (ev_var rfl) ev_c rv_I0) fun H39 e39 => r_cons (r_pl (ea_cons (ev_var rfl) (ea_cons (ev_var rfl) ea_nil)) (g34.mono (e35.trans (e36.trans (e37.trans (e38.trans e39))))) fun H40 p40 pl40 g40 f40 hp40 => r_nil (k_row (r := .two .take g.next g.next (g.next + 1) pl40) (p := p40) (q := p40) g40 (by show gm3.rows.length ≤ 1000; omega) rfl hp40 (fun z => by cases z) fun H41 g41 f41 => ?_)))))
    have f041 := f033.trans (f34.trans ((fr_ex (e35.trans (e36.trans (e37.trans (e38.trans e39))))).trans (f40.trans f41)))
    refine s_goLabel g41 (ev_var rfl) (ev_var rfl) (ev_var rfl) (ea_cons (ev_var rfl) (ea_cons (ev_var rfl) ea_nil)) (by show (gm3.rows ++ _).length ≤ 900; simp; omega) fun H42 ra5 p5 p6 g42 f42 => nxM (k.go ⟨ra5, da4, _, [Row.put g.next v pl9] ++ ([Row.put (g.next + 1) 1 pl15] ++ (.label g.labels pl19 :: .begin ⟨g.line + 1, 3⟩ :: .unless g.next (g.labels + 1) pl27 :: (A' ++ [.two .take g.next g.next (g.next + 1) pl40, .go g.labels p5, .label (g.labels + 1) p6]))), g42, f041.trans f42, ?_, ?_, ?_, ?_, ?_⟩)
    · show gm3.rows ++ _ ++ _ = _; rw [r33']; simp
    · refine .app (L1 := g.laid ++ [g.next]) (.one (r := Row.put g.next v pl9) rfl (by simp [Row.reads]) (by show 0 - big ≤ v ∧ v ≤ big; unfold big; omega) (fun x hx => ?_)) (.app (L1 := g.laid ++ [g.next] ++ [g.next + 1]) (.one (r := Row.put (g.next + 1) 1 pl15) rfl (by simp [Row.reads]) (by show 0 - big ≤ 1 ∧ 1 ≤ big; unfold big; omega) (fun x hx => ?_)) (.round (by simp) (by simp) fr33))
      · rcases List.mem_append.mp hx with h | h
        · exact .inl h
        · exact .inr (by simpa [Row.lays, eq_comm] using h)
      · rcases List.mem_append.mp hx with h | h
        · exact .inl h
        · exact .inr (by simpa [Row.lays, eq_comm] using h)
    · show (gm3.rows ++ _ ++ _).length ≤ _; rw [List.length_append, List.length_append, hMd]; simp; omega
    · show gm3.named = _; rw [n33]
    · intro x hx
      show x ∈ g.laid ++ [g.next] ++ [g.next + 1]
      exact List.mem_append_left _ (List.mem_append_left _ hx)
end
end K51

/-! Walks 25: blocks at every depth; made. -/
namespace K51
open PySem L2 Evl
section
variable {P : Program} {w : World} {K : PySem.W.Frag} {mg : Str → Option Value} {base : Heap} {o1 o2 o3 o4 o5 : Addr}
theorem ok_blk {f fc fr f1 f2 f3 f4 f5 : Addr} {fd dc dr d1 d2 d3 d4 d5 : FuncData} (F : Fun K "_law_block" "_law_block" sLbk f fd) (Fc : Fun K "_law_choice" "_law_choice" sLch fc dc) (Fr' : Fun K "_law_round" "_law_round" sLrd fr dr) (T : Txt K mg o1 o2 o3 o4 o5)
    (gB : mg "_law_block" = some (.ref f)) (kB : PySem.W.keepIn K (.ref f) = true) (bB : Binds K fd ["_law_row", "_law_s", "_law_deep"] [])
    (gC : mg "_law_choice" = some (.ref fc)) (kC : PySem.W.keepIn K (.ref fc) = true) (bC : Binds K dc ["_law_row", "_law_s", "_law_deep"] [])
    (gR : mg "_law_round" = some (.ref fr)) (kR : PySem.W.keepIn K (.ref fr) = true) (bR : Binds K dr ["_law_row", "_law_s", "_law_deep"] [])
    (C1 : TkAt P w K mg base f1 d1) (C2 : CalAt P w K mg base 2 "_law_operand" ["_law_row", "_law_s"] (spLop K) f2 d2) (C3 : CalAt P w K mg base 2 "_law_place" ["_law_row", "_law_s"] (spLpl K) f3 d3) (C4 : CalAt P w K mg base 3 "_law_lays" ["_law_row", "_law_s", "_law_middle_here"] (spLly K) f4 d4) (C5 : CalAt P w K mg base 4 "_law_straight" ["_law_row", "_law_s"] (spLsg K) f5 d5) :
    ∀ d, Mb d ≤ 700 → FnOk P w K mg base CX0 (2 * d + 5) f fd ["_law_row", "_law_s", "_law_deep"] (spLbk K d)
  | 0, h => ok_Lbk F T h C1 C5 ⟨Fc.ok scLch (fun vs H Q E h => nomatch h) (fun cdv A outer s H vs Q E hr h => nomatch h), gC, kC, bC⟩ ⟨Fr'.ok scLrd (fun vs H Q E h => nomatch h) (fun cdv A outer s H vs Q E hr h => nomatch h), gR, kR, bR⟩
  | d + 1, h => by
    have hb := ok_blk F Fc Fr' T gB kB bB gC kC bC gR kR bR C1 C2 C3 C4 C5 d (Nat.le_trans (Mb_le d) h)
    exact ok_Lbk F T h C1 C5 ⟨ok_Lch Fc T h C1 C2 C3 ⟨hb, gB, kB, bB⟩, gC, kC, bC⟩ ⟨ok_Lrd Fr' T h C1 C4 C3 ⟨hb, gB, kB, bB⟩, gR, kR, bR⟩
/-! ### made -/
/-- rows as made makes them -/
def MadeOk (rows : List Row) (np : Nat) : Prop := ∃ lo hi L' code last, rows = code ++ [last] ∧ Frag lo hi ((List.range np).map Int.ofNat) code L' ∧ ((last = .nothing last.place ∨ last = .give none last.place) ∨ ∃ x, last = .give (some x) last.place ∧ x ∈ L') ∧ code.length ≤ 130
section
variable {σ : L2.St} {H : Hp} {Q : VK} {ta tb te : TE} {t u : TT}
theorem el_rg1 {n : Nat} (h : Ev ta σ H (.int (n : Nat))) (hn : n ≤ 10000) : EvL (tLstRg (tRg1 ta)) σ H (((List.range n).map Int.ofNat).map V.int) := fun H2 e2 Q q => by
  unfold tLstRg tRg1
  refine h H2 e2 _ fun H3 e3 => ⟨_, rfl, RgOk.of_le (by omega) (by omega) (by omega) (by omega), fun l hl => ?_⟩
  have : rgV 0 ((n : Nat) : Int) = ((List.range n).map Int.ofNat).map V.int := by
    unfold rgV; rw [List.map_map, show (((n : Nat) : Int) - 0).toNat = n by omega]; exact List.map_congr_left fun i _ => congrArg V.int (Int.zero_add _)
  rw [this]
  exact q l _ (fresh_back e3 hl) (e3.trans (Ex.new hl)) upd_same
theorem el_rg2 {a n : Nat} (h : Ev ta σ H (.int (a : Nat))) (h2 : Ev tb σ H (.int ((a : Int) + (n : Int)))) (hn : a + n ≤ 10000) : EvL (tLstRg (tRg2 ta tb)) σ H (((List.range n).map fun i => (a : Int) + (i : Nat)).map V.int) := fun H2 e2 Q q => by
  unfold tLstRg tRg2
  refine h H2 e2 _ fun H3 e3 => h2 H3 (e2.trans e3) _ fun H4 e4 => ⟨_, _, rfl, rfl, RgOk.of_le (by omega) (by omega) (by omega) (by omega), fun l hl => ?_⟩
  have : rgV ((a : Nat) : Int) ((a : Int) + (n : Int)) = ((List.range n).map fun i => (a : Int) + (i : Nat)).map V.int := by
    unfold rgV; rw [List.map_map, show ((a : Int) + (n : Int) - (a : Nat)).toNat = n by omega]; exact List.map_congr_left fun i _ => rfl
  rw [this]
  exact q l _ (fresh_back (e3.trans e4) hl) ((e3.trans e4).trans (Ex.new hl)) upd_same
theorem q_dputL {td ty tv : TE} {a : Addr} {kvs : List (Key × V)} {k : Key} {xs : List V} {D : Ends} {tz : TS} (hd : H a = some (.dK kvs)) (hv : EvL tv σ H xs) (ha : Ev td σ H (.ref a)) (hk : Ev ty σ H (kV k)) (hz : kvs.length < 100000) (n : ∀ p H1, H p = none → Ex H H1 → H1 p = some (.lst xs) → tz D σ (upd H1 a (.dK (putK kvs k (.ref p))))) : tSeq (sDPut td ty tv) tz D σ H :=
  hv H (Ex.refl H) _ fun p H1 hp e1 h1 => ha H1 e1 _ fun H2 e2 => hk H2 (e1.trans e2) _ fun H3 e3 => ⟨a, _, rfl, DPut.k (((e1.trans e2).trans e3) _ _ hd) (sz_lt hz), n p H3 hp ((e1.trans e2).trans e3) ((e2.trans e3) _ _ h1)⟩
theorem r_pair {tk tv : TE} {r : List (TE × TE)} {R : List (V × V) → Hp → Prop} (h : tk σ H fun x H1 => tv σ H1 fun y H2 => tPairs r σ H2 fun ps H3 => R ((x, y) :: ps) H3) : tPairs ((tk, tv) :: r) σ H R := h
theorem r_ifAnd1 (h : EvT t σ H true) (k : ∀ H1, Ex H H1 → u σ H1 fun c H2 => if c = true then ta σ H2 Q else tb σ H2 Q) : tIf (tAnd t u) ta tb σ H Q := h H (Ex.refl H) _ fun H1 e => k H1 e
theorem r_ifAnd0 (h : EvT t σ H false) (k : ∀ H1, Ex H H1 → tb σ H1 Q) : tIf (tAnd t u) ta tb σ H Q := h H (Ex.refl H) _ fun H1 e => k H1 e
end
end
end K51

/-! Walks 26: made. -/
namespace K51
open PySem L2 Evl
def sD5 (ra : Addr) (line labels next : Int) (da : Addr) : List (Key × V) :=
  [(Sum.inr "rows", .ref ra), (Sum.inr "line", .int line), (Sum.inr "labels", .int labels), (Sum.inr "next", .int next), (Sum.inr "laid", .ref da)]
theorem merge5 {ra da : Addr} {line labels next : Int} : mergeK [] (sD5 ra line labels next da) = sD5 ra line labels next da := by kernel_rfl
theorem put_named {ra da na : Addr} {line labels next : Int} : putK (sD5 ra line labels next da) (Sum.inr "named") (.ref na) = sD ra line labels next da na := by kernel_rfl
theorem sD5_pairs {ra da : Addr} {line labels next : Int} : [(V.str "rows", V.ref ra), (.str "line", .int line), (.str "labels", .int labels), (.str "next", .int next), (.str "laid", .ref da)] = (sD5 ra line labels next da).map fun kv => (kV kv.1, kv.2) := rfl
section
variable {P : Program} {w : World} {K : PySem.W.Frag} {mg : Str → Option Value} {base : Heap} {o1 o2 o3 o4 o5 : Addr}
/-- the last row as far as it is laid -/
def LastAt (K : PySem.W.Frag) (HB HS : Hp) (lr sc : Addr) (xs : List Int) (sd ra da ra7 da7 na : Addr) (g7 : GM) (two : Bool) (v : V) (H' : Hp) : Prop := ∃ (t : Addr) (r0 : Row), v = .ref t ∧ GS K HB H' lr sc xs sd ra7 da7 na g7 ∧ Fr HS lr sd ra da H' ra7 da7 ∧ H' t = some (.tup (.str r0.word :: r0.mid t)) ∧ (r0 = .nothing ⟨0, 0⟩ ∨ r0 = .give none ⟨0, 0⟩ ∨ (two = true ∧ ∃ x ∈ g7.laid, r0 = .give (some x) ⟨0, 0⟩))
section
variable {HB HS H : Hp} {lr sc : Addr} {xs : List Int} {sd ra da ra7 da7 na : Addr} {g7 : GM} {two : Bool} {σ : L2.St} {Q : VK} {E : XK}
theorem r_giveN (g : GS K HB H lr sc xs sd ra7 da7 na g7) (f : Fr HS lr sd ra da H ra7 da7) (k : ∀ v H1, LastAt K HB HS lr sc xs sd ra da ra7 da7 na g7 two v H1 → Q v H1) : tTup (tCons (tC (.str "give")) (tCons (tC .non) tNil)) σ H Q :=
  r_tup (r_consE ev_c fun H13 e13 => r_consE ev_c fun H14 e14 => r_nil ⟨Nat.le_of_ble_eq_true rfl, fun t ht => k _ _ ⟨t, .give none ⟨0, 0⟩, rfl, g.mono (e13.trans (e14.trans (Ex.new (o := .tup [.str "give", .non]) ht))), f.trans (fr_ex (e13.trans (e14.trans (Ex.new (o := .tup [.str "give", .non]) ht)))), upd_same, .inr (.inl rfl)⟩⟩)
theorem r_nothing (g : GS K HB H lr sc xs sd ra7 da7 na g7) (f : Fr HS lr sd ra da H ra7 da7) (k : ∀ v H1, LastAt K HB HS lr sc xs sd ra da ra7 da7 na g7 two v H1 → Q v H1) : tTup (tCons (tC (.str "nothing")) tNil) σ H Q :=
  r_tup (r_consE ev_c fun H13 e13 => r_nil ⟨Nat.le_of_ble_eq_true rfl, fun t ht => k _ _ ⟨t, .nothing ⟨0, 0⟩, rfl, g.mono (e13.trans (Ex.new (o := .tup [.str "nothing"]) ht)), f.trans (fr_ex (e13.trans (Ex.new (o := .tup [.str "nothing"]) ht))), upd_same, .inl rfl⟩⟩)
theorem r_giveS {t0 t1 : TE} (g : GS K HB H lr sc xs sd ra7 da7 na g7) (hne : g7.laid ≠ []) (hz : g7.rows.length ≤ 1000) (h0 : ∀ {H1 : Hp}, Ev t0 σ H1 (.ref lr)) (h1 : ∀ {H1 : Hp}, Ev t1 σ H1 (.ref sd)) (f : Fr HS lr sd ra da H ra7 da7) (k : ∀ v H1, LastAt K HB HS lr sc xs sd ra da ra7 da7 na g7 true v H1 → Q v H1) : tTup (tCons (tC (.str "give")) (tCons (tCall (spLop K) [] E (tCons t0 (tCons t1 tNil))) tNil)) σ H Q :=
  r_tup (r_consE ev_c fun H13 e13 => r_cons (r_opnd (ea_cons h0 (ea_cons h1 ea_nil)) (g.mono e13) hne hz fun H16 x g16 f16 hx => r_nil ⟨Nat.le_of_ble_eq_true rfl, fun t ht => k _ _ ⟨t, .give (some x) ⟨0, 0⟩, rfl, g16.mono (Ex.new (o := .tup [.str "give", .int x]) ht), f.trans ((fr_ex e13).trans (f16.trans (fr_ex (Ex.new (o := .tup [.str "give", .int x]) ht)))), upd_same, .inr (.inr ⟨rfl, x, hx, rfl⟩)⟩⟩))
end
/-- one of three texts -/
theorem r_three {HB H : Hp} {lr sc : Addr} {xs : List Int} {sd ra da na : Addr} {g : GM} {σ : L2.St} {Q : VK} {x y u : Str} {ix : TA} {E : XK} (gs : GS K HB H lr sc xs sd ra da na g) (ha : ∀ {H1 : Hp}, Ex H H1 → EvA ix σ H1 [.ref lr, .int 3]) (k : ∀ H' z, GS K HB H' lr sc xs sd ra da na g → Fr H lr sd ra da H' ra da → Q (.str z) H') : tOp (rIxL K) (tLst (tCons (tC (.str x)) (tCons (tC (.str y)) (tCons (tC (.str u)) tNil)))) (tCall (spLt K) [] E ix) σ H Q := by
  refine r_op (r_lst (r_consE ev_c fun H1 e1 => r_consE ev_c fun H2 e2 => r_consE ev_c fun H2' e2' => r_nil ⟨Nat.le_of_ble_eq_true rfl, fun p hp => ?_⟩))
  have e3 := e1.trans (e2.trans (e2'.trans (Ex.new (o := .lst [.str x, .str y, .str u]) hp)))
  obtain ⟨m1, m2, m3, m4⟩ := (gs.mono (e1.trans (e2.trans e2'))).ne_new hp
  refine r_tg (n := 3) (ha e3) (gs.mono e3) (by omega) fun H4 r g4 f4 h0 h1 => ?_
  have hp4 : H4 p = some (.lst [.str x, .str y, .str u]) := f4.at upd_same m1 m2 m3 m4
  rcases (show r = 0 ∨ r = 1 ∨ r = 2 by omega) with rfl | rfl | rfl
  · exact ⟨p, _, 0, .str x, rfl, rfl, sq_of hp4, rfl, k H4 x g4 ((fr_ex e3).trans f4)⟩
  · exact ⟨p, _, 1, .str y, rfl, rfl, sq_of hp4, rfl, k H4 y g4 ((fr_ex e3).trans f4)⟩
  · exact ⟨p, _, 2, .str u, rfl, rfl, sq_of hp4, rfl, k H4 u g4 ((fr_ex e3).trans f4)⟩
/-- a row laid together of two tuples -/
theorem k_cat {HB H : Hp} {lr sc : Addr} {xs : List Int} {sd ra da na : Addr} {g : GM} {σ : L2.St} {Q : VK} {t tp p q : Addr} {r : Row} {pl : Pl} (gs : GS K HB H lr sc xs sd ra da na g) (hz : g.rows.length ≤ 1000) (ht : H t = some (.tup (.str r.word :: r.mid q))) (htp : H tp = some (.tup [.ref p])) (hp : H p = some (.tup (plV pl))) (hq : r.isCall = true → H q = some (.tup (r.cells.map V.int)))
    (k : ∀ H3, GS K HB H3 lr sc xs sd ra da na { g with rows := g.rows ++ [r.at pl] } → Fr H lr sd ra da H3 ra da → Q .non H3) : rCatA K (.ref t) (.ref tp) H fun v H1 => (tNil : TA) σ H1 fun ys H2 => rAppend (.ref ra) (v :: ys) H2 Q := by
  have hml : (r.mid q).length ≤ 4 := by cases r <;> simp [Row.mid]
  refine ⟨t, tp, _, _, rfl, rfl, st_of ht, st_of htp, sz_of (by simp; omega), (fun z => by cases z), (fun _ z => by cases z), fun _ _ t2 ht2 => r_nil ?_⟩
  have e := Ex.new (o := .tup ((V.str r.word :: r.mid q) ++ [.ref p])) ht2
  have g2 := gs.mono e
  have hrow : RowAt (upd H t2 (.tup ((V.str r.word :: r.mid q) ++ [.ref p]))) t2 (r.at pl) := ⟨p, q, by rw [at_vals]; exact upd_same, by rw [at_place]; exact e _ _ hp, fun z => by
    rw [at_call] at z
    rw [at_cells]; exact e _ _ (hq z)⟩
  obtain ⟨as, h1, h2⟩ := g2.atR
  exact ⟨ra, as.map V.ref, .ref t2, rfl, rfl, h1, sz_lt (by rw [List.length_map, h2.1]; omega), k _ (g2.addR h1 hrow) ((fr_ex e).trans fr_ra)⟩
abbrev sLmd : Stmt := top 42
abbrev nLmd : List Str := ["_law_row", "_law_deep", "_law_parts", "_law_many", "_law_s", "_law_cell", "_law_kind", "_law_last", "_law_kinds", "_law_names", "_law_k"]
theorem scLmd : FnScope nLmd ["_law_row", "_law_deep"] (defScope sLmd) := ⟨rfl, rfl, rfl, by decide +kernel, rfl, by decide +kernel, by decide +kernel⟩
def spLmd (K0 : PySem.W.Frag) : Sp := fun vs H Q _ => ∃ HB lr sc xs, vs = [.ref lr, .int 2] ∧ LrAt K0 HB H lr sc xs ∧ xs.length ≤ 100 ∧
  ∀ H' m vn vk vo pa ra na rows np ns, But lr H H' → LrAt K0 HB H' lr sc xs → MadeAt H' m vn vk vo pa ra na rows → PartsAt H' pa np → NamesAt H' na ns → np ≤ 3 → ns.length ≤ 3 → MadeOk rows np → Q (.ref m) H'
theorem ok_Lmd {f f1 f2 f3 f4 f5 : Addr} {fd d1 d2 d3 d4 d5 : FuncData} (F : Fun K "_law_made" "_law_made" sLmd f fd) (T : Txt K mg o1 o2 o3 o4 o5) (C__law_taken : TkAt P w K mg base f1 d1) (C__law_operand : CalAt P w K mg base 2 "_law_operand" ["_law_row", "_law_s"] (spLop K) f2 d2) (C__law_place : CalAt P w K mg base 2 "_law_place" ["_law_row", "_law_s"] (spLpl K) f3 d3)
    (C__law_lays : CalAt P w K mg base 3 "_law_lays" ["_law_row", "_law_s", "_law_middle_here"] (spLly K) f4 d4) (C__law_block : CalAt P w K mg base 9 "_law_block" ["_law_row", "_law_s", "_law_deep"] (spLbk K 2) f5 d5) : FnOk P w K mg base CX0 10 f fd ["_law_row", "_law_deep"] (spLmd K) := by
  refine F.ok scLmd (fun vs H Q E h => ?_) (fun cdv A outer s H vs Q E hr h => ?_)
  · obtain ⟨HB, lr, sc, xs, rfl, _⟩ := h; rfl
  · obtain ⟨HB, lr, sc, xs, rfl, hl, hxz, k⟩ := h
    have nd := scLmd.nd
    have hu := hu_of hr
    refine ⟨_, (pss_cons (ps_asg (pe_tup (pa_cons (pe_call C__law_taken.ok (hr.mono (by decide)) (by rfl) C__law_taken.g C__law_taken.kp C__law_taken.b .nil pass0 (pa_cons (pv 0) (pa_cons pe_int pa_nil))) (pa_cons (pe_op op_add pe_int (pe_call C__law_taken.ok (hr.mono (by decide)) (by rfl) C__law_taken.g C__law_taken.kp C__law_taken.b .nil pass0 (pa_cons (pv 0) (pa_cons pe_int pa_nil)))) pa_nil))) (pg_tup (n := 2) rfl (pgs_cons (pg_name (i := 2) nd rfl (Or.inr rfl)) (pgs_cons (pg_name (i := 3) nd rfl (Or.inl rfl)) pgs_nil))))
      (pss_cons (ps_set (i := 4) nd rfl (Or.inl rfl) (pe_disp (pps_cons pe_str (pe_lst pa_nil) (pps_cons pe_str pe_int (pps_cons pe_str pe_int (pps_cons pe_str (pe_op op_add (pv 2) (pv 3)) (pps_cons pe_str (pe_listRg rfl (by rfl) T.list (prg_1 (by rfl) T.range (pv 2))) pps_nil))))) (by rfl) (by rfl) (fun z => by cases z) (by decide)))
      (pss_cons (ps_dput hu (pv 4) pe_str (pe_listRg rfl (by rfl) T.list (prg_2 (by rfl) T.range (pv 2) (pe_op op_add (pv 2) (pv 3)))) rfl)
      (pss_cons (ps_expr (pe_bm PySem.F.plainAttrs_list PySem.F.slot_list_append PySem.F.type_list_append mt_append (pe_dget hu (pv 4) pe_str (fun _ _ => rfl)) (pa_cons (pe_tup (pa_cons pe_str (pa_cons (pe_tup (pa_cons pe_int (pa_cons pe_int pa_nil))) pa_nil))) pa_nil)))
      (pss_cons (ps_for PassesOwn.never rfl (pi_list (pe_dget hu (pv 4) pe_str (fun _ _ => rfl))) (pg_name (i := 5) nd rfl (Or.inl rfl)) (pss_one (ps_expr (pe_call C__law_lays.ok (hr.mono (by decide)) (by rfl) C__law_lays.g C__law_lays.kp C__law_lays.b .nil pass0 (pa_cons (pv 0) (pa_cons (pv 4) (pa_cons (pe_tup (pa_cons pe_str (pa_cons (pv 5) (pa_cons (pe_call C__law_taken.ok (hr.mono (by decide)) (by rfl) C__law_taken.g C__law_taken.kp C__law_taken.b .nil pass0 (pa_cons (pv 0) (pa_cons pe_int pa_nil))) pa_nil)))) pa_nil)))))))
      (pss_cons (ps_expr (pe_call C__law_block.ok (hr.mono (by decide)) (by rfl) C__law_block.g C__law_block.kp C__law_block.b .nil pass0 (pa_cons (pv 0) (pa_cons (pv 4) (pa_cons (pv 1) pa_nil)))))
      (pss_cons (ps_set (i := 6) nd rfl (Or.inl rfl) (pe_ix ix_list (pe_lst (pa_cons pe_str (pa_cons pe_str (pa_cons pe_str pa_nil)))) (pe_call C__law_taken.ok (hr.mono (by decide)) (by rfl) C__law_taken.g C__law_taken.kp C__law_taken.b .nil pass0 (pa_cons (pv 0) (pa_cons pe_int pa_nil))) (fun _ _ => rfl)))
      (pss_cons (ps_set (i := 7) nd rfl (Or.inl rfl) (pe_ifExp (pw_and (pt_cmpR op_ne (pv 6) pe_str (nomark _)) (pw_and1 (pt_cmpR op_eq (pe_call C__law_taken.ok (hr.mono (by decide)) (by rfl) C__law_taken.g C__law_taken.kp C__law_taken.b .nil pass0 (pa_cons (pv 0) (pa_cons pe_int pa_nil))) pe_int (nomark _)))).pt (pe_tup (pa_cons pe_str pa_nil)) (pe_tup (pa_cons pe_str (pa_cons pe_non pa_nil)))))
      (pss_cons (ps_set (i := 7) nd rfl (Or.inl rfl) (pe_ifExp (pw_and (pt_cmpR op_ne (pv 6) pe_str (nomark _)) (pw_and1 (pt_cmpR op_eq (pe_ix ix_tup (pv 7) pe_int (fun _ _ => rfl)) pe_str (nomark _)))).pt (pe_tup (pa_cons pe_str (pa_cons (pe_call C__law_operand.ok (hr.mono (by decide)) (by rfl) C__law_operand.g C__law_operand.kp C__law_operand.b .nil pass0 (pa_cons (pv 0) (pa_cons (pv 4) pa_nil))) pa_nil))) (pv 7)))
      (pss_cons (ps_expr (pe_bm PySem.F.plainAttrs_list PySem.F.slot_list_append PySem.F.type_list_append mt_append (pe_dget hu (pv 4) pe_str (fun _ _ => rfl)) (pa_cons (pe_op op_catA (pv 7) (pe_tup (pa_cons (pe_call C__law_place.ok (hr.mono (by decide)) (by rfl) C__law_place.g C__law_place.kp C__law_place.b .nil pass0 (pa_cons (pv 0) (pa_cons (pv 4) pa_nil))) pa_nil))) pa_nil)))
      (pss_cons (ps_set (i := 8) nd rfl (Or.inl rfl) (pe_tupleOf (by rfl) T.tuple (pe_lc (own := [("_law_k", 10)]) (g := gName 10) (by rfl) nd (pi_range1 rfl T.range (pa_cons (pv 2) pa_nil)) (blkOk_by (own := [("_law_k", 10)]) (N := nLmd) (sc := defScope sLmd) (by decide +kernel)) (fun _ _ _ _ _ => (pg_name (i := 10) nd rfl (Or.inl rfl))) (fun _ _ _ _ _ => pts_nil) (fun _ _ _ _ _ => (pe_ix (r := rIxL K) ix_list (pe_lst (pa_cons pe_str (pa_cons pe_str pa_nil))) (pe_call C__law_taken.ok (hr.mono (by decide)) (by rfl) C__law_taken.g C__law_taken.kp C__law_taken.b .nil pass0 (pa_cons (pv 0) (pa_cons pe_int pa_nil))) (fun _ _ => rfl))))))
      (pss_cons (ps_setLc (i := 9) (own := [("_law_k", 10)]) (g := gName 10) (by rfl) nd rfl rfl (sw_true rfl rfl rfl (by decide +kernel)) (pi_range1 rfl T.range (pa_cons (pv 3) pa_nil)) (blkOk_by (own := [("_law_k", 10)]) (N := nLmd) (sc := defScope sLmd) (by decide +kernel)) (fun _ _ _ _ _ => (pg_name (i := 10) nd rfl (Or.inl rfl))) (fun _ _ _ _ _ => pts_nil) (fun _ _ _ _ _ => (pe_tup (pa_cons (pe_ix ix_str pe_str (pv 10) (fun _ _ => rfl)) (pa_cons pe_str (pa_cons (pe_op op_add (pv 2) (pv 10)) (pa_cons pe_int (pa_cons pe_int pa_nil))))))))
      (pss_one (ps_ret (pe_tup (pa_cons pe_str (pa_cons (pv 8) (pa_cons (pv 6) (pa_cons pe_bl (pa_cons (pe_tupleOf (by rfl) T.tuple (pe_dget hu (pv 4) pe_str (fun _ _ => rfl))) (pa_cons (pe_tupleOf (by rfl) T.tuple (pv 9)) pa_nil))))))))))))))))))))), ?_⟩
    dsimp only [cxK, cxKn, List.map]
    --BODY
    refine q_asgG (r_tup (r_cons (r_tk (n := 4) (ea_cons (ev_var rfl) (ea_cons ev_c ea_nil)) hl hxz (by omega) fun H1 pn b1 l1 p0 p1 => r_cons (r_op (r_ev ev_c fun H2 e2 => r_tk (n := 3) (ea_cons (ev_var rfl) (ea_cons ev_c ea_nil)) (l1.mono e2) hxz (by omega) fun H3 mn b3 l3 q0 q1 => ⟨1, mn, rfl, rfl, r_nil ⟨Nat.le_of_ble_eq_true rfl, fun t ht => ?_⟩⟩)))))
    refine ⟨t, _, rfl, st_of upd_same, rfl, _, _, rfl, _, _, rfl, rfl, ?_⟩
    obtain ⟨np, rfl⟩ : ∃ np : Nat, pn = (np : Int) := ⟨pn.toNat, by omega⟩
    obtain ⟨mm, hmm⟩ : ∃ mm : Nat, 1 + mn = (mm : Int) := ⟨(1 + mn).toNat, by omega⟩
    dsimp only
    rw [hmm]
    have hnp : np ≤ 3 := by omega
    have hm1 : 1 ≤ mm ∧ mm ≤ 3 := by omega
    have l4 := l3.mono (Ex.new (o := .tup [.int (np : Nat), .int (mm : Nat)]) ht)
    have b4 : But lr H (upd H3 t (.tup [.int (np : Nat), .int (mm : Nat)])) := b1.trans ((But.of e2).trans (b3.trans (But.of (Ex.new ht))))
    generalize upd H3 t (.tup [.int (np : Nat), .int (mm : Nat)]) = H4 at l4 b4
    clear b1 l1 b3 l3 ht hmm p0 p1 q0 q1
    -- the dict
    refine q_asgR ?_
    intro sd hsd
    have e5 := Ex.new (o := .dK []) hsd
    have hs5 : (upd H4 sd (.dK [])) sd = some (.dK []) := upd_same
    generalize upd H4 sd (.dK []) = H5 at e5 hs5
    refine r_pair (r_ev ev_c fun H6 e6 => r_lst (r_nil ⟨Nat.le_of_ble_eq_true rfl, fun ra hra => r_pair (r_ev ev_c fun H7 e7 => r_ev ev_c fun H8 e8 => r_pair (r_ev ev_c fun H9 e9 => r_ev ev_c fun H10 e10 => r_pair (r_ev ev_c fun H11 e11 => r_ev (v := .int ((np : Int) + (mm : Int))) (ev_op (ev_var rfl) (ev_var rfl) rv_I0) fun H12 e12 => r_pair (r_ev ev_c fun H13 e13 => el_rg1 (n := np) (ev_var rfl) (by omega) H13 (Ex.refl _) _ fun da H14 hda e14 h14 => ?_))))⟩))
    have e6r := Ex.new (o := .lst []) hra
    have e14' := e7.trans (e8.trans (e9.trans (e10.trans (e11.trans (e12.trans e13)))))
    have hra14 : H14 ra = some (.lst []) := e14 _ _ (e14' _ _ upd_same)
    have hs14 : H14 sd = some (.dK []) := e14 _ _ (e14' _ _ (e6r _ _ (e6 _ _ hs5)))
    have ex14 : Ex H4 H14 := e5.trans (e6.trans (e6r.trans (e14'.trans e14)))
    have hra4 : H4 ra = none := fresh_back (e5.trans e6) hra
    have hda4 : H4 da = none := fresh_back (e5.trans (e6.trans (e6r.trans e14'))) hda
    have nrs : ra ≠ sd := fun z => by rw [z, e6 _ _ hs5] at hra; cases hra
    have ndr : da ≠ ra := fun z => by rw [z, e14' _ _ upd_same] at hda; cases hda
    have nds : da ≠ sd := fun z => by rw [z, e14' _ _ (e6r _ _ (e6 _ _ hs5))] at hda; cases hda
    clear e6 e6r e14' e14 hra hda e5
    refine ⟨hs14, sD5 ra 1 0 ((np : Int) + (mm : Int)) da, sD5_pairs, Nat.le_of_ble_eq_true rfl, ?_⟩
    rw [merge5]
    have hsA : (upd H14 sd (.dK (sD5 ra 1 0 ((np : Int) + (mm : Int)) da))) sd = some (.dK (sD5 ra 1 0 ((np : Int) + (mm : Int)) da)) := upd_same
    have hrA : (upd H14 sd (.dK (sD5 ra 1 0 ((np : Int) + (mm : Int)) da))) ra = some (.lst []) := by rw [upd_ne nrs]; exact hra14
    have hdA : (upd H14 sd (.dK (sD5 ra 1 0 ((np : Int) + (mm : Int)) da))) da = some (.lst (((List.range np).map Int.ofNat).map V.int)) := by rw [upd_ne nds]; exact h14
    have exA : Ex H4 (upd H14 sd (.dK (sD5 ra 1 0 ((np : Int) + (mm : Int)) da))) := Ex.mut ex14 hsd
    generalize upd H14 sd (.dK (sD5 ra 1 0 ((np : Int) + (mm : Int)) da)) = HA at hsA hrA hdA exA
    clear hs5 hs14 hra14 h14 ex14
    refine q_dputL (k := Sum.inr "named") hsA (el_rg2 (a := np) (n := mm) (ev_var rfl) (ev_op (ev_var rfl) (ev_var rfl) rv_I0) (by omega)) (ev_var rfl) ev_c (by unfold sD5; simp) fun na HB1 hna eB hnaB => ?_
    rw [put_named]
    have exB := exA.trans eB
    have nas : na ≠ sd := fun z => by rw [z, hsA] at hna; cases hna
    have nar : na ≠ ra := fun z => by rw [z, hrA] at hna; cases hna
    have nad : na ≠ da := fun z => by rw [z, hdA] at hna; cases hna
    obtain ⟨pp, pm, pq, hlr4, hlr5⟩ := l4.at'
    have hlrB := exB _ _ hlr4
    have nal : na ≠ lr := fun z => by rw [z, exA _ _ hlr4] at hna; cases hna
    have nlr : lr ≠ ra := fun z => by rw [← z, hlr4] at hra4; cases hra4
    have nld : lr ≠ da := fun z => by rw [← z, hlr4] at hda4; cases hda4
    have nls : lr ≠ sd := fun z => by rw [← z, hlr4] at hsd; cases hsd
    have hnames : ((List.range mm).map fun i => (np : Int) + (i : Nat)).length = mm := by simp
    have g0 : GS K HB (upd HB1 sd (.dK (sD ra 1 0 ((np : Int) + (mm : Int)) da na))) lr sc xs sd ra da na ⟨[], 1, 0, (np : Int) + (mm : Int), (List.range np).map Int.ofNat, (List.range mm).map fun i => (np : Int) + (i : Nat)⟩ :=
      { l := ⟨l4.fr, Ex.mut (l4.ex.trans exB) (fresh_back l4.ex hsd), l4.scr, pp, pm, pq, by rw [upd_ne nls]; exact hlrB, hlr5⟩
        xz := hxz
        fs := fresh_back l4.ex hsd
        fr := fresh_back l4.ex hra4
        fd := fresh_back l4.ex hda4
        n1 := nlr
        n2 := nld
        n3 := Ne.symm ndr
        n4 := nal
        n5 := nar
        n6 := nad
        atS := upd_same
        atR := ⟨[], by rw [upd_ne nrs]; exact eB _ _ hrA, All2.nil⟩
        atL := by rw [upd_ne nds]; exact eB _ _ hdA
        atN := by rw [upd_ne nas]; exact hnaB
        zl := by simp; omega }
    have b0 : ∀ b o, H b = some o → b ≠ lr → (upd HB1 sd (.dK (sD ra 1 0 ((np : Int) + (mm : Int)) da na))) b = some o ∧ b ≠ sd ∧ b ≠ ra ∧ b ≠ da := fun b o hb hbl => by
      have h4 := b4 b o hb hbl
      have hbs : b ≠ sd := fun z => by rw [z, hsd] at h4; cases h4
      exact ⟨by rw [upd_ne hbs]; exact exB _ _ h4, hbs, (fun z => by rw [z, hra4] at h4; cases h4), (fun z => by rw [z, hda4] at h4; cases h4)⟩
    generalize upd HB1 sd (.dK (sD ra 1 0 ((np : Int) + (mm : Int)) da na)) = HS at g0 b0
    clear hsA hrA hdA exA hna eB hnaB exB hlr4 hlr5 hlrB l4 b4 hsd hra4 hda4 hl nlr nld nls nal nar nad nas nds ndr nrs
    refine q_dropR (r_bmR g0 (g0.evR (ev_var rfl)) fun H1 e1 => r_cons (r_tup (r_consE ev_c fun H2 e2 => r_cons (r_tup (r_consE ev_c fun H3 e3 => r_consE ev_c fun H4 e4 => r_nil ⟨Nat.le_of_ble_eq_true rfl, fun p hp => r_nil (k_row (r := .begin ⟨1, 3⟩) (p := p) (q := p) (g0.mono (e1.trans (e2.trans (e3.trans (e4.trans (Ex.new hp)))))) (Nat.zero_le _) rfl upd_same (fun z => by cases z) fun H5 g5 f5 => ?_)⟩)))))
    have f05 : Fr HS lr sd ra da H5 ra da := (fr_ex (e1.trans (e2.trans (e3.trans (e4.trans (Ex.new hp)))))).trans f5
    clear e1 e2 e3 e4 f5 hp
    refine q_forLn (xs := ((List.range mm).map fun i => (np : Int) + (i : Nat)).map V.int) (g5.evN (ev_var rfl)) (sq_of g5.atN) (fun i σ' H' => (∃ u5, σ' = [some (.ref lr), some (.int 2), some (.int (np : Nat)), some (.int (mm : Nat)), some (.ref sd), u5, none, none, none, none, none]) ∧ ∃ g' code, GS K HB H' lr sc xs sd ra da na g' ∧ Fr HS lr sd ra da H' ra da ∧ g'.rows = code ∧ Frag 0 g'.labels ((List.range np).map Int.ofNat) code g'.laid ∧ code.length ≤ 1 + i ∧ g'.named = (List.range mm).map (fun i => (np : Int) + (i : Nat)) ∧ i ≤ g'.laid.length)
      (fun H6 e6 => ⟨⟨_, rfl⟩, _, [.begin ⟨1, 3⟩], g5.mono e6, f05.trans (fr_ex e6), rfl, .one (r := .begin ⟨1, 3⟩) rfl (by simp [Row.reads]) trivial (fun x hx => .inl hx), Nat.le_of_ble_eq_true rfl, rfl, Nat.zero_le _⟩) (fun i σ' H' _ p => ?_) (fun i x σ' H' hx p => ?_) (fun σ' H' p => ?_)
    · obtain ⟨_, g', code, gs', _, _, _, _, hnm, _⟩ := p
      have := gs'.atN; rw [hnm] at this; exact sq_of this
    · obtain ⟨⟨u5, rfl⟩, g', code, gs', f', hr', hf', hl', hnm, hi'⟩ := p
      have himm : i < mm := by
        have := (List.getElem?_eq_some_iff.mp hx).1
        simpa using this
      obtain ⟨c, rfl⟩ : ∃ c, x = .int c := by
        rw [List.getElem?_map] at hx
        cases h : ((List.range mm).map fun i => (np : Int) + (i : Nat))[i]? with
        | none => rw [h] at hx; cases hx
        | some c => rw [h] at hx; exact ⟨c, (Option.some.inj hx).symm⟩
      refine s_dropR (r_call (r_consE (v := .ref lr) (ev_var rfl) fun H7 e7 => r_consE (v := .ref sd) (ev_var rfl) fun H8 e8 => r_cons (r_tup (r_consE ev_c fun H9 e9 => r_consE (v := .int c) (ev_var rfl) fun H10 e10 => r_cons (r_tg (n := 9) (ea_cons (ev_var rfl) (ea_cons ev_c ea_nil)) (gs'.mono (e7.trans (e8.trans (e9.trans e10)))) (by omega) fun H11 v g11 f11 v0 v1 => r_nil (k_lys (r := .put c v ⟨0, 0⟩) (q := lr) g11 (by rw [hr']; omega) rfl rfl (fun z => by cases z) fun H12 pl g12 f12 => nxM ⟨⟨_, rfl⟩, _, code ++ [.put c v pl], g12, f'.trans ((fr_ex (e7.trans (e8.trans (e9.trans e10)))).trans (f11.trans f12)), by show g'.rows ++ _ = _; rw [hr']; rfl, .app hf' (.one (r := .put c v pl) rfl (by simp [Row.reads]) (by show 0 - big ≤ v ∧ v ≤ big; unfold big; omega) (fun y hy => ?_)), by simp; omega, hnm, ?_⟩))))))
      · rcases List.mem_append.mp hy with h | h
        · exact .inl h
        · exact .inr (by simpa [Row.at, Row.lays, eq_comm] using h)
      · show i + 1 ≤ (g'.laid ++ [c]).length
        simp; omega
    obtain ⟨⟨u5, rfl⟩, g6, code6, gs6, f06, hr6, hf6, hl6, hn6, hi6⟩ := p
    rw [List.length_map, hnames] at hl6 hi6
    have hne6 : g6.laid ≠ [] := fun z => by rw [z] at hi6; simp at hi6; omega
    have hMb : Mb 2 = 110 := by decide
    clear g5 f05
    refine q_dropR (r_call (r_consE (v := .ref lr) (ev_var rfl) fun H7 e7 => r_consE (v := .ref sd) (ev_var rfl) fun H8 e8 => r_consE (v := .int ((2 : Nat) : Int)) (ev_var rfl) fun H9 e9 => r_nil ⟨HB, lr, sc, xs, sd, ra, da, na, g6, rfl, gs6.mono (e7.trans (e8.trans e9)), hne6, by rw [hr6]; omega, by rw [hn6, hnames]; omega, .mk fun H10 h10 => ?_⟩))
    obtain ⟨ra7, da7, g7, code7, gs7, f7, hr7, hf7, hl7, hn7, hs7⟩ := h10
    rw [hMb, hr6] at hl7
    have f07 : Fr HS lr sd ra da H10 ra7 da7 := f06.trans ((fr_ex (e7.trans (e8.trans e9))).trans f7)
    have hfr : Frag 0 g7.labels ((List.range np).map Int.ofNat) (code6 ++ code7) g7.laid := .app hf6 hf7
    have hrw : g7.rows = code6 ++ code7 := by rw [hr7, hr6]
    have hlen : g7.rows.length ≤ 122 := by omega
    have hne7 : g7.laid ≠ [] := fun z => by
      obtain ⟨x, hx⟩ := List.exists_mem_of_ne_nil _ hne6
      have := hs7 x hx
      rw [z] at this; cases this
    clear f06 hr6 hf6 hl6 hn6 hi6 e7 e8 e9 f7 hr7 hf7 hl7 hs7 gs6 hn7
    refine q_asgR (r_three gs7 (fun e => (ea_cons (ev_var rfl) (ea_cons ev_c ea_nil))) fun H11 z g11 f11 => ?_)
    have f011 := f07.trans f11
    have tz : ∀ {H' : Hp} {a0 a1 a2 a3 a4 a5 : Option V} {s : L2.St}, EvT (tTest (tOp rNe (tVar 6) (tC (.str (Str.ofString ""))))) (a0 :: a1 :: a2 :: a3 :: a4 :: a5 :: some (.str z) :: s) H' (!decide (V.str z = V.str (Str.ofString ""))) := et_test (ev_op (ev_var rfl) ev_c (rv_ne rfl))
    refine q_asgK (LastAt K HB HS lr sc xs sd ra da ra7 da7 na g7 false) (fun v H12 m => ?_) (fun kk => ?_)
    rotate_left
    · by_cases hz0 : z = Str.ofString ""
      · exact r_ifAnd0 (et_is tz (by rw [hz0]; simp)) fun H12 e12 => r_giveN (g11.mono e12) (f011.trans (fr_ex e12)) kk
      · refine r_ifAnd1 (et_is tz (by simp [hz0])) fun H12 e12 => r_tg (n := 4) (ea_cons (ev_var rfl) (ea_cons ev_c ea_nil)) (g11.mono e12) (by omega) fun H13 r g13 f13 k0 k1 => k_eq ?_
        have f013 := f011.trans ((fr_ex e12).trans f13)
        by_cases hr0 : r = 0
        · rw [decide_eq_true hr0]
          exact r_nothing g13 f013 kk
        · rw [decide_eq_false hr0]
          exact r_giveN g13 f013 kk
    obtain ⟨t1, r1, rfl, g12, f012, ht1, hr1⟩ := m
    refine q_asgK (LastAt K HB HS lr sc xs sd ra da ra7 da7 na g7 true) (fun v H13 m => ?_) (fun kk => ?_)
    rotate_left
    · have same : ∀ {H' : Hp}, Ex H12 H' → LastAt K HB HS lr sc xs sd ra da ra7 da7 na g7 true (.ref t1) H' := fun e => ⟨t1, r1, rfl, g12.mono e, f012.trans (fr_ex e), e _ _ ht1, hr1.imp id fun h => h.imp id fun h => (by cases h.1)⟩
      by_cases hz0 : z = Str.ofString ""
      · exact r_ifAnd0 (et_is tz (by rw [hz0]; simp)) fun H13 e13 => r_ev (v := .ref t1) (ev_var rfl) fun H14 e14 => kk _ _ (same (e13.trans e14))
      · refine r_ifAnd1 (et_is tz (by simp [hz0])) fun H13 e13 => ?_
        refine et_word .give (ev_row (j := 0) (e13 _ _ ht1) (ev_var rfl) rfl) H13 (Ex.refl _) _ fun H14 e14 => ?_
        have e134 := e13.trans e14
        rcases hr1 with rfl | rfl | ⟨h, _⟩
        · exact r_ev (v := .ref t1) (ev_var rfl) fun H15 e15 => kk _ _ (same (e134.trans e15))
        · exact r_giveS (g12.mono e134) hne7 (by omega) (ev_var rfl) (ev_var rfl) (f012.trans (fr_ex e134)) kk
        · cases h
    obtain ⟨t2, r2, rfl, g13, f013, ht2, hr2⟩ := m
    clear g12 f012 ht1 hr1 g11 f11 f011
    --LAST
    refine q_dropR (r_bmR g13 (g13.evR (ev_var rfl)) fun H14 e14 => r_cons (r_op (r_ev (v := .ref t2) (ev_var rfl) fun H15 e15 => r_tup (r_cons (r_pl (ea_cons (ev_var rfl) (ea_cons (ev_var rfl) ea_nil)) (g13.mono (e14.trans e15)) fun H16 p pl g16 f16 hp => r_nil ⟨Nat.le_of_ble_eq_true rfl, fun tp htp => k_cat (p := p) (q := t2) (r := r2) (pl := pl) (g16.mono (Ex.new htp)) (by omega) ?_ upd_same (Ex.new htp _ _ hp) (fun z => ?_) fun H17 g17 f17 => ?_⟩)))))
    · exact Ex.new htp _ _ ((g13.mono (e14.trans e15)).tl f16 _ _ ((e14.trans e15) _ _ ht2))
    · rcases hr2 with rfl | rfl | ⟨_, x, _, rfl⟩ <;> cases z
    have f017 : Fr HS lr sd ra da H17 ra7 da7 := f013.trans ((fr_ex (e14.trans e15)).trans (f16.trans ((fr_ex (Ex.new htp)).trans f17)))
    clear g13 f013 ht2 e14 e15 g16 f16 hp htp f17
    have hmade : MadeOk (g7.rows ++ [r2.at pl]) np := by
      refine ⟨0, g7.labels, g7.laid, code6 ++ code7, r2.at pl, by rw [hrw], hfr, ?_, by rw [← hrw]; omega⟩
      rcases hr2 with rfl | rfl | ⟨_, x, hx, rfl⟩
      · exact .inl (.inl rfl)
      · exact .inl (.inr rfl)
      · exact .inr ⟨x, rfl, hx⟩
    -- the parts' kinds
    refine q_asgR (r_then (r_lcR1 (n := np) (ea_cons (ev_var rfl) ea_nil) (by omega) fun H18 e18 D hD => ?_))
    have g18 := g17.mono e18
    obtain ⟨d1, d2, d3, d4⟩ := g18.ne_new hD
    have d5 : D ≠ na := fun z => by have := g18.atN; rw [← z, hD] at this; cases this
    have hBD : HB D = none := fresh_back g18.l.ex hD
    refine ⟨fun i H' => GS K HB H' lr sc xs sd ra7 da7 na { g7 with rows := g7.rows ++ [r2.at pl] } ∧ Fr H18 lr sd ra7 da7 H' ra7 da7 ∧ ∃ ks : List S, ks.length = i ∧ H' D = some (.lst (ks.map V.str)), ⟨g18.mono (Ex.new hD), fr_ex (Ex.new hD), [], rfl, upd_same⟩, fun i H' hi p => ?_, fun H' p => ?_⟩
    · obtain ⟨gi, fi, ks, hk1, hk2⟩ := p
      refine ⟨rfl, ?_⟩
      dsimp only [tYes]
      rw [if_pos rfl]
      exact r_two gi (fun e => (ea_cons (ev_var rfl) (ea_cons ev_c ea_nil))) fun H9 z9 g9 f9 hz9 => ⟨ks.map V.str, f9.at hk2 d1 d2 d3 d4, sz_lt (by rw [List.length_map]; omega), g9.but (f9.at hk2 d1 d2 d3 d4) hBD d1 d3 d4 d5, fr_mut (fi.trans f9) hD, ks ++ [z9], by simp [hk1], by rw [upd_same]; simp⟩
    obtain ⟨g19, f19, ks, hk1, hk2⟩ := p
    refine .inl ⟨D, _, rfl, sq_of hk2, fun pa hpa => ?_⟩
    have g20 := g19.mono (Ex.new (o := .tup (ks.map V.str)) hpa)
    have hpa20 : (upd H' pa (.tup (ks.map V.str))) pa = some (.tup (ks.map V.str)) := upd_same
    have f020 : Fr HS lr sd ra da (upd H' pa (.tup (ks.map V.str))) ra7 da7 := f017.trans ((fr_ex e18).trans (f19.trans (fr_ex (Ex.new hpa))))
    generalize upd H' pa (.tup (ks.map V.str)) = H20 at g20 hpa20 f020
    clear g17 g18 g19 f19 hk2 hpa f017 e18 hD d1 d2 d3 d4 d5 hBD
    -- the names
    refine q_asgR (r_lcR1 (n := mm) (ea_cons (ev_var rfl) ea_nil) (by omega) fun H21 e21 D2 hD2 => ?_)
    refine ⟨fun i H' => Ex H21 H' ∧ ∃ (bs : List Addr) (ns : List Nm5), ns.length = i ∧ H' D2 = some (.lst (bs.map V.ref)) ∧ All2 (fun b n => H' b = some (.tup [.str (Nm5.word n), .str n.sort, .int n.cell, .int n.first, .int n.last])) bs ns, ⟨Ex.new hD2, [], [], rfl, upd_same, All2.nil⟩, fun i H' hi p => ?_, fun H' p => ?_⟩
    · obtain ⟨ex, bs, ns, hn1, hn2, hn3⟩ := p
      refine ⟨rfl, ?_⟩
      dsimp only [tYes]
      rw [if_pos rfl]
      obtain ⟨c, hc⟩ : ∃ c, (Str.ofString "abcdefg").cps.toList[i]? = some c := ⟨_, List.getElem?_eq_getElem (by
        have : (Str.ofString "abcdefg").cps.toList.length = 7 := by decide +kernel
        omega)⟩
      refine r_tup (r_cons (r_op (r_ev ev_c fun H22 e22 => r_ev (v := .int (i : Nat)) (ev_var rfl) fun H23 e23 => ⟨Str.ofString "abcdefg", i, c, rfl, rfl, sz_of (by decide +kernel), atI_nat hc, r_consE ev_c fun H24 e24 => r_consE (v := .int ((np : Int) + (i : Nat))) (ev_op (ev_var rfl) (ev_var rfl) rv_I0) fun H25 e25 => r_consE ev_c fun H26 e26 => r_consE ev_c fun H27 e27 => r_nil ⟨Nat.le_of_ble_eq_true rfl, fun b hb => ?_⟩⟩)))
      have e28 := e22.trans (e23.trans (e24.trans (e25.trans (e26.trans (e27.trans (Ex.new (o := .tup [.str ⟨#[c]⟩, .str "num", .int ((np : Int) + (i : Nat)), .int 1, .int 90]) hb))))))
      have hbb : (upd H27 b (.tup [.str ⟨#[c]⟩, .str "num", .int ((np : Int) + (i : Nat)), .int 1, .int 90])) b = some (.tup [.str ⟨#[c]⟩, .str "num", .int ((np : Int) + (i : Nat)), .int 1, .int 90]) := upd_same
      generalize upd H27 b (.tup [.str ⟨#[c]⟩, .str "num", .int ((np : Int) + (i : Nat)), .int 1, .int 90]) = H28 at e28 hbb
      have tl := TL.mut (o := .lst (bs.map V.ref ++ [.ref b])) (e28 _ _ hn2) fun _ z => by cases z
      refine ⟨bs.map V.ref, e28 _ _ hn2, sz_lt (by rw [List.length_map, hn3.1]; omega), Ex.mut (ex.trans e28) hD2, bs ++ [b], ns ++ [⟨⟨#[c]⟩, "num", (np : Int) + (i : Nat), 1, 90⟩], by simp [hn1], by rw [upd_same]; simp, All2.snoc (hn3.imp fun _ _ z => tl _ _ (e28 _ _ z)) (tl _ _ hbb)⟩
    obtain ⟨ex, bs, ns, hn1, hn2, hn3⟩ := p
    have g22 := g20.mono (e21.trans ex)
    have f022 := f020.trans (fr_ex (lr := lr) (sd := sd) (ra := ra7) (da := da7) (e21.trans ex))
    have hpa22 := (e21.trans ex) _ _ hpa20
    clear g20 f020 hpa20
    obtain ⟨as, hra1, hra2⟩ := g22.atR
    refine s_retR (r_tup (r_consE ev_c fun H30 e30 => r_consE (v := .ref pa) (ev_var rfl) fun H31 e31 => r_consE (v := .str z) (ev_var rfl) fun H32 e32 => r_consE ev_c fun H33 e33 => r_cons (r_then (r_ev ((g22.mono (e30.trans (e31.trans (e32.trans e33)))).evR (ev_var rfl)) fun H34 e34 => .inl ⟨ra7, _, rfl, sq_of ((e30.trans (e31.trans (e32.trans (e33.trans e34)))) _ _ hra1), fun qr hqr => r_cons (r_then (r_ev (v := .ref D2) (ev_var rfl) fun H36 e36 => .inl ⟨D2, _, rfl, sq_of (e36 _ _ (Ex.new hqr _ _ ((e30.trans (e31.trans (e32.trans (e33.trans e34)))) _ _ hn2))), fun qn hqn => r_nil ⟨Nat.le_of_ble_eq_true rfl, fun m hm => rtM ?_⟩⟩))⟩))))
    have eA := e30.trans (e31.trans (e32.trans (e33.trans (e34.trans ((Ex.new (o := .tup (as.map V.ref)) hqr).trans e36)))))
    have eB := Ex.new (o := .tup (bs.map V.ref)) hqn
    have eC := Ex.new (o := .tup [.str "da", .ref pa, .str z, .bl true, .ref qr, .ref qn]) hm
    have eAll := eA.trans (eB.trans eC)
    have g40 := g22.mono eAll
    have f040 := f022.trans (fr_ex (lr := lr) (sd := sd) (ra := ra7) (da := da7) eAll)
    refine k _ m (.str "da") (.str z) (.bl true) pa qr qn (g7.rows ++ [r2.at pl]) np ns (fun b o hb hbl => ?_) g40.l ⟨upd_same, as, eC _ _ (eB _ _ (e36 _ _ upd_same)), hra2.imp fun _ _ => RowAt.mono (tl_ex eAll)⟩ ⟨ks.map V.str, eAll _ _ hpa22, by rw [List.length_map, hk1], fun x hx => ?_⟩ ⟨bs, eC _ _ upd_same, hn3.imp fun _ _ z => eAll _ _ z⟩ hnp (by rw [hn1]; exact hm1.2) hmade
    · obtain ⟨h1, h2, h3, h4⟩ := b0 b o hb hbl
      exact Fr.at f040 h1 hbl h2 h3 h4
    · obtain ⟨s, _, rfl⟩ := List.mem_map.mp hx
      exact ⟨s, rfl⟩
end
end K51

/-! Walks 27: what is made is in bounds; parts_of. -/
namespace K51
open PySem L2 Evl
theorem pre_from {left : Nat → Bool} : ∀ {rows : List Row} {i : Nat} {m : MRow}, m ∈ pre left i rows → ∃ j r l lf', rows[j]? = some r ∧ m.k = i + j ∧ m.op ∈ mcode l lf' r
  | [], i, m, h => by simp [pre] at h
  | r :: rows, i, m, h => by
    simp only [pre, List.mem_append, List.mem_map] at h
    rcases h with ⟨op, hop, rfl⟩ | h
    · exact ⟨0, r, _, _, rfl, rfl, hop⟩
    · obtain ⟨j, r', l, lf', h1, h2, h3⟩ := pre_from h
      exact ⟨j + 1, r', l, lf', h1, by omega, h3⟩
theorem mcode_bnd {l lf' : Bool} {r : Row} (hb : r.Bnd) {op : MOp} (h : op ∈ mcode l lf' r) : op.Bnd ∧ (op.tag = .call → r.tag = .call) := by
  unfold mcode at h
  rw [List.mem_append, List.mem_append] at h
  rcases h with h | h | h
  · obtain ⟨c, _, rfl⟩ := List.mem_map.mp h
    exact ⟨trivial, fun z => by cases z⟩
  · cases r <;> simp [body] at h <;> subst h
    case put c n p => exact ⟨hb, fun z => by cases z⟩
    case fetch c f n p => exact ⟨hb, fun z => by cases z⟩
    case lay n c p => exact ⟨hb, fun z => by cases z⟩
    case say n c p => exact ⟨hb, fun z => by cases z⟩
    case call c f n cs p => exact ⟨⟨hb.1.1, hb.2⟩, fun _ => rfl⟩
    all_goals exact ⟨trivial, fun z => by cases z⟩
  · unfold stores at h
    split at h
    · split at h
      · simp at h
      · simp at h; subst h; exact ⟨trivial, fun z => by cases z⟩
    · simp at h
theorem ms_ok {left : Nat → Bool} {rows : List Row} (hb : ∀ r ∈ rows, r.Bnd) : MsOk rows (mrows left rows) := by
  have key : ∀ m ∈ mrows left rows, m.op.Bnd ∧ ∃ r, rows[m.k]? = some r ∧ (m.op.tag = .call → r.tag = .call) := fun m hm => by
    unfold mrows at hm
    obtain ⟨m0, h0, rfl⟩ := List.mem_map.mp hm
    obtain ⟨j, r, l, lf', h1, h2, h3⟩ := pre_from h0
    rw [Nat.zero_add] at h2
    obtain ⟨b1, b2⟩ := mcode_bnd (hb r (List.mem_of_getElem? h1)) h3
    obtain ⟨op, k⟩ := m0
    simp only at h2 b1 b2
    subst h2
    cases op with
    | jump t => exact ⟨trivial, r, h1, fun z => by cases z⟩
    | «unless» t => exact ⟨trivial, r, h1, fun z => by cases z⟩
    | _ => exact ⟨b1, r, h1, b2⟩
  exact ⟨fun m hm => (key m hm).1, fun m hm hc => by
    obtain ⟨_, r, h1, h2⟩ := key m hm
    exact ⟨r, h1, h2 hc⟩, fun m hm => by
    obtain ⟨_, r, h1, _⟩ := key m hm
    exact (List.getElem?_eq_some_iff.mp h1).1⟩
theorem mruns_j {rows : List Row} {ms : List MRow} (hms : ∀ m ∈ ms, m.k < rows.length) {pc : Nat} {pile : List Int} {c : Cells} {k : Keeps} {most : Int} {raws : List Raw} {n : Nat} (h : MRuns rows ms pc pile c k most raws n) : ∀ raw ∈ raws, rawJ raw < rows.length := by
  have at' : ∀ {pc : Nat} {op : MOp} {j : Nat}, ms[pc]? = some ⟨op, j⟩ → j < rows.length := fun h => hms _ (List.mem_of_getElem? h)
  induction h with
  | out _ => intro r hr; cases hr
  | row h0 h1 h2 ih => intro r hr; rcases List.mem_cons.mp hr with rfl | hr; exact at' h1; exact ih r hr
  | nothing h0 h1 => intro r hr; have := List.mem_singleton.mp hr; subst this; exact at' h1
  | push h0 h1 h2 ih => exact ih
  | load h0 h1 h2 h3 ih => exact ih
  | store h0 h1 h2 h3 ih => exact ih
  | fetch h0 h1 h2 ih => intro r hr; rcases List.mem_cons.mp hr with rfl | hr; exact at' h1; exact ih r hr
  | lay h0 h1 h2 h3 ih => intro r hr; rcases List.mem_cons.mp hr with rfl | hr; exact at' h1; exact ih r hr
  | two h0 h1 h2 h3 h4 ih => exact ih
  | twoF h0 h1 h2 h3 => intro r hr; have := List.mem_singleton.mp hr; subst this; exact at' h1
  | jump h0 h1 h2 ih => exact ih
  | unless0 h0 h1 h2 h3 ih => exact ih
  | unless1 h0 h1 h2 h3 h4 ih => exact ih
  | call h0 h1 h2 h3 h4 h5 ih => intro r hr; rcases List.mem_cons.mp hr with rfl | hr; exact at' h1; exact ih r hr
  | give0 h0 h1 => intro r hr; have := List.mem_singleton.mp hr; subst this; exact at' h1
  | give1 h0 h1 h2 => intro r hr; have := List.mem_singleton.mp hr; subst this; exact at' h1
  | say h0 h1 h2 h3 ih => intro r hr; rcases List.mem_cons.mp hr with rfl | hr; exact at' h1; exact ih r hr
/-- no long lists in what is told -/
def EvZ : Evt → Prop
  | .begin _ vs => vs.length ≤ 1000
  | .call _ _ _ vs => vs.length ≤ 1000
  | _ => True
theorem exec_z {cs : List Int} (hz : cs.length ≤ 1000) {r : Row} (hb : r.Bnd) {c : Cells} {k : Keeps} {res : Res} (h : exec cs r c k = some res) : match res with
    | .fall ev _ _ => ∀ e ∈ ev, EvZ e
    | .stop ev => ∀ e ∈ ev, EvZ e
    | .jump _ => True := by
  cases r <;> simp only [exec] at h
  case begin p => cases h; intro e he; have := List.mem_singleton.mp he; subst this; show (shown cs c).length ≤ 1000; unfold shown; rw [List.length_map]; exact hz
  case put => cases h; intro e he; cases he
  case copy x d p => cases hd : c d <;> rw [hd] at h <;> cases h; intro e he; cases he
  case two o x d e p =>
    cases hd : c d <;> rw [hd] at h
    · cases h
    cases hd2 : c e <;> rw [hd2] at h
    · cases h
    simp only at h
    split at h <;> cases h
    · intro e he; cases he
    · intro e he; have := List.mem_singleton.mp he; subst this; trivial
  case fetch => cases h; intro e he; cases he
  case lay n x p => cases hd : c x <;> rw [hd] at h <;> cases h; intro e he; have := List.mem_singleton.mp he; subst this; trivial
  case label => cases h; intro e he; cases he
  case go => cases h; trivial
  case «unless» x t p =>
    cases hd : c x <;> rw [hd] at h
    · cases h
    simp only [Option.map_some] at h
    split at h <;> cases h
    · trivial
    · intro e he; cases he
  case call x f n cs' p =>
    cases hd : look c cs' <;> rw [hd] at h <;> cases h
    intro e he; have := List.mem_singleton.mp he; subst this
    rename_i vs
    show vs.length ≤ 1000
    rw [look_len hd]
    have : cs'.length ≤ 3 := hb.1.2
    omega
  case say kd x p => cases hd : c x <;> rw [hd] at h <;> cases h; intro e he; have := List.mem_singleton.mp he; subst this; trivial
  case give x p =>
    cases x with
    | none => cases h; intro e he; have := List.mem_singleton.mp he; subst this; trivial
    | some x => cases hd : c x <;> simp only [exec, hd] at h <;> cases h; intro e he; have := List.mem_singleton.mp he; subst this; trivial
  case nothing => cases h; intro e he; have := List.mem_singleton.mp he; subst this; trivial
theorem runs_z {cs : List Int} (hz : cs.length ≤ 1000) {rows : List Row} (hb : ∀ r ∈ rows, r.Bnd) {pc : Nat} {c : Cells} {k : Keeps} {most : Int} {evs : List Evt} {n : Nat} (h : Runs cs rows pc c k most evs n) : ∀ e ∈ evs, EvZ e := by
  induction h with
  | out _ => intro e he; cases he
  | stop h0 h1 h2 => exact exec_z hz (hb _ (List.mem_of_getElem? h1)) h2
  | fall h0 h1 h2 _ ih =>
    intro e he
    rcases List.mem_append.mp he with h | h
    · exact exec_z hz (hb _ (List.mem_of_getElem? h1)) h2 e h
    · exact ih e h
  | jump _ _ _ _ _ ih => exact ih
/-! ### what is told twice is alike -/
theorem dp_alk {K : PySem.W.Frag} {H : Hp} {d : PyData} (hd : d = .none ∨ (∃ i, d = .int i) ∨ (∃ s, d = .str s) ∨ ∃ vs : List Int, d = .list (vs.map PyData.int) ∧ vs.length ≤ 1000) {x y : V} (hx : Dp K H x d) (hy : Dp K H y d) : Alk K H 1 x y := by
  rcases hd with rfl | ⟨i, rfl⟩ | ⟨s, rfl⟩ | ⟨vs, rfl, hz⟩
  · cases hx; cases hy; exact .inl ⟨rfl, .inl rfl⟩
  · cases hx; cases hy; exact .inl ⟨rfl, .inr (.inl ⟨_, rfl⟩)⟩
  · cases hx; cases hy; exact .inl ⟨rfl, .inr (.inr ⟨_, rfl⟩)⟩
  · have allI : ∀ {vs : List Int} {xs : List V}, DpAll K H xs (vs.map PyData.int) → xs = vs.map V.int := by
      intro vs
      induction vs with
      | nil => intro xs h; cases h; rfl
      | cons v vs ih => intro xs h; cases h with
        | cons a b => cases a; rw [ih b]; rfl
    cases hx with
    | lst h1 h2 => cases hy with
      | lst h3 h4 =>
        rw [allI h2] at h1
        rw [allI h4] at h3
        refine .inr ⟨_, _, _, _, rfl, rfl, .inl ⟨h1, h3⟩, by rw [List.length_map]; omega, rfl, fun i a b e1 e2 => ?_⟩
        rw [e1] at e2; cases e2
        rw [List.getElem?_map] at e1
        cases h : vs[i]? with
        | none => rw [h] at e1; cases e1
        | some v => rw [h] at e1; cases e1; exact ⟨rfl, .inr (.inl ⟨v, rfl⟩)⟩
theorem all2_cons {α β : Type} {F : α → β → Prop} {a : α} {b : β} {l : List α} {m : List β} (h : F a b) (h2 : All2 F l m) : All2 F (a :: l) (b :: m) := ⟨by simp [h2.1], fun i x y e1 e2 => by
  cases i with
  | zero => cases e1; cases e2; exact h
  | succ i => exact h2.2 i x y (by simpa using e1) (by simpa using e2)⟩
theorem dps_alk {K : PySem.W.Frag} {H : Hp} : ∀ {ds : List PyData} {xs ys : List V}, (∀ d ∈ ds, d = .none ∨ (∃ i, d = .int i) ∨ (∃ s, d = .str s) ∨ ∃ vs : List Int, d = .list (vs.map PyData.int) ∧ vs.length ≤ 1000) → DpAll K H xs ds → DpAll K H ys ds → All2 (Alk K H 1) xs ys
  | [], _, _, _, .nil, .nil => All2.nil
  | d :: ds, _, _, h, .cons a b, .cons a' b' => all2_cons (dp_alk (h d (List.mem_cons_self ..)) a a') (dps_alk (fun d hd => h d (List.mem_cons_of_mem _ hd)) b b')
theorem ev_tail {e : Evt} (hz : EvZ e) : ∀ d ∈ e.tail, d = .none ∨ (∃ i, d = .int i) ∨ (∃ s, d = .str s) ∨ ∃ vs : List Int, d = .list (vs.map PyData.int) ∧ vs.length ≤ 1000 := by
  intro d hd
  cases e with
  | begin p vs => have := List.mem_singleton.mp hd; subst this; exact .inr (.inr (.inr ⟨vs, rfl, hz⟩))
  | nothing p => cases hd
  | lay p n v => simp [Evt.tail] at hd; rcases hd with rfl | rfl; exact .inr (.inr (.inl ⟨_, rfl⟩)); exact .inr (.inl ⟨_, rfl⟩)
  | say p n v => simp [Evt.tail] at hd; rcases hd with rfl | rfl; exact .inr (.inr (.inl ⟨_, rfl⟩)); exact .inr (.inl ⟨_, rfl⟩)
  | give p v => have := List.mem_singleton.mp hd; subst this; cases v; exact .inl rfl; exact .inr (.inl ⟨_, rfl⟩)
  | call p f n vs => simp [Evt.tail] at hd; rcases hd with rfl | rfl | rfl; exact .inr (.inr (.inl ⟨_, rfl⟩)); exact .inr (.inr (.inl ⟨_, rfl⟩)); exact .inr (.inr (.inr ⟨vs, rfl, hz⟩))
  | fault p o w => have := List.mem_singleton.mp hd; subst this; exact .inr (.inr (.inl ⟨_, rfl⟩))
theorem tail_len (e : Evt) : e.tail.length ≤ 3 := by cases e <;> simp [Evt.tail]
theorem ev_alk {K : PySem.W.Frag} {H : Hp} {a b : Addr} {e : Evt} (hz : EvZ e) (ha : EvAt K H a e) (hb : EvAt K H b e) : Alk K H 2 (.ref a) (.ref b) := by
  obtain ⟨p, xs, h1, h2, h3⟩ := ha
  obtain ⟨q, ys, k1, k2, k3⟩ := hb
  have hl := dp_len h3
  have ht := tail_len e
  refine .inr ⟨a, b, _, _, rfl, rfl, .inr ⟨st_of h1, st_of k1⟩, by simp; omega, all2_cons (.inl ⟨rfl, .inr (.inr ⟨_, rfl⟩)⟩) (all2_cons (.inr ⟨p, q, _, _, rfl, rfl, .inr ⟨st_of h2, st_of k2⟩, by simp [plV], all2_cons ⟨rfl, .inr (.inl ⟨_, rfl⟩)⟩ (all2_cons ⟨rfl, .inr (.inl ⟨_, rfl⟩)⟩ All2.nil)⟩) (dps_alk (ev_tail hz) h3 k3))⟩
theorem kept_mem {es : List Evt} {e : Evt} (h : e ∈ keptE es) : e ∈ es := by
  unfold keptE at h
  obtain ⟨i, hi, rfl⟩ := List.mem_map.mp h
  have hl : i < es.length := List.mem_range.mp (List.mem_filter.mp hi).1
  rw [List.getElem?_eq_getElem hl]
  exact List.getElem_mem _
theorem kept_len {es : List Evt} : (keptE es).length ≤ es.length := by
  unfold keptE
  rw [List.length_map]
  have := List.length_filter_le (fun i => !overE es i) (List.range es.length)
  rw [List.length_range] at this
  exact this
theorem evs_alk {K : PySem.W.Frag} {H : Hp} {a b : Addr} {es : List Evt} (hz : ∀ e ∈ es, EvZ e) (hl : es.length ≤ 30000) (ha : EvsAt K H a (keptE es)) (hb : EvsAt K H b (keptE es)) : Alk K H 3 (.ref a) (.ref b) := by
  obtain ⟨as, h1, h2⟩ := ha
  obtain ⟨bs, k1, k2⟩ := hb
  have hk := kept_len (es := es)
  refine .inr ⟨a, b, _, _, rfl, rfl, .inl ⟨sq_of h1, sq_of k1⟩, by rw [List.length_map, h2.1]; omega, by rw [List.length_map, List.length_map, h2.1, k2.1], fun i x y e1 e2 => ?_⟩
  rw [List.getElem?_map] at e1 e2
  cases ha : as[i]? with
  | none => rw [ha] at e1; cases e1
  | some a' =>
    rw [ha] at e1; cases e1
    obtain ⟨e, he1, he2⟩ := h2.get ha
    obtain ⟨b', hb1, hb2⟩ := k2.get' he1
    rw [hb1] at e2; cases e2
    exact ev_alk (hz e (kept_mem (List.mem_of_getElem? he1))) he2 hb2
/-! ### parts_of -/
section
variable {P : Program} {w : World} {K : PySem.W.Frag} {mg : Str → Option Value} {base : Heap} {o1 o2 o3 o4 o5 : Addr}
abbrev sLpo : Stmt := top 50
abbrev nLpo : List Str := ["_law_row", "_law_made_here", "_law_found", "_law_kind", "_law_far"]
theorem scLpo : FnScope nLpo ["_law_row", "_law_made_here"] (defScope sLpo) := ⟨rfl, rfl, rfl, by decide +kernel, rfl, by decide +kernel, by decide +kernel⟩
def spLpo (K0 : PySem.W.Frag) : Sp := fun vs H Q _ => ∃ HB lr sc xs md vn vk vo pa ra na rows np, vs = [.ref lr, .ref md] ∧ LrAt K0 HB H lr sc xs ∧ xs.length ≤ 100 ∧ MadeAt H md vn vk vo pa ra na rows ∧ PartsAt H pa np ∧ np ≤ 100 ∧
  ∀ H' p (parts : List Int), But lr H H' → LrAt K0 HB H' lr sc xs → H' p = some (.lst (parts.map V.int)) → parts.length = np → (∀ v ∈ parts, Small v) → Q (.ref p) H'
theorem LrAt.upd {HB H : Hp} {lr sc : Addr} {xs : List Int} (h : LrAt K HB H lr sc xs) {a : Addr} {o : HO} (ha : HB a = none) (hn : lr ≠ a) : LrAt K HB (L2.upd H a o) lr sc xs :=
  let ⟨p, m, q, h1, h2⟩ := h.at'
  ⟨h.fr, Ex.mut h.ex ha, h.scr, p, m, q, by rw [upd_ne hn]; exact h1, h2⟩
theorem ok_Lpo {f f1 : Addr} {fd d1 : FuncData} (F : Fun K "_law_parts_of" "_law_parts_of" sLpo f fd) (T : Txt K mg o1 o2 o3 o4 o5) (C__law_taken : TkAt P w K mg base f1 d1) : FnOk P w K mg base CX0 2 f fd ["_law_row", "_law_made_here"] (spLpo K) := by
  refine F.ok scLpo (fun vs H Q E h => ?_) (fun cdv A outer s H vs Q E hr h => ?_)
  · obtain ⟨HB, lr, sc, xs, md, vn, vk, vo, pa, ra, na, rows, np, rfl, _⟩ := h; rfl
  · obtain ⟨HB, lr, sc, xs, md, vn, vk, vo, pa, ra, na, rows, np, rfl, hl, hxz, hmd, hp, hnp, k⟩ := h
    have nd := scLpo.nd
    have hu := hu_of hr
    refine ⟨_, (pss_cons (ps_set (i := 2) nd rfl (Or.inl rfl) (pe_lst pa_nil))
      (pss_cons (ps_for PassesOwn.never rfl (pi_tup (pe_ix ix_tup (pv 1) pe_int (fun _ _ => rfl))) (pg_name (i := 3) nd rfl (Or.inl rfl)) (pss_cons (ps_set (i := 4) nd rfl (Or.inl rfl) (pe_ix ix_list (pe_lst (pa_cons (pe_call C__law_taken.ok (hr.mono (by decide)) (by rfl) C__law_taken.g C__law_taken.kp C__law_taken.b .nil pass0 (pa_cons (pv 0) (pa_cons pe_int pa_nil))) (pa_cons (pe_op op_sub pe_int (pe_call C__law_taken.ok (hr.mono (by decide)) (by rfl) C__law_taken.g C__law_taken.kp C__law_taken.b .nil pass0 (pa_cons (pv 0) (pa_cons pe_int pa_nil)))) (pa_cons (pe_call C__law_taken.ok (hr.mono (by decide)) (by rfl) C__law_taken.g C__law_taken.kp C__law_taken.b .nil pass0 (pa_cons (pv 0) (pa_cons (pe_op op_pow pe_int pe_int) pa_nil))) pa_nil)))) (pe_call C__law_taken.ok (hr.mono (by decide)) (by rfl) C__law_taken.g C__law_taken.kp C__law_taken.b .nil pass0 (pa_cons (pv 0) (pa_cons pe_int pa_nil))) (fun _ _ => rfl)))
      (pss_one (ps_expr (pe_bm PySem.F.plainAttrs_list PySem.F.slot_list_append PySem.F.type_list_append mt_append (pv 2) (pa_cons (pe_ifExp (pt_cmpR op_eq (pv 3) pe_str (nomark _)) (pe_call C__law_taken.ok (hr.mono (by decide)) (by rfl) C__law_taken.g C__law_taken.kp C__law_taken.b .nil pass0 (pa_cons (pv 0) (pa_cons pe_int pa_nil))) (pv 4)) pa_nil))))))
      (pss_one (ps_ret (pv 2))))), ?_⟩
    dsimp only [cxK, cxKn, List.map]
    obtain ⟨ht, hrt⟩ := hmd
    obtain ⟨ys, hp1, hp2, hp3⟩ := hp
    obtain ⟨pp, pm, pq, hlr, _⟩ := id hl.at'
    have tne : ∀ {b : Addr} {zs : List V}, H b = some (.tup zs) → b ≠ lr := fun hb z => by rw [z, hlr] at hb; cases hb
    refine q_asgL (el_lst ea_nil (by simp)) fun fl H1 hfl e1 h1 => ?_
    have nfl : lr ≠ fl := fun z => by rw [← z, hlr] at hfl; cases hfl
    have hBf : HB fl = none := fresh_back hl.ex hfl
    refine q_forT (g := gName 3) (xs := ys) (ev_op (ev_var rfl) ev_c (rv_ixT (v := .ref pa) (st_of (e1 _ _ ht)) (atI_nat (j := 1) rfl))) (st_of (e1 _ _ hp1)) (fun i σ' H' => (∃ u3 u4, σ' = [some (.ref lr), some (.ref md), some (.ref fl), u3, u4]) ∧ LrAt K HB H' lr sc xs ∧ But lr H H' ∧ ∃ vs : List Int, vs.length = i ∧ H' fl = some (.lst (vs.map V.int)) ∧ ∀ v ∈ vs, Small v) (fun H2 e2 => ⟨⟨_, _, rfl⟩, hl.mono (e1.trans e2), But.of (e1.trans e2), [], rfl, e2 _ _ h1, by simp⟩) (fun i σ' H' _ p => st_of (p.2.2.1 _ _ hp1 (tne hp1))) (fun i x σ' H' hx p => ?_) (fun σ' H' p => ?_)
    · obtain ⟨⟨u3, u4, rfl⟩, l2, b2, vs, hv1, hv2, hv3⟩ := p
      obtain ⟨kd, rfl⟩ := hp3 x (List.mem_of_getElem? hx)
      have hi : i < 100 := by have := (List.getElem?_eq_some_iff.mp hx).1; omega
      have hp6 : ∀ {s : L2.St} {H' : Hp}, Ev (tOp (rI CPow fun i j => .int (i ^ j.toNat)) (tC (.int 10)) (tC (.int 6))) s H' (.int 1000000) := ev_op ev_c ev_c (rv_I (by unfold CPow; decide))
      show tSeq _ _ _ [some (V.ref lr), some (.ref md), some (.ref fl), some (.str kd), u4] H'
      refine q_asgR (r_op (r_lst (r_cons (r_tk (n := 4) (ea_cons (ev_var rfl) (ea_cons ev_c ea_nil)) l2 hxz (by omega) fun H5 a b5 l5 a0 a1 => r_cons (r_op (r_ev ev_c fun H7 e7 => r_tk (n := 9) (ea_cons (ev_var rfl) (ea_cons ev_c ea_nil)) (l5.mono e7) hxz (by omega) fun H8 c b8 l8 c0 c1 => ⟨0, c, rfl, rfl, r_cons (r_tk (n := 1000000) (ea_cons (ev_var rfl) (ea_cons hp6 ea_nil)) l8 hxz (by omega) fun H9 b b9 l9 b0 b1 => r_nil ⟨Nat.le_of_ble_eq_true rfl, fun q hq => ?_⟩)⟩))))))
      have l10 := l9.mono (Ex.new (o := .lst [.int a, .int (0 - c), .int b]) hq)
      have nq : q ≠ lr := fun z => by
        obtain ⟨_, _, _, z1, _⟩ := l9.at'
        rw [z, z1] at hq; cases hq
      refine r_tk (n := 3) (ea_cons (ev_var rfl) (ea_cons ev_c ea_nil)) l10 hxz (by omega) fun H11 r3 b11 l11 k0 k1 => ?_
      have hq11 : H11 q = some (.lst [.int a, .int (0 - c), .int b]) := b11 _ _ upd_same nq
      obtain ⟨z, hz1, hz2, hz3⟩ : ∃ z, [V.int a, .int (0 - c), .int b][r3.toNat]? = some (.int z) ∧ -9 ≤ z ∧ z ≤ 1000000 := by
        rcases (show r3 = 0 ∨ r3 = 1 ∨ r3 = 2 by omega) with rfl | rfl | rfl
        · exact ⟨a, rfl, by omega, by omega⟩
        · exact ⟨0 - c, rfl, by omega, by omega⟩
        · exact ⟨b, rfl, by omega, by omega⟩
      refine ⟨q, _, r3, .int z, rfl, rfl, sq_of hq11, by rw [show r3 = ((r3.toNat : Nat) : Int) by omega]; exact atI_nat hz1, ?_⟩
      have b2_11 : But lr H' H11 := b5.trans ((But.of e7).trans (b8.trans (b9.trans ((But.of (Ex.new hq)).trans b11))))
      have hv11 := b2_11 _ _ hv2 (Ne.symm nfl)
      have fin : ∀ {H12 : Hp} {v : Int}, LrAt K HB H12 lr sc xs → But lr H11 H12 → Small v → ((∃ u3 u4, [some (V.ref lr), some (.ref md), some (.ref fl), some (.str kd), some (.int z)] = [some (.ref lr), some (.ref md), some (.ref fl), u3, u4]) ∧ LrAt K HB (upd H12 fl (.lst (vs.map V.int ++ [.int v]))) lr sc xs ∧ But lr H (upd H12 fl (.lst (vs.map V.int ++ [.int v]))) ∧ ∃ vs' : List Int, vs'.length = i + 1 ∧ (upd H12 fl (.lst (vs.map V.int ++ [.int v]))) fl = some (.lst (vs'.map V.int)) ∧ ∀ v ∈ vs', Small v) := fun {H12 v} l b hs =>
        ⟨⟨_, _, rfl⟩, l.upd hBf nfl, fun b' o hb hne => by rw [upd_ne (fun z => by rw [z, hfl] at hb; cases hb)]; exact ((b2.trans b2_11).trans b) _ _ hb hne, vs ++ [v], by simp [hv1], by rw [upd_same]; simp, fun y hy => (List.mem_append.mp hy).elim (hv3 y) (fun h => by
          have := List.mem_singleton.mp h
          subst this; exact hs)⟩
      refine s_dropR (r_bm (ev_var rfl) fun H12 e12 => ⟨.inl ⟨rfl, _, sq_of (e12 _ _ hv11)⟩, r_cons ?_⟩)
      have l12 := l11.mono e12
      have ty : EvT (tTest (tOp rEq (tVar 3) (tC (.str (Str.ofString "yes"))))) [some (V.ref lr), some (.ref md), some (.ref fl), some (.str kd), some (.int z)] H12 (decide (V.str kd = V.str (Str.ofString "yes"))) := et_test (ev_op (ev_var rfl) ev_c (rv_eq rfl))
      by_cases hy : kd = Str.ofString "yes"
      · refine r_ifT (et_is ty (by rw [hy]; simp)) fun H13 e13 => r_tk (n := 2) (ea_cons (ev_var rfl) (ea_cons ev_c ea_nil)) (l12.mono e13) hxz (by omega) fun H14 v b14 l14 v0 v1 => r_nil ⟨fl, vs.map V.int, .int v, rfl, rfl, ((But.of (e12.trans e13)).trans b14) _ _ hv11 (Ne.symm nfl), sz_lt (by rw [List.length_map]; omega), nxM (fin l14 ((But.of (e12.trans e13)).trans b14) (by unfold Small big; omega))⟩
      · refine r_ifF (et_is ty (by simp [hy])) fun H13 e13 => r_ev (v := .int z) (ev_var rfl) fun H14 e14 => r_nil ⟨fl, vs.map V.int, .int z, rfl, rfl, (e12.trans (e13.trans e14)) _ _ hv11, sz_lt (by rw [List.length_map]; omega), nxM (fin (l12.mono (e13.trans e14)) (But.of (e12.trans (e13.trans e14))) (by unfold Small big; omega))⟩
    · obtain ⟨⟨u3, u4, rfl⟩, l2, b2, vs, hv1, hv2, hv3⟩ := p
      refine s_ret (ev_var rfl) fun H3 e3 => rtM (k H3 fl vs (b2.trans (But.of e3)) (l2.mono e3) (e3 _ _ hv2) (by rw [hv1, hp2]) hv3)
end
end K51

/-! Walks 28: the law. -/
namespace K51
open PySem L2 Evl
theorem MadeAt.tl {H H' : Hp} {m : Addr} {vn vk vo : V} {pa ra na : Addr} {rows : List Row} (h : MadeAt H m vn vk vo pa ra na rows) (e : TL H H') : MadeAt H' m vn vk vo pa ra na rows := ⟨e _ _ h.tup, h.rows.mono e⟩
theorem PartsAt.tl {H H' : Hp} {pa : Addr} {np : Nat} (h : PartsAt H pa np) (e : TL H H') : PartsAt H' pa np :=
  let ⟨xs, h1, h2⟩ := h
  ⟨xs, e _ _ h1, h2⟩
theorem NamesAt.tl {H H' : Hp} {na : Addr} {ns : List Nm5} (h : NamesAt H na ns) (e : TL H H') : NamesAt H' na ns :=
  let ⟨bs, h1, h2⟩ := h
  ⟨bs, e _ _ h1, h2.imp fun _ _ z => e _ _ z⟩
theorem FoundAt.ex {K : PySem.W.Frag} {H H' : Hp} {l : Addr} {raws : List Raw} (h : FoundAt K H l raws) (e : Ex H H') : FoundAt K H' l raws :=
  let ⟨as, h1, h2⟩ := h
  ⟨as, e _ _ h1, h2.imp fun _ _ z => z.ex e⟩
theorem EvsAt.ex {K : PySem.W.Frag} {H H' : Hp} {l : Addr} {es : List Evt} (h : EvsAt K H l es) (e : Ex H H') : EvsAt K H' l es :=
  let ⟨as, h1, h2⟩ := h
  ⟨as, e _ _ h1, h2.imp fun _ _ z => z.ex e⟩
theorem LrAt.tl {K : PySem.W.Frag} {HB H H' : Hp} {lr sc : Addr} {xs : List Int} (h : LrAt K HB H lr sc xs) (b : But lr H H') : TL H H' := fun a ys ha => by
  obtain ⟨p, m, q, h1, _⟩ := h.at'
  exact b _ _ ha fun z => by rw [z, h1] at ha; cases ha
theorem madeOk_wf {rows : List Row} {np : Nat} (h : MadeOk rows np) : WF rows ∧ rows.length ≤ 131 := by
  obtain ⟨lo, hi, L', code, last, rfl, hfr, hl, hz⟩ := h
  refine ⟨hfr.wf ?_ ?_, by simp; omega⟩
  · rcases hl with (h | h) | ⟨x, h, _⟩ <;> rw [h] <;> rfl
  · rcases hl with (h | h) | ⟨x, h, _⟩ <;> rw [h] <;> rfl
theorem madeOk_runs (cs : List Int) {rows : List Row} {np : Nat} (h : MadeOk rows np) {parts : List Int} (hp : parts.length = np) : ∃ n evs, n ≤ 7000 ∧ Runs cs rows 0 (partsC parts) (fun _ _ => none) 50 evs n := by
  obtain ⟨lo, hi, L', code, last, rfl, hfr, hl, hz⟩ := h
  obtain ⟨n, evs, h1, h2⟩ := def_runs cs hfr hl (c := partsC parts) (k := fun _ _ => none) (most := 50) fun x hx => by
    obtain ⟨i, hi, rfl⟩ := List.mem_map.mp hx
    have hi' := List.mem_range.mp hi
    refine ⟨parts[i], ?_⟩
    show (if (0 : Int) ≤ (i : Int) then parts[((i : Nat) : Int).toNat]? else none) = _
    rw [if_pos (by omega), Int.toNat_natCast, List.getElem?_eq_getElem]
  refine ⟨n, evs, ?_, h2⟩
  have : ((50 : Int) + 1).toNat = 51 := by decide
  rw [this] at h1
  omega
theorem cs_in {ns : List Nm5} {np : Nat} : ∀ x ∈ csOf ns np, x ∈ shownCs ns np := fun x hx => by
  unfold csOf at hx; unfold shownCs
  rcases List.mem_append.mp hx with h | h
  · exact List.mem_append_right _ h
  · exact List.mem_append_left _ h
section
variable {P : Program} {w : World} {K : PySem.W.Frag} {mg : Str → Option Value} {base : Heap} {o1 o2 o3 o4 o5 : Addr}
abbrev sLlw : Stmt := top 53
abbrev nLlw : List Str := ["_law_script", "_law_row", "_law_turn", "_law_made_here", "_law_fewer", "_law_again", "_law_parts", "_law_one", "_law_two"]
theorem scLlw : FnScope nLlw ["_law_script"] (defScope sLlw) := ⟨rfl, rfl, rfl, by decide +kernel, rfl, by decide +kernel, by decide +kernel⟩
def spLaw (K0 : PySem.W.Frag) : Sp := fun vs H Q _ => ∃ (a : Addr) (ns : List Int), vs = [.ref a] ∧ SqL K0 H a (ns.map V.int) ∧ ns.length ≤ 63 ∧ ∀ H', Q (.bl true) H'
theorem ok_Llw {f f1 f2 f3 f4 f5 f6 f7 : Addr} {fd d1 d2 d3 d4 d5 d6 d7 : FuncData} (F : Fun K "law" "law" sLlw f fd) (T : Txt K mg o1 o2 o3 o4 o5) (C__law_made : CalAt P w K mg base 10 "_law_made" ["_law_row", "_law_deep"] (spLmd K) f1 d1) (C_lean_of : CalAt P w K mg base 5 "lean_of" ["one"] spLo f2 d2) (C__law_parts_of : CalAt P w K mg base 2 "_law_parts_of" ["_law_row", "_law_made_here"] (spLpo K) f3 d3)
    (C_machine_of : CalAt P w K mg base 6 "machine_of" ["made"] spMo f4 d4) (C__law_machine : CalAt P w K mg base 3 "_law_machine" ["_law_rows", "_law_made_here", "_law_parts", "_law_most"] (spLm K) f5 d5) (C__law_shown : CalAt P w K mg base 2 "_law_shown" ["_law_found", "_law_made_here"] (spLs K) f6 d6) (C__law_alike : CalAt P w K mg base 5 "_law_alike" ["_law_one", "_law_other"] (spLa K 3) f7 d7) : FnOk P w K mg base CX0 11 f fd ["_law_script"] (spLaw K) := by
  refine F.ok scLlw (fun vs H Q E h => ?_) (fun cdv A outer s H vs Q E hr h => ?_)
  · obtain ⟨a, ns, rfl, _⟩ := h; rfl
  · obtain ⟨a, ns, rfl, ha, hz, k⟩ := h
    have nd := scLlw.nd
    have hu := hu_of hr
    refine ⟨_, (pss_cons (ps_set (i := 1) nd rfl (Or.inl rfl) (pe_lst (pa_cons (pv 0) (pa_cons pe_int (pa_cons pe_int (pa_cons pe_int pa_nil))))))
      (pss_cons (ps_for PassesOwn.never rfl (pi_range1 rfl T.range (pa_cons pe_int pa_nil)) (pg_name (i := 2) nd rfl (Or.inl rfl)) (pss_cons (ps_set (i := 3) nd rfl (Or.inl rfl) (pe_call C__law_made.ok (hr.mono (by decide)) (by rfl) C__law_made.g C__law_made.kp C__law_made.b .nil pass0 (pa_cons (pv 1) (pa_cons pe_int pa_nil))))
      (pss_cons (ps_set (i := 4) nd rfl (Or.inl rfl) (pe_call C_lean_of.ok (hr.mono (by decide)) (by rfl) C_lean_of.g C_lean_of.kp C_lean_of.b .nil pass0 (pa_cons (pv 3) pa_nil)))
      (pss_one (ps_for PassesOwn.never rfl (pi_range1 rfl T.range (pa_cons pe_int pa_nil)) (pg_name (i := 5) nd rfl (Or.inl rfl)) (pss_cons (ps_set (i := 6) nd rfl (Or.inl rfl) (pe_call C__law_parts_of.ok (hr.mono (by decide)) (by rfl) C__law_parts_of.g C__law_parts_of.kp C__law_parts_of.b .nil pass0 (pa_cons (pv 1) (pa_cons (pv 3) pa_nil))))
      (pss_cons (ps_set (i := 7) nd rfl (Or.inl rfl) (pe_call C__law_machine.ok (hr.mono (by decide)) (by rfl) C__law_machine.g C__law_machine.kp C__law_machine.b .nil pass0 (pa_cons (pe_call C_machine_of.ok (hr.mono (by decide)) (by rfl) C_machine_of.g C_machine_of.kp C_machine_of.b .nil pass0 (pa_cons (pv 3) pa_nil)) (pa_cons (pv 3) (pa_cons (pv 6) (pa_cons pe_int pa_nil))))))
      (pss_cons (ps_set (i := 8) nd rfl (Or.inl rfl) (pe_call C__law_machine.ok (hr.mono (by decide)) (by rfl) C__law_machine.g C__law_machine.kp C__law_machine.b .nil pass0 (pa_cons (pe_call C_machine_of.ok (hr.mono (by decide)) (by rfl) C_machine_of.g C_machine_of.kp C_machine_of.b .nil pass0 (pa_cons (pv 4) pa_nil)) (pa_cons (pv 4) (pa_cons (pv 6) (pa_cons pe_int pa_nil))))))
      (pss_cons (ps_if (pw_or (pt_cmpR op_isN (pv 7) pe_non (nomark _)) (pw_or1 (pt_cmpR op_isN (pv 8) pe_non (nomark _)))).pt (pss_one (ps_ret pe_bl)) pss_nil)
      (pss_one (ps_if (pt_not (pt_val (pe_call C__law_alike.ok (hr.mono (by decide)) (by rfl) C__law_alike.g C__law_alike.kp C__law_alike.b .nil pass0 (pa_cons (pe_call C__law_shown.ok (hr.mono (by decide)) (by rfl) C__law_shown.g C__law_shown.kp C__law_shown.b .nil pass0 (pa_cons (pv 8) (pa_cons (pv 4) pa_nil))) (pa_cons (pe_call C__law_shown.ok (hr.mono (by decide)) (by rfl) C__law_shown.g C__law_shown.kp C__law_shown.b .nil pass0 (pa_cons (pv 7) (pa_cons (pv 3) pa_nil))) pa_nil))))) (pss_one (ps_ret pe_bl)) pss_nil)))))))))))
      (pss_one (ps_ret pe_bl)))), ?_⟩
    refine q_asgL (el_lst (vs := [.ref a, .int 0, .int 0, .int 0]) (ea_cons (ev_var rfl) (ea_cons ev_c (ea_cons ev_c (ea_cons ev_c ea_nil)))) (Nat.le_of_ble_eq_true rfl)) fun lr H1 hlr e1 h1 => ?_
    have l1 : LrAt K H H1 lr a ns := ⟨hlr, e1, ha, 0, 0, 0, h1, by omega, by omega, by omega, by omega⟩
    refine q_forR1 (n := 3) (ea_cons ev_c ea_nil) (by omega) (fun i σ' H' => (∃ u2 u3 u4 u5 u6 u7 u8, σ' = [some (.ref a), some (.ref lr), u2, u3, u4, u5, u6, u7, u8]) ∧ LrAt K H H' lr a ns) (fun H2 e2 => ⟨⟨_, _, _, _, _, _, _, rfl⟩, l1.mono e2⟩) (fun i σ' H' hi p => ?_) (fun σ' H' p => ?_)
    rotate_left
    · obtain ⟨⟨_, _, _, _, _, _, _, rfl⟩, _⟩ := p
      exact s_ret ev_c fun H3 e3 => rtM (k H3)
    obtain ⟨⟨u2, u3, u4, u5, u6, u7, u8, rfl⟩, l2⟩ := p
    refine q_asgR (r_call (r_ea (ea_cons (ev_var rfl) (ea_cons ev_c ea_nil)) fun H3 e3 => ⟨H, lr, a, ns, rfl, l2.mono e3, by omega, fun H4 m vn vk vo pa ra na rows np nms b4 l4 hmd hpa hna hnp hnn hok => ?_⟩))
    obtain ⟨wf, hrz⟩ := madeOk_wf hok
    refine q_asgR (r_call (r_ea (ea_cons (ev_var rfl) ea_nil) fun H5 e5 => ⟨m, vn, vk, vo, pa, ra, na, rows, np, nms, rfl, hmd.tl (tl_ex e5), hpa.tl (tl_ex e5), hna.tl (tl_ex e5), by omega, by omega, wf, by omega, fun m2 H6 ra2 rows2 e6 hmd2 hlean => ?_⟩))
    have l6 := l4.mono (e5.trans e6)
    have hmd6 := hmd.tl (tl_ex (e5.trans e6))
    have hpa6 := hpa.tl (tl_ex (e5.trans e6))
    have hna6 := hna.tl (tl_ex (e5.trans e6))
    have hln := hlean (csOf nms np) cs_in
    have hcz : (csOf nms np).length ≤ 1000 := by unfold csOf; rw [List.length_append, List.length_map, List.length_map, List.length_range]; omega
    clear hmd hpa hna l4 b4 hlean l2 l1 h1
    refine s_forR1 (n := 2) (ea_cons ev_c ea_nil) (by omega) (fun j σ' H' => (∃ u5 u6 u7 u8, σ' = [some (.ref a), some (.ref lr), some (.int (i : Nat)), some (.ref m), some (.ref m2), u5, u6, u7, u8]) ∧ LrAt K H H' lr a ns ∧ TL H6 H') (fun H7 e7 => ⟨⟨_, _, _, _, rfl⟩, l6.mono e7, tl_ex e7⟩) (fun j σ' H' hj p => ?_) (fun σ' H' p => ?_)
    rotate_left
    · obtain ⟨⟨_, _, _, _, rfl⟩, l7, _⟩ := p
      exact nxM ⟨⟨_, _, _, _, _, _, _, rfl⟩, l7⟩
    obtain ⟨⟨u5, u6, u7, u8, rfl⟩, l7, t7⟩ := p
    refine q_asgR (r_call (r_ea (ea_cons (ev_var rfl) (ea_cons (ev_var rfl) ea_nil)) fun H8 e8 => ⟨H, lr, a, ns, m, vn, vk, vo, pa, ra, na, rows, np, rfl, l7.mono e8, by omega, hmd6.tl (t7.trans (tl_ex e8)), hpa6.tl (t7.trans (tl_ex e8)), by omega, fun H9 pl parts b9 l9 hpl hplen hsm => ?_⟩))
    have t9 : TL H6 H9 := (t7.trans (tl_ex e8)).trans ((l7.mono e8).tl b9)
    have hmd9 := hmd6.tl t9
    have hpa9 := hpa6.tl t9
    have hna9 := hna6.tl t9
    have hmd29 := hmd2.tl t9
    obtain ⟨n1, evs, hn1, hrun⟩ := madeOk_runs (csOf nms np) hok hplen
    obtain ⟨n2, hn2, hrun2⟩ := hln.runs _ _ _ _ _ hrun
    have hez := runs_z hcz wf.bnd hrun
    have wf2 := hln.wf
    have hrz2 := hln.len
    refine q_asgR (r_call (r_cons (r_call (r_ea (ea_cons (ev_var rfl) ea_nil) fun H10 e10 => ⟨m, vn, vk, vo, pa, ra, na, rows, np, nms, rfl, hmd9.tl (tl_ex e10), hpa9.tl (tl_ex e10), hna9.tl (tl_ex e10), by omega, by omega, wf, by omega, fun p1 H11 ks left nk hp1 e11 hsnd hlo hsh hms => r_consE (v := .ref m) (ev_var rfl) fun H12 e12 => r_consE (v := .ref pl) (ev_var rfl) fun H13 e13 => r_consE ev_c fun H14 e14 => r_nil ?_⟩))))
    obtain ⟨mn, raws, hmr, hshow, hrl, hmb⟩ := machine_runs wf (fun x hx => hsh x (cs_in x hx)) hsnd hlo hrun
    have e914 := e10.trans (e11.trans (e12.trans (e13.trans e14)))
    refine ⟨p1, m, pl, vn, vk, vo, pa, ra, na, rows, mrows left rows, parts, 50, raws, mn, rfl, hms.ex (e12.trans (e13.trans e14)), hmd9.tl (tl_ex e914), e914 _ _ hpl, ms_ok wf.bnd, hsm, by omega, by omega, hmr, fun f1 H15 hf1 e15 hfound => ?_⟩
    have e915 := e914.trans e15
    have hjs := mruns_j (fun mm hmm => (ms_ok (left := left) wf.bnd).lt mm hmm) hmr
    clear hmr hms hsnd hlo hsh hmb
    refine q_asgR (r_call (r_cons (r_call (r_ea (ea_cons (ev_var rfl) ea_nil) fun H16 e16 => ⟨m2, vn, vk, vo, pa, ra2, na, rows2, np, nms, rfl, hmd29.tl (tl_ex (e915.trans e16)), hpa9.tl (tl_ex (e915.trans e16)), hna9.tl (tl_ex (e915.trans e16)), by omega, by omega, wf2, by omega, fun p2 H17 ks2 left2 nk2 hp2 e17 hsnd hlo hsh hms => r_consE (v := .ref m2) (ev_var rfl) fun H18 e18 => r_consE (v := .ref pl) (ev_var rfl) fun H19 e19 => r_consE ev_c fun H20 e20 => r_nil ?_⟩))))
    obtain ⟨mn2, raws2, hmr2, hshow2, hrl2, hmb2⟩ := machine_runs wf2 (fun x hx => hsh x (cs_in x hx)) hsnd hlo hrun2
    have e1520 := e16.trans (e17.trans (e18.trans (e19.trans e20)))
    refine ⟨p2, m2, pl, vn, vk, vo, pa, ra2, na, rows2, mrows left2 rows2, parts, 50, raws2, mn2, rfl, hms.ex (e18.trans (e19.trans e20)), hmd29.tl (tl_ex (e915.trans e1520)), (e915.trans e1520) _ _ hpl, ms_ok wf2.bnd, hsm, by omega, by omega, hmr2, fun f2' H21 hf2 e21 hfound2 => ?_⟩
    have e1521 := e1520.trans e21
    have e921 := e915.trans e1521
    have hjs2 := mruns_j (fun mm hmm => (ms_ok (left := left2) wf2.bnd).lt mm hmm) hmr2
    clear hmr2 hms hsnd hlo hsh hmb2
    refine q_when (b := false) (et_or (a := false) (b := false) (et_is (et_isN (ev_var rfl)) (by simp)) fun _ => et_is (et_isN (ev_var rfl)) (by simp)) (fun z => by cases z) fun _ H22 e22 => ?_
    refine s_ifR (r_call (r_cons (r_call (r_ea (ea_cons (ev_var rfl) (ea_cons (ev_var rfl) ea_nil)) fun H23 e23 => ⟨f2', m2, vn, vk, vo, pa, ra2, na, rows2, np, nms, raws2, rfl, hfound2.ex (e22.trans e23), hmd29.tl (tl_ex (e921.trans (e22.trans e23))), hpa9.tl (tl_ex (e921.trans (e22.trans e23))), hna9.tl (tl_ex (e921.trans (e22.trans e23))), by omega, by omega, hjs2, by omega, fun a2 H24 ha2 e24 hev2 => r_cons (r_call (r_ea (ea_cons (ev_var rfl) (ea_cons (ev_var rfl) ea_nil)) fun H25 e25 => ⟨f1, m, vn, vk, vo, pa, ra, na, rows, np, nms, raws, rfl, hfound.ex (e1521.trans (e22.trans (e23.trans (e24.trans e25)))), hmd9.tl (tl_ex (e921.trans (e22.trans (e23.trans (e24.trans e25))))), hpa9.tl (tl_ex (e921.trans (e22.trans (e23.trans (e24.trans e25))))), hna9.tl (tl_ex (e921.trans (e22.trans (e23.trans (e24.trans e25))))), by omega, by omega, hjs, by omega, fun a1 H26 ha1 e26 hev1 => r_nil ⟨.ref a2, .ref a1, rfl, ?_, fun H27 e27 => ⟨true, rfl, ?_⟩⟩⟩))⟩))))
    · rw [hshow2] at hev2
      rw [hshow] at hev1
      refine evs_alk hez ?_ (hev2.ex (e25.trans e26)) hev1
      rw [← hshow]
      exact Nat.le_trans (List.length_filterMap_le ..) (by omega)
    · have e927 := e921.trans (e22.trans (e23.trans (e24.trans (e25.trans (e26.trans e27)))))
      exact nxM ⟨⟨_, _, _, _, rfl⟩, l9.mono e927, t9.trans (tl_ex e927)⟩
end
end K51

/-! The end: what the program's top has written, and that the law keeps its promise. -/
namespace K51
open PySem L2 Evl
/-- a def stands at f, by this global name -/
structure FnAt (K : PySem.W.Frag) (x qual : Str) (st : Stmt) (gn : Str) (f : Addr) : Prop where
  a : PySem.W.nsIn K mainGlobals gn = some (some (.ref f))
  l : ∃ (oc : Value) (od an : Option Addr) (kV dc pm cd ct : Value) (sl : Array (Option Value)), K.lookup f = some ⟨oc, od, .func (PySem.W.fnOf x qual (defArgs st) (defBody st) (defScope st) .none kV dc pm an cd ct), sl⟩ ∧ PySem.W.codeIn K cd qual = true
  k : PySem.W.keepIn K (.ref f) = true
structure MeAt (K : PySem.W.Frag) (C : Addr) (x qual : Str) (st : Stmt) (f : Addr) : Prop where
  a : PySem.W.findIn K (.ref C) x = some (some (.ref f))
  i : PySem.W.isFn K (.ref f) = true
  l : ∃ (oc : Value) (od an : Option Addr) (kV dc pm cd ct : Value) (sl : Array (Option Value)), K.lookup f = some ⟨oc, od, .func (PySem.W.fnOf x qual (defArgs st) (defBody st) (defScope st) .none kV dc pm an cd ct), sl⟩ ∧ PySem.W.codeIn K cd qual = true
  k : PySem.W.keepIn K (.ref f) = true
theorem fnAt {K : PySem.W.Frag} {x qual : Str} {st : Stmt} {gn : Str} {f : Addr} {oc : Value} {od an : Option Addr} {kV dc pm cd ct : Value} {sl : Array (Option Value)} (a : PySem.W.nsIn K mainGlobals gn = some (some (.ref f))) (l : K.lookup f = some ⟨oc, od, .func (PySem.W.fnOf x qual (defArgs st) (defBody st) (defScope st) .none kV dc pm an cd ct), sl⟩) (c : PySem.W.codeIn K cd qual = true) (k : PySem.W.keepIn K (.ref f) = true) : FnAt K x qual st gn f := ⟨a, ⟨_, _, _, _, _, _, _, _, _, l, c⟩, k⟩
theorem meAt {K : PySem.W.Frag} {C : Addr} {x qual : Str} {st : Stmt} {f : Addr} {oc : Value} {od an : Option Addr} {kV dc pm cd ct : Value} {sl : Array (Option Value)} (a : PySem.W.findIn K (.ref C) x = some (some (.ref f))) (i : PySem.W.isFn K (.ref f) = true) (l : K.lookup f = some ⟨oc, od, .func (PySem.W.fnOf x qual (defArgs st) (defBody st) (defScope st) .none kV dc pm an cd ct), sl⟩) (c : PySem.W.codeIn K cd qual = true) (k : PySem.W.keepIn K (.ref f) = true) : MeAt K C x qual st f := ⟨a, i, ⟨_, _, _, _, _, _, _, _, _, l, c⟩, k⟩
theorem FnAt.fn {K : PySem.W.Frag} {x qual : Str} {st : Stmt} {gn : Str} {f : Addr} (h : FnAt K x qual st gn f) : ∃ fd, Fun K x qual st f fd :=
  let ⟨_, _, _, _, _, _, _, _, _, l, c⟩ := h.l
  ⟨_, fun_mk (st := st) l c h.k⟩
theorem MeAt.fn {K : PySem.W.Frag} {C : Addr} {x qual : Str} {st : Stmt} {f : Addr} (h : MeAt K C x qual st f) : ∃ fd, Fun K x qual st f fd :=
  let ⟨_, _, _, _, _, _, _, _, _, l, c⟩ := h.l
  ⟨_, fun_mk (st := st) l c h.k⟩
theorem MeAt.m {K : PySem.W.Frag} {C : Addr} {x qual : Str} {st : Stmt} {f : Addr} (h : MeAt K C x qual st f) : Meth K C x f := ⟨h.a, h.i, h.k⟩
/-- a tuple of texts stands at o, by this global name -/
structure TupAt (K : PySem.W.Frag) (gn : Str) (o : Addr) (xs : List Str) : Prop where
  a : PySem.W.nsIn K mainGlobals gn = some (some (.ref o))
  l : ∃ (od : Option Addr) (its : Array Value) (n : Nat) (sl : Array (Option Value)), K.lookup o = some ⟨.type "tuple", od, .seq its n, sl⟩ ∧ its.toList.map absV = xs.map (fun x => some (V.str x))
theorem tupAt {K : PySem.W.Frag} {gn : Str} {o : Addr} {xs : List Str} {od : Option Addr} {its : Array Value} {n : Nat} {sl : Array (Option Value)} (a : PySem.W.nsIn K mainGlobals gn = some (some (.ref o))) (l : K.lookup o = some ⟨.type "tuple", od, .seq its n, sl⟩) (v : its.toList.map absV = xs.map (fun x => some (V.str x))) : TupAt K gn o xs := ⟨a, ⟨_, _, _, _, l, v⟩⟩
theorem intAt {K : PySem.W.Frag} {gn : Str} {i : Int} {t : Tok} (a : PySem.W.nsIn K mainGlobals gn = some (some (.int i t))) : ∃ t, PySem.W.nsIn K mainGlobals gn = some (some (.int i t)) := ⟨t, a⟩
theorem vals_abs : ∀ {us : List Value} {xs : List Str}, us.map absV = xs.map (fun x => some (V.str x)) → Vals (xs.map V.str) us
  | [], [], _ => .nil
  | [], x :: xs, h => by simp at h
  | u :: us, [], h => by simp at h
  | u :: us, x :: xs, h => by
    simp only [List.map_cons, List.cons.injEq] at h
    refine .cons ?_ (vals_abs h.2)
    have h1 := h.1
    cases u <;> simp [absV] at h1
    subst h1
    exact ⟨_, rfl⟩
theorem TupAt.sq {K : PySem.W.Frag} {gn : Str} {o : Addr} {xs : List Str} (h : TupAt K gn o xs) (hz : xs.length ≤ 1000) (H : Hp) : SqT K H o (xs.map V.str) := by
  obtain ⟨od, its, n, sl, h1, h2⟩ := h.l
  have hl : its.toList.length = xs.length := by
    have := congrArg List.length h2
    simpa using this
  refine .inr ⟨_, its, n, h1, rfl, rfl, ?_, vals_abs h2⟩
  have : its.size = its.toList.length := by simp
  rw [this, hl]
  exact sz_of (by omega)
/-- all that the top has written, as far as the law comes to it -/
structure TopAt (K : PySem.W.Frag) (C o1 o2 o3 o4 o5 fRBm fLBm fBh fWm fHo fMo fRBl fLBl fRk fFd fAf fCt fGo fWl fWi fLr fLo fLt fLa fLop fLfr fLpl fLsg fLbk fLch fLrd fLmd fLk fLc fLm fLw fLly fLpo fLs fLz fLlw mIni mPut mLd mMk mLed : Addr) : Prop where
  xRBm : FnAt K "read_by" "read_by" sRBm "read_by_machine" fRBm
  xLBm : FnAt K "laid_by" "laid_by" sLBm "laid_by_machine" fLBm
  xBh : FnAt K "behind_of" "behind_of" sBh "behind_of" fBh
  xWm : FnAt K "wanted_behind" "wanted_behind" sWm "wanted_behind_machine" fWm
  xHo : FnAt K "handed_on" "handed_on" sHo "handed_on" fHo
  xMo : FnAt K "machine_of" "machine_of" sMo "machine_of" fMo
  xRBl : FnAt K "read_by" "read_by" sRBl "read_by_lean" fRBl
  xLBl : FnAt K "laid_by" "laid_by" sLBl "laid_by_lean" fLBl
  xRk : FnAt K "reckoned" "reckoned" sRk "reckoned" fRk
  xFd : FnAt K "folded" "folded" sFd "folded" fFd
  xAf : FnAt K "all_folded" "all_folded" sAf "all_folded" fAf
  xCt : FnAt K "come_to" "come_to" sCt "come_to" fCt
  xGo : FnAt K "goals_of" "goals_of" sGo "goals_of" fGo
  xWl : FnAt K "wanted_behind" "wanted_behind" sWl "wanted_behind_lean" fWl
  xWi : FnAt K "without_idle" "without_idle" sWi "without_idle" fWi
  xLr : FnAt K "lean_rows" "lean_rows" sLr "lean_rows" fLr
  xLo : FnAt K "lean_of" "lean_of" sLo "lean_of" fLo
  xLt : FnAt K "_law_taken" "_law_taken" sLt "_law_taken" fLt
  xLa : FnAt K "_law_alike" "_law_alike" sLa "_law_alike" fLa
  xLop : FnAt K "_law_operand" "_law_operand" sLop "_law_operand" fLop
  xLfr : FnAt K "_law_fresh" "_law_fresh" sLfr "_law_fresh" fLfr
  xLpl : FnAt K "_law_place" "_law_place" sLpl "_law_place" fLpl
  xLsg : FnAt K "_law_straight" "_law_straight" sLsg "_law_straight" fLsg
  xLbk : FnAt K "_law_block" "_law_block" sLbk "_law_block" fLbk
  xLch : FnAt K "_law_choice" "_law_choice" sLch "_law_choice" fLch
  xLrd : FnAt K "_law_round" "_law_round" sLrd "_law_round" fLrd
  xLmd : FnAt K "_law_made" "_law_made" sLmd "_law_made" fLmd
  xLk : FnAt K "_law_reckon" "_law_reckon" sLk "_law_reckon" fLk
  xLc : FnAt K "_law_came" "_law_came" sLc "_law_came" fLc
  xLm : FnAt K "_law_machine" "_law_machine" sLm "_law_machine" fLm
  xLw : FnAt K "_law_worked" "_law_worked" sLw "_law_worked" fLw
  xLly : FnAt K "_law_lays" "_law_lays" sLly "_law_lays" fLly
  xLpo : FnAt K "_law_parts_of" "_law_parts_of" sLpo "_law_parts_of" fLpo
  xLs : FnAt K "_law_shown" "_law_shown" sLs "_law_shown" fLs
  xLz : FnAt K "_law_is_over" "_law_is_over" sLz "_law_is_over" fLz
  xLlw : FnAt K "law" "law" sLlw "law" fLlw
  yIni : MeAt K C "__init__" "Maker.__init__" sIni mIni
  yPut : MeAt K C "put" "Maker.put" sPut mPut
  yLd : MeAt K C "load" "Maker.load" sLd mLd
  yMk : MeAt K C "make" "Maker.make" sMk mMk
  yLed : MeAt K C "led" "Maker.led" sLed mLed
  aC : PySem.W.nsIn K mainGlobals "Maker" = some (some (.ref C))
  pg : PySem.W.plainGet K C Str.empty = true
  hd : PySem.W.hasDictIn K C = true
  po : PySem.W.plainOver K C = true
  sa : PySem.W.findIn K (.ref C) "__setattr__" = some (some (.builtin "object.__setattr__"))
  mks : PySem.W.makesIn K C = true
  kc : PySem.W.keepIn K (.ref C) = true
  nrows : PySem.W.findIn K (.ref C) "rows" = some none
  nleft : PySem.W.findIn K (.ref C) "left" = some none
  nfound : PySem.W.findIn K (.ref C) "found" = some none
  nspots : PySem.W.findIn K (.ref C) "spots" = some none
  t1 : TupAt K "OPS" o1 ["add", "take", "times", "over", "rest", "less", "same"]
  t2 : TupAt K "LAYING" o2 ["add", "take", "times", "over", "rest", "less", "same", "put", "copy", "fetch", "call"]
  t3 : TupAt K "TWOS" o3 ["add", "take", "times", "over", "rest", "less", "same"]
  t4 : TupAt K "QUIET" o4 ["put", "copy", "less", "same", "fetch"]
  t5 : TupAt K "ENDS" o5 ["give", "nothing", "go"]
  gr : ∃ t, PySem.W.nsIn K mainGlobals "GREATEST" = some (some (.int big t))
  zlen : PySem.W.nsIn K mainGlobals "len" = some none
  zint : PySem.W.nsIn K mainGlobals "int" = some none
  zlist : PySem.W.nsIn K mainGlobals "list" = some none
  ztuple : PySem.W.nsIn K mainGlobals "tuple" = some none
  zdict : PySem.W.nsIn K mainGlobals "dict" = some none
  zrange : PySem.W.nsIn K mainGlobals "range" = some none
  zenumerate : PySem.W.nsIn K mainGlobals "enumerate" = some none
  zzip : PySem.W.nsIn K mainGlobals "zip" = some none
  zisinstance : PySem.W.nsIn K mainGlobals "isinstance" = some none
  zstr : PySem.W.nsIn K mainGlobals "str" = some none
  zbool : PySem.W.nsIn K mainGlobals "bool" = some none
section
variable {K : PySem.W.Frag} {h : Heap} {mg : Str → Option Value} {C o1 o2 o3 o4 o5 fRBm fLBm fBh fWm fHo fMo fRBl fLBl fRk fFd fAf fCt fGo fWl fWi fLr fLo fLt fLa fLop fLfr fLpl fLsg fLbk fLch fLrd fLmd fLk fLc fLm fLw fLly fLpo fLs fLz fLlw mIni mPut mLd mMk mLed : Addr}
theorem TopAt.txt (t : TopAt K C o1 o2 o3 o4 o5 fRBm fLBm fBh fWm fHo fMo fRBl fLBl fRk fFd fAf fCt fGo fWl fWi fLr fLo fLt fLa fLop fLfr fLpl fLsg fLbk fLch fLrd fLmd fLk fLc fLm fLw fLly fLpo fLs fLz fLlw mIni mPut mLd mMk mLed) (X : K.In h) (G : h.Ns mainGlobals mg) : Txt K mg o1 o2 o3 o4 o5 where
  gOPS := ⟨_, PySem.W.mg_of X G t.t1.a, rfl⟩
  kOPS := fun H => t.t1.sq (Nat.le_of_ble_eq_true rfl) H
  gLAYING := ⟨_, PySem.W.mg_of X G t.t2.a, rfl⟩
  kLAYING := fun H => t.t2.sq (Nat.le_of_ble_eq_true rfl) H
  gTWOS := ⟨_, PySem.W.mg_of X G t.t3.a, rfl⟩
  kTWOS := fun H => t.t3.sq (Nat.le_of_ble_eq_true rfl) H
  gQUIET := ⟨_, PySem.W.mg_of X G t.t4.a, rfl⟩
  kQUIET := fun H => t.t4.sq (Nat.le_of_ble_eq_true rfl) H
  gENDS := ⟨_, PySem.W.mg_of X G t.t5.a, rfl⟩
  kENDS := fun H => t.t5.sq (Nat.le_of_ble_eq_true rfl) H
  gGREATEST := let ⟨_, e⟩ := t.gr; ⟨_, PySem.W.mg_of X G e, _, rfl⟩
  len := PySem.W.mg_none_of X G t.zlen
  int := PySem.W.mg_none_of X G t.zint
  list := PySem.W.mg_none_of X G t.zlist
  tuple := PySem.W.mg_none_of X G t.ztuple
  dict := PySem.W.mg_none_of X G t.zdict
  range := PySem.W.mg_none_of X G t.zrange
  enumerate := PySem.W.mg_none_of X G t.zenumerate
  zip := PySem.W.mg_none_of X G t.zzip
  isinstance := PySem.W.mg_none_of X G t.zisinstance
theorem all_mk {l : PySem.W.OpenLaw} {w : World} {fa : Addr} (t : TopAt K C o1 o2 o3 o4 o5 fRBm fLBm fBh fWm fHo fMo fRBl fLBl fRk fFd fAf fCt fGo fWl fWi fLr fLo fLt fLa fLop fLfr fLpl fLsg fLbk fLch fLrd fLmd fLk fLc fLm fLw fLly fLpo fLs fLz fLlw mIni mPut mLd mMk mLed) (X : K.In h) (G : h.Ns mainGlobals mg) (hfa : mg "law" = some (.ref fa)) :
    ∃ fd : FuncData, (∀ (s : Shared) (v : Value), BindsTo s fd ⟨[v], []⟩ [("_law_script", v)]) ∧ ∀ base : Heap, K.In base → base.Ns mainGlobals mg → FnOk l.prog w K mg base CX0 11 fa fd ["_law_script"] (spLaw K) := by
  have e := hfa.symm.trans (PySem.W.mg_of X G t.xLlw.a)
  cases e
  have T := t.txt X G
  obtain ⟨dRBm, FRBm⟩ := t.xRBm.fn
  have bRBm := FRBm.binds (ps := ["row"]) fun _ _ _ _ _ _ us hl => match us, hl with | [_], _ => rfl
  have gRBm := PySem.W.mg_of X G t.xRBm.a
  obtain ⟨dLBm, FLBm⟩ := t.xLBm.fn
  have bLBm := FLBm.binds (ps := ["row"]) fun _ _ _ _ _ _ us hl => match us, hl with | [_], _ => rfl
  have gLBm := PySem.W.mg_of X G t.xLBm.a
  obtain ⟨dBh, FBh⟩ := t.xBh.fn
  have bBh := FBh.binds (ps := ["rows"]) fun _ _ _ _ _ _ us hl => match us, hl with | [_], _ => rfl
  have gBh := PySem.W.mg_of X G t.xBh.a
  obtain ⟨dWm, FWm⟩ := t.xWm.fn
  have bWm := FWm.binds (ps := ["rows"]) fun _ _ _ _ _ _ us hl => match us, hl with | [_], _ => rfl
  have gWm := PySem.W.mg_of X G t.xWm.a
  obtain ⟨dHo, FHo⟩ := t.xHo.fn
  have bHo := FHo.binds (ps := ["rows", "named"]) fun _ _ _ _ _ _ us hl => match us, hl with | [_, _], _ => rfl
  have gHo := PySem.W.mg_of X G t.xHo.a
  obtain ⟨dMo, FMo⟩ := t.xMo.fn
  have bMo := FMo.binds (ps := ["made"]) fun _ _ _ _ _ _ us hl => match us, hl with | [_], _ => rfl
  have gMo := PySem.W.mg_of X G t.xMo.a
  obtain ⟨dRBl, FRBl⟩ := t.xRBl.fn
  have bRBl := FRBl.binds (ps := ["row"]) fun _ _ _ _ _ _ us hl => match us, hl with | [_], _ => rfl
  have gRBl := PySem.W.mg_of X G t.xRBl.a
  obtain ⟨dLBl, FLBl⟩ := t.xLBl.fn
  have bLBl := FLBl.binds (ps := ["row"]) fun _ _ _ _ _ _ us hl => match us, hl with | [_], _ => rfl
  have gLBl := PySem.W.mg_of X G t.xLBl.a
  obtain ⟨dRk, FRk⟩ := t.xRk.fn
  have bRk := FRk.binds (ps := ["word", "one", "other"]) fun _ _ _ _ _ _ us hl => match us, hl with | [_, _, _], _ => rfl
  have gRk := PySem.W.mg_of X G t.xRk.a
  obtain ⟨dFd, FFd⟩ := t.xFd.fn
  have bFd := FFd.binds (ps := ["row", "known"]) fun _ _ _ _ _ _ us hl => match us, hl with | [_, _], _ => rfl
  have gFd := PySem.W.mg_of X G t.xFd.a
  obtain ⟨dAf, FAf⟩ := t.xAf.fn
  have bAf := FAf.binds (ps := ["rows"]) fun _ _ _ _ _ _ us hl => match us, hl with | [_], _ => rfl
  have gAf := PySem.W.mg_of X G t.xAf.a
  obtain ⟨dCt, FCt⟩ := t.xCt.fn
  have bCt := FCt.binds (ps := ["rows"]) fun _ _ _ _ _ _ us hl => match us, hl with | [_], _ => rfl
  have gCt := PySem.W.mg_of X G t.xCt.a
  obtain ⟨dGo, FGo⟩ := t.xGo.fn
  have bGo := FGo.binds (ps := ["rows"]) fun _ _ _ _ _ _ us hl => match us, hl with | [_], _ => rfl
  have gGo := PySem.W.mg_of X G t.xGo.a
  obtain ⟨dWl, FWl⟩ := t.xWl.fn
  have bWl := FWl.binds (ps := ["rows", "named"]) fun _ _ _ _ _ _ us hl => match us, hl with | [_, _], _ => rfl
  have gWl := PySem.W.mg_of X G t.xWl.a
  obtain ⟨dWi, FWi⟩ := t.xWi.fn
  have bWi := FWi.binds (ps := ["rows", "named"]) fun _ _ _ _ _ _ us hl => match us, hl with | [_, _], _ => rfl
  have gWi := PySem.W.mg_of X G t.xWi.a
  obtain ⟨dLr, FLr⟩ := t.xLr.fn
  have bLr := FLr.binds (ps := ["rows", "named"]) fun _ _ _ _ _ _ us hl => match us, hl with | [_, _], _ => rfl
  have gLr := PySem.W.mg_of X G t.xLr.a
  obtain ⟨dLo, FLo⟩ := t.xLo.fn
  have bLo := FLo.binds (ps := ["one"]) fun _ _ _ _ _ _ us hl => match us, hl with | [_], _ => rfl
  have gLo := PySem.W.mg_of X G t.xLo.a
  obtain ⟨dLt, FLt⟩ := t.xLt.fn
  have bLt := FLt.binds (ps := ["_law_row", "_law_many"]) fun _ _ _ _ _ _ us hl => match us, hl with | [_, _], _ => rfl
  have gLt := PySem.W.mg_of X G t.xLt.a
  obtain ⟨dLa, FLa⟩ := t.xLa.fn
  have bLa := FLa.binds (ps := ["_law_one", "_law_other"]) fun _ _ _ _ _ _ us hl => match us, hl with | [_, _], _ => rfl
  have gLa := PySem.W.mg_of X G t.xLa.a
  obtain ⟨dLop, FLop⟩ := t.xLop.fn
  have bLop := FLop.binds (ps := ["_law_row", "_law_s"]) fun _ _ _ _ _ _ us hl => match us, hl with | [_, _], _ => rfl
  have gLop := PySem.W.mg_of X G t.xLop.a
  obtain ⟨dLfr, FLfr⟩ := t.xLfr.fn
  have bLfr := FLfr.binds (ps := ["_law_row", "_law_s"]) fun _ _ _ _ _ _ us hl => match us, hl with | [_, _], _ => rfl
  have gLfr := PySem.W.mg_of X G t.xLfr.a
  obtain ⟨dLpl, FLpl⟩ := t.xLpl.fn
  have bLpl := FLpl.binds (ps := ["_law_row", "_law_s"]) fun _ _ _ _ _ _ us hl => match us, hl with | [_, _], _ => rfl
  have gLpl := PySem.W.mg_of X G t.xLpl.a
  obtain ⟨dLsg, FLsg⟩ := t.xLsg.fn
  have bLsg := FLsg.binds (ps := ["_law_row", "_law_s"]) fun _ _ _ _ _ _ us hl => match us, hl with | [_, _], _ => rfl
  have gLsg := PySem.W.mg_of X G t.xLsg.a
  obtain ⟨dLbk, FLbk⟩ := t.xLbk.fn
  have bLbk := FLbk.binds (ps := ["_law_row", "_law_s", "_law_deep"]) fun _ _ _ _ _ _ us hl => match us, hl with | [_, _, _], _ => rfl
  have gLbk := PySem.W.mg_of X G t.xLbk.a
  obtain ⟨dLch, FLch⟩ := t.xLch.fn
  have bLch := FLch.binds (ps := ["_law_row", "_law_s", "_law_deep"]) fun _ _ _ _ _ _ us hl => match us, hl with | [_, _, _], _ => rfl
  have gLch := PySem.W.mg_of X G t.xLch.a
  obtain ⟨dLrd, FLrd⟩ := t.xLrd.fn
  have bLrd := FLrd.binds (ps := ["_law_row", "_law_s", "_law_deep"]) fun _ _ _ _ _ _ us hl => match us, hl with | [_, _, _], _ => rfl
  have gLrd := PySem.W.mg_of X G t.xLrd.a
  obtain ⟨dLmd, FLmd⟩ := t.xLmd.fn
  have bLmd := FLmd.binds (ps := ["_law_row", "_law_deep"]) fun _ _ _ _ _ _ us hl => match us, hl with | [_, _], _ => rfl
  have gLmd := PySem.W.mg_of X G t.xLmd.a
  obtain ⟨dLk, FLk⟩ := t.xLk.fn
  have bLk := FLk.binds (ps := ["_law_word", "_law_one", "_law_other"]) fun _ _ _ _ _ _ us hl => match us, hl with | [_, _, _], _ => rfl
  have gLk := PySem.W.mg_of X G t.xLk.a
  obtain ⟨dLc, FLc⟩ := t.xLc.fn
  have bLc := FLc.binds (ps := ["_law_file", "_law_name", "_law_worths"]) fun _ _ _ _ _ _ us hl => match us, hl with | [_, _, _], _ => rfl
  have gLc := PySem.W.mg_of X G t.xLc.a
  obtain ⟨dLm, FLm⟩ := t.xLm.fn
  have bLm := FLm.binds (ps := ["_law_rows", "_law_made_here", "_law_parts", "_law_most"]) fun _ _ _ _ _ _ us hl => match us, hl with | [_, _, _, _], _ => rfl
  have gLm := PySem.W.mg_of X G t.xLm.a
  obtain ⟨dLw, FLw⟩ := t.xLw.fn
  have bLw := FLw.binds (ps := ["_law_row", "_law_middle_here", "_law_pile", "_law_keeps"]) fun _ _ _ _ _ _ us hl => match us, hl with | [_, _, _, _], _ => rfl
  have gLw := PySem.W.mg_of X G t.xLw.a
  obtain ⟨dLly, FLly⟩ := t.xLly.fn
  have bLly := FLly.binds (ps := ["_law_row", "_law_s", "_law_middle_here"]) fun _ _ _ _ _ _ us hl => match us, hl with | [_, _, _], _ => rfl
  have gLly := PySem.W.mg_of X G t.xLly.a
  obtain ⟨dLpo, FLpo⟩ := t.xLpo.fn
  have bLpo := FLpo.binds (ps := ["_law_row", "_law_made_here"]) fun _ _ _ _ _ _ us hl => match us, hl with | [_, _], _ => rfl
  have gLpo := PySem.W.mg_of X G t.xLpo.a
  obtain ⟨dLs, FLs⟩ := t.xLs.fn
  have bLs := FLs.binds (ps := ["_law_found", "_law_made_here"]) fun _ _ _ _ _ _ us hl => match us, hl with | [_, _], _ => rfl
  have gLs := PySem.W.mg_of X G t.xLs.a
  obtain ⟨dLz, FLz⟩ := t.xLz.fn
  have bLz := FLz.binds (ps := ["_law_told", "_law_at"]) fun _ _ _ _ _ _ us hl => match us, hl with | [_, _], _ => rfl
  have gLz := PySem.W.mg_of X G t.xLz.a
  obtain ⟨dIni, FIni⟩ := t.yIni.fn
  have bIni := FIni.binds (ps := ["self", "rows", "named"]) fun _ _ _ _ _ _ us hl => match us, hl with | [_, _, _], _ => rfl
  obtain ⟨dPut, FPut⟩ := t.yPut.fn
  obtain ⟨dLd, FLd⟩ := t.yLd.fn
  have bLd := FLd.binds (ps := ["self", "number"]) fun _ _ _ _ _ _ us hl => match us, hl with | [_, _], _ => rfl
  obtain ⟨dMk, FMk⟩ := t.yMk.fn
  have bMk := FMk.binds (ps := ["self", "number", "row"]) fun _ _ _ _ _ _ us hl => match us, hl with | [_, _, _], _ => rfl
  obtain ⟨dLed, FLed⟩ := t.yLed.fn
  have bLed := FLed.binds (ps := ["self"]) fun _ _ _ _ _ _ us hl => match us, hl with | [_], _ => rfl
  have M : MkT K mg C mIni := ⟨⟨t.pg, t.hd, t.po, t.sa⟩, t.nrows, t.nleft, t.nfound, t.nspots, PySem.W.mg_of X G t.aC, ⟨t.mks, t.yIni.a, t.yIni.i, t.kc⟩⟩
  obtain ⟨oc, od, an, kV, dc, pm, cd, ct, sl, l1, l2⟩ := t.xLlw.l
  have FLlw := fun_mk (st := sLlw) l1 l2 t.xLlw.k
  refine ⟨PySem.W.fnOf "law" "law" (defArgs sLlw) (defBody sLlw) (defScope sLlw) .none kV dc pm an cd ct, fun s v => .of_eq rfl, fun base _ _ => ?_⟩
  have CRBm : CalAt l.prog w K mg base 1 "read_by_machine" ["row"] (spRBm) fRBm dRBm := ⟨ok_RBm FRBm T, gRBm, FRBm.kp, bRBm⟩
  have CLBm : CalAt l.prog w K mg base 1 "laid_by_machine" ["row"] (spLB) fLBm dLBm := ⟨ok_LBm FLBm T, gLBm, FLBm.kp, bLBm⟩
  have CBh : CalAt l.prog w K mg base 1 "behind_of" ["rows"] (spBh) fBh dBh := ⟨ok_Bh FBh T, gBh, FBh.kp, bBh⟩
  have CWm : CalAt l.prog w K mg base 2 "wanted_behind_machine" ["rows"] (spWm) fWm dWm := ⟨ok_Wm FWm T CBh CLBm CRBm, gWm, FWm.kp, bWm⟩
  have CHo : CalAt l.prog w K mg base 3 "handed_on" ["rows", "named"] (spHo) fHo dHo := ⟨ok_Ho FHo T CWm CLBm CRBm, gHo, FHo.kp, bHo⟩
  have MPut : PutAt l.prog w K mg base C mPut dPut := ⟨ok_Put FPut M, t.yPut.m, put_kbn FPut⟩
  have MLd : MethAt l.prog w K mg base 2 C "load" ["self", "number"] (spLd C) mLd dLd := ⟨ok_Ld FLd T M MPut CRBm, t.yLd.m, bLd⟩
  have MMk : MethAt l.prog w K mg base 3 C "make" ["self", "number", "row"] (spMk C) mMk dMk := ⟨ok_Mk FMk T M MPut MLd CLBm, t.yMk.m, bMk⟩
  have MLed : MethAt l.prog w K mg base 1 C "led" ["self"] (spLed C) mLed dLed := ⟨ok_Led FLed T M, t.yLed.m, bLed⟩
  have MIni : MethAt l.prog w K mg base 4 C "__init__" ["self", "rows", "named"] (spIni C) mIni dIni := ⟨ok_Ini FIni T M CHo MMk, t.yIni.m, bIni⟩
  have CMo : CalAt l.prog w K mg base 6 "machine_of" ["made"] (spMo) fMo dMo := ⟨ok_Mo (f1 := C) FMo T M MIni MLed, gMo, FMo.kp, bMo⟩
  have CRBl : CalAt l.prog w K mg base 1 "read_by_lean" ["row"] (spRBl) fRBl dRBl := ⟨ok_RBl FRBl T, gRBl, FRBl.kp, bRBl⟩
  have CLBl : CalAt l.prog w K mg base 1 "laid_by_lean" ["row"] (spLB) fLBl dLBl := ⟨ok_LBl FLBl T, gLBl, FLBl.kp, bLBl⟩
  have CRk : CalAt l.prog w K mg base 1 "reckoned" ["word", "one", "other"] (spRk) fRk dRk := ⟨ok_Rk FRk T, gRk, FRk.kp, bRk⟩
  have CFd : CalAt l.prog w K mg base 2 "folded" ["row", "known"] (spFd) fFd dFd := ⟨ok_Fd FFd T CRk, gFd, FFd.kp, bFd⟩
  have CAf : CalAt l.prog w K mg base 3 "all_folded" ["rows"] (spAf) fAf dAf := ⟨ok_Af FAf T CFd CLBl, gAf, FAf.kp, bAf⟩
  have CCt : CalAt l.prog w K mg base 1 "come_to" ["rows"] (spCt) fCt dCt := ⟨ok_Ct FCt T, gCt, FCt.kp, bCt⟩
  have CGo : CalAt l.prog w K mg base 1 "goals_of" ["rows"] (spGo) fGo dGo := ⟨ok_Go FGo T, gGo, FGo.kp, bGo⟩
  have CWl : CalAt l.prog w K mg base 2 "wanted_behind_lean" ["rows", "named"] (spWl) fWl dWl := ⟨ok_Wl FWl T CGo CLBl CRBl, gWl, FWl.kp, bWl⟩
  have CWi : CalAt l.prog w K mg base 3 "without_idle" ["rows", "named"] (spWi) fWi dWi := ⟨ok_Wi FWi T CWl, gWi, FWi.kp, bWi⟩
  have CLr : CalAt l.prog w K mg base 4 "lean_rows" ["rows", "named"] (spLr) fLr dLr := ⟨ok_Lr FLr T CWi CCt CAf, gLr, FLr.kp, bLr⟩
  have CLo : CalAt l.prog w K mg base 5 "lean_of" ["one"] (spLo) fLo dLo := ⟨ok_Lo FLo T CLr, gLo, FLo.kp, bLo⟩
  have CLt : CalAt l.prog w K mg base 1 "_law_taken" ["_law_row", "_law_many"] (spLt K) fLt dLt := ⟨ok_Lt FLt T, gLt, FLt.kp, bLt⟩
  have CLop : CalAt l.prog w K mg base 2 "_law_operand" ["_law_row", "_law_s"] (spLop K) fLop dLop := ⟨ok_Lop FLop T CLt, gLop, FLop.kp, bLop⟩
  have CLfr : CalAt l.prog w K mg base 2 "_law_fresh" ["_law_row", "_law_s"] (spLfr K) fLfr dLfr := ⟨ok_Lfr FLfr T CLt, gLfr, FLfr.kp, bLfr⟩
  have CLpl : CalAt l.prog w K mg base 2 "_law_place" ["_law_row", "_law_s"] (spLpl K) fLpl dLpl := ⟨ok_Lpl FLpl T CLt, gLpl, FLpl.kp, bLpl⟩
  have CLly : CalAt l.prog w K mg base 3 "_law_lays" ["_law_row", "_law_s", "_law_middle_here"] (spLly K) fLly dLly := ⟨ok_Lly FLly T CLpl, gLly, FLly.kp, bLly⟩
  have CLsg : CalAt l.prog w K mg base 4 "_law_straight" ["_law_row", "_law_s"] (spLsg K) fLsg dLsg := ⟨ok_Lsg FLsg T CLt CLop CLfr CLpl CLly, gLsg, FLsg.kp, bLsg⟩
  have CLbk : CalAt l.prog w K mg base 9 "_law_block" ["_law_row", "_law_s", "_law_deep"] (spLbk K 2) fLbk dLbk := ⟨ok_blk FLbk FLch FLrd T gLbk FLbk.kp bLbk gLch FLch.kp bLch gLrd FLrd.kp bLrd CLt CLop CLpl CLly CLsg 2 (by decide), gLbk, FLbk.kp, bLbk⟩
  have CLmd : CalAt l.prog w K mg base 10 "_law_made" ["_law_row", "_law_deep"] (spLmd K) fLmd dLmd := ⟨ok_Lmd FLmd T CLt CLop CLpl CLly CLbk, gLmd, FLmd.kp, bLmd⟩
  have CLk : CalAt l.prog w K mg base 1 "_law_reckon" ["_law_word", "_law_one", "_law_other"] (spLk) fLk dLk := ⟨ok_Lk FLk T, gLk, FLk.kp, bLk⟩
  have CLc : CalAt l.prog w K mg base 1 "_law_came" ["_law_file", "_law_name", "_law_worths"] (spLc) fLc dLc := ⟨ok_Lc FLc T, gLc, FLc.kp, bLc⟩
  have CLw : CalAt l.prog w K mg base 2 "_law_worked" ["_law_row", "_law_middle_here", "_law_pile", "_law_keeps"] (spLw K) fLw dLw := ⟨ok_Lw FLw T (PySem.W.mg_none_of X G t.zstr) CLc CLk, gLw, FLw.kp, bLw⟩
  have CLm : CalAt l.prog w K mg base 3 "_law_machine" ["_law_rows", "_law_made_here", "_law_parts", "_law_most"] (spLm K) fLm dLm := ⟨ok_Lm FLm T CLw, gLm, FLm.kp, bLm⟩
  have CLz : CalAt l.prog w K mg base 1 "_law_is_over" ["_law_told", "_law_at"] (spLz K) fLz dLz := ⟨ok_Lz FLz T, gLz, FLz.kp, bLz⟩
  have CLs : CalAt l.prog w K mg base 2 "_law_shown" ["_law_found", "_law_made_here"] (spLs K) fLs dLs := ⟨ok_Ls FLs T CLz, gLs, FLs.kp, bLs⟩
  have CLa : CalAt l.prog w K mg base 5 "_law_alike" ["_law_one", "_law_other"] (spLa K 3) fLa dLa := ⟨ok_La FLa T (PySem.W.mg_none_of X G t.zbool) gLa FLa.kp bLa 4, gLa, FLa.kp, bLa⟩
  have CLpo : CalAt l.prog w K mg base 2 "_law_parts_of" ["_law_row", "_law_made_here"] (spLpo K) fLpo dLpo := ⟨ok_Lpo FLpo T CLt, gLpo, FLpo.kp, bLpo⟩
  exact ok_Llw FLlw T CLmd CLo CLpo CMo CLm CLs CLa
end
end K51

open PySem PySem.W PyProof.Rows
set_option maxHeartbeats 0 in
open_top head51 for PySem.Challenge.rw_wholetongue_k51_whole_machine_of_lean_ro
set_option maxHeartbeats 0 in
theorem PySem.Challenge.cw_wholetongue_k51_whole_machine_of_lean_ro_holds : PySem.Challenge.rw_wholetongue_k51_whole_machine_of_lean_ro.Holds := by
  refine head51 ?_
  refine L2.walk_of (l := PySem.Challenge.rw_wholetongue_k51_whole_machine_of_lean_ro) (n := 63) (k := 11) (x := "_law_script") (CX := fun _ => L2.CX0) (sp := fun w => K51.spLaw _) rfl (by decide) rfl ⟨rfl, by decide, by decide⟩ (fun w h Y => PySem.W.kIn_of Y) ?F (fun _ _ a ns hl _ hS => ⟨a, ns, rfl, hS, hl, fun _ => rfl⟩) (fun _ _ _ _ _ h => h)
  case F =>
    intro w mg fa h KX G hmg
    refine' K51.all_mk (K51.TopAt.mk (K51.fnAt ?aRBm ?lRBm ?cRBm ?kRBm) (K51.fnAt ?aLBm ?lLBm ?cLBm ?kLBm) (K51.fnAt ?aBh ?lBh ?cBh ?kBh) (K51.fnAt ?aWm ?lWm ?cWm ?kWm) (K51.fnAt ?aHo ?lHo ?cHo ?kHo) (K51.fnAt ?aMo ?lMo ?cMo ?kMo) (K51.fnAt ?aRBl ?lRBl ?cRBl ?kRBl) (K51.fnAt ?aLBl ?lLBl ?cLBl ?kLBl) (K51.fnAt ?aRk ?lRk ?cRk ?kRk) (K51.fnAt ?aFd ?lFd ?cFd ?kFd) (K51.fnAt ?aAf ?lAf ?cAf ?kAf) (K51.fnAt ?aCt ?lCt ?cCt ?kCt) (K51.fnAt ?aGo ?lGo ?cGo ?kGo) (K51.fnAt ?aWl ?lWl ?cWl ?kWl) (K51.fnAt ?aWi ?lWi ?cWi ?kWi) (K51.fnAt ?aLr ?lLr ?cLr ?kLr) (K51.fnAt ?aLo ?lLo ?cLo ?kLo) (K51.fnAt ?aLt ?lLt ?cLt ?kLt) (K51.fnAt ?aLa ?lLa ?cLa ?kLa) (K51.fnAt ?aLop ?lLop ?cLop ?kLop) (K51.fnAt ?aLfr ?lLfr ?cLfr ?kLfr) (K51.fnAt ?aLpl ?lLpl ?cLpl ?kLpl) (K51.fnAt ?aLsg ?lLsg ?cLsg ?kLsg) (K51.fnAt ?aLbk ?lLbk ?cLbk ?kLbk) (K51.fnAt ?aLch ?lLch ?cLch ?kLch) (K51.fnAt ?aLrd ?lLrd ?cLrd ?kLrd) (K51.fnAt ?aLmd ?lLmd ?cLmd ?kLmd) (K51.fnAt ?aLk ?lLk ?cLk ?kLk) (K51.fnAt ?aLc ?lLc ?cLc ?kLc) (K51.fnAt ?aLm ?lLm ?cLm ?kLm) (K51.fnAt ?aLw ?lLw ?cLw ?kLw) (K51.fnAt ?aLly ?lLly ?cLly ?kLly) (K51.fnAt ?aLpo ?lLpo ?cLpo ?kLpo) (K51.fnAt ?aLs ?lLs ?cLs ?kLs) (K51.fnAt ?aLz ?lLz ?cLz ?kLz) (K51.fnAt ?aLlw ?lLlw ?cLlw ?kLlw) (K51.meAt ?maIni ?miIni ?mlIni ?mcIni ?mkIni) (K51.meAt ?maPut ?miPut ?mlPut ?mcPut ?mkPut) (K51.meAt ?maLd ?miLd ?mlLd ?mcLd ?mkLd) (K51.meAt ?maMk ?miMk ?mlMk ?mcMk ?mkMk) (K51.meAt ?maLed ?miLed ?mlLed ?mcLed ?mkLed) ?aC ?pg ?hd ?po ?sa ?mk ?kc ?nrows ?nleft ?nfound ?nspots (K51.tupAt ?ta1 ?tl1 ?tv1) (K51.tupAt ?ta2 ?tl2 ?tv2) (K51.tupAt ?ta3 ?tl3 ?tv3) (K51.tupAt ?ta4 ?tl4 ?tv4) (K51.tupAt ?ta5 ?tl5 ?tv5) (K51.intAt ?gr) ?zlen ?zint ?zlist ?ztuple ?zdict ?zrange ?zenumerate ?zzip ?zisinstance ?zstr ?zbool) KX G hmg
    (case aRBm => k_is)
    (case lRBm => k_is)
    (case cRBm => k_is)
    (case kRBm => k_is)
    (case aLBm => k_is)
    (case lLBm => k_is)
    (case cLBm => k_is)
    (case kLBm => k_is)
    (case aBh => k_is)
    (case lBh => k_is)
    (case cBh => k_is)
    (case kBh => k_is)
    (case aWm => k_is)
    (case lWm => k_is)
    (case cWm => k_is)
    (case kWm => k_is)
    (case aHo => k_is)
    (case lHo => k_is)
    (case cHo => k_is)
    (case kHo => k_is)
    (case aMo => k_is)
    (case lMo => k_is)
    (case cMo => k_is)
    (case kMo => k_is)
    (case aRBl => k_is)
    (case lRBl => k_is)
    (case cRBl => k_is)
    (case kRBl => k_is)
    (case aLBl => k_is)
    (case lLBl => k_is)
    (case cLBl => k_is)
    (case kLBl => k_is)
    (case aRk => k_is)
    (case lRk => k_is)
    (case cRk => k_is)
    (case kRk => k_is)
    (case aFd => k_is)
    (case lFd => k_is)
    (case cFd => k_is)
    (case kFd => k_is)
    (case aAf => k_is)
    (case lAf => k_is)
    (case cAf => k_is)
    (case kAf => k_is)
    (case aCt => k_is)
    (case lCt => k_is)
    (case cCt => k_is)
    (case kCt => k_is)
    (case aGo => k_is)
    (case lGo => k_is)
    (case cGo => k_is)
    (case kGo => k_is)
    (case aWl => k_is)
    (case lWl => k_is)
    (case cWl => k_is)
    (case kWl => k_is)
    (case aWi => k_is)
    (case lWi => k_is)
    (case cWi => k_is)
    (case kWi => k_is)
    (case aLr => k_is)
    (case lLr => k_is)
    (case cLr => k_is)
    (case kLr => k_is)
    (case aLo => k_is)
    (case lLo => k_is)
    (case cLo => k_is)
    (case kLo => k_is)
    (case aLt => k_is)
    (case lLt => k_is)
    (case cLt => k_is)
    (case kLt => k_is)
    (case aLa => k_is)
    (case lLa => k_is)
    (case cLa => k_is)
    (case kLa => k_is)
    (case aLop => k_is)
    (case lLop => k_is)
    (case cLop => k_is)
    (case kLop => k_is)
    (case aLfr => k_is)
    (case lLfr => k_is)
    (case cLfr => k_is)
    (case kLfr => k_is)
    (case aLpl => k_is)
    (case lLpl => k_is)
    (case cLpl => k_is)
    (case kLpl => k_is)
    (case aLsg => k_is)
    (case lLsg => k_is)
    (case cLsg => k_is)
    (case kLsg => k_is)
    (case aLbk => k_is)
    (case lLbk => k_is)
    (case cLbk => k_is)
    (case kLbk => k_is)
    (case aLch => k_is)
    (case lLch => k_is)
    (case cLch => k_is)
    (case kLch => k_is)
    (case aLrd => k_is)
    (case lLrd => k_is)
    (case cLrd => k_is)
    (case kLrd => k_is)
    (case aLmd => k_is)
    (case lLmd => k_is)
    (case cLmd => k_is)
    (case kLmd => k_is)
    (case aLk => k_is)
    (case lLk => k_is)
    (case cLk => k_is)
    (case kLk => k_is)
    (case aLc => k_is)
    (case lLc => k_is)
    (case cLc => k_is)
    (case kLc => k_is)
    (case aLm => k_is)
    (case lLm => k_is)
    (case cLm => k_is)
    (case kLm => k_is)
    (case aLw => k_is)
    (case lLw => k_is)
    (case cLw => k_is)
    (case kLw => k_is)
    (case aLly => k_is)
    (case lLly => k_is)
    (case cLly => k_is)
    (case kLly => k_is)
    (case aLpo => k_is)
    (case lLpo => k_is)
    (case cLpo => k_is)
    (case kLpo => k_is)
    (case aLs => k_is)
    (case lLs => k_is)
    (case cLs => k_is)
    (case kLs => k_is)
    (case aLz => k_is)
    (case lLz => k_is)
    (case cLz => k_is)
    (case kLz => k_is)
    (case aLlw => k_is)
    (case lLlw => k_is)
    (case cLlw => k_is)
    (case kLlw => k_is)
    (case aC => k_is)
    (case maIni => k_is)
    (case miIni => k_is)
    (case mlIni => k_is)
    (case mcIni => k_is)
    (case mkIni => k_is)
    (case maPut => k_is)
    (case miPut => k_is)
    (case mlPut => k_is)
    (case mcPut => k_is)
    (case mkPut => k_is)
    (case maLd => k_is)
    (case miLd => k_is)
    (case mlLd => k_is)
    (case mcLd => k_is)
    (case mkLd => k_is)
    (case maMk => k_is)
    (case miMk => k_is)
    (case mlMk => k_is)
    (case mcMk => k_is)
    (case mkMk => k_is)
    (case maLed => k_is)
    (case miLed => k_is)
    (case mlLed => k_is)
    (case mcLed => k_is)
    (case mkLed => k_is)
    (case pg => k_is)
    (case hd => k_is)
    (case po => k_is)
    (case sa => k_is)
    (case mk => k_is)
    (case kc => k_is)
    (case nrows => k_is)
    (case nleft => k_is)
    (case nfound => k_is)
    (case nspots => k_is)
    (case ta1 => k_is)
    (case tl1 => k_is)
    (case tv1 => rfl)
    (case ta2 => k_is)
    (case tl2 => k_is)
    (case tv2 => rfl)
    (case ta3 => k_is)
    (case tl3 => k_is)
    (case tv3 => rfl)
    (case ta4 => k_is)
    (case tl4 => k_is)
    (case tv4 => rfl)
    (case ta5 => k_is)
    (case tl5 => k_is)
    (case tv5 => rfl)
    (case gr => k_is)
    (case zlen => k_is)
    (case zint => k_is)
    (case zlist => k_is)
    (case ztuple => k_is)
    (case zdict => k_is)
    (case zrange => k_is)
    (case zenumerate => k_is)
    (case zzip => k_is)
    (case zisinstance => k_is)
    (case zstr => k_is)
    (case zbool => k_is)

