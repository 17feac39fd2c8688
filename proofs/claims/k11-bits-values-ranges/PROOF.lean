import PyProof.Rows.All
import Wide.All
import OpenK.AllK
import Wide.FinOn
import HandS.ForMost
import HandS.IsInst
import HandS.WideBits
import HandS.Walk
import HandS.EndBits
import HandS.Evl
import HandS.Defaults
import HandS.Head0
import HandS.Head1
import HandS.Head2
import HandS.HeadEnd
import HandS.HeadHook1
import HandS.HeadHook2
import PySem.Challenge.RW_coverstore_k11_bits_values_ranges
set_option Elab.async false
set_option linter.all false
set_option maxRecDepth 100000
set_option maxHeartbeats 4000000
/-! CvA: heap looks, wide readings of operators, dropping what a def made for itself, defs that know no repr runs (FnG), repr of data. -/
namespace Cv
open PySem PySem.Spec PyProof.Rows L2

/-! ### looks at a tracked object -/
def lsO : Option HO → Option (List V)
  | some (.lst xs) => some xs
  | some (.frz _ (.lst xs)) => some xs
  | _ => none
def lsM : Option HO → Option (List V)
  | some (.lst xs) => some xs
  | _ => none
def tpO : Option HO → Option (List V)
  | some (.tup xs) => some xs
  | some (.frz _ (.tup xs)) => some xs
  | _ => none
def sqO (o : Option HO) : Option (List V) := match lsO o with
  | some xs => some xs
  | none => tpO o
theorem lsO_lst {xs : List V} : lsO (some (.lst xs)) = some xs := rfl
theorem lsM_lst {xs : List V} : lsM (some (.lst xs)) = some xs := rfl
theorem tpO_tup {xs : List V} : tpO (some (.tup xs)) = some xs := rfl
theorem sqO_lst {xs : List V} : sqO (some (.lst xs)) = some xs := rfl
theorem sqO_tup {xs : List V} : sqO (some (.tup xs)) = some xs := rfl
theorem lsO_sq {K : PySem.W.Frag} {H : Hp} {a : Addr} {xs : List V} (h : lsO (H a) = some xs) : SqL K H a xs := by
  cases e : H a with
  | none => rw [e] at h; cases h
  | some o =>
    rw [e] at h
    cases o with
    | lst ys => cases h; exact .inl (.inl e)
    | frz ob u =>
      cases u with
      | lst ys => cases h; exact .inl (.inr ⟨ob, e⟩)
      | _ => cases h
    | _ => cases h
theorem tpO_sq {K : PySem.W.Frag} {H : Hp} {a : Addr} {xs : List V} (h : tpO (H a) = some xs) : SqT K H a xs := by
  cases e : H a with
  | none => rw [e] at h; cases h
  | some o =>
    rw [e] at h
    cases o with
    | tup ys => cases h; exact .inl (.inl e)
    | frz ob u =>
      cases u with
      | tup ys => cases h; exact .inl (.inr ⟨ob, e⟩)
      | _ => cases h
    | _ => cases h
theorem lsM_at {H : Hp} {a : Addr} {xs : List V} (h : lsM (H a) = some xs) : H a = some (.lst xs) := by
  cases e : H a with
  | none => rw [e] at h; cases h
  | some o =>
    rw [e] at h
    cases o with
    | lst ys => cases h; rfl
    | _ => cases h
theorem sqO_sq {K : PySem.W.Frag} {H : Hp} {a : Addr} {xs : List V} (h : sqO (H a) = some xs) : SqL K H a xs ∨ SqT K H a xs := by
  unfold sqO at h
  cases e : lsO (H a) with
  | some ys =>
    rw [e] at h
    cases h
    exact .inl (lsO_sq e)
  | none =>
    rw [e] at h
    exact .inr (tpO_sq h)

/-! ### readings by implication -/
section
variable {X : Cx}
theorem opImp {f : Value → Value → Sem Value} {r r' : R2} (h : OpR X f r) (i : ∀ x y H Q, r' x y H Q → r x y H Q) : OpR X f r' := fun pins s σ H x y v u Q I rx ry q => h pins s σ H x y v u Q I rx ry (i _ _ _ _ q)
theorem ixImp {r r' : R2} (h : IxR X r) (i : ∀ x y H Q, r' x y H Q → r x y H Q) : IxR X r' := fun va sl pins s σ H x y v u Q I rx ry q e => h va sl pins s σ H x y v u Q I rx ry (i _ _ _ _ q) e
theorem callImp {f : Value} {r r' : List V → Hp → VK → Prop} (h : CallR X f r) (i : ∀ xs H Q, r' xs H Q → r xs H Q) : CallR X f r' := fun pins s σ H xs us Q I rx q => h pins s σ H xs us Q I rx (i _ _ _ q)

/-! ### + of ints, texts, lists -/
def rAdd : R2 := fun x y H Q => match x, y with
  | .int i, .int j => Q (.int (i + j)) H
  | .str a, .str b => a.length + b.length ≤ sizeLine ∧ Q (.str (a ++ b)) H
  | .ref a, .ref b => ∃ xs ys, lsM (H a) = some xs ∧ lsM (H b) = some ys ∧ xs.length + ys.length ≤ sizeLine ∧ ∀ p, H p = none → Q (.ref p) (upd H p (.lst (xs ++ ys)))
  | _, _ => False
theorem op_addU : OpR X (binaryOp .Add) rAdd := by
  intro pins s σ H x y v u Q I rx ry h
  cases x <;> cases y <;> first
    | exact op_add pins s σ H _ _ v u Q I rx ry ⟨_, _, rfl, rfl, h⟩
    | exact op_add_str pins s σ H _ _ v u Q I rx ry ⟨_, _, rfl, rfl, h.1, h.2⟩
    | (obtain ⟨xs, ys, h1, h2, h3, h4⟩ := h; exact op_cat pins s σ H _ _ v u Q I rx ry ⟨_, _, xs, ys, rfl, rfl, lsM_at h1, lsM_at h2, h3, h4⟩)
    | exact False.elim h
/-! ### items of lists, tuples, texts -/
def rIxU : R2 := fun x y H Q => match x, y with
  | .str z, .int i => z.length ≤ sizeLine ∧ ∃ c, atI z.cps.toList i = some c ∧ Q (.str ⟨#[c]⟩) H
  | .ref a, .int i => ∃ xs v, sqO (H a) = some xs ∧ atI xs i = some v ∧ Q v H
  | _, _ => False
theorem ix_u : IxR X rIxU := by
  refine ixImp (r := rIx X.K) ix_seq fun x y H Q h => ?_
  cases x <;> cases y <;> first
    | (obtain ⟨h1, c, h2, h3⟩ := h; exact .inr (.inr ⟨_, _, c, rfl, rfl, h1, h2, h3⟩))
    | (obtain ⟨xs, v, h1, h2, h3⟩ := h
       rcases sqO_sq (K := X.K) h1 with q | q
       · exact .inl ⟨_, xs, _, v, rfl, rfl, q, h2, h3⟩
       · exact .inr (.inl ⟨_, xs, _, v, rfl, rfl, q, h2, h3⟩))
    | exact False.elim h
/-! ### len -/
def rLenU : List V → Hp → VK → Prop := fun vs H Q => match vs with
  | [.str z] => z.length ≤ sizeLine ∧ Q (.int z.length) H
  | [.ref a] => ∃ xs, sqO (H a) = some xs ∧ Q (.int xs.length) H
  | _ => False
theorem call_lenU : CallR X (.builtin "len") rLenU := by
  refine callImp (r := fun xs H Q => ∃ x n, xs = [x] ∧ LenV X.K x H n ∧ Q (.int n) H) call_len fun vs H Q h => ?_
  match vs, h with
  | [.str z], h => exact ⟨_, z.length, rfl, ⟨h.1, rfl⟩, h.2⟩
  | [.ref a], ⟨xs, h1, h2⟩ =>
    refine ⟨_, xs.length, rfl, ?_, h2⟩
    rcases sqO_sq (K := X.K) h1 with q | q
    · exact .inl ⟨xs, q, rfl⟩
    · exact .inr ⟨xs, q, rfl⟩
end

/-! ### dropping what was made on the way -/
/-- what an object's description leans on stands in H'' as in H' -/
def Cl (H' H'' : Hp) : HO → Prop
  | .ins _ dx _ => ∀ o, H' dx = some o → H'' dx = some o
  | .dT _ => ∀ b xs, H' b = some (.tup xs) → H'' b = some (.tup xs)
  | .frz _ u => Cl H' H'' u
  | _ => True
theorem cl_ok {P : Program} {w : World} {H' H'' : Hp} {h : Heap} {a : Addr} : ∀ {o : HO}, Cl H' H'' o → ObjOk P w H' h a o → ObjOk P w H'' h a o
  | .lst _, _, x => x
  | .tup _, _, x => x
  | .dK _, _, x => x
  | .dT kvs, c, x => by
    obtain ⟨z, y, xs, r, q⟩ := x
    exact ⟨z, y, xs, Paired.mapP r fun p q z => ⟨z.1, c _ _ z.2.1, z.2.2⟩, q⟩
  | .set _ _, _, x => x
  | .ins _ _ _, c, ⟨e, q⟩ => ⟨c _ e, q⟩
  | .own _, _, x => x
  | .xd _, _, x => x
  | .met _ _, _, x => x
  | .rng _ _, _, x => x
  | .frz _ u, c, ⟨e, q⟩ => ⟨e, cl_ok (o := u) c q⟩
  | .tbl _, _, x => x
  | .ext _, _, x => x
/-! ### no dict with tuple keys is tracked -/
def ndt : HO → Bool
  | .dT _ => false
  | .frz _ u => ndt u
  | _ => true
def NoDT (H : Hp) : Prop := ∀ a o, H a = some o → ndt o = true
theorem NoDT.upd {H : Hp} {p : Addr} {o : HO} (n : NoDT H) (h : ndt o = true) : NoDT (upd H p o) := fun a u e => by
  by_cases q : a = p
  · rw [q, upd_same] at e
    cases e
    exact h
  · rw [upd_ne q] at e
    exact n a u e
/-- an object of H, in a heap that has all of H's -/
theorem cl_of {P : Program} {w : World} {H H' H'' : Hp} {h : Heap} {a : Addr} : ∀ {o : HO}, ObjOk P w H h a o → ndt o = true → (∀ b u, H b = some u → H'' b = H' b) → Cl H' H'' o
  | .lst _, _, _, _ => trivial
  | .tup _, _, _, _ => trivial
  | .dK _, _, _, _ => trivial
  | .dT _, _, e, _ => by cases e
  | .set _ _, _, _, _ => trivial
  | .ins _ _ _, ⟨e, _⟩, _, k => fun o q => (k _ _ e).trans q
  | .own _, _, _, _ => trivial
  | .xd _, _, _, _ => trivial
  | .met _ _, _, _, _ => trivial
  | .rng _ _, _, _, _ => trivial
  | .frz _ u, ⟨_, q⟩, e, k => cl_of (o := u) q e k
  | .tbl _, _, _, _ => trivial
  | .ext _, _, _, _ => trivial

/-- H'' is H' without some objects that H did not track -/
structure Drop (H H' H'' : Hp) : Prop where
  sub : ∀ b o, H'' b = some o → H' b = some o
  old : ∀ b o, H b = some o → H'' b = H' b
  cl : ∀ b o, H'' b = some o → (H b = some o ∧ ndt o = true) ∨ (∃ C dx fs fs', o = .ins C dx fs ∧ H b = some (.ins C dx fs')) ∨ Cl H' H'' o
theorem Drop.hok {P : Program} {w : World} {H H' H'' : Hp} {h h' : Heap} (d : Drop H H' H'') (x0 : HOk P w H h) (x : HOk P w H' h') : HOk P w H'' h' := fun a o e => by
  have x1 := x a o (d.sub a o e)
  rcases d.cl a o e with ⟨q, n⟩ | ⟨C, dx, fs, fs', rfl, q⟩ | q
  · exact cl_ok (cl_of (x0 a o q) n d.old) x1
  · refine cl_ok (o := .ins C dx fs) (fun u z => ?_) x1
    have x2 := x0 a _ q
    exact (d.old _ _ x2.1).trans z
  · exact cl_ok q x1
theorem Drop.none {H H' H'' : Hp} (d : Drop H H' H'') {b : Addr} (e : H' b = Option.none) : H'' b = Option.none := by
  cases q : H'' b with
  | none => rfl
  | some o =>
    have := d.sub b o q
    rw [e] at this
    cases this
theorem Drop.un {fs ex : List Addr} {H H' H'' : Hp} {h h' : Heap} (d : Drop H H' H'') (u : Un fs ex H H' h h') : Un fs ex H H'' h h' where
  keep := u.keep
  slot := u.slot
  free := fun b o q n hx => d.none (u.free b o q n hx)
  there := u.there
  tups := fun b xs q => (d.old b _ q).trans (u.tups b xs q)
  frzs := fun b o v q => (d.old b _ q).trans (u.frzs b o v q)
  tbls := fun b ps q => by
    obtain ⟨more, e⟩ := u.tbls b ps q
    exact ⟨more, (d.old b _ q).trans e⟩
/-- what is wanted behind a def, told of a heap without what the def made for itself -/
def dropQ (H : Hp) (Q : VK) : VK := fun v H' => ∃ H'', Drop H H' H'' ∧ Q v H''
theorem ce_drop {outer : List Env} {P : Program} {w : World} {H : Hp} {s s' : Shared} {Q : VK} {u : Value} (x0 : HOk P w H s.heap) (h : CE outer P w H s (dropQ H Q) u s') : CE outer P w H s Q u s' := by
  obtain ⟨v, H', e1, e2, e3, e4, e5, H'', d, q⟩ := h
  exact ⟨v, H'', e1, e2, d.un e3, d.hok x0 e4, e5, q⟩
theorem fnDrop {P : Program} {w : World} {K : PySem.W.Frag} {mg : Str → Option Value} {base : Heap} {CX : CXT} {k : Nat} {f : Addr} {fd : FuncData} {ps : List Str} {sp sp' : Sp} (F : FnOk P w K mg base CX k f fd ps sp)
    (h : ∀ vs H Q E, sp' vs H Q E → sp vs H (dropQ H Q) E) : FnOk P w K mg base CX k f fd ps sp' :=
  ⟨fun vs H Q E q => F.len vs H _ E (h _ _ _ _ q), fun A outer s H args us vs Q E hr he hb hv hs => codeAny_mono (F.run A outer s H args us vs _ E hr he hb hv (h _ _ _ _ hs)) fun r s' q => by
    cases r with
    | error e => exact q
    | ok fl =>
      cases fl with
      | ret u => exact ce_drop he.hok q
      | next => exact q
      | brk => exact q
      | cont => exact q⟩
/-- the heap is the old one again -/
theorem drop_same {H H' : Hp} (n : NoDT H) (e : Same H H') : Drop H H' H := ⟨e, fun b o q => q.trans (e b o q).symm, fun b o q => .inl ⟨q, n b o q⟩⟩
/-- .. but at r -/
def KeepX (r : Addr) (H H' : Hp) : Prop := ∀ b o, b ≠ r → H b = some o → H' b = some o
theorem drop_upd {H H' : Hp} {r : Addr} {o : HO} (n : NoDT H) (e : KeepX r H H') (h : H' r = some o) (c : ∀ G, Cl H' G o) : Drop H H' (upd H r o) := by
  refine ⟨fun b u q => ?_, fun b u q => ?_, fun b u q => ?_⟩
  · by_cases z : b = r
    · rw [z, upd_same] at q
      cases q
      rw [z]
      exact h
    · rw [upd_ne z] at q
      exact e b u z q
  · by_cases z : b = r
    · rw [z, upd_same, h]
    · rw [upd_ne z, q, e b u z q]
  · by_cases z : b = r
    · rw [z, upd_same] at q
      cases q
      exact .inr (.inr (c _))
    · rw [upd_ne z] at q
      exact .inl ⟨q, n b u q⟩
/-- a new object at p stays, besides -/
theorem drop_new {H H' : Hp} {p : Addr} {o : HO} (n : NoDT H) (e : Same H H') (hp : H p = Option.none) (h : H' p = some o) (c : ∀ G, Cl H' G o) : Drop H H' (upd H p o) :=
  drop_upd n (fun b u _ q => e b u q) h c

/-! ### defs that may not run inside a repr: the guards are known -/
structure FnG (P : Program) (w : World) (K : PySem.W.Frag) (mg : Str → Option Value) (base : Heap) (CX : CXT) (k : Nat) (f : Addr) (fd : FuncData) (ps : List Str) (sp : Sp) : Prop where
  len : ∀ vs H Q E, sp vs H Q E → vs.length = ps.length
  run : ∀ (A : Around) (outer : List Env) (s : Shared) (H : Hp) (args : Args) (us : List Value) (vs : List V) (Q : VK) (E : XK), Room k A → A.guards = some [] → Env0 P w K mg base A outer s H → BindsTo s fd args (ps.zip us) → Vals vs us → sp vs H Q E →
    codeAny (model P w) A (.call (.ref f) args) (CR CX outer P w H s Q E) s
theorem fnG {P : Program} {w : World} {K : PySem.W.Frag} {mg : Str → Option Value} {base : Heap} {CX : CXT} {k : Nat} {f : Addr} {fd : FuncData} {ps : List Str} {sp : Sp} (F : FnOk P w K mg base CX k f fd ps sp) : FnG P w K mg base CX k f fd ps sp :=
  ⟨F.len, fun A outer s H args us vs Q E hr _ => F.run A outer s H args us vs Q E hr⟩
theorem fnGDrop {P : Program} {w : World} {K : PySem.W.Frag} {mg : Str → Option Value} {base : Heap} {CX : CXT} {k : Nat} {f : Addr} {fd : FuncData} {ps : List Str} {sp sp' : Sp} (F : FnG P w K mg base CX k f fd ps sp)
    (h : ∀ vs H Q E, sp' vs H Q E → sp vs H (dropQ H Q) E) : FnG P w K mg base CX k f fd ps sp' :=
  ⟨fun vs H Q E q => F.len vs H _ E (h _ _ _ _ q), fun A outer s H args us vs Q E hr hg he hb hv hs => codeAny_mono (F.run A outer s H args us vs _ E hr hg he hb hv (h _ _ _ _ hs)) fun r s' q => by
    cases r with
    | error e => exact q
    | ok fl =>
      cases fl with
      | ret u => exact ce_drop he.hok q
      | next => exact q
      | brk => exact q
      | cont => exact q⟩
theorem guards_deeper {A : Around} {env : Env} (h : A.guards = some []) : (A.deeper env).guards = some [] := h

section
variable {P : Program} {w : World} {K : PySem.W.Frag} {mg : Str → Option Value} {base : Heap} {CX : CXT}
/-- a def's body, run where no repr runs -/
theorem fnGof {k : Nat} {f : Addr} {nm qual : Str} {pa : Arguments} {bd : List Stmt} {sc : Scope} {dV kV doc pm cdv ct oc : Value} {an od : Option Addr} {osl : Array (Option Value)} {N ps : List Str} {sp : Sp}
    (lk : K.lookup f = some ⟨oc, od, .func (PySem.W.fnOf nm qual pa bd sc dV kV doc pm an cdv ct), osl⟩) (hcd : PySem.W.codeIn K cdv qual = true) (S : FnScope N ps sc)
    (hl : ∀ vs H Q E, sp vs H Q E → vs.length = ps.length)
    (hb : ∀ (A : Around) (outer : List Env) (s : Shared) (H : Hp) (vs : List V) (Q : VK) (E : XK), Room k (A.deeper (envOfC qual sc s.heap.objs.size f cdv)) → A.guards = some [] → sp vs H Q E →
      ∃ t, PSs (cxOf CX P w K mg base N qual sc f cdv A outer s H E) bd t ∧ t ⟨fun _ G => Q .non G, Q, fun _ _ => False, fun _ _ => False⟩ (start N vs) H) :
    FnG P w K mg base CX (k + 1) f (PySem.W.fnOf nm qual pa bd sc dV kV doc pm an cdv ct) ps sp := by
  refine ⟨hl, fun A outer s H args us vs Q E room gd e0 bi rv want => ?_⟩
  have inK : K.In s.heap := e0.mod.kin.keeps fun b o q => (e0.bs b o q).1
  have noL : s.heap.NoLimit := e0.mod.nolimit.keeps fun b o q => (e0.bs b o q).1
  have kinds : ∀ y ∈ ps.zip us, sc.names.lookup y.1 = some .local ∨ (sc.names.lookup y.1 = some .cell ∧ ((cellsFrom (s.heap.objs.size + 1) sc.names []).lookup y.1).isSome = true) := by
    rintro ⟨n, v⟩ hy
    have hn := S.par n (List.of_mem_zip hy).1
    exact hn.imp id fun q => ⟨q, PySem.W.cellsFrom_some _ _ _ (.inl q)⟩
  refine codeAny_call_function room.depth (inK _ _ lk) rfl S.co S.gen rfl (PySem.W.codeRec_of inK hcd) (bi _ _ _ _ ?_)
  refine wpAny_newFunctionEnv_cells S.kind kinds fun env eq s1 ic => ?_
  cases eq
  refine ⟨noL.keeps ic.toInCall.keep, codeAny_func ?_⟩
  obtain ⟨t, ht, hq⟩ := hb A outer s H vs Q E (room.deeper _) gd want
  have I := inv_start (CX := CX) (E := E) (qual := qual) (f := f) (cd := cdv) (A := A) S room.hd e0 (hl _ _ _ _ want) rv ic
  refine wpAny_mono (ht.run [] s1 (start N vs) H _ I hq) (fun fl s' out => ?_) fun _ _ z => z
  cases fl with
  | ret u =>
    obtain ⟨v, _, G, J, r, q⟩ := out
    exact ⟨v, G, J.os, J.bare, J.base, J.hok, r, q⟩
  | next =>
    obtain ⟨_, G, J, q⟩ := out
    exact ⟨.non, G, J.os, J.bare, J.base, J.hok, rfl, q⟩
  | brk =>
    obtain ⟨_, _, _, q⟩ := out
    exact q.elim
  | cont =>
    obtain ⟨_, _, _, q⟩ := out
    exact q.elim
theorem funG {x qual : Str} {st : Stmt} {f : Addr} {fd : FuncData} {N ps : List Str} {k : Nat} {sp : Sp} (F : Fun K x qual st f fd) (S : FnScope N ps (defScope st)) (hl : ∀ vs H Q E, sp vs H Q E → vs.length = ps.length)
    (hb : ∀ (cdv : Value) (A : Around) (outer : List Env) (s : Shared) (H : Hp) (vs : List V) (Q : VK) (E : XK), Room k (A.deeper (envOfC qual (defScope st) s.heap.objs.size f cdv)) → A.guards = some [] → sp vs H Q E →
      ∃ t, PSs (cxOf CX0 P w K mg base N qual (defScope st) f cdv A outer s H E).nox (defBody st) t ∧ t ⟨fun _ G => Q .non G, Q, fun _ _ => False, fun _ _ => False⟩ (start N vs) H) : FnG P w K mg base CX0 (k + 1) f fd ps sp := by
  obtain ⟨oc, od, kV, doc, pm, an, cdv, ct, osl, rfl, lk, hcd⟩ := F.ex
  refine fnGof lk hcd S hl fun A outer s H vs Q E hr gd hs => ?_
  obtain ⟨t, h, q⟩ := hb cdv A outer s H vs Q E hr gd hs
  exact ⟨t, h.nox, q⟩
end
section
variable {X : Cx} {CX : CXT} {k : Nat} {f : Addr} {fd : FuncData} {ps : List Str} {sp : Sp} {dvs : List V} {ds : List Value} {E : XK} {x : Str} {p pos : Pos} {e : Expr} {es : List Expr} {t : TA}
theorem runG {pins : List (Addr × Obj)} {σ : L2.St} {H : Hp} {s : Shared} {Q : VK} {us : List Value} {vs : List V} (F : FnG X.prog X.w X.K X.mg X.base CX k f fd ps sp) (room : Room k X.A) (gd : X.A.guards = some []) (bi : Binds X.K fd ps ds) (rd : Vals dvs ds) (pass : Passes CX X E)
    (I : Inv X pins σ H s) (r : Vals vs us) (want : sp (vs ++ dvs) H Q E) : wpAny (model X.prog X.w) X.A (call (.ref f) us) (EP X pins σ Q) X.xe s := by
  have rr := r.append rd
  have ll : (us ++ ds).length = ps.length := rr.length.symm.trans (F.len _ _ _ _ want)
  refine wpAny_call (codeAny_mono (F.run X.A X.stack s H _ _ _ Q E room gd I.env0 (bi s us I.kIn ll) rr want) ?_)
  rintro (er | fl) s' out
  · exact pass pins σ H s er s' I out
  · cases fl with
    | ret u => exact I.after out
    | next => exact out.elim
    | brk => exact out.elim
    | cont => exact out.elim
/-- f(e, ..) of such a def -/
theorem pe_callG (F : FnG X.prog X.w X.K X.mg X.base CX k f fd ps sp) (room : Room k X.A) (gd : X.A.guards = some []) (hg : Gl X x) (hm : X.mg x = some (.ref f)) (hk : PySem.W.keepIn X.K (.ref f) = true) (bi : Binds X.K fd ps ds) (rd : Vals dvs ds) (pass : Passes CX X E)
    (ha : PA X (e :: es) t) (h1 : (x == ("__debug__" : Str)) = false := by decide) (h2 : starEach (e :: es) X.env = (false, eval e X.env) :: starEach es X.env := by rfl) (h3 : (backTo pos (starEach es X.env)).any (·.1) = false := by rfl) :
    PE X (.Call (.Name x p) (e :: es) [] pos) (tCall sp dvs E t) :=
  ⟨fun pins s σ H Q I h => wpAny_Call_Name_kw (ld_glob I hg hm
    (PySem.W.callWith_K (h₀ := X.base) I.ok.mod.kin hk (thn (ha.run pos pins s σ H _ I h) fun _ _ ⟨_, _, I1, r, q⟩ => ⟨I1.kIn, runG F room gd bi rd pass I1 r q⟩) h2 h3) h1)⟩
end
end Cv

namespace Cv
open PySem PySem.Spec PyProof.Rows L2
/-- a law's call, its def kept where no repr runs -/
theorem lawG {P : Program} {w : World} {K : PySem.W.Frag} {mg mb : Str → Option Value} {CX : CXT} {k : Nat} {fa a : Addr} {fd : FuncData} {x : Str} {sp : Sp} {s : Shared} {us : List Value} {ns : List Int}
    (inK : K.In s.heap) (hG : s.heap.Ns mainGlobals mg) (hB : s.heap.Ns builtinsNs mb) (hBB : ∀ x : Str, x ≠ "__name__" → mb x = bootBuiltins x) (noL : s.heap.NoLimit) (g0 : s.gens = #[])
    (ha : s.heap.get? a = some { cls := .type "list", data := .seq us.toArray }) (hi : IntsAre us ns) (hz : ns.length ≤ sizeLine) (room : Room k callerA)
    (F : ∀ base : Heap, K.In base → base.Ns mainGlobals mg → FnG P w K mg base CX k fa fd [x] sp) (bi : ∀ (s : Shared) (u : Value), BindsTo s fd ⟨[u], []⟩ [(x, u)])
    (want : ∀ H : Hp, Only H → NoDT H → SqL K H a (ns.map V.int) → sp [.ref a] H (fun v _ => v = .bl true) fun _ _ _ => False)
    (noX : ∀ H e s', CX [] H s (fun _ _ _ => False) e s' → False) :
    codeAny (model P w) callerA (.call (.ref fa) ⟨[.ref a], []⟩) (fun r s' => r = .ok (.ret (.bool true)) ∧ OldK s.heap s'.heap ∧ s'.os = s.os ∧ AllBare s'.gens) s := by
  have rel := vals_ints hi
  -- whatever of the script alone is tracked
  suffices key : ∀ H : Hp, Only H → NoDT H → SqL K H a (ns.map V.int) → HOk P w H s.heap → (∀ b u, H b = some u → b = a ∧ K.lookup a = none) →
      codeAny (model P w) callerA (.call (.ref fa) ⟨[.ref a], []⟩) (fun r s' => r = .ok (.ret (.bool true)) ∧ OldK s.heap s'.heap ∧ s'.os = s.os ∧ AllBare s'.gens) s by
    cases kq : K.lookup a with
    | some o =>
      have eo := inK a o kq
      rw [ha] at eo
      cases eo
      exact key (fun _ => none) (fun _ => .inl rfl) (fun _ _ z => nomatch z) (.inr ⟨_, us.toArray, _, kq, rfl, rfl, rfl, by rw [List.size_toArray, hi.length]; exact hz, rel⟩) (fun _ _ z => nomatch z) fun _ _ z => nomatch z
    | none =>
      have at_ : ∀ {b : Addr} {u : HO}, (if b = a then some (HO.frz { cls := .type "list", data := .seq us.toArray } (.lst (ns.map V.int))) else none) = some u → b = a ∧ u = HO.frz { cls := .type "list", data := .seq us.toArray } (.lst (ns.map V.int)) := by
        intro b u z
        by_cases q : b = a
        · rw [if_pos q] at z
          exact ⟨q, (Option.some.inj z).symm⟩
        · rw [if_neg q] at z
          cases z
      refine key (fun b => if b = a then some (.frz { cls := .type "list", data := .seq us.toArray } (.lst (ns.map V.int))) else none) (fun b => ?_) (fun b u z => ?_) (.inl (.inr ⟨_, if_pos rfl⟩)) (fun b u z => ?_) fun b u z => ⟨(at_ z).1, kq⟩
      · by_cases q : b = a
        · exact .inr ⟨_, _, if_pos q⟩
        · exact .inl (if_neg q)
      · rw [(at_ z).2]
        rfl
      · obtain ⟨rfl, rfl⟩ := at_ z
        exact ⟨ha, by rw [List.length_map]; exact hz, us, _, rel, ha⟩
  intro H only nd hS hok alone
  have apart : ∀ {b : Addr} {o : Obj}, s.heap.get? b = some o → (∀ items n, o.data ≠ .seq items n) → H b = none := by
    intro b o eb nd
    cases q : H b with
    | none => rfl
    | some u =>
      obtain ⟨rfl, _⟩ := alone b u q
      rw [ha] at eb
      cases eb
      exact absurd rfl (nd us.toArray _)
  have nsB : ∀ {b : Addr} {m : Str → Option Value}, s.heap.Ns b m → (hidT s.heap H).Ns b m := by
    rintro b m ⟨o, es, ep, e1, e2, e3⟩
    exact ⟨o, es, ep, hidT_get e1 (apart e1 fun _ _ z => by rw [e2] at z; cases z), e2, e3⟩
  have kB : K.In (hidT s.heap H) := by
    intro b o e1
    refine hidT_get (inK b o e1) ?_
    cases q : H b with
    | none => rfl
    | some u =>
      obtain ⟨rfl, z⟩ := alone b u q
      rw [z] at e1
      cases e1
  have lim : (hidT s.heap H).NoLimit := by
    obtain ⟨mc, e1, e2⟩ := noL
    exact ⟨mc, nsB e1, e2⟩
  have e0 : Env0 P w K mg (hidT s.heap H) callerA [] s H :=
    ⟨rfl, ⟨kB, nsB hG, ⟨mb, nsB hB, hBB⟩, lim⟩, fun b o z => of_hidT z, Nat.le_of_eq (hidT_size _ _), True.intro, fun b z => (List.not_mem_nil z).elim, hok, .of_eq g0⟩
  refine codeAny_mono ((F _ kB (nsB hG)).run callerA [] s H ⟨[.ref a], []⟩ [.ref a] [.ref a] _ _ room rfl e0 (bi s (.ref a)) (.cons rfl .nil) (want H only nd hS)) ?_
  rintro (er | fl) s' out
  · exact (noX H er s' out).elim
  · cases fl with
    | ret u =>
      obtain ⟨v, G, os, bare, un, hok', rv, qv⟩ := out
      have ev : v = .bl true := qv
      subst ev
      cases rv
      refine ⟨rfl, OldK.of_keep fun b o eb => ?_, os, bare⟩
      cases q : H b with
      | none => exact un.keep b o eb q (fun z => (List.not_mem_nil z).elim) (fun z => (List.not_mem_nil z).elim)
      | some u =>
        rcases only b with z | ⟨ob, xs, z⟩
        · rw [q] at z
          cases z
        · have c1 := (hok b _ z).1
          have c2 := (hok' b _ (un.frzs b ob _ z)).1
          rw [eb] at c1
          cases c1
          exact c2
    | next => exact out.elim
    | brk => exact out.elim
    | cont => exact out.elim
/-- the goal behind the head, from such a law's promise; the script's ints have at most 2 ^ 20 bits -/
theorem walkG {l : PySem.W.OpenLaw} {n k : Nat} {q : Program} {loose : List Str} {XP : (Str → Option Value) → Heap → Prop} {YP : World → Heap → Prop} {d : DefRec} {CX : CXT} {x : Str}
    (hn : l.most = some n) (hn2 : n ≤ sizeLine) (hdf : d.params.defaults = []) (room : Room k callerA)
    (F : ∀ (w : World) (mg : Str → Option Value) (fa : Addr) (h : Heap), YP w h → h.Ns mainGlobals mg → mg d.name = some (.ref fa) →
      ∃ (K : PySem.W.Frag) (fd : FuncData) (sp : Sp), K.In h ∧ (∀ (s : Shared) (u : Value), BindsTo s fd ⟨[u], []⟩ [(x, u)]) ∧
        (∀ (H : Hp) (a : Addr) (ns : List Int), ns.length ≤ n → (∀ z ∈ ns, Builtin.Int.intBits z ≤ 1048576) → Only H → NoDT H → SqL K H a (ns.map V.int) → sp [.ref a] H (fun v _ => v = .bl true) fun _ _ _ => False) ∧
        ∀ base : Heap, K.In base → base.Ns mainGlobals mg → FnG l.prog w K mg base CX k fa fd [x] sp)
    (noX : ∀ (H : Hp) (s : Shared) (e : Value) (s' : Shared), CX [] H s (fun _ _ _ => False) e s' → False) :
    PySem.W.WalkO q loose XP YP l.row.toRowW d [] (fun f vs => PySem.call f vs) := by
  refine Att.attach_callB hn hdf fun w s0 s1 mg mb fa o pm cd doc a vs ns G Y ho hd hcd hmg hobj hints hlen hbits hg => ?_
  obtain ⟨K, fd, sp, inK, hb, want, hF⟩ := F w mg fa _ Y G.T.g hmg
  exact lawG inK G.T.g G.T.b G.T.builtins G.T.nolimit hg hobj hints (Nat.le_trans hlen hn2) room hF hb (fun H hO hD hS => want H a ns hlen hbits hO hD hS) fun H e s' => noX H s1 e s'
end Cv

/-! CvB: repr of data; isinstance by kinds. -/
namespace Cv
open PySem PySem.Spec PyProof.Rows L2
mutual
theorem dp_nodict {K : PySem.W.Frag} {H : Hp} : ∀ (d : PyData) (v : V), Dp K H v d → d.hasDict = false
  | .none, _, _ => by simp only [PyData.hasDict]
  | .bool _, _, _ => by simp only [PyData.hasDict]
  | .int _, _, _ => by simp only [PyData.hasDict]
  | .str _, _, _ => by simp only [PyData.hasDict]
  | .list ds, _, h => by
    cases h with
    | lst _ ha => simp only [PyData.hasDict, dp_nodicts ds _ ha]
  | .tuple ds, _, h => by
    cases h with
    | tup _ ha => simp only [PyData.hasDict, dp_nodicts ds _ ha]
  | .dict _, _, h => by cases h
theorem dp_nodicts {K : PySem.W.Frag} {H : Hp} : ∀ (ds : List PyData) (vs : List V), DpAll K H vs ds → PyData.hasDictAll ds = false
  | [], _, _ => by simp only [PyData.hasDictAll]
  | d :: ds, _, h => by
    cases h with
    | cons h1 h2 => simp only [PyData.hasDictAll, dp_nodict d _ h1, dp_nodicts ds _ h2, Bool.or_self]
end
/-- repr(x), x a text, a number, a bool, None, or a list or tuple of such -/
def rRepr (K : PySem.W.Frag) : List V → Hp → VK → Prop := fun vs H Q => ∃ x d, vs = [x] ∧ Dp K H x d ∧ d.showable = true ∧ d.depth ≤ 50 ∧ d.shown.length ≤ sizeLine ∧ Q (.str d.shown) H
theorem call_reprD {X : Cx} (gd : X.A.guards = some []) (hu : X.A.units + 64 < cLine) : CallR X (.builtin "repr") (rRepr X.K) := by
  intro pins s σ H xs us Q I r h
  obtain ⟨x, d, rfl, dp, sh, dep, len, q⟩ := h
  obtain ⟨u, rfl, rx⟩ := vals1 r
  have hd := dp_nodict d x dp
  cases x with
  | ref a =>
    cases rx
    obtain ⟨as, rd⟩ := Dp.reads I d _ _ dp rfl
    refine PySem.repr_of_reads' rd sh (PyData.noDict_hsm hd) gd (by omega) (fun _ _ z => z) (fun h' u tk k => ?_) len
    exact ⟨.str d.shown, H, I.kept (t' := tk) k, ⟨u, rfl⟩, q⟩
  | non =>
    cases rx
    cases dp
    exact PySem.P.repr_of_none ⟨.str _, H, I.tok _, ⟨_, rfl⟩, by simpa only [PyData.shown] using q⟩
  | bl b =>
    cases rx
    cases dp
    exact PySem.P.repr_of_bool ⟨.str _, H, I.tok _, ⟨_, rfl⟩, by simpa only [PyData.shown] using q⟩
  | int i =>
    obtain ⟨t, rfl⟩ := rx
    cases dp
    simp only [PyData.showable, decide_eq_true_eq] at sh
    exact PySem.P.repr_of_int sh ⟨.str _, H, I.tok _, ⟨_, rfl⟩, by simpa only [PyData.shown] using q⟩
  | str z =>
    obtain ⟨t, rfl⟩ := rx
    cases dp
    simp only [PyData.shown] at q len
    exact PySem.P.repr_of_str ⟨.str _, H, I.tok _, ⟨_, rfl⟩, q⟩ len
  | _ => cases dp

/-! ### calls by name -/
/-- the values by position and by name, put in the parameters' order: the i-th parameter is the (idx i)-th of them -/
def gP {α : Type} (idx : List Nat) (us ws : List α) : List α := idx.filterMap fun i => (us ++ ws)[i]?
theorem gP_rel : ∀ {idx : List Nat} {vs zs : List V} {us ws : List Value}, Vals vs us → Vals zs ws → Vals (gP idx vs zs) (gP idx us ws)
  | [], _, _, _, _, _, _ => .nil
  | i :: idx, vs, zs, us, ws, r1, r2 => by
    have r := Vals.append r1 r2
    have ih := gP_rel (idx := idx) r1 r2
    unfold gP at ih ⊢
    rw [List.filterMap_cons, List.filterMap_cons]
    cases e : (vs ++ zs)[i]? with
    | none => rw [Vals.none_of r e]; exact ih
    | some x =>
      obtain ⟨u, e2, rx⟩ := r.get e
      rw [e2]
      exact .cons rx ih
section
variable {K : PySem.W.Frag}
theorem funKB {x qual : Str} {st : Stmt} {f : Addr} {fd : FuncData} {ps : List Str} (F : Fun K x qual st f fd) (n : Nat) (ks : List Str) (idx : List Nat)
    (h : ∀ (kV doc pm : Value) (an : Option Addr) (cdv ct : Value) (us ws : List Value), us.length = n → ws.length = ks.length → bindArgs (PySem.W.fnOf x qual (defArgs st) (defBody st) (defScope st) .none kV doc pm an cdv ct) ⟨us, ks.zip ws⟩ = pure (ps.zip (gP idx us ws))) :
    KBn K fd ps n ks (gP idx) (gP idx) := by
  obtain ⟨oc, od, kV, doc, pm, an, cdv, ct, osl, rfl, lk, hcd⟩ := F.ex
  exact ⟨fun s us ws _ l1 l2 => .of_eq (h kV doc pm an cdv ct us ws l1 l2), gP_rel⟩
end
section
variable {X : Cx} {CX : CXT} {k n : Nat} {f : Addr} {fd : FuncData} {ps ks : List Str} {sp : Sp} {E : XK} {x : Str} {p pos : Pos} {kws : List Keyword} {tk : TA} {g : List Value → List Value → List Value} {gV : List V → List V → List V}
/-- f(k = v, ..), nothing by position -/
theorem pe_callN0 (F : FnOk X.prog X.w X.K X.mg X.base CX k f fd ps sp) (room : Room k X.A) (hg : Gl X x) (hm : X.mg x = some (.ref f)) (hk : PySem.W.keepIn X.K (.ref f) = true) (hb : KBn X.K fd ps 0 ks g gV) (pass : Passes CX X E)
    (hkw : PK X kws tk) (h1 : (backToKw pos (keywordEach kws X.env)).all (·.1.isSome) = true := by rfl) (h2 : (backToKw pos (keywordEach kws X.env)).filterMap (·.1) = ks := by rfl)
    (h3 : (x == ("__debug__" : Str)) = false := by decide) (h4 : ((backTo pos (starEach [] X.env)).any (·.1) || (backToKw pos (keywordEach kws X.env)).any (·.1.isNone)) = false := by rfl) :
    PE X (.Call (.Name x p) [] kws pos) (tCallN 0 ks.length sp gV E tNil tk) := by
  refine ⟨fun pins s σ H Q I h => wpAny_Call_Name_kw (ld_glob I hg hm ?_ h3)⟩
  refine PySem.W.callWith_KW0 (h₀ := X.base) I.ok.mod.kin hk h1 (thn (hkw.run pos pins s σ H _ I h) fun ws s2 ⟨zs, G, J, rz, _, l2, q⟩ => ⟨J.kIn, ?_⟩) h4
  rw [h2]
  exact run_fnN (us := []) (vs := []) F room hb pass J .nil rz rfl l2 q
end
end Cv

/-! CvC: the kinds of plain values, isinstance of the built-in classes; a law's generator of draws; the step that reads straight lines. -/
namespace Cv
open PySem PySem.Spec PyProof.Rows L2
/-! ### kinds -/
def kO : Option HO → Option String
  | some (.lst _) => some "list"
  | some (.frz _ (.lst _)) => some "list"
  | some (.tup _) => some "tuple"
  | some (.frz _ (.tup _)) => some "tuple"
  | some (.dK _) => some "dict"
  | some (.frz _ (.dK _)) => some "dict"
  | _ => none
def kV (H : Hp) : V → Option String
  | .non => some "NoneType"
  | .bl _ => some "bool"
  | .int _ => some "int"
  | .str _ => some "str"
  | .ref a => kO (H a)
  | _ => none
theorem kV_ty {K : PySem.W.Frag} {H : Hp} {v : V} {T : String} (h : kV H v = some T) : TyX K H v (.type T) := by
  cases v with
  | non => cases h; exact .base .non
  | bl b => cases h; exact .base (.bl b)
  | int i => cases h; exact .base (.int i)
  | str z => cases h; exact .base (.str z)
  | ref a =>
    have h : kO (H a) = some T := h
    cases e : H a with
    | none => rw [e] at h; cases h
    | some o =>
      rw [e] at h
      cases o with
      | lst xs => cases h; exact .base (.lst e)
      | tup xs => cases h; exact .base (.tup e)
      | dK kvs => cases h; exact .base (.dK e)
      | frz ob u =>
        cases u with
        | lst xs => cases h; exact .base (.frz e)
        | tup xs => cases h; exact .fTuple e
        | dK kvs => cases h; exact .fDict e
        | _ => cases h
      | _ => cases h
  | _ => cases h
/-- a plain value: no own class's -/
def Plain (H : Hp) (v : V) : Prop := (kV H v).isSome = true
def isI : V → Bool | .int _ => true | _ => false
def isB : V → Bool | .bl _ => true | _ => false
def isS : V → Bool | .str _ => true | _ => false
def isL (H : Hp) : V → Bool | .ref a => kO (H a) == some "list" | _ => false
def isT (H : Hp) : V → Bool | .ref a => kO (H a) == some "tuple" | _ => false
theorem kV_ref {H : Hp} {a : Addr} {T : String} (h : kO (H a) = some T) : T = "list" ∨ T = "tuple" ∨ T = "dict" := by
  unfold kO at h
  split at h <;> first | (cases h; first | exact .inl rfl | exact .inr (.inl rfl) | exact .inr (.inr rfl)) | cases h
theorem kit_int {H : Hp} {v : V} {T : String} (h : kV H v = some T) : kitB T "int" = some (isI v || isB v) := by
  cases v with
  | ref a => rcases kV_ref h with rfl | rfl | rfl <;> (show kitB _ _ = some false; decide +kernel)
  | non => cases h; show kitB _ _ = some false; decide +kernel
  | bl b => cases h; show kitB _ _ = some true; decide +kernel
  | int i => cases h; show kitB _ _ = some true; decide +kernel
  | str z => cases h; show kitB _ _ = some false; decide +kernel
  | _ => cases h
theorem kit_bool {H : Hp} {v : V} {T : String} (h : kV H v = some T) : kitB T "bool" = some (isB v) := by
  cases v with
  | ref a => rcases kV_ref h with rfl | rfl | rfl <;> (show kitB _ _ = some false; decide +kernel)
  | non => cases h; show kitB _ _ = some false; decide +kernel
  | bl b => cases h; show kitB _ _ = some true; decide +kernel
  | int i => cases h; show kitB _ _ = some false; decide +kernel
  | str z => cases h; show kitB _ _ = some false; decide +kernel
  | _ => cases h
theorem kit_str {H : Hp} {v : V} {T : String} (h : kV H v = some T) : kitB T "str" = some (isS v) := by
  cases v with
  | ref a => rcases kV_ref h with rfl | rfl | rfl <;> (show kitB _ _ = some false; decide +kernel)
  | non => cases h; show kitB _ _ = some false; decide +kernel
  | bl b => cases h; show kitB _ _ = some false; decide +kernel
  | int i => cases h; show kitB _ _ = some false; decide +kernel
  | str z => cases h; show kitB _ _ = some true; decide +kernel
  | _ => cases h
theorem kit_list {H : Hp} {v : V} {T : String} (h : kV H v = some T) : kitB T "list" = some (isL H v) := by
  cases v with
  | ref a =>
    have e : isL H (.ref a) = (some T == some "list") := by show (kO (H a) == some "list") = _; rw [show kO (H a) = some T from h]
    rw [e]
    rcases kV_ref h with rfl | rfl | rfl <;> decide +kernel
  | non => cases h; show kitB _ _ = some false; decide +kernel
  | bl b => cases h; show kitB _ _ = some false; decide +kernel
  | int i => cases h; show kitB _ _ = some false; decide +kernel
  | str z => cases h; show kitB _ _ = some false; decide +kernel
  | _ => cases h
theorem kit_tuple {H : Hp} {v : V} {T : String} (h : kV H v = some T) : kitB T "tuple" = some (isT H v) := by
  cases v with
  | ref a =>
    have e : isT H (.ref a) = (some T == some "tuple") := by show (kO (H a) == some "tuple") = _; rw [show kO (H a) = some T from h]
    rw [e]
    rcases kV_ref h with rfl | rfl | rfl <;> decide +kernel
  | non => cases h; show kitB _ _ = some false; decide +kernel
  | bl b => cases h; show kitB _ _ = some false; decide +kernel
  | int i => cases h; show kitB _ _ = some false; decide +kernel
  | str z => cases h; show kitB _ _ = some false; decide +kernel
  | _ => cases h
theorem Plain.get {H : Hp} {v : V} (h : Plain H v) : ∃ T, kV H v = some T := Option.isSome_iff_exists.mp h
/-- isinstance(v, T), T a built-in class: f what it answers -/
def rIs (n : String) (f : Hp → V → Bool) : List V → Hp → VK → Prop := fun vs H Q => ∃ v, vs = [v, .ty n] ∧ Plain H v ∧ Q (.bl (f H v)) H
theorem call_is {X : Cx} {n : String} {f : Hp → V → Bool} (hk : ∀ {H : Hp} {v : V} {T : String}, kV H v = some T → kitB T n = some (f H v)) : CallR X (.builtin "isinstance") (rIs n f) :=
  callImp (r := rIsi X.K) call_isi fun vs H Q h => by
    obtain ⟨v, rfl, p, q⟩ := h
    obtain ⟨T, e⟩ := p.get
    exact ⟨v, .ty n, _, _, _, rfl, .ty n, kV_ty e, kit_ty (hk e), q⟩
theorem isi_int {X : Cx} : CallR X (.builtin "isinstance") (rIs "int" fun _ v => isI v || isB v) := call_is kit_int
theorem isi_bool {X : Cx} : CallR X (.builtin "isinstance") (rIs "bool" fun _ v => isB v) := call_is kit_bool
theorem isi_str {X : Cx} : CallR X (.builtin "isinstance") (rIs "str" fun _ v => isS v) := call_is kit_str
theorem isi_list {X : Cx} : CallR X (.builtin "isinstance") (rIs "list" isL) := call_is kit_list
theorem isi_tuple {X : Cx} : CallR X (.builtin "isinstance") (rIs "tuple" isT) := call_is kit_tuple
theorem plain_int {H : Hp} {i : Int} : Plain H (.int i) := rfl
theorem plain_str {H : Hp} {z : Str} : Plain H (.str z) := rfl
theorem plain_bl {H : Hp} {b : Bool} : Plain H (.bl b) := rfl
theorem plain_non {H : Hp} : Plain H .non := rfl
theorem plain_lst {H : Hp} {a : Addr} {xs : List V} (h : H a = some (.lst xs)) : Plain H (.ref a) := by show (kO (H a)).isSome = true; rw [h]; rfl
theorem plain_tup {H : Hp} {a : Addr} {xs : List V} (h : H a = some (.tup xs)) : Plain H (.ref a) := by show (kO (H a)).isSome = true; rw [h]; rfl
theorem plain_dK {H : Hp} {a : Addr} {kvs : List (L2.Key × V)} (h : H a = some (.dK kvs)) : Plain H (.ref a) := by show (kO (H a)).isSome = true; rw [h]; rfl
/-- what a look at a reference needs: its object stands as it stood -/
theorem kV_keep {H H' : Hp} {v : V} {T : String} (h : kV H v = some T) (k : ∀ a o, v = .ref a → H a = some o → H' a = some o) : kV H' v = some T := by
  cases v with
  | ref a =>
    have h : kO (H a) = some T := h
    show kO (H' a) = some T
    cases e : H a with
    | none => rw [e] at h; cases h
    | some o => rw [k a o rfl e, ← e]; exact h
  | _ => exact h
theorem Plain.keep {H H' : Hp} {v : V} (h : Plain H v) (k : ∀ a o, v = .ref a → H a = some o → H' a = some o) : Plain H' v := by
  obtain ⟨T, e⟩ := h.get
  unfold Plain
  rw [kV_keep e k]
  rfl

theorem start_cc {x : Str} {N : List Str} {v : V} {vs : List V} : L2.start (x :: N) (v :: vs) = some v :: L2.start N vs := by
  unfold L2.start
  rw [List.map_cons, List.cons_append, List.length_cons, List.length_cons, Nat.add_sub_add_right]
theorem start_cn {x : Str} {N : List Str} : L2.start (x :: N) [] = none :: L2.start N [] := rfl
theorem start_nn : L2.start [] [] = [] := rfl
theorem at_ofC {α : Type} {xs : List α} {z : Int} {j : Nat} {v : α} (e : z = (j : Int)) (h : xs[j]? = some v) : atI xs z = some v := by
  rw [e]
  exact atI_nat h
theorem ifB {b : Bool} {A B : Prop} (h1 : b = true → A) (h0 : b = false → B) : if b = true then A else B := by
  cases b with
  | true => exact h1 rfl
  | false => exact h0 rfl
theorem ifD {c A B : Prop} [Decidable c] (h1 : c → A) (h0 : ¬ c → B) : if decide c = true then A else B := by
  by_cases h : c
  · rw [decide_eq_true h]
    exact h1 h
  · rw [decide_eq_false h]
    exact h0 h
/-! ### comprehensions whose items are reckoned without a trace -/
theorem lcP {J : It} {n : Nat} {G : Hp → Prop} {Y : Nat → Hp → V → Hp → Prop} (w : Walk J n G Y) {tt : TT} {te : TE} {vs : List Nat} {σ : L2.St} {H : Hp} {Q : VK} {j : Nat} (xs : List V) (t : V → Bool) (g : V → V)
    (hl : xs.length = n) (hz : n < sizeLine) (hG : ∀ D acc, H D = none → G (upd H D (.lst acc))) (hY : ∀ i H x H', i < n → Y i H x H' → H' = H ∧ xs[i]? = some x)
    (hw : ∀ x, wipe ((wipe σ vs).set j (some x)) vs = wipe σ vs)
    (hT : ∀ x ∈ xs, ∀ H' (R : Bool → Hp → Prop), Same H H' → R (t x) H' → tt ((wipe σ vs).set j (some x)) H' R)
    (hE : ∀ x ∈ xs, t x = true → ∀ H' (R : VK), Same H H' → R (g x) H' → te ((wipe σ vs).set j (some x)) H' R)
    (k : ∀ D, H D = none → Q (.ref D) (upd H D (.lst ((xs.filter t).map g)))) :
    ∀ D, H D = none → ∃ W : Nat → Nat → Hp → Prop, (∃ m, W 0 m (upd H D (.lst []))) ∧ ∀ i m H, W i m H →
      (J.stop i H ∧ Q (.ref D) H) ∨ (J.go i H ∧ ∃ Nx : Hp → Prop, (∀ H', Nx H' → ∃ m', m' < m ∧ W (i + 1) m' H') ∧ ∀ x H', J.yld i H x H' → gName j x (wipe σ vs) H' fun σ2 H2 => wipe σ2 vs = wipe σ vs ∧ tt σ2 H2 fun b H3 =>
        if b = true then te σ2 H3 fun y H4 => ∃ acc, H4 D = some (.lst acc) ∧ acc.length < sizeLine ∧ Nx (upd H4 D (.lst (acc ++ [y]))) else Nx H3) := by
  intro D hD
  refine lc_it w (fun i H' => H' = upd H D (.lst (((xs.take i).filter t).map g))) rfl (fun i H' hi e => by rw [e]; exact hG D _ hD) (fun i x H1 H2 hi e y => ?_) (fun H' e => ?_)
  · obtain ⟨rfl, ex⟩ := hY i H1 x H2 hi y
    have mem : x ∈ xs := List.mem_of_getElem? ex
    have same : Same H H2 := by rw [e]; exact fun b o q => by rw [upd_ne (ne_of_none q hD)]; exact q
    have tk : xs.take (i + 1) = xs.take i ++ [x] := by rw [List.take_add_one, ex]; rfl
    refine ⟨hw x, hT x mem H2 _ same ?_⟩
    refine ifB (fun ht => ?_) (fun ht => ?_)
    · refine hE x mem ht H2 _ same ⟨_, by rw [e, upd_same], ?_, ?_⟩
      · rw [List.length_map]
        refine Nat.lt_of_le_of_lt (List.length_filter_le _ _) (Nat.lt_of_le_of_lt ?_ hz)
        rw [List.length_take]
        omega
      · rw [e, upd_upd, tk, List.filter_append, List.map_append, List.filter_cons, if_pos ht]
        rfl
    · rw [e, tk, List.filter_append, List.map_append, List.filter_cons, if_neg (by rw [ht]; exact Bool.false_ne_true)]
      rw [List.filter_nil, List.map_nil, List.append_nil]
  · rw [e, List.take_of_length_le (Nat.le_of_eq hl)]
    exact k D hD
def chV (c : Nat) : V := .str ⟨#[c]⟩
theorem its_items {z : Str} : ∀ (i : Nat) (H : Hp) (x : V) (H' : Hp), i < z.cps.size → (H' = H ∧ ∃ c, z.cps[i]? = some c ∧ x = .str ⟨#[c]⟩) → H' = H ∧ (z.cps.toList.map chV)[i]? = some x := by
  rintro i H x H' hi ⟨rfl, c, e, rfl⟩
  refine ⟨rfl, ?_⟩
  rw [List.getElem?_map, Array.getElem?_toList, e]
  rfl
theorem lcStr {z : Str} {tt : TT} {te : TE} {vs : List Nat} {σ : L2.St} {H : Hp} {Q : VK} {j : Nat} (t : V → Bool) (g : V → V) (hz : z.length < sizeLine)
    (hw : ∀ x, wipe ((wipe σ vs).set j (some x)) vs = wipe σ vs)
    (hT : ∀ c ∈ z.cps.toList, ∀ H' (R : Bool → Hp → Prop), Same H H' → R (t (chV c)) H' → tt ((wipe σ vs).set j (some (chV c))) H' R)
    (hE : ∀ c ∈ z.cps.toList, t (chV c) = true → ∀ H' (R : VK), Same H H' → R (g (chV c)) H' → te ((wipe σ vs).set j (some (chV c))) H' R)
    (k : ∀ D, H D = none → Q (.ref D) (upd H D (.lst (((z.cps.toList.map chV).filter t).map g)))) {te0 : TE} (h0 : ∀ R : VK, R (.str z) H → te0 σ H R) :
    tLc (iStr te0) (gName j) tt te vs σ H Q :=
  h0 _ ⟨z, rfl, lcP walk_str (z.cps.toList.map chV) t g (by rw [List.length_map, Array.length_toList]) hz (fun _ _ _ => trivial) its_items hw
    (fun x hx => by obtain ⟨c, hc, rfl⟩ := List.mem_map.mp hx; exact hT c hc) (fun x hx => by obtain ⟨c, hc, rfl⟩ := List.mem_map.mp hx; exact hE c hc) k⟩
/-! ### loops -/
theorem forR {ta : TA} {j : Nat} {tb : TS} {D : Ends} {σ : L2.St} {H : Hp} (n : Int) (hv : ∀ R : List V → Hp → Prop, R [.int n] H → ta σ H R) (h1 : -(2 ^ 62) ≤ n) (h2 : n < 2 ^ 62) (Pv : Nat → L2.St → Hp → Prop) (h0 : Pv 0 σ H)
    (hs : ∀ (i : Nat) σ' H', i < n.toNat → Pv i σ' H' → tb ⟨Pv (i + 1), D.rt, D.nx, Pv (i + 1)⟩ (σ'.set j (some (.int (i : Int)))) H') (hd : ∀ σ' H', Pv n.toNat σ' H' → D.nx σ' H') : tFor (iRng1 ta) (gName j) tb D σ H :=
  hv _ ⟨n, rfl, h1, h2, for_range (lo := 0) (n := n.toNat) Pv h0 (fun i σ' H' hi p => by
    show tb _ (σ'.set j (some (.int (0 + (i : Int))))) H'
    rw [Int.zero_add]
    exact hs i σ' H' hi p) hd⟩
theorem forL {K : PySem.W.Frag} {tl : TE} {j : Nat} {tb : TS} {D : Ends} {σ : L2.St} {H : Hp} (a : Addr) (xs : List V) (hv : ∀ R : VK, R (.ref a) H → tl σ H R) (hx : SqL K H a xs) (Pv : Nat → L2.St → Hp → Prop) (h0 : Pv 0 σ H)
    (hl : ∀ i σ' H', i ≤ xs.length → Pv i σ' H' → SqL K H' a xs) (hs : ∀ i x σ' H', xs[i]? = some x → Pv i σ' H' → tb ⟨Pv (i + 1), D.rt, D.nx, Pv (i + 1)⟩ (σ'.set j (some x)) H') (hd : ∀ σ' H', Pv xs.length σ' H' → D.nx σ' H') : tFor (iList K tl) (gName j) tb D σ H :=
  hv _ ⟨a, rfl, ⟨xs, hx⟩, for_list Pv h0 hl (fun i x σ' H' e p => hs i x σ' H' e p) hd⟩
theorem forT {K : PySem.W.Frag} {tl : TE} {j : Nat} {tb : TS} {D : Ends} {σ : L2.St} {H H1 : Hp} (a : Addr) (xs : List V) (hv : ∀ R : VK, R (.ref a) H1 → tl σ H R) (hx : SqT K H1 a xs) (Pv : Nat → L2.St → Hp → Prop) (h0 : Pv 0 σ H1)
    (hl : ∀ i σ' H', i ≤ xs.length → Pv i σ' H' → SqT K H' a xs) (hs : ∀ i x σ' H', xs[i]? = some x → Pv i σ' H' → tb ⟨Pv (i + 1), D.rt, D.nx, Pv (i + 1)⟩ (σ'.set j (some x)) H') (hd : ∀ σ' H', Pv xs.length σ' H' → D.nx σ' H') : tFor (iTup K tl) (gName j) tb D σ H :=
  hv _ ⟨a, rfl, ⟨xs, hx⟩, for_tup Pv h0 hl (fun i x σ' H' e p => hs i x σ' H' e p) hd⟩
theorem forS {te : TE} {j : Nat} {tb : TS} {D : Ends} {σ : L2.St} {H : Hp} (z : Str) (hv : ∀ R : VK, R (.str z) H → te σ H R) (Pv : Nat → L2.St → Hp → Prop) (h0 : Pv 0 σ H)
    (hs : ∀ (i : Nat) c σ' H', z.cps[i]? = some c → Pv i σ' H' → tb ⟨Pv (i + 1), D.rt, D.nx, Pv (i + 1)⟩ (σ'.set j (some (chV c))) H') (hd : ∀ σ' H', Pv z.cps.size σ' H' → D.nx σ' H') : tFor (iStr te) (gName j) tb D σ H :=
  hv _ ⟨z, rfl, for_it walk_str Pv h0 (fun _ _ _ _ _ => trivial) (fun i x σ' H1 H2 hi p ⟨e1, c, e2, e3⟩ => by
    subst e1 e3
    exact hs i c σ' _ e2 p) hd⟩
/-! what is walked, reckoned first -/
theorem forT_eq {K : PySem.W.Frag} {tl : TE} {g : TG} {tb : TS} {D : Ends} {σ : L2.St} {H : Hp} : tFor (iTup K tl) g tb D σ H = tl σ H fun x H1 => tFor (iTup K (tC x)) g tb D σ H1 := rfl
theorem forL_eq {K : PySem.W.Frag} {tl : TE} {g : TG} {tb : TS} {D : Ends} {σ : L2.St} {H : Hp} : tFor (iList K tl) g tb D σ H = tl σ H fun x H1 => tFor (iList K (tC x)) g tb D σ H1 := rfl
theorem lcL_eq {K : PySem.W.Frag} {tl : TE} {g : TG} {tt : TT} {te : TE} {vs : List Nat} {σ : L2.St} {H : Hp} {Q : VK} : tLc (iList K tl) g tt te vs σ H Q = tl σ H fun x H1 => tLc (iList K (tC x)) g tt te vs σ H1 Q := rfl
theorem lcT_eq {K : PySem.W.Frag} {tl : TE} {g : TG} {tt : TT} {te : TE} {vs : List Nat} {σ : L2.St} {H : Hp} {Q : VK} : tLc (iTup K tl) g tt te vs σ H Q = tl σ H fun x H1 => tLc (iTup K (tC x)) g tt te vs σ H1 Q := rfl
/-! ### readings opened at known values -/
section
variable {H : Hp} {Q : VK} {i j : Int} {a b : Addr} {y z : Str}
theorem rAdd_int : rAdd (.int i) (.int j) H Q = Q (.int (i + j)) H := rfl
theorem rAdd_str : rAdd (.str y) (.str z) H Q = (y.length + z.length ≤ sizeLine ∧ Q (.str (y ++ z)) H) := rfl
theorem rAdd_ref : rAdd (.ref a) (.ref b) H Q = (∃ xs ys, lsM (H a) = some xs ∧ lsM (H b) = some ys ∧ xs.length + ys.length ≤ sizeLine ∧ ∀ p, H p = none → Q (.ref p) (upd H p (.lst (xs ++ ys)))) := rfl
theorem rIxU_ref : rIxU (.ref a) (.int i) H Q = (∃ xs v, sqO (H a) = some xs ∧ atI xs i = some v ∧ Q v H) := rfl
theorem rIxU_str : rIxU (.str z) (.int i) H Q = (z.length ≤ sizeLine ∧ ∃ c, atI z.cps.toList i = some c ∧ Q (.str ⟨#[c]⟩) H) := rfl
theorem rLenU_ref : rLenU [.ref a] H Q = (∃ xs, sqO (H a) = some xs ∧ Q (.int xs.length) H) := rfl
theorem rLenU_str : rLenU [.str z] H Q = (z.length ≤ sizeLine ∧ Q (.int z.length) H) := rfl
end
theorem rEq_int {H : Hp} {Q : VK} {i j : Int} : rEq (.int i) (.int j) H Q = Q (.bl (decide (i = j))) H := by
  unfold rEq
  rw [show scal (.int i) (.int j) = true from rfl, show decide (V.int i = V.int j) = decide (i = j) from decide_eq_decide.mpr ⟨V.int.inj, congrArg V.int⟩]
  exact propext ⟨fun h => h.2, fun h => ⟨rfl, h⟩⟩
theorem rNe_int {H : Hp} {Q : VK} {i j : Int} : rNe (.int i) (.int j) H Q = Q (.bl (!decide (i = j))) H := by
  unfold rNe
  rw [show scal (.int i) (.int j) = true from rfl, show decide (V.int i = V.int j) = decide (i = j) from decide_eq_decide.mpr ⟨V.int.inj, congrArg V.int⟩]
  exact propext ⟨fun h => h.2, fun h => ⟨rfl, h⟩⟩
theorem rEq_str {H : Hp} {Q : VK} {i j : Str} : rEq (.str i) (.str j) H Q = Q (.bl (decide (i = j))) H := by
  unfold rEq
  rw [show scal (.str i) (.str j) = true from rfl, show decide (V.str i = V.str j) = decide (i = j) from decide_eq_decide.mpr ⟨V.str.inj, congrArg V.str⟩]
  exact propext ⟨fun h => h.2, fun h => ⟨rfl, h⟩⟩
theorem rNe_str {H : Hp} {Q : VK} {i j : Str} : rNe (.str i) (.str j) H Q = Q (.bl (!decide (i = j))) H := by
  unfold rNe
  rw [show scal (.str i) (.str j) = true from rfl, show decide (V.str i = V.str j) = decide (i = j) from decide_eq_decide.mpr ⟨V.str.inj, congrArg V.str⟩]
  exact propext ⟨fun h => h.2, fun h => ⟨rfl, h⟩⟩
theorem sm20 {n : Nat} (h : n ≤ 100) : n ≤ sizeLine := Nat.le_trans h (by decide)
/-- int(n) -/
def rIntI : List V → Hp → VK → Prop := fun vs H Q => ∃ i, vs = [.int i] ∧ Q (.int i) H
theorem call_intI {X : Cx} : CallR X (.type "int") rIntI := callImp call_int1 fun vs H Q h => .inl h
/-- int(b) -/
def rIntB : List V → Hp → VK → Prop := fun vs H Q => ∃ b, vs = [.bl b] ∧ Q (.int (if b then 1 else 0)) H
theorem call_intB {X : Cx} : CallR X (.type "int") rIntB := callImp call_int1 fun vs H Q h => .inr h
/-! ### lists of texts as data -/
def toD : V → PyData | .str z => .str z | .int i => .int i | .bl b => .bool b | _ => .none
def strsOk (xs : List V) : Prop := ∀ x ∈ xs, ∃ z : Str, x = .str z ∧ PyData.strOk z = true
theorem dp_strs {K : PySem.W.Frag} {H : Hp} : ∀ {xs : List V}, strsOk xs → DpAll K H xs (xs.map toD)
  | [], _ => .nil
  | x :: xs, h => by
    obtain ⟨z, rfl, _⟩ := h x (List.mem_cons_self ..)
    exact .cons (.str z) (dp_strs fun y hy => h y (List.mem_cons_of_mem _ hy))
theorem strs_can : ∀ {xs : List V}, strsOk xs → PyData.canLayAll0 (xs.map toD) = true ∧ PyData.depthAll (xs.map toD) = 0
  | [], _ => by simp only [List.map_nil, PyData.canLayAll0, PyData.depthAll, and_self]
  | x :: xs, h => by
    obtain ⟨z, rfl, e⟩ := h x (List.mem_cons_self ..)
    obtain ⟨h1, h2⟩ := strs_can (xs := xs) fun y hy => h y (List.mem_cons_of_mem _ hy)
    simp only [List.map_cons, toD, PyData.canLayAll0, PyData.depthAll, PyData.canLay0, PyData.depth, e, h1, h2, Bool.and_self, Nat.max_self, and_self]
theorem strs_shaped {xs : List V} (h : strsOk xs) : SeqAt.shaped (.list (xs.map toD)) = true := by
  obtain ⟨h1, h2⟩ := strs_can h
  simp only [SeqAt.shaped, PyData.canLay0, PyData.depth, h1, h2, Bool.true_and]
  decide
theorem nil_shaped : SeqAt.shaped (.list []) = true := by
  simp only [SeqAt.shaped, PyData.canLay0, PyData.depth, PyData.canLayAll0, PyData.depthAll, Bool.true_and]
  decide
theorem eqv_nil {ds : List PyData} : PyData.eqv (.list ds) (.list []) = ds.isEmpty := by cases ds <;> simp only [PyData.eqv, PyData.eqvAll, List.isEmpty]
/-- == of a list of texts and an empty list -/
theorem eq_strs_nil {K : PySem.W.Frag} {H : Hp} {a b : Addr} {xs : List V} {Q : VK} (ha : H a = some (.lst xs)) (hb : H b = some (.lst [])) (hx : strsOk xs) (q : Q (.bl xs.isEmpty) H) : rEqD K (.ref a) (.ref b) H Q :=
  ⟨.list (xs.map toD), .list [], .lst (.inl (.inl ha)) (dp_strs hx), .lst (.inl (.inl hb)) .nil, strs_shaped hx, nil_shaped, by rw [eqv_nil]; cases xs <;> exact q⟩
theorem strOk_ch {z : Str} (h : PyData.strOk z = true) {c : Nat} (m : c ∈ z.cps.toList) : PyData.strOk (⟨#[c]⟩ : Str) = true := by
  unfold PyData.strOk at h ⊢
  have h2 := Array.all_eq_true'.mp h c (by simpa using m)
  simpa using h2
theorem Same.trans' {H H1 H2 : Hp} (a : Same H H1) (b : Same H1 H2) : Same H H2 := fun c o h => b c o (a c o h)
/-! ### the law's generator of draws: a list of two numbers -/
def RngO (o : HO) : Prop := ∃ a b : Int, o = .lst [.int a, .int b] ∧ 0 ≤ a ∧ 0 ≤ b ∧ b < 2147483648
def RngAt (H : Hp) (r : Addr) : Prop := NoDT H ∧ ∃ o, H r = some o ∧ RngO o
theorem RngO.ndt {o : HO} (h : RngO o) : ndt o = true := by obtain ⟨a, b, rfl, _⟩ := h; rfl
theorem RngO.cl {o : HO} (h : RngO o) (H G : Hp) : Cl H G o := by obtain ⟨a, b, rfl, _⟩ := h; trivial
theorem RngAt.set {H : Hp} {r : Addr} {o : HO} (h : RngAt H r) (n : RngO o) : RngAt (upd H r o) r := ⟨h.1.upd n.ndt, o, upd_same, n⟩
theorem RngAt.new {H : Hp} {r p : Addr} {o : HO} (h : RngAt H r) (hp : H p = none) (n : ndt o = true) : RngAt (upd H p o) r := by
  obtain ⟨d, u, e, q⟩ := h
  exact ⟨d.upd n, u, by rw [upd_ne (ne_of_none e hp)]; exact e, q⟩
theorem KeepX.refl {r : Addr} {H : Hp} : KeepX r H H := fun _ _ _ q => q
theorem KeepX.trans {r : Addr} {H H1 H2 : Hp} (a : KeepX r H H1) (b : KeepX r H1 H2) : KeepX r H H2 := fun c o n h => b c o n (a c o n h)
theorem KeepX.set {r : Addr} {H : Hp} {o : HO} : KeepX r H (upd H r o) := fun c u n h => by rw [upd_ne n]; exact h
theorem KeepX.new {r p : Addr} {H : Hp} {o : HO} (hp : H p = none) : KeepX r H (upd H p o) := fun c u n h => by rw [upd_ne (ne_of_none h hp)]; exact h
theorem Same.new {p : Addr} {H : Hp} {o : HO} (hp : H p = none) : Same H (upd H p o) := fun c u h => by rw [upd_ne (ne_of_none h hp)]; exact h
theorem Same.keepX {r : Addr} {H H' : Hp} (s : Same H H') : KeepX r H H' := fun c o _ h => s c o h
/-- a drawn value: plain, and not the generator itself -/
def Sm : V → Prop | .str z => z.length ≤ 100000 ∧ PyData.strOk z = true | _ => True
def Pl (H : Hp) (r : Addr) (v : V) : Prop := Plain H v ∧ v ≠ .ref r ∧ Sm v
theorem Pl.keep {H H' : Hp} {r : Addr} {v : V} (h : Pl H r v) (k : KeepX r H H') : Pl H' r v := ⟨h.1.keep fun a o e q => k a o (fun z => h.2.1 (by rw [e, z])) q, h.2⟩
theorem pl_int {H : Hp} {r : Addr} {i : Int} : Pl H r (.int i) := ⟨rfl, (fun z => nomatch z), trivial⟩
theorem pl_str {H : Hp} {r : Addr} {i : Str} (h : i.length ≤ 100000) (h2 : PyData.strOk i = true) : Pl H r (.str i) := ⟨rfl, (fun z => nomatch z), h, h2⟩
theorem pl_bl {H : Hp} {r : Addr} {i : Bool} : Pl H r (.bl i) := ⟨rfl, (fun z => nomatch z), trivial⟩
theorem pl_non {H : Hp} {r : Addr} : Pl H r .non := ⟨rfl, (fun z => nomatch z), trivial⟩
theorem pl_lst {H : Hp} {r a : Addr} {xs : List V} (h : H a = some (.lst xs)) (n : a ≠ r) : Pl H r (.ref a) := ⟨plain_lst h, fun z => n (V.ref.inj z), trivial⟩
theorem pl_tup {H : Hp} {r a : Addr} {xs : List V} (h : H a = some (.tup xs)) (n : a ≠ r) : Pl H r (.ref a) := ⟨plain_tup h, fun z => n (V.ref.inj z), trivial⟩
theorem pl_dK {H : Hp} {r a : Addr} {xs : List (L2.Key × V)} (h : H a = some (.dK xs)) (n : a ≠ r) : Pl H r (.ref a) := ⟨plain_dK h, fun z => n (V.ref.inj z), trivial⟩
theorem Plain.same {H H' : Hp} {v : V} (h : Plain H v) (e : Same H H') : Plain H' v := h.keep fun a o _ q => e a o q
/-- a generator made anew, then drawn from: what stood ahead of it stands -/
theorem same_made {H H' : Hp} {r : Addr} {o : HO} (hr : H r = none) (k : KeepX r (upd H r o) H') : Same H H' := fun b u e => k b u (ne_of_none e hr) (by rw [upd_ne (ne_of_none e hr)]; exact e)
theorem RngAt.ne {H : Hp} {r p : Addr} (h : RngAt H r) (hp : H p = none) : p ≠ r := by
  obtain ⟨_, o, e, _⟩ := h
  exact (ne_of_none e hp).symm
/-! ### what the law's own helpers promise -/
theorem log2_small {m : Int} (h : m.natAbs < 2 ^ 63) : m.natAbs.log2 < 9000 := by
  by_cases h0 : m.natAbs = 0
  · rw [h0]; decide
  · have := (Nat.log2_lt h0).mpr h
    omega
def spRngMk (K : PySem.W.Frag) : Sp := fun vs H Q _ => ∃ x y, vs = [x, y] ∧ ∃ (a : Addr) (k : Int) (ns : List Int), x = .ref a ∧ y = .int k ∧ SqL K H a (ns.map V.int) ∧ 0 ≤ k ∧ k ≤ 100 ∧ ∀ p o, H p = none → RngO o → Q (.ref p) (upd H p o)
theorem cube_le {k : Int} (h0 : 0 ≤ k) (h1 : k ≤ 100) : 0 ≤ (k + 3) ^ Int.toNat 3 ∧ (k + 3) ^ Int.toNat 3 ≤ 1092727 := by
  have e : (k + 3) ^ Int.toNat 3 = (k + 3) * (k + 3) * (k + 3) := by show (k + 3) ^ 3 = _; rw [Int.pow_succ, Int.pow_succ, Int.pow_succ, Int.pow_zero, Int.one_mul]
  rw [e]
  have a1 : 0 ≤ (k + 3) * (k + 3) := Int.mul_nonneg (by omega) (by omega)
  have a2 : (k + 3) * (k + 3) ≤ 103 * 103 := Int.mul_le_mul (by omega) (by omega) (by omega) (by omega)
  exact ⟨Int.mul_nonneg a1 (by omega), Int.le_trans (Int.mul_le_mul a2 (show k + 3 ≤ 103 by omega) (by omega) (by omega)) (by decide)⟩
def spDraw : Sp := fun vs H Q _ => ∃ x y, vs = [x, y] ∧ ∃ (r : Addr) (m : Int), x = .ref r ∧ y = .int m ∧ RngAt H r ∧ 1 ≤ m ∧ m.natAbs.log2 < 9000 ∧ ∀ d H', 0 ≤ d → d < m → KeepX r H H' → RngAt H' r → Q (.int d) H'
theorem useDraw {r : Addr} {m : Int} {H : Hp} {R : VK} {E : XK} (hR : RngAt H r) (m1 : 1 ≤ m) (m2 : m.natAbs < 2 ^ 63) (k : ∀ d H', 0 ≤ d → d < m → KeepX r H H' → RngAt H' r → R (.int d) H') : spDraw [.ref r, .int m] H R E :=
  ⟨_, _, rfl, r, m, rfl, rfl, hR, m1, log2_small m2, k⟩
theorem useDrawB {r : Addr} {m : Int} {H : Hp} {R : VK} {E : XK} (hR : RngAt H r) (m1 : 1 ≤ m) (m2 : m.natAbs.log2 < 9000) (k : ∀ d H', 0 ≤ d → d < m → KeepX r H H' → RngAt H' r → R (.int d) H') : spDraw [.ref r, .int m] H R E :=
  ⟨_, _, rfl, r, m, rfl, rfl, hR, m1, m2, k⟩
def spChoice : Sp := fun vs H Q _ => ∃ x y, vs = [x, y] ∧ ∃ (r l : Addr) (xs : List V), x = .ref r ∧ y = .ref l ∧ l ≠ r ∧ RngAt H r ∧ H l = some (.lst xs) ∧ 0 < xs.length ∧ xs.length ≤ 1000 ∧ ∀ v H', v ∈ xs → KeepX r H H' → RngAt H' r → Q v H'
def spPow : Sp := fun vs H Q _ => ∃ v, vs = [v] ∧ ∃ n : Int, v = .int n ∧ 0 ≤ n ∧ n ≤ 1000 ∧ Q (.int (2 ^ n.toNat)) H
def spOdd : Sp := fun vs H Q _ => ∃ x, vs = [x] ∧ ∃ (r : Addr), x = .ref r ∧ RngAt H r ∧ ∀ v H', Pl H' r v → KeepX r H H' → RngAt H' r → Q v H'
/-! ### texts glued from signs -/
def chS (c : Nat) : Str := ⟨#[c]⟩
theorem join_ch : ∀ cs : List Nat, (Txt.join (Str.ofString "") (cs.map chS)).cps = cs.toArray := by
  intro cs
  rw [show Str.ofString "" = (⟨#[]⟩ : Str) by decide +kernel, show Txt.join (⟨#[]⟩ : Str) (cs.map chS) = Str.join ⟨#[]⟩ (cs.map chS) from PySem.StrLaws.glued_eq_join _ _]
  induction cs with
  | nil => rfl
  | cons c r ih =>
    cases r with
    | nil => rfl
    | cons d r =>
      show (chS c ++ (⟨#[]⟩ : Str) ++ Str.join ⟨#[]⟩ ((d :: r).map chS)).cps = _
      rw [Str.cps_append, Str.cps_append, ih]
      simp [chS]
theorem ch_list {p : Nat → Prop} : ∀ {xs : List V}, (∀ x ∈ xs, ∃ c, x = chV c ∧ p c) → ∃ cs : List Nat, xs = cs.map chV ∧ ∀ c ∈ cs, p c
  | [], _ => ⟨[], rfl, fun c h => (List.not_mem_nil h).elim⟩
  | x :: xs, h => by
    obtain ⟨c, rfl, pc⟩ := h x (List.mem_cons_self ..)
    obtain ⟨cs, rfl, pcs⟩ := ch_list (xs := xs) fun y hy => h y (List.mem_cons_of_mem _ hy)
    refine ⟨c :: cs, rfl, fun d hd => ?_⟩
    rcases List.mem_cons.mp hd with rfl | hd
    · exact pc
    · exact pcs d hd
theorem ch_sum : ∀ cs : List Nat, ((cs.map chS).map (·.length)).sum = cs.length
  | [] => rfl
  | c :: cs => by
    rw [List.map_cons, List.map_cons, List.sum_cons, ch_sum cs, List.length_cons]
    show 1 + cs.length = cs.length + 1
    omega
theorem ch_V (cs : List Nat) : (cs.map chS).map V.str = cs.map chV := by rw [List.map_map]; rfl
theorem join_len (cs : List Nat) : (Txt.join (Str.ofString "") (cs.map chS)).length = cs.length := by
  show (Txt.join (Str.ofString "") (cs.map chS)).cps.size = _
  rw [join_ch]
  simp
theorem join_ok {cs : List Nat} (h : ∀ c ∈ cs, c < 0x110000) : PyData.strOk (Txt.join (Str.ofString "") (cs.map chS)) = true := by
  unfold PyData.strOk
  rw [join_ch]
  refine Array.all_eq_true'.mpr fun c hc => ?_
  exact decide_eq_true (h c (by simpa using hc))
theorem strOk_mem {z : Str} (h : PyData.strOk z = true) {c : Nat} (m : c ∈ z.cps.toList) : c < 0x110000 := by
  unfold PyData.strOk at h
  exact of_decide_eq_true (Array.all_eq_true'.mp h c (by simpa using m))
theorem str_at {z : Str} {d : Int} (h0 : 0 ≤ d) (h1 : d < z.length) : ∃ c, atI z.cps.toList d = some c ∧ c ∈ z.cps.toList := by
  have hl : d.toNat < z.cps.toList.length := by
    rw [Array.length_toList]
    have : (z.length : Int) = (z.cps.size : Int) := rfl
    omega
  exact ⟨z.cps.toList[d.toNat], at_ofC (by omega) (List.getElem?_eq_getElem hl), List.getElem_mem hl⟩
/-- a comprehension over range(n) whose items are drawn -/
theorem lcDraw {r : Addr} {ta : TA} {te : TE} {vs : List Nat} {σ : L2.St} {H : Hp} {Q : VK} {j : Nat} (n : Int) (hv : ∀ R : List V → Hp → Prop, R [.int n] H → ta σ H R) (h1 : -(2 ^ 62) ≤ n) (h2 : n ≤ 100000) (P : V → Prop) (hR : RngAt H r)
    (hw : ∀ x, wipe ((wipe σ vs).set j (some x)) vs = wipe σ vs)
    (hE : ∀ (i : Nat) H', i < n.toNat → KeepX r H H' → RngAt H' r → ∀ R : VK, (∀ v H2, P v → KeepX r H' H2 → RngAt H2 r → R v H2) → te ((wipe σ vs).set j (some (.int (i : Int)))) H' R)
    (k : ∀ D H' xs, xs.length = n.toNat → (∀ x ∈ xs, P x) → H D = none → H' D = some (.lst xs) → KeepX r H H' → RngAt H' r → Q (.ref D) H') : tLc (iRng1 ta) (gName j) tYes te vs σ H Q :=
  hv _ ⟨n, rfl, h1, by omega, fun D hD => by
    have hDr := hR.ne hD
    refine lc_it (walk_range (lo := 0) (n := n.toNat)) (fun i H' => ∃ xs, xs.length = i ∧ (∀ x ∈ xs, P x) ∧ H' D = some (.lst xs) ∧ KeepX r H H' ∧ RngAt H' r) ⟨[], rfl, fun x h => (List.not_mem_nil h).elim, upd_same, KeepX.new hD, hR.new hD rfl⟩ (fun _ _ _ _ => trivial) ?_ ?_
    · rintro i x H1 H2 hi ⟨xs, l1, l2, l3, l4, l5⟩ ⟨e1, e2⟩
      subst e1
      have e3 : x = .int (i : Int) := by rw [e2]; show V.int (0 + (i : Int)) = _; rw [Int.zero_add]
      subst e3
      refine ⟨hw _, ?_⟩
      simp only [tYes, ↓reduceIte]
      refine hE i _ hi l4 l5 _ fun v H3 pv k3 R3 => ⟨xs, k3 D _ hDr l3, ?_, xs ++ [v], by rw [List.length_append, l1]; rfl, fun x hx => ?_, upd_same, fun c o nc e => ?_, ?_⟩
      · have : i < 100000 := by omega
        rw [l1]
        exact Nat.lt_of_lt_of_le this (by decide)
      · rcases List.mem_append.mp hx with h | h
        · exact l2 x h
        · rw [List.mem_singleton.mp h]
          exact pv
      · rw [upd_ne (ne_of_none e hD)]
        exact k3 c o nc (l4 c o nc e)
      · obtain ⟨nd, o, e, q⟩ := R3
        exact ⟨nd.upd rfl, o, by rw [upd_ne hDr.symm]; exact e, q⟩
    · rintro H' ⟨xs, l1, l2, l3, l4, l5⟩
      exact k D H' xs l1 l2 hD l3 l4 l5⟩
/-! ### from the head's facts -/
theorem fun_of_D {K : PySem.W.Frag} {x qual : Str} {st : Stmt} {kws : List (Str × V)} {f : Addr} {fd : FuncData} (F : FunD K x qual (defArgs st) (defBody st) (defScope st) [] kws f fd) : Fun K x qual st f fd := by
  obtain ⟨oc, od, dV, kV, doc, pm, an, cdv, ct, osl, e, lk, hcd, hD, _⟩ := F.ex
  rcases hD with ⟨_, rfl⟩ | ⟨z, _⟩
  · exact ⟨⟨oc, od, kV, doc, pm, an, cdv, ct, osl, e, lk, hcd⟩, F.kp⟩
  · exact absurd rfl z
theorem fun_bindsA {K : PySem.W.Frag} {x qual : Str} {st : Stmt} {f : Addr} {fd : FuncData} {ps : List Str} (F : Fun K x qual st f fd)
    (h : ∀ (kV doc pm : Value) (an : Option Addr) (cdv ct : Value) (us : List Value), us.length = ps.length → bindArgs (PySem.W.fnOf x qual (defArgs st) (defBody st) (defScope st) .none kV doc pm an cdv ct) ⟨us, []⟩ = pure (ps.zip us)) (s : Shared) (us : List Value) (hl : us.length = ps.length) : BindsTo s fd ⟨us, []⟩ (ps.zip us) := by
  obtain ⟨oc, od, kV, doc, pm, an, cdv, ct, osl, rfl, lk, hcd⟩ := F.ex
  exact .of_eq (h kV doc pm an cdv ct us hl)
end Cv

namespace K11
open PySem PySem.Spec PyProof.Rows L2 Cv
def topS (i : Nat) : Stmt := PySem.Challenge.pw_coverstore_k11_bits_values_ranges.main.body.getD i (.Pass ⟨0, 0, 0, 0⟩)
abbrev s_is_integer : Stmt := topS 3
abbrev N_is_integer : List Str := ["value"]
theorem sc_is_integer : FnScope N_is_integer ["value"] (defScope s_is_integer) := ⟨rfl, rfl, rfl, by decide +kernel, rfl, by decide +kernel, by decide +kernel⟩
abbrev s_is_bits : Stmt := topS 4
abbrev N_is_bits : List Str := ["value"]
theorem sc_is_bits : FnScope N_is_bits ["value"] (defScope s_is_bits) := ⟨rfl, rfl, rfl, by decide +kernel, rfl, by decide +kernel, by decide +kernel⟩
abbrev s_is_value : Stmt := topS 5
abbrev N_is_value : List Str := ["value", "bits"]
theorem sc_is_value : FnScope N_is_value ["value", "bits"] (defScope s_is_value) := ⟨rfl, rfl, rfl, by decide +kernel, rfl, by decide +kernel, by decide +kernel⟩
abbrev s_is_range : Stmt := topS 6
abbrev N_is_range : List Str := ["value", "bits", "digit"]
theorem sc_is_range : FnScope N_is_range ["value", "bits"] (defScope s_is_range) := ⟨rfl, rfl, rfl, by decide +kernel, rfl, by decide +kernel, by decide +kernel⟩
abbrev s__law_rng : Stmt := topS 8
abbrev N__law_rng : List Str := ["_law_script", "_law_k", "_law_cell"]
theorem sc__law_rng : FnScope N__law_rng ["_law_script", "_law_k"] (defScope s__law_rng) := ⟨rfl, rfl, rfl, by decide +kernel, rfl, by decide +kernel, by decide +kernel⟩
abbrev s__law_draw : Stmt := topS 9
abbrev N__law_draw : List Str := ["_law_rng_here", "_law_many", "_law_digit", "_law_mixed"]
theorem sc__law_draw : FnScope N__law_draw ["_law_rng_here", "_law_many"] (defScope s__law_draw) := ⟨rfl, rfl, rfl, by decide +kernel, rfl, by decide +kernel, by decide +kernel⟩
abbrev s__law_choice : Stmt := topS 10
abbrev N__law_choice : List Str := ["_law_rng_here", "_law_options"]
theorem sc__law_choice : FnScope N__law_choice ["_law_rng_here", "_law_options"] (defScope s__law_choice) := ⟨rfl, rfl, rfl, by decide +kernel, rfl, by decide +kernel, by decide +kernel⟩
abbrev s__law_is_integer : Stmt := topS 11
abbrev N__law_is_integer : List Str := ["_law_thing_here"]
theorem sc__law_is_integer : FnScope N__law_is_integer ["_law_thing_here"] (defScope s__law_is_integer) := ⟨rfl, rfl, rfl, by decide +kernel, rfl, by decide +kernel, by decide +kernel⟩
abbrev s__law_power : Stmt := topS 12
abbrev N__law_power : List Str := ["_law_many", "_law_found", "_law_turn"]
theorem sc__law_power : FnScope N__law_power ["_law_many"] (defScope s__law_power) := ⟨rfl, rfl, rfl, by decide +kernel, rfl, by decide +kernel, by decide +kernel⟩
abbrev s__law_is_bits : Stmt := topS 13
abbrev N__law_is_bits : List Str := ["_law_thing_here"]
theorem sc__law_is_bits : FnScope N__law_is_bits ["_law_thing_here"] (defScope s__law_is_bits) := ⟨rfl, rfl, rfl, by decide +kernel, rfl, by decide +kernel, by decide +kernel⟩
abbrev s__law_is_value : Stmt := topS 14
abbrev N__law_is_value : List Str := ["_law_thing_here", "_law_many"]
theorem sc__law_is_value : FnScope N__law_is_value ["_law_thing_here", "_law_many"] (defScope s__law_is_value) := ⟨rfl, rfl, rfl, by decide +kernel, rfl, by decide +kernel, by decide +kernel⟩
abbrev s__law_is_range : Stmt := topS 15
abbrev N__law_is_range : List Str := ["_law_thing_here", "_law_many", "_law_sign"]
theorem sc__law_is_range : FnScope N__law_is_range ["_law_thing_here", "_law_many"] (defScope s__law_is_range) := ⟨rfl, rfl, rfl, by decide +kernel, rfl, by decide +kernel, by decide +kernel⟩
abbrev s__law_odd : Stmt := topS 16
abbrev N__law_odd : List Str := ["_law_rng_here", "_law_some"]
theorem sc__law_odd : FnScope N__law_odd ["_law_rng_here"] (defScope s__law_odd) := ⟨rfl, rfl, rfl, by decide +kernel, rfl, by decide +kernel, by decide +kernel⟩
abbrev s__law_bits : Stmt := topS 17
abbrev N__law_bits : List Str := ["_law_rng_here", "_law_way"]
theorem sc__law_bits : FnScope N__law_bits ["_law_rng_here"] (defScope s__law_bits) := ⟨rfl, rfl, rfl, by decide +kernel, rfl, by decide +kernel, by decide +kernel⟩
abbrev s__law_thing : Stmt := topS 18
abbrev N__law_thing : List Str := ["_law_rng_here", "_law_many", "_law_size", "_law_some"]
theorem sc__law_thing : FnScope N__law_thing ["_law_rng_here", "_law_many"] (defScope s__law_thing) := ⟨rfl, rfl, rfl, by decide +kernel, rfl, by decide +kernel, by decide +kernel⟩
abbrev s__law_text : Stmt := topS 19
abbrev N__law_text : List Str := ["_law_rng_here", "_law_many", "_law_length", "_law_signs", "_law_k"]
theorem sc__law_text : FnScope N__law_text ["_law_rng_here", "_law_many"] (defScope s__law_text) := ⟨rfl, rfl, rfl, by decide +kernel, rfl, by decide +kernel, by decide +kernel⟩
abbrev s__law_right : Stmt := topS 20
abbrev N__law_right : List Str := ["_law_many", "_law_thing_here", "_law_told", "_law_due"]
theorem sc__law_right : FnScope N__law_right ["_law_many", "_law_thing_here"] (defScope s__law_right) := ⟨rfl, rfl, rfl, by decide +kernel, rfl, by decide +kernel, by decide +kernel⟩
abbrev s_law : Stmt := topS 21
abbrev N_law : List Str := ["_law_script", "_law_k", "_law_rng_here", "_law_turn", "_law_many", "_law_thing_here"]
theorem sc_law : FnScope N_law ["_law_script"] (defScope s_law) := ⟨rfl, rfl, rfl, by decide +kernel, rfl, by decide +kernel, by decide +kernel⟩
/-- what the text has written: where each def stands, which names are still the built-in ones -/
structure All (K : PySem.W.Frag) (mg : Str → Option Value) where
  f_is_integer : Addr
  fd_is_integer : FuncData
  F_is_integer : Fun K "is_integer" "is_integer" s_is_integer f_is_integer fd_is_integer
  g_is_integer : mg "is_integer" = some (.ref f_is_integer)
  b_is_integer : Binds K fd_is_integer ["value"] []
  f_is_bits : Addr
  fd_is_bits : FuncData
  F_is_bits : Fun K "is_bits" "is_bits" s_is_bits f_is_bits fd_is_bits
  g_is_bits : mg "is_bits" = some (.ref f_is_bits)
  b_is_bits : Binds K fd_is_bits ["value"] []
  f_is_value : Addr
  fd_is_value : FuncData
  F_is_value : Fun K "is_value" "is_value" s_is_value f_is_value fd_is_value
  g_is_value : mg "is_value" = some (.ref f_is_value)
  b_is_value : Binds K fd_is_value ["value", "bits"] []
  f_is_range : Addr
  fd_is_range : FuncData
  F_is_range : Fun K "is_range" "is_range" s_is_range f_is_range fd_is_range
  g_is_range : mg "is_range" = some (.ref f_is_range)
  b_is_range : Binds K fd_is_range ["value", "bits"] []
  f__law_rng : Addr
  fd__law_rng : FuncData
  F__law_rng : Fun K "_law_rng" "_law_rng" s__law_rng f__law_rng fd__law_rng
  g__law_rng : mg "_law_rng" = some (.ref f__law_rng)
  b__law_rng : Binds K fd__law_rng ["_law_script", "_law_k"] []
  f__law_draw : Addr
  fd__law_draw : FuncData
  F__law_draw : Fun K "_law_draw" "_law_draw" s__law_draw f__law_draw fd__law_draw
  g__law_draw : mg "_law_draw" = some (.ref f__law_draw)
  b__law_draw : Binds K fd__law_draw ["_law_rng_here", "_law_many"] []
  f__law_choice : Addr
  fd__law_choice : FuncData
  F__law_choice : Fun K "_law_choice" "_law_choice" s__law_choice f__law_choice fd__law_choice
  g__law_choice : mg "_law_choice" = some (.ref f__law_choice)
  b__law_choice : Binds K fd__law_choice ["_law_rng_here", "_law_options"] []
  f__law_is_integer : Addr
  fd__law_is_integer : FuncData
  F__law_is_integer : Fun K "_law_is_integer" "_law_is_integer" s__law_is_integer f__law_is_integer fd__law_is_integer
  g__law_is_integer : mg "_law_is_integer" = some (.ref f__law_is_integer)
  b__law_is_integer : Binds K fd__law_is_integer ["_law_thing_here"] []
  f__law_power : Addr
  fd__law_power : FuncData
  F__law_power : Fun K "_law_power" "_law_power" s__law_power f__law_power fd__law_power
  g__law_power : mg "_law_power" = some (.ref f__law_power)
  b__law_power : Binds K fd__law_power ["_law_many"] []
  f__law_is_bits : Addr
  fd__law_is_bits : FuncData
  F__law_is_bits : Fun K "_law_is_bits" "_law_is_bits" s__law_is_bits f__law_is_bits fd__law_is_bits
  g__law_is_bits : mg "_law_is_bits" = some (.ref f__law_is_bits)
  b__law_is_bits : Binds K fd__law_is_bits ["_law_thing_here"] []
  f__law_is_value : Addr
  fd__law_is_value : FuncData
  F__law_is_value : Fun K "_law_is_value" "_law_is_value" s__law_is_value f__law_is_value fd__law_is_value
  g__law_is_value : mg "_law_is_value" = some (.ref f__law_is_value)
  b__law_is_value : Binds K fd__law_is_value ["_law_thing_here", "_law_many"] []
  f__law_is_range : Addr
  fd__law_is_range : FuncData
  F__law_is_range : Fun K "_law_is_range" "_law_is_range" s__law_is_range f__law_is_range fd__law_is_range
  g__law_is_range : mg "_law_is_range" = some (.ref f__law_is_range)
  b__law_is_range : Binds K fd__law_is_range ["_law_thing_here", "_law_many"] []
  f__law_odd : Addr
  fd__law_odd : FuncData
  F__law_odd : Fun K "_law_odd" "_law_odd" s__law_odd f__law_odd fd__law_odd
  g__law_odd : mg "_law_odd" = some (.ref f__law_odd)
  b__law_odd : Binds K fd__law_odd ["_law_rng_here"] []
  f__law_bits : Addr
  fd__law_bits : FuncData
  F__law_bits : Fun K "_law_bits" "_law_bits" s__law_bits f__law_bits fd__law_bits
  g__law_bits : mg "_law_bits" = some (.ref f__law_bits)
  b__law_bits : Binds K fd__law_bits ["_law_rng_here"] []
  f__law_thing : Addr
  fd__law_thing : FuncData
  F__law_thing : Fun K "_law_thing" "_law_thing" s__law_thing f__law_thing fd__law_thing
  g__law_thing : mg "_law_thing" = some (.ref f__law_thing)
  b__law_thing : Binds K fd__law_thing ["_law_rng_here", "_law_many"] []
  f__law_text : Addr
  fd__law_text : FuncData
  F__law_text : Fun K "_law_text" "_law_text" s__law_text f__law_text fd__law_text
  g__law_text : mg "_law_text" = some (.ref f__law_text)
  b__law_text : Binds K fd__law_text ["_law_rng_here", "_law_many"] []
  f__law_right : Addr
  fd__law_right : FuncData
  F__law_right : Fun K "_law_right" "_law_right" s__law_right f__law_right fd__law_right
  g__law_right : mg "_law_right" = some (.ref f__law_right)
  b__law_right : Binds K fd__law_right ["_law_many", "_law_thing_here"] []
  f_law : Addr
  fd_law : FuncData
  F_law : Fun K "law" "law" s_law f_law fd_law
  g_law : mg "law" = some (.ref f_law)
  b_law : Binds K fd_law ["_law_script"] []
  n_isinstance : mg "isinstance" = none
  n_int : mg "int" = none
  n_bool : mg "bool" = none
  n_str : mg "str" = none
  n_len : mg "len" = none
  n_all : mg "all" = none
  n_range : mg "range" = none
  n_max : mg "max" = none
  n_min : mg "min" = none
  n_abs : mg "abs" = none
  n_divmod : mg "divmod" = none
  n_repr : mg "repr" = none
  u_MAX_BITS : Value
  g_MAX_BITS : mg "MAX_BITS" = some u_MAX_BITS
  v_MAX_BITS : RelV (V.int 10) u_MAX_BITS
  u_DIGITS : Value
  g_DIGITS : mg "DIGITS" = some u_DIGITS
  v_DIGITS : RelV (V.str "01") u_DIGITS
section
variable {P : Program} {w : World} {K : PySem.W.Frag} {mg : Str → Option Value} {base : Heap} (A : All K mg)
local macro_rules | `(tactic| walk_at "wp") => `(tactic| simp only [tSeq, tAsg, tRet, tRetN, tIfS, tNext, tDrop, tOp, tUn, tVar, tC, tCons, tNil, tCB, tCall, tCallN, gP, List.filterMap_cons, List.filterMap_nil, List.nil_append, List.cons_append, List.length_cons, List.length_nil, tTest, tB, tNot, tAnd, tOr, tAndV, tOrV, tNotV, tIf, tChain, tTup, tLst, Evl.tCut, gName, gTup, gCons, gNil, gSub, rI, rI0, rU, rIs, rIntI, rIntB, tDNewK, rEq_int, rNe_int, rEq_str, rNe_str, rAdd_int, rAdd_str, rAdd_ref, rIxU_ref, rIxU_str, rLenU_ref, rLenU_str, rSetL, start_cc, start_cn, start_nn, List.set_cons_zero, List.set_cons_succ, List.map_cons, List.map_nil, List.getElem?_cons_zero, List.getElem?_cons_succ, Option.some.injEq, V.int.injEq, V.bl.injEq, V.str.injEq, V.ref.injEq, V.ty.injEq, List.cons.injEq, and_true, true_and, exists_eq_left', exists_eq_left, exists_and_left, exists_and_right, List.append_nil, ↓reduceIte])
def spInt : Sp := fun vs H Q _ => ∃ v, vs = [v] ∧ Plain H v ∧ Q (.bl (isI v)) H
include A in
theorem ok_is_integer : FnOk P w K mg base CX0 1 A.f_is_integer A.fd_is_integer ["value"] spInt := by
  refine A.F_is_integer.ok sc_is_integer (fun vs H Q E h => ?_) (fun cdv Ar outer s H vs Q E hr h => ?_)
  · obtain ⟨_, rfl, _⟩ := h
    rfl
  obtain ⟨v, rfl, h⟩ := h
  refine ⟨_, (pss_one (ps_ret (pe_and (pe_callB isi_int (by rfl) A.n_isinstance (by decide +kernel) (pa_cons (pv 0) (pa_cons (pe_bltn (v := .ty "int") (u := .type "int") (by rfl) A.n_int (by decide +kernel) rfl) pa_nil))) (pe_one (pe_not (pe_callB isi_bool (by rfl) A.n_isinstance (by decide +kernel) (pa_cons (pv 0) (pa_cons (pe_bltn (v := .ty "bool") (u := .type "bool") (by rfl) A.n_bool (by decide +kernel) rfl) pa_nil)))))))), ?_⟩
  walk_at "wp"
  obtain ⟨p, q⟩ := h
  cases v <;> exact ⟨p, by first | exact ⟨p, q⟩ | exact q⟩
def isBits : V → Bool | .int i => decide (1 ≤ i ∧ i ≤ 10) | _ => false
theorem isBits_int {v : V} (h : isBits v = true) : ∃ n : Int, v = .int n ∧ 1 ≤ n ∧ n ≤ 10 := by
  cases v with
  | int n => exact ⟨n, rfl, of_decide_eq_true h⟩
  | _ => cases h
theorem two_pow_le (m n : Nat) (h : n ≤ m) : (2 : Int) ^ n ≤ 2 ^ m := by
  have := Nat.pow_le_pow_right (n := 2) (by decide) h
  exact_mod_cast this
def spBits : Sp := fun vs H Q _ => ∃ v, vs = [v] ∧ Plain H v ∧ Q (.bl (isBits v)) H
include A in
theorem ok_is_bits : FnOk P w K mg base CX0 2 A.f_is_bits A.fd_is_bits ["value"] spBits := by
  have G_is_integer := ok_is_integer (P := P) (w := w) (base := base) A
  refine A.F_is_bits.ok sc_is_bits (fun vs H Q E h => ?_) (fun cdv Ar outer s H vs Q E hr h => ?_)
  · obtain ⟨_, rfl, _⟩ := h
    rfl
  obtain ⟨v, rfl, h⟩ := h
  refine ⟨_, (pss_one (ps_ret (pe_and (pe_call G_is_integer (hr.mono (by decide)) (by rfl) A.g_is_integer A.F_is_integer.kp A.b_is_integer .nil pass0 (pa_cons (pv 0) pa_nil)) (pe_one (pe_chain op_le op_le pe_int (pv 0) (pe_glob (by rfl) A.g_MAX_BITS A.v_MAX_BITS)))))), ?_⟩
  walk_at "wp"
  obtain ⟨p, q⟩ := h
  refine ⟨v, rfl, p, _, rfl, ?_⟩
  cases v with
  | int i =>
    refine ⟨i, rfl, ?_⟩
    refine ifD (fun h1 => ⟨i, rfl, ?_⟩) (fun h1 => ?_)
    · simpa only [isBits, h1, true_and] using q
    · simpa only [isBits, h1, false_and, decide_false] using q
  | _ => exact q
def isVal : V → V → Bool | .int i, .int n => decide (1 ≤ n ∧ n ≤ 10) && decide (0 ≤ i ∧ i < 2 ^ n.toNat) | _, _ => false
def spVal : Sp := fun vs H Q _ => ∃ v b, vs = [v, b] ∧ Plain H v ∧ Plain H b ∧ Q (.bl (isVal v b)) H
include A in
theorem ok_is_value : FnOk P w K mg base CX0 3 A.f_is_value A.fd_is_value ["value", "bits"] spVal := by
  have G_is_integer := ok_is_integer (P := P) (w := w) (base := base) A
  have G_is_bits := ok_is_bits (P := P) (w := w) (base := base) A
  refine A.F_is_value.ok sc_is_value (fun vs H Q E h => ?_) (fun cdv Ar outer s H vs Q E hr h => ?_)
  · obtain ⟨_, _, rfl, _⟩ := h
    rfl
  obtain ⟨v, b, rfl, h⟩ := h
  refine ⟨_, (pss_one (ps_ret (pe_and (pe_call G_is_bits (hr.mono (by decide)) (by rfl) A.g_is_bits A.F_is_bits.kp A.b_is_bits .nil pass0 (pa_cons (pv 1) pa_nil)) (pe_and (pe_call G_is_integer (hr.mono (by decide)) (by rfl) A.g_is_integer A.F_is_integer.kp A.b_is_integer .nil pass0 (pa_cons (pv 0) pa_nil)) (pe_one (pe_chain op_le op_lt pe_int (pv 0) (pe_op op_shl pe_int (pv 1)))))))), ?_⟩
  walk_at "wp"
  obtain ⟨p, pb, q⟩ := h
  refine ⟨b, rfl, pb, _, rfl, ?_⟩
  cases b with
  | int n =>
    refine ifD (fun h1 => ⟨v, rfl, p, _, rfl, ?_⟩) (fun h1 => ?_)
    · cases v with
      | int i =>
        refine ⟨i, rfl, ifD (fun h2 => ⟨n, rfl, ⟨by omega, by omega, by decide⟩, i, rfl, ?_⟩) (fun h2 => ?_)⟩
        · simpa only [isVal, h1, h2, and_self, decide_true, Bool.true_and, true_and, Int.one_mul] using q
        · simpa only [isVal, h1, h2, and_self, decide_true, Bool.true_and, false_and, decide_false] using q
      | _ => exact q
    · have e : isVal v (.int n) = false := by cases v <;> simp only [isVal, h1, decide_false, Bool.false_and]
      rw [e] at q
      exact q
  | _ => cases v <;> exact q
def isDig (c : Nat) : Bool := decide (c = 48 ∨ c = 49)
theorem dig_in (c : Nat) : decide (c ∈ (Str.ofString "01").cps.toList) = isDig c := by
  have e : (Str.ofString "01").cps.toList = [48, 49] := by decide +kernel
  rw [e]
  unfold isDig
  congr 1
  simp
def gD : V → V | .str z => .bl (isDig (z.cps.getD 0 0)) | v => v
def isRng (v b : V) : Bool := isBits b && match v, b with | .str z, .int n => decide ((z.length : Int) ≤ n) && z.cps.toList.all isDig | _, _ => false
theorem isRng_si {z : Str} {n : Int} : isRng (.str z) (.int n) = (isBits (.int n) && (decide ((z.length : Int) ≤ n) && z.cps.toList.all isDig)) := rfl
def notDig : V → Bool | .str z => !isDig (z.cps.getD 0 0) | _ => true
theorem s0_eq : (Str.ofString "0") = (⟨#[48]⟩ : Str) := by decide +kernel
theorem s1_eq : (Str.ofString "1") = (⟨#[49]⟩ : Str) := by decide +kernel
theorem ch_eq (c d : Nat) : decide (V.str ⟨#[c]⟩ = V.str ⟨#[d]⟩) = decide (c = d) := by
  by_cases h : c = d
  · rw [h, decide_eq_true rfl, decide_eq_true rfl]
  · rw [decide_eq_false h, decide_eq_false]
    intro z
    injection z with z
    injection z with z
    exact h (by simpa using z)
theorem notDig_ch (c : Nat) : notDig (chV c) = (!decide (V.str ⟨#[c]⟩ = V.str (Str.ofString "0")) && !decide (V.str ⟨#[c]⟩ = V.str (Str.ofString "1"))) := by
  rw [s0_eq, s1_eq, ch_eq, ch_eq]
  show (!isDig c) = _
  unfold isDig
  by_cases h1 : c = 48 <;> by_cases h2 : c = 49 <;> simp [h1, h2]
theorem filter_empty : ∀ l : List Nat, (List.filter notDig (List.map chV l)).isEmpty = l.all isDig
  | [] => rfl
  | c :: l => by
    rw [List.map_cons, List.filter_cons, List.all_cons]
    have e : notDig (chV c) = !isDig c := rfl
    rw [e]
    cases isDig c with
    | true => simpa using filter_empty l
    | false => rfl
def spRng : Sp := fun vs H Q _ => ∃ v b, vs = [v, b] ∧ Plain H v ∧ Sm v ∧ Plain H b ∧ ∀ H', Same H H' → Q (.bl (isRng v b)) H'
include A in
theorem ok_is_range : FnOk P w K mg base CX0 3 A.f_is_range A.fd_is_range ["value", "bits"] spRng := by
  have G_is_bits := ok_is_bits (P := P) (w := w) (base := base) A
  refine A.F_is_range.ok sc_is_range (fun vs H Q E h => ?_) (fun cdv Ar outer s H vs Q E hr h => ?_)
  · obtain ⟨_, _, rfl, _⟩ := h
    rfl
  obtain ⟨v, b, rfl, h⟩ := h
  refine ⟨_, (pss_cons (ps_if ((pw_or (pt_not (pt_val (pe_call G_is_bits (hr.mono (by decide)) (by rfl) A.g_is_bits A.F_is_bits.kp A.b_is_bits .nil pass0 (pa_cons (pv 1) pa_nil)))) (pw_or (pt_not (pt_val (pe_callB isi_str (by rfl) A.n_isinstance (by decide +kernel) (pa_cons (pv 0) (pa_cons (pe_bltn (v := .ty "str") (u := .type "str") (by rfl) A.n_str (by decide +kernel) rfl) pa_nil))))) (pw_or1 (pt_cmpR op_gt (pe_callB call_lenU (by rfl) A.n_len (by decide +kernel) (pa_cons (pv 0) pa_nil)) (pv 1) (nomark _)))))).pt (pss_one (ps_ret pe_bl)) pss_nil) (pss_one (ps_ret (pe_callB (cr_all rfl) (by rfl) A.n_all (by decide +kernel) (pa_cons (pe_lc (own := [("digit", 2)]) (g := gName 2) (tt := tYes) rfl sc_is_range.nd (pi_str (pv 0)) (blkOk_by (N := N_is_range) (sc := defScope s_is_range) (by decide +kernel)) (fun _ _ _ _ _ => pg_name (i := 2) sc_is_range.nd rfl (Or.inl rfl)) (fun _ _ _ _ _ => pts_nil) (fun _ _ _ _ _ => (pe_cmpR op_in_sign (pv 2) (pe_glob (by rfl) A.g_DIGITS A.v_DIGITS) (by with_unfolding_all rfl)))) pa_nil))))), ?_⟩
  walk_at "wp"
  obtain ⟨p, sm, pb, q⟩ := h
  refine ⟨b, rfl, pb, _, rfl, ifB (fun hb => ?_) (fun hb => ⟨p, ifB (fun hs => ?_) (fun hs => ?_)⟩)⟩
  · have e : isRng v b = false := by
      unfold isRng
      rw [show isBits b = false by simpa using hb]
      rfl
    rw [e] at q
    exact q H (Same.refl H)
  · have e : isRng v b = false := by
      unfold isRng
      cases v <;> first | (cases hs; done) | simp
    rw [e] at q
    exact q H (Same.refl H)
  · obtain ⟨z, rfl⟩ : ∃ z, v = .str z := by cases v <;> first | exact ⟨_, rfl⟩ | cases hs
    obtain ⟨n, rfl, h1, h2⟩ : ∃ n : Int, b = .int n ∧ 1 ≤ n ∧ n ≤ 10 := by
      have hb' : isBits b = true := by simpa using hb
      cases b with
      | int n => exact ⟨n, rfl, of_decide_eq_true hb'⟩
      | _ => cases hb'
    have zl : z.length ≤ 100000 := sm.1
    refine ⟨Nat.le_trans zl (by decide), _, rfl, n, rfl, ifD (fun h3 => ?_) (fun h3 => ?_)⟩
    · have e : isRng (.str z) (.int n) = false := by
        rw [isRng_si, decide_eq_false (show ¬ (z.length : Int) ≤ n by omega), Bool.false_and, Bool.and_false]
      rw [e] at q
      exact q H (Same.refl H)
    · refine lcStr (fun _ => true) gD (Nat.lt_of_le_of_lt zl (by decide)) (fun _ => rfl) (fun c _ H' R _ h => h) (fun c _ _ H' R _ h => ?_) (fun D hD => ?_) (fun R h => ⟨_, rfl, h⟩)
      · refine ⟨_, rfl, c, rfl, _, rfl, ?_⟩
        rw [dig_in]
        exact h
      · refine ⟨D, z.cps.toList.map isDig, rfl, .inl (.inl ?_), ?_⟩
        · rw [upd_same, List.filter_eq_self.mpr (fun _ _ => rfl), List.map_map, List.map_map]
          rfl
        · have e : isRng (.str z) (.int n) = (z.cps.toList.map isDig).all id := by
            rw [isRng_si, decide_eq_true (show (z.length : Int) ≤ n by omega), List.all_map, show isBits (.int n) = true from decide_eq_true ⟨h1, h2⟩]
            rfl
          rw [e] at q
          exact q _ (Same.new hD)
def spRngD : Sp := fun vs H Q _ => ∃ v b, vs = [v, b] ∧ NoDT H ∧ Plain H v ∧ Sm v ∧ Plain H b ∧ Q (.bl (isRng v b)) H
include A in
theorem ok_rangeD : FnOk P w K mg base CX0 3 A.f_is_range A.fd_is_range ["value", "bits"] spRngD :=
  fnDrop (ok_is_range A) fun vs H Q E ⟨v, b, e, n, p, sm, pb, q⟩ => ⟨v, b, e, p, sm, pb, fun H' s => ⟨H, drop_same n s, q⟩⟩
include A in
theorem ok__law_is_integer : FnOk P w K mg base CX0 1 A.f__law_is_integer A.fd__law_is_integer ["_law_thing_here"] spInt := by
  refine A.F__law_is_integer.ok sc__law_is_integer (fun vs H Q E h => ?_) (fun cdv Ar outer s H vs Q E hr h => ?_)
  · obtain ⟨_, rfl, _⟩ := h
    rfl
  obtain ⟨v, rfl, h⟩ := h
  refine ⟨_, (pss_one (ps_ret (pe_and (pe_callB isi_int (by rfl) A.n_isinstance (by decide +kernel) (pa_cons (pv 0) (pa_cons (pe_bltn (v := .ty "int") (u := .type "int") (by rfl) A.n_int (by decide +kernel) rfl) pa_nil))) (pe_one (pe_not (pe_callB isi_bool (by rfl) A.n_isinstance (by decide +kernel) (pa_cons (pv 0) (pa_cons (pe_bltn (v := .ty "bool") (u := .type "bool") (by rfl) A.n_bool (by decide +kernel) rfl) pa_nil)))))))), ?_⟩
  walk_at "wp"
  obtain ⟨p, q⟩ := h
  cases v <;> exact ⟨p, by first | exact ⟨p, q⟩ | exact q⟩
include A in
theorem ok__law_is_bits : FnOk P w K mg base CX0 2 A.f__law_is_bits A.fd__law_is_bits ["_law_thing_here"] spBits := by
  have G__law_is_integer := ok__law_is_integer (P := P) (w := w) (base := base) A
  refine A.F__law_is_bits.ok sc__law_is_bits (fun vs H Q E h => ?_) (fun cdv Ar outer s H vs Q E hr h => ?_)
  · obtain ⟨_, rfl, _⟩ := h
    rfl
  obtain ⟨v, rfl, h⟩ := h
  refine ⟨_, (pss_one (ps_ret (pe_and (pe_call G__law_is_integer (hr.mono (by decide)) (by rfl) A.g__law_is_integer A.F__law_is_integer.kp A.b__law_is_integer .nil pass0 (pa_cons (pv 0) pa_nil)) (pe_one (pe_chain op_le op_le pe_int (pv 0) pe_int))))), ?_⟩
  walk_at "wp"
  obtain ⟨p, q⟩ := h
  refine ⟨v, rfl, p, _, rfl, ?_⟩
  cases v with
  | int i =>
    refine ⟨i, rfl, ?_⟩
    refine ifD (fun h1 => ⟨i, rfl, ?_⟩) (fun h1 => ?_)
    · simpa only [isBits, h1, true_and] using q
    · simpa only [isBits, h1, false_and, decide_false] using q
  | _ => exact q
include A in
theorem ok__law_power : FnOk P w K mg base CX0 1 A.f__law_power A.fd__law_power ["_law_many"] spPow := by
  refine A.F__law_power.ok sc__law_power (fun vs H Q E h => ?_) (fun cdv Ar outer s H vs Q E hr h => ?_)
  · obtain ⟨_, rfl, _⟩ := h
    rfl
  obtain ⟨v, rfl, h⟩ := h
  refine ⟨_, (pss_cons (ps_set (i := 1) sc__law_power.nd rfl (by first | exact Or.inl rfl | exact Or.inr rfl) pe_int) (pss_cons (ps_for PassesOwn.never rfl (pi_range1 (by rfl) A.n_range (pa_cons (pv 0) pa_nil)) (pg_name (i := 2) sc__law_power.nd rfl (by first | exact Or.inl rfl | exact Or.inr rfl)) (pss_one (ps_set (i := 1) sc__law_power.nd rfl (by first | exact Or.inl rfl | exact Or.inr rfl) (pe_op op_mul pe_int (pv 1))))) (pss_one (ps_ret (pv 1))))), ?_⟩
  walk_at "wp"
  obtain ⟨n, rfl, h0, h1, q⟩ := h
  refine forR n (fun R h => ⟨_, rfl, h⟩) (by omega) (by omega) (fun i σ H' => ∃ y, σ = [some (.int n), some (.int (2 ^ i)), y] ∧ H' = H) ⟨none, rfl, rfl⟩ ?_ ?_
  · rintro i _ _ hi ⟨y, rfl, rfl⟩
    walk_at "wp"
    refine ⟨.inl ⟨by decide, by decide⟩, ?_⟩
    rw [Int.mul_comm, ← Int.pow_succ]
    exact ⟨rfl, _, rfl⟩
  · rintro _ _ ⟨y, rfl, rfl⟩
    exact ⟨_, rfl, q⟩
include A in
theorem ok__law_is_value : FnOk P w K mg base CX0 3 A.f__law_is_value A.fd__law_is_value ["_law_thing_here", "_law_many"] spVal := by
  have G__law_is_integer := ok__law_is_integer (P := P) (w := w) (base := base) A
  have G__law_is_bits := ok__law_is_bits (P := P) (w := w) (base := base) A
  have G__law_power := ok__law_power (P := P) (w := w) (base := base) A
  refine A.F__law_is_value.ok sc__law_is_value (fun vs H Q E h => ?_) (fun cdv Ar outer s H vs Q E hr h => ?_)
  · obtain ⟨_, _, rfl, _⟩ := h
    rfl
  obtain ⟨v, b, rfl, h⟩ := h
  refine ⟨_, (pss_one (ps_ret (pe_and (pe_call G__law_is_bits (hr.mono (by decide)) (by rfl) A.g__law_is_bits A.F__law_is_bits.kp A.b__law_is_bits .nil pass0 (pa_cons (pv 1) pa_nil)) (pe_and (pe_call G__law_is_integer (hr.mono (by decide)) (by rfl) A.g__law_is_integer A.F__law_is_integer.kp A.b__law_is_integer .nil pass0 (pa_cons (pv 0) pa_nil)) (pe_one (pe_chain op_le op_lt pe_int (pv 0) (pe_call G__law_power (hr.mono (by decide)) (by rfl) A.g__law_power A.F__law_power.kp A.b__law_power .nil pass0 (pa_cons (pv 1) pa_nil)))))))), ?_⟩
  walk_at "wp"
  obtain ⟨p, pb, q⟩ := h
  refine ⟨b, rfl, pb, _, rfl, ?_⟩
  cases b with
  | int n =>
    refine ifD (fun h1 => ⟨v, rfl, p, _, rfl, ?_⟩) (fun h1 => ?_)
    · cases v with
      | int i =>
        refine ⟨i, rfl, ifD (fun h2 => ⟨_, rfl, n, rfl, by omega, by omega, i, rfl, _, rfl, ?_⟩) (fun h2 => ?_)⟩
        · simpa only [isVal, h1, h2, and_self, decide_true, Bool.true_and, true_and, Int.one_mul] using q
        · simpa only [isVal, h1, h2, and_self, decide_true, Bool.true_and, false_and, decide_false] using q
      | _ => exact q
    · have e : isVal v (.int n) = false := by cases v <;> simp only [isVal, h1, decide_false, Bool.false_and]
      rw [e] at q
      exact q
  | _ => cases v <;> exact q
include A in
theorem ok__law_is_range : FnOk P w K mg base CX0 3 A.f__law_is_range A.fd__law_is_range ["_law_thing_here", "_law_many"] spRng := by
  have G__law_is_bits := ok__law_is_bits (P := P) (w := w) (base := base) A
  refine A.F__law_is_range.ok sc__law_is_range (fun vs H Q E h => ?_) (fun cdv Ar outer s H vs Q E hr h => ?_)
  · obtain ⟨_, _, rfl, _⟩ := h
    rfl
  obtain ⟨v, b, rfl, h⟩ := h
  refine ⟨_, (pss_cons (ps_if ((pw_or (pt_not (pt_val (pe_call G__law_is_bits (hr.mono (by decide)) (by rfl) A.g__law_is_bits A.F__law_is_bits.kp A.b__law_is_bits .nil pass0 (pa_cons (pv 1) pa_nil)))) (pw_or (pt_not (pt_val (pe_callB isi_str (by rfl) A.n_isinstance (by decide +kernel) (pa_cons (pv 0) (pa_cons (pe_bltn (v := .ty "str") (u := .type "str") (by rfl) A.n_str (by decide +kernel) rfl) pa_nil))))) (pw_or1 (pt_cmpR op_gt (pe_callB call_lenU (by rfl) A.n_len (by decide +kernel) (pa_cons (pv 0) pa_nil)) (pv 1) (nomark _)))))).pt (pss_one (ps_ret pe_bl)) pss_nil) (pss_one (ps_ret (pe_cmpR (op_eqD (by have := hr.units; exact this)) (pe_lc (own := [("_law_sign", 2)]) (g := gName 2) rfl sc__law_is_range.nd (pi_str (pv 0)) (blkOk_by (N := N__law_is_range) (sc := defScope s__law_is_range) (by decide +kernel)) (fun _ _ _ _ _ => pg_name (i := 2) sc__law_is_range.nd rfl (Or.inl rfl)) (fun _ _ _ _ _ => (pts_one ((pw_and (pt_cmpR op_ne (pv 2) pe_str (nomark _)) (pw_and1 (pt_cmpR op_ne (pv 2) pe_str (nomark _))))).pt)) (fun _ _ _ _ _ => (pv 2))) (pe_lst pa_nil) (nomark _))))), ?_⟩
  walk_at "wp"
  obtain ⟨p, sm, pb, q⟩ := h
  refine ⟨b, rfl, pb, _, rfl, ifB (fun hb => ?_) (fun hb => ⟨p, ifB (fun hs => ?_) (fun hs => ?_)⟩)⟩
  · have e : isRng v b = false := by
      unfold isRng
      rw [show isBits b = false by simpa using hb]
      rfl
    rw [e] at q
    exact q H (Same.refl H)
  · have e : isRng v b = false := by
      unfold isRng
      cases v <;> first | (cases hs; done) | simp
    rw [e] at q
    exact q H (Same.refl H)
  · obtain ⟨z, rfl⟩ : ∃ z, v = .str z := by cases v <;> first | exact ⟨_, rfl⟩ | cases hs
    obtain ⟨n, rfl, h1, h2⟩ : ∃ n : Int, b = .int n ∧ 1 ≤ n ∧ n ≤ 10 := by
      have hb' : isBits b = true := by simpa using hb
      cases b with
      | int n => exact ⟨n, rfl, of_decide_eq_true hb'⟩
      | _ => cases hb'
    have zl : z.length ≤ 100000 := sm.1
    refine ⟨Nat.le_trans zl (by decide), _, rfl, n, rfl, ifD (fun h3 => ?_) (fun h3 => ?_)⟩
    · have e : isRng (.str z) (.int n) = false := by
        rw [isRng_si, decide_eq_false (show ¬ (z.length : Int) ≤ n by omega), Bool.false_and, Bool.and_false]
      rw [e] at q
      exact q H (Same.refl H)
    · refine lcStr notDig id (Nat.lt_of_le_of_lt zl (by decide)) (fun _ => rfl) (fun c _ H' R _ h => ?_) (fun c _ _ H' R _ h => ⟨_, rfl, h⟩) (fun D hD => ?_) (fun R h => ⟨_, rfl, h⟩)
      · rw [notDig_ch] at h
        show tAnd _ _ [some (.str z), some (.int n), some (.str ⟨#[c]⟩)] H' R
        refine ⟨_, rfl, rfl, _, rfl, ifB (fun e1 => ⟨_, rfl, rfl, _, rfl, ?_⟩) (fun e1 => ?_)⟩
        · rw [e1, Bool.true_and] at h
          exact h
        · rw [e1, Bool.false_and] at h
          exact h
      · refine ⟨by decide, fun p hp => ?_⟩
        have hDp : D ≠ p := ne_of_none upd_same hp
        refine eq_strs_nil (xs := List.map id (List.filter notDig (List.map chV z.cps.toList))) (by rw [upd_ne hDp, upd_same]) upd_same (fun x hx => ?_) ?_
        · rw [List.map_id] at hx
          obtain ⟨c, hc, rfl⟩ := List.mem_map.mp (List.mem_filter.mp hx).1
          exact ⟨_, rfl, strOk_ch sm.2 hc⟩
        · have e : isRng (.str z) (.int n) = (List.map id (List.filter notDig (List.map chV z.cps.toList))).isEmpty := by
            rw [isRng_si, decide_eq_true (show (z.length : Int) ≤ n by omega), show isBits (.int n) = true from decide_eq_true ⟨h1, h2⟩, Bool.true_and, Bool.true_and, List.map_id, filter_empty]
          rw [e] at q
          exact q _ (Same.trans (Cv.Same.new hD) (Cv.Same.new hp))
include A in
theorem ok__law_rng : FnOk P w K mg base CX0 1 A.f__law_rng A.fd__law_rng ["_law_script", "_law_k"] (spRngMk K) := by
  refine A.F__law_rng.ok sc__law_rng (fun vs H Q E h => ?_) (fun cdv Ar outer s H vs Q E hr h => ?_)
  · obtain ⟨_, _, rfl, _⟩ := h
    rfl
  obtain ⟨x, y, rfl, h⟩ := h
  refine ⟨_, (pss_cons (ps_set (i := 2) sc__law_rng.nd rfl (by first | exact Or.inl rfl | exact Or.inr rfl) (pe_op op_addU (pe_op op_mul pe_int (pv 1)) pe_int)) (Evl.pss_cut (ps_if (pt_cmpR op_lt (pv 1) (pe_callB call_len_seq (by rfl) A.n_len (by decide +kernel) (pa_cons (pv 0) pa_nil)) (nomark _)) (pss_one (ps_set (i := 2) sc__law_rng.nd rfl (by first | exact Or.inl rfl | exact Or.inr rfl) (pe_ix ix_list (pv 0) (pv 1) (fun _ _ => rfl)))) pss_nil) (pss_one (ps_ret (pe_lst (pa_cons (pe_callB (call_max2 rfl) (by rfl) A.n_max (by decide +kernel) (pa_cons pe_int (pa_cons (pe_op op_sub (pe_callB call_abs (by rfl) A.n_abs (by decide +kernel) (pa_cons (pv 2) pa_nil)) (pe_op op_pow pe_int pe_int)) pa_nil))) (pa_cons (pe_op op_addU (pe_op op_mod (pe_callTy call_intI (by rfl) A.n_int (by decide +kernel) (pa_cons (pe_op op_mul (pe_op op_addU (pe_op op_mod (pe_callTy call_intI (by rfl) A.n_int (by decide +kernel) (pa_cons (pe_callB call_abs (by rfl) A.n_abs (by decide +kernel) (pa_cons (pv 2) pa_nil)) pa_nil)) pe_int) pe_int) (pe_op op_pow (pe_op op_addU (pv 1) pe_int) pe_int)) pa_nil)) pe_int) pe_int) pa_nil))))))), ?_⟩
  walk_at "wp"
  obtain ⟨a, k, ns, rfl, rfl, hS, h0, h1, q⟩ := h
  refine ⟨k, rfl, .inl ⟨by decide, by decide⟩, fun σ' H' => ∃ c : Int, σ' = [some (.ref a), some (.int k), some (.int c)] ∧ H' = H, ⟨a, rfl, _, .inl hS, k, rfl, ifD (fun hk => ?_) (fun hk => ⟨_, rfl, rfl⟩)⟩, ?_⟩
  · rw [List.length_map] at hk
    refine ⟨a, _, k, .int (ns[k.toNat]'(by omega)), rfl, rfl, hS, at_of (j := k.toNat) (by omega) ?_, _, rfl, rfl⟩
    rw [List.getElem?_map, List.getElem?_eq_getElem (by omega)]
    rfl
  · rintro _ _ ⟨c, rfl, rfl⟩
    obtain ⟨c1, c2⟩ := cube_le h0 h1
    have m0 : ∀ x : Int, 0 ≤ x % 2147483563 ∧ x % 2147483563 < 2147483563 := fun x => ⟨Int.emod_nonneg _ (by decide), Int.emod_lt_of_pos _ (by decide)⟩
    refine ⟨_, rfl, c, rfl, ⟨by decide, by decide, by decide⟩, _, _, ⟨rfl, rfl⟩, _, rfl, c, rfl, by decide, _, rfl, _, rfl, ⟨by decide, by decide, by omega⟩, .inr ⟨by omega, by omega⟩, by decide, (by show 2 ≤ sizeLine; decide), fun p hp => q p _ hp ⟨_, _, rfl, ?_, ?_, ?_⟩⟩
    · split <;> omega
    · have := m0 (((if c < 0 then -c else c) % 2147483579 + 1) * (k + 3) ^ Int.toNat 3)
      omega
    · have := m0 (((if c < 0 then -c else c) % 2147483579 + 1) * (k + 3) ^ Int.toNat 3)
      omega
include A in
theorem ok__law_draw : FnOk P w K mg base CX0 1 A.f__law_draw A.fd__law_draw ["_law_rng_here", "_law_many"] spDraw := by
  refine A.F__law_draw.ok sc__law_draw (fun vs H Q E h => ?_) (fun cdv Ar outer s H vs Q E hr h => ?_)
  · obtain ⟨_, _, rfl, _⟩ := h
    rfl
  obtain ⟨x, y, rfl, h⟩ := h
  refine ⟨_, (pss_cons (ps_if (pt_cmpR op_gt (pe_ix ix_u (pv 0) pe_int (fun _ _ => rfl)) pe_int (nomark _)) (pss_cons (ps_asg (pe_callB call_divmodW (by rfl) A.n_divmod (by decide +kernel) (pa_cons (pe_ix ix_u (pv 0) pe_int (fun _ _ => rfl)) (pa_cons (pv 1) pa_nil))) (pg_tup rfl (pgs_cons (pg_sub (pv 0) pe_int set_list) (pgs_cons (pg_name (i := 2) sc__law_draw.nd rfl (by first | exact Or.inl rfl | exact Or.inr rfl)) pgs_nil)))) (pss_one (ps_ret (pv 2)))) pss_nil) (pss_cons (ps_asg (pe_op op_mod (pe_callTy call_intI (by rfl) A.n_int (by decide +kernel) (pa_cons (pe_op op_addU (pe_op op_mul (pe_ix ix_u (pv 0) pe_int (fun _ _ => rfl)) pe_int) pe_int) pa_nil)) pe_int) (pg_sub (pv 0) pe_int set_list)) (pss_cons (ps_set (i := 3) sc__law_draw.nd rfl (by first | exact Or.inl rfl | exact Or.inr rfl) (pe_op op_fdiv (pe_op op_mod (pe_callTy call_intI (by rfl) A.n_int (by decide +kernel) (pa_cons (pe_op op_mul (pe_ix ix_u (pv 0) pe_int (fun _ _ => rfl)) (pe_ix ix_u (pv 0) pe_int (fun _ _ => rfl))) pa_nil)) pe_int) pe_int)) (pss_cons (ps_if (pt_cmpR op_lt (pv 1) (pe_op op_pow pe_int pe_int) (nomark _)) (pss_one (ps_ret (pe_op op_mod (pe_callTy call_intI (by rfl) A.n_int (by decide +kernel) (pa_cons (pv 3) pa_nil)) (pv 1)))) pss_nil) (pss_one (ps_ret (pe_op op_mod (pe_callTy call_intI (by rfl) A.n_int (by decide +kernel) (pa_cons (pe_op op_addU (pe_op op_mul (pe_op op_addU (pe_op op_mul (pv 3) pe_int) (pe_ix ix_u (pv 0) pe_int (fun _ _ => rfl))) pe_int) (pv 3)) pa_nil)) (pv 1)))))))), ?_⟩
  walk_at "wp"
  obtain ⟨r, m, rfl, rfl, hR, m1, ml, q⟩ := h
  obtain ⟨nd, o, ho, u, v, rfl, u0, v0, v1⟩ := id hR
  simp only [rIxU_ref]
  have hs : sqO (H r) = some [.int u, .int v] := by rw [ho]; rfl
  refine ⟨_, _, hs, rfl, u, rfl, ifD (fun h => ?_) (fun h => ?_)⟩
  · refine ⟨_, _, hs, rfl, u, m, ⟨rfl, rfl⟩, ⟨by omega, PyProof.noPylong_of_log2 ml⟩, fun p hp => ⟨_, .inl (.inl upd_same), rfl, _, _, rfl, r, rfl, _, (upd_ne (ne_of_none ho hp)).trans ho, _, rfl, _, _, rfl, rfl, ?_⟩⟩
    exact q _ _ (Int.emod_nonneg _ (by omega)) (Int.emod_lt_of_pos _ (by omega)) (fun c o n e => by rw [upd_ne n, upd_ne (ne_of_none e hp)]; exact e)
      ((hR.new hp rfl).set ⟨_, _, rfl, Int.ediv_nonneg u0 (by omega), v0, v1⟩)
  · have w0 : 0 ≤ (v * 48283 + 10007) % 2147483587 := Int.emod_nonneg _ (by decide)
    have w1 : (v * 48283 + 10007) % 2147483587 < 2147483587 := Int.emod_lt_of_pos _ (by decide)
    refine ⟨_, _, hs, rfl, v, rfl, .inr ⟨by decide, by decide⟩, by decide, r, rfl, _, ho, _, rfl, ?_⟩
    generalize (v * 48283 + 10007) % 2147483587 = x at w0 w1 ⊢
    have hs1 : sqO (upd H r (.lst [.int u, .int x]) r) = some [.int u, .int x] := by rw [upd_same]; rfl
    have fin : ∀ d, 0 ≤ d → d < m → Q (.int d) (upd H r (.lst [.int u, .int x])) := fun d d0 d1 => q d _ d0 d1 KeepX.set (hR.set ⟨u, x, rfl, u0, w0, by omega⟩)
    refine ⟨_, _, hs1, rfl, _, _, hs1, rfl, x, rfl, x, rfl, .inl ⟨by omega, by omega⟩, by decide, ⟨by decide, by decide⟩, ⟨by decide, by decide, by decide⟩, m, rfl, ifD (fun _ => ⟨m, rfl, by omega, fin _ (Int.emod_nonneg _ (by omega)) (Int.emod_lt_of_pos _ (by omega))⟩) (fun _ => ?_)⟩
    refine ⟨.inr ⟨by decide, by decide⟩, _, _, hs1, rfl, ?_⟩
    exact ⟨_, rfl, .inr ⟨by decide, by decide⟩, m, rfl, by omega, fin _ (Int.emod_nonneg _ (by omega)) (Int.emod_lt_of_pos _ (by omega))⟩
include A in
theorem ok__law_choice : FnOk P w K mg base CX0 2 A.f__law_choice A.fd__law_choice ["_law_rng_here", "_law_options"] spChoice := by
  have G__law_draw := ok__law_draw (P := P) (w := w) (base := base) A
  refine A.F__law_choice.ok sc__law_choice (fun vs H Q E h => ?_) (fun cdv Ar outer s H vs Q E hr h => ?_)
  · obtain ⟨_, _, rfl, _⟩ := h
    rfl
  obtain ⟨x, y, rfl, h⟩ := h
  refine ⟨_, (pss_one (ps_ret (pe_ix ix_u (pv 1) (pe_call G__law_draw (hr.mono (by decide)) (by rfl) A.g__law_draw A.F__law_draw.kp A.b__law_draw .nil pass0 (pa_cons (pv 0) (pa_cons (pe_callB call_lenU (by rfl) A.n_len (by decide +kernel) (pa_cons (pv 1) pa_nil)) pa_nil))) (fun _ _ => rfl)))), ?_⟩
  walk_at "wp"
  obtain ⟨r, l, xs, rfl, rfl, hn, hR, hl, x0, x1, q⟩ := h
  have hs : sqO (H l) = some xs := by rw [hl]; rfl
  refine ⟨xs, hs, _, _, rfl, r, _, rfl, rfl, hR, by omega, log2_small (by omega), fun d H' d0 d1 k hR' => ?_⟩
  have hd : d.toNat < xs.length := by omega
  exact ⟨xs, xs[d.toNat], by rw [k l _ hn hl]; rfl, at_of (j := d.toNat) (by omega) (List.getElem?_eq_getElem hd), q _ _ (List.getElem_mem hd) k hR'⟩
include A in
theorem ok__law_odd : FnOk P w K mg base CX0 3 A.f__law_odd A.fd__law_odd ["_law_rng_here"] spOdd := by
  have G__law_choice := ok__law_choice (P := P) (w := w) (base := base) A
  refine A.F__law_odd.ok sc__law_odd (fun vs H Q E h => ?_) (fun cdv Ar outer s H vs Q E hr h => ?_)
  · obtain ⟨_, rfl, _⟩ := h
    rfl
  obtain ⟨x, rfl, h⟩ := h
  refine ⟨_, (pss_cons (ps_set (i := 1) sc__law_odd.nd rfl (by first | exact Or.inl rfl | exact Or.inr rfl) (pe_lst (pa_cons pe_non (pa_cons pe_bl (pa_cons pe_bl (pa_cons pe_str (pa_cons pe_str (pa_cons pe_str (pa_cons (pe_lst pa_nil) (pa_cons (pe_tup pa_nil) (pa_cons pe_dnewK (pa_cons (pe_lst (pa_cons pe_int pa_nil)) (pa_cons (pe_tup (pa_cons pe_int pa_nil)) (pa_cons pe_str (pa_cons (pe_un un_neg pe_int) (pa_cons (pe_op op_pow pe_int pe_int) (pa_cons pe_str (pa_cons (pe_lst (pa_cons pe_str pa_nil)) (pa_cons (pe_tup (pa_cons pe_str (pa_cons pe_str pa_nil))) (pa_cons pe_int (pa_cons pe_int pa_nil))))))))))))))))))))) (pss_one (ps_ret (pe_call G__law_choice (hr.mono (by decide)) (by rfl) A.g__law_choice A.F__law_choice.kp A.b__law_choice .nil pass0 (pa_cons (pv 0) (pa_cons (pv 1) pa_nil)))))), ?_⟩
  walk_at "wp"
  obtain ⟨r, rfl, hR, q⟩ := h
  refine ⟨sm20 (by decide), fun p1 n1 => ?_⟩
  have R1 := hR.new (o := .lst []) n1 rfl
  have k1 := KeepX.new (r := r) (o := .lst []) n1
  have P1 : Pl (upd H p1 (.lst [])) r (.ref p1) := pl_lst upd_same (hR.ne n1)
  generalize upd H p1 (.lst []) = H1 at *
  refine ⟨sm20 (by decide), fun p2 n2 => ?_⟩
  have R2 := R1.new (o := .tup []) n2 rfl
  have k2 := KeepX.new (r := r) (o := .tup []) n2
  have P2 : Pl (upd H1 p2 (.tup [])) r (.ref p2) := pl_tup upd_same (R1.ne n2)
  generalize upd H1 p2 (.tup []) = H2 at *
  intro p3 n3
  have R3 := R2.new (o := .dK []) n3 rfl
  have k3 := KeepX.new (r := r) (o := .dK []) n3
  have P3 : Pl (upd H2 p3 (.dK [])) r (.ref p3) := pl_dK upd_same (R2.ne n3)
  generalize upd H2 p3 (.dK []) = H3 at *
  refine ⟨sm20 (by show 1 ≤ 100; decide), fun p4 n4 => ?_⟩
  have R4 := R3.new (o := .lst [.int 3]) n4 rfl
  have k4 := KeepX.new (r := r) (o := .lst [.int 3]) n4
  have P4 : Pl (upd H3 p4 (.lst [.int 3])) r (.ref p4) := pl_lst upd_same (R3.ne n4)
  generalize upd H3 p4 (.lst [.int 3]) = H4 at *
  refine ⟨sm20 (by show 1 ≤ 100; decide), fun p5 n5 => ⟨⟨by decide, by decide, by decide⟩, ?_⟩⟩
  have R5 := R4.new (o := .tup [.int 1]) n5 rfl
  have k5 := KeepX.new (r := r) (o := .tup [.int 1]) n5
  have P5 : Pl (upd H4 p5 (.tup [.int 1])) r (.ref p5) := pl_tup upd_same (R4.ne n5)
  generalize upd H4 p5 (.tup [.int 1]) = H5 at *
  refine ⟨sm20 (by show 1 ≤ 100; decide), fun p6 n6 => ?_⟩
  have R6 := R5.new (o := .lst [.str "0"]) n6 rfl
  have k6 := KeepX.new (r := r) (o := .lst [.str "0"]) n6
  have P6 : Pl (upd H5 p6 (.lst [.str "0"])) r (.ref p6) := pl_lst upd_same (R5.ne n6)
  generalize upd H5 p6 (.lst [.str "0"]) = H6 at *
  refine ⟨sm20 (by show 2 ≤ 100; decide), fun p7 n7 => ?_⟩
  have R7 := R6.new (o := .tup [.str "0", .str "1"]) n7 rfl
  have k7 := KeepX.new (r := r) (o := .tup [.str "0", .str "1"]) n7
  have P7 : Pl (upd H6 p7 (.tup [.str "0", .str "1"])) r (.ref p7) := pl_tup upd_same (R6.ne n7)
  generalize upd H6 p7 (.tup [.str "0", .str "1"]) = H7 at *
  refine ⟨sm20 (by show 19 ≤ 100; decide), fun p8 n8 => ⟨_, _, rfl, r, p8, _, rfl, rfl, R7.ne n8, R7.new n8 rfl, upd_same, by show 0 < 19; decide, by show 19 ≤ 1000; decide, fun v H' hv k hR' => ?_⟩⟩
  have k8 := KeepX.trans (KeepX.new (r := r) n8) k
  refine q v H' ?_ (((((((k1.trans k2).trans k3).trans k4).trans k5).trans k6).trans k7).trans k8) hR'
  simp only [List.mem_cons, List.not_mem_nil, or_false] at hv
  rcases hv with rfl | rfl | rfl | rfl | rfl | rfl | rfl | rfl | rfl | rfl | rfl | rfl | rfl | rfl | rfl | rfl | rfl | rfl | rfl
  · exact pl_non
  · exact pl_bl
  · exact pl_bl
  · exact pl_str (by decide) (by decide +kernel)
  · exact pl_str (by decide) (by decide +kernel)
  · exact pl_str (by decide) (by decide +kernel)
  · exact P1.keep ((((((k2.trans k3).trans k4).trans k5).trans k6).trans k7).trans k8)
  · exact P2.keep (((((k3.trans k4).trans k5).trans k6).trans k7).trans k8)
  · exact P3.keep ((((k4.trans k5).trans k6).trans k7).trans k8)
  · exact P4.keep (((k5.trans k6).trans k7).trans k8)
  · exact P5.keep ((k6.trans k7).trans k8)
  · exact pl_str (by decide) (by decide +kernel)
  · exact pl_int
  · exact pl_int
  · exact pl_str (by decide) (by decide +kernel)
  · exact P6.keep (k7.trans k8)
  · exact P7.keep k8
  · exact pl_int
  · exact pl_int
include A in
theorem ok__law_bits : FnOk P w K mg base CX0 4 A.f__law_bits A.fd__law_bits ["_law_rng_here"] spOdd := by
  have G__law_odd := ok__law_odd (P := P) (w := w) (base := base) A
  have G__law_draw := ok__law_draw (P := P) (w := w) (base := base) A
  refine A.F__law_bits.ok sc__law_bits (fun vs H Q E h => ?_) (fun cdv Ar outer s H vs Q E hr h => ?_)
  · obtain ⟨_, rfl, _⟩ := h
    rfl
  obtain ⟨x, rfl, h⟩ := h
  refine ⟨_, (pss_cons (ps_set (i := 1) sc__law_bits.nd rfl (by first | exact Or.inl rfl | exact Or.inr rfl) (pe_call G__law_draw (hr.mono (by decide)) (by rfl) A.g__law_draw A.F__law_draw.kp A.b__law_draw .nil pass0 (pa_cons (pv 0) (pa_cons pe_int pa_nil)))) (pss_cons (ps_if (pt_cmpR op_eq (pv 1) pe_int (nomark _)) (pss_one (ps_ret (pe_call G__law_odd (hr.mono (by decide)) (by rfl) A.g__law_odd A.F__law_odd.kp A.b__law_odd .nil pass0 (pa_cons (pv 0) pa_nil)))) pss_nil) (pss_one (ps_ret (pe_ifExp (pt_cmpR op_eq (pv 1) pe_int (nomark _)) (pe_op op_sub (pe_call G__law_draw (hr.mono (by decide)) (by rfl) A.g__law_draw A.F__law_draw.kp A.b__law_draw .nil pass0 (pa_cons (pv 0) (pa_cons pe_int pa_nil))) pe_int) (pe_op op_addU pe_int (pe_call G__law_draw (hr.mono (by decide)) (by rfl) A.g__law_draw A.F__law_draw.kp A.b__law_draw .nil pass0 (pa_cons (pv 0) (pa_cons pe_int pa_nil))))))))), ?_⟩
  walk_at "wp"
  obtain ⟨r, rfl, hR, q⟩ := h
  refine ⟨_, _, rfl, r, _, rfl, rfl, hR, by decide, log2_small (by decide), fun d H1 d0 d1 k1 R1 => ?_⟩
  walk_at "wp"
  refine ifD (fun h0 => ⟨_, rfl, r, rfl, R1, fun v H2 p2 k2 R2 => q v H2 p2 (k1.trans k2) R2⟩) (fun h0 => ifD (fun h1 => ?_) (fun h1 => ?_))
  · exact ⟨_, _, rfl, r, _, rfl, rfl, R1, by decide, log2_small (by decide), fun e H2 e0 e1 k2 R2 => ⟨e, rfl, q _ _ pl_int (k1.trans k2) R2⟩⟩
  · exact ⟨_, _, rfl, r, _, rfl, rfl, R1, by decide, log2_small (by decide), fun e H2 e0 e1 k2 R2 => q _ _ pl_int (k1.trans k2) R2⟩
def spThing : Sp := fun vs H Q _ => ∃ x y, vs = [x, y] ∧ ∃ (r : Addr), x = .ref r ∧ RngAt H r ∧ Pl H r y ∧ ∀ v H', Pl H' r v → KeepX r H H' → RngAt H' r → Q v H'
include A in
theorem ok__law_thing : FnOk P w K mg base CX0 4 A.f__law_thing A.fd__law_thing ["_law_rng_here", "_law_many"] spThing := by
  have G__law_odd := ok__law_odd (P := P) (w := w) (base := base) A
  have G__law_draw := ok__law_draw (P := P) (w := w) (base := base) A
  have G__law_choice := ok__law_choice (P := P) (w := w) (base := base) A
  have G__law_is_bits := ok__law_is_bits (P := P) (w := w) (base := base) A
  have G__law_power := ok__law_power (P := P) (w := w) (base := base) A
  refine A.F__law_thing.ok sc__law_thing (fun vs H Q E h => ?_) (fun cdv Ar outer s H vs Q E hr h => ?_)
  · obtain ⟨_, _, rfl, _⟩ := h
    rfl
  obtain ⟨x, y, rfl, h⟩ := h
  refine ⟨_, (Evl.pss_cut (ps_set (i := 2) sc__law_thing.nd rfl (by first | exact Or.inl rfl | exact Or.inr rfl) (pe_ifExp (pt_val (pe_call G__law_is_bits (hr.mono (by decide)) (by rfl) A.g__law_is_bits A.F__law_is_bits.kp A.b__law_is_bits .nil pass0 (pa_cons (pv 1) pa_nil))) (pe_call G__law_power (hr.mono (by decide)) (by rfl) A.g__law_power A.F__law_power.kp A.b__law_power .nil pass0 (pa_cons (pv 1) pa_nil)) pe_int)) (pss_cons (ps_set (i := 3) sc__law_thing.nd rfl (by first | exact Or.inl rfl | exact Or.inr rfl) (pe_lst (pa_cons (pe_call G__law_draw (hr.mono (by decide)) (by rfl) A.g__law_draw A.F__law_draw.kp A.b__law_draw .nil pass0 (pa_cons (pv 0) (pa_cons (pv 2) pa_nil))) (pa_cons (pe_op op_sub (pv 2) pe_int) (pa_cons (pv 2) (pa_cons (pe_op op_addU (pe_op op_addU (pv 2) pe_int) (pe_call G__law_draw (hr.mono (by decide)) (by rfl) A.g__law_draw A.F__law_draw.kp A.b__law_draw .nil pass0 (pa_cons (pv 0) (pa_cons pe_int pa_nil)))) (pa_cons (pe_op op_sub (pe_un un_neg pe_int) (pe_call G__law_draw (hr.mono (by decide)) (by rfl) A.g__law_draw A.F__law_draw.kp A.b__law_draw .nil pass0 (pa_cons (pv 0) (pa_cons pe_int pa_nil)))) pa_nil))))))) (pss_one (ps_ret (pe_call G__law_choice (hr.mono (by decide)) (by rfl) A.g__law_choice A.F__law_choice.kp A.b__law_choice .nil pass0 (pa_cons (pv 0) (pa_cons (pe_op op_addU (pv 3) (pe_lst (pa_cons (pe_call G__law_draw (hr.mono (by decide)) (by rfl) A.g__law_draw A.F__law_draw.kp A.b__law_draw .nil pass0 (pa_cons (pv 0) (pa_cons (pe_op op_pow pe_int pe_int) pa_nil))) (pa_cons (pe_call G__law_odd (hr.mono (by decide)) (by rfl) A.g__law_odd A.F__law_odd.kp A.b__law_odd .nil pass0 (pa_cons (pv 0) pa_nil)) (pa_cons pe_int (pa_cons pe_int pa_nil)))))) pa_nil))))))), ?_⟩
  walk_at "wp"
  obtain ⟨r, rfl, hR, hy, q⟩ := h
  refine ⟨fun σ' H' => ∃ sz : Int, σ' = [some (.ref r), some y, some (.int sz), none] ∧ H' = H ∧ 1 ≤ sz ∧ sz ≤ 1024, ⟨_, rfl, hy.1, _, rfl, ifB (fun hb => ?_) (fun hb => ⟨_, rfl, rfl, by decide, by decide⟩)⟩, ?_⟩
  · obtain ⟨n, rfl, h1, h2⟩ := isBits_int hb
    refine ⟨_, rfl, n, rfl, by omega, by omega, _, rfl, rfl, ?_, ?_⟩
    · have := two_pow_le n.toNat 0 (by omega)
      simpa using this
    · exact two_pow_le 10 n.toNat (by omega)
  · rintro _ _ ⟨sz, rfl, rfl, z1, z2⟩
    refine ⟨_, rfl, _, rfl, useDraw hR z1 (by omega) fun d1 H1 _ _ k1 R1 => ⟨_, rfl, sz, rfl, _, rfl, _, rfl, _, rfl, useDraw R1 (by decide) (by decide) fun d2 H2 _ _ k2 R2 => ⟨_, rfl, useDraw R2 (by decide) (by decide) fun d3 H3 _ _ k3 R3 => ⟨d3, rfl, sm20 (by show 5 ≤ 100; decide), fun p np => ?_⟩⟩⟩⟩
    have R4 := R3.new (o := .lst [.int d1, .int (sz - 1), .int sz, .int (sz + 1 + d2), .int (-1 - d3)]) np rfl
    have k4 := KeepX.new (r := r) (o := .lst [.int d1, .int (sz - 1), .int sz, .int (sz + 1 + d2), .int (-1 - d3)]) np
    have e4 : upd H3 p (.lst [.int d1, .int (sz - 1), .int sz, .int (sz + 1 + d2), .int (-1 - d3)]) p = some (.lst [.int d1, .int (sz - 1), .int sz, .int (sz + 1 + d2), .int (-1 - d3)]) := upd_same
    have pr := R3.ne np
    generalize upd H3 p _ = H4 at *
    refine ⟨_, rfl, _, rfl, _, rfl, ⟨by decide, by decide, by decide⟩, useDrawB R4 (by decide) (by decide +kernel) fun d5 H5 _ _ k5 R5 => ⟨_, rfl, _, rfl, r, rfl, R5, fun v H6 p6 k6 R6 => ⟨sm20 (by show 4 ≤ 100; decide), fun p7 n7 => ?_⟩⟩⟩
    have e6 := k6 p _ pr (k5 p _ pr e4)
    have hp7 : p ≠ p7 := ne_of_none e6 n7
    rw [rAdd_ref]
    refine ⟨_, _, by rw [upd_ne hp7, e6]; rfl, by rw [upd_same]; rfl, sm20 (by show 5 + 4 ≤ 100; decide), fun p8 n8 => ?_⟩
    have R7 := R6.new (o := .lst [.int d5, v, .int 0, .int 1]) n7 rfl
    have k7 := KeepX.new (r := r) (o := .lst [.int d5, v, .int 0, .int 1]) n7
    refine ⟨_, _, rfl, r, p8, _, rfl, rfl, R7.ne n8, R7.new n8 rfl, upd_same, by show 0 < 9; decide, by show 9 ≤ 1000; decide, fun x H' hx k hR' => ?_⟩
    have k8 := k7.trans ((KeepX.new (r := r) n8).trans k)
    refine q x H' ?_ (k1.trans (k2.trans (k3.trans (k4.trans (k5.trans (k6.trans k8)))))) hR'
    simp only [List.mem_append, List.mem_cons, List.not_mem_nil, or_false] at hx
    rcases hx with (rfl | rfl | rfl | rfl | rfl) | (rfl | rfl | rfl | rfl)
    all_goals first | exact pl_int | exact p6.keep k8
include A in
theorem ok__law_text : FnOk P w K mg base CX0 4 A.f__law_text A.fd__law_text ["_law_rng_here", "_law_many"] spThing := by
  have G__law_draw := ok__law_draw (P := P) (w := w) (base := base) A
  have G__law_is_bits := ok__law_is_bits (P := P) (w := w) (base := base) A
  refine A.F__law_text.ok sc__law_text (fun vs H Q E h => ?_) (fun cdv Ar outer s H vs Q E hr h => ?_)
  · obtain ⟨_, _, rfl, _⟩ := h
    rfl
  obtain ⟨x, y, rfl, h⟩ := h
  refine ⟨_, (Evl.pss_cut (ps_set (i := 2) sc__law_text.nd rfl (by first | exact Or.inl rfl | exact Or.inr rfl) (pe_ifExp (pt_val (pe_call G__law_is_bits (hr.mono (by decide)) (by rfl) A.g__law_is_bits A.F__law_is_bits.kp A.b__law_is_bits .nil pass0 (pa_cons (pv 1) pa_nil))) (pe_op op_sub (pe_op op_addU (pv 1) (pe_call G__law_draw (hr.mono (by decide)) (by rfl) A.g__law_draw A.F__law_draw.kp A.b__law_draw .nil pass0 (pa_cons (pv 0) (pa_cons pe_int pa_nil)))) pe_int) pe_int)) (Evl.pss_cut (ps_set (i := 2) sc__law_text.nd rfl (by first | exact Or.inl rfl | exact Or.inr rfl) (pe_ix ix_u (pe_lst (pa_cons (pv 2) (pa_cons (pe_call G__law_draw (hr.mono (by decide)) (by rfl) A.g__law_draw A.F__law_draw.kp A.b__law_draw .nil pass0 (pa_cons (pv 0) (pa_cons pe_int pa_nil))) pa_nil))) (pe_call G__law_draw (hr.mono (by decide)) (by rfl) A.g__law_draw A.F__law_draw.kp A.b__law_draw .nil pass0 (pa_cons (pv 0) (pa_cons pe_int pa_nil))) (fun _ _ => rfl))) (Evl.pss_cut (ps_set (i := 3) sc__law_text.nd rfl (by first | exact Or.inl rfl | exact Or.inr rfl) (pe_ix ix_u (pe_lst (pa_cons pe_str (pa_cons pe_str (pa_cons pe_str (pa_cons pe_str pa_nil))))) (pe_call G__law_draw (hr.mono (by decide)) (by rfl) A.g__law_draw A.F__law_draw.kp A.b__law_draw .nil pass0 (pa_cons (pv 0) (pa_cons pe_int pa_nil))) (fun _ _ => rfl))) (pss_one (ps_ret (pe_join pe_str (pe_lc (own := [("_law_k", 4)]) (g := gName 4) (tt := tYes) rfl sc__law_text.nd (pi_range1 (by rfl) A.n_range (pa_cons (pv 2) pa_nil)) (blkOk_by (N := N__law_text) (sc := defScope s__law_text) (by decide +kernel)) (fun _ _ _ _ _ => pg_name (i := 4) sc__law_text.nd rfl (Or.inl rfl)) (fun _ _ _ _ _ => pts_nil) (fun _ _ _ _ _ => (pe_ix ix_u (pv 3) (pe_call G__law_draw (hr.mono (by decide)) (by rfl) A.g__law_draw A.F__law_draw.kp A.b__law_draw .nil pass0 (pa_cons (pv 0) (pa_cons (pe_callB call_lenU (by rfl) A.n_len (by decide +kernel) (pa_cons (pv 3) pa_nil)) pa_nil))) (fun _ _ => rfl)))))))))), ?_⟩
  walk_at "wp"
  obtain ⟨r, rfl, hR, hy, q⟩ := h
  refine ⟨fun σ' H' => ∃ n : Int, σ' = [some (.ref r), some y, some (.int n), none, none] ∧ 0 ≤ n ∧ n ≤ 100 ∧ KeepX r H H' ∧ RngAt H' r, ⟨_, rfl, hy.1, _, rfl, ifB (fun hb => ?_) (fun hb => ⟨_, rfl, by decide, by decide, KeepX.refl, hR⟩)⟩, ?_⟩
  · obtain ⟨n, rfl, h1, h2⟩ := isBits_int hb
    exact useDraw hR (by decide) (by decide) fun d1 H1 _ _ k1 R1 => ⟨_, rfl, _, rfl, by omega, by omega, k1, R1⟩
  rintro _ H1 ⟨n, rfl, n0, n1, k1, R1⟩
  refine ⟨fun σ' H' => ∃ n : Int, σ' = [some (.ref r), some y, some (.int n), none, none] ∧ 0 ≤ n ∧ n ≤ 100 ∧ KeepX r H H' ∧ RngAt H' r, ⟨_, rfl, _, rfl, useDraw R1 (by decide) (by decide) fun d2 H2 _ _ k2 R2 => ⟨sm20 (by show 2 ≤ 100; decide), fun p np => ⟨_, rfl, useDraw (R2.new np rfl) (by decide) (by decide) fun d3 H3 _ _ k3 R3 => ?_⟩⟩⟩, ?_⟩
  · refine ⟨[.int n, .int d2], if d3 = 0 then .int n else .int d2, by rw [k3 p _ (R2.ne np) upd_same]; rfl, ?_, ?_⟩
    · rcases (show d3 = 0 ∨ d3 = 1 by omega) with rfl | rfl <;> rfl
    · by_cases h0 : d3 = 0
      · rw [if_pos h0]
        exact ⟨n, rfl, n0, n1, k1.trans (k2.trans ((KeepX.new np).trans k3)), R3⟩
      · rw [if_neg h0]
        exact ⟨d2, rfl, by omega, by omega, k1.trans (k2.trans ((KeepX.new np).trans k3)), R3⟩
  rintro _ H2 ⟨n, rfl, n0, n1, k2, R2⟩
  refine ⟨fun σ' H' => ∃ z : Str, σ' = [some (.ref r), some y, some (.int n), some (.str z), none] ∧ 0 < z.length ∧ z.length ≤ 100 ∧ PyData.strOk z = true ∧ KeepX r H H' ∧ RngAt H' r, ⟨sm20 (by show 4 ≤ 100; decide), fun p np => ⟨_, rfl, useDraw (R2.new np rfl) (by decide) (by decide) fun d3 H3 _ _ k3 R3 => ?_⟩⟩, ?_⟩
  · refine ⟨_, if d3 = 3 then .str "01 2x*,-" else .str "01", by rw [k3 p _ (R2.ne np) upd_same]; rfl, ?_, ?_⟩
    · rcases (show d3 = 0 ∨ d3 = 1 ∨ d3 = 2 ∨ d3 = 3 by omega) with rfl | rfl | rfl | rfl <;> rfl
    · by_cases h0 : d3 = 3
      · rw [if_pos h0]
        exact ⟨_, rfl, by decide, by decide, by decide +kernel, k2.trans ((KeepX.new np).trans k3), R3⟩
      · rw [if_neg h0]
        exact ⟨_, rfl, by decide, by decide, by decide +kernel, k2.trans ((KeepX.new np).trans k3), R3⟩
  rintro _ H3 ⟨z, rfl, z0, z1, z2, k3, R3⟩
  refine ⟨⟨_, rfl⟩, lcDraw (r := r) n (fun R h => ⟨_, rfl, h⟩) (by omega) (by omega) (fun v => ∃ c, v = chV c ∧ c ∈ z.cps.toList) R3 (fun _ => rfl) (fun i H4 hi k4 R4 R h => ?_) (fun D H4 xs l1 l2 l3 l4 l5 l6 => ?_)⟩
  · refine ⟨_, rfl, _, rfl, _, rfl, Nat.le_trans z1 (by decide), ?_⟩
    show spDraw [V.ref r, V.int z.length] H4 (fun y H2 => rIxU (.str z) y H2 R) E0
    refine useDraw R4 (by omega) (by omega) fun d H5 d0 d1 k5 R5 => ?_
    obtain ⟨c, c1, c2⟩ := str_at d0 d1
    exact ⟨Nat.le_trans z1 (by decide), c, c1, h _ _ ⟨c, rfl, c2⟩ k5 R5⟩
  · obtain ⟨cs, rfl, hcs⟩ := ch_list l2
    rw [List.length_map] at l1
    refine ⟨_, rfl, D, rfl, cs.map chS, .inl (.inl (.inl (by rw [l4, ch_V]))), ?_, q _ _ (pl_str ?_ ?_) (k3.trans l5) l6⟩
    · rw [ch_sum, List.length_map, show (Str.ofString "").length = 0 from rfl, l1]
      omega
    · rw [join_len, l1]
      omega
    · exact join_ok fun c hc => strOk_mem z2 (hcs c hc)
theorem kb_is_bits_0_value (A : All K mg) : KBn K A.fd_is_bits ["value"] 0 ["value"] (gP [0]) (gP [0]) :=
  funKB A.F_is_bits 0 ["value"] [0] fun _ _ _ _ _ _ us ws h1 h2 => match us, ws, h1, h2 with | [], [_], _, _ => rfl
theorem kb_is_value_0_value_bits (A : All K mg) : KBn K A.fd_is_value ["value", "bits"] 0 ["value", "bits"] (gP [0, 1]) (gP [0, 1]) :=
  funKB A.F_is_value 0 ["value", "bits"] [0, 1] fun _ _ _ _ _ _ us ws h1 h2 => match us, ws, h1, h2 with | [], [_, _], _, _ => rfl
theorem kb_is_range_0_value_bits (A : All K mg) : KBn K A.fd_is_range ["value", "bits"] 0 ["value", "bits"] (gP [0, 1]) (gP [0, 1]) :=
  funKB A.F_is_range 0 ["value", "bits"] [0, 1] fun _ _ _ _ _ _ us ws h1 h2 => match us, ws, h1, h2 with | [], [_, _], _, _ => rfl
theorem bools6 : ∀ a b c : Bool, (PyData.list [.bool a, .bool b, .bool c, .bool a, .bool b, .bool c]).showable = true ∧ (PyData.list [.bool a, .bool b, .bool c, .bool a, .bool b, .bool c]).depth ≤ 50 ∧ (PyData.list [.bool a, .bool b, .bool c, .bool a, .bool b, .bool c]).shown.length ≤ sizeLine := by decide +kernel
theorem dp6 {K : PySem.W.Frag} {H : Hp} {p : Addr} {a b c : Bool} (h : H p = some (.lst ([.bl a, .bl b, .bl c] ++ [.bl a, .bl b, .bl c]))) : Dp K H (.ref p) (.list [.bool a, .bool b, .bool c, .bool a, .bool b, .bool c]) :=
  .lst (.inl (.inl h)) (.cons (.bl a) (.cons (.bl b) (.cons (.bl c) (.cons (.bl a) (.cons (.bl b) (.cons (.bl c) .nil))))))
theorem repr6 {K : PySem.W.Frag} {H : Hp} {p : Addr} {a b c : Bool} {Q : VK} (h : H p = some (.lst ([.bl a, .bl b, .bl c] ++ [.bl a, .bl b, .bl c]))) (q : Q (.str (PyData.list [.bool a, .bool b, .bool c, .bool a, .bool b, .bool c]).shown) H) : rRepr K [.ref p] H Q :=
  ⟨_, _, rfl, dp6 h, (bools6 a b c).1, (bools6 a b c).2.1, (bools6 a b c).2.2, q⟩
include A in
theorem ok_law_rangeD : FnOk P w K mg base CX0 3 A.f__law_is_range A.fd__law_is_range ["_law_thing_here", "_law_many"] spRngD :=
  fnDrop (ok__law_is_range A) fun vs H Q E ⟨v, b, e, n, p, sm, pb, q⟩ => ⟨v, b, e, p, sm, pb, fun H' s => ⟨H, drop_same n s, q⟩⟩
def spRight : Sp := fun vs H Q _ => ∃ m v, vs = [m, v] ∧ NoDT H ∧ Plain H m ∧ Plain H v ∧ Sm v ∧ ∀ H', Same H H' → Q (.bl true) H'
include A in
theorem ok__law_right : FnG P w K mg base CX0 4 A.f__law_right A.fd__law_right ["_law_many", "_law_thing_here"] spRight := by
  have G_is_bits := ok_is_bits (P := P) (w := w) (base := base) A
  have G_is_value := ok_is_value (P := P) (w := w) (base := base) A
  have G_is_range := ok_rangeD (P := P) (w := w) (base := base) A
  have G__law_is_bits := ok__law_is_bits (P := P) (w := w) (base := base) A
  have G__law_is_value := ok__law_is_value (P := P) (w := w) (base := base) A
  have G__law_is_range := ok_law_rangeD (P := P) (w := w) (base := base) A
  refine funG A.F__law_right sc__law_right (fun vs H Q E h => ?_) (fun cdv Ar outer s H vs Q E hr gd h => ?_)
  · obtain ⟨_, _, rfl, _⟩ := h
    rfl
  obtain ⟨m, v, rfl, h⟩ := h
  refine ⟨_, (pss_cons (ps_set (i := 2) sc__law_right.nd rfl (by first | exact Or.inl rfl | exact Or.inr rfl) (pe_lst (pa_cons (pe_call G_is_bits (hr.mono (by decide)) (by rfl) A.g_is_bits A.F_is_bits.kp A.b_is_bits .nil pass0 (pa_cons (pv 1) pa_nil)) (pa_cons (pe_call G_is_value (hr.mono (by decide)) (by rfl) A.g_is_value A.F_is_value.kp A.b_is_value .nil pass0 (pa_cons (pv 1) (pa_cons (pv 0) pa_nil))) (pa_cons (pe_call G_is_range (hr.mono (by decide)) (by rfl) A.g_is_range A.F_is_range.kp A.b_is_range .nil pass0 (pa_cons (pv 1) (pa_cons (pv 0) pa_nil))) pa_nil))))) (pss_cons (ps_set (i := 2) sc__law_right.nd rfl (by first | exact Or.inl rfl | exact Or.inr rfl) (pe_op op_addU (pv 2) (pe_lst (pa_cons (pe_callN0 G_is_bits (hr.mono (by decide)) (by rfl) A.g_is_bits A.F_is_bits.kp (kb_is_bits_0_value A) pass0 (pk_cons (pv 1) pk_nil)) (pa_cons (pe_callN0 G_is_value (hr.mono (by decide)) (by rfl) A.g_is_value A.F_is_value.kp (kb_is_value_0_value_bits A) pass0 (pk_cons (pv 1) (pk_cons (pv 0) pk_nil))) (pa_cons (pe_callN0 G_is_range (hr.mono (by decide)) (by rfl) A.g_is_range A.F_is_range.kp (kb_is_range_0_value_bits A) pass0 (pk_cons (pv 1) (pk_cons (pv 0) pk_nil))) pa_nil)))))) (pss_cons (ps_set (i := 3) sc__law_right.nd rfl (by first | exact Or.inl rfl | exact Or.inr rfl) (pe_lst (pa_cons (pe_call G__law_is_bits (hr.mono (by decide)) (by rfl) A.g__law_is_bits A.F__law_is_bits.kp A.b__law_is_bits .nil pass0 (pa_cons (pv 1) pa_nil)) (pa_cons (pe_call G__law_is_value (hr.mono (by decide)) (by rfl) A.g__law_is_value A.F__law_is_value.kp A.b__law_is_value .nil pass0 (pa_cons (pv 1) (pa_cons (pv 0) pa_nil))) (pa_cons (pe_call G__law_is_range (hr.mono (by decide)) (by rfl) A.g__law_is_range A.F__law_is_range.kp A.b__law_is_range .nil pass0 (pa_cons (pv 1) (pa_cons (pv 0) pa_nil))) pa_nil))))) (pss_one (ps_ret (pe_cmpR op_eq (pe_callB (call_reprD gd (by have := hr.units; exact this)) (by rfl) A.n_repr (by decide +kernel) (pa_cons (pv 2) pa_nil)) (pe_callB (call_reprD gd (by have := hr.units; exact this)) (by rfl) A.n_repr (by decide +kernel) (pa_cons (pe_op op_addU (pv 3) (pv 3)) pa_nil)) (nomark _))))))), ?_⟩
  walk_at "wp"
  obtain ⟨nd, pm, pv, sm, q⟩ := h
  refine ⟨v, rfl, pv, v, m, rfl, pv, pm, v, m, rfl, nd, pv, sm, pm, sm20 (by decide), fun p1 n1 => ?_⟩
  have s1 := Cv.Same.new (o := .lst [.bl (isBits v), .bl (isVal v m), .bl (isRng v m)]) n1
  have nd1 := nd.upd (p := p1) (o := .lst [.bl (isBits v), .bl (isVal v m), .bl (isRng v m)]) rfl
  have e1 : upd H p1 (.lst [.bl (isBits v), .bl (isVal v m), .bl (isRng v m)]) p1 = some (.lst [.bl (isBits v), .bl (isVal v m), .bl (isRng v m)]) := upd_same
  generalize upd H p1 _ = H1 at *
  have pv1 := pv.same s1
  have pm1 := pm.same s1
  refine ⟨v, rfl, pv1, v, m, rfl, pv1, pm1, v, m, rfl, nd1, pv1, sm, pm1, sm20 (by decide), fun p2 n2 => ?_⟩
  refine ⟨_, by rw [upd_ne (ne_of_none e1 n2), e1]; rfl, _, by rw [upd_same]; rfl, sm20 (by show 6 ≤ 100; decide), fun p3 n3 => ?_⟩
  have s3 := Same.trans s1 (Same.trans (Cv.Same.new (o := .lst [.bl (isBits v), .bl (isVal v m), .bl (isRng v m)]) n2) (Cv.Same.new (o := .lst ([.bl (isBits v), .bl (isVal v m), .bl (isRng v m)] ++ [.bl (isBits v), .bl (isVal v m), .bl (isRng v m)])) n3))
  have nd3 := (nd1.upd (p := p2) (o := .lst [.bl (isBits v), .bl (isVal v m), .bl (isRng v m)]) rfl).upd (p := p3) (o := .lst ([.bl (isBits v), .bl (isVal v m), .bl (isRng v m)] ++ [.bl (isBits v), .bl (isVal v m), .bl (isRng v m)])) rfl
  have e3 : upd (upd H1 p2 (.lst [.bl (isBits v), .bl (isVal v m), .bl (isRng v m)])) p3 (.lst ([.bl (isBits v), .bl (isVal v m), .bl (isRng v m)] ++ [.bl (isBits v), .bl (isVal v m), .bl (isRng v m)])) p3 = some (.lst ([.bl (isBits v), .bl (isVal v m), .bl (isRng v m)] ++ [.bl (isBits v), .bl (isVal v m), .bl (isRng v m)])) := upd_same
  generalize upd (upd H1 p2 _) p3 _ = H3 at *
  have pv3 := pv.same s3
  have pm3 := pm.same s3
  refine ⟨v, rfl, pv3, v, m, rfl, pv3, pm3, v, m, rfl, nd3, pv3, sm, pm3, sm20 (by decide), fun p4 n4 => repr6 (by rw [upd_ne (ne_of_none e3 n4), e3]) ?_⟩
  refine ⟨_, by rw [upd_same]; rfl, _, by rw [upd_same]; rfl, sm20 (by show 6 ≤ 100; decide), fun p5 n5 => repr6 upd_same ?_⟩
  rw [rEq_str, decide_eq_true rfl]
  exact q _ (Same.trans s3 (Same.trans (Cv.Same.new n4) (Cv.Same.new n5)))
def spRightD : Sp := fun vs H Q _ => ∃ m v, vs = [m, v] ∧ NoDT H ∧ Plain H m ∧ Plain H v ∧ Sm v ∧ Q (.bl true) H
include A in
theorem ok_rightD : FnG P w K mg base CX0 4 A.f__law_right A.fd__law_right ["_law_many", "_law_thing_here"] spRightD :=
  fnGDrop (ok__law_right A) fun vs H Q E ⟨m, v, e, n, pm, pv, sm, q⟩ => ⟨m, v, e, n, pm, pv, sm, fun H' s => ⟨H, drop_same n s, q⟩⟩
def spLaw (K : PySem.W.Frag) : Sp := fun vs H Q _ => ∃ x, vs = [x] ∧ ∃ (a : Addr) (ns : List Int), x = .ref a ∧ SqL K H a (ns.map V.int) ∧ ns.length ≤ 63 ∧ NoDT H ∧ ∀ H', Q (.bl true) H'
include A in
theorem ok_law : FnG P w K mg base CX0 5 A.f_law A.fd_law ["_law_script"] (spLaw K) := by
  have G__law_rng := ok__law_rng (P := P) (w := w) (base := base) A
  have G__law_bits := ok__law_bits (P := P) (w := w) (base := base) A
  have G__law_thing := ok__law_thing (P := P) (w := w) (base := base) A
  have G__law_text := ok__law_text (P := P) (w := w) (base := base) A
  have G__law_right := ok_rightD (P := P) (w := w) (base := base) A
  refine funG A.F_law sc_law (fun vs H Q E h => ?_) (fun cdv Ar outer s H vs Q E hr gd h => ?_)
  · obtain ⟨_, rfl, _⟩ := h
    rfl
  obtain ⟨x, rfl, h⟩ := h
  refine ⟨_, (pss_cons (ps_for PassesOwn.never rfl (pi_range1 (by rfl) A.n_range (pa_cons (pe_callB (call_max2 rfl) (by rfl) A.n_max (by decide +kernel) (pa_cons pe_int (pa_cons (pe_callB (call_min2 rfl) (by rfl) A.n_min (by decide +kernel) (pa_cons (pe_callB call_len_seq (by rfl) A.n_len (by decide +kernel) (pa_cons (pv 0) pa_nil)) (pa_cons pe_int pa_nil))) pa_nil))) pa_nil)) (pg_name (i := 1) sc_law.nd rfl (by first | exact Or.inl rfl | exact Or.inr rfl)) (pss_cons (ps_set (i := 2) sc_law.nd rfl (by first | exact Or.inl rfl | exact Or.inr rfl) (pe_call G__law_rng (hr.mono (by decide)) (by rfl) A.g__law_rng A.F__law_rng.kp A.b__law_rng .nil pass0 (pa_cons (pv 0) (pa_cons (pv 1) pa_nil)))) (pss_one (ps_for PassesOwn.never rfl (pi_range1 (by rfl) A.n_range (pa_cons pe_int pa_nil)) (pg_name (i := 3) sc_law.nd rfl (by first | exact Or.inl rfl | exact Or.inr rfl)) (pss_cons (ps_set (i := 4) sc_law.nd rfl (by first | exact Or.inl rfl | exact Or.inr rfl) (pe_call G__law_bits (hr.mono (by decide)) (by rfl) A.g__law_bits A.F__law_bits.kp A.b__law_bits .nil pass0 (pa_cons (pv 2) pa_nil))) (pss_one (ps_for PassesOwn.never rfl (pi_tup (pe_tup (pa_cons (pv 4) (pa_cons (pe_call G__law_thing (hr.mono (by decide)) (by rfl) A.g__law_thing A.F__law_thing.kp A.b__law_thing .nil pass0 (pa_cons (pv 2) (pa_cons (pv 4) pa_nil))) (pa_cons (pe_call G__law_text (hr.mono (by decide)) (by rfl) A.g__law_text A.F__law_text.kp A.b__law_text .nil pass0 (pa_cons (pv 2) (pa_cons (pv 4) pa_nil))) pa_nil))))) (pg_name (i := 5) sc_law.nd rfl (by first | exact Or.inl rfl | exact Or.inr rfl)) (pss_one (ps_if (pt_not (pt_val (pe_callG G__law_right (hr.mono (by decide)) gd (by rfl) A.g__law_right A.F__law_right.kp A.b__law_right .nil pass0 (pa_cons (pv 4) (pa_cons (pv 5) pa_nil))))) (pss_one (ps_ret pe_bl)) pss_nil))))))))) (pss_one (ps_ret pe_bl))), ?_⟩
  walk_at "wp"
  obtain ⟨a, ns, rfl, hS, hl, nd, q⟩ := h
  obtain ⟨n, hn, n0, n1⟩ : ∃ n : Int, (if (if 8 < ((ns.map V.int).length : Int) then (8 : Int) else ((ns.map V.int).length : Int)) > 1 then (if 8 < ((ns.map V.int).length : Int) then (8 : Int) else ((ns.map V.int).length : Int)) else 1) = n ∧ 0 ≤ n ∧ n ≤ 8 := ⟨_, rfl, by split <;> split <;> omega, by split <;> split <;> omega⟩
  refine forR n (fun R h => ?_) (by omega) (by omega) (fun i σ' H' => (∃ y1 y2 y3 y4 y5, σ' = [some (.ref a), y1, y2, y3, y4, y5]) ∧ Same H H' ∧ NoDT H') ⟨⟨_, _, _, _, _, rfl⟩, Same.refl H, nd⟩ ?_ ?_
  · walk_at "wp"
    exact ⟨_, .inl hS, _, _, ⟨rfl, rfl⟩, _, _, ⟨rfl, rfl⟩, by rw [hn]; exact h⟩
  · rintro i _ H1 hi ⟨⟨y1, y2, y3, y4, y5, rfl⟩, s1, nd1⟩
    walk_at "wp"
    refine ⟨_, _, rfl, a, (i : Int), ns, rfl, rfl, Same.seq s1 hS, by omega, by omega, fun r o hr ho => ?_⟩
    have R1 : RngAt (upd H1 r o) r := ⟨nd1.upd ho.ndt, o, upd_same, ho⟩
    refine forR 30 (fun R h => h) (by decide) (by decide) (fun j σ' H' => (∃ y3 y4 y5, σ' = [some (.ref a), some (.int (i : Int)), some (.ref r), y3, y4, y5]) ∧ KeepX r (upd H1 r o) H' ∧ RngAt H' r) ⟨⟨_, _, _, rfl⟩, KeepX.refl, R1⟩ ?_ ?_
    · rintro j _ H2 hj ⟨⟨z3, z4, z5, rfl⟩, k2, R2⟩
      walk_at "wp"
      refine ⟨_, rfl, r, rfl, R2, fun m H3 pm k3 R3 => ?_⟩
      show tFor (iTup _ _) _ _ _ _ _
      rw [forT_eq]
      walk_at "wp"
      refine ⟨_, _, rfl, r, rfl, R3, pm, fun v H4 pv k4 R4 => ⟨_, _, rfl, r, rfl, R4, pm.keep k4, fun u H5 pu k5 R5 => ⟨sm20 (by decide), fun p np => ?_⟩⟩⟩
      have e6 : upd H5 p (.tup [m, v, u]) p = some (.tup [m, v, u]) := upd_same
      have k6 := KeepX.new (r := r) (o := .tup [m, v, u]) np
      have R6 := R5.new (o := .tup [m, v, u]) np rfl
      generalize upd H5 p (.tup [m, v, u]) = H6 at *
      have pm6 := pm.keep (k4.trans (k5.trans k6))
      have pall : ∀ x ∈ [m, v, u], Pl H6 r x := by
        intro x hx
        simp only [List.mem_cons, List.not_mem_nil, or_false] at hx
        rcases hx with rfl | rfl | rfl
        · exact pm6
        · exact pv.keep (k5.trans k6)
        · exact pu.keep k6
      refine forT (H1 := H6) p [m, v, u] (fun R h => h) (.inl (.inl e6)) (fun t σ' H' => (∃ z3 z5, σ' = [some (.ref a), some (.int (i : Int)), some (.ref r), z3, some m, z5]) ∧ H' = H6) ⟨⟨_, _, rfl⟩, rfl⟩ (fun t σ' H' _ h => by rw [h.2]; exact .inl (.inl e6)) ?_ ?_
      · rintro t x _ _ hx ⟨⟨w3, w5, rfl⟩, rfl⟩
        walk_at "wp"
        have px := pall x (List.mem_of_getElem? hx)
        exact ⟨m, x, rfl, R6.1, pm6.1, px.1, px.2.2, _, rfl, ⟨_, rfl⟩, rfl⟩
      · rintro _ _ ⟨⟨w3, w5, rfl⟩, rfl⟩
        exact ⟨⟨_, _, _, rfl⟩, k2.trans (k3.trans (k4.trans (k5.trans k6))), R6⟩
    · rintro _ H2 ⟨⟨z3, z4, z5, rfl⟩, k2, R2⟩
      exact ⟨⟨_, _, _, _, _, rfl⟩, Same.trans s1 (same_made hr k2), R2.1⟩
  · rintro _ H1 _
    exact q H1
end
def d_is_integer : He.DefD := ⟨("is_integer", none), "is_integer", "is_integer", defArgs s_is_integer, defBody s_is_integer, defScope s_is_integer, [], []⟩
def d_is_bits : He.DefD := ⟨("is_bits", none), "is_bits", "is_bits", defArgs s_is_bits, defBody s_is_bits, defScope s_is_bits, [], []⟩
def d_is_value : He.DefD := ⟨("is_value", none), "is_value", "is_value", defArgs s_is_value, defBody s_is_value, defScope s_is_value, [], []⟩
def d_is_range : He.DefD := ⟨("is_range", none), "is_range", "is_range", defArgs s_is_range, defBody s_is_range, defScope s_is_range, [], []⟩
def d__law_rng : He.DefD := ⟨("_law_rng", none), "_law_rng", "_law_rng", defArgs s__law_rng, defBody s__law_rng, defScope s__law_rng, [], []⟩
def d__law_draw : He.DefD := ⟨("_law_draw", none), "_law_draw", "_law_draw", defArgs s__law_draw, defBody s__law_draw, defScope s__law_draw, [], []⟩
def d__law_choice : He.DefD := ⟨("_law_choice", none), "_law_choice", "_law_choice", defArgs s__law_choice, defBody s__law_choice, defScope s__law_choice, [], []⟩
def d__law_is_integer : He.DefD := ⟨("_law_is_integer", none), "_law_is_integer", "_law_is_integer", defArgs s__law_is_integer, defBody s__law_is_integer, defScope s__law_is_integer, [], []⟩
def d__law_power : He.DefD := ⟨("_law_power", none), "_law_power", "_law_power", defArgs s__law_power, defBody s__law_power, defScope s__law_power, [], []⟩
def d__law_is_bits : He.DefD := ⟨("_law_is_bits", none), "_law_is_bits", "_law_is_bits", defArgs s__law_is_bits, defBody s__law_is_bits, defScope s__law_is_bits, [], []⟩
def d__law_is_value : He.DefD := ⟨("_law_is_value", none), "_law_is_value", "_law_is_value", defArgs s__law_is_value, defBody s__law_is_value, defScope s__law_is_value, [], []⟩
def d__law_is_range : He.DefD := ⟨("_law_is_range", none), "_law_is_range", "_law_is_range", defArgs s__law_is_range, defBody s__law_is_range, defScope s__law_is_range, [], []⟩
def d__law_odd : He.DefD := ⟨("_law_odd", none), "_law_odd", "_law_odd", defArgs s__law_odd, defBody s__law_odd, defScope s__law_odd, [], []⟩
def d__law_bits : He.DefD := ⟨("_law_bits", none), "_law_bits", "_law_bits", defArgs s__law_bits, defBody s__law_bits, defScope s__law_bits, [], []⟩
def d__law_thing : He.DefD := ⟨("_law_thing", none), "_law_thing", "_law_thing", defArgs s__law_thing, defBody s__law_thing, defScope s__law_thing, [], []⟩
def d__law_text : He.DefD := ⟨("_law_text", none), "_law_text", "_law_text", defArgs s__law_text, defBody s__law_text, defScope s__law_text, [], []⟩
def d__law_right : He.DefD := ⟨("_law_right", none), "_law_right", "_law_right", defArgs s__law_right, defBody s__law_right, defScope s__law_right, [], []⟩
def d_law : He.DefD := ⟨("law", none), "law", "law", defArgs s_law, defBody s_law, defScope s_law, [], []⟩
def fnL : List He.DefD := [d_is_integer, d_is_bits, d_is_value, d_is_range, d__law_rng, d__law_draw, d__law_choice, d__law_is_integer, d__law_power, d__law_is_bits, d__law_is_value, d__law_is_range, d__law_odd, d__law_bits, d__law_thing, d__law_text, d__law_right, d_law]
def faL : List He.Fa := [.glo "is_integer", .glo "is_bits", .glo "is_value", .glo "is_range", .glo "_law_rng", .glo "_law_draw", .glo "_law_choice", .glo "_law_is_integer", .glo "_law_power", .glo "_law_is_bits", .glo "_law_is_value", .glo "_law_is_range", .glo "_law_odd", .glo "_law_bits", .glo "_law_thing", .glo "_law_text", .glo "_law_right", .glo "law", .free "isinstance", .free "int", .free "bool", .free "str", .free "len", .free "all", .free "range", .free "max", .free "min", .free "abs", .free "divmod", .free "repr", .int "MAX_BITS" 10, .str "DIGITS" "01"]
abbrev R : PySem.W.OpenRow := PySem.W.OpenLaw.row PySem.Challenge.rw_coverstore_k11_bits_values_ranges
abbrev hk : PySem.W.Hook := He.hookD 4 faL fnL
def ob (s : PySem.W.SharedT) : He.AlD := He.obsDG 4 faL fnL (HandSHeadRun.getT s)
theorem ob_eq (s : PySem.W.SharedT) : ob s = hk.obs s.abs := He.obsDG_eq (HandSHeadRun.getT_eq s)
def topNames : List Str := ["MAX_BITS", "DIGITS", "is_integer", "is_bits", "is_value", "is_range", "_law_rng", "_law_draw", "_law_choice", "_law_is_integer", "_law_power", "_law_is_bits", "_law_is_value", "_law_is_range", "_law_odd", "_law_bits", "_law_thing", "_law_text", "_law_right"]
theorem run (w : World) : HandSHeadRun.RunEq R (PySem.W.view R.prog [21]) hk ob 4000 topNames w := by
  intro os
  kernel_rfl
theorem facts {K : PySem.W.Frag} {h : Heap} {mg : Str → Option Value} (X : K.In h) (G : h.Ns mainGlobals mg) (c : He.SaysD faL fnL K) : Nonempty (All K mg) := by
  obtain ⟨fd0, D0⟩ := c.def_ 0 (d := d_is_integer) rfl
  obtain ⟨fd1, D1⟩ := c.def_ 1 (d := d_is_bits) rfl
  obtain ⟨fd2, D2⟩ := c.def_ 2 (d := d_is_value) rfl
  obtain ⟨fd3, D3⟩ := c.def_ 3 (d := d_is_range) rfl
  obtain ⟨fd4, D4⟩ := c.def_ 4 (d := d__law_rng) rfl
  obtain ⟨fd5, D5⟩ := c.def_ 5 (d := d__law_draw) rfl
  obtain ⟨fd6, D6⟩ := c.def_ 6 (d := d__law_choice) rfl
  obtain ⟨fd7, D7⟩ := c.def_ 7 (d := d__law_is_integer) rfl
  obtain ⟨fd8, D8⟩ := c.def_ 8 (d := d__law_power) rfl
  obtain ⟨fd9, D9⟩ := c.def_ 9 (d := d__law_is_bits) rfl
  obtain ⟨fd10, D10⟩ := c.def_ 10 (d := d__law_is_value) rfl
  obtain ⟨fd11, D11⟩ := c.def_ 11 (d := d__law_is_range) rfl
  obtain ⟨fd12, D12⟩ := c.def_ 12 (d := d__law_odd) rfl
  obtain ⟨fd13, D13⟩ := c.def_ 13 (d := d__law_bits) rfl
  obtain ⟨fd14, D14⟩ := c.def_ 14 (d := d__law_thing) rfl
  obtain ⟨fd15, D15⟩ := c.def_ 15 (d := d__law_text) rfl
  obtain ⟨fd16, D16⟩ := c.def_ 16 (d := d__law_right) rfl
  obtain ⟨fd17, D17⟩ := c.def_ 17 (d := d_law) rfl
  obtain ⟨ti0, ei0⟩ := He.int_ok X G (c.fact 30 (f := .int "MAX_BITS" 10) rfl)
  obtain ⟨ts0, es0⟩ := He.str_ok X G (c.fact 31 (f := .str "DIGITS" "01") rfl)
  exact ⟨{
    f_is_integer := _
    fd_is_integer := fd0
    F_is_integer := fun_of_D (st := s_is_integer) D0
    g_is_integer := He.glo_ok X G (c.fact 0 (f := .glo "is_integer") rfl)
    b_is_integer := (fun_of_D (st := s_is_integer) D0).binds (ps := ["value"]) fun _ _ _ _ _ _ us hl => match us, hl with | [_], _ => rfl
    f_is_bits := _
    fd_is_bits := fd1
    F_is_bits := fun_of_D (st := s_is_bits) D1
    g_is_bits := He.glo_ok X G (c.fact 1 (f := .glo "is_bits") rfl)
    b_is_bits := (fun_of_D (st := s_is_bits) D1).binds (ps := ["value"]) fun _ _ _ _ _ _ us hl => match us, hl with | [_], _ => rfl
    f_is_value := _
    fd_is_value := fd2
    F_is_value := fun_of_D (st := s_is_value) D2
    g_is_value := He.glo_ok X G (c.fact 2 (f := .glo "is_value") rfl)
    b_is_value := (fun_of_D (st := s_is_value) D2).binds (ps := ["value", "bits"]) fun _ _ _ _ _ _ us hl => match us, hl with | [_, _], _ => rfl
    f_is_range := _
    fd_is_range := fd3
    F_is_range := fun_of_D (st := s_is_range) D3
    g_is_range := He.glo_ok X G (c.fact 3 (f := .glo "is_range") rfl)
    b_is_range := (fun_of_D (st := s_is_range) D3).binds (ps := ["value", "bits"]) fun _ _ _ _ _ _ us hl => match us, hl with | [_, _], _ => rfl
    f__law_rng := _
    fd__law_rng := fd4
    F__law_rng := fun_of_D (st := s__law_rng) D4
    g__law_rng := He.glo_ok X G (c.fact 4 (f := .glo "_law_rng") rfl)
    b__law_rng := (fun_of_D (st := s__law_rng) D4).binds (ps := ["_law_script", "_law_k"]) fun _ _ _ _ _ _ us hl => match us, hl with | [_, _], _ => rfl
    f__law_draw := _
    fd__law_draw := fd5
    F__law_draw := fun_of_D (st := s__law_draw) D5
    g__law_draw := He.glo_ok X G (c.fact 5 (f := .glo "_law_draw") rfl)
    b__law_draw := (fun_of_D (st := s__law_draw) D5).binds (ps := ["_law_rng_here", "_law_many"]) fun _ _ _ _ _ _ us hl => match us, hl with | [_, _], _ => rfl
    f__law_choice := _
    fd__law_choice := fd6
    F__law_choice := fun_of_D (st := s__law_choice) D6
    g__law_choice := He.glo_ok X G (c.fact 6 (f := .glo "_law_choice") rfl)
    b__law_choice := (fun_of_D (st := s__law_choice) D6).binds (ps := ["_law_rng_here", "_law_options"]) fun _ _ _ _ _ _ us hl => match us, hl with | [_, _], _ => rfl
    f__law_is_integer := _
    fd__law_is_integer := fd7
    F__law_is_integer := fun_of_D (st := s__law_is_integer) D7
    g__law_is_integer := He.glo_ok X G (c.fact 7 (f := .glo "_law_is_integer") rfl)
    b__law_is_integer := (fun_of_D (st := s__law_is_integer) D7).binds (ps := ["_law_thing_here"]) fun _ _ _ _ _ _ us hl => match us, hl with | [_], _ => rfl
    f__law_power := _
    fd__law_power := fd8
    F__law_power := fun_of_D (st := s__law_power) D8
    g__law_power := He.glo_ok X G (c.fact 8 (f := .glo "_law_power") rfl)
    b__law_power := (fun_of_D (st := s__law_power) D8).binds (ps := ["_law_many"]) fun _ _ _ _ _ _ us hl => match us, hl with | [_], _ => rfl
    f__law_is_bits := _
    fd__law_is_bits := fd9
    F__law_is_bits := fun_of_D (st := s__law_is_bits) D9
    g__law_is_bits := He.glo_ok X G (c.fact 9 (f := .glo "_law_is_bits") rfl)
    b__law_is_bits := (fun_of_D (st := s__law_is_bits) D9).binds (ps := ["_law_thing_here"]) fun _ _ _ _ _ _ us hl => match us, hl with | [_], _ => rfl
    f__law_is_value := _
    fd__law_is_value := fd10
    F__law_is_value := fun_of_D (st := s__law_is_value) D10
    g__law_is_value := He.glo_ok X G (c.fact 10 (f := .glo "_law_is_value") rfl)
    b__law_is_value := (fun_of_D (st := s__law_is_value) D10).binds (ps := ["_law_thing_here", "_law_many"]) fun _ _ _ _ _ _ us hl => match us, hl with | [_, _], _ => rfl
    f__law_is_range := _
    fd__law_is_range := fd11
    F__law_is_range := fun_of_D (st := s__law_is_range) D11
    g__law_is_range := He.glo_ok X G (c.fact 11 (f := .glo "_law_is_range") rfl)
    b__law_is_range := (fun_of_D (st := s__law_is_range) D11).binds (ps := ["_law_thing_here", "_law_many"]) fun _ _ _ _ _ _ us hl => match us, hl with | [_, _], _ => rfl
    f__law_odd := _
    fd__law_odd := fd12
    F__law_odd := fun_of_D (st := s__law_odd) D12
    g__law_odd := He.glo_ok X G (c.fact 12 (f := .glo "_law_odd") rfl)
    b__law_odd := (fun_of_D (st := s__law_odd) D12).binds (ps := ["_law_rng_here"]) fun _ _ _ _ _ _ us hl => match us, hl with | [_], _ => rfl
    f__law_bits := _
    fd__law_bits := fd13
    F__law_bits := fun_of_D (st := s__law_bits) D13
    g__law_bits := He.glo_ok X G (c.fact 13 (f := .glo "_law_bits") rfl)
    b__law_bits := (fun_of_D (st := s__law_bits) D13).binds (ps := ["_law_rng_here"]) fun _ _ _ _ _ _ us hl => match us, hl with | [_], _ => rfl
    f__law_thing := _
    fd__law_thing := fd14
    F__law_thing := fun_of_D (st := s__law_thing) D14
    g__law_thing := He.glo_ok X G (c.fact 14 (f := .glo "_law_thing") rfl)
    b__law_thing := (fun_of_D (st := s__law_thing) D14).binds (ps := ["_law_rng_here", "_law_many"]) fun _ _ _ _ _ _ us hl => match us, hl with | [_, _], _ => rfl
    f__law_text := _
    fd__law_text := fd15
    F__law_text := fun_of_D (st := s__law_text) D15
    g__law_text := He.glo_ok X G (c.fact 15 (f := .glo "_law_text") rfl)
    b__law_text := (fun_of_D (st := s__law_text) D15).binds (ps := ["_law_rng_here", "_law_many"]) fun _ _ _ _ _ _ us hl => match us, hl with | [_, _], _ => rfl
    f__law_right := _
    fd__law_right := fd16
    F__law_right := fun_of_D (st := s__law_right) D16
    g__law_right := He.glo_ok X G (c.fact 16 (f := .glo "_law_right") rfl)
    b__law_right := (fun_of_D (st := s__law_right) D16).binds (ps := ["_law_many", "_law_thing_here"]) fun _ _ _ _ _ _ us hl => match us, hl with | [_, _], _ => rfl
    f_law := _
    fd_law := fd17
    F_law := fun_of_D (st := s_law) D17
    g_law := He.glo_ok X G (c.fact 17 (f := .glo "law") rfl)
    b_law := (fun_of_D (st := s_law) D17).binds (ps := ["_law_script"]) fun _ _ _ _ _ _ us hl => match us, hl with | [_], _ => rfl
    n_isinstance := He.free_ok X G (c.fact 18 (f := .free "isinstance") rfl)
    n_int := He.free_ok X G (c.fact 19 (f := .free "int") rfl)
    n_bool := He.free_ok X G (c.fact 20 (f := .free "bool") rfl)
    n_str := He.free_ok X G (c.fact 21 (f := .free "str") rfl)
    n_len := He.free_ok X G (c.fact 22 (f := .free "len") rfl)
    n_all := He.free_ok X G (c.fact 23 (f := .free "all") rfl)
    n_range := He.free_ok X G (c.fact 24 (f := .free "range") rfl)
    n_max := He.free_ok X G (c.fact 25 (f := .free "max") rfl)
    n_min := He.free_ok X G (c.fact 26 (f := .free "min") rfl)
    n_abs := He.free_ok X G (c.fact 27 (f := .free "abs") rfl)
    n_divmod := He.free_ok X G (c.fact 28 (f := .free "divmod") rfl)
    n_repr := He.free_ok X G (c.fact 29 (f := .free "repr") rfl)
    u_MAX_BITS := _
    g_MAX_BITS := ei0
    v_MAX_BITS := ⟨ti0, rfl⟩
    u_DIGITS := _
    g_DIGITS := es0
    v_DIGITS := ⟨ts0, rfl⟩ }⟩
theorem bindLaw {K : PySem.W.Frag} {mg : Str → Option Value} (A : All K mg) (s : Shared) (u : Value) : BindsTo s A.fd_law ⟨[u], []⟩ [("_law_script", u)] :=
  fun_bindsA (ps := ["_law_script"]) A.F_law (fun _ _ _ _ _ _ us hl => match us, hl with | [_], _ => rfl) s [u] rfl
end K11
open PySem PySem.W PySem.Calls PyProof.Rows
theorem PySem.Challenge.cw_coverstore_k11_bits_values_ranges_holds : PySem.Challenge.rw_coverstore_k11_bits_values_ranges.Holds := by
  w_on; o_law
  refine HandSHeadRun.head_any (r := K11.R) (q := view K11.R.prog [21]) (H := K11.hk) (ob := K11.ob) (loose := K11.topNames) (d := HandSHeadRun.topDef K11.R.prog 21) (kwd := []) K11.ob_eq
    (by kernel_rfl) (fun s => by kernel_rfl) K11.run (by kernel_rfl) (by kernel_rfl) (by kernel_rfl) (by rfl) (by first | assumption | decide +kernel) (by decide +kernel) ⟨rfl, rfl, rfl, rfl, rfl, by decide +kernel⟩ ?hw ?hc
  case hw => w_witness2
  case hc =>
    refine Cv.walkG (l := PySem.Challenge.rw_coverstore_k11_bits_values_ranges) (n := 63) (k := 5) (x := "_law_script") (CX := L2.CX0) rfl (by decide) (by kernel_rfl) ⟨rfl, by decide, by decide⟩ ?F (fun _ _ _ _ z => z)
    intro w mg fa h Y G hmg0
    obtain ⟨K, KX, c⟩ := Y
    have hmg : mg ("law" : PySem.Str) = some (.ref fa) := by
      have e : (HandSHeadRun.topDef K11.R.prog 21).name = ("law" : PySem.Str) := by kernel_rfl
      rw [← e]
      exact hmg0
    obtain ⟨A⟩ := K11.facts KX G c
    obtain rfl : fa = A.f_law := by
      have e := hmg.symm.trans A.g_law
      injection e with e
      injection e
    exact ⟨K, A.fd_law, K11.spLaw K, KX, K11.bindLaw A, fun H a ns hl _ _ nd hS => ⟨_, rfl, a, ns, rfl, hS, hl, nd, fun _ => rfl⟩, fun base _ _ => K11.ok_law A⟩
