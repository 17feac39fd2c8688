import PyProof.Rows.All
import Wide.All
import OpenK.AllK
import Wide.FinOn
import HandS.ForMost
import HandS.IsInst
import HandS.WideBits
import HandS.Walk
import HandS.EndBits
import HandS.Evl
import HandS.Defaults
import HandS.ExcInit
import HandS.ExcField
import HandS.ExcOwn
import HandS.ExcCtx
import HandS.HotCalls
import HandS.ExcInitHot
import HandS.ClsMeth
import HandS.HeadHook1
import HandS.HeadHook2
import KE.KExcIs
import KE.DataFind
import HandS.Iter
import KE.KBits
import PyProof.StrBlock2
import HandS.Head0
import HandS.Head1
import HandS.Head2
import HandS.HeadEnd
import PySem.Challenge.RW_coverstore_k15_widest_ranges
set_option Elab.async false
set_option linter.all false
set_option maxRecDepth 100000
set_option maxHeartbeats 4000000
/-! CvA: heap looks, wide readings of operators, dropping what a def made for itself, defs that know no repr runs (FnG), repr of data. -/
namespace Cv
open PySem PySem.Spec PyProof.Rows L2

/-! ### looks at a tracked object -/
def lsO : Option HO → Option (List V)
  | some (.lst xs) => some xs
  | some (.frz _ (.lst xs)) => some xs
  | _ => none
def lsM : Option HO → Option (List V)
  | some (.lst xs) => some xs
  | _ => none
def tpO : Option HO → Option (List V)
  | some (.tup xs) => some xs
  | some (.frz _ (.tup xs)) => some xs
  | _ => none
def sqO (o : Option HO) : Option (List V) := match lsO o with
  | some xs => some xs
  | none => tpO o
theorem lsO_lst {xs : List V} : lsO (some (.lst xs)) = some xs := rfl
theorem lsM_lst {xs : List V} : lsM (some (.lst xs)) = some xs := rfl
theorem tpO_tup {xs : List V} : tpO (some (.tup xs)) = some xs := rfl
theorem sqO_lst {xs : List V} : sqO (some (.lst xs)) = some xs := rfl
theorem sqO_tup {xs : List V} : sqO (some (.tup xs)) = some xs := rfl
theorem lsO_sq {K : PySem.W.Frag} {H : Hp} {a : Addr} {xs : List V} (h : lsO (H a) = some xs) : SqL K H a xs := by
  cases e : H a with
  | none => rw [e] at h; cases h
  | some o =>
    rw [e] at h
    cases o with
    | lst ys => cases h; exact .inl (.inl e)
    | frz ob u =>
      cases u with
      | lst ys => cases h; exact .inl (.inr ⟨ob, e⟩)
      | _ => cases h
    | _ => cases h
theorem tpO_sq {K : PySem.W.Frag} {H : Hp} {a : Addr} {xs : List V} (h : tpO (H a) = some xs) : SqT K H a xs := by
  cases e : H a with
  | none => rw [e] at h; cases h
  | some o =>
    rw [e] at h
    cases o with
    | tup ys => cases h; exact .inl (.inl e)
    | frz ob u =>
      cases u with
      | tup ys => cases h; exact .inl (.inr ⟨ob, e⟩)
      | _ => cases h
    | _ => cases h
theorem lsM_at {H : Hp} {a : Addr} {xs : List V} (h : lsM (H a) = some xs) : H a = some (.lst xs) := by
  cases e : H a with
  | none => rw [e] at h; cases h
  | some o =>
    rw [e] at h
    cases o with
    | lst ys => cases h; rfl
    | _ => cases h
theorem sqO_sq {K : PySem.W.Frag} {H : Hp} {a : Addr} {xs : List V} (h : sqO (H a) = some xs) : SqL K H a xs ∨ SqT K H a xs := by
  unfold sqO at h
  cases e : lsO (H a) with
  | some ys =>
    rw [e] at h
    cases h
    exact .inl (lsO_sq e)
  | none =>
    rw [e] at h
    exact .inr (tpO_sq h)

/-! ### readings by implication -/
section
variable {X : Cx}
theorem opImp {f : Value → Value → Sem Value} {r r' : R2} (h : OpR X f r) (i : ∀ x y H Q, r' x y H Q → r x y H Q) : OpR X f r' := fun pins s σ H x y v u Q I rx ry q => h pins s σ H x y v u Q I rx ry (i _ _ _ _ q)
theorem ixImp {r r' : R2} (h : IxR X r) (i : ∀ x y H Q, r' x y H Q → r x y H Q) : IxR X r' := fun va sl pins s σ H x y v u Q I rx ry q e => h va sl pins s σ H x y v u Q I rx ry (i _ _ _ _ q) e
theorem callImp {f : Value} {r r' : List V → Hp → VK → Prop} (h : CallR X f r) (i : ∀ xs H Q, r' xs H Q → r xs H Q) : CallR X f r' := fun pins s σ H xs us Q I rx q => h pins s σ H xs us Q I rx (i _ _ _ q)

/-! ### + of ints, texts, lists -/
def rAdd : R2 := fun x y H Q => match x, y with
  | .int i, .int j => Q (.int (i + j)) H
  | .str a, .str b => a.length + b.length ≤ sizeLine ∧ Q (.str (a ++ b)) H
  | .ref a, .ref b => ∃ xs ys, lsM (H a) = some xs ∧ lsM (H b) = some ys ∧ xs.length + ys.length ≤ sizeLine ∧ ∀ p, H p = none → Q (.ref p) (upd H p (.lst (xs ++ ys)))
  | _, _ => False
theorem op_addU : OpR X (binaryOp .Add) rAdd := by
  intro pins s σ H x y v u Q I rx ry h
  cases x <;> cases y <;> first
    | exact op_add pins s σ H _ _ v u Q I rx ry ⟨_, _, rfl, rfl, h⟩
    | exact op_add_str pins s σ H _ _ v u Q I rx ry ⟨_, _, rfl, rfl, h.1, h.2⟩
    | (obtain ⟨xs, ys, h1, h2, h3, h4⟩ := h; exact op_cat pins s σ H _ _ v u Q I rx ry ⟨_, _, xs, ys, rfl, rfl, lsM_at h1, lsM_at h2, h3, h4⟩)
    | exact False.elim h
/-! ### items of lists, tuples, texts -/
def rIxU : R2 := fun x y H Q => match x, y with
  | .str z, .int i => z.length ≤ sizeLine ∧ ∃ c, atI z.cps.toList i = some c ∧ Q (.str ⟨#[c]⟩) H
  | .ref a, .int i => ∃ xs v, sqO (H a) = some xs ∧ atI xs i = some v ∧ Q v H
  | _, _ => False
theorem ix_u : IxR X rIxU := by
  refine ixImp (r := rIx X.K) ix_seq fun x y H Q h => ?_
  cases x <;> cases y <;> first
    | (obtain ⟨h1, c, h2, h3⟩ := h; exact .inr (.inr ⟨_, _, c, rfl, rfl, h1, h2, h3⟩))
    | (obtain ⟨xs, v, h1, h2, h3⟩ := h
       rcases sqO_sq (K := X.K) h1 with q | q
       · exact .inl ⟨_, xs, _, v, rfl, rfl, q, h2, h3⟩
       · exact .inr (.inl ⟨_, xs, _, v, rfl, rfl, q, h2, h3⟩))
    | exact False.elim h
/-! ### len -/
def rLenU : List V → Hp → VK → Prop := fun vs H Q => match vs with
  | [.str z] => z.length ≤ sizeLine ∧ Q (.int z.length) H
  | [.ref a] => ∃ xs, sqO (H a) = some xs ∧ Q (.int xs.length) H
  | _ => False
theorem call_lenU : CallR X (.builtin "len") rLenU := by
  refine callImp (r := fun xs H Q => ∃ x n, xs = [x] ∧ LenV X.K x H n ∧ Q (.int n) H) call_len fun vs H Q h => ?_
  match vs, h with
  | [.str z], h => exact ⟨_, z.length, rfl, ⟨h.1, rfl⟩, h.2⟩
  | [.ref a], ⟨xs, h1, h2⟩ =>
    refine ⟨_, xs.length, rfl, ?_, h2⟩
    rcases sqO_sq (K := X.K) h1 with q | q
    · exact .inl ⟨xs, q, rfl⟩
    · exact .inr ⟨xs, q, rfl⟩
end

/-! ### dropping what was made on the way -/
/-- what an object's description leans on stands in H'' as in H' -/
def Cl (H' H'' : Hp) : HO → Prop
  | .ins _ dx _ => ∀ o, H' dx = some o → H'' dx = some o
  | .dT _ => ∀ b xs, H' b = some (.tup xs) → H'' b = some (.tup xs)
  | .frz _ u => Cl H' H'' u
  | _ => True
theorem cl_ok {P : Program} {w : World} {H' H'' : Hp} {h : Heap} {a : Addr} : ∀ {o : HO}, Cl H' H'' o → ObjOk P w H' h a o → ObjOk P w H'' h a o
  | .lst _, _, x => x
  | .tup _, _, x => x
  | .dK _, _, x => x
  | .dT kvs, c, x => by
    obtain ⟨z, y, xs, r, q⟩ := x
    exact ⟨z, y, xs, Paired.mapP r fun p q z => ⟨z.1, c _ _ z.2.1, z.2.2⟩, q⟩
  | .set _ _, _, x => x
  | .ins _ _ _, c, ⟨e, q⟩ => ⟨c _ e, q⟩
  | .own _, _, x => x
  | .xd _, _, x => x
  | .met _ _, _, x => x
  | .rng _ _, _, x => x
  | .frz _ u, c, ⟨e, q⟩ => ⟨e, cl_ok (o := u) c q⟩
  | .tbl _, _, x => x
  | .ext _, _, x => x
/-! ### no dict with tuple keys is tracked -/
def ndt : HO → Bool
  | .dT _ => false
  | .frz _ u => ndt u
  | _ => true
def NoDT (H : Hp) : Prop := ∀ a o, H a = some o → ndt o = true
theorem NoDT.upd {H : Hp} {p : Addr} {o : HO} (n : NoDT H) (h : ndt o = true) : NoDT (upd H p o) := fun a u e => by
  by_cases q : a = p
  · rw [q, upd_same] at e
    cases e
    exact h
  · rw [upd_ne q] at e
    exact n a u e
/-- an object of H, in a heap that has all of H's -/
theorem cl_of {P : Program} {w : World} {H H' H'' : Hp} {h : Heap} {a : Addr} : ∀ {o : HO}, ObjOk P w H h a o → ndt o = true → (∀ b u, H b = some u → H'' b = H' b) → Cl H' H'' o
  | .lst _, _, _, _ => trivial
  | .tup _, _, _, _ => trivial
  | .dK _, _, _, _ => trivial
  | .dT _, _, e, _ => by cases e
  | .set _ _, _, _, _ => trivial
  | .ins _ _ _, ⟨e, _⟩, _, k => fun o q => (k _ _ e).trans q
  | .own _, _, _, _ => trivial
  | .xd _, _, _, _ => trivial
  | .met _ _, _, _, _ => trivial
  | .rng _ _, _, _, _ => trivial
  | .frz _ u, ⟨_, q⟩, e, k => cl_of (o := u) q e k
  | .tbl _, _, _, _ => trivial
  | .ext _, _, _, _ => trivial

/-- H'' is H' without some objects that H did not track -/
structure Drop (H H' H'' : Hp) : Prop where
  sub : ∀ b o, H'' b = some o → H' b = some o
  old : ∀ b o, H b = some o → H'' b = H' b
  cl : ∀ b o, H'' b = some o → (H b = some o ∧ ndt o = true) ∨ (∃ C dx fs fs', o = .ins C dx fs ∧ H b = some (.ins C dx fs')) ∨ Cl H' H'' o
theorem Drop.hok {P : Program} {w : World} {H H' H'' : Hp} {h h' : Heap} (d : Drop H H' H'') (x0 : HOk P w H h) (x : HOk P w H' h') : HOk P w H'' h' := fun a o e => by
  have x1 := x a o (d.sub a o e)
  rcases d.cl a o e with ⟨q, n⟩ | ⟨C, dx, fs, fs', rfl, q⟩ | q
  · exact cl_ok (cl_of (x0 a o q) n d.old) x1
  · refine cl_ok (o := .ins C dx fs) (fun u z => ?_) x1
    have x2 := x0 a _ q
    exact (d.old _ _ x2.1).trans z
  · exact cl_ok q x1
theorem Drop.none {H H' H'' : Hp} (d : Drop H H' H'') {b : Addr} (e : H' b = Option.none) : H'' b = Option.none := by
  cases q : H'' b with
  | none => rfl
  | some o =>
    have := d.sub b o q
    rw [e] at this
    cases this
theorem Drop.un {fs ex : List Addr} {H H' H'' : Hp} {h h' : Heap} (d : Drop H H' H'') (u : Un fs ex H H' h h') : Un fs ex H H'' h h' where
  keep := u.keep
  slot := u.slot
  free := fun b o q n hx => d.none (u.free b o q n hx)
  there := u.there
  tups := fun b xs q => (d.old b _ q).trans (u.tups b xs q)
  frzs := fun b o v q => (d.old b _ q).trans (u.frzs b o v q)
  tbls := fun b ps q => by
    obtain ⟨more, e⟩ := u.tbls b ps q
    exact ⟨more, (d.old b _ q).trans e⟩
/-- what is wanted behind a def, told of a heap without what the def made for itself -/
def dropQ (H : Hp) (Q : VK) : VK := fun v H' => ∃ H'', Drop H H' H'' ∧ Q v H''
theorem ce_drop {outer : List Env} {P : Program} {w : World} {H : Hp} {s s' : Shared} {Q : VK} {u : Value} (x0 : HOk P w H s.heap) (h : CE outer P w H s (dropQ H Q) u s') : CE outer P w H s Q u s' := by
  obtain ⟨v, H', e1, e2, e3, e4, e5, H'', d, q⟩ := h
  exact ⟨v, H'', e1, e2, d.un e3, d.hok x0 e4, e5, q⟩
theorem fnDrop {P : Program} {w : World} {K : PySem.W.Frag} {mg : Str → Option Value} {base : Heap} {CX : CXT} {k : Nat} {f : Addr} {fd : FuncData} {ps : List Str} {sp sp' : Sp} (F : FnOk P w K mg base CX k f fd ps sp)
    (h : ∀ vs H Q E, sp' vs H Q E → sp vs H (dropQ H Q) E) : FnOk P w K mg base CX k f fd ps sp' :=
  ⟨fun vs H Q E q => F.len vs H _ E (h _ _ _ _ q), fun A outer s H args us vs Q E hr he hb hv hs => codeAny_mono (F.run A outer s H args us vs _ E hr he hb hv (h _ _ _ _ hs)) fun r s' q => by
    cases r with
    | error e => exact q
    | ok fl =>
      cases fl with
      | ret u => exact ce_drop he.hok q
      | next => exact q
      | brk => exact q
      | cont => exact q⟩
/-- the heap is the old one again -/
theorem drop_same {H H' : Hp} (n : NoDT H) (e : Same H H') : Drop H H' H := ⟨e, fun b o q => q.trans (e b o q).symm, fun b o q => .inl ⟨q, n b o q⟩⟩
/-- .. but at r -/
def KeepX (r : Addr) (H H' : Hp) : Prop := ∀ b o, b ≠ r → H b = some o → H' b = some o
theorem drop_upd {H H' : Hp} {r : Addr} {o : HO} (n : NoDT H) (e : KeepX r H H') (h : H' r = some o) (c : ∀ G, Cl H' G o) : Drop H H' (upd H r o) := by
  refine ⟨fun b u q => ?_, fun b u q => ?_, fun b u q => ?_⟩
  · by_cases z : b = r
    · rw [z, upd_same] at q
      cases q
      rw [z]
      exact h
    · rw [upd_ne z] at q
      exact e b u z q
  · by_cases z : b = r
    · rw [z, upd_same, h]
    · rw [upd_ne z, q, e b u z q]
  · by_cases z : b = r
    · rw [z, upd_same] at q
      cases q
      exact .inr (.inr (c _))
    · rw [upd_ne z] at q
      exact .inl ⟨q, n b u q⟩
/-- a new object at p stays, besides -/
theorem drop_new {H H' : Hp} {p : Addr} {o : HO} (n : NoDT H) (e : Same H H') (hp : H p = Option.none) (h : H' p = some o) (c : ∀ G, Cl H' G o) : Drop H H' (upd H p o) :=
  drop_upd n (fun b u _ q => e b u q) h c

/-! ### defs that may not run inside a repr: the guards are known -/
structure FnG (P : Program) (w : World) (K : PySem.W.Frag) (mg : Str → Option Value) (base : Heap) (CX : CXT) (k : Nat) (f : Addr) (fd : FuncData) (ps : List Str) (sp : Sp) : Prop where
  len : ∀ vs H Q E, sp vs H Q E → vs.length = ps.length
  run : ∀ (A : Around) (outer : List Env) (s : Shared) (H : Hp) (args : Args) (us : List Value) (vs : List V) (Q : VK) (E : XK), Room k A → A.guards = some [] → Env0 P w K mg base A outer s H → BindsTo s fd args (ps.zip us) → Vals vs us → sp vs H Q E →
    codeAny (model P w) A (.call (.ref f) args) (CR CX outer P w H s Q E) s
theorem fnG {P : Program} {w : World} {K : PySem.W.Frag} {mg : Str → Option Value} {base : Heap} {CX : CXT} {k : Nat} {f : Addr} {fd : FuncData} {ps : List Str} {sp : Sp} (F : FnOk P w K mg base CX k f fd ps sp) : FnG P w K mg base CX k f fd ps sp :=
  ⟨F.len, fun A outer s H args us vs Q E hr _ => F.run A outer s H args us vs Q E hr⟩
theorem fnGDrop {P : Program} {w : World} {K : PySem.W.Frag} {mg : Str → Option Value} {base : Heap} {CX : CXT} {k : Nat} {f : Addr} {fd : FuncData} {ps : List Str} {sp sp' : Sp} (F : FnG P w K mg base CX k f fd ps sp)
    (h : ∀ vs H Q E, sp' vs H Q E → sp vs H (dropQ H Q) E) : FnG P w K mg base CX k f fd ps sp' :=
  ⟨fun vs H Q E q => F.len vs H _ E (h _ _ _ _ q), fun A outer s H args us vs Q E hr hg he hb hv hs => codeAny_mono (F.run A outer s H args us vs _ E hr hg he hb hv (h _ _ _ _ hs)) fun r s' q => by
    cases r with
    | error e => exact q
    | ok fl =>
      cases fl with
      | ret u => exact ce_drop he.hok q
      | next => exact q
      | brk => exact q
      | cont => exact q⟩
theorem guards_deeper {A : Around} {env : Env} (h : A.guards = some []) : (A.deeper env).guards = some [] := h

section
variable {P : Program} {w : World} {K : PySem.W.Frag} {mg : Str → Option Value} {base : Heap} {CX : CXT}
/-- a def's body, run where no repr runs -/
theorem fnGof {k : Nat} {f : Addr} {nm qual : Str} {pa : Arguments} {bd : List Stmt} {sc : Scope} {dV kV doc pm cdv ct oc : Value} {an od : Option Addr} {osl : Array (Option Value)} {N ps : List Str} {sp : Sp}
    (lk : K.lookup f = some ⟨oc, od, .func (PySem.W.fnOf nm qual pa bd sc dV kV doc pm an cdv ct), osl⟩) (hcd : PySem.W.codeIn K cdv qual = true) (S : FnScope N ps sc)
    (hl : ∀ vs H Q E, sp vs H Q E → vs.length = ps.length)
    (hb : ∀ (A : Around) (outer : List Env) (s : Shared) (H : Hp) (vs : List V) (Q : VK) (E : XK), Room k (A.deeper (envOfC qual sc s.heap.objs.size f cdv)) → A.guards = some [] → sp vs H Q E →
      ∃ t, PSs (cxOf CX P w K mg base N qual sc f cdv A outer s H E) bd t ∧ t ⟨fun _ G => Q .non G, Q, fun _ _ => False, fun _ _ => False⟩ (start N vs) H) :
    FnG P w K mg base CX (k + 1) f (PySem.W.fnOf nm qual pa bd sc dV kV doc pm an cdv ct) ps sp := by
  refine ⟨hl, fun A outer s H args us vs Q E room gd e0 bi rv want => ?_⟩
  have inK : K.In s.heap := e0.mod.kin.keeps fun b o q => (e0.bs b o q).1
  have noL : s.heap.NoLimit := e0.mod.nolimit.keeps fun b o q => (e0.bs b o q).1
  have kinds : ∀ y ∈ ps.zip us, sc.names.lookup y.1 = some .local ∨ (sc.names.lookup y.1 = some .cell ∧ ((cellsFrom (s.heap.objs.size + 1) sc.names []).lookup y.1).isSome = true) := by
    rintro ⟨n, v⟩ hy
    have hn := S.par n (List.of_mem_zip hy).1
    exact hn.imp id fun q => ⟨q, PySem.W.cellsFrom_some _ _ _ (.inl q)⟩
  refine codeAny_call_function room.depth (inK _ _ lk) rfl S.co S.gen rfl (PySem.W.codeRec_of inK hcd) (bi _ _ _ _ ?_)
  refine wpAny_newFunctionEnv_cells S.kind kinds fun env eq s1 ic => ?_
  cases eq
  refine ⟨noL.keeps ic.toInCall.keep, codeAny_func ?_⟩
  obtain ⟨t, ht, hq⟩ := hb A outer s H vs Q E (room.deeper _) gd want
  have I := inv_start (CX := CX) (E := E) (qual := qual) (f := f) (cd := cdv) (A := A) S room.hd e0 (hl _ _ _ _ want) rv ic
  refine wpAny_mono (ht.run [] s1 (start N vs) H _ I hq) (fun fl s' out => ?_) fun _ _ z => z
  cases fl with
  | ret u =>
    obtain ⟨v, _, G, J, r, q⟩ := out
    exact ⟨v, G, J.os, J.bare, J.base, J.hok, r, q⟩
  | next =>
    obtain ⟨_, G, J, q⟩ := out
    exact ⟨.non, G, J.os, J.bare, J.base, J.hok, rfl, q⟩
  | brk =>
    obtain ⟨_, _, _, q⟩ := out
    exact q.elim
  | cont =>
    obtain ⟨_, _, _, q⟩ := out
    exact q.elim
theorem funG {x qual : Str} {st : Stmt} {f : Addr} {fd : FuncData} {N ps : List Str} {k : Nat} {sp : Sp} (F : Fun K x qual st f fd) (S : FnScope N ps (defScope st)) (hl : ∀ vs H Q E, sp vs H Q E → vs.length = ps.length)
    (hb : ∀ (cdv : Value) (A : Around) (outer : List Env) (s : Shared) (H : Hp) (vs : List V) (Q : VK) (E : XK), Room k (A.deeper (envOfC qual (defScope st) s.heap.objs.size f cdv)) → A.guards = some [] → sp vs H Q E →
      ∃ t, PSs (cxOf CX0 P w K mg base N qual (defScope st) f cdv A outer s H E).nox (defBody st) t ∧ t ⟨fun _ G => Q .non G, Q, fun _ _ => False, fun _ _ => False⟩ (start N vs) H) : FnG P w K mg base CX0 (k + 1) f fd ps sp := by
  obtain ⟨oc, od, kV, doc, pm, an, cdv, ct, osl, rfl, lk, hcd⟩ := F.ex
  refine fnGof lk hcd S hl fun A outer s H vs Q E hr gd hs => ?_
  obtain ⟨t, h, q⟩ := hb cdv A outer s H vs Q E hr gd hs
  exact ⟨t, h.nox, q⟩
end
section
variable {X : Cx} {CX : CXT} {k : Nat} {f : Addr} {fd : FuncData} {ps : List Str} {sp : Sp} {dvs : List V} {ds : List Value} {E : XK} {x : Str} {p pos : Pos} {e : Expr} {es : List Expr} {t : TA}
theorem runG {pins : List (Addr × Obj)} {σ : L2.St} {H : Hp} {s : Shared} {Q : VK} {us : List Value} {vs : List V} (F : FnG X.prog X.w X.K X.mg X.base CX k f fd ps sp) (room : Room k X.A) (gd : X.A.guards = some []) (bi : Binds X.K fd ps ds) (rd : Vals dvs ds) (pass : Passes CX X E)
    (I : Inv X pins σ H s) (r : Vals vs us) (want : sp (vs ++ dvs) H Q E) : wpAny (model X.prog X.w) X.A (call (.ref f) us) (EP X pins σ Q) X.xe s := by
  have rr := r.append rd
  have ll : (us ++ ds).length = ps.length := rr.length.symm.trans (F.len _ _ _ _ want)
  refine wpAny_call (codeAny_mono (F.run X.A X.stack s H _ _ _ Q E room gd I.env0 (bi s us I.kIn ll) rr want) ?_)
  rintro (er | fl) s' out
  · exact pass pins σ H s er s' I out
  · cases fl with
    | ret u => exact I.after out
    | next => exact out.elim
    | brk => exact out.elim
    | cont => exact out.elim
/-- f(e, ..) of such a def -/
theorem pe_callG (F : FnG X.prog X.w X.K X.mg X.base CX k f fd ps sp) (room : Room k X.A) (gd : X.A.guards = some []) (hg : Gl X x) (hm : X.mg x = some (.ref f)) (hk : PySem.W.keepIn X.K (.ref f) = true) (bi : Binds X.K fd ps ds) (rd : Vals dvs ds) (pass : Passes CX X E)
    (ha : PA X (e :: es) t) (h1 : (x == ("__debug__" : Str)) = false := by decide) (h2 : starEach (e :: es) X.env = (false, eval e X.env) :: starEach es X.env := by rfl) (h3 : (backTo pos (starEach es X.env)).any (·.1) = false := by rfl) :
    PE X (.Call (.Name x p) (e :: es) [] pos) (tCall sp dvs E t) :=
  ⟨fun pins s σ H Q I h => wpAny_Call_Name_kw (ld_glob I hg hm
    (PySem.W.callWith_K (h₀ := X.base) I.ok.mod.kin hk (thn (ha.run pos pins s σ H _ I h) fun _ _ ⟨_, _, I1, r, q⟩ => ⟨I1.kIn, runG F room gd bi rd pass I1 r q⟩) h2 h3) h1)⟩
end
end Cv

namespace Cv
open PySem PySem.Spec PyProof.Rows L2
/-- a law's call, its def kept where no repr runs -/
theorem lawG {P : Program} {w : World} {K : PySem.W.Frag} {mg mb : Str → Option Value} {CX : CXT} {k : Nat} {fa a : Addr} {fd : FuncData} {x : Str} {sp : Sp} {s : Shared} {us : List Value} {ns : List Int}
    (inK : K.In s.heap) (hG : s.heap.Ns mainGlobals mg) (hB : s.heap.Ns builtinsNs mb) (hBB : ∀ x : Str, x ≠ "__name__" → mb x = bootBuiltins x) (noL : s.heap.NoLimit) (g0 : s.gens = #[])
    (ha : s.heap.get? a = some { cls := .type "list", data := .seq us.toArray }) (hi : IntsAre us ns) (hz : ns.length ≤ sizeLine) (room : Room k callerA)
    (F : ∀ base : Heap, K.In base → base.Ns mainGlobals mg → FnG P w K mg base CX k fa fd [x] sp) (bi : ∀ (s : Shared) (u : Value), BindsTo s fd ⟨[u], []⟩ [(x, u)])
    (want : ∀ H : Hp, Only H → NoDT H → SqL K H a (ns.map V.int) → sp [.ref a] H (fun v _ => v = .bl true) fun _ _ _ => False)
    (noX : ∀ H e s', CX [] H s (fun _ _ _ => False) e s' → False) :
    codeAny (model P w) callerA (.call (.ref fa) ⟨[.ref a], []⟩) (fun r s' => r = .ok (.ret (.bool true)) ∧ OldK s.heap s'.heap ∧ s'.os = s.os ∧ AllBare s'.gens) s := by
  have rel := vals_ints hi
  -- whatever of the script alone is tracked
  suffices key : ∀ H : Hp, Only H → NoDT H → SqL K H a (ns.map V.int) → HOk P w H s.heap → (∀ b u, H b = some u → b = a ∧ K.lookup a = none) →
      codeAny (model P w) callerA (.call (.ref fa) ⟨[.ref a], []⟩) (fun r s' => r = .ok (.ret (.bool true)) ∧ OldK s.heap s'.heap ∧ s'.os = s.os ∧ AllBare s'.gens) s by
    cases kq : K.lookup a with
    | some o =>
      have eo := inK a o kq
      rw [ha] at eo
      cases eo
      exact key (fun _ => none) (fun _ => .inl rfl) (fun _ _ z => nomatch z) (.inr ⟨_, us.toArray, _, kq, rfl, rfl, rfl, by rw [List.size_toArray, hi.length]; exact hz, rel⟩) (fun _ _ z => nomatch z) fun _ _ z => nomatch z
    | none =>
      have at_ : ∀ {b : Addr} {u : HO}, (if b = a then some (HO.frz { cls := .type "list", data := .seq us.toArray } (.lst (ns.map V.int))) else none) = some u → b = a ∧ u = HO.frz { cls := .type "list", data := .seq us.toArray } (.lst (ns.map V.int)) := by
        intro b u z
        by_cases q : b = a
        · rw [if_pos q] at z
          exact ⟨q, (Option.some.inj z).symm⟩
        · rw [if_neg q] at z
          cases z
      refine key (fun b => if b = a then some (.frz { cls := .type "list", data := .seq us.toArray } (.lst (ns.map V.int))) else none) (fun b => ?_) (fun b u z => ?_) (.inl (.inr ⟨_, if_pos rfl⟩)) (fun b u z => ?_) fun b u z => ⟨(at_ z).1, kq⟩
      · by_cases q : b = a
        · exact .inr ⟨_, _, if_pos q⟩
        · exact .inl (if_neg q)
      · rw [(at_ z).2]
        rfl
      · obtain ⟨rfl, rfl⟩ := at_ z
        exact ⟨ha, by rw [List.length_map]; exact hz, us, _, rel, ha⟩
  intro H only nd hS hok alone
  have apart : ∀ {b : Addr} {o : Obj}, s.heap.get? b = some o → (∀ items n, o.data ≠ .seq items n) → H b = none := by
    intro b o eb nd
    cases q : H b with
    | none => rfl
    | some u =>
      obtain ⟨rfl, _⟩ := alone b u q
      rw [ha] at eb
      cases eb
      exact absurd rfl (nd us.toArray _)
  have nsB : ∀ {b : Addr} {m : Str → Option Value}, s.heap.Ns b m → (hidT s.heap H).Ns b m := by
    rintro b m ⟨o, es, ep, e1, e2, e3⟩
    exact ⟨o, es, ep, hidT_get e1 (apart e1 fun _ _ z => by rw [e2] at z; cases z), e2, e3⟩
  have kB : K.In (hidT s.heap H) := by
    intro b o e1
    refine hidT_get (inK b o e1) ?_
    cases q : H b with
    | none => rfl
    | some u =>
      obtain ⟨rfl, z⟩ := alone b u q
      rw [z] at e1
      cases e1
  have lim : (hidT s.heap H).NoLimit := by
    obtain ⟨mc, e1, e2⟩ := noL
    exact ⟨mc, nsB e1, e2⟩
  have e0 : Env0 P w K mg (hidT s.heap H) callerA [] s H :=
    ⟨rfl, ⟨kB, nsB hG, ⟨mb, nsB hB, hBB⟩, lim⟩, fun b o z => of_hidT z, Nat.le_of_eq (hidT_size _ _), True.intro, fun b z => (List.not_mem_nil z).elim, hok, .of_eq g0⟩
  refine codeAny_mono ((F _ kB (nsB hG)).run callerA [] s H ⟨[.ref a], []⟩ [.ref a] [.ref a] _ _ room rfl e0 (bi s (.ref a)) (.cons rfl .nil) (want H only nd hS)) ?_
  rintro (er | fl) s' out
  · exact (noX H er s' out).elim
  · cases fl with
    | ret u =>
      obtain ⟨v, G, os, bare, un, hok', rv, qv⟩ := out
      have ev : v = .bl true := qv
      subst ev
      cases rv
      refine ⟨rfl, OldK.of_keep fun b o eb => ?_, os, bare⟩
      cases q : H b with
      | none => exact un.keep b o eb q (fun z => (List.not_mem_nil z).elim) (fun z => (List.not_mem_nil z).elim)
      | some u =>
        rcases only b with z | ⟨ob, xs, z⟩
        · rw [q] at z
          cases z
        · have c1 := (hok b _ z).1
          have c2 := (hok' b _ (un.frzs b ob _ z)).1
          rw [eb] at c1
          cases c1
          exact c2
    | next => exact out.elim
    | brk => exact out.elim
    | cont => exact out.elim
/-- the goal behind the head, from such a law's promise; the script's ints have at most 2 ^ 20 bits -/
theorem walkG {l : PySem.W.OpenLaw} {n k : Nat} {q : Program} {loose : List Str} {XP : (Str → Option Value) → Heap → Prop} {YP : World → Heap → Prop} {d : DefRec} {CX : CXT} {x : Str}
    (hn : l.most = some n) (hn2 : n ≤ sizeLine) (hdf : d.params.defaults = []) (room : Room k callerA)
    (F : ∀ (w : World) (mg : Str → Option Value) (fa : Addr) (h : Heap), YP w h → h.Ns mainGlobals mg → mg d.name = some (.ref fa) →
      ∃ (K : PySem.W.Frag) (fd : FuncData) (sp : Sp), K.In h ∧ (∀ (s : Shared) (u : Value), BindsTo s fd ⟨[u], []⟩ [(x, u)]) ∧
        (∀ (H : Hp) (a : Addr) (ns : List Int), ns.length ≤ n → (∀ z ∈ ns, Builtin.Int.intBits z ≤ 1048576) → Only H → NoDT H → SqL K H a (ns.map V.int) → sp [.ref a] H (fun v _ => v = .bl true) fun _ _ _ => False) ∧
        ∀ base : Heap, K.In base → base.Ns mainGlobals mg → FnG l.prog w K mg base CX k fa fd [x] sp)
    (noX : ∀ (H : Hp) (s : Shared) (e : Value) (s' : Shared), CX [] H s (fun _ _ _ => False) e s' → False) :
    PySem.W.WalkO q loose XP YP l.row.toRowW d [] (fun f vs => PySem.call f vs) := by
  refine Att.attach_callB hn hdf fun w s0 s1 mg mb fa o pm cd doc a vs ns G Y ho hd hcd hmg hobj hints hlen hbits hg => ?_
  obtain ⟨K, fd, sp, inK, hb, want, hF⟩ := F w mg fa _ Y G.T.g hmg
  exact lawG inK G.T.g G.T.b G.T.builtins G.T.nolimit hg hobj hints (Nat.le_trans hlen hn2) room hF hb (fun H hO hD hS => want H a ns hlen hbits hO hD hS) fun H e s' => noX H s1 e s'
end Cv

/-! CvB: repr of data; isinstance by kinds. -/
namespace Cv
open PySem PySem.Spec PyProof.Rows L2
mutual
theorem dp_nodict {K : PySem.W.Frag} {H : Hp} : ∀ (d : PyData) (v : V), Dp K H v d → d.hasDict = false
  | .none, _, _ => by simp only [PyData.hasDict]
  | .bool _, _, _ => by simp only [PyData.hasDict]
  | .int _, _, _ => by simp only [PyData.hasDict]
  | .str _, _, _ => by simp only [PyData.hasDict]
  | .list ds, _, h => by
    cases h with
    | lst _ ha => simp only [PyData.hasDict, dp_nodicts ds _ ha]
  | .tuple ds, _, h => by
    cases h with
    | tup _ ha => simp only [PyData.hasDict, dp_nodicts ds _ ha]
  | .dict _, _, h => by cases h
theorem dp_nodicts {K : PySem.W.Frag} {H : Hp} : ∀ (ds : List PyData) (vs : List V), DpAll K H vs ds → PyData.hasDictAll ds = false
  | [], _, _ => by simp only [PyData.hasDictAll]
  | d :: ds, _, h => by
    cases h with
    | cons h1 h2 => simp only [PyData.hasDictAll, dp_nodict d _ h1, dp_nodicts ds _ h2, Bool.or_self]
end
/-- repr(x), x a text, a number, a bool, None, or a list or tuple of such -/
def rRepr (K : PySem.W.Frag) : List V → Hp → VK → Prop := fun vs H Q => ∃ x d, vs = [x] ∧ Dp K H x d ∧ d.showable = true ∧ d.depth ≤ 50 ∧ d.shown.length ≤ sizeLine ∧ Q (.str d.shown) H
theorem call_reprD {X : Cx} (gd : X.A.guards = some []) (hu : X.A.units + 64 < cLine) : CallR X (.builtin "repr") (rRepr X.K) := by
  intro pins s σ H xs us Q I r h
  obtain ⟨x, d, rfl, dp, sh, dep, len, q⟩ := h
  obtain ⟨u, rfl, rx⟩ := vals1 r
  have hd := dp_nodict d x dp
  cases x with
  | ref a =>
    cases rx
    obtain ⟨as, rd⟩ := Dp.reads I d _ _ dp rfl
    refine PySem.repr_of_reads' rd sh (PyData.noDict_hsm hd) gd (by omega) (fun _ _ z => z) (fun h' u tk k => ?_) len
    exact ⟨.str d.shown, H, I.kept (t' := tk) k, ⟨u, rfl⟩, q⟩
  | non =>
    cases rx
    cases dp
    exact PySem.P.repr_of_none ⟨.str _, H, I.tok _, ⟨_, rfl⟩, by simpa only [PyData.shown] using q⟩
  | bl b =>
    cases rx
    cases dp
    exact PySem.P.repr_of_bool ⟨.str _, H, I.tok _, ⟨_, rfl⟩, by simpa only [PyData.shown] using q⟩
  | int i =>
    obtain ⟨t, rfl⟩ := rx
    cases dp
    simp only [PyData.showable, decide_eq_true_eq] at sh
    exact PySem.P.repr_of_int sh ⟨.str _, H, I.tok _, ⟨_, rfl⟩, by simpa only [PyData.shown] using q⟩
  | str z =>
    obtain ⟨t, rfl⟩ := rx
    cases dp
    simp only [PyData.shown] at q len
    exact PySem.P.repr_of_str ⟨.str _, H, I.tok _, ⟨_, rfl⟩, q⟩ len
  | _ => cases dp

/-! ### calls by name -/
/-- the values by position and by name, put in the parameters' order: the i-th parameter is the (idx i)-th of them -/
def gP {α : Type} (idx : List Nat) (us ws : List α) : List α := idx.filterMap fun i => (us ++ ws)[i]?
theorem gP_rel : ∀ {idx : List Nat} {vs zs : List V} {us ws : List Value}, Vals vs us → Vals zs ws → Vals (gP idx vs zs) (gP idx us ws)
  | [], _, _, _, _, _, _ => .nil
  | i :: idx, vs, zs, us, ws, r1, r2 => by
    have r := Vals.append r1 r2
    have ih := gP_rel (idx := idx) r1 r2
    unfold gP at ih ⊢
    rw [List.filterMap_cons, List.filterMap_cons]
    cases e : (vs ++ zs)[i]? with
    | none => rw [Vals.none_of r e]; exact ih
    | some x =>
      obtain ⟨u, e2, rx⟩ := r.get e
      rw [e2]
      exact .cons rx ih
section
variable {K : PySem.W.Frag}
theorem funKB {x qual : Str} {st : Stmt} {f : Addr} {fd : FuncData} {ps : List Str} (F : Fun K x qual st f fd) (n : Nat) (ks : List Str) (idx : List Nat)
    (h : ∀ (kV doc pm : Value) (an : Option Addr) (cdv ct : Value) (us ws : List Value), us.length = n → ws.length = ks.length → bindArgs (PySem.W.fnOf x qual (defArgs st) (defBody st) (defScope st) .none kV doc pm an cdv ct) ⟨us, ks.zip ws⟩ = pure (ps.zip (gP idx us ws))) :
    KBn K fd ps n ks (gP idx) (gP idx) := by
  obtain ⟨oc, od, kV, doc, pm, an, cdv, ct, osl, rfl, lk, hcd⟩ := F.ex
  exact ⟨fun s us ws _ l1 l2 => .of_eq (h kV doc pm an cdv ct us ws l1 l2), gP_rel⟩
end
section
variable {X : Cx} {CX : CXT} {k n : Nat} {f : Addr} {fd : FuncData} {ps ks : List Str} {sp : Sp} {E : XK} {x : Str} {p pos : Pos} {kws : List Keyword} {tk : TA} {g : List Value → List Value → List Value} {gV : List V → List V → List V}
/-- f(k = v, ..), nothing by position -/
theorem pe_callN0 (F : FnOk X.prog X.w X.K X.mg X.base CX k f fd ps sp) (room : Room k X.A) (hg : Gl X x) (hm : X.mg x = some (.ref f)) (hk : PySem.W.keepIn X.K (.ref f) = true) (hb : KBn X.K fd ps 0 ks g gV) (pass : Passes CX X E)
    (hkw : PK X kws tk) (h1 : (backToKw pos (keywordEach kws X.env)).all (·.1.isSome) = true := by rfl) (h2 : (backToKw pos (keywordEach kws X.env)).filterMap (·.1) = ks := by rfl)
    (h3 : (x == ("__debug__" : Str)) = false := by decide) (h4 : ((backTo pos (starEach [] X.env)).any (·.1) || (backToKw pos (keywordEach kws X.env)).any (·.1.isNone)) = false := by rfl) :
    PE X (.Call (.Name x p) [] kws pos) (tCallN 0 ks.length sp gV E tNil tk) := by
  refine ⟨fun pins s σ H Q I h => wpAny_Call_Name_kw (ld_glob I hg hm ?_ h3)⟩
  refine PySem.W.callWith_KW0 (h₀ := X.base) I.ok.mod.kin hk h1 (thn (hkw.run pos pins s σ H _ I h) fun ws s2 ⟨zs, G, J, rz, _, l2, q⟩ => ⟨J.kIn, ?_⟩) h4
  rw [h2]
  exact run_fnN (us := []) (vs := []) F room hb pass J .nil rz rfl l2 q
end
end Cv

/-! CvC: the kinds of plain values, isinstance of the built-in classes; a law's generator of draws; the step that reads straight lines. -/
namespace Cv
open PySem PySem.Spec PyProof.Rows L2
/-! ### kinds -/
def kO : Option HO → Option String
  | some (.lst _) => some "list"
  | some (.frz _ (.lst _)) => some "list"
  | some (.tup _) => some "tuple"
  | some (.frz _ (.tup _)) => some "tuple"
  | some (.dK _) => some "dict"
  | some (.frz _ (.dK _)) => some "dict"
  | _ => none
def kV (H : Hp) : V → Option String
  | .non => some "NoneType"
  | .bl _ => some "bool"
  | .int _ => some "int"
  | .str _ => some "str"
  | .ref a => kO (H a)
  | _ => none
theorem kV_ty {K : PySem.W.Frag} {H : Hp} {v : V} {T : String} (h : kV H v = some T) : TyX K H v (.type T) := by
  cases v with
  | non => cases h; exact .base .non
  | bl b => cases h; exact .base (.bl b)
  | int i => cases h; exact .base (.int i)
  | str z => cases h; exact .base (.str z)
  | ref a =>
    have h : kO (H a) = some T := h
    cases e : H a with
    | none => rw [e] at h; cases h
    | some o =>
      rw [e] at h
      cases o with
      | lst xs => cases h; exact .base (.lst e)
      | tup xs => cases h; exact .base (.tup e)
      | dK kvs => cases h; exact .base (.dK e)
      | frz ob u =>
        cases u with
        | lst xs => cases h; exact .base (.frz e)
        | tup xs => cases h; exact .fTuple e
        | dK kvs => cases h; exact .fDict e
        | _ => cases h
      | _ => cases h
  | _ => cases h
/-- a plain value: no own class's -/
def Plain (H : Hp) (v : V) : Prop := (kV H v).isSome = true
def isI : V → Bool | .int _ => true | _ => false
def isB : V → Bool | .bl _ => true | _ => false
def isS : V → Bool | .str _ => true | _ => false
def isL (H : Hp) : V → Bool | .ref a => kO (H a) == some "list" | _ => false
def isT (H : Hp) : V → Bool | .ref a => kO (H a) == some "tuple" | _ => false
theorem kV_ref {H : Hp} {a : Addr} {T : String} (h : kO (H a) = some T) : T = "list" ∨ T = "tuple" ∨ T = "dict" := by
  unfold kO at h
  split at h <;> first | (cases h; first | exact .inl rfl | exact .inr (.inl rfl) | exact .inr (.inr rfl)) | cases h
theorem kit_int {H : Hp} {v : V} {T : String} (h : kV H v = some T) : kitB T "int" = some (isI v || isB v) := by
  cases v with
  | ref a => rcases kV_ref h with rfl | rfl | rfl <;> (show kitB _ _ = some false; decide +kernel)
  | non => cases h; show kitB _ _ = some false; decide +kernel
  | bl b => cases h; show kitB _ _ = some true; decide +kernel
  | int i => cases h; show kitB _ _ = some true; decide +kernel
  | str z => cases h; show kitB _ _ = some false; decide +kernel
  | _ => cases h
theorem kit_bool {H : Hp} {v : V} {T : String} (h : kV H v = some T) : kitB T "bool" = some (isB v) := by
  cases v with
  | ref a => rcases kV_ref h with rfl | rfl | rfl <;> (show kitB _ _ = some false; decide +kernel)
  | non => cases h; show kitB _ _ = some false; decide +kernel
  | bl b => cases h; show kitB _ _ = some true; decide +kernel
  | int i => cases h; show kitB _ _ = some false; decide +kernel
  | str z => cases h; show kitB _ _ = some false; decide +kernel
  | _ => cases h
theorem kit_str {H : Hp} {v : V} {T : String} (h : kV H v = some T) : kitB T "str" = some (isS v) := by
  cases v with
  | ref a => rcases kV_ref h with rfl | rfl | rfl <;> (show kitB _ _ = some false; decide +kernel)
  | non => cases h; show kitB _ _ = some false; decide +kernel
  | bl b => cases h; show kitB _ _ = some false; decide +kernel
  | int i => cases h; show kitB _ _ = some false; decide +kernel
  | str z => cases h; show kitB _ _ = some true; decide +kernel
  | _ => cases h
theorem kit_list {H : Hp} {v : V} {T : String} (h : kV H v = some T) : kitB T "list" = some (isL H v) := by
  cases v with
  | ref a =>
    have e : isL H (.ref a) = (some T == some "list") := by show (kO (H a) == some "list") = _; rw [show kO (H a) = some T from h]
    rw [e]
    rcases kV_ref h with rfl | rfl | rfl <;> decide +kernel
  | non => cases h; show kitB _ _ = some false; decide +kernel
  | bl b => cases h; show kitB _ _ = some false; decide +kernel
  | int i => cases h; show kitB _ _ = some false; decide +kernel
  | str z => cases h; show kitB _ _ = some false; decide +kernel
  | _ => cases h
theorem kit_tuple {H : Hp} {v : V} {T : String} (h : kV H v = some T) : kitB T "tuple" = some (isT H v) := by
  cases v with
  | ref a =>
    have e : isT H (.ref a) = (some T == some "tuple") := by show (kO (H a) == some "tuple") = _; rw [show kO (H a) = some T from h]
    rw [e]
    rcases kV_ref h with rfl | rfl | rfl <;> decide +kernel
  | non => cases h; show kitB _ _ = some false; decide +kernel
  | bl b => cases h; show kitB _ _ = some false; decide +kernel
  | int i => cases h; show kitB _ _ = some false; decide +kernel
  | str z => cases h; show kitB _ _ = some false; decide +kernel
  | _ => cases h
theorem Plain.get {H : Hp} {v : V} (h : Plain H v) : ∃ T, kV H v = some T := Option.isSome_iff_exists.mp h
/-- isinstance(v, T), T a built-in class: f what it answers -/
def rIs (n : String) (f : Hp → V → Bool) : List V → Hp → VK → Prop := fun vs H Q => ∃ v, vs = [v, .ty n] ∧ Plain H v ∧ Q (.bl (f H v)) H
theorem call_is {X : Cx} {n : String} {f : Hp → V → Bool} (hk : ∀ {H : Hp} {v : V} {T : String}, kV H v = some T → kitB T n = some (f H v)) : CallR X (.builtin "isinstance") (rIs n f) :=
  callImp (r := rIsi X.K) call_isi fun vs H Q h => by
    obtain ⟨v, rfl, p, q⟩ := h
    obtain ⟨T, e⟩ := p.get
    exact ⟨v, .ty n, _, _, _, rfl, .ty n, kV_ty e, kit_ty (hk e), q⟩
theorem isi_int {X : Cx} : CallR X (.builtin "isinstance") (rIs "int" fun _ v => isI v || isB v) := call_is kit_int
theorem isi_bool {X : Cx} : CallR X (.builtin "isinstance") (rIs "bool" fun _ v => isB v) := call_is kit_bool
theorem isi_str {X : Cx} : CallR X (.builtin "isinstance") (rIs "str" fun _ v => isS v) := call_is kit_str
theorem isi_list {X : Cx} : CallR X (.builtin "isinstance") (rIs "list" isL) := call_is kit_list
theorem isi_tuple {X : Cx} : CallR X (.builtin "isinstance") (rIs "tuple" isT) := call_is kit_tuple
theorem plain_int {H : Hp} {i : Int} : Plain H (.int i) := rfl
theorem plain_str {H : Hp} {z : Str} : Plain H (.str z) := rfl
theorem plain_bl {H : Hp} {b : Bool} : Plain H (.bl b) := rfl
theorem plain_non {H : Hp} : Plain H .non := rfl
theorem plain_lst {H : Hp} {a : Addr} {xs : List V} (h : H a = some (.lst xs)) : Plain H (.ref a) := by show (kO (H a)).isSome = true; rw [h]; rfl
theorem plain_tup {H : Hp} {a : Addr} {xs : List V} (h : H a = some (.tup xs)) : Plain H (.ref a) := by show (kO (H a)).isSome = true; rw [h]; rfl
theorem plain_dK {H : Hp} {a : Addr} {kvs : List (L2.Key × V)} (h : H a = some (.dK kvs)) : Plain H (.ref a) := by show (kO (H a)).isSome = true; rw [h]; rfl
/-- what a look at a reference needs: its object stands as it stood -/
theorem kV_keep {H H' : Hp} {v : V} {T : String} (h : kV H v = some T) (k : ∀ a o, v = .ref a → H a = some o → H' a = some o) : kV H' v = some T := by
  cases v with
  | ref a =>
    have h : kO (H a) = some T := h
    show kO (H' a) = some T
    cases e : H a with
    | none => rw [e] at h; cases h
    | some o => rw [k a o rfl e, ← e]; exact h
  | _ => exact h
theorem Plain.keep {H H' : Hp} {v : V} (h : Plain H v) (k : ∀ a o, v = .ref a → H a = some o → H' a = some o) : Plain H' v := by
  obtain ⟨T, e⟩ := h.get
  unfold Plain
  rw [kV_keep e k]
  rfl

theorem start_cc {x : Str} {N : List Str} {v : V} {vs : List V} : L2.start (x :: N) (v :: vs) = some v :: L2.start N vs := by
  unfold L2.start
  rw [List.map_cons, List.cons_append, List.length_cons, List.length_cons, Nat.add_sub_add_right]
theorem start_cn {x : Str} {N : List Str} : L2.start (x :: N) [] = none :: L2.start N [] := rfl
theorem start_nn : L2.start [] [] = [] := rfl
theorem at_ofC {α : Type} {xs : List α} {z : Int} {j : Nat} {v : α} (e : z = (j : Int)) (h : xs[j]? = some v) : atI xs z = some v := by
  rw [e]
  exact atI_nat h
theorem ifB {b : Bool} {A B : Prop} (h1 : b = true → A) (h0 : b = false → B) : if b = true then A else B := by
  cases b with
  | true => exact h1 rfl
  | false => exact h0 rfl
theorem ifD {c A B : Prop} [Decidable c] (h1 : c → A) (h0 : ¬ c → B) : if decide c = true then A else B := by
  by_cases h : c
  · rw [decide_eq_true h]
    exact h1 h
  · rw [decide_eq_false h]
    exact h0 h
/-! ### comprehensions whose items are reckoned without a trace -/
theorem lcP {J : It} {n : Nat} {G : Hp → Prop} {Y : Nat → Hp → V → Hp → Prop} (w : Walk J n G Y) {tt : TT} {te : TE} {vs : List Nat} {σ : L2.St} {H : Hp} {Q : VK} {j : Nat} (xs : List V) (t : V → Bool) (g : V → V)
    (hl : xs.length = n) (hz : n < sizeLine) (hG : ∀ D acc, H D = none → G (upd H D (.lst acc))) (hY : ∀ i H x H', i < n → Y i H x H' → H' = H ∧ xs[i]? = some x)
    (hw : ∀ x, wipe ((wipe σ vs).set j (some x)) vs = wipe σ vs)
    (hT : ∀ x ∈ xs, ∀ H' (R : Bool → Hp → Prop), Same H H' → R (t x) H' → tt ((wipe σ vs).set j (some x)) H' R)
    (hE : ∀ x ∈ xs, t x = true → ∀ H' (R : VK), Same H H' → R (g x) H' → te ((wipe σ vs).set j (some x)) H' R)
    (k : ∀ D, H D = none → Q (.ref D) (upd H D (.lst ((xs.filter t).map g)))) :
    ∀ D, H D = none → ∃ W : Nat → Nat → Hp → Prop, (∃ m, W 0 m (upd H D (.lst []))) ∧ ∀ i m H, W i m H →
      (J.stop i H ∧ Q (.ref D) H) ∨ (J.go i H ∧ ∃ Nx : Hp → Prop, (∀ H', Nx H' → ∃ m', m' < m ∧ W (i + 1) m' H') ∧ ∀ x H', J.yld i H x H' → gName j x (wipe σ vs) H' fun σ2 H2 => wipe σ2 vs = wipe σ vs ∧ tt σ2 H2 fun b H3 =>
        if b = true then te σ2 H3 fun y H4 => ∃ acc, H4 D = some (.lst acc) ∧ acc.length < sizeLine ∧ Nx (upd H4 D (.lst (acc ++ [y]))) else Nx H3) := by
  intro D hD
  refine lc_it w (fun i H' => H' = upd H D (.lst (((xs.take i).filter t).map g))) rfl (fun i H' hi e => by rw [e]; exact hG D _ hD) (fun i x H1 H2 hi e y => ?_) (fun H' e => ?_)
  · obtain ⟨rfl, ex⟩ := hY i H1 x H2 hi y
    have mem : x ∈ xs := List.mem_of_getElem? ex
    have same : Same H H2 := by rw [e]; exact fun b o q => by rw [upd_ne (ne_of_none q hD)]; exact q
    have tk : xs.take (i + 1) = xs.take i ++ [x] := by rw [List.take_add_one, ex]; rfl
    refine ⟨hw x, hT x mem H2 _ same ?_⟩
    refine ifB (fun ht => ?_) (fun ht => ?_)
    · refine hE x mem ht H2 _ same ⟨_, by rw [e, upd_same], ?_, ?_⟩
      · rw [List.length_map]
        refine Nat.lt_of_le_of_lt (List.length_filter_le _ _) (Nat.lt_of_le_of_lt ?_ hz)
        rw [List.length_take]
        omega
      · rw [e, upd_upd, tk, List.filter_append, List.map_append, List.filter_cons, if_pos ht]
        rfl
    · rw [e, tk, List.filter_append, List.map_append, List.filter_cons, if_neg (by rw [ht]; exact Bool.false_ne_true)]
      rw [List.filter_nil, List.map_nil, List.append_nil]
  · rw [e, List.take_of_length_le (Nat.le_of_eq hl)]
    exact k D hD
def chV (c : Nat) : V := .str ⟨#[c]⟩
theorem its_items {z : Str} : ∀ (i : Nat) (H : Hp) (x : V) (H' : Hp), i < z.cps.size → (H' = H ∧ ∃ c, z.cps[i]? = some c ∧ x = .str ⟨#[c]⟩) → H' = H ∧ (z.cps.toList.map chV)[i]? = some x := by
  rintro i H x H' hi ⟨rfl, c, e, rfl⟩
  refine ⟨rfl, ?_⟩
  rw [List.getElem?_map, Array.getElem?_toList, e]
  rfl
theorem lcStr {z : Str} {tt : TT} {te : TE} {vs : List Nat} {σ : L2.St} {H : Hp} {Q : VK} {j : Nat} (t : V → Bool) (g : V → V) (hz : z.length < sizeLine)
    (hw : ∀ x, wipe ((wipe σ vs).set j (some x)) vs = wipe σ vs)
    (hT : ∀ c ∈ z.cps.toList, ∀ H' (R : Bool → Hp → Prop), Same H H' → R (t (chV c)) H' → tt ((wipe σ vs).set j (some (chV c))) H' R)
    (hE : ∀ c ∈ z.cps.toList, t (chV c) = true → ∀ H' (R : VK), Same H H' → R (g (chV c)) H' → te ((wipe σ vs).set j (some (chV c))) H' R)
    (k : ∀ D, H D = none → Q (.ref D) (upd H D (.lst (((z.cps.toList.map chV).filter t).map g)))) {te0 : TE} (h0 : ∀ R : VK, R (.str z) H → te0 σ H R) :
    tLc (iStr te0) (gName j) tt te vs σ H Q :=
  h0 _ ⟨z, rfl, lcP walk_str (z.cps.toList.map chV) t g (by rw [List.length_map, Array.length_toList]) hz (fun _ _ _ => trivial) its_items hw
    (fun x hx => by obtain ⟨c, hc, rfl⟩ := List.mem_map.mp hx; exact hT c hc) (fun x hx => by obtain ⟨c, hc, rfl⟩ := List.mem_map.mp hx; exact hE c hc) k⟩
/-! ### loops -/
theorem forR {ta : TA} {j : Nat} {tb : TS} {D : Ends} {σ : L2.St} {H : Hp} (n : Int) (hv : ∀ R : List V → Hp → Prop, R [.int n] H → ta σ H R) (h1 : -(2 ^ 62) ≤ n) (h2 : n < 2 ^ 62) (Pv : Nat → L2.St → Hp → Prop) (h0 : Pv 0 σ H)
    (hs : ∀ (i : Nat) σ' H', i < n.toNat → Pv i σ' H' → tb ⟨Pv (i + 1), D.rt, D.nx, Pv (i + 1)⟩ (σ'.set j (some (.int (i : Int)))) H') (hd : ∀ σ' H', Pv n.toNat σ' H' → D.nx σ' H') : tFor (iRng1 ta) (gName j) tb D σ H :=
  hv _ ⟨n, rfl, h1, h2, for_range (lo := 0) (n := n.toNat) Pv h0 (fun i σ' H' hi p => by
    show tb _ (σ'.set j (some (.int (0 + (i : Int))))) H'
    rw [Int.zero_add]
    exact hs i σ' H' hi p) hd⟩
theorem forL {K : PySem.W.Frag} {tl : TE} {j : Nat} {tb : TS} {D : Ends} {σ : L2.St} {H : Hp} (a : Addr) (xs : List V) (hv : ∀ R : VK, R (.ref a) H → tl σ H R) (hx : SqL K H a xs) (Pv : Nat → L2.St → Hp → Prop) (h0 : Pv 0 σ H)
    (hl : ∀ i σ' H', i ≤ xs.length → Pv i σ' H' → SqL K H' a xs) (hs : ∀ i x σ' H', xs[i]? = some x → Pv i σ' H' → tb ⟨Pv (i + 1), D.rt, D.nx, Pv (i + 1)⟩ (σ'.set j (some x)) H') (hd : ∀ σ' H', Pv xs.length σ' H' → D.nx σ' H') : tFor (iList K tl) (gName j) tb D σ H :=
  hv _ ⟨a, rfl, ⟨xs, hx⟩, for_list Pv h0 hl (fun i x σ' H' e p => hs i x σ' H' e p) hd⟩
theorem forT {K : PySem.W.Frag} {tl : TE} {j : Nat} {tb : TS} {D : Ends} {σ : L2.St} {H H1 : Hp} (a : Addr) (xs : List V) (hv : ∀ R : VK, R (.ref a) H1 → tl σ H R) (hx : SqT K H1 a xs) (Pv : Nat → L2.St → Hp → Prop) (h0 : Pv 0 σ H1)
    (hl : ∀ i σ' H', i ≤ xs.length → Pv i σ' H' → SqT K H' a xs) (hs : ∀ i x σ' H', xs[i]? = some x → Pv i σ' H' → tb ⟨Pv (i + 1), D.rt, D.nx, Pv (i + 1)⟩ (σ'.set j (some x)) H') (hd : ∀ σ' H', Pv xs.length σ' H' → D.nx σ' H') : tFor (iTup K tl) (gName j) tb D σ H :=
  hv _ ⟨a, rfl, ⟨xs, hx⟩, for_tup Pv h0 hl (fun i x σ' H' e p => hs i x σ' H' e p) hd⟩
theorem forS {te : TE} {j : Nat} {tb : TS} {D : Ends} {σ : L2.St} {H : Hp} (z : Str) (hv : ∀ R : VK, R (.str z) H → te σ H R) (Pv : Nat → L2.St → Hp → Prop) (h0 : Pv 0 σ H)
    (hs : ∀ (i : Nat) c σ' H', z.cps[i]? = some c → Pv i σ' H' → tb ⟨Pv (i + 1), D.rt, D.nx, Pv (i + 1)⟩ (σ'.set j (some (chV c))) H') (hd : ∀ σ' H', Pv z.cps.size σ' H' → D.nx σ' H') : tFor (iStr te) (gName j) tb D σ H :=
  hv _ ⟨z, rfl, for_it walk_str Pv h0 (fun _ _ _ _ _ => trivial) (fun i x σ' H1 H2 hi p ⟨e1, c, e2, e3⟩ => by
    subst e1 e3
    exact hs i c σ' _ e2 p) hd⟩
/-! what is walked, reckoned first -/
theorem forT_eq {K : PySem.W.Frag} {tl : TE} {g : TG} {tb : TS} {D : Ends} {σ : L2.St} {H : Hp} : tFor (iTup K tl) g tb D σ H = tl σ H fun x H1 => tFor (iTup K (tC x)) g tb D σ H1 := rfl
theorem forL_eq {K : PySem.W.Frag} {tl : TE} {g : TG} {tb : TS} {D : Ends} {σ : L2.St} {H : Hp} : tFor (iList K tl) g tb D σ H = tl σ H fun x H1 => tFor (iList K (tC x)) g tb D σ H1 := rfl
theorem lcL_eq {K : PySem.W.Frag} {tl : TE} {g : TG} {tt : TT} {te : TE} {vs : List Nat} {σ : L2.St} {H : Hp} {Q : VK} : tLc (iList K tl) g tt te vs σ H Q = tl σ H fun x H1 => tLc (iList K (tC x)) g tt te vs σ H1 Q := rfl
theorem lcT_eq {K : PySem.W.Frag} {tl : TE} {g : TG} {tt : TT} {te : TE} {vs : List Nat} {σ : L2.St} {H : Hp} {Q : VK} : tLc (iTup K tl) g tt te vs σ H Q = tl σ H fun x H1 => tLc (iTup K (tC x)) g tt te vs σ H1 Q := rfl
/-! ### readings opened at known values -/
section
variable {H : Hp} {Q : VK} {i j : Int} {a b : Addr} {y z : Str}
theorem rAdd_int : rAdd (.int i) (.int j) H Q = Q (.int (i + j)) H := rfl
theorem rAdd_str : rAdd (.str y) (.str z) H Q = (y.length + z.length ≤ sizeLine ∧ Q (.str (y ++ z)) H) := rfl
theorem rAdd_ref : rAdd (.ref a) (.ref b) H Q = (∃ xs ys, lsM (H a) = some xs ∧ lsM (H b) = some ys ∧ xs.length + ys.length ≤ sizeLine ∧ ∀ p, H p = none → Q (.ref p) (upd H p (.lst (xs ++ ys)))) := rfl
theorem rIxU_ref : rIxU (.ref a) (.int i) H Q = (∃ xs v, sqO (H a) = some xs ∧ atI xs i = some v ∧ Q v H) := rfl
theorem rIxU_str : rIxU (.str z) (.int i) H Q = (z.length ≤ sizeLine ∧ ∃ c, atI z.cps.toList i = some c ∧ Q (.str ⟨#[c]⟩) H) := rfl
theorem rLenU_ref : rLenU [.ref a] H Q = (∃ xs, sqO (H a) = some xs ∧ Q (.int xs.length) H) := rfl
theorem rLenU_str : rLenU [.str z] H Q = (z.length ≤ sizeLine ∧ Q (.int z.length) H) := rfl
end
theorem rEq_int {H : Hp} {Q : VK} {i j : Int} : rEq (.int i) (.int j) H Q = Q (.bl (decide (i = j))) H := by
  unfold rEq
  rw [show scal (.int i) (.int j) = true from rfl, show decide (V.int i = V.int j) = decide (i = j) from decide_eq_decide.mpr ⟨V.int.inj, congrArg V.int⟩]
  exact propext ⟨fun h => h.2, fun h => ⟨rfl, h⟩⟩
theorem rNe_int {H : Hp} {Q : VK} {i j : Int} : rNe (.int i) (.int j) H Q = Q (.bl (!decide (i = j))) H := by
  unfold rNe
  rw [show scal (.int i) (.int j) = true from rfl, show decide (V.int i = V.int j) = decide (i = j) from decide_eq_decide.mpr ⟨V.int.inj, congrArg V.int⟩]
  exact propext ⟨fun h => h.2, fun h => ⟨rfl, h⟩⟩
theorem rEq_str {H : Hp} {Q : VK} {i j : Str} : rEq (.str i) (.str j) H Q = Q (.bl (decide (i = j))) H := by
  unfold rEq
  rw [show scal (.str i) (.str j) = true from rfl, show decide (V.str i = V.str j) = decide (i = j) from decide_eq_decide.mpr ⟨V.str.inj, congrArg V.str⟩]
  exact propext ⟨fun h => h.2, fun h => ⟨rfl, h⟩⟩
theorem rNe_str {H : Hp} {Q : VK} {i j : Str} : rNe (.str i) (.str j) H Q = Q (.bl (!decide (i = j))) H := by
  unfold rNe
  rw [show scal (.str i) (.str j) = true from rfl, show decide (V.str i = V.str j) = decide (i = j) from decide_eq_decide.mpr ⟨V.str.inj, congrArg V.str⟩]
  exact propext ⟨fun h => h.2, fun h => ⟨rfl, h⟩⟩
theorem sm20 {n : Nat} (h : n ≤ 100) : n ≤ sizeLine := Nat.le_trans h (by decide)
/-- int(n) -/
def rIntI : List V → Hp → VK → Prop := fun vs H Q => ∃ i, vs = [.int i] ∧ Q (.int i) H
theorem call_intI {X : Cx} : CallR X (.type "int") rIntI := callImp call_int1 fun vs H Q h => .inl h
/-- int(b) -/
def rIntB : List V → Hp → VK → Prop := fun vs H Q => ∃ b, vs = [.bl b] ∧ Q (.int (if b then 1 else 0)) H
theorem call_intB {X : Cx} : CallR X (.type "int") rIntB := callImp call_int1 fun vs H Q h => .inr h
/-! ### lists of texts as data -/
def toD : V → PyData | .str z => .str z | .int i => .int i | .bl b => .bool b | _ => .none
def strsOk (xs : List V) : Prop := ∀ x ∈ xs, ∃ z : Str, x = .str z ∧ PyData.strOk z = true
theorem dp_strs {K : PySem.W.Frag} {H : Hp} : ∀ {xs : List V}, strsOk xs → DpAll K H xs (xs.map toD)
  | [], _ => .nil
  | x :: xs, h => by
    obtain ⟨z, rfl, _⟩ := h x (List.mem_cons_self ..)
    exact .cons (.str z) (dp_strs fun y hy => h y (List.mem_cons_of_mem _ hy))
theorem strs_can : ∀ {xs : List V}, strsOk xs → PyData.canLayAll0 (xs.map toD) = true ∧ PyData.depthAll (xs.map toD) = 0
  | [], _ => by simp only [List.map_nil, PyData.canLayAll0, PyData.depthAll, and_self]
  | x :: xs, h => by
    obtain ⟨z, rfl, e⟩ := h x (List.mem_cons_self ..)
    obtain ⟨h1, h2⟩ := strs_can (xs := xs) fun y hy => h y (List.mem_cons_of_mem _ hy)
    simp only [List.map_cons, toD, PyData.canLayAll0, PyData.depthAll, PyData.canLay0, PyData.depth, e, h1, h2, Bool.and_self, Nat.max_self, and_self]
theorem strs_shaped {xs : List V} (h : strsOk xs) : SeqAt.shaped (.list (xs.map toD)) = true := by
  obtain ⟨h1, h2⟩ := strs_can h
  simp only [SeqAt.shaped, PyData.canLay0, PyData.depth, h1, h2, Bool.true_and]
  decide
theorem nil_shaped : SeqAt.shaped (.list []) = true := by
  simp only [SeqAt.shaped, PyData.canLay0, PyData.depth, PyData.canLayAll0, PyData.depthAll, Bool.true_and]
  decide
theorem eqv_nil {ds : List PyData} : PyData.eqv (.list ds) (.list []) = ds.isEmpty := by cases ds <;> simp only [PyData.eqv, PyData.eqvAll, List.isEmpty]
/-- == of a list of texts and an empty list -/
theorem eq_strs_nil {K : PySem.W.Frag} {H : Hp} {a b : Addr} {xs : List V} {Q : VK} (ha : H a = some (.lst xs)) (hb : H b = some (.lst [])) (hx : strsOk xs) (q : Q (.bl xs.isEmpty) H) : rEqD K (.ref a) (.ref b) H Q :=
  ⟨.list (xs.map toD), .list [], .lst (.inl (.inl ha)) (dp_strs hx), .lst (.inl (.inl hb)) .nil, strs_shaped hx, nil_shaped, by rw [eqv_nil]; cases xs <;> exact q⟩
theorem strOk_ch {z : Str} (h : PyData.strOk z = true) {c : Nat} (m : c ∈ z.cps.toList) : PyData.strOk (⟨#[c]⟩ : Str) = true := by
  unfold PyData.strOk at h ⊢
  have h2 := Array.all_eq_true'.mp h c (by simpa using m)
  simpa using h2
theorem Same.trans' {H H1 H2 : Hp} (a : Same H H1) (b : Same H1 H2) : Same H H2 := fun c o h => b c o (a c o h)
/-! ### the law's generator of draws: a list of two numbers -/
def RngO (o : HO) : Prop := ∃ a b : Int, o = .lst [.int a, .int b] ∧ 0 ≤ a ∧ 0 ≤ b ∧ b < 2147483648
def RngAt (H : Hp) (r : Addr) : Prop := NoDT H ∧ ∃ o, H r = some o ∧ RngO o
theorem RngO.ndt {o : HO} (h : RngO o) : ndt o = true := by obtain ⟨a, b, rfl, _⟩ := h; rfl
theorem RngO.cl {o : HO} (h : RngO o) (H G : Hp) : Cl H G o := by obtain ⟨a, b, rfl, _⟩ := h; trivial
theorem RngAt.set {H : Hp} {r : Addr} {o : HO} (h : RngAt H r) (n : RngO o) : RngAt (upd H r o) r := ⟨h.1.upd n.ndt, o, upd_same, n⟩
theorem RngAt.new {H : Hp} {r p : Addr} {o : HO} (h : RngAt H r) (hp : H p = none) (n : ndt o = true) : RngAt (upd H p o) r := by
  obtain ⟨d, u, e, q⟩ := h
  exact ⟨d.upd n, u, by rw [upd_ne (ne_of_none e hp)]; exact e, q⟩
theorem KeepX.refl {r : Addr} {H : Hp} : KeepX r H H := fun _ _ _ q => q
theorem KeepX.trans {r : Addr} {H H1 H2 : Hp} (a : KeepX r H H1) (b : KeepX r H1 H2) : KeepX r H H2 := fun c o n h => b c o n (a c o n h)
theorem KeepX.set {r : Addr} {H : Hp} {o : HO} : KeepX r H (upd H r o) := fun c u n h => by rw [upd_ne n]; exact h
theorem KeepX.new {r p : Addr} {H : Hp} {o : HO} (hp : H p = none) : KeepX r H (upd H p o) := fun c u n h => by rw [upd_ne (ne_of_none h hp)]; exact h
theorem Same.new {p : Addr} {H : Hp} {o : HO} (hp : H p = none) : Same H (upd H p o) := fun c u h => by rw [upd_ne (ne_of_none h hp)]; exact h
theorem Same.keepX {r : Addr} {H H' : Hp} (s : Same H H') : KeepX r H H' := fun c o _ h => s c o h
/-- a drawn value: plain, and not the generator itself -/
def Sm : V → Prop | .str z => z.length ≤ 100000 ∧ PyData.strOk z = true | _ => True
def Pl (H : Hp) (r : Addr) (v : V) : Prop := Plain H v ∧ v ≠ .ref r ∧ Sm v
theorem Pl.keep {H H' : Hp} {r : Addr} {v : V} (h : Pl H r v) (k : KeepX r H H') : Pl H' r v := ⟨h.1.keep fun a o e q => k a o (fun z => h.2.1 (by rw [e, z])) q, h.2⟩
theorem pl_int {H : Hp} {r : Addr} {i : Int} : Pl H r (.int i) := ⟨rfl, (fun z => nomatch z), trivial⟩
theorem pl_str {H : Hp} {r : Addr} {i : Str} (h : i.length ≤ 100000) (h2 : PyData.strOk i = true) : Pl H r (.str i) := ⟨rfl, (fun z => nomatch z), h, h2⟩
theorem pl_bl {H : Hp} {r : Addr} {i : Bool} : Pl H r (.bl i) := ⟨rfl, (fun z => nomatch z), trivial⟩
theorem pl_non {H : Hp} {r : Addr} : Pl H r .non := ⟨rfl, (fun z => nomatch z), trivial⟩
theorem pl_lst {H : Hp} {r a : Addr} {xs : List V} (h : H a = some (.lst xs)) (n : a ≠ r) : Pl H r (.ref a) := ⟨plain_lst h, fun z => n (V.ref.inj z), trivial⟩
theorem pl_tup {H : Hp} {r a : Addr} {xs : List V} (h : H a = some (.tup xs)) (n : a ≠ r) : Pl H r (.ref a) := ⟨plain_tup h, fun z => n (V.ref.inj z), trivial⟩
theorem pl_dK {H : Hp} {r a : Addr} {xs : List (L2.Key × V)} (h : H a = some (.dK xs)) (n : a ≠ r) : Pl H r (.ref a) := ⟨plain_dK h, fun z => n (V.ref.inj z), trivial⟩
theorem Plain.same {H H' : Hp} {v : V} (h : Plain H v) (e : Same H H') : Plain H' v := h.keep fun a o _ q => e a o q
/-- a generator made anew, then drawn from: what stood ahead of it stands -/
theorem same_made {H H' : Hp} {r : Addr} {o : HO} (hr : H r = none) (k : KeepX r (upd H r o) H') : Same H H' := fun b u e => k b u (ne_of_none e hr) (by rw [upd_ne (ne_of_none e hr)]; exact e)
theorem RngAt.ne {H : Hp} {r p : Addr} (h : RngAt H r) (hp : H p = none) : p ≠ r := by
  obtain ⟨_, o, e, _⟩ := h
  exact (ne_of_none e hp).symm
/-! ### what the law's own helpers promise -/
theorem log2_small {m : Int} (h : m.natAbs < 2 ^ 63) : m.natAbs.log2 < 9000 := by
  by_cases h0 : m.natAbs = 0
  · rw [h0]; decide
  · have := (Nat.log2_lt h0).mpr h
    omega
def spRngMk (K : PySem.W.Frag) : Sp := fun vs H Q _ => ∃ x y, vs = [x, y] ∧ ∃ (a : Addr) (k : Int) (ns : List Int), x = .ref a ∧ y = .int k ∧ SqL K H a (ns.map V.int) ∧ 0 ≤ k ∧ k ≤ 100 ∧ ∀ p o, H p = none → RngO o → Q (.ref p) (upd H p o)
theorem cube_le {k : Int} (h0 : 0 ≤ k) (h1 : k ≤ 100) : 0 ≤ (k + 3) ^ Int.toNat 3 ∧ (k + 3) ^ Int.toNat 3 ≤ 1092727 := by
  have e : (k + 3) ^ Int.toNat 3 = (k + 3) * (k + 3) * (k + 3) := by show (k + 3) ^ 3 = _; rw [Int.pow_succ, Int.pow_succ, Int.pow_succ, Int.pow_zero, Int.one_mul]
  rw [e]
  have a1 : 0 ≤ (k + 3) * (k + 3) := Int.mul_nonneg (by omega) (by omega)
  have a2 : (k + 3) * (k + 3) ≤ 103 * 103 := Int.mul_le_mul (by omega) (by omega) (by omega) (by omega)
  exact ⟨Int.mul_nonneg a1 (by omega), Int.le_trans (Int.mul_le_mul a2 (show k + 3 ≤ 103 by omega) (by omega) (by omega)) (by decide)⟩
def spDraw : Sp := fun vs H Q _ => ∃ x y, vs = [x, y] ∧ ∃ (r : Addr) (m : Int), x = .ref r ∧ y = .int m ∧ RngAt H r ∧ 1 ≤ m ∧ m.natAbs.log2 < 9000 ∧ ∀ d H', 0 ≤ d → d < m → KeepX r H H' → RngAt H' r → Q (.int d) H'
theorem useDraw {r : Addr} {m : Int} {H : Hp} {R : VK} {E : XK} (hR : RngAt H r) (m1 : 1 ≤ m) (m2 : m.natAbs < 2 ^ 63) (k : ∀ d H', 0 ≤ d → d < m → KeepX r H H' → RngAt H' r → R (.int d) H') : spDraw [.ref r, .int m] H R E :=
  ⟨_, _, rfl, r, m, rfl, rfl, hR, m1, log2_small m2, k⟩
theorem useDrawB {r : Addr} {m : Int} {H : Hp} {R : VK} {E : XK} (hR : RngAt H r) (m1 : 1 ≤ m) (m2 : m.natAbs.log2 < 9000) (k : ∀ d H', 0 ≤ d → d < m → KeepX r H H' → RngAt H' r → R (.int d) H') : spDraw [.ref r, .int m] H R E :=
  ⟨_, _, rfl, r, m, rfl, rfl, hR, m1, m2, k⟩
def spChoice : Sp := fun vs H Q _ => ∃ x y, vs = [x, y] ∧ ∃ (r l : Addr) (xs : List V), x = .ref r ∧ y = .ref l ∧ l ≠ r ∧ RngAt H r ∧ H l = some (.lst xs) ∧ 0 < xs.length ∧ xs.length ≤ 1000 ∧ ∀ v H', v ∈ xs → KeepX r H H' → RngAt H' r → Q v H'
def spPow : Sp := fun vs H Q _ => ∃ v, vs = [v] ∧ ∃ n : Int, v = .int n ∧ 0 ≤ n ∧ n ≤ 1000 ∧ Q (.int (2 ^ n.toNat)) H
def spOdd : Sp := fun vs H Q _ => ∃ x, vs = [x] ∧ ∃ (r : Addr), x = .ref r ∧ RngAt H r ∧ ∀ v H', Pl H' r v → KeepX r H H' → RngAt H' r → Q v H'
/-! ### texts glued from signs -/
def chS (c : Nat) : Str := ⟨#[c]⟩
theorem join_ch : ∀ cs : List Nat, (Txt.join (Str.ofString "") (cs.map chS)).cps = cs.toArray := by
  intro cs
  rw [show Str.ofString "" = (⟨#[]⟩ : Str) by decide +kernel, show Txt.join (⟨#[]⟩ : Str) (cs.map chS) = Str.join ⟨#[]⟩ (cs.map chS) from PySem.StrLaws.glued_eq_join _ _]
  induction cs with
  | nil => rfl
  | cons c r ih =>
    cases r with
    | nil => rfl
    | cons d r =>
      show (chS c ++ (⟨#[]⟩ : Str) ++ Str.join ⟨#[]⟩ ((d :: r).map chS)).cps = _
      rw [Str.cps_append, Str.cps_append, ih]
      simp [chS]
theorem ch_list {p : Nat → Prop} : ∀ {xs : List V}, (∀ x ∈ xs, ∃ c, x = chV c ∧ p c) → ∃ cs : List Nat, xs = cs.map chV ∧ ∀ c ∈ cs, p c
  | [], _ => ⟨[], rfl, fun c h => (List.not_mem_nil h).elim⟩
  | x :: xs, h => by
    obtain ⟨c, rfl, pc⟩ := h x (List.mem_cons_self ..)
    obtain ⟨cs, rfl, pcs⟩ := ch_list (xs := xs) fun y hy => h y (List.mem_cons_of_mem _ hy)
    refine ⟨c :: cs, rfl, fun d hd => ?_⟩
    rcases List.mem_cons.mp hd with rfl | hd
    · exact pc
    · exact pcs d hd
theorem ch_sum : ∀ cs : List Nat, ((cs.map chS).map (·.length)).sum = cs.length
  | [] => rfl
  | c :: cs => by
    rw [List.map_cons, List.map_cons, List.sum_cons, ch_sum cs, List.length_cons]
    show 1 + cs.length = cs.length + 1
    omega
theorem ch_V (cs : List Nat) : (cs.map chS).map V.str = cs.map chV := by rw [List.map_map]; rfl
theorem join_len (cs : List Nat) : (Txt.join (Str.ofString "") (cs.map chS)).length = cs.length := by
  show (Txt.join (Str.ofString "") (cs.map chS)).cps.size = _
  rw [join_ch]
  simp
theorem join_ok {cs : List Nat} (h : ∀ c ∈ cs, c < 0x110000) : PyData.strOk (Txt.join (Str.ofString "") (cs.map chS)) = true := by
  unfold PyData.strOk
  rw [join_ch]
  refine Array.all_eq_true'.mpr fun c hc => ?_
  exact decide_eq_true (h c (by simpa using hc))
theorem strOk_mem {z : Str} (h : PyData.strOk z = true) {c : Nat} (m : c ∈ z.cps.toList) : c < 0x110000 := by
  unfold PyData.strOk at h
  exact of_decide_eq_true (Array.all_eq_true'.mp h c (by simpa using m))
theorem str_at {z : Str} {d : Int} (h0 : 0 ≤ d) (h1 : d < z.length) : ∃ c, atI z.cps.toList d = some c ∧ c ∈ z.cps.toList := by
  have hl : d.toNat < z.cps.toList.length := by
    rw [Array.length_toList]
    have : (z.length : Int) = (z.cps.size : Int) := rfl
    omega
  exact ⟨z.cps.toList[d.toNat], at_ofC (by omega) (List.getElem?_eq_getElem hl), List.getElem_mem hl⟩
/-- a comprehension over range(n) whose items are drawn -/
theorem lcDraw {r : Addr} {ta : TA} {te : TE} {vs : List Nat} {σ : L2.St} {H : Hp} {Q : VK} {j : Nat} (n : Int) (hv : ∀ R : List V → Hp → Prop, R [.int n] H → ta σ H R) (h1 : -(2 ^ 62) ≤ n) (h2 : n ≤ 100000) (P : V → Prop) (hR : RngAt H r)
    (hw : ∀ x, wipe ((wipe σ vs).set j (some x)) vs = wipe σ vs)
    (hE : ∀ (i : Nat) H', i < n.toNat → KeepX r H H' → RngAt H' r → ∀ R : VK, (∀ v H2, P v → KeepX r H' H2 → RngAt H2 r → R v H2) → te ((wipe σ vs).set j (some (.int (i : Int)))) H' R)
    (k : ∀ D H' xs, xs.length = n.toNat → (∀ x ∈ xs, P x) → H D = none → H' D = some (.lst xs) → KeepX r H H' → RngAt H' r → Q (.ref D) H') : tLc (iRng1 ta) (gName j) tYes te vs σ H Q :=
  hv _ ⟨n, rfl, h1, by omega, fun D hD => by
    have hDr := hR.ne hD
    refine lc_it (walk_range (lo := 0) (n := n.toNat)) (fun i H' => ∃ xs, xs.length = i ∧ (∀ x ∈ xs, P x) ∧ H' D = some (.lst xs) ∧ KeepX r H H' ∧ RngAt H' r) ⟨[], rfl, fun x h => (List.not_mem_nil h).elim, upd_same, KeepX.new hD, hR.new hD rfl⟩ (fun _ _ _ _ => trivial) ?_ ?_
    · rintro i x H1 H2 hi ⟨xs, l1, l2, l3, l4, l5⟩ ⟨e1, e2⟩
      subst e1
      have e3 : x = .int (i : Int) := by rw [e2]; show V.int (0 + (i : Int)) = _; rw [Int.zero_add]
      subst e3
      refine ⟨hw _, ?_⟩
      simp only [tYes, ↓reduceIte]
      refine hE i _ hi l4 l5 _ fun v H3 pv k3 R3 => ⟨xs, k3 D _ hDr l3, ?_, xs ++ [v], by rw [List.length_append, l1]; rfl, fun x hx => ?_, upd_same, fun c o nc e => ?_, ?_⟩
      · have : i < 100000 := by omega
        rw [l1]
        exact Nat.lt_of_lt_of_le this (by decide)
      · rcases List.mem_append.mp hx with h | h
        · exact l2 x h
        · rw [List.mem_singleton.mp h]
          exact pv
      · rw [upd_ne (ne_of_none e hD)]
        exact k3 c o nc (l4 c o nc e)
      · obtain ⟨nd, o, e, q⟩ := R3
        exact ⟨nd.upd rfl, o, by rw [upd_ne hDr.symm]; exact e, q⟩
    · rintro H' ⟨xs, l1, l2, l3, l4, l5⟩
      exact k D H' xs l1 l2 hD l3 l4 l5⟩
/-! ### from the head's facts -/
theorem fun_of_D {K : PySem.W.Frag} {x qual : Str} {st : Stmt} {kws : List (Str × V)} {f : Addr} {fd : FuncData} (F : FunD K x qual (defArgs st) (defBody st) (defScope st) [] kws f fd) : Fun K x qual st f fd := by
  obtain ⟨oc, od, dV, kV, doc, pm, an, cdv, ct, osl, e, lk, hcd, hD, _⟩ := F.ex
  rcases hD with ⟨_, rfl⟩ | ⟨z, _⟩
  · exact ⟨⟨oc, od, kV, doc, pm, an, cdv, ct, osl, e, lk, hcd⟩, F.kp⟩
  · exact absurd rfl z
theorem fun_bindsA {K : PySem.W.Frag} {x qual : Str} {st : Stmt} {f : Addr} {fd : FuncData} {ps : List Str} (F : Fun K x qual st f fd)
    (h : ∀ (kV doc pm : Value) (an : Option Addr) (cdv ct : Value) (us : List Value), us.length = ps.length → bindArgs (PySem.W.fnOf x qual (defArgs st) (defBody st) (defScope st) .none kV doc pm an cdv ct) ⟨us, []⟩ = pure (ps.zip us)) (s : Shared) (us : List Value) (hl : us.length = ps.length) : BindsTo s fd ⟨us, []⟩ (ps.zip us) := by
  obtain ⟨oc, od, kV, doc, pm, an, cdv, ct, osl, rfl, lk, hcd⟩ := F.ex
  exact .of_eq (h kV doc pm an cdv ct us hl)
end Cv

/-! CvD: own errors: their making (an __init__ that calls its own base's), several except clauses with a name, what a suite does with the caught error. -/
namespace Cv
open PySem PySem.Spec PyProof.Rows L2
abbrev Cls1 : Type := Value × (Addr → Value → Option Addr → TS)
/-- the wish of clauses 'except c as n', one after the other; slot i is n's -/
def wNames (K : PySem.W.Frag) (i : Nat) (Wout : WX) (D : Ends) : List Cls1 → WX
  | [] => Wout
  | (c, t) :: rest => fun cls d σ H => ∃ b, PySem.W.exmOne K cls c = some b ∧
      (b = true → ∀ a, H a = none → t a cls d ⟨fun τ G => D.nx (τ.set i none) G, D.rt, fun τ G => D.bk (τ.set i none) G, fun τ G => D.ct (τ.set i none) G⟩ (σ.set i (some (.ref a))) H) ∧
      (b = false → wNames K i Wout D rest cls d σ H)
inductive Named (X : Cx) (n : Str) : List ExceptHandler → List Cls1 → Prop
  | nil : Named X n [] []
  | cons {x : Str} {c : Value} {t : Addr → Value → Option Addr → TS} {b0 : Stmt} {bs : List Stmt} {np p2 : Pos} {hds : List ExceptHandler} {l : List Cls1} (hc : Names X x c)
      (hsu : ∀ (a : Addr) (oe : Obj) (cls : Value) (d : Option Addr) (pn : List (Addr × Obj)), L2N.Zn cls d oe → (∃ vs, oe.data = .fields vs) → PSs (X.suite a ((a, oe) :: pn)) (b0 :: bs) (t a cls d))
      (r : Named X n hds l) : Named X n (.ExceptHandler (some (.Name x np)) (some n) (b0 :: bs) p2 :: hds) ((c, t) :: l)
/-- the error a has come down to the try; sI: the state without it -/
structure Down (X : Cx) (pins : List (Addr × Obj)) (σ : L2.St) (H : Hp) (a : Addr) (cls : Value) (d : Option Addr) (B : Heap) (sI s : Shared) : Prop where
  inv : Inv X pins σ H sI
  nb : ∀ b o, sI.heap.get? b = some o → b ∉ frs X.stack → B.get? b = some o
  up : sI.heap.UpToSlots s.heap
  fly : HandSPX.FlyingZ B (X.env :: X.outer) a (L2N.Zn cls d) s.heap
  na : H a = none
  os : s.os = sI.os
  ag : AllBare s.gens
section
variable {X : Cx} {pins : List (Addr × Obj)} {σ : L2.St} {H : Hp} {a : Addr} {cls : Value} {d : Option Addr} {B : Heap} {sI s : Shared}
theorem Down.here (L : Down X pins σ H a cls d B sI s) : Inv X pins σ H s := L.inv.landed L.nb L.fly.1 L.up L.os L.ag
theorem Down.obj (hf : X.env.frame = some X.env.locals) (L : Down X pins σ H a cls d B sI s) :
    ∃ (oe : Obj) (vs : Array Value), s.heap.get? a = some oe ∧ L2N.Zn cls d oe ∧ oe.data = .fields vs ∧ Inv (X.suite a ((a, oe) :: (X.pn ++ pins))) [] σ H s := by
  obtain ⟨oe, vs, e1, e2, e3⟩ := L.fly.there
  have out : a ∉ frs (X.env :: X.outer) := by
    intro m
    obtain ⟨_, u, e4, e5⟩ := L.fly.2.2.1.mem m
    rw [e1] at e4
    cases e4
    exact e5 _ e3
  refine ⟨oe, vs, e1, e2, e3, L.here.suite e1 e3 L.na (fun z => out ?_) fun z => out ?_⟩
  · exact List.mem_filterMap.mpr ⟨X.env, List.mem_cons_self, by rw [hf, z]⟩
  · obtain ⟨e, m, q⟩ := List.mem_filterMap.mp z
    exact List.mem_filterMap.mpr ⟨e, List.mem_cons_of_mem _ m, q⟩
theorem Down.goes {h : Heap} (L : Down X pins σ H a cls d B sI s) (fl : HandSPX.FlyingZ B (X.env :: X.outer) a (L2N.Zn cls d) h) (up : s.heap.UpToSlots h) : Down X pins σ H a cls d B sI { s with heap := h } :=
  ⟨L.inv, L.nb, L.up.trans up, fl, L.na, L.os, L.ag⟩
/-- no clause is left: it goes on -/
theorem Down.on {D : Ends} {Wout : WX} (hs : X.stack = X.env :: X.outer) (hf : X.env.frame = some X.env.locals) (tk : L2N.Takes X Wout) (L : Down X pins σ H a cls d B sI s) (w : Wout cls d σ H) :
    wpAny (model X.prog X.w) X.A (handleBy (.ref a) X.env []) (SP X pins D) X.xe s := by
  refine wpAny_handleBy_nil ?_
  have tr := L.fly.2.2.2
  obtain ⟨oe, vs, T, _, _, e1, _, e2, e3, _⟩ := tr
  unfold PySem.passOn
  refine wpAny_bind (wpAny_field e1 e2 e3 ?_)
  rw [if_neg (show ¬ (Value.ref T == Value.none) = true by simp)]
  have last : wpAny (model X.prog X.w) X.A (setFlight (.ref a) X.env.frame) (fun _ s2 => wpAny (model X.prog X.w) X.A (throw (.ref a) : Sem Flow) (SP X pins D) X.xe s2) X.xe s := by
    rw [hf]
    refine HandSPX.setFlight_upZ L.fly fun h held up => wpAny_throw (tk _ _ ?_)
    exact ⟨a, B, sI, pins, σ, H, cls, d, rfl, L.inv, L.nb, L.up.trans up, .inr (.inr (by rw [hs]; exact held)), L.na, L.os, L.ag, w⟩
  first
  | exact wpAny_bind (wpAny_pure (wpAny_bind last))
  | exact wpAny_bind last
/-- the name's end behind a suite -/
theorem unname {n : Str} {i : Nat} {p2 : Pos} {oe : Obj} {τ : L2.St} {G : Hp} {t : Shared} {Q : Shared → Prop} (ok : X.Ok) (hN : X.N.Nodup) (hi : X.N[i]? = some n) (hln : X.env.kindOf n = some .local)
    (S : Inv (X.suite a ((a, oe) :: (X.pn ++ pins))) [] τ G t) (q : ∀ t', Inv X pins (τ.set i none) G t' → Q t') :
    wpAny (model X.prog X.w) X.A (do bindName X.env n .none; unbindBehindTheSuite X.env n p2) (fun _ t' => Q t') X.xe t := gone_ok (S.unsuite ok) hN hi hln q
theorem Down.handle {D : Ends} {Wout : WX} {n : Str} {i : Nat} {hds : List ExceptHandler} {l : List Cls1} (hs : X.stack = X.env :: X.outer) (hf : X.env.frame = some X.env.locals) (hN : X.N.Nodup) (hi : X.N[i]? = some n) (hln : X.env.kindOf n = some .local)
    (tk : L2N.Takes X Wout) (hh : Named X n hds l) : Down X pins σ H a cls d B sI s → wNames X.K i Wout D l cls d σ H → wpAny (model X.prog X.w) X.A (handleBy (.ref a) X.env hds) (SP X pins D) X.xe s := by
  induction hh with
  | nil => exact fun L w => L.on hs hf tk w
  | @cons x c t b0 bs np p2 hds l hc hsu r ih =>
    rintro L ⟨b, hm, yes, no⟩
    have ok := L.inv.ok
    obtain ⟨oe, vs, e1, e2, e3, S⟩ := L.obj hf
    have ty : PySem.W.Looks (model X.prog X.w) s.heap (typeOf (.ref a)) cls := fun _ _ _ _ k q => wpAny_typeOf_ref (k _ _ e1) (by rw [e2.1]; exact q)
    have asks := PySem.W.exm_one (M := model X.prog X.w) L.here.kIn ty hm
    refine wpAny_handleBy_cons (codeAny_handlers_test ?_) (fun z => nomatch z)
    have name : ∀ {Q : Value → Shared → Prop} {E : Value → Shared → Prop}, Q c s → wpAny (model X.prog X.w) (X.A.mark (some (.ref a))) (eval (.Name x np) X.env) Q E s := by
      intro Q E q
      obtain ⟨g1, g2, g3⟩ := hc
      rcases g3 with g3 | ⟨g3, g4, g5⟩
      · exact ld_glob (X := X.suite a ((a, oe) :: (X.pn ++ pins))) S g1 g3 q g2
      · exact ld_blt (X := X.suite a ((a, oe) :: (X.pn ++ pins))) S g1 g3 g4 q g5 g2
    refine name (asks.here ?_)
    cases b with
    | false =>
      show wpAny _ X.A (handleBy (.ref a) X.env hds) _ _ _
      exact ih L (no rfl)
    | true =>
      refine codeAny_handlers_suite_as (HandSPX.lands_againZ L.fly fun h fl up => ?_)
      obtain ⟨o2, v2, f1, f2, f3, S2⟩ := (L.goes fl up).obj hf
      refine store_ok (X := X.suite a ((a, o2) :: (X.pn ++ pins))) (v := .ref a) S2 hN hi (.inl hln) rfl (fun s5 S5 => ?_) (.inr hln)
      refine wpAny_mono ((hsu a o2 cls d (X.pn ++ pins) f2 ⟨_, f3⟩).run [] s5 _ H _ S5 (yes rfl a L.na)) ?_ (fun _ _ z => z.elim)
      intro f t hf'
      cases f with
      | ret u =>
        obtain ⟨v, τ, G, S6, rv, q⟩ := hf'
        exact unname ok hN hi hln S6 fun t' J => ⟨v, _, _, J, rv, q⟩
      | next =>
        obtain ⟨τ, G, S6, q⟩ := hf'
        exact unname ok hN hi hln S6 fun t' J => ⟨_, _, J, q⟩
      | brk =>
        obtain ⟨τ, G, S6, q⟩ := hf'
        exact unname ok hN hi hln S6 fun t' J => ⟨_, _, J, q⟩
      | cont =>
        obtain ⟨τ, G, S6, q⟩ := hf'
        exact unname ok hN hi hln S6 fun t' J => ⟨_, _, J, q⟩
end
/-- try: .., except c1 as n: .., except c2 as n: .. -/
theorem ps_tryNames {X : Cx} {n : Str} {i : Nat} {body : List Stmt} {h0 : ExceptHandler} {hds : List ExceptHandler} {l : List Cls1} {pos : Pos} {tb : WX → TS} {Wout : WX} (hs : X.stack = X.env :: X.outer) (hf : X.env.frame = some X.env.locals)
    (hN : X.N.Nodup) (hi : X.N[i]? = some n) (hln : X.env.kindOf n = some .local) (tk : L2N.Takes X Wout)
    (hb : ∀ (W : WX) (pn : List (Addr × Obj)) (xe : Value → Shared → Prop), L2N.Takes (X.tr pn xe) W → PassesOwn (model X.prog X.w) X.A X.env xe → PSs (X.tr pn xe) body (tb W))
    (hh : Named X n (h0 :: hds) l) : PS X (.Try body (h0 :: hds) [] [] pos) (fun D σ H => tb (wNames X.K i Wout D l) D σ H) := by
  refine ⟨fun pins s σ H D I h => wpAny_Try_except ?_⟩
  have ok := I.ok
  have hfr : X.A.frames = some (X.env :: X.outer) := by rw [ok.frames, hs]
  refine wpAny_mono ((hb (wNames X.K i Wout D l) (X.pn ++ pins) (fun e s1 => wpAny (model X.prog X.w) X.A (noteFrame e X.env) (fun _ s2 => wpAny (model X.prog X.w) X.A (setFlight e none)
    (fun _ s3 => wpAny (model X.prog X.w) X.A (handleBy e X.env (h0 :: hds)) (SP X pins D) X.xe s3) X.xe s2) X.xe s1) (fun u s1 air => ?_) PassesOwn.looking).run [] s σ H D (I.toTry _) h) (fun f s1 out => ?_) (fun _ _ z => z)
  · obtain ⟨a, B, sI, p1, τ, G, cls, d, rfl, J, nb, up, sky, na, os, ag, w⟩ := air
    have sky2 : Sky B (X.env :: X.outer) a (L2N.Zn cls d) X.env.locals s1.heap := by rw [← hs]; exact sky
    show wpAny (model X.prog X.w) X.A (noteFrame (.ref a) X.env) _ _ _
    exact L2N.Sky.land L2N.Zn.steady hfr hf sky2 fun h3 fl up3 => Down.handle hs hf hN hi hln tk hh ⟨J.ofTry ok, nb, up.trans up3, fl, na, os, ag⟩ w
  · cases f with
    | ret u =>
      obtain ⟨v, τ, G, J, r, q⟩ := out
      exact ⟨v, τ, G, J.ofTry ok, r, q⟩
    | next =>
      obtain ⟨τ, G, J, q⟩ := out
      exact wpAny_execs_nil ⟨τ, G, J.ofTry ok, q⟩
    | brk =>
      obtain ⟨τ, G, J, q⟩ := out
      exact ⟨τ, G, J.ofTry ok, q⟩
    | cont =>
      obtain ⟨τ, G, J, q⟩ := out
      exact ⟨τ, G, J.ofTry ok, q⟩

/-! ### classes of errors -/
/-- of the class at C: over ValueError (by own classes), an own dict, no __del__ -/
def oexB (K : PySem.W.Frag) (C : Addr) : Bool := match K.lookup C with
  | some ⟨.type "type", _, .cls cd, sl⟩ => (match cd.mro, sl.toList with
    | .ref D :: r, [_, _, _, _, some (.builtin n), _] => D == C && (n == "ValueError.__new__" && (!cd.hasDel && (cd.hasDict && PySem.HandSPX.refsVE r)))
    | _, _ => false)
  | _ => false
theorem oexB_ok {K : PySem.W.Frag} {C : Addr} (q : oexB K C = true) : ∃ nm q N bs bm sn sub ab col dd k0 k1 k2 k3 k5,
    K.lookup C = some (excClassObj nm q C N bs bm true sn sub ab col dd k0 k1 k2 k3 k5 "ValueError.__new__") ∧ PySem.HandSPX.refsVE bm = true := by
  unfold oexB at q
  split at q
  · rename_i dd cd sl ho
    split at q
    · rename_i D r k0 k1 k2 k3 n k5 hm hl
      simp only [Bool.and_eq_true, beq_iff_eq, Bool.not_eq_true'] at q
      obtain ⟨rfl, rfl, q1, q2, q3⟩ := q
      obtain ⟨nm, bs, mro, N, qn, hd, sn, sub, ab, col, dl⟩ := cd
      dsimp only at hm q1 q2
      subst hm q1 q2
      obtain ⟨l⟩ := sl
      dsimp only at hl
      subst hl
      exact ⟨nm, qn, N, bs, r, sn, sub, ab, col, dd, k0, k1, k2, k3, k5, ho, q3⟩
    · cases q
  · cases q
/-- what a proof asks of an own error class -/
structure OwnE (K : PySem.W.Frag) (C : Addr) : Prop where
  ox : OexC K C
  xf : XfC K C
  cl : (PySem.W.clsIn K C).isSome = true
  ca : PySem.W.findIn K (.ref C) "__class__" = some (some (.builtin "object.__class__"))
  cg : PySem.W.specialIn K (.builtin "object.__class__") "__get__" = some (some (.builtin "getset_descriptor.__get__"))
  ct : PySem.W.takesIn K (.builtin "object.__class__") = some true
  cm : PySem.W.mroIn K C (.type "object") = some true
def ownB (K : PySem.W.Frag) (C : Addr) : Bool := oexB K C && (He.eqO (PySem.W.findIn K (.ref C) "__setattr__") (some (some (.builtin "object.__setattr__"))) && (decide (PySem.W.typeIn K (.ref C) = some (.type "type")) && (PySem.W.keepIn K (.ref C) && (xfB K C &&
  ((PySem.W.clsIn K C).isSome && (He.eqO (PySem.W.findIn K (.ref C) "__class__") (some (some (.builtin "object.__class__"))) && (He.eqO (PySem.W.specialIn K (.builtin "object.__class__") "__get__") (some (some (.builtin "getset_descriptor.__get__"))) &&
  (decide (PySem.W.takesIn K (.builtin "object.__class__") = some true) && decide (PySem.W.mroIn K C (.type "object") = some true)))))))))
theorem ownB_ok {K : PySem.W.Frag} {C : Addr} (h : ownB K C = true) : OwnE K C := by
  obtain ⟨h1, h⟩ := Bool.and_eq_true_iff.mp h
  obtain ⟨h2, h⟩ := Bool.and_eq_true_iff.mp h
  obtain ⟨h3, h⟩ := Bool.and_eq_true_iff.mp h
  obtain ⟨h4, h⟩ := Bool.and_eq_true_iff.mp h
  obtain ⟨h5, h⟩ := Bool.and_eq_true_iff.mp h
  obtain ⟨h6, h⟩ := Bool.and_eq_true_iff.mp h
  obtain ⟨h7, h⟩ := Bool.and_eq_true_iff.mp h
  obtain ⟨h8, h⟩ := Bool.and_eq_true_iff.mp h
  obtain ⟨h9, h10⟩ := Bool.and_eq_true_iff.mp h
  have x := xfB_ok h5
  exact ⟨⟨oexB_ok h1, He.eqO_ok h2, x.exC, of_decide_eq_true h3, h4⟩, x, h6, He.eqO_ok h7, He.eqO_ok h8, of_decide_eq_true h9, of_decide_eq_true h10⟩
/-- C(e, ..), C's own __init__ keeping sp; its context is None -/
theorem pmkN_own {X : Cx} {CX : CXT} {x : Str} {e : Expr} {es : List Expr} {ta : TA} {p pos : Pos} {C fI : Addr} {k : Nat} {fd : FuncData} {ps : List Str} {sp : Sp} (T : OexC X.K C) (iC : PySem.W.findIn X.K (.ref C) "__init__" = some (some (.ref fI)))
    (tI : PySem.W.typeIn X.K (.ref fI) = some (.type "function")) (F1 : FnOk X.prog X.w X.K X.mg X.base CX k fI fd ps sp) (room : Room (k + 1) X.A) (bi : Binds X.K fd ps []) (pass : Passes CX X (fun _ _ _ => False)) (hg : Gl X x) (hm : X.mg x = some (.ref C))
    (ha : PA X (e :: es) ta) (h1 : (x == ("__debug__" : Str)) = false := by decide) (h2 : starEach (e :: es) X.env = (false, eval e X.env) :: starEach es X.env := by rfl) (h3 : (backTo pos (starEach es X.env)).any (·.1) = false := by rfl) :
    L2N.PMk X (.Call (.Name x p) (e :: es) [] pos) (tMkO C sp [] ta) := by
  intro pins s σ H Q I want
  obtain ⟨nm, q, N, bs, bm, sn, sub, ab, col, dd, k0, k1, k2, k3, k5, lk, ve⟩ := T.cls
  refine wpAny_Call_Name_kw (ld_glob I hg hm (PySem.W.callWith_K (h₀ := X.base) I.ok.mod.kin T.kC (thn (ha.run pos pins s σ H _ I want) fun us t ⟨vs, G, J, rv, z, body⟩ => ⟨J.kIn, ?_⟩) h2 h3) h1)
  show wpAny _ _ (call (.ref C) us) _ _ _
  obtain ⟨h, gs, dr, tk, os⟩ := t
  have le : h.objs.size ≤ h.objs.size + 1 := Nat.le_succ _
  have start := body (h.objs.size + 1) (J.hok.fresh le)
  rw [List.append_nil] at start
  have old : ∀ b o, h.get? b = some o → ((h.push (PySem.W.kdv_tup us)).push (PySem.HandSPX.excO C h.objs.size)).get? b = some o := fun b o w => Heap.get?_push_of_some _ (Heap.get?_push_of_some _ w)
  have new : ((h.push (PySem.W.kdv_tup us)).push (PySem.HandSPX.excO C h.objs.size)).get? (h.objs.size + 1) = some (PySem.HandSPX.excO C h.objs.size) := by heap_get
  have J2 := J.laid (t' := tk) (a := h.objs.size + 1) (o := exo (h.objs.size + 1) C none) (h' := (h.push (PySem.W.kdv_tup us)).push (PySem.HandSPX.excO C h.objs.size)) old le (exo_ok new)
  have rs : Vals (.ref (h.objs.size + 1) :: vs) (Value.ref (h.objs.size + 1) :: us) := .cons rfl rv
  have few : (Value.ref (h.objs.size + 1) :: us ++ []).length = ps.length := by
    rw [List.append_nil]
    exact rs.length.symm.trans (F1.len _ _ _ _ start)
  have small : us.length ≤ sizeLine := by
    rw [← Paired.length rv, sizeLine_eq]
    omega
  have bound := bi _ (Value.ref (h.objs.size + 1) :: us) J2.kIn few
  rw [List.append_nil] at bound
  refine wpAny_call (PySem.HandSPX.call_own F.excBase_ValueError (fun Y => PySem.HandSPX.refsVE_contains Y bm ve) (J.kIn _ _ lk) (PySem.W.looks_findIn J.kIn iC) (fun self => PySem.W.bind_fn J.kIn self tI) small
    (codeAny_mono (F1.run _ X.stack _ _ ⟨Value.ref (h.objs.size + 1) :: us, []⟩ _ _ _ (fun _ _ _ => False) (room.make C us []) (J2.env0.make C us []) bound rs start) ?_))
  rintro (er | fl) s' out
  · exact pass pins σ _ _ er s' J2 out
  · cases fl with
    | ret u =>
      obtain ⟨v, G2, os2, bare, un, hok, ru, ev, d, fs, ea, ed, free, q2⟩ := out
      cases ev
      obtain ⟨hB, g2, d2, t2, os'⟩ := s'
      obtain ⟨t0, hG, J3, keep, gone, there, na⟩ := mk_end0 (d2 := d2) (t2 := t2) J le old un hok os2 bare ea ed free
      exact ⟨ru, h.objs.size + 1, _, _, ⟨hG, g2, d2, t2, os'⟩, _, .ref C, some d, rfl, J3, keep, gone, there, ⟨rfl, rfl, fun vs hv => by cases hv; rfl⟩, rfl, rfl, na, rfl, bare, raises_own T.exC T.tyC, q2⟩
    | next => exact out.elim
    | brk => exact out.elim
    | cont => exact out.elim
/-- B.__init__(self, ..), B an own class whose __init__ is ValueError's -/
theorem pe_binit {X : Cx} {B : Addr} {x : Str} {e : Expr} {es : List Expr} {ta : TA} {p1 p2 pos : Pos} {pl : Sem Bool} (hg : Gl X x) (hm : X.mg x = some (.ref B)) (r : ClX.CRead X.K B (.type "type"))
    (hat : PySem.W.findCls X.K (.ref B) (.type "type") "__init__" = some (.val (.builtin "ValueError.__init__"))) (ha : PA X (e :: es) ta)
    (hc : eval (.Call (.Attribute (.Name x p1) "__init__" p2) (e :: es) [] pos) X.env = (do
      let ov ← eval (.Name x p1) X.env
      standAt p2.atName
      let (f, first) ← holding [ov] (getMethod ov "__init__" pl)
      callWith pos f first (backTo pos (starEach (e :: es) X.env)) (backToKw pos (keywordEach [] X.env))) := by rfl)
    (h1 : (x == ("__debug__" : Str)) = false := by decide) (h2 : starEach (e :: es) X.env = (false, eval e X.env) :: starEach es X.env := by rfl) (h3 : (backTo pos (starEach es X.env)).any (·.1) = false := by rfl) :
    PE X (.Call (.Attribute (.Name x p1) "__init__" p2) (e :: es) [] pos) (tVeI X.K ta) := by
  refine ⟨fun pins s σ H Q I h => PySem.W.methodCall_KW (ld_glob I hg hm ?_ h1) hc⟩
  refine PySem.W.method_cls I.kIn r.ga (PySem.W.cls_value I.kIn r.rd hat (by decide +kernel) ?_)
  show wpAny _ _ (callWith pos (Value.builtin "ValueError.__init__") [] (backTo pos (starEach (e :: es) X.env)) []) _ _ _
  refine PyProof.Rows.callWith_method1 (thn (ha.run pos pins _ σ H _ (I.tok _) h) fun us t ⟨vs, G, J, rv, a, C, ws, ev, hl, T, ea, q⟩ => ?_) h2 h3
  cases ev
  cases rv with
  | cons ru rr =>
    cases ru
    exact oinit_ok T J ea (by rw [← Paired.length rr, sizeLine_eq]; omega) fun s' J' => ⟨.non, G, J', rfl, q⟩
/-- an __init__ of the form: the base's __init__, then self.f = v -/
def spInit (K : PySem.W.Frag) (f : Str) : Sp := fun vs H Q _ => ∃ x v, vs = [x, v] ∧ ∃ (a C : Addr), x = .ref a ∧ OexC K C ∧ PySem.W.findIn K (.ref C) f = some none ∧ H a = some (exo a C none) ∧
  ∀ dx, H dx = none → dx ≠ a → Q .non (upd (upd H dx (exd dx [(f, v)])) a (exo a C (some dx)))
theorem made_heap {H : Hp} {a dx C : Addr} {f : Str} {v : V} (na : H a = none) (ne : dx ≠ a) :
    upd (del (upd (upd (upd H a (exo a C none)) dx (exd dx [(f, v)])) a (exo a C (some dx))) a) dx (.xd [(f, v)]) = upd H dx (.xd [(f, v)]) := by
  funext b
  by_cases hd : b = dx
  · rw [hd, upd_same, upd_same]
  · rw [upd_ne hd, upd_ne hd]
    by_cases ha : b = a
    · rw [ha, del_same, na]
    · rw [del_ne ha, upd_ne ha, upd_ne hd, upd_ne ha]
/-- .. so C(v) is: a new dict, the error itself nowhere told -/
theorem use_mk {K : PySem.W.Frag} {C : Addr} {f : Str} {v : V} {H : Hp} {Q : XK} (T : OexC K C) (hf : PySem.W.findIn K (.ref C) f = some none) (q : ∀ d, H d = none → Q (.ref C) (some d) (upd H d (.xd [(f, v)]))) :
    [v].length ≤ 1000 ∧ ∀ a, H a = none → spInit K f (.ref a :: ([v] ++ [])) (upd H a (exo a C none))
      (fun w G => w = .non ∧ ∃ (d : Addr) (fs : List (Str × V)), G a = some (exo a C (some d)) ∧ G d = some (exd d fs) ∧ H d = none ∧ Q (.ref C) (some d) (upd (del G a) d (.xd fs))) (fun _ _ _ => False) := by
  refine ⟨by show 1 ≤ 1000; decide, fun a na => ⟨_, v, rfl, a, C, rfl, T, hf, upd_same, fun dx nd ne => ⟨rfl, dx, [(f, v)], upd_same, ?_, ?_, ?_⟩⟩⟩
  · rw [upd_ne ne, upd_same]
  · rwa [upd_ne ne] at nd
  · rw [made_heap na ne]
    rw [upd_ne ne] at nd
    exact q dx nd
end Cv

/-! CvE: what an except suite says of the caught error: its text by repr, its class, a def called with it. -/
namespace Cv
open PySem PySem.Spec PyProof.Rows L2
/-! ### data whose text is short -/
def nice (d : PyData) : Bool := d.canLay0 && (decide (d.depth ≤ 40) && (decide (d.weight ≤ 100000) && (d.showable && d.intsShort 40)))
theorem nice_parts {d : PyData} (h : nice d = true) : d.canLay0 = true ∧ d.depth ≤ 40 ∧ d.weight ≤ 100000 ∧ d.showable = true ∧ d.intsShort 40 = true := by
  obtain ⟨h1, h⟩ := Bool.and_eq_true_iff.mp h
  obtain ⟨h2, h⟩ := Bool.and_eq_true_iff.mp h
  obtain ⟨h3, h⟩ := Bool.and_eq_true_iff.mp h
  obtain ⟨h4, h5⟩ := Bool.and_eq_true_iff.mp h
  exact ⟨h1, of_decide_eq_true h2, of_decide_eq_true h3, h4, h5⟩
theorem nice_len {d : PyData} (h : nice d = true) : d.shown.length ≤ sizeLine := by
  obtain ⟨h1, _, h3, _, h5⟩ := nice_parts h
  have := PyData.shown_le 40 (by decide) d (PyData.leavesShort_of_canLay0 40 d h1 h5)
  rw [sizeLine_eq]
  omega
theorem nice_shaped {d : PyData} (h : nice d = true) : SeqAt.shaped d = true := by
  obtain ⟨h1, h2, _⟩ := nice_parts h
  exact Bool.and_eq_true_iff.mpr ⟨h1, decide_eq_true (by omega)⟩
/-- repr(x), x data, or an empty dict -/
def rShow (K : PySem.W.Frag) : List V → Hp → VK → Prop := fun vs H Q => (∃ x d, vs = [x] ∧ Dp K H x d ∧ nice d = true ∧ Q (.str d.shown) H) ∨ ∃ a, vs = [.ref a] ∧ H a = some (.dK []) ∧ Q (.str "{}") H
theorem dict_shown : (PyData.dict []).shown = ("{}" : Str) := by decide +kernel
theorem call_reprS {X : Cx} (gd : X.A.guards = some []) (hu : X.A.units + 64 < cLine) : CallR X (.builtin "repr") (rShow X.K) := by
  intro pins s σ H xs us Q I r h
  rcases h with ⟨x, d, e, dp, nc, q⟩ | ⟨a, rfl, ha, q⟩
  · obtain ⟨_, n2, _, n4, _⟩ := nice_parts nc
    exact call_reprD gd hu pins s σ H xs us Q I r ⟨x, d, e, dp, n4, by omega, nice_len nc, q⟩
  · obtain ⟨u, rfl, ru⟩ := vals1 r
    cases (show u = Value.ref a from ru)
    obtain ⟨_, nm, vs, kv, o, es, ep, e1, ex, e2, _, pr, _⟩ := dk_of I.hok ha
    cases kv
    have e3 : es.toList = [] := by
      cases he : es.toList with
      | nil => rfl
      | cons z zs =>
        rw [he] at pr
        cases pr
    have rd : Reads s.heap (.ref a) (.dict []) [a] := by
      have z := Reads.dict (h := s.heap) (a := a) (kvs := []) (as := []) (bs := []) e1 ex.1 e2 (by rw [e3]; exact ReadsAll.nil) (by rw [e3]; exact ReadsAll.nil)
      simpa using z
    refine PySem.repr_of_reads' rd (by decide +kernel) (fun _ m => ?_) gd (by show X.A.units + (PyData.depth (.dict []) + 1) < cLine; have : PyData.depth (.dict []) ≤ 40 := by decide +kernel
                                                                              omega) (fun _ _ z => z) (fun h' u tk k => ?_) (by rw [dict_shown]; decide +kernel)
    · have e4 : sysModules = a := by simpa using m
      rw [e4, beq_self_eq_true] at nm
      cases nm
    · exact ⟨.str (PyData.dict []).shown, H, I.kept (t' := tk) k, ⟨u, rfl⟩, by rw [dict_shown]; exact q⟩
/-! ### a def called with the caught error -/
structure FnE (P : Program) (w : World) (K : PySem.W.Frag) (mg : Str → Option Value) (base : Heap) (k : Nat) (f : Addr) (fd : FuncData) (x : Str) (sp : Value → Option Addr → Hp → VK → Prop) : Prop where
  run : ∀ (A : Around) (outer : List Env) (s : Shared) (H : Hp) (args : Args) (Q : VK) (p : Addr × Obj) (cls : Value) (d : Option Addr), L2H.RoomH k A → L2H.Hot1 A p → L2H.PinOk outer H s p → Zc cls d p.2 → (∃ vs, p.2.data = .fields vs) →
    Env0 P w K mg base A outer s H → BindsTo s fd args [(x, .ref p.1)] → sp cls d H Q → codeAny (model P w) A (.call (.ref f) args) (CR CX0 outer P w H s Q E0) s
section
variable {P : Program} {w : World} {K : PySem.W.Frag} {mg : Str → Option Value} {base : Heap}
theorem funE {n qual x : Str} {st : Stmt} {f : Addr} {fd : FuncData} {N : List Str} {k : Nat} {sp : Value → Option Addr → Hp → VK → Prop} (F : Fun K n qual st f fd) (S : FnScope N [x] (defScope st))
    (hb : ∀ (cdv : Value) (A : Around) (outer : List Env) (s : Shared) (H : Hp) (Q : VK) (p : Addr × Obj) (cls : Value) (d : Option Addr), L2H.Hot1 A p → L2H.RoomH k (A.deeper (envOfC qual (defScope st) s.heap.objs.size f cdv)) → Zc cls d p.2 →
      (∃ vs, p.2.data = .fields vs) → sp cls d H Q → ∃ t, PSs (L2H.cxH CX0 P w K mg base N qual (defScope st) f cdv A outer s H E0 p).nox (defBody st) t ∧ t ⟨fun _ G => Q .non G, Q, fun _ _ => False, fun _ _ => False⟩ (start N [.ref p.1]) H) :
    FnE P w K mg base (k + 1) f fd x sp := by
  obtain ⟨oc, od, kV, doc, pm, an, cdv, ct, osl, rfl, lk, hcd⟩ := F.ex
  refine ⟨fun A outer s H args Q p cls d room hot pin z fl e0 bi want => ?_⟩
  have inK : K.In s.heap := e0.mod.kin.keeps fun b o q => (e0.bs b o q).1
  have noL : s.heap.NoLimit := e0.mod.nolimit.keeps fun b o q => (e0.bs b o q).1
  have kinds : ∀ y ∈ [(x, Value.ref p.1)], (defScope st).names.lookup y.1 = some .local ∨ ((defScope st).names.lookup y.1 = some .cell ∧ ((cellsFrom (s.heap.objs.size + 1) (defScope st).names []).lookup y.1).isSome = true) := by
    intro y hy
    have e : y = (x, Value.ref p.1) := by simpa using hy
    subst e
    exact (S.par x (by simp)).imp id fun q => ⟨q, PySem.W.cellsFrom_some _ _ _ (.inl q)⟩
  refine codeAny_call_function room.depth (inK _ _ lk) rfl S.co S.gen rfl (PySem.W.codeRec_of inK hcd) (bi _ _ _ _ ?_)
  refine wpAny_newFunctionEnv_cells S.kind kinds fun env eq s1 ic => ?_
  cases eq
  refine ⟨noL.keeps ic.toInCall.keep, codeAny_func ?_⟩
  obtain ⟨t, ht, hq⟩ := hb cdv A outer s H Q p cls d hot (room.deeper _) z fl want
  have I := L2H.inv_startH (CX := CX0) (E := E0) (qual := qual) (f := f) (cd := cdv) (A := A) (vs := [.ref p.1]) (us := [.ref p.1]) S pin e0 rfl (.cons rfl .nil) ic
  refine wpAny_mono (ht.nox.run [] s1 (start N [.ref p.1]) H _ I hq) (fun fl' s' out => ?_) fun _ _ z => z
  cases fl' with
  | ret u =>
    obtain ⟨v, _, G, J, r, q⟩ := out
    exact ⟨v, G, J.os, J.bare, J.base, J.hok, r, q⟩
  | next =>
    obtain ⟨_, G, J, q⟩ := out
    exact ⟨.non, G, J.os, J.bare, J.base, J.hok, rfl, q⟩
  | brk =>
    obtain ⟨_, _, _, q⟩ := out
    exact q.elim
  | cont =>
    obtain ⟨_, _, _, q⟩ := out
    exact q.elim
end
section
variable {X : Cx} {a : Addr} {oe : Obj} {cls : Value} {d : Option Addr} {pn : List (Addr × Obj)} {k : Nat} {f : Addr} {fd : FuncData} {x n : Str} {sp : Value → Option Addr → Hp → VK → Prop} {p pos : Pos} {e : Expr} {ta : TA}
/-- f(e), e the caught error -/
theorem pe_callE (F : FnE X.prog X.w X.K X.mg X.base k f fd n sp) (room : Room k X.A) (hg : Gl X x) (hm : X.mg x = some (.ref f)) (hk : PySem.W.keepIn X.K (.ref f) = true) (bi : Binds X.K fd [n] []) (z : L2N.Zn cls d oe) (fl : ∃ vs, oe.data = .fields vs)
    (ha : PA (X.suite a ((a, oe) :: pn)) [e] ta) (h1 : (x == ("__debug__" : Str)) = false := by decide) (h2 : starEach [e] X.env = (false, eval e X.env) :: starEach [] X.env := by rfl) (h3 : (backTo pos (starEach [] X.env)).any (·.1) = false := by rfl) :
    PE (X.suite a ((a, oe) :: pn)) (.Call (.Name x p) [e] [] pos) (fun σ H Q => ta σ H fun vs G => vs = [.ref a] ∧ sp cls d G Q) := by
  refine ⟨fun pins s σ H Q I h => wpAny_Call_Name_kw (ld_glob I hg hm ?_ h1)⟩
  refine PySem.W.callWith_K (h₀ := X.base) I.ok.mod.kin hk (thn (ha.run pos pins s σ H _ I h) fun us t ⟨vs, G, J, rv, ev, q⟩ => ⟨J.kIn, ?_⟩) h2 h3
  subst ev
  obtain ⟨u, rfl, ru⟩ := vals1 rv
  cases (show u = Value.ref a from ru)
  have P1 := J.pin (a, oe) (List.mem_append_left _ List.mem_cons_self)
  have pin : L2H.PinOk X.stack G t (a, oe) := ⟨P1.1, P1.2.1, fun hm => (List.mem_cons.mp (J.stkSub a hm)).elim P1.2.2.1 P1.2.2.2.1, P1.2.2.2.2⟩
  obtain ⟨vs, hv⟩ := fl
  have b := bi t [Value.ref a] J.kIn rfl
  refine wpAny_call (codeAny_mono (F.run _ X.stack t G ⟨[.ref a], []⟩ Q (a, oe) cls d (L2H.roomH_mark room _) ⟨rfl, vs, hv, z.2.2 vs hv⟩ pin z.zc ⟨vs, hv⟩ J.env0 b q) ?_)
  rintro (er | fl2) s' out
  · exact out.elim
  · cases fl2 with
    | ret u => exact J.after out
    | next => exact out.elim
    | brk => exact out.elim
    | cont => exact out.elim
end
/-! ### isinstance of the error that is handled -/
def rIsP (K : PySem.W.Frag) (a C dd : Addr) : List V → Hp → VK → Prop := fun xs H Q => ∃ (fs : List (Str × V)), H dd = some (.xd fs) ∧
  ((∃ c cv b, xs = [.ref a, c] ∧ ClsV c cv ∧ PySem.W.kitOne K (.ref C) cv = some b ∧ Q (.bl b) H) ∨
   ∃ tp cs us b, xs = [.ref a, .ref tp] ∧ H tp = some (.tup cs) ∧ Paired ClsV cs us ∧ PySem.W.kitAny K (.ref C) us = some b ∧ Q (.bl b) H)
theorem call_isP {X : Cx} {p : Addr × Obj} {C dd : Addr} (O : OwnE X.K C) (hp : p ∈ X.pn) (z : Zc (.ref C) (some dd) p.2) (fl : ∃ vs, p.2.data = .fields vs) : CallR X (.builtin "isinstance") (rIsP X.K p.1 C dd) := by
  intro pins s σ H xs us Q I r h
  obtain ⟨fs, ed, h⟩ := h
  obtain ⟨ha, _⟩ := I.pin p (List.mem_append_left _ hp)
  obtain ⟨vs, hv⟩ := fl
  have hx : ObjOk X.prog X.w H s.heap dd (.xd fs) := I.hok dd _ ed
  obtain ⟨mA, ns, _⟩ := hx
  obtain ⟨od, ho, _⟩ := lookIn_ns ns
  have J : PySem.W.InstAt s.heap p.1 p.2 C (some od) := ⟨ha, z.1, by unfold PySem.W.notCls; rw [hv], by rw [z.2]; exact ho⟩
  have Z := PySem.W.kitx_exc (x := p.1) (ox := p.2) (od := some od) O.cl O.xf.ga O.xf.gg O.xf.exC O.ca O.cg O.ct O.cm
  rcases h with ⟨c, cv, b, rfl, kc, e, q⟩ | ⟨tp, cs, ws, b, rfl, ht, kc, e, q⟩
  · obtain ⟨u1, u2, rfl, r1, r2⟩ := vals2 r
    cases (show u1 = Value.ref p.1 from r1)
    have e2 := kc.eq r2
    subst e2
    exact PySem.W.kia_one Z I.kIn J e (fun z => nomatch z) fun tk => ⟨.bl b, H, I.tok tk, rfl, q⟩
  · obtain ⟨u1, u2, rfl, r1, r2⟩ := vals2 r
    cases (show u1 = Value.ref p.1 from r1)
    cases (show u2 = Value.ref tp from r2)
    obtain ⟨_, its, rv, o, h1, h2, n, h3⟩ := (show ObjOk X.prog X.w H s.heap tp (.tup cs) from I.hok tp _ ht)
    have e3 := ClsV.all kc rv
    subst e3
    obtain ⟨oc, dt0, dt, sl⟩ := o
    simp only at h2 h3
    subst h2 h3
    exact PySem.W.kia_tup Z I.kIn J h1 e (fun z => nomatch z) fun tk => ⟨.bl b, H, I.tok tk, rfl, q⟩
/-- l.count(x), l a list of data -/
def rCntD (K : PySem.W.Frag) : V → List V → Hp → VK → Prop := fun x xs H Q => ∃ p vs ds y d, x = .ref p ∧ xs = [y] ∧ SqL K H p vs ∧ DpAll K H vs ds ∧ Dp K H y d ∧ PyData.plainAll ds = true ∧ d.plain = true ∧ PyData.depthAll ds ≤ 40 ∧
  Q (.int ((ds.countP fun z => PyData.eqv z d : Nat) : Int)) H
theorem mt_countD {X : Cx} (hu : X.A.units + 64 < cLine) : MtR X "list.count" (rCntD X.K) := by
  intro pins s σ H x xs v us Q I rx rxs h
  obtain ⟨p, vs, ds, y, d, rfl, rfl, hs, da, dy, pa, pd, hd, q⟩ := h
  cases rx
  obtain ⟨u, rfl, ru⟩ := vals1 rxs
  obtain ⟨its, rv, pl, hlen⟩ := I.list hs
  obtain ⟨as, rs⟩ := Dp.readsAll I ds vs its da rv
  obtain ⟨bs, r2⟩ := Dp.reads I d y u dy ru
  refine PySem.SeqAt.count_list_data pl.isList rs r2 pa pd (by omega) ⟨.int ((ds.countP fun z => PyData.eqv z d : Nat) : Int), H, I.tok _, ⟨s.toks, rfl⟩, q⟩
end Cv

/-! CvF: defs that raise, calls of them by name, the head's facts of error classes. -/
namespace Cv
open PySem PySem.Spec PyProof.Rows L2
theorem uH {k : Nat} {A : Around} (r : L2H.RoomH k A) : A.units + 64 < cLine := by have := r.un; omega
theorem uR {k : Nat} {A : Around} (r : Room k A) : L2H.RoomH k A := ⟨r.dp, r.un⟩
theorem call_reprK {X : Cx} {K0 : PySem.W.Frag} (hK : X.K = K0) (gd : X.A.guards = some []) (hu : X.A.units + 64 < cLine) : CallR X (.builtin "repr") (rShow K0) := by
  subst hK
  exact call_reprS gd hu
theorem takesN0 {X : Cx} : L2N.Takes X (fun _ _ _ _ => False) := fun _ _ air => by
  obtain ⟨_, _, _, _, _, _, _, _, _, _, _, _, _, _, _, _, z⟩ := air
  exact z.elim
section
variable {P : Program} {w : World} {K : PySem.W.Frag} {mg : Str → Option Value} {base : Heap}
/-- a def that may raise -/
theorem okN {x qual : Str} {st : Stmt} {f : Addr} {fd : FuncData} {N ps : List Str} {k : Nat} {sp : Sp} (F : Fun K x qual st f fd) (S : FnScope N ps (defScope st)) (hl : ∀ vs H Q E, sp vs H Q E → vs.length = ps.length)
    (hb : ∀ (cdv : Value) (A : Around) (outer : List Env) (s : Shared) (H : Hp) (vs : List V) (Q : VK) (E : XK), Room k (A.deeper (envOfC qual (defScope st) s.heap.objs.size f cdv)) → sp vs H Q E →
      L2N.Takes (cxOf (L2N.CX P w) P w K mg base N qual (defScope st) f cdv A outer s H E) (fun cls d _ G => E cls d G) →
      PassesOwn (model P w) (cxOf (L2N.CX P w) P w K mg base N qual (defScope st) f cdv A outer s H E).A (cxOf (L2N.CX P w) P w K mg base N qual (defScope st) f cdv A outer s H E).env (cxOf (L2N.CX P w) P w K mg base N qual (defScope st) f cdv A outer s H E).xe →
      ∃ t, PSs (cxOf (L2N.CX P w) P w K mg base N qual (defScope st) f cdv A outer s H E) (defBody st) t ∧ t ⟨fun _ G => Q .non G, Q, fun _ _ => False, fun _ _ => False⟩ (start N vs) H) : FnOk P w K mg base (L2N.CX P w) (k + 1) f fd ps sp := by
  obtain ⟨oc, od, kV, doc, pm, an, cdv, ct, osl, rfl, lk, hcd⟩ := F.ex
  exact fn_of lk hcd S hl fun A outer s H vs Q E room want => hb cdv A outer s H vs Q E room want (L2N.takes_of rfl rfl rfl rfl) PassesOwn.leaving
end
section
variable {X : Cx} {CX : CXT} {k n : Nat} {f : Addr} {fd : FuncData} {ps ks : List Str} {sp : Sp} {E : L2.St → XK} {x : Str} {p pos : Pos} {kws : List Keyword} {tk : TA} {g : List Value → List Value → List Value} {gV : List V → List V → List V}
def tKwS (m : Nat) (sp : Sp) (gV : List V → List V → List V) (E : L2.St → XK) (tk : TA) : TE := fun σ H Q => tk σ H fun zs G => zs.length = m ∧ sp (gV [] zs) G Q (E σ)
/-- f(k = v, ..), nothing by position, f may raise -/
theorem pe_callKS (F : FnOk X.prog X.w X.K X.mg X.base CX k f fd ps sp) (room : Room k X.A) (hg : Gl X x) (hm : X.mg x = some (.ref f)) (hk : PySem.W.keepIn X.K (.ref f) = true) (hb : KBn X.K fd ps 0 ks g gV) (pass : ∀ σ, PassesAt CX X σ (E σ))
    (hkw : PK X kws tk) (h1 : (backToKw pos (keywordEach kws X.env)).all (·.1.isSome) = true := by rfl) (h2 : (backToKw pos (keywordEach kws X.env)).filterMap (·.1) = ks := by rfl)
    (h3 : (x == ("__debug__" : Str)) = false := by decide) (h4 : ((backTo pos (starEach [] X.env)).any (·.1) || (backToKw pos (keywordEach kws X.env)).any (·.1.isNone)) = false := by rfl) :
    PE X (.Call (.Name x p) [] kws pos) (tKwS ks.length sp gV E tk) := by
  refine ⟨fun pins s σ H Q I h => wpAny_Call_Name_kw (ld_glob I hg hm ?_ h3)⟩
  refine PySem.W.callWith_KW0 (h₀ := X.base) I.ok.mod.kin hk h1 (thn (hkw.run pos pins s σ H _ I h) fun ws t ⟨zs, G, J, rz, l2, q⟩ => ⟨J.kIn, ?_⟩) h4
  rw [h2]
  have l3 : ws.length = ks.length := by rw [← l2]; exact rz.length.symm
  have rv := hb.rel (vs := []) (us := []) .nil rz
  refine wpAny_call (codeAny_mono (F.run X.A X.stack t G ⟨[], ks.zip ws⟩ (g [] ws) (gV [] zs) Q (E σ) room J.env0 (hb.to t [] ws J.kIn rfl l3) rv q) ?_)
  rintro (er | fl) s' out
  · exact pass σ pins G t er s' J out
  · cases fl with
    | ret u => exact J.after out
    | next => exact out.elim
    | brk => exact out.elim
    | cont => exact out.elim
end
section
variable {X : Cx} {K0 : PySem.W.Frag} {o e : Expr} {es : List Expr} {to : TE} {t : TA} {apos cpos : Pos} {r : V → List V → Hp → VK → Prop}
/-- o.m(e, ..), o.m() of a built-in type, the written part named -/
theorem pe_bmK {T id : String} {name : Str} (hK : X.K = K0) (pa : PlainAttrs T) (slot : Slot T name id) (hty : typeOf (.builtin id) = pure (.type "method_descriptor")) (hm : MtR X id r) (ho : PE X o to) (ha : PA X (e :: es) t)
    (hbase : attributeBase o name X.env (eval o X.env) = eval o X.env := by rfl)
    (hfew : ((backTo cpos (starEach (e :: es) X.env)).all (fun x => !x.1) && (backToKw cpos (keywordEach [] X.env)).all (fun x => x.1.isSome) && decide ((e :: es).length + ([] : List Keyword).length + (if ([] : List Keyword).isEmpty then 0 else 1) < 30)) = true := by rfl)
    (hline : (apos.endLine == cpos.line) = true := by rfl) (hs : starEach (e :: es) X.env = (false, eval e X.env) :: starEach es X.env := by rfl) (hplain : (backTo cpos (starEach es X.env)).any (·.1) = false := by rfl) :
    PE X (.Call (.Attribute o name apos) (e :: es) [] cpos) (tBM K0 T r to t) := by
  subst hK
  exact pe_bm pa slot hty hm ho ha hbase hfew hline hs hplain
theorem pe_bm0X {T id : String} {name : Str} (hK : X.K = K0) (pa : PlainAttrs T) (slot : Slot T name id) (hty : typeOf (.builtin id) = pure (.type "method_descriptor")) (hm : MtR X id r) (ho : PE X o to)
    (hbase : attributeBase o name X.env (eval o X.env) = eval o X.env := by rfl) (hline : (apos.endLine == cpos.line) = true := by rfl) : PE X (.Call (.Attribute o name apos) [] [] cpos) (tBM0 K0 T r to) := by
  subst hK
  exact pe_bm0 pa slot hty hm ho hbase hline
end
/-- text * int -/
def rMulS : R2 := fun x y H Q => ∃ z k, x = .str z ∧ y = .int k ∧ MulOk z k ∧ Q (.str (Txt.mul z k)) H
theorem op_mulS {X : Cx} : OpR X (binaryOp .Mult) rMulS := by
  intro pins s σ H x y v u Q I rx ry h
  obtain ⟨z, k, rfl, rfl, ok, q⟩ := h
  obtain ⟨t, rfl⟩ := rx
  obtain ⟨t2, rfl⟩ := ry
  exact PySem.SB.mul ok fun t3 n => ⟨.str (Txt.mul z k), H, I.tok _, ⟨t3, rfl⟩, q⟩
/-- a comprehension over range(lo, hi, c), each item reckoned from its number -/
theorem lcC {ta : TA} {te : TE} {vs : List Nat} {σ : L2.St} {H : Hp} {Q : VK} {j n : Nat} {lo hi c : Int} (hv : ∀ R : List V → Hp → Prop, R [.int lo, .int hi, .int c] H → ta σ H R) (hr : RgC lo hi c n) (hz : n < sizeLine) (f : Int → V)
    (hw : ∀ x, wipe ((wipe σ vs).set j (some x)) vs = wipe σ vs)
    (hE : ∀ i : Nat, i < n → ∀ H' (R : VK), Same H H' → R (f (lo + (i : Nat) * c)) H' → te ((wipe σ vs).set j (some (.int (lo + (i : Nat) * c)))) H' R)
    (k : ∀ D, H D = none → Q (.ref D) (upd H D (.lst ((List.range n).map fun (i : Nat) => f (lo + (i : Nat) * c))))) : tLc (iRng3 ta) (gName j) tYes te vs σ H Q :=
  hv _ ⟨lo, hi, c, n, rfl, hr, lcP walk_rangeC ((List.range n).map fun (i : Nat) => V.int (lo + (i : Nat) * c)) (fun _ => true) (fun v => match v with | .int i => f i | v => v) (by rw [List.length_map, List.length_range]) hz (fun _ _ _ => trivial)
    (fun i H x H' hi y => ⟨y.1, by rw [List.getElem?_map, List.getElem?_range hi, y.2]; rfl⟩) hw
    (fun x _ H' R _ h => h) (fun x hx _ H' R s h => by
      obtain ⟨i, hi, rfl⟩ := List.mem_map.mp hx
      exact hE i (List.mem_range.mp hi) H' R s h)
    (fun D hD => by
      rw [List.filter_eq_self.mpr (fun _ _ => rfl), List.map_map]
      exact k D hD)⟩
/-! ### data whose text is short, by their parts -/
def Ni (d : PyData) (k w : Nat) : Prop := d.canLay0 = true ∧ d.depth ≤ k ∧ d.weight ≤ w ∧ d.showable = true ∧ d.intsShort 40 = true
def NiAll (ds : List PyData) (k w : Nat) : Prop := PyData.canLayAll0 ds = true ∧ PyData.depthAll ds ≤ k ∧ PyData.weightAll ds ≤ w ∧ PyData.showableAll ds = true ∧ PyData.intsShortAll 40 ds = true
theorem nice_of {d : PyData} {k w : Nat} (h : Ni d k w) (hk : k ≤ 40) (hw : w ≤ 100000) : nice d = true := by
  obtain ⟨h1, h2, h3, h4, h5⟩ := h
  unfold nice
  rw [h1, h4, h5, decide_eq_true (Nat.le_trans h2 hk), decide_eq_true (Nat.le_trans h3 hw)]
  rfl
theorem ni_int {i : Int} (h : i.natAbs < 2 ^ 39) : Ni (.int i) 0 40 := by
  have hl : i.natAbs.log2 < 39 := by
    by_cases h0 : i.natAbs = 0
    · rw [h0]
      decide
    · exact (Nat.log2_lt h0).mpr h
  refine ⟨by simp only [PyData.canLay0], by simp only [PyData.depth]; omega, ?_, ?_, ?_⟩
  · simp only [PyData.weight]
    split <;> omega
  · simp only [PyData.showable]
    exact decide_eq_true (by omega)
  · simp only [PyData.intsShort]
    refine decide_eq_true ?_
    simp only [PyData.shown]
    rw [PySem.ofString_length]
    exact int_text_length_le (k := 39) (by decide) hl
theorem ni_str {z : Str} {m : Nat} (h : z.length ≤ m) (ok : PyData.strOk z = true) : Ni (.str z) 0 m :=
  ⟨by simpa only [PyData.canLay0] using ok, by simp only [PyData.depth]; omega, by simp only [PyData.weight]; exact h, by simp only [PyData.showable], by simp only [PyData.intsShort]⟩
theorem ni_bl {b : Bool} : Ni (.bool b) 0 0 := ⟨by simp only [PyData.canLay0], by simp only [PyData.depth]; omega, by simp only [PyData.weight]; omega, by simp only [PyData.showable], by simp only [PyData.intsShort]⟩
theorem ni_non : Ni .none 0 0 := ⟨by simp only [PyData.canLay0], by simp only [PyData.depth]; omega, by simp only [PyData.weight]; omega, by simp only [PyData.showable], by simp only [PyData.intsShort]⟩
theorem ni_nil : NiAll [] 0 0 := ⟨by simp only [PyData.canLayAll0], by simp only [PyData.depthAll]; omega, by simp only [PyData.weightAll]; omega, by simp only [PyData.showableAll], by simp only [PyData.intsShortAll]⟩
theorem ni_cons {d : PyData} {ds : List PyData} {k1 w1 k2 w2 : Nat} (h : Ni d k1 w1) (r : NiAll ds k2 w2) : NiAll (d :: ds) (max k1 k2) (w1 + 1 + w2) := by
  obtain ⟨h1, h2, h3, h4, h5⟩ := h
  obtain ⟨r1, r2, r3, r4, r5⟩ := r
  refine ⟨by simp only [PyData.canLayAll0, h1, r1, Bool.and_self], ?_, ?_, by simp only [PyData.showableAll, h4, r4, Bool.and_self], by simp only [PyData.intsShortAll, h5, r5, Bool.and_self]⟩
  · simp only [PyData.depthAll]
    omega
  · simp only [PyData.weightAll]
    omega
theorem ni_list {ds : List PyData} {k w : Nat} (h : NiAll ds k w) : Ni (.list ds) (k + 1) w := by
  obtain ⟨h1, h2, h3, h4, h5⟩ := h
  exact ⟨by simpa only [PyData.canLay0] using h1, by simp only [PyData.depth]; omega, by simpa only [PyData.weight] using h3, by simpa only [PyData.showable] using h4, by simpa only [PyData.intsShort] using h5⟩
theorem ni_tup {ds : List PyData} {k w : Nat} (h : NiAll ds k w) : Ni (.tuple ds) (k + 1) w := by
  obtain ⟨h1, h2, h3, h4, h5⟩ := h
  exact ⟨by simpa only [PyData.canLay0] using h1, by simp only [PyData.depth]; omega, by simpa only [PyData.weight] using h3, by simpa only [PyData.showable] using h4, by simpa only [PyData.intsShort] using h5⟩
theorem char_lt (c : Char) : c.toNat < 0x110000 := by
  have h := c.valid
  show c.val.toNat < _
  rcases h with h | h
  · have h : c.val.toNat < 0xd800 := h
    omega
  · exact h.2
theorem strOk_of {z : Str} (h : ∀ c ∈ z.cps.toList, c < 0x110000) : PyData.strOk z = true := by
  unfold PyData.strOk
  rw [← Array.all_toList, List.all_eq_true]
  exact fun c hc => decide_eq_true (h c hc)
theorem of_strOk {z : Str} (h : PyData.strOk z = true) : ∀ c ∈ z.cps.toList, c < 0x110000 := by
  unfold PyData.strOk at h
  rw [← Array.all_toList, List.all_eq_true] at h
  exact fun c hc => of_decide_eq_true (h c hc)
theorem strOk_ofString (s : String) : PyData.strOk (Str.ofString s) = true := strOk_of fun c hc => by
  have hc2 : c ∈ s.toList.map Char.toNat := by
    rw [Str.ofString_eq_toList] at hc
    simpa using hc
  obtain ⟨d, _, rfl⟩ := List.mem_map.mp hc2
  exact char_lt d
theorem reprChar_lt {q c d : Nat} (hc : c < 0x110000) (h : d ∈ Builtin.Str.reprChar q c) : d < 0x110000 := by
  unfold Builtin.Str.reprChar at h
  have hx : ∀ k, d ∈ (List.replicate (k - ((Nat.toDigits 16 c).map Char.toNat).length) 48 ++ (Nat.toDigits 16 c).map Char.toNat) → d < 0x110000 := by
    intro k hk
    rcases List.mem_append.mp hk with hk | hk
    · rw [(List.mem_replicate.mp hk).2]
      decide
    · obtain ⟨e, _, rfl⟩ := List.mem_map.mp hk
      exact char_lt e
  dsimp only at h
  split at h
  · simp only [List.mem_cons, List.not_mem_nil, or_false] at h
    omega
  split at h
  · simp only [List.mem_cons, List.not_mem_nil, or_false] at h
    omega
  split at h
  · simp only [List.mem_cons, List.not_mem_nil, or_false] at h
    omega
  split at h
  · simp only [List.mem_cons, List.not_mem_nil, or_false] at h
    omega
  split at h
  · simp only [List.mem_cons, List.not_mem_nil, or_false] at h
    omega
  split at h
  · rcases List.mem_append.mp h with h | h
    · simp only [List.mem_cons, List.not_mem_nil, or_false] at h
      omega
    · exact hx _ h
  split at h
  · rcases List.mem_append.mp h with h | h
    · simp only [List.mem_cons, List.not_mem_nil, or_false] at h
      omega
    · exact hx _ h
  · rcases List.mem_append.mp h with h | h
    · simp only [List.mem_cons, List.not_mem_nil, or_false] at h
      omega
    · exact hx _ h
theorem fold_lt {q : Nat} : ∀ (l : List Nat) (acc : Array Nat), (∀ c ∈ l, c < 0x110000) → (∀ d ∈ acc, d < 0x110000) → ∀ d ∈ l.foldl (fun out c => out ++ (Builtin.Str.reprChar q c).toArray) acc, d < 0x110000
  | [], _, _, h2, d, hd => h2 d hd
  | c :: l, acc, h1, h2, d, hd => by
    refine fold_lt l _ (fun x hx => h1 x (List.mem_cons_of_mem _ hx)) (fun x hx => ?_) d hd
    rcases Array.mem_append.mp hx with hx | hx
    · exact h2 x hx
    · exact reprChar_lt (h1 c (by simp)) (by simpa using hx)
theorem strOk_repr {z : Str} (h : PyData.strOk z = true) : PyData.strOk (reprText z) = true := strOk_of fun c hc => by
  have hq : reprQuote z < 0x110000 := by
    unfold reprQuote
    split <;> decide
  have hc2 : c ∈ (z.cps.foldl (fun out c => out ++ (Builtin.Str.reprChar (reprQuote z) c).toArray) #[reprQuote z]).push (reprQuote z) := by
    have := Array.mem_toList_iff.mp hc
    exact this
  rw [← Array.foldl_toList] at hc2
  rcases Array.mem_push.mp hc2 with h3 | h3
  · exact fold_lt _ _ (of_strOk h) (fun d hd => by rw [show d = reprQuote z by simpa using hd]; exact hq) c h3
  · rw [h3]
    exact hq
theorem strOk_app {a b : Str} (h1 : PyData.strOk a = true) (h2 : PyData.strOk b = true) : PyData.strOk (a ++ b) = true := by
  unfold PyData.strOk at *
  show (a.cps ++ b.cps).all _ = true
  rw [Array.all_append, h1, h2]
  rfl
theorem strOk_from : ∀ (ts : List Str) (k : Nat) (acc : Str), PyData.strOk acc = true → (∀ t ∈ ts, PyData.strOk t = true) → PyData.strOk (textFrom k acc ts) = true
  | [], _, _, h, _ => h
  | t :: ts, k, acc, h, ht => strOk_from ts (k + 1) _ (strOk_app (strOk_app h (strOk_ofString _)) (ht t (by simp))) fun x hx => ht x (List.mem_cons_of_mem _ hx)
theorem strOk_join : ∀ (ts : List Str), (∀ t ∈ ts, PyData.strOk t = true) → PyData.strOk (Str.join ", " ts) = true
  | [], _ => by decide +kernel
  | [t], h => h t (by simp)
  | t :: u :: ts, h => strOk_app (strOk_app (h t (by simp)) (strOk_ofString _)) (strOk_join (u :: ts) fun x hx => h x (List.mem_cons_of_mem _ hx))
mutual
theorem shown_ok : ∀ d : PyData, d.canLay0 = true → PyData.strOk d.shown = true
  | .none, _ => by simp only [PyData.shown]; exact strOk_ofString _
  | .bool b, _ => by simp only [PyData.shown]; cases b <;> exact strOk_ofString _
  | .int i, _ => by simp only [PyData.shown]; exact strOk_ofString _
  | .str z, h => by simp only [PyData.shown]; exact strOk_repr (by simpa only [PyData.canLay0] using h)
  | .list ds, h => by
    simp only [PyData.shown]
    exact strOk_app (strOk_from _ _ _ (strOk_ofString _) (shownAll_ok ds (by simpa only [PyData.canLay0] using h))) (strOk_ofString _)
  | .tuple ds, h => by
    simp only [PyData.shown]
    exact strOk_app (strOk_app (strOk_ofString _) (strOk_join _ (shownAll_ok ds (by simpa only [PyData.canLay0] using h)))) (strOk_ofString _)
  | .dict _, h => by simp [PyData.canLay0] at h
theorem shownAll_ok : ∀ ds : List PyData, PyData.canLayAll0 ds = true → ∀ t ∈ PyData.shownAll ds, PyData.strOk t = true
  | [], _, t, ht => by simp [PyData.shownAll] at ht
  | d :: ds, h, t, ht => by
    simp only [PyData.canLayAll0, Bool.and_eq_true] at h
    simp only [PyData.shownAll, List.mem_cons] at ht
    rcases ht with rfl | ht
    · exact shown_ok d h.1
    · exact shownAll_ok ds h.2 t ht
end
mutual
theorem eqv_refl : ∀ d : PyData, d.canLay0 = true → PyData.eqv d d = true
  | .none, _ => by simp only [PyData.eqv]
  | .bool _, _ => by simp only [PyData.eqv, beq_self_eq_true]
  | .int _, _ => by simp only [PyData.eqv, beq_self_eq_true]
  | .str _, _ => by simp only [PyData.eqv, beq_self_eq_true]
  | .list ds, h => by
    simp only [PyData.eqv]
    exact eqvAll_refl ds (by simpa only [PyData.canLay0] using h)
  | .tuple ds, h => by
    simp only [PyData.eqv]
    exact eqvAll_refl ds (by simpa only [PyData.canLay0] using h)
  | .dict _, h => by simp [PyData.canLay0] at h
theorem eqvAll_refl : ∀ ds : List PyData, PyData.canLayAll0 ds = true → PyData.eqvAll ds ds = true
  | [], _ => by simp only [PyData.eqvAll]
  | d :: ds, h => by
    simp only [PyData.canLayAll0, Bool.and_eq_true] at h
    simp only [PyData.eqvAll, eqv_refl d h.1, eqvAll_refl ds h.2, Bool.and_self]
end
/-! ### the head's facts -/
def clsBody : Stmt → List Stmt
  | .ClassDef (body := b) .. => b
  | _ => []
def metS (st : Stmt) (i : Nat) : Stmt := (clsBody st).getD i (.Pass ⟨0, 0, 0, 0⟩)
structure BaseE (K : PySem.W.Frag) (C : Addr) : Prop where
  rd : ClX.CRead K C (.type "type")
  at_ : PySem.W.findCls K (.ref C) (.type "type") "__init__" = some (.val (.builtin "ValueError.__init__"))
def baseB (K : PySem.W.Frag) (C : Addr) : Bool := PySem.W.readsIn K C (.type "type") && (He.eqO (PySem.W.specialIn K (.ref C) "__getattribute__") (some (some (.builtin "type.__getattribute__"))) && (match PySem.W.findCls K (.ref C) (.type "type") "__init__" with
  | some (.val (.builtin s)) => s == "ValueError.__init__"
  | _ => false))
theorem baseB_ok {K : PySem.W.Frag} {C : Addr} (h : baseB K C = true) : BaseE K C := by
  obtain ⟨h1, h⟩ := Bool.and_eq_true_iff.mp h
  obtain ⟨h2, h3⟩ := Bool.and_eq_true_iff.mp h
  refine ⟨⟨h1, He.eqO_ok h2⟩, ?_⟩
  split at h3
  · rename_i s e
    rw [e, eq_of_beq h3]
  · cases h3
def kitF (x y : Str) (b : Bool) : PySem.W.Frag → Bool := fun K => decide (PySem.W.kitOne K (.ref (He.ga K x)) (.ref (He.ga K y)) = some b)
def kitT (x : Str) (y : String) (b : Bool) : PySem.W.Frag → Bool := fun K => decide (PySem.W.kitOne K (.ref (He.ga K x)) (.type y) = some b)
def exmF (x y : Str) (b : Bool) : PySem.W.Frag → Bool := fun K => decide (PySem.W.exmOne K (.ref (He.ga K x)) (.ref (He.ga K y)) = some b)
def ownF (x : Str) : PySem.W.Frag → Bool := fun K => ownB K (He.ga K x)
def baseF (x : Str) : PySem.W.Frag → Bool := fun K => baseB K (He.ga K x)
abbrev AlX : Type := He.AlD × Bool
def obsX (n : Nat) (fa : List He.Fa) (fn : List He.DefD) (xs : List (PySem.W.Frag → Bool)) (g : Addr → Option Obj) : AlX := (He.obsD fa fn (He.frG g (He.asD g n ++ [cStatics, sysModules])), xs.all fun f => f (He.frG g (He.asD g n ++ [cStatics, sysModules])))
def SaysX (fa : List He.Fa) (fn : List He.DefD) (xs : List (PySem.W.Frag → Bool)) (K : PySem.W.Frag) : Prop := He.SaysD fa fn K ∧ (xs.all fun f => f K) = true
def hookX (n : Nat) (fa : List He.Fa) (fn : List He.DefD) (xs : List (PySem.W.Frag → Bool)) : PySem.W.Hook where
  α := AlX
  obs := fun s => obsX n fa fn xs s.heap.get?
  val := fun _ => (He.valD fn, true)
  says := fun _ h => ∃ K : PySem.W.Frag, K.In h ∧ SaysX fa fn xs K
  of := fun _ _ e => ⟨_, He.frG_in, congrArg (fun z : AlX => z.1) e, congrArg (fun z : AlX => z.2) e⟩
  keeps := fun _ _ _ ⟨K, hK, c⟩ k => ⟨K, PySem.W.Frag.In.keeps hK k, c⟩
theorem obsX_eq {n : Nat} {fa : List He.Fa} {fn : List He.DefD} {xs : List (PySem.W.Frag → Bool)} {g : Addr → Option Obj} {s : Shared} (h : ∀ a, g a = s.heap.get? a) : obsX n fa fn xs g = (hookX n fa fn xs).obs s := by
  have e : g = s.heap.get? := funext h
  rw [e]
  rfl
theorem SaysX.ext {fa : List He.Fa} {fn : List He.DefD} {xs : List (PySem.W.Frag → Bool)} {K : PySem.W.Frag} (c : SaysX fa fn xs K) (i : Nat) {f : PySem.W.Frag → Bool} (h : xs[i]? = some f := by rfl) : f K = true :=
  List.all_eq_true.mp c.2 f (List.mem_of_getElem? h)
end Cv

/-! CvG: repr of data that may hold empty dicts. -/
namespace Cv
open PySem PySem.Spec PyProof.Rows L2
mutual
inductive Dq (K : PySem.W.Frag) (H : Hp) : V → PyData → Prop
  | non : Dq K H .non .none
  | bl (b : Bool) : Dq K H (.bl b) (.bool b)
  | int (i : Int) : Dq K H (.int i) (.int i)
  | str (x : Str) : Dq K H (.str x) (.str x)
  | lst {a : Addr} {xs : List V} {ds : List PyData} : SqL K H a xs → DqAll K H xs ds → Dq K H (.ref a) (.list ds)
  | tup {a : Addr} {xs : List V} {ds : List PyData} : SqT K H a xs → DqAll K H xs ds → Dq K H (.ref a) (.tuple ds)
  | dct {a : Addr} : H a = some (.dK []) → Dq K H (.ref a) (.dict [])
inductive DqAll (K : PySem.W.Frag) (H : Hp) : List V → List PyData → Prop
  | nil : DqAll K H [] []
  | cons {v : V} {vs : List V} {d : PyData} {ds : List PyData} : Dq K H v d → DqAll K H vs ds → DqAll K H (v :: vs) (d :: ds)
end
/-- sys.modules is a dict -/
def sysB (K : PySem.W.Frag) : Bool := match K.lookup sysModules with
  | some ⟨.type t, _, _, _⟩ => t == "dict"
  | _ => false
theorem sysB_ok {K : PySem.W.Frag} (h : sysB K = true) : ∃ o, K.lookup sysModules = some o ∧ o.cls = .type "dict" := by
  unfold sysB at h
  split at h
  · rename_i t _ _ _ e
    exact ⟨_, e, by rw [eq_of_beq h]⟩
  · cases h
section
variable {X : Cx} {pins : List (Addr × Obj)} {σ : L2.St} {H : Hp} {s : Shared}
mutual
theorem Dq.reads (I : Inv X pins σ H s) (sy : sysB X.K = true) : ∀ (d : PyData) (v : V) (u : Value), Dq X.K H v d → RelV v u → ∃ as, Reads s.heap u d as ∧ sysModules ∉ as
  | .none, _, _, h, r => by
    cases h
    cases r
    exact ⟨_, Reads.none, by simp⟩
  | .bool b, _, _, h, r => by
    cases h
    cases r
    exact ⟨_, Reads.bool b, by simp⟩
  | .int i, _, _, h, r => by
    cases h
    obtain ⟨t, rfl⟩ := r
    exact ⟨_, Reads.int i t, by simp⟩
  | .str x, _, _, h, r => by
    cases h
    obtain ⟨t, rfl⟩ := r
    exact ⟨_, Reads.str x t, by simp⟩
  | .list ds, _, _, h, r => by
    cases h with
    | @lst a xs _ hs ha =>
      cases r
      obtain ⟨its, rv, ⟨o, n, e1, e2, e3, e4⟩, _⟩ := I.list hs
      obtain ⟨as, ra, na⟩ := Dq.readsAll I sy ds xs its ha rv
      refine ⟨_, Reads.list e1 e2 e4 (by simpa using ra), fun m => ?_⟩
      rcases List.mem_cons.mp m with m | m
      · obtain ⟨so, lk, sc⟩ := sysB_ok sy
        have e5 := I.kIn _ _ lk
        rw [m, e1] at e5
        have e6 := Option.some.inj e5
        rw [e6, sc] at e2
        injection e2 with e2
        exact absurd e2 (by decide)
      · exact na m
  | .tuple ds, _, _, h, r => by
    cases h with
    | @tup a xs _ hs ha =>
      cases r
      obtain ⟨its, rv, ⟨o, e1, e2, n, e4⟩, _⟩ := I.tuple hs
      obtain ⟨as, ra, na⟩ := Dq.readsAll I sy ds xs its ha rv
      exact ⟨_, Reads.tuple e1 e2 e4 (by simpa using ra), na⟩
  | .dict kvs, _, _, h, r => by
    cases h with
    | @dct a ha =>
      cases r
      obtain ⟨_, nm, vs, kv, o, es, ep, e1, ex, e2, _, pr, _⟩ := dk_of I.hok ha
      cases kv
      have e3 : es.toList = [] := by
        cases he : es.toList with
        | nil => rfl
        | cons z zs =>
          rw [he] at pr
          cases pr
      have rd := Reads.dict (h := s.heap) (a := a) (kvs := []) (as := []) (bs := []) e1 ex.1 e2 (by rw [e3]; exact ReadsAll.nil) (by rw [e3]; exact ReadsAll.nil)
      refine ⟨_, rd, fun m => ?_⟩
      have e4 : sysModules = a := by simpa using m
      rw [e4, beq_self_eq_true] at nm
      cases nm
theorem Dq.readsAll (I : Inv X pins σ H s) (sy : sysB X.K = true) : ∀ (ds : List PyData) (vs : List V) (us : List Value), DqAll X.K H vs ds → Vals vs us → ∃ as, ReadsAll s.heap us ds as ∧ sysModules ∉ as
  | [], _, _, h, r => by
    cases h
    cases r
    exact ⟨_, ReadsAll.nil, by simp⟩
  | d :: ds, _, _, h, r => by
    cases h with
    | cons h1 h2 =>
      cases r with
      | cons r1 r2 =>
        obtain ⟨as, q1, n1⟩ := Dq.reads I sy d _ _ h1 r1
        obtain ⟨bs, q2, n2⟩ := Dq.readsAll I sy ds _ _ h2 r2
        exact ⟨_, ReadsAll.cons q1 q2, fun m => (List.mem_append.mp m).elim n1 n2⟩
end
end
/-- data with a short text, empty dicts allowed -/
def Nq (d : PyData) (k w : Nat) : Prop := d.leavesShort 40 = true ∧ d.depth ≤ k ∧ d.weight ≤ w ∧ d.showable = true
def NqAll (ds : List PyData) (k w : Nat) : Prop := PyData.leavesShortAll 40 ds = true ∧ PyData.depthAll ds ≤ k ∧ PyData.weightAll ds ≤ w ∧ PyData.showableAll ds = true
theorem nq_ni {d : PyData} {k w : Nat} (h : Ni d k w) : Nq d k w := ⟨PyData.leavesShort_of_canLay0 40 d h.1 h.2.2.2.2, h.2.1, h.2.2.1, h.2.2.2.1⟩
theorem nq_nice {d : PyData} (h : nice d = true) : Nq d 40 100000 := by
  obtain ⟨h1, h2, h3, h4, h5⟩ := nice_parts h
  exact ⟨PyData.leavesShort_of_canLay0 40 d h1 h5, h2, h3, h4⟩
theorem nq_dct : Nq (.dict []) 1 0 := ⟨by decide +kernel, by decide +kernel, by decide +kernel, by decide +kernel⟩
theorem nq_nil : NqAll [] 0 0 := ⟨by simp only [PyData.leavesShortAll], by simp only [PyData.depthAll]; omega, by simp only [PyData.weightAll]; omega, by simp only [PyData.showableAll]⟩
theorem nq_cons {d : PyData} {ds : List PyData} {k1 w1 k2 w2 : Nat} (h : Nq d k1 w1) (r : NqAll ds k2 w2) : NqAll (d :: ds) (max k1 k2) (w1 + 1 + w2) := by
  obtain ⟨h1, h2, h3, h4⟩ := h
  obtain ⟨r1, r2, r3, r4⟩ := r
  refine ⟨by simp only [PyData.leavesShortAll, h1, r1, Bool.and_self], ?_, ?_, by simp only [PyData.showableAll, h4, r4, Bool.and_self]⟩
  · simp only [PyData.depthAll]
    omega
  · simp only [PyData.weightAll]
    omega
theorem nq_list {ds : List PyData} {k w : Nat} (h : NqAll ds k w) : Nq (.list ds) (k + 1) w := by
  obtain ⟨h1, h2, h3, h4⟩ := h
  exact ⟨by simpa only [PyData.leavesShort] using h1, by simp only [PyData.depth]; omega, by simpa only [PyData.weight] using h3, by simpa only [PyData.showable] using h4⟩
theorem nq_tup {ds : List PyData} {k w : Nat} (h : NqAll ds k w) : Nq (.tuple ds) (k + 1) w := by
  obtain ⟨h1, h2, h3, h4⟩ := h
  exact ⟨by simpa only [PyData.leavesShort] using h1, by simp only [PyData.depth]; omega, by simpa only [PyData.weight] using h3, by simpa only [PyData.showable] using h4⟩
/-- repr(x), x a list, a tuple, an empty dict, of such, or a scalar -/
def rShowQ (K : PySem.W.Frag) : List V → Hp → VK → Prop := fun vs H Q => ∃ x d k w, vs = [x] ∧ Dq K H x d ∧ Nq d k w ∧ k ≤ 45 ∧ w ≤ 200000 ∧ Q (.str d.shown) H
theorem call_reprQ {X : Cx} {K0 : PySem.W.Frag} (hK : X.K = K0) (sy : sysB K0 = true) (gd : X.A.guards = some []) (hu : X.A.units + 64 < cLine) : CallR X (.builtin "repr") (rShowQ K0) := by
  subst hK
  intro pins s σ H xs us Q I r h
  obtain ⟨x, d, k, w, rfl, dq, ⟨n1, n2, n3, n4⟩, hk, hw, q⟩ := h
  obtain ⟨u, rfl, rx⟩ := vals1 r
  have len : d.shown.length ≤ sizeLine := by
    have := PyData.shown_le 40 (by decide) d n1
    rw [sizeLine_eq]
    omega
  obtain ⟨as, rd, ns⟩ := Dq.reads I sy d x u dq rx
  cases x with
  | ref a =>
    cases rx
    refine PySem.repr_of_reads' rd n4 (fun _ => ns) gd (by omega) (fun _ _ z => z) (fun h' u tk k => ?_) len
    exact ⟨.str d.shown, H, I.kept (t' := tk) k, ⟨u, rfl⟩, q⟩
  | _ =>
    refine call_reprD gd hu pins s σ H _ _ Q I (.cons rx .nil) ⟨_, d, rfl, ?_, n4, by omega, len, q⟩
    cases dq <;> first | exact .non | exact .bl _ | exact .int _ | exact .str _
/-! ### a def with defaults for its last parameters -/
section
variable {K : PySem.W.Frag} {x qual : Str} {pa : Arguments} {bd : List Stmt} {sc : Scope} {dvs : List V} {kws : List (Str × V)} {f : Addr} {fd : FuncData} {ps : List Str}
theorem funDK (F : FunD K x qual pa bd sc dvs kws f fd) (n : Nat) (ks : List Str) (idx : List Nat) (hd : dvs ≠ [])
    (h : ∀ (T : Addr) (kV doc pm : Value) (an : Option Addr) (cdv ct : Value) (us ws its : List Value), us.length = n → ws.length = ks.length → its.length = dvs.length →
      ∃ k, bindArgs (PySem.W.fnOf x qual pa bd sc (.ref T) kV doc pm an cdv ct) ⟨us, ks.zip ws⟩ = seqItems? (.ref T) >>= k ∧ k (some its.toArray) = pure (ps.zip (gP idx us ws))) : KBn K fd ps n ks (gP idx) (gP idx) := by
  obtain ⟨oc, od, dV, kV, doc, pm, an, cdv, ct, osl, rfl, lk, hcd, hD, hK⟩ := F.ex
  rcases hD with ⟨e, _⟩ | ⟨_, T, o, its, m, rfl, lT, oT, rT⟩
  · exact absurd e hd
  · refine ⟨fun s us ws X l1 l2 => ?_, gP_rel⟩
    obtain ⟨k, e1, e2⟩ := h T kV doc pm an cdv ct us ws its l1 l2 rT.length.symm
    refine BindsTo.of_looks fun M => ?_
    rw [e1]
    exact looks_items X lT oT (.of_pure e2)
/-- all values by position: the defaults are read, not used -/
theorem funDA (F : FunD K x qual pa bd sc dvs kws f fd) (hd : dvs ≠ [])
    (h : ∀ (T : Addr) (kV doc pm : Value) (an : Option Addr) (cdv ct : Value) (us its : List Value), us.length = ps.length → its.length = dvs.length →
      ∃ k, bindArgs (PySem.W.fnOf x qual pa bd sc (.ref T) kV doc pm an cdv ct) ⟨us, []⟩ = seqItems? (.ref T) >>= k ∧ k (some its.toArray) = pure (ps.zip us)) : Binds K fd ps [] := by
  obtain ⟨oc, od, dV, kV, doc, pm, an, cdv, ct, osl, rfl, lk, hcd, hD, hK⟩ := F.ex
  rcases hD with ⟨e, _⟩ | ⟨_, T, o, its, m, rfl, lT, oT, rT⟩
  · exact absurd e hd
  · intro s us X l
    rw [List.append_nil] at l ⊢
    obtain ⟨k, e1, e2⟩ := h T kV doc pm an cdv ct us its l rT.length.symm
    refine BindsTo.of_looks fun M => ?_
    rw [e1]
    exact looks_items X lT oT (.of_pure e2)
end
section
variable {P : Program} {w : World} {K : PySem.W.Frag} {mg : Str → Option Value} {base : Heap}
/-- such a def that may raise -/
theorem okND {x qual : Str} {st : Stmt} {dvs : List V} {f : Addr} {fd : FuncData} {N ps : List Str} {k : Nat} {sp : Sp} (F : FunD K x qual (defArgs st) (defBody st) (defScope st) dvs [] f fd) (S : FnScope N ps (defScope st)) (hl : ∀ vs H Q E, sp vs H Q E → vs.length = ps.length)
    (hb : ∀ (cdv : Value) (A : Around) (outer : List Env) (s : Shared) (H : Hp) (vs : List V) (Q : VK) (E : XK), Room k (A.deeper (envOfC qual (defScope st) s.heap.objs.size f cdv)) → sp vs H Q E →
      L2N.Takes (cxOf (L2N.CX P w) P w K mg base N qual (defScope st) f cdv A outer s H E) (fun cls d _ G => E cls d G) →
      PassesOwn (model P w) (cxOf (L2N.CX P w) P w K mg base N qual (defScope st) f cdv A outer s H E).A (cxOf (L2N.CX P w) P w K mg base N qual (defScope st) f cdv A outer s H E).env (cxOf (L2N.CX P w) P w K mg base N qual (defScope st) f cdv A outer s H E).xe →
      ∃ t, PSs (cxOf (L2N.CX P w) P w K mg base N qual (defScope st) f cdv A outer s H E) (defBody st) t ∧ t ⟨fun _ G => Q .non G, Q, fun _ _ => False, fun _ _ => False⟩ (start N vs) H) : FnOk P w K mg base (L2N.CX P w) (k + 1) f fd ps sp :=
  F.ok S hl fun cdv A outer s H vs Q E room want => hb cdv A outer s H vs Q E room want (L2N.takes_of rfl rfl rfl rfl) PassesOwn.leaving
end
section
variable {X : Cx} {CX : CXT} {k : Nat} {f : Addr} {fd : FuncData} {ps : List Str} {sp : Sp} {dvs : List V} {ds : List Value} {E : L2.St → XK} {x : Str} {p pos : Pos} {e : Expr} {es : List Expr} {t : TA}
def tCallSD (sp : Sp) (dvs : List V) (E : L2.St → XK) (t : TA) : TE := fun σ H Q => t σ H fun vs G => sp (vs ++ dvs) G Q (E σ)
/-- f(e, ..), the last parameters by their defaults; f may raise -/
theorem pe_callSD (F : FnOk X.prog X.w X.K X.mg X.base CX k f fd ps sp) (room : Room k X.A) (hg : Gl X x) (hm : X.mg x = some (.ref f)) (hk : PySem.W.keepIn X.K (.ref f) = true) (bi : Binds X.K fd ps ds) (rd : Vals dvs ds) (pass : ∀ σ, PassesAt CX X σ (E σ))
    (ha : PA X (e :: es) t) (h1 : (x == ("__debug__" : Str)) = false := by decide) (h2 : starEach (e :: es) X.env = (false, eval e X.env) :: starEach es X.env := by rfl) (h3 : (backTo pos (starEach es X.env)).any (·.1) = false := by rfl) :
    PE X (.Call (.Name x p) (e :: es) [] pos) (tCallSD sp dvs E t) := by
  refine ⟨fun pins s σ H Q I h => wpAny_Call_Name_kw (ld_glob I hg hm (PySem.W.callWith_K (h₀ := X.base) I.ok.mod.kin hk (thn (ha.run pos pins s σ H _ I h) fun us s1 ⟨vs, G, J, r, q⟩ => ⟨J.kIn, ?_⟩) h2 h3) h1)⟩
  have rr := r.append rd
  have ll : (us ++ ds).length = ps.length := rr.length.symm.trans (F.len _ _ _ _ q)
  refine wpAny_call (codeAny_mono (F.run X.A X.stack s1 G _ _ _ Q (E σ) room J.env0 (bi s1 us J.kIn ll) rr q) ?_)
  rintro (er | fl) s' out
  · exact pass σ pins G s1 er s' J out
  · cases fl with
    | ret u => exact J.after out
    | next => exact out.elim
    | brk => exact out.elim
    | cont => exact out.elim
end
/-- the i-th default of the def p is the empty tuple -/
def emptyDfl (p : Str × Option Str) (i : Nat) : PySem.W.Frag → Bool := fun K => match K.lookup (He.dflAt p i K) with
  | some ⟨.type c, _, .seq its _, _⟩ => c == "tuple" && its.isEmpty
  | _ => false
theorem emptyDfl_ok {K : PySem.W.Frag} {p : Str × Option Str} {i : Nat} (h : emptyDfl p i K = true) (H : Hp) : SqT K H (He.dflAt p i K) [] := by
  unfold emptyDfl at h
  split at h
  · rename_i c d its n sl e
    obtain ⟨h1, h2⟩ := Bool.and_eq_true_iff.mp h
    have e1 : c = "tuple" := eq_of_beq h1
    have e2 : its = #[] := Array.isEmpty_iff.mp h2
    subst e1 e2
    exact .inr ⟨_, #[], n, e, rfl, rfl, Nat.zero_le _, .nil⟩
  · cases h
/-! ### a walk over a list or a tuple -/
def iAny (K : PySem.W.Frag) (tl : TE) : TI := fun σ H R => iList K tl σ H R ∨ iTup K tl σ H R
theorem pi_any {X : Cx} {tg l : Expr} {tl : TE} (hl : PE X l tl) : PI X tg l (iAny X.K tl) :=
  ⟨fun pins s σ H R I h => h.elim (fun h => (pi_list hl).run pins s σ H R I h) (fun h => (pi_tup hl).run pins s σ H R I h)⟩
theorem same_tup {K : PySem.W.Frag} {H H' : Hp} {a : Addr} {xs : List V} (s : Same H H') (h : SqT K H a xs) : SqT K H' a xs := by
  rcases h with h | h
  · rcases h with h | ⟨od, h⟩
    · exact .inl (.inl (s _ _ h))
    · exact .inl (.inr ⟨od, s _ _ h⟩)
  · exact .inr h
def SqA (K : PySem.W.Frag) (H : Hp) (a : Addr) (xs : List V) : Prop := SqL K H a xs ∨ SqT K H a xs
theorem SqA.same {K : PySem.W.Frag} {H H' : Hp} {a : Addr} {xs : List V} (h : SqA K H a xs) (s : Same H H') : SqA K H' a xs := h.imp (Same.seq s) (same_tup s)
theorem forA {K : PySem.W.Frag} {tl : TE} {j : Nat} {tb : TS} {D : Ends} {σ : L2.St} {H : Hp} (a : Addr) (xs : List V) (hv : ∀ R : VK, R (.ref a) H → tl σ H R) (hx : SqA K H a xs) (Pv : Nat → L2.St → Hp → Prop) (h0 : Pv 0 σ H)
    (hl : ∀ i σ' H', i ≤ xs.length → Pv i σ' H' → Same H H') (hs : ∀ i x σ' H', xs[i]? = some x → Pv i σ' H' → tb ⟨Pv (i + 1), D.rt, D.nx, Pv (i + 1)⟩ (σ'.set j (some x)) H') (hd : ∀ σ' H', Pv xs.length σ' H' → D.nx σ' H') : tFor (iAny K tl) (gName j) tb D σ H := by
  rcases hx with hx | hx
  · exact .inl (forL a xs hv hx Pv h0 (fun i σ' H' hi p => Same.seq (hl i σ' H' hi p) hx) hs hd)
  · exact .inr (forT a xs hv hx Pv h0 (fun i σ' H' hi p => same_tup (hl i σ' H' hi p) hx) hs hd)
theorem lcList {K : PySem.W.Frag} {tl te : TE} {tt : TT} {vs : List Nat} {σ : L2.St} {H : Hp} {Q : VK} {j : Nat} (a : Addr) (xs : List V) (t : V → Bool) (g : V → V) (hx : SqL K H a xs) (hz : xs.length < sizeLine) (h0 : ∀ R : VK, R (.ref a) H → tl σ H R)
    (hw : ∀ x, wipe ((wipe σ vs).set j (some x)) vs = wipe σ vs)
    (hT : ∀ x ∈ xs, ∀ H' (R : Bool → Hp → Prop), Same H H' → R (t x) H' → tt ((wipe σ vs).set j (some x)) H' R)
    (hE : ∀ x ∈ xs, t x = true → ∀ H' (R : VK), Same H H' → R (g x) H' → te ((wipe σ vs).set j (some x)) H' R)
    (k : ∀ D, H D = none → Q (.ref D) (upd H D (.lst ((xs.filter t).map g)))) : tLc (iList K tl) (gName j) tt te vs σ H Q :=
  h0 _ ⟨a, rfl, ⟨xs, hx⟩, lcP walk_list xs t g rfl hz (fun D acc hD => Same.seq (Cv.Same.new hD) hx) (fun i H x H' hi y => y) hw hT hE k⟩
theorem ne_strs_nil {K : PySem.W.Frag} {H : Hp} {a b : Addr} {xs : List V} {Q : VK} (ha : H a = some (.lst xs)) (hb : H b = some (.lst [])) (hx : strsOk xs) (q : Q (.bl (!xs.isEmpty)) H) : rNeD K (.ref a) (.ref b) H Q :=
  ⟨.list (xs.map toD), .list [], .lst (.inl (.inl ha)) (dp_strs hx), .lst (.inl (.inl hb)) .nil, strs_shaped hx, nil_shaped, by rw [eqv_nil]; cases xs <;> exact q⟩
end Cv

namespace K15
open PySem PySem.Spec PyProof.Rows L2 Cv
def topS (i : Nat) : Stmt := PySem.Challenge.pw_coverstore_k15_widest_ranges.main.body.getD i (.Pass ⟨0, 0, 0, 0⟩)
abbrev s_init_InvalidBits : Stmt := metS (topS 2) 0
abbrev N_init_InvalidBits : List Str := ["self", "value"]
theorem sc_init_InvalidBits : FnScope N_init_InvalidBits ["self", "value"] (defScope s_init_InvalidBits) := ⟨rfl, rfl, rfl, by decide +kernel, rfl, by decide +kernel, by decide +kernel⟩
abbrev s_init_InvalidValue : Stmt := metS (topS 3) 0
abbrev N_init_InvalidValue : List Str := ["self", "value"]
theorem sc_init_InvalidValue : FnScope N_init_InvalidValue ["self", "value"] (defScope s_init_InvalidValue) := ⟨rfl, rfl, rfl, by decide +kernel, rfl, by decide +kernel, by decide +kernel⟩
abbrev s_init_InvalidRange : Stmt := metS (topS 4) 0
abbrev N_init_InvalidRange : List Str := ["self", "value"]
theorem sc_init_InvalidRange : FnScope N_init_InvalidRange ["self", "value"] (defScope s_init_InvalidRange) := ⟨rfl, rfl, rfl, by decide +kernel, rfl, by decide +kernel, by decide +kernel⟩
abbrev s_is_integer : Stmt := topS 14
abbrev N_is_integer : List Str := ["value"]
theorem sc_is_integer : FnScope N_is_integer ["value"] (defScope s_is_integer) := ⟨rfl, rfl, rfl, by decide +kernel, rfl, by decide +kernel, by decide +kernel⟩
abbrev s_is_bits : Stmt := topS 15
abbrev N_is_bits : List Str := ["value"]
theorem sc_is_bits : FnScope N_is_bits ["value"] (defScope s_is_bits) := ⟨rfl, rfl, rfl, by decide +kernel, rfl, by decide +kernel, by decide +kernel⟩
abbrev s_is_value : Stmt := topS 16
abbrev N_is_value : List Str := ["value", "bits"]
theorem sc_is_value : FnScope N_is_value ["value", "bits"] (defScope s_is_value) := ⟨rfl, rfl, rfl, by decide +kernel, rfl, by decide +kernel, by decide +kernel⟩
abbrev s_require_bits : Stmt := topS 17
abbrev N_require_bits : List Str := ["bits"]
theorem sc_require_bits : FnScope N_require_bits ["bits"] (defScope s_require_bits) := ⟨rfl, rfl, rfl, by decide +kernel, rfl, by decide +kernel, by decide +kernel⟩
abbrev s_require_value : Stmt := topS 18
abbrev N_require_value : List Str := ["value", "bits"]
theorem sc_require_value : FnScope N_require_value ["value", "bits"] (defScope s_require_value) := ⟨rfl, rfl, rfl, by decide +kernel, rfl, by decide +kernel, by decide +kernel⟩
abbrev s_range_of : Stmt := topS 19
abbrev N_range_of : List Str := ["value", "bits", "place"]
theorem sc_range_of : FnScope N_range_of ["value", "bits"] (defScope s_range_of) := ⟨rfl, rfl, rfl, by decide +kernel, rfl, by decide +kernel, by decide +kernel⟩
abbrev s_common_length : Stmt := topS 20
abbrev N_common_length : List Str := ["one", "other", "length"]
theorem sc_common_length : FnScope N_common_length ["one", "other"] (defScope s_common_length) := ⟨rfl, rfl, rfl, by decide +kernel, rfl, by decide +kernel, by decide +kernel⟩
abbrev s_widest_range : Stmt := topS 21
abbrev N_widest_range : List Str := ["value", "bits", "barred", "digits", "length", "other"]
theorem sc_widest_range : FnScope N_widest_range ["value", "bits", "barred"] (defScope s_widest_range) := ⟨rfl, rfl, rfl, by decide +kernel, rfl, by decide +kernel, by decide +kernel⟩
abbrev s__law_rng : Stmt := topS 23
abbrev N__law_rng : List Str := ["_law_script", "_law_k", "_law_cell"]
theorem sc__law_rng : FnScope N__law_rng ["_law_script", "_law_k"] (defScope s__law_rng) := ⟨rfl, rfl, rfl, by decide +kernel, rfl, by decide +kernel, by decide +kernel⟩
abbrev s__law_draw : Stmt := topS 24
abbrev N__law_draw : List Str := ["_law_rng_here", "_law_many", "_law_digit", "_law_mixed"]
theorem sc__law_draw : FnScope N__law_draw ["_law_rng_here", "_law_many"] (defScope s__law_draw) := ⟨rfl, rfl, rfl, by decide +kernel, rfl, by decide +kernel, by decide +kernel⟩
abbrev s__law_choice : Stmt := topS 25
abbrev N__law_choice : List Str := ["_law_rng_here", "_law_options"]
theorem sc__law_choice : FnScope N__law_choice ["_law_rng_here", "_law_options"] (defScope s__law_choice) := ⟨rfl, rfl, rfl, by decide +kernel, rfl, by decide +kernel, by decide +kernel⟩
abbrev s__law_is_integer : Stmt := topS 26
abbrev N__law_is_integer : List Str := ["_law_thing"]
theorem sc__law_is_integer : FnScope N__law_is_integer ["_law_thing"] (defScope s__law_is_integer) := ⟨rfl, rfl, rfl, by decide +kernel, rfl, by decide +kernel, by decide +kernel⟩
abbrev s__law_power : Stmt := topS 27
abbrev N__law_power : List Str := ["_law_many", "_law_found", "_law_turn"]
theorem sc__law_power : FnScope N__law_power ["_law_many"] (defScope s__law_power) := ⟨rfl, rfl, rfl, by decide +kernel, rfl, by decide +kernel, by decide +kernel⟩
abbrev s__law_is_bits : Stmt := topS 28
abbrev N__law_is_bits : List Str := ["_law_thing"]
theorem sc__law_is_bits : FnScope N__law_is_bits ["_law_thing"] (defScope s__law_is_bits) := ⟨rfl, rfl, rfl, by decide +kernel, rfl, by decide +kernel, by decide +kernel⟩
abbrev s__law_is_value : Stmt := topS 29
abbrev N__law_is_value : List Str := ["_law_thing", "_law_many"]
theorem sc__law_is_value : FnScope N__law_is_value ["_law_thing", "_law_many"] (defScope s__law_is_value) := ⟨rfl, rfl, rfl, by decide +kernel, rfl, by decide +kernel, by decide +kernel⟩
abbrev s__law_is_range : Stmt := topS 30
abbrev N__law_is_range : List Str := ["_law_thing", "_law_many", "_law_sign"]
theorem sc__law_is_range : FnScope N__law_is_range ["_law_thing", "_law_many"] (defScope s__law_is_range) := ⟨rfl, rfl, rfl, by decide +kernel, rfl, by decide +kernel, by decide +kernel⟩
abbrev s__law_odd : Stmt := topS 31
abbrev N__law_odd : List Str := ["_law_rng_here", "_law_some"]
theorem sc__law_odd : FnScope N__law_odd ["_law_rng_here"] (defScope s__law_odd) := ⟨rfl, rfl, rfl, by decide +kernel, rfl, by decide +kernel, by decide +kernel⟩
abbrev s__law_digits : Stmt := topS 32
abbrev N__law_digits : List Str := ["_law_number", "_law_many", "_law_found", "_law_rest", "_law_turn"]
theorem sc__law_digits : FnScope N__law_digits ["_law_number", "_law_many"] (defScope s__law_digits) := ⟨rfl, rfl, rfl, by decide +kernel, rfl, by decide +kernel, by decide +kernel⟩
abbrev s__law_ends : Stmt := topS 33
abbrev N__law_ends : List Str := ["_law_prefix", "_law_many", "_law_number", "_law_sign", "_law_size"]
theorem sc__law_ends : FnScope N__law_ends ["_law_prefix", "_law_many"] (defScope s__law_ends) := ⟨rfl, rfl, rfl, by decide +kernel, rfl, by decide +kernel, by decide +kernel⟩
abbrev s__law_alone : Stmt := topS 34
abbrev N__law_alone : List Str := ["_law_e", "_law_others", "_law_some"]
theorem sc__law_alone : FnScope N__law_alone ["_law_e"] (defScope s__law_alone) := ⟨rfl, rfl, rfl, by decide +kernel, rfl, by decide +kernel, by decide +kernel⟩
abbrev s__law_told : Stmt := topS 35
abbrev N__law_told : List Str := ["_law_number", "_law_many", "_law_some", "_law_told_here", "_law_found", "_law_e"]
theorem sc__law_told : FnScope N__law_told ["_law_number", "_law_many", "_law_some"] (defScope s__law_told) := ⟨rfl, rfl, rfl, by decide +kernel, rfl, by decide +kernel, by decide +kernel⟩
abbrev s__law_due : Stmt := topS 36
abbrev N__law_due : List Str := ["_law_number", "_law_many", "_law_some", "_law_thing", "_law_own", "_law_length", "_law_others", "_law_other_here"]
theorem sc__law_due : FnScope N__law_due ["_law_number", "_law_many", "_law_some"] (defScope s__law_due) := ⟨rfl, rfl, rfl, by decide +kernel, rfl, by decide +kernel, by decide +kernel⟩
abbrev s__law_other : Stmt := topS 37
abbrev N__law_other : List Str := ["_law_rng_here", "_law_number", "_law_many", "_law_size", "_law_step", "_law_flipped", "_law_some", "_law_thing"]
theorem sc__law_other : FnScope N__law_other ["_law_rng_here", "_law_number", "_law_many"] (defScope s__law_other) := ⟨rfl, rfl, rfl, by decide +kernel, rfl, by decide +kernel, by decide +kernel⟩
abbrev s__law_barred : Stmt := topS 38
abbrev N__law_barred : List Str := ["_law_rng_here", "_law_number", "_law_many", "_law_some", "_law_turn"]
theorem sc__law_barred : FnScope N__law_barred ["_law_rng_here", "_law_number", "_law_many"] (defScope s__law_barred) := ⟨rfl, rfl, rfl, by decide +kernel, rfl, by decide +kernel, by decide +kernel⟩
abbrev s_law : Stmt := topS 39
abbrev N_law : List Str := ["_law_script", "_law_k", "_law_rng_here", "_law_turn", "_law_many", "_law_number", "_law_some", "_law_way", "_law_at", "_law_handed", "_law_shown"]
theorem sc_law : FnScope N_law ["_law_script"] (defScope s_law) := ⟨rfl, rfl, rfl, by decide +kernel, rfl, by decide +kernel, by decide +kernel⟩
/-- what the text has written: where each def stands, which names are still the built-in ones -/
structure All (K : PySem.W.Frag) (mg : Str → Option Value) where
  f_init_InvalidBits : Addr
  fd_init_InvalidBits : FuncData
  F_init_InvalidBits : Fun K "__init__" "InvalidBits.__init__" s_init_InvalidBits f_init_InvalidBits fd_init_InvalidBits
  b_init_InvalidBits : Binds K fd_init_InvalidBits ["self", "value"] []
  f_init_InvalidValue : Addr
  fd_init_InvalidValue : FuncData
  F_init_InvalidValue : Fun K "__init__" "InvalidValue.__init__" s_init_InvalidValue f_init_InvalidValue fd_init_InvalidValue
  b_init_InvalidValue : Binds K fd_init_InvalidValue ["self", "value"] []
  f_init_InvalidRange : Addr
  fd_init_InvalidRange : FuncData
  F_init_InvalidRange : Fun K "__init__" "InvalidRange.__init__" s_init_InvalidRange f_init_InvalidRange fd_init_InvalidRange
  b_init_InvalidRange : Binds K fd_init_InvalidRange ["self", "value"] []
  f_is_integer : Addr
  fd_is_integer : FuncData
  F_is_integer : Fun K "is_integer" "is_integer" s_is_integer f_is_integer fd_is_integer
  g_is_integer : mg "is_integer" = some (.ref f_is_integer)
  b_is_integer : Binds K fd_is_integer ["value"] []
  f_is_bits : Addr
  fd_is_bits : FuncData
  F_is_bits : Fun K "is_bits" "is_bits" s_is_bits f_is_bits fd_is_bits
  g_is_bits : mg "is_bits" = some (.ref f_is_bits)
  b_is_bits : Binds K fd_is_bits ["value"] []
  f_is_value : Addr
  fd_is_value : FuncData
  F_is_value : Fun K "is_value" "is_value" s_is_value f_is_value fd_is_value
  g_is_value : mg "is_value" = some (.ref f_is_value)
  b_is_value : Binds K fd_is_value ["value", "bits"] []
  f_require_bits : Addr
  fd_require_bits : FuncData
  F_require_bits : Fun K "require_bits" "require_bits" s_require_bits f_require_bits fd_require_bits
  g_require_bits : mg "require_bits" = some (.ref f_require_bits)
  b_require_bits : Binds K fd_require_bits ["bits"] []
  f_require_value : Addr
  fd_require_value : FuncData
  F_require_value : Fun K "require_value" "require_value" s_require_value f_require_value fd_require_value
  g_require_value : mg "require_value" = some (.ref f_require_value)
  b_require_value : Binds K fd_require_value ["value", "bits"] []
  f_range_of : Addr
  fd_range_of : FuncData
  F_range_of : Fun K "range_of" "range_of" s_range_of f_range_of fd_range_of
  g_range_of : mg "range_of" = some (.ref f_range_of)
  b_range_of : Binds K fd_range_of ["value", "bits"] []
  f_common_length : Addr
  fd_common_length : FuncData
  F_common_length : Fun K "common_length" "common_length" s_common_length f_common_length fd_common_length
  g_common_length : mg "common_length" = some (.ref f_common_length)
  b_common_length : Binds K fd_common_length ["one", "other"] []
  f_widest_range : Addr
  fd_widest_range : FuncData
  t_widest_range : Addr
  tt_widest_range : ∀ H : Hp, SqT K H t_widest_range []
  F_widest_range : FunD K "widest_range" "widest_range" (defArgs s_widest_range) (defBody s_widest_range) (defScope s_widest_range) [.ref t_widest_range] [] f_widest_range fd_widest_range
  g_widest_range : mg "widest_range" = some (.ref f_widest_range)
  b_widest_range : Binds K fd_widest_range ["value", "bits", "barred"] []
  f__law_rng : Addr
  fd__law_rng : FuncData
  F__law_rng : Fun K "_law_rng" "_law_rng" s__law_rng f__law_rng fd__law_rng
  g__law_rng : mg "_law_rng" = some (.ref f__law_rng)
  b__law_rng : Binds K fd__law_rng ["_law_script", "_law_k"] []
  f__law_draw : Addr
  fd__law_draw : FuncData
  F__law_draw : Fun K "_law_draw" "_law_draw" s__law_draw f__law_draw fd__law_draw
  g__law_draw : mg "_law_draw" = some (.ref f__law_draw)
  b__law_draw : Binds K fd__law_draw ["_law_rng_here", "_law_many"] []
  f__law_choice : Addr
  fd__law_choice : FuncData
  F__law_choice : Fun K "_law_choice" "_law_choice" s__law_choice f__law_choice fd__law_choice
  g__law_choice : mg "_law_choice" = some (.ref f__law_choice)
  b__law_choice : Binds K fd__law_choice ["_law_rng_here", "_law_options"] []
  f__law_is_integer : Addr
  fd__law_is_integer : FuncData
  F__law_is_integer : Fun K "_law_is_integer" "_law_is_integer" s__law_is_integer f__law_is_integer fd__law_is_integer
  g__law_is_integer : mg "_law_is_integer" = some (.ref f__law_is_integer)
  b__law_is_integer : Binds K fd__law_is_integer ["_law_thing"] []
  f__law_power : Addr
  fd__law_power : FuncData
  F__law_power : Fun K "_law_power" "_law_power" s__law_power f__law_power fd__law_power
  g__law_power : mg "_law_power" = some (.ref f__law_power)
  b__law_power : Binds K fd__law_power ["_law_many"] []
  f__law_is_bits : Addr
  fd__law_is_bits : FuncData
  F__law_is_bits : Fun K "_law_is_bits" "_law_is_bits" s__law_is_bits f__law_is_bits fd__law_is_bits
  g__law_is_bits : mg "_law_is_bits" = some (.ref f__law_is_bits)
  b__law_is_bits : Binds K fd__law_is_bits ["_law_thing"] []
  f__law_is_value : Addr
  fd__law_is_value : FuncData
  F__law_is_value : Fun K "_law_is_value" "_law_is_value" s__law_is_value f__law_is_value fd__law_is_value
  g__law_is_value : mg "_law_is_value" = some (.ref f__law_is_value)
  b__law_is_value : Binds K fd__law_is_value ["_law_thing", "_law_many"] []
  f__law_is_range : Addr
  fd__law_is_range : FuncData
  F__law_is_range : Fun K "_law_is_range" "_law_is_range" s__law_is_range f__law_is_range fd__law_is_range
  g__law_is_range : mg "_law_is_range" = some (.ref f__law_is_range)
  b__law_is_range : Binds K fd__law_is_range ["_law_thing", "_law_many"] []
  f__law_odd : Addr
  fd__law_odd : FuncData
  F__law_odd : Fun K "_law_odd" "_law_odd" s__law_odd f__law_odd fd__law_odd
  g__law_odd : mg "_law_odd" = some (.ref f__law_odd)
  b__law_odd : Binds K fd__law_odd ["_law_rng_here"] []
  f__law_digits : Addr
  fd__law_digits : FuncData
  F__law_digits : Fun K "_law_digits" "_law_digits" s__law_digits f__law_digits fd__law_digits
  g__law_digits : mg "_law_digits" = some (.ref f__law_digits)
  b__law_digits : Binds K fd__law_digits ["_law_number", "_law_many"] []
  f__law_ends : Addr
  fd__law_ends : FuncData
  F__law_ends : Fun K "_law_ends" "_law_ends" s__law_ends f__law_ends fd__law_ends
  g__law_ends : mg "_law_ends" = some (.ref f__law_ends)
  b__law_ends : Binds K fd__law_ends ["_law_prefix", "_law_many"] []
  f__law_alone : Addr
  fd__law_alone : FuncData
  F__law_alone : Fun K "_law_alone" "_law_alone" s__law_alone f__law_alone fd__law_alone
  g__law_alone : mg "_law_alone" = some (.ref f__law_alone)
  b__law_alone : Binds K fd__law_alone ["_law_e"] []
  f__law_told : Addr
  fd__law_told : FuncData
  F__law_told : Fun K "_law_told" "_law_told" s__law_told f__law_told fd__law_told
  g__law_told : mg "_law_told" = some (.ref f__law_told)
  b__law_told : Binds K fd__law_told ["_law_number", "_law_many", "_law_some"] []
  f__law_due : Addr
  fd__law_due : FuncData
  F__law_due : Fun K "_law_due" "_law_due" s__law_due f__law_due fd__law_due
  g__law_due : mg "_law_due" = some (.ref f__law_due)
  b__law_due : Binds K fd__law_due ["_law_number", "_law_many", "_law_some"] []
  f__law_other : Addr
  fd__law_other : FuncData
  F__law_other : Fun K "_law_other" "_law_other" s__law_other f__law_other fd__law_other
  g__law_other : mg "_law_other" = some (.ref f__law_other)
  b__law_other : Binds K fd__law_other ["_law_rng_here", "_law_number", "_law_many"] []
  f__law_barred : Addr
  fd__law_barred : FuncData
  F__law_barred : Fun K "_law_barred" "_law_barred" s__law_barred f__law_barred fd__law_barred
  g__law_barred : mg "_law_barred" = some (.ref f__law_barred)
  b__law_barred : Binds K fd__law_barred ["_law_rng_here", "_law_number", "_law_many"] []
  f_law : Addr
  fd_law : FuncData
  F_law : Fun K "law" "law" s_law f_law fd_law
  g_law : mg "law" = some (.ref f_law)
  b_law : Binds K fd_law ["_law_script"] []
  sy : sysB K = true
  n_isinstance : mg "isinstance" = none
  n_int : mg "int" = none
  n_bool : mg "bool" = none
  n_str : mg "str" = none
  n_len : mg "len" = none
  n_list : mg "list" = none
  n_tuple : mg "tuple" = none
  n_range : mg "range" = none
  n_max : mg "max" = none
  n_min : mg "min" = none
  n_abs : mg "abs" = none
  n_divmod : mg "divmod" = none
  n_repr : mg "repr" = none
  n_ValueError : mg "ValueError" = none
  c_InvalidBits : Addr
  gc_InvalidBits : mg "InvalidBits" = some (.ref c_InvalidBits)
  c_InvalidRange : Addr
  gc_InvalidRange : mg "InvalidRange" = some (.ref c_InvalidRange)
  c_InvalidValue : Addr
  gc_InvalidValue : mg "InvalidValue" = some (.ref c_InvalidValue)
  c_InvalidBox : Addr
  gc_InvalidBox : mg "InvalidBox" = some (.ref c_InvalidBox)
  c_InvalidCount : Addr
  gc_InvalidCount : mg "InvalidCount" = some (.ref c_InvalidCount)
  c_InvalidKey : Addr
  gc_InvalidKey : mg "InvalidKey" = some (.ref c_InvalidKey)
  c_InvalidName : Addr
  gc_InvalidName : mg "InvalidName" = some (.ref c_InvalidName)
  c_InvalidPlace : Addr
  gc_InvalidPlace : mg "InvalidPlace" = some (.ref c_InvalidPlace)
  c_InvalidPoint : Addr
  gc_InvalidPoint : mg "InvalidPoint" = some (.ref c_InvalidPoint)
  c_InvalidText : Addr
  gc_InvalidText : mg "InvalidText" = some (.ref c_InvalidText)
  c_CoverError : Addr
  gc_CoverError : mg "CoverError" = some (.ref c_CoverError)
  e_InvalidBits : OwnE K c_InvalidBits
  ii_InvalidBits : PySem.W.findIn K (.ref c_InvalidBits) "__init__" = some (some (.ref f_init_InvalidBits))
  ti_InvalidBits : PySem.W.typeIn K (.ref f_init_InvalidBits) = some (.type "function")
  na_InvalidBits : PySem.W.findIn K (.ref c_InvalidBits) "value" = some none
  e_InvalidRange : OwnE K c_InvalidRange
  ii_InvalidRange : PySem.W.findIn K (.ref c_InvalidRange) "__init__" = some (some (.ref f_init_InvalidRange))
  ti_InvalidRange : PySem.W.typeIn K (.ref f_init_InvalidRange) = some (.type "function")
  na_InvalidRange : PySem.W.findIn K (.ref c_InvalidRange) "value" = some none
  e_InvalidValue : OwnE K c_InvalidValue
  ii_InvalidValue : PySem.W.findIn K (.ref c_InvalidValue) "__init__" = some (some (.ref f_init_InvalidValue))
  ti_InvalidValue : PySem.W.typeIn K (.ref f_init_InvalidValue) = some (.type "function")
  na_InvalidValue : PySem.W.findIn K (.ref c_InvalidValue) "value" = some none
  b_CoverError : BaseE K c_CoverError
  k_InvalidBits_InvalidBits : PySem.W.kitOne K (.ref c_InvalidBits) (.ref c_InvalidBits) = some true
  k_InvalidBits_InvalidRange : PySem.W.kitOne K (.ref c_InvalidBits) (.ref c_InvalidRange) = some false
  k_InvalidBits_InvalidValue : PySem.W.kitOne K (.ref c_InvalidBits) (.ref c_InvalidValue) = some false
  k_InvalidBits_InvalidBox : PySem.W.kitOne K (.ref c_InvalidBits) (.ref c_InvalidBox) = some false
  k_InvalidBits_InvalidCount : PySem.W.kitOne K (.ref c_InvalidBits) (.ref c_InvalidCount) = some false
  k_InvalidBits_InvalidKey : PySem.W.kitOne K (.ref c_InvalidBits) (.ref c_InvalidKey) = some false
  k_InvalidBits_InvalidName : PySem.W.kitOne K (.ref c_InvalidBits) (.ref c_InvalidName) = some false
  k_InvalidBits_InvalidPlace : PySem.W.kitOne K (.ref c_InvalidBits) (.ref c_InvalidPlace) = some false
  k_InvalidBits_InvalidPoint : PySem.W.kitOne K (.ref c_InvalidBits) (.ref c_InvalidPoint) = some false
  k_InvalidBits_InvalidText : PySem.W.kitOne K (.ref c_InvalidBits) (.ref c_InvalidText) = some false
  k_InvalidBits_CoverError : PySem.W.kitOne K (.ref c_InvalidBits) (.ref c_CoverError) = some true
  k_InvalidBits_ValueError : PySem.W.kitOne K (.ref c_InvalidBits) (.type "ValueError") = some true
  x_InvalidBits_InvalidBits : PySem.W.exmOne K (.ref c_InvalidBits) (.ref c_InvalidBits) = some true
  x_InvalidBits_InvalidRange : PySem.W.exmOne K (.ref c_InvalidBits) (.ref c_InvalidRange) = some false
  x_InvalidBits_InvalidValue : PySem.W.exmOne K (.ref c_InvalidBits) (.ref c_InvalidValue) = some false
  k_InvalidRange_InvalidBits : PySem.W.kitOne K (.ref c_InvalidRange) (.ref c_InvalidBits) = some false
  k_InvalidRange_InvalidRange : PySem.W.kitOne K (.ref c_InvalidRange) (.ref c_InvalidRange) = some true
  k_InvalidRange_InvalidValue : PySem.W.kitOne K (.ref c_InvalidRange) (.ref c_InvalidValue) = some false
  k_InvalidRange_InvalidBox : PySem.W.kitOne K (.ref c_InvalidRange) (.ref c_InvalidBox) = some false
  k_InvalidRange_InvalidCount : PySem.W.kitOne K (.ref c_InvalidRange) (.ref c_InvalidCount) = some false
  k_InvalidRange_InvalidKey : PySem.W.kitOne K (.ref c_InvalidRange) (.ref c_InvalidKey) = some false
  k_InvalidRange_InvalidName : PySem.W.kitOne K (.ref c_InvalidRange) (.ref c_InvalidName) = some false
  k_InvalidRange_InvalidPlace : PySem.W.kitOne K (.ref c_InvalidRange) (.ref c_InvalidPlace) = some false
  k_InvalidRange_InvalidPoint : PySem.W.kitOne K (.ref c_InvalidRange) (.ref c_InvalidPoint) = some false
  k_InvalidRange_InvalidText : PySem.W.kitOne K (.ref c_InvalidRange) (.ref c_InvalidText) = some false
  k_InvalidRange_CoverError : PySem.W.kitOne K (.ref c_InvalidRange) (.ref c_CoverError) = some true
  k_InvalidRange_ValueError : PySem.W.kitOne K (.ref c_InvalidRange) (.type "ValueError") = some true
  x_InvalidRange_InvalidBits : PySem.W.exmOne K (.ref c_InvalidRange) (.ref c_InvalidBits) = some false
  x_InvalidRange_InvalidRange : PySem.W.exmOne K (.ref c_InvalidRange) (.ref c_InvalidRange) = some true
  x_InvalidRange_InvalidValue : PySem.W.exmOne K (.ref c_InvalidRange) (.ref c_InvalidValue) = some false
  k_InvalidValue_InvalidBits : PySem.W.kitOne K (.ref c_InvalidValue) (.ref c_InvalidBits) = some false
  k_InvalidValue_InvalidRange : PySem.W.kitOne K (.ref c_InvalidValue) (.ref c_InvalidRange) = some false
  k_InvalidValue_InvalidValue : PySem.W.kitOne K (.ref c_InvalidValue) (.ref c_InvalidValue) = some true
  k_InvalidValue_InvalidBox : PySem.W.kitOne K (.ref c_InvalidValue) (.ref c_InvalidBox) = some false
  k_InvalidValue_InvalidCount : PySem.W.kitOne K (.ref c_InvalidValue) (.ref c_InvalidCount) = some false
  k_InvalidValue_InvalidKey : PySem.W.kitOne K (.ref c_InvalidValue) (.ref c_InvalidKey) = some false
  k_InvalidValue_InvalidName : PySem.W.kitOne K (.ref c_InvalidValue) (.ref c_InvalidName) = some false
  k_InvalidValue_InvalidPlace : PySem.W.kitOne K (.ref c_InvalidValue) (.ref c_InvalidPlace) = some false
  k_InvalidValue_InvalidPoint : PySem.W.kitOne K (.ref c_InvalidValue) (.ref c_InvalidPoint) = some false
  k_InvalidValue_InvalidText : PySem.W.kitOne K (.ref c_InvalidValue) (.ref c_InvalidText) = some false
  k_InvalidValue_CoverError : PySem.W.kitOne K (.ref c_InvalidValue) (.ref c_CoverError) = some true
  k_InvalidValue_ValueError : PySem.W.kitOne K (.ref c_InvalidValue) (.type "ValueError") = some true
  x_InvalidValue_InvalidBits : PySem.W.exmOne K (.ref c_InvalidValue) (.ref c_InvalidBits) = some false
  x_InvalidValue_InvalidRange : PySem.W.exmOne K (.ref c_InvalidValue) (.ref c_InvalidRange) = some false
  x_InvalidValue_InvalidValue : PySem.W.exmOne K (.ref c_InvalidValue) (.ref c_InvalidValue) = some true
  u_MAX_BITS : Value
  g_MAX_BITS : mg "MAX_BITS" = some u_MAX_BITS
  v_MAX_BITS : RelV (V.int 10) u_MAX_BITS
section
variable {P : Program} {w : World} {K : PySem.W.Frag} {mg : Str → Option Value} {base : Heap} (A : All K mg)
local macro_rules | `(tactic| walk_at "wp") => `(tactic| simp only [tSeq, tAsg, tRet, tRetN, tPar, tCallS, tCallSD, WE, tXf, tVeI, tOst, wNames, tKwS, tBM, tBM0, tSl, tPart, tNoPart, rSlS, tIfS, tNext, tDrop, tOp, tUn, tVar, tC, tCons, tNil, tCB, tCall, tCallN, gP, List.filterMap_cons, List.filterMap_nil, List.nil_append, List.cons_append, List.length_cons, List.length_nil, tTest, tB, tNot, tAnd, tOr, tAndV, tOrV, tNotV, tIf, tChain, tTup, tLst, Evl.tCut, gName, gTup, gCons, gNil, gSub, rI, rI0, rU, rIs, rIntI, rIntB, tDNewK, rEq_int, rNe_int, rEq_str, rNe_str, rAdd_int, rAdd_str, rAdd_ref, rIxU_ref, rIxU_str, rLenU_ref, rLenU_str, rSetL, start_cc, start_cn, start_nn, List.set_cons_zero, List.set_cons_succ, List.map_cons, List.map_nil, List.getElem?_cons_zero, List.getElem?_cons_succ, Option.some.injEq, V.int.injEq, V.bl.injEq, V.str.injEq, V.ref.injEq, V.ty.injEq, List.cons.injEq, and_true, true_and, exists_eq_left', exists_eq_left, exists_and_left, exists_and_right, List.append_nil, ↓reduceIte])
def spInt : Sp := fun vs H Q _ => ∃ v, vs = [v] ∧ Plain H v ∧ Q (.bl (isI v)) H
include A in
theorem ok_is_integer : FnOk P w K mg base CX0 1 A.f_is_integer A.fd_is_integer ["value"] spInt := by
  refine A.F_is_integer.ok sc_is_integer (fun vs H Q E h => ?_) (fun cdv Ar outer s H vs Q E hr h => ?_)
  · obtain ⟨_, rfl, _⟩ := h
    rfl
  obtain ⟨v, rfl, h⟩ := h
  refine ⟨_, (pss_one (ps_ret (pe_and (pe_callB isi_int (by rfl) A.n_isinstance (by decide +kernel) (pa_cons (pv 0) (pa_cons (pe_bltn (v := .ty "int") (u := .type "int") (by rfl) A.n_int (by decide +kernel) rfl) pa_nil))) (pe_one (pe_not (pe_callB isi_bool (by rfl) A.n_isinstance (by decide +kernel) (pa_cons (pv 0) (pa_cons (pe_bltn (v := .ty "bool") (u := .type "bool") (by rfl) A.n_bool (by decide +kernel) rfl) pa_nil)))))))), ?_⟩
  walk_at "wp"
  obtain ⟨p, q⟩ := h
  cases v <;> exact ⟨p, by first | exact ⟨p, q⟩ | exact q⟩
def isBits : V → Bool | .int i => decide (1 ≤ i ∧ i ≤ 10) | _ => false
theorem isBits_int {v : V} (h : isBits v = true) : ∃ n : Int, v = .int n ∧ 1 ≤ n ∧ n ≤ 10 := by
  cases v with
  | int n => exact ⟨n, rfl, of_decide_eq_true h⟩
  | _ => cases h
theorem two_pow_le (m n : Nat) (h : n ≤ m) : (2 : Int) ^ n ≤ 2 ^ m := by
  have := Nat.pow_le_pow_right (n := 2) (by decide) h
  exact_mod_cast this
def spBits : Sp := fun vs H Q _ => ∃ v, vs = [v] ∧ Plain H v ∧ Q (.bl (isBits v)) H
include A in
theorem ok_is_bits : FnOk P w K mg base CX0 2 A.f_is_bits A.fd_is_bits ["value"] spBits := by
  have G_is_integer := ok_is_integer (P := P) (w := w) (base := base) A
  refine A.F_is_bits.ok sc_is_bits (fun vs H Q E h => ?_) (fun cdv Ar outer s H vs Q E hr h => ?_)
  · obtain ⟨_, rfl, _⟩ := h
    rfl
  obtain ⟨v, rfl, h⟩ := h
  refine ⟨_, (pss_one (ps_ret (pe_and (pe_call G_is_integer (hr.mono (by first | decide | omega)) (by rfl) A.g_is_integer A.F_is_integer.kp A.b_is_integer .nil pass0 (pa_cons (pv 0) pa_nil)) (pe_one (pe_chain op_le op_le pe_int (pv 0) (pe_glob (by rfl) A.g_MAX_BITS A.v_MAX_BITS)))))), ?_⟩
  walk_at "wp"
  obtain ⟨p, q⟩ := h
  refine ⟨v, rfl, p, _, rfl, ?_⟩
  cases v with
  | int i =>
    refine ⟨i, rfl, ?_⟩
    refine ifD (fun h1 => ⟨i, rfl, ?_⟩) (fun h1 => ?_)
    · simpa only [isBits, h1, true_and] using q
    · simpa only [isBits, h1, false_and, decide_false] using q
  | _ => exact q
def isVal : V → V → Bool | .int i, .int n => decide (1 ≤ n ∧ n ≤ 10) && decide (0 ≤ i ∧ i < 2 ^ n.toNat) | _, _ => false
def spVal : Sp := fun vs H Q _ => ∃ v b, vs = [v, b] ∧ Plain H v ∧ Plain H b ∧ Q (.bl (isVal v b)) H
include A in
theorem ok_is_value : FnOk P w K mg base CX0 3 A.f_is_value A.fd_is_value ["value", "bits"] spVal := by
  have G_is_integer := ok_is_integer (P := P) (w := w) (base := base) A
  have G_is_bits := ok_is_bits (P := P) (w := w) (base := base) A
  refine A.F_is_value.ok sc_is_value (fun vs H Q E h => ?_) (fun cdv Ar outer s H vs Q E hr h => ?_)
  · obtain ⟨_, _, rfl, _⟩ := h
    rfl
  obtain ⟨v, b, rfl, h⟩ := h
  refine ⟨_, (pss_one (ps_ret (pe_and (pe_call G_is_bits (hr.mono (by first | decide | omega)) (by rfl) A.g_is_bits A.F_is_bits.kp A.b_is_bits .nil pass0 (pa_cons (pv 1) pa_nil)) (pe_and (pe_call G_is_integer (hr.mono (by first | decide | omega)) (by rfl) A.g_is_integer A.F_is_integer.kp A.b_is_integer .nil pass0 (pa_cons (pv 0) pa_nil)) (pe_one (pe_chain op_le op_lt pe_int (pv 0) (pe_op op_shl pe_int (pv 1)))))))), ?_⟩
  walk_at "wp"
  obtain ⟨p, pb, q⟩ := h
  refine ⟨b, rfl, pb, _, rfl, ?_⟩
  cases b with
  | int n =>
    refine ifD (fun h1 => ⟨v, rfl, p, _, rfl, ?_⟩) (fun h1 => ?_)
    · cases v with
      | int i =>
        refine ⟨i, rfl, ifD (fun h2 => ⟨n, rfl, ⟨by omega, by omega, by decide⟩, i, rfl, ?_⟩) (fun h2 => ?_)⟩
        · simpa only [isVal, h1, h2, and_self, decide_true, Bool.true_and, true_and, Int.one_mul] using q
        · simpa only [isVal, h1, h2, and_self, decide_true, Bool.true_and, false_and, decide_false] using q
      | _ => exact q
    · have e : isVal v (.int n) = false := by cases v <;> simp only [isVal, h1, decide_false, Bool.false_and]
      rw [e] at q
      exact q
  | _ => cases v <;> exact q
def isDig (c : Nat) : Bool := decide (c = 48 ∨ c = 49)
theorem dig_in (c : Nat) : decide (c ∈ (Str.ofString "01").cps.toList) = isDig c := by
  have e : (Str.ofString "01").cps.toList = [48, 49] := by decide +kernel
  rw [e]
  unfold isDig
  congr 1
  simp
def gD : V → V | .str z => .bl (isDig (z.cps.getD 0 0)) | v => v
def isRng (v b : V) : Bool := isBits b && match v, b with | .str z, .int n => decide ((z.length : Int) ≤ n) && z.cps.toList.all isDig | _, _ => false
theorem isRng_si {z : Str} {n : Int} : isRng (.str z) (.int n) = (isBits (.int n) && (decide ((z.length : Int) ≤ n) && z.cps.toList.all isDig)) := rfl
def notDig : V → Bool | .str z => !isDig (z.cps.getD 0 0) | _ => true
theorem s0_eq : (Str.ofString "0") = (⟨#[48]⟩ : Str) := by decide +kernel
theorem s1_eq : (Str.ofString "1") = (⟨#[49]⟩ : Str) := by decide +kernel
theorem ch_eq (c d : Nat) : decide (V.str ⟨#[c]⟩ = V.str ⟨#[d]⟩) = decide (c = d) := by
  by_cases h : c = d
  · rw [h, decide_eq_true rfl, decide_eq_true rfl]
  · rw [decide_eq_false h, decide_eq_false]
    intro z
    injection z with z
    injection z with z
    exact h (by simpa using z)
theorem notDig_ch (c : Nat) : notDig (chV c) = (!decide (V.str ⟨#[c]⟩ = V.str (Str.ofString "0")) && !decide (V.str ⟨#[c]⟩ = V.str (Str.ofString "1"))) := by
  rw [s0_eq, s1_eq, ch_eq, ch_eq]
  show (!isDig c) = _
  unfold isDig
  by_cases h1 : c = 48 <;> by_cases h2 : c = 49 <;> simp [h1, h2]
theorem filter_empty : ∀ l : List Nat, (List.filter notDig (List.map chV l)).isEmpty = l.all isDig
  | [] => rfl
  | c :: l => by
    rw [List.map_cons, List.filter_cons, List.all_cons]
    have e : notDig (chV c) = !isDig c := rfl
    rw [e]
    cases isDig c with
    | true => simpa using filter_empty l
    | false => rfl
def spRng : Sp := fun vs H Q _ => ∃ v b, vs = [v, b] ∧ Plain H v ∧ Sm v ∧ Plain H b ∧ ∀ H', Same H H' → Q (.bl (isRng v b)) H'
def spRngD : Sp := fun vs H Q _ => ∃ v b, vs = [v, b] ∧ NoDT H ∧ Plain H v ∧ Sm v ∧ Plain H b ∧ Q (.bl (isRng v b)) H
include A in
theorem ok__law_is_integer : FnOk P w K mg base CX0 1 A.f__law_is_integer A.fd__law_is_integer ["_law_thing"] spInt := by
  refine A.F__law_is_integer.ok sc__law_is_integer (fun vs H Q E h => ?_) (fun cdv Ar outer s H vs Q E hr h => ?_)
  · obtain ⟨_, rfl, _⟩ := h
    rfl
  obtain ⟨v, rfl, h⟩ := h
  refine ⟨_, (pss_one (ps_ret (pe_and (pe_callB isi_int (by rfl) A.n_isinstance (by decide +kernel) (pa_cons (pv 0) (pa_cons (pe_bltn (v := .ty "int") (u := .type "int") (by rfl) A.n_int (by decide +kernel) rfl) pa_nil))) (pe_one (pe_not (pe_callB isi_bool (by rfl) A.n_isinstance (by decide +kernel) (pa_cons (pv 0) (pa_cons (pe_bltn (v := .ty "bool") (u := .type "bool") (by rfl) A.n_bool (by decide +kernel) rfl) pa_nil)))))))), ?_⟩
  walk_at "wp"
  obtain ⟨p, q⟩ := h
  cases v <;> exact ⟨p, by first | exact ⟨p, q⟩ | exact q⟩
include A in
theorem ok__law_is_bits : FnOk P w K mg base CX0 2 A.f__law_is_bits A.fd__law_is_bits ["_law_thing"] spBits := by
  have G__law_is_integer := ok__law_is_integer (P := P) (w := w) (base := base) A
  refine A.F__law_is_bits.ok sc__law_is_bits (fun vs H Q E h => ?_) (fun cdv Ar outer s H vs Q E hr h => ?_)
  · obtain ⟨_, rfl, _⟩ := h
    rfl
  obtain ⟨v, rfl, h⟩ := h
  refine ⟨_, (pss_one (ps_ret (pe_and (pe_call G__law_is_integer (hr.mono (by first | decide | omega)) (by rfl) A.g__law_is_integer A.F__law_is_integer.kp A.b__law_is_integer .nil pass0 (pa_cons (pv 0) pa_nil)) (pe_one (pe_chain op_le op_le pe_int (pv 0) pe_int))))), ?_⟩
  walk_at "wp"
  obtain ⟨p, q⟩ := h
  refine ⟨v, rfl, p, _, rfl, ?_⟩
  cases v with
  | int i =>
    refine ⟨i, rfl, ?_⟩
    refine ifD (fun h1 => ⟨i, rfl, ?_⟩) (fun h1 => ?_)
    · simpa only [isBits, h1, true_and] using q
    · simpa only [isBits, h1, false_and, decide_false] using q
  | _ => exact q
include A in
theorem ok__law_power : FnOk P w K mg base CX0 1 A.f__law_power A.fd__law_power ["_law_many"] spPow := by
  refine A.F__law_power.ok sc__law_power (fun vs H Q E h => ?_) (fun cdv Ar outer s H vs Q E hr h => ?_)
  · obtain ⟨_, rfl, _⟩ := h
    rfl
  obtain ⟨v, rfl, h⟩ := h
  refine ⟨_, (pss_cons (ps_set (i := 1) sc__law_power.nd rfl (by first | exact Or.inl rfl | exact Or.inr rfl) pe_int) (pss_cons (ps_for PassesOwn.never rfl (pi_range1 (by rfl) A.n_range (pa_cons (pv 0) pa_nil)) (pg_name (i := 2) sc__law_power.nd rfl (by first | exact Or.inl rfl | exact Or.inr rfl)) (pss_one (ps_set (i := 1) sc__law_power.nd rfl (by first | exact Or.inl rfl | exact Or.inr rfl) (pe_op op_mul pe_int (pv 1))))) (pss_one (ps_ret (pv 1))))), ?_⟩
  walk_at "wp"
  obtain ⟨n, rfl, h0, h1, q⟩ := h
  refine forR n (fun R h => ⟨_, rfl, h⟩) (by omega) (by omega) (fun i σ H' => ∃ y, σ = [some (.int n), some (.int (2 ^ i)), y] ∧ H' = H) ⟨none, rfl, rfl⟩ ?_ ?_
  · rintro i _ _ hi ⟨y, rfl, rfl⟩
    walk_at "wp"
    refine ⟨.inl ⟨by decide, by decide⟩, ?_⟩
    rw [Int.mul_comm, ← Int.pow_succ]
    exact ⟨rfl, _, rfl⟩
  · rintro _ _ ⟨y, rfl, rfl⟩
    exact ⟨_, rfl, q⟩
include A in
theorem ok__law_is_value : FnOk P w K mg base CX0 3 A.f__law_is_value A.fd__law_is_value ["_law_thing", "_law_many"] spVal := by
  have G__law_is_integer := ok__law_is_integer (P := P) (w := w) (base := base) A
  have G__law_is_bits := ok__law_is_bits (P := P) (w := w) (base := base) A
  have G__law_power := ok__law_power (P := P) (w := w) (base := base) A
  refine A.F__law_is_value.ok sc__law_is_value (fun vs H Q E h => ?_) (fun cdv Ar outer s H vs Q E hr h => ?_)
  · obtain ⟨_, _, rfl, _⟩ := h
    rfl
  obtain ⟨v, b, rfl, h⟩ := h
  refine ⟨_, (pss_one (ps_ret (pe_and (pe_call G__law_is_bits (hr.mono (by first | decide | omega)) (by rfl) A.g__law_is_bits A.F__law_is_bits.kp A.b__law_is_bits .nil pass0 (pa_cons (pv 1) pa_nil)) (pe_and (pe_call G__law_is_integer (hr.mono (by first | decide | omega)) (by rfl) A.g__law_is_integer A.F__law_is_integer.kp A.b__law_is_integer .nil pass0 (pa_cons (pv 0) pa_nil)) (pe_one (pe_chain op_le op_lt pe_int (pv 0) (pe_call G__law_power (hr.mono (by first | decide | omega)) (by rfl) A.g__law_power A.F__law_power.kp A.b__law_power .nil pass0 (pa_cons (pv 1) pa_nil)))))))), ?_⟩
  walk_at "wp"
  obtain ⟨p, pb, q⟩ := h
  refine ⟨b, rfl, pb, _, rfl, ?_⟩
  cases b with
  | int n =>
    refine ifD (fun h1 => ⟨v, rfl, p, _, rfl, ?_⟩) (fun h1 => ?_)
    · cases v with
      | int i =>
        refine ⟨i, rfl, ifD (fun h2 => ⟨_, rfl, n, rfl, by omega, by omega, i, rfl, _, rfl, ?_⟩) (fun h2 => ?_)⟩
        · simpa only [isVal, h1, h2, and_self, decide_true, Bool.true_and, true_and, Int.one_mul] using q
        · simpa only [isVal, h1, h2, and_self, decide_true, Bool.true_and, false_and, decide_false] using q
      | _ => exact q
    · have e : isVal v (.int n) = false := by cases v <;> simp only [isVal, h1, decide_false, Bool.false_and]
      rw [e] at q
      exact q
  | _ => cases v <;> exact q
include A in
theorem ok__law_is_range : FnOk P w K mg base CX0 3 A.f__law_is_range A.fd__law_is_range ["_law_thing", "_law_many"] spRng := by
  have G__law_is_bits := ok__law_is_bits (P := P) (w := w) (base := base) A
  refine A.F__law_is_range.ok sc__law_is_range (fun vs H Q E h => ?_) (fun cdv Ar outer s H vs Q E hr h => ?_)
  · obtain ⟨_, _, rfl, _⟩ := h
    rfl
  obtain ⟨v, b, rfl, h⟩ := h
  refine ⟨_, (pss_cons (ps_if ((pw_or (pt_not (pt_val (pe_call G__law_is_bits (hr.mono (by first | decide | omega)) (by rfl) A.g__law_is_bits A.F__law_is_bits.kp A.b__law_is_bits .nil pass0 (pa_cons (pv 1) pa_nil)))) (pw_or (pt_not (pt_val (pe_callB isi_str (by rfl) A.n_isinstance (by decide +kernel) (pa_cons (pv 0) (pa_cons (pe_bltn (v := .ty "str") (u := .type "str") (by rfl) A.n_str (by decide +kernel) rfl) pa_nil))))) (pw_or1 (pt_cmpR op_gt (pe_callB call_lenU (by rfl) A.n_len (by decide +kernel) (pa_cons (pv 0) pa_nil)) (pv 1) (nomark _)))))).pt (pss_one (ps_ret pe_bl)) pss_nil) (pss_one (ps_ret (pe_cmpR (op_eqD (by have := hr.units; exact this)) (pe_lc (own := [("_law_sign", 2)]) (g := gName 2) rfl sc__law_is_range.nd (pi_str (pv 0)) (blkOk_by (N := N__law_is_range) (sc := defScope s__law_is_range) (by decide +kernel)) (fun _ _ _ _ _ => pg_name (i := 2) sc__law_is_range.nd rfl (Or.inl rfl)) (fun _ _ _ _ _ => (pts_one ((pw_and (pt_cmpR op_ne (pv 2) pe_str (nomark _)) (pw_and1 (pt_cmpR op_ne (pv 2) pe_str (nomark _))))).pt)) (fun _ _ _ _ _ => (pv 2))) (pe_lst pa_nil) (nomark _))))), ?_⟩
  walk_at "wp"
  obtain ⟨p, sm, pb, q⟩ := h
  refine ⟨b, rfl, pb, _, rfl, ifB (fun hb => ?_) (fun hb => ⟨p, ifB (fun hs => ?_) (fun hs => ?_)⟩)⟩
  · have e : isRng v b = false := by
      unfold isRng
      rw [show isBits b = false by simpa using hb]
      rfl
    rw [e] at q
    exact q H (Same.refl H)
  · have e : isRng v b = false := by
      unfold isRng
      cases v <;> first | (cases hs; done) | simp
    rw [e] at q
    exact q H (Same.refl H)
  · obtain ⟨z, rfl⟩ : ∃ z, v = .str z := by cases v <;> first | exact ⟨_, rfl⟩ | cases hs
    obtain ⟨n, rfl, h1, h2⟩ : ∃ n : Int, b = .int n ∧ 1 ≤ n ∧ n ≤ 10 := by
      have hb' : isBits b = true := by simpa using hb
      cases b with
      | int n => exact ⟨n, rfl, of_decide_eq_true hb'⟩
      | _ => cases hb'
    have zl : z.length ≤ 100000 := sm.1
    refine ⟨Nat.le_trans zl (by decide), _, rfl, n, rfl, ifD (fun h3 => ?_) (fun h3 => ?_)⟩
    · have e : isRng (.str z) (.int n) = false := by
        rw [isRng_si, decide_eq_false (show ¬ (z.length : Int) ≤ n by omega), Bool.false_and, Bool.and_false]
      rw [e] at q
      exact q H (Same.refl H)
    · refine lcStr notDig id (Nat.lt_of_le_of_lt zl (by decide)) (fun _ => rfl) (fun c _ H' R _ h => ?_) (fun c _ _ H' R _ h => ⟨_, rfl, h⟩) (fun D hD => ?_) (fun R h => ⟨_, rfl, h⟩)
      · rw [notDig_ch] at h
        show tAnd _ _ [some (.str z), some (.int n), some (.str ⟨#[c]⟩)] H' R
        refine ⟨_, rfl, rfl, _, rfl, ifB (fun e1 => ⟨_, rfl, rfl, _, rfl, ?_⟩) (fun e1 => ?_)⟩
        · rw [e1, Bool.true_and] at h
          exact h
        · rw [e1, Bool.false_and] at h
          exact h
      · refine ⟨by decide, fun p hp => ?_⟩
        have hDp : D ≠ p := ne_of_none upd_same hp
        refine eq_strs_nil (xs := List.map id (List.filter notDig (List.map chV z.cps.toList))) (by rw [upd_ne hDp, upd_same]) upd_same (fun x hx => ?_) ?_
        · rw [List.map_id] at hx
          obtain ⟨c, hc, rfl⟩ := List.mem_map.mp (List.mem_filter.mp hx).1
          exact ⟨_, rfl, strOk_ch sm.2 hc⟩
        · have e : isRng (.str z) (.int n) = (List.map id (List.filter notDig (List.map chV z.cps.toList))).isEmpty := by
            rw [isRng_si, decide_eq_true (show (z.length : Int) ≤ n by omega), show isBits (.int n) = true from decide_eq_true ⟨h1, h2⟩, Bool.true_and, Bool.true_and, List.map_id, filter_empty]
          rw [e] at q
          exact q _ (Same.trans (Cv.Same.new hD) (Cv.Same.new hp))
include A in
theorem ok__law_rng : FnOk P w K mg base CX0 1 A.f__law_rng A.fd__law_rng ["_law_script", "_law_k"] (spRngMk K) := by
  refine A.F__law_rng.ok sc__law_rng (fun vs H Q E h => ?_) (fun cdv Ar outer s H vs Q E hr h => ?_)
  · obtain ⟨_, _, rfl, _⟩ := h
    rfl
  obtain ⟨x, y, rfl, h⟩ := h
  refine ⟨_, (pss_cons (ps_set (i := 2) sc__law_rng.nd rfl (by first | exact Or.inl rfl | exact Or.inr rfl) (pe_op op_addU (pe_op op_mul pe_int (pv 1)) pe_int)) (Evl.pss_cut (ps_if (pt_cmpR op_lt (pv 1) (pe_callB call_len_seq (by rfl) A.n_len (by decide +kernel) (pa_cons (pv 0) pa_nil)) (nomark _)) (pss_one (ps_set (i := 2) sc__law_rng.nd rfl (by first | exact Or.inl rfl | exact Or.inr rfl) (pe_ix ix_list (pv 0) (pv 1) (fun _ _ => rfl)))) pss_nil) (pss_one (ps_ret (pe_lst (pa_cons (pe_callB (call_max2 rfl) (by rfl) A.n_max (by decide +kernel) (pa_cons pe_int (pa_cons (pe_op op_sub (pe_callB call_abs (by rfl) A.n_abs (by decide +kernel) (pa_cons (pv 2) pa_nil)) (pe_op op_pow pe_int pe_int)) pa_nil))) (pa_cons (pe_op op_addU (pe_op op_mod (pe_callTy call_intI (by rfl) A.n_int (by decide +kernel) (pa_cons (pe_op op_mul (pe_op op_addU (pe_op op_mod (pe_callTy call_intI (by rfl) A.n_int (by decide +kernel) (pa_cons (pe_callB call_abs (by rfl) A.n_abs (by decide +kernel) (pa_cons (pv 2) pa_nil)) pa_nil)) pe_int) pe_int) (pe_op op_pow (pe_op op_addU (pv 1) pe_int) pe_int)) pa_nil)) pe_int) pe_int) pa_nil))))))), ?_⟩
  walk_at "wp"
  obtain ⟨a, k, ns, rfl, rfl, hS, h0, h1, q⟩ := h
  refine ⟨k, rfl, .inl ⟨by decide, by decide⟩, fun σ' H' => ∃ c : Int, σ' = [some (.ref a), some (.int k), some (.int c)] ∧ H' = H, ⟨a, rfl, _, .inl hS, k, rfl, ifD (fun hk => ?_) (fun hk => ⟨_, rfl, rfl⟩)⟩, ?_⟩
  · rw [List.length_map] at hk
    refine ⟨a, _, k, .int (ns[k.toNat]'(by omega)), rfl, rfl, hS, at_of (j := k.toNat) (by omega) ?_, _, rfl, rfl⟩
    rw [List.getElem?_map, List.getElem?_eq_getElem (by omega)]
    rfl
  · rintro _ _ ⟨c, rfl, rfl⟩
    obtain ⟨c1, c2⟩ := cube_le h0 h1
    have m0 : ∀ x : Int, 0 ≤ x % 2147483563 ∧ x % 2147483563 < 2147483563 := fun x => ⟨Int.emod_nonneg _ (by decide), Int.emod_lt_of_pos _ (by decide)⟩
    refine ⟨_, rfl, c, rfl, ⟨by decide, by decide, by decide⟩, _, _, ⟨rfl, rfl⟩, _, rfl, c, rfl, by decide, _, rfl, _, rfl, ⟨by decide, by decide, by omega⟩, .inr ⟨by omega, by omega⟩, by decide, (by show 2 ≤ sizeLine; decide), fun p hp => q p _ hp ⟨_, _, rfl, ?_, ?_, ?_⟩⟩
    · split <;> omega
    · have := m0 (((if c < 0 then -c else c) % 2147483579 + 1) * (k + 3) ^ Int.toNat 3)
      omega
    · have := m0 (((if c < 0 then -c else c) % 2147483579 + 1) * (k + 3) ^ Int.toNat 3)
      omega
include A in
theorem ok__law_draw : FnOk P w K mg base CX0 1 A.f__law_draw A.fd__law_draw ["_law_rng_here", "_law_many"] spDraw := by
  refine A.F__law_draw.ok sc__law_draw (fun vs H Q E h => ?_) (fun cdv Ar outer s H vs Q E hr h => ?_)
  · obtain ⟨_, _, rfl, _⟩ := h
    rfl
  obtain ⟨x, y, rfl, h⟩ := h
  refine ⟨_, (pss_cons (ps_if (pt_cmpR op_gt (pe_ix ix_u (pv 0) pe_int (fun _ _ => rfl)) pe_int (nomark _)) (pss_cons (ps_asg (pe_callB call_divmodW (by rfl) A.n_divmod (by decide +kernel) (pa_cons (pe_ix ix_u (pv 0) pe_int (fun _ _ => rfl)) (pa_cons (pv 1) pa_nil))) (pg_tup rfl (pgs_cons (pg_sub (pv 0) pe_int set_list) (pgs_cons (pg_name (i := 2) sc__law_draw.nd rfl (by first | exact Or.inl rfl | exact Or.inr rfl)) pgs_nil)))) (pss_one (ps_ret (pv 2)))) pss_nil) (pss_cons (ps_asg (pe_op op_mod (pe_callTy call_intI (by rfl) A.n_int (by decide +kernel) (pa_cons (pe_op op_addU (pe_op op_mul (pe_ix ix_u (pv 0) pe_int (fun _ _ => rfl)) pe_int) pe_int) pa_nil)) pe_int) (pg_sub (pv 0) pe_int set_list)) (pss_cons (ps_set (i := 3) sc__law_draw.nd rfl (by first | exact Or.inl rfl | exact Or.inr rfl) (pe_op op_fdiv (pe_op op_mod (pe_callTy call_intI (by rfl) A.n_int (by decide +kernel) (pa_cons (pe_op op_mul (pe_ix ix_u (pv 0) pe_int (fun _ _ => rfl)) (pe_ix ix_u (pv 0) pe_int (fun _ _ => rfl))) pa_nil)) pe_int) pe_int)) (pss_cons (ps_if (pt_cmpR op_lt (pv 1) (pe_op op_pow pe_int pe_int) (nomark _)) (pss_one (ps_ret (pe_op op_mod (pe_callTy call_intI (by rfl) A.n_int (by decide +kernel) (pa_cons (pv 3) pa_nil)) (pv 1)))) pss_nil) (pss_one (ps_ret (pe_op op_mod (pe_callTy call_intI (by rfl) A.n_int (by decide +kernel) (pa_cons (pe_op op_addU (pe_op op_mul (pe_op op_addU (pe_op op_mul (pv 3) pe_int) (pe_ix ix_u (pv 0) pe_int (fun _ _ => rfl))) pe_int) (pv 3)) pa_nil)) (pv 1)))))))), ?_⟩
  walk_at "wp"
  obtain ⟨r, m, rfl, rfl, hR, m1, ml, q⟩ := h
  obtain ⟨nd, o, ho, u, v, rfl, u0, v0, v1⟩ := id hR
  simp only [rIxU_ref]
  have hs : sqO (H r) = some [.int u, .int v] := by rw [ho]; rfl
  refine ⟨_, _, hs, rfl, u, rfl, ifD (fun h => ?_) (fun h => ?_)⟩
  · refine ⟨_, _, hs, rfl, u, m, ⟨rfl, rfl⟩, ⟨by omega, PyProof.noPylong_of_log2 ml⟩, fun p hp => ⟨_, .inl (.inl upd_same), rfl, _, _, rfl, r, rfl, _, (upd_ne (ne_of_none ho hp)).trans ho, _, rfl, _, _, rfl, rfl, ?_⟩⟩
    exact q _ _ (Int.emod_nonneg _ (by omega)) (Int.emod_lt_of_pos _ (by omega)) (fun c o n e => by rw [upd_ne n, upd_ne (ne_of_none e hp)]; exact e)
      ((hR.new hp rfl).set ⟨_, _, rfl, Int.ediv_nonneg u0 (by omega), v0, v1⟩)
  · have w0 : 0 ≤ (v * 48283 + 10007) % 2147483587 := Int.emod_nonneg _ (by decide)
    have w1 : (v * 48283 + 10007) % 2147483587 < 2147483587 := Int.emod_lt_of_pos _ (by decide)
    refine ⟨_, _, hs, rfl, v, rfl, .inr ⟨by decide, by decide⟩, by decide, r, rfl, _, ho, _, rfl, ?_⟩
    generalize (v * 48283 + 10007) % 2147483587 = x at w0 w1 ⊢
    have hs1 : sqO (upd H r (.lst [.int u, .int x]) r) = some [.int u, .int x] := by rw [upd_same]; rfl
    have fin : ∀ d, 0 ≤ d → d < m → Q (.int d) (upd H r (.lst [.int u, .int x])) := fun d d0 d1 => q d _ d0 d1 KeepX.set (hR.set ⟨u, x, rfl, u0, w0, by omega⟩)
    refine ⟨_, _, hs1, rfl, _, _, hs1, rfl, x, rfl, x, rfl, .inl ⟨by omega, by omega⟩, by decide, ⟨by decide, by decide⟩, ⟨by decide, by decide, by decide⟩, m, rfl, ifD (fun _ => ⟨m, rfl, by omega, fin _ (Int.emod_nonneg _ (by omega)) (Int.emod_lt_of_pos _ (by omega))⟩) (fun _ => ?_)⟩
    refine ⟨.inr ⟨by decide, by decide⟩, _, _, hs1, rfl, ?_⟩
    exact ⟨_, rfl, .inr ⟨by decide, by decide⟩, m, rfl, by omega, fin _ (Int.emod_nonneg _ (by omega)) (Int.emod_lt_of_pos _ (by omega))⟩
include A in
theorem ok__law_choice : FnOk P w K mg base CX0 2 A.f__law_choice A.fd__law_choice ["_law_rng_here", "_law_options"] spChoice := by
  have G__law_draw := ok__law_draw (P := P) (w := w) (base := base) A
  refine A.F__law_choice.ok sc__law_choice (fun vs H Q E h => ?_) (fun cdv Ar outer s H vs Q E hr h => ?_)
  · obtain ⟨_, _, rfl, _⟩ := h
    rfl
  obtain ⟨x, y, rfl, h⟩ := h
  refine ⟨_, (pss_one (ps_ret (pe_ix ix_u (pv 1) (pe_call G__law_draw (hr.mono (by first | decide | omega)) (by rfl) A.g__law_draw A.F__law_draw.kp A.b__law_draw .nil pass0 (pa_cons (pv 0) (pa_cons (pe_callB call_lenU (by rfl) A.n_len (by decide +kernel) (pa_cons (pv 1) pa_nil)) pa_nil))) (fun _ _ => rfl)))), ?_⟩
  walk_at "wp"
  obtain ⟨r, l, xs, rfl, rfl, hn, hR, hl, x0, x1, q⟩ := h
  have hs : sqO (H l) = some xs := by rw [hl]; rfl
  refine ⟨xs, hs, _, _, rfl, r, _, rfl, rfl, hR, by omega, log2_small (by omega), fun d H' d0 d1 k hR' => ?_⟩
  have hd : d.toNat < xs.length := by omega
  exact ⟨xs, xs[d.toNat], by rw [k l _ hn hl]; rfl, at_of (j := d.toNat) (by omega) (List.getElem?_eq_getElem hd), q _ _ (List.getElem_mem hd) k hR'⟩
/-- a datum that the law's drawing of odd things may give: its text by repr is z -/
inductive Od (H : Hp) (r : Addr) : V → Str → Prop
  | flat {v : V} {d : PyData} (h : ∀ K G, Dp K G v d) (n : nice d = true) : Od H r v d.shown
  | lst {a : Addr} {xs : List V} {ds : List PyData} (ne : a ≠ r) (e : H a = some (.lst xs)) (h : ∀ K G, DpAll K G xs ds) (n : nice (.list ds) = true) : Od H r (.ref a) (PyData.list ds).shown
  | tup {a : Addr} {xs : List V} {ds : List PyData} (ne : a ≠ r) (e : H a = some (.tup xs)) (h : ∀ K G, DpAll K G xs ds) (n : nice (.tuple ds) = true) : Od H r (.ref a) (PyData.tuple ds).shown
  | dct {a : Addr} (ne : a ≠ r) (e : H a = some (.dK [])) : Od H r (.ref a) "{}"
theorem Od.keep {H H' : Hp} {r : Addr} {v : V} {z : Str} (o : Od H r v z) (k : KeepX r H H') : Od H' r v z := by
  cases o with
  | flat h n => exact .flat h n
  | lst ne e h n => exact .lst ne (k _ _ ne e) h n
  | tup ne e h n => exact .tup ne (k _ _ ne e) h n
  | dct ne e => exact .dct ne (k _ _ ne e)
theorem Od.same {H H' : Hp} {r : Addr} {v : V} {z : Str} (o : Od H r v z) (k : Same H H') : Od H' r v z := o.keep fun b u _ q => k b u q
theorem Od.show {K : PySem.W.Frag} {H : Hp} {r : Addr} {v : V} {z : Str} {Q : VK} (o : Od H r v z) (q : Q (.str z) H) : rShow K [v] H Q := by
  cases o with
  | flat h n => exact .inl ⟨v, _, rfl, h K H, n, q⟩
  | lst ne e h n => exact .inl ⟨_, _, rfl, .lst (.inl (.inl e)) (h K H), n, q⟩
  | tup ne e h n => exact .inl ⟨_, _, rfl, .tup (.inl (.inl e)) (h K H), n, q⟩
  | dct ne e => exact .inr ⟨_, rfl, e, q⟩
theorem Od.pl {H : Hp} {r : Addr} {v : V} {z : Str} (o : Od H r v z) : Pl H r v := by
  cases o with
  | flat h n =>
    have x := h [] (fun _ => none)
    cases x with
    | non => exact pl_non
    | bl b => exact pl_bl
    | int i => exact pl_int
    | str y =>
      obtain ⟨n1, _, n3, _⟩ := nice_parts n
      exact pl_str (by
        have n4 : y.cps.size ≤ 100000 := by simpa [PyData.weight] using n3
        exact n4) (by simpa [PyData.canLay0] using n1)
    | lst s _ =>
      rcases s with (s | ⟨_, s⟩) | ⟨_, _, _, s, _⟩ <;> cases s
    | tup s _ =>
      rcases s with (s | ⟨_, s⟩) | ⟨_, _, _, s, _⟩ <;> cases s
  | lst ne e h n => exact pl_lst e ne
  | tup ne e h n => exact pl_tup e ne
  | dct ne e => exact pl_dK e ne
theorem Od.ok {H : Hp} {r : Addr} {v : V} {z : Str} (o : Od H r v z) : PyData.strOk z = true := by
  cases o with
  | flat h n => exact shown_ok _ (nice_parts n).1
  | lst ne e h n => exact shown_ok _ (nice_parts n).1
  | tup ne e h n => exact shown_ok _ (nice_parts n).1
  | dct ne e => decide +kernel
def spOddZ : Sp := fun vs H Q _ => ∃ x, vs = [x] ∧ ∃ (r : Addr), x = .ref r ∧ RngAt H r ∧ ∀ v z H', Od H' r v z → KeepX r H H' → RngAt H' r → Q v H'
include A in
theorem ok__law_odd : FnOk P w K mg base CX0 3 A.f__law_odd A.fd__law_odd ["_law_rng_here"] spOddZ := by
  have G__law_choice := ok__law_choice (P := P) (w := w) (base := base) A
  refine A.F__law_odd.ok sc__law_odd (fun vs H Q E h => ?_) (fun cdv Ar outer s H vs Q E hr h => ?_)
  · obtain ⟨_, rfl, _⟩ := h
    rfl
  obtain ⟨x, rfl, h⟩ := h
  refine ⟨_, (pss_cons (ps_set (i := 1) sc__law_odd.nd rfl (by first | exact Or.inl rfl | exact Or.inr rfl) (pe_lst (pa_cons pe_non (pa_cons pe_bl (pa_cons pe_bl (pa_cons pe_str (pa_cons pe_str (pa_cons pe_str (pa_cons (pe_lst pa_nil) (pa_cons (pe_tup pa_nil) (pa_cons pe_dnewK (pa_cons (pe_lst (pa_cons pe_int pa_nil)) (pa_cons (pe_tup (pa_cons pe_int pa_nil)) (pa_cons pe_str (pa_cons (pe_un un_neg pe_int) (pa_cons (pe_op op_pow pe_int pe_int) (pa_cons pe_str (pa_cons (pe_lst (pa_cons pe_str pa_nil)) (pa_cons (pe_tup (pa_cons pe_str (pa_cons pe_str pa_nil))) (pa_cons pe_int (pa_cons pe_int pa_nil))))))))))))))))))))) (pss_one (ps_ret (pe_call G__law_choice (hr.mono (by first | decide | omega)) (by rfl) A.g__law_choice A.F__law_choice.kp A.b__law_choice .nil pass0 (pa_cons (pv 0) (pa_cons (pv 1) pa_nil)))))), ?_⟩
  walk_at "wp"
  obtain ⟨r, rfl, hR, q⟩ := h
  refine ⟨sm20 (by decide), fun p1 n1 => ?_⟩
  have R1 := hR.new (o := .lst []) n1 rfl
  have k1 := KeepX.new (r := r) (o := .lst []) n1
  have P1 : Od (upd H p1 (.lst [])) r (.ref p1) (PyData.list []).shown := .lst (hR.ne n1) upd_same (fun _ _ => .nil) (by decide +kernel)
  generalize upd H p1 (.lst []) = H1 at *
  refine ⟨sm20 (by decide), fun p2 n2 => ?_⟩
  have R2 := R1.new (o := .tup []) n2 rfl
  have k2 := KeepX.new (r := r) (o := .tup []) n2
  have P2 : Od (upd H1 p2 (.tup [])) r (.ref p2) (PyData.tuple []).shown := .tup (R1.ne n2) upd_same (fun _ _ => .nil) (by decide +kernel)
  generalize upd H1 p2 (.tup []) = H2 at *
  intro p3 n3
  have R3 := R2.new (o := .dK []) n3 rfl
  have k3 := KeepX.new (r := r) (o := .dK []) n3
  have P3 : Od (upd H2 p3 (.dK [])) r (.ref p3) "{}" := .dct (R2.ne n3) upd_same
  generalize upd H2 p3 (.dK []) = H3 at *
  refine ⟨sm20 (by show 1 ≤ 100; decide), fun p4 n4 => ?_⟩
  have R4 := R3.new (o := .lst [.int 3]) n4 rfl
  have k4 := KeepX.new (r := r) (o := .lst [.int 3]) n4
  have P4 : Od (upd H3 p4 (.lst [.int 3])) r (.ref p4) (PyData.list [.int 3]).shown := .lst (R3.ne n4) upd_same (fun _ _ => (.cons (.int 3) .nil)) (by decide +kernel)
  generalize upd H3 p4 (.lst [.int 3]) = H4 at *
  refine ⟨sm20 (by show 1 ≤ 100; decide), fun p5 n5 => ⟨⟨by decide, by decide, by decide⟩, ?_⟩⟩
  have R5 := R4.new (o := .tup [.int 1]) n5 rfl
  have k5 := KeepX.new (r := r) (o := .tup [.int 1]) n5
  have P5 : Od (upd H4 p5 (.tup [.int 1])) r (.ref p5) (PyData.tuple [.int 1]).shown := .tup (R4.ne n5) upd_same (fun _ _ => (.cons (.int 1) .nil)) (by decide +kernel)
  generalize upd H4 p5 (.tup [.int 1]) = H5 at *
  refine ⟨sm20 (by show 1 ≤ 100; decide), fun p6 n6 => ?_⟩
  have R6 := R5.new (o := .lst [.str "0"]) n6 rfl
  have k6 := KeepX.new (r := r) (o := .lst [.str "0"]) n6
  have P6 : Od (upd H5 p6 (.lst [.str "0"])) r (.ref p6) (PyData.list [.str "0"]).shown := .lst (R5.ne n6) upd_same (fun _ _ => (.cons (.str "0") .nil)) (by decide +kernel)
  generalize upd H5 p6 (.lst [.str "0"]) = H6 at *
  refine ⟨sm20 (by show 2 ≤ 100; decide), fun p7 n7 => ?_⟩
  have R7 := R6.new (o := .tup [.str "0", .str "1"]) n7 rfl
  have k7 := KeepX.new (r := r) (o := .tup [.str "0", .str "1"]) n7
  have P7 : Od (upd H6 p7 (.tup [.str "0", .str "1"])) r (.ref p7) (PyData.tuple [.str "0", .str "1"]).shown := .tup (R6.ne n7) upd_same (fun _ _ => (.cons (.str "0") (.cons (.str "1") .nil))) (by decide +kernel)
  generalize upd H6 p7 (.tup [.str "0", .str "1"]) = H7 at *
  refine ⟨sm20 (by show 19 ≤ 100; decide), fun p8 n8 => ⟨_, _, rfl, r, p8, _, rfl, rfl, R7.ne n8, R7.new n8 rfl, upd_same, by show 0 < 19; decide, by show 19 ≤ 1000; decide, fun v H' hv k hR' => ?_⟩⟩
  have k8 := KeepX.trans (KeepX.new (r := r) n8) k
  have kk : KeepX r H H' := (((((((k1.trans k2).trans k3).trans k4).trans k5).trans k6).trans k7).trans k8)
  have put : ∀ z, Od H' r v z → Q v H' := fun z o => q v z H' o kk hR'
  simp only [List.mem_cons, List.not_mem_nil, or_false] at hv
  rcases hv with rfl | rfl | rfl | rfl | rfl | rfl | rfl | rfl | rfl | rfl | rfl | rfl | rfl | rfl | rfl | rfl | rfl | rfl | rfl
  · exact put _ (.flat (fun _ _ => .non) (by decide +kernel))
  · exact put _ (.flat (fun _ _ => .bl _) (by decide +kernel))
  · exact put _ (.flat (fun _ _ => .bl _) (by decide +kernel))
  · exact put _ (.flat (fun _ _ => .str _) (by decide +kernel))
  · exact put _ (.flat (fun _ _ => .str _) (by decide +kernel))
  · exact put _ (.flat (fun _ _ => .str _) (by decide +kernel))
  · exact put _ (P1.keep ((((((k2.trans k3).trans k4).trans k5).trans k6).trans k7).trans k8))
  · exact put _ (P2.keep (((((k3.trans k4).trans k5).trans k6).trans k7).trans k8))
  · exact put _ (P3.keep ((((k4.trans k5).trans k6).trans k7).trans k8))
  · exact put _ (P4.keep (((k5.trans k6).trans k7).trans k8))
  · exact put _ (P5.keep ((k6.trans k7).trans k8))
  · exact put _ (.flat (fun _ _ => .str _) (by decide +kernel))
  · exact put _ (.flat (fun _ _ => .int _) (by decide +kernel))
  · exact put _ (.flat (fun _ _ => .int _) (by decide +kernel))
  · exact put _ (.flat (fun _ _ => .str _) (by decide +kernel))
  · exact put _ (P6.keep (k7.trans k8))
  · exact put _ (P7.keep k8)
  · exact put _ (.flat (fun _ _ => .int _) (by decide +kernel))
  · exact put _ (.flat (fun _ _ => .int _) (by decide +kernel))
include A in
theorem ok_init_InvalidBits : FnOk P w K mg base CX0 1 A.f_init_InvalidBits A.fd_init_InvalidBits ["self", "value"] (spInit K "value") := by
  refine A.F_init_InvalidBits.ok sc_init_InvalidBits (fun vs H Q E h => ?_) (fun cdv Ar outer s H vs Q E hr h => ?_)
  · obtain ⟨_, _, rfl, _⟩ := h
    rfl
  obtain ⟨x, v, rfl, h⟩ := h
  refine ⟨_, (pss_cons (ps_expr (pe_binit (by rfl) A.gc_CoverError A.b_CoverError.rd A.b_CoverError.at_ (pa_cons (pv 0) (pa_cons pe_str pa_nil)))) (pss_one (ps_ost (pv 0) (pv 1)))), ?_⟩
  walk_at "wp"
  obtain ⟨a, C, rfl, T, nf, e, q⟩ := h
  exact ⟨a, C, _, ⟨rfl, rfl⟩, by decide, T, e, a, rfl, C, T, nf, .inl ⟨e, q⟩⟩
include A in
theorem ok_init_InvalidValue : FnOk P w K mg base CX0 1 A.f_init_InvalidValue A.fd_init_InvalidValue ["self", "value"] (spInit K "value") := by
  refine A.F_init_InvalidValue.ok sc_init_InvalidValue (fun vs H Q E h => ?_) (fun cdv Ar outer s H vs Q E hr h => ?_)
  · obtain ⟨_, _, rfl, _⟩ := h
    rfl
  obtain ⟨x, v, rfl, h⟩ := h
  refine ⟨_, (pss_cons (ps_expr (pe_binit (by rfl) A.gc_CoverError A.b_CoverError.rd A.b_CoverError.at_ (pa_cons (pv 0) (pa_cons pe_str pa_nil)))) (pss_one (ps_ost (pv 0) (pv 1)))), ?_⟩
  walk_at "wp"
  obtain ⟨a, C, rfl, T, nf, e, q⟩ := h
  exact ⟨a, C, _, ⟨rfl, rfl⟩, by decide, T, e, a, rfl, C, T, nf, .inl ⟨e, q⟩⟩
include A in
theorem ok_init_InvalidRange : FnOk P w K mg base CX0 1 A.f_init_InvalidRange A.fd_init_InvalidRange ["self", "value"] (spInit K "value") := by
  refine A.F_init_InvalidRange.ok sc_init_InvalidRange (fun vs H Q E h => ?_) (fun cdv Ar outer s H vs Q E hr h => ?_)
  · obtain ⟨_, _, rfl, _⟩ := h
    rfl
  obtain ⟨x, v, rfl, h⟩ := h
  refine ⟨_, (pss_cons (ps_expr (pe_binit (by rfl) A.gc_CoverError A.b_CoverError.rd A.b_CoverError.at_ (pa_cons (pv 0) (pa_cons pe_str pa_nil)))) (pss_one (ps_ost (pv 0) (pv 1)))), ?_⟩
  walk_at "wp"
  obtain ⟨a, C, rfl, T, nf, e, q⟩ := h
  exact ⟨a, C, _, ⟨rfl, rfl⟩, by decide, T, e, a, rfl, C, T, nf, .inl ⟨e, q⟩⟩
/-- the error of the class C with v in its field -/
def Err (C : Addr) (v : V) (H : Hp) (E : XK) : Prop := ∀ d, H d = none → E (.ref C) (some d) (upd H d (.xd [("value", v)]))
def spReqB (C : Addr) : Sp := fun vs H Q E => ∃ v, vs = [v] ∧ Plain H v ∧ (isBits v = true → Q .non H) ∧ (isBits v = false → Err C v H E)
include A in
theorem ok_require_bits : FnOk P w K mg base (L2N.CX P w) 3 A.f_require_bits A.fd_require_bits ["bits"] (spReqB A.c_InvalidBits) := by
  have G_is_bits := ok_is_bits (P := P) (w := w) (base := base) A
  refine okN A.F_require_bits sc_require_bits (fun vs H Q E h => ?_) (fun cdv Ar outer s H vs Q E hr h tk hpo => ?_)
  · obtain ⟨_, rfl, _⟩ := h
    rfl
  obtain ⟨v, rfl, h⟩ := h
  refine ⟨_, (pss_one (ps_if (pt_not (pt_val (pe_call G_is_bits (hr.mono (by first | decide | omega)) (by rfl) A.g_is_bits A.F_is_bits.kp A.b_is_bits .nil pass0 (pa_cons (pv 0) pa_nil)))) (pss_one (L2N.ps_raise rfl tk (pmkN_own A.e_InvalidBits.ox A.ii_InvalidBits A.ti_InvalidBits (ok_init_InvalidBits (P := P) (w := w) (base := base) A) (hr.mono (by first | decide | omega)) A.b_init_InvalidBits pass0 (by rfl) A.gc_InvalidBits (pa_cons (pv 0) pa_nil)))) pss_nil)), ?_⟩
  walk_at "wp"
  obtain ⟨p, q, e⟩ := h
  refine ⟨v, rfl, p, _, rfl, ifB (fun hb => ?_) (fun hb => q (by simpa using hb))⟩
  exact ⟨v, rfl, use_mk A.e_InvalidBits.ox A.na_InvalidBits (e (by simpa using hb))⟩
def spReqV (C : Addr) : Sp := fun vs H Q E => ∃ v b, vs = [v, b] ∧ Plain H v ∧ Plain H b ∧ (isVal v b = true → Q .non H) ∧ (isVal v b = false → Err C v H E)
include A in
theorem ok_require_value : FnOk P w K mg base (L2N.CX P w) 4 A.f_require_value A.fd_require_value ["value", "bits"] (spReqV A.c_InvalidValue) := by
  have G_is_value := ok_is_value (P := P) (w := w) (base := base) A
  refine okN A.F_require_value sc_require_value (fun vs H Q E h => ?_) (fun cdv Ar outer s H vs Q E hr h tk hpo => ?_)
  · obtain ⟨_, _, rfl, _⟩ := h
    rfl
  obtain ⟨v, b, rfl, h⟩ := h
  refine ⟨_, (pss_one (ps_if (pt_not (pt_val (pe_call G_is_value (hr.mono (by first | decide | omega)) (by rfl) A.g_is_value A.F_is_value.kp A.b_is_value .nil pass0 (pa_cons (pv 0) (pa_cons (pv 1) pa_nil))))) (pss_one (L2N.ps_raise rfl tk (pmkN_own A.e_InvalidValue.ox A.ii_InvalidValue A.ti_InvalidValue (ok_init_InvalidValue (P := P) (w := w) (base := base) A) (hr.mono (by first | decide | omega)) A.b_init_InvalidValue pass0 (by rfl) A.gc_InvalidValue (pa_cons (pv 0) pa_nil)))) pss_nil)), ?_⟩
  walk_at "wp"
  obtain ⟨p, pb, q, e⟩ := h
  refine ⟨v, b, rfl, p, pb, _, rfl, ifB (fun hb => ?_) (fun hb => q (by simpa using hb))⟩
  exact ⟨v, rfl, use_mk A.e_InvalidValue.ox A.na_InvalidValue (e (by simpa using hb))⟩
def spReqR (C : Addr) : Sp := fun vs H Q E => ∃ v b, vs = [v, b] ∧ NoDT H ∧ Plain H v ∧ Sm v ∧ Plain H b ∧ (isRng v b = true → Q .non H) ∧ (isRng v b = false → Err C v H E)
/-- of the three classes that are raised: what isinstance says -/
structure Kin (A : All K mg) (C : Addr) : Prop where
  own : OwnE K C
  oth : PySem.W.kitAny K (.ref C) [.ref A.c_InvalidBox, .ref A.c_InvalidCount, .ref A.c_InvalidKey, .ref A.c_InvalidName, .ref A.c_InvalidPlace, .ref A.c_InvalidPoint, .ref A.c_InvalidText] = some false
  one : ∃ b1 b2 b3, PySem.W.kitOne K (.ref C) (.ref A.c_InvalidBits) = some b1 ∧ PySem.W.kitOne K (.ref C) (.ref A.c_InvalidRange) = some b2 ∧ PySem.W.kitOne K (.ref C) (.ref A.c_InvalidValue) = some b3 ∧
    ([PyData.bool b1, .bool b2, .bool b3].countP fun z => PyData.eqv z (.bool true)) = 1
  ve : PySem.W.kitOne K (.ref C) (.type "ValueError") = some true
  ce : PySem.W.kitOne K (.ref C) (.ref A.c_CoverError) = some true
theorem any_no {t c : Value} {cs : List Value} (h : PySem.W.kitOne K t c = some false) (r : PySem.W.kitAny K t cs = some false) : PySem.W.kitAny K t (c :: cs) = some false := kitAny_cons h (fun _ => r) (fun z => nomatch z)
theorem kin_bits : Kin A A.c_InvalidBits := ⟨A.e_InvalidBits, any_no A.k_InvalidBits_InvalidBox (any_no A.k_InvalidBits_InvalidCount (any_no A.k_InvalidBits_InvalidKey (any_no A.k_InvalidBits_InvalidName (any_no A.k_InvalidBits_InvalidPlace (any_no A.k_InvalidBits_InvalidPoint (any_no A.k_InvalidBits_InvalidText kitAny_nil)))))),
  ⟨_, _, _, A.k_InvalidBits_InvalidBits, A.k_InvalidBits_InvalidRange, A.k_InvalidBits_InvalidValue, by decide +kernel⟩, A.k_InvalidBits_ValueError, A.k_InvalidBits_CoverError⟩
theorem kin_range : Kin A A.c_InvalidRange := ⟨A.e_InvalidRange, any_no A.k_InvalidRange_InvalidBox (any_no A.k_InvalidRange_InvalidCount (any_no A.k_InvalidRange_InvalidKey (any_no A.k_InvalidRange_InvalidName (any_no A.k_InvalidRange_InvalidPlace (any_no A.k_InvalidRange_InvalidPoint (any_no A.k_InvalidRange_InvalidText kitAny_nil)))))),
  ⟨_, _, _, A.k_InvalidRange_InvalidBits, A.k_InvalidRange_InvalidRange, A.k_InvalidRange_InvalidValue, by decide +kernel⟩, A.k_InvalidRange_ValueError, A.k_InvalidRange_CoverError⟩
theorem kin_value : Kin A A.c_InvalidValue := ⟨A.e_InvalidValue, any_no A.k_InvalidValue_InvalidBox (any_no A.k_InvalidValue_InvalidCount (any_no A.k_InvalidValue_InvalidKey (any_no A.k_InvalidValue_InvalidName (any_no A.k_InvalidValue_InvalidPlace (any_no A.k_InvalidValue_InvalidPoint (any_no A.k_InvalidValue_InvalidText kitAny_nil)))))),
  ⟨_, _, _, A.k_InvalidValue_InvalidBits, A.k_InvalidValue_InvalidRange, A.k_InvalidValue_InvalidValue, by decide +kernel⟩, A.k_InvalidValue_ValueError, A.k_InvalidValue_CoverError⟩
def spAlone (A : All K mg) : Value → Option Addr → Hp → VK → Prop := fun cls d H Q => ∃ C dd fs, cls = .ref C ∧ d = some dd ∧ Kin A C ∧ H dd = some (.xd fs) ∧ ∀ H', Same H H' → Q (.bl true) H'
theorem isP1 {a C dd : Addr} {H : Hp} {fs : List (Str × V)} {c : V} {cv : Value} {b : Bool} {Q : VK} (e : H dd = some (.xd fs)) (k : ClsV c cv) (o : PySem.W.kitOne K (.ref C) cv = some b) (q : Q (.bl b) H) : rIsP K a C dd [.ref a, c] H Q :=
  ⟨fs, e, .inl ⟨c, cv, b, rfl, k, o, q⟩⟩
include A in
theorem ok__law_alone : FnE P w K mg base 1 A.f__law_alone A.fd__law_alone "_law_e" (spAlone A) := by
  refine funE A.F__law_alone sc__law_alone (fun cdv Ar outer s H Q p cls d hot hr z fl h => ?_)
  obtain ⟨C, dd, fs, rfl, rfl, OO, ed, q⟩ := h
  refine ⟨_, (pss_cons (ps_set (i := 1) sc__law_alone.nd rfl (by first | exact Or.inl rfl | exact Or.inr rfl) (pe_callB (call_isP OO.own List.mem_cons_self z fl) (by rfl) A.n_isinstance (by decide +kernel) (pa_cons (pv 0) (pa_cons (pe_tup (pa_cons (pe_glob (v := .ref A.c_InvalidBox) (by rfl) A.gc_InvalidBox rfl) (pa_cons (pe_glob (v := .ref A.c_InvalidCount) (by rfl) A.gc_InvalidCount rfl) (pa_cons (pe_glob (v := .ref A.c_InvalidKey) (by rfl) A.gc_InvalidKey rfl) (pa_cons (pe_glob (v := .ref A.c_InvalidName) (by rfl) A.gc_InvalidName rfl) (pa_cons (pe_glob (v := .ref A.c_InvalidPlace) (by rfl) A.gc_InvalidPlace rfl) (pa_cons (pe_glob (v := .ref A.c_InvalidPoint) (by rfl) A.gc_InvalidPoint rfl) (pa_cons (pe_glob (v := .ref A.c_InvalidText) (by rfl) A.gc_InvalidText rfl) pa_nil)))))))) pa_nil)))) (pss_cons (ps_set (i := 2) sc__law_alone.nd rfl (by first | exact Or.inl rfl | exact Or.inr rfl) (pe_lst (pa_cons (pe_callB (call_isP OO.own List.mem_cons_self z fl) (by rfl) A.n_isinstance (by decide +kernel) (pa_cons (pv 0) (pa_cons (pe_glob (v := .ref A.c_InvalidBits) (by rfl) A.gc_InvalidBits rfl) pa_nil))) (pa_cons (pe_callB (call_isP OO.own List.mem_cons_self z fl) (by rfl) A.n_isinstance (by decide +kernel) (pa_cons (pv 0) (pa_cons (pe_glob (v := .ref A.c_InvalidRange) (by rfl) A.gc_InvalidRange rfl) pa_nil))) (pa_cons (pe_callB (call_isP OO.own List.mem_cons_self z fl) (by rfl) A.n_isinstance (by decide +kernel) (pa_cons (pv 0) (pa_cons (pe_glob (v := .ref A.c_InvalidValue) (by rfl) A.gc_InvalidValue rfl) pa_nil))) pa_nil))))) (pss_one (ps_ret (pe_and (pe_cmpR op_eq (pe_bm PySem.F.plainAttrs_list PySem.F.slot_list_count PySem.F.type_list_count (mt_countD (uH hr)) (pv 2) (pa_cons pe_bl pa_nil)) pe_int (nomark _)) (pe_and (pe_not (pv 1)) (pe_and (pe_callB (call_isP OO.own List.mem_cons_self z fl) (by rfl) A.n_isinstance (by decide +kernel) (pa_cons (pv 0) (pa_cons (pe_bltn (v := .ty "ValueError") (u := .type "ValueError") (by rfl) A.n_ValueError (by decide +kernel) rfl) pa_nil))) (pe_one (pe_callB (call_isP OO.own List.mem_cons_self z fl) (by rfl) A.n_isinstance (by decide +kernel) (pa_cons (pv 0) (pa_cons (pe_glob (v := .ref A.c_CoverError) (by rfl) A.gc_CoverError rfl) pa_nil))))))))))), ?_⟩
  walk_at "wp"
  refine ⟨sm20 (by show 7 ≤ 100; decide), fun p1 n1 => ?_⟩
  have e1 := (upd_ne (H := H) (o := HO.tup [V.ref A.c_InvalidBox, V.ref A.c_InvalidCount, V.ref A.c_InvalidKey, V.ref A.c_InvalidName, V.ref A.c_InvalidPlace, V.ref A.c_InvalidPoint, V.ref A.c_InvalidText]) (ne_of_none ed n1)).trans ed
  have s1 := Cv.Same.new (o := HO.tup [V.ref A.c_InvalidBox, V.ref A.c_InvalidCount, V.ref A.c_InvalidKey, V.ref A.c_InvalidName, V.ref A.c_InvalidPlace, V.ref A.c_InvalidPoint, V.ref A.c_InvalidText]) n1
  obtain ⟨b1, b2, b3, k1, k2, k3, one⟩ := OO.one
  refine ⟨fs, e1, .inr ⟨p1, _, _, _, rfl, upd_same, .cons (.own _) (.cons (.own _) (.cons (.own _) (.cons (.own _) (.cons (.own _) (.cons (.own _) (.cons (.own _) .nil)))))), OO.oth, ?_⟩⟩
  generalize upd H p1 _ = H1 at *
  refine isP1 e1 (.own _) k1 (isP1 e1 (.own _) k2 (isP1 e1 (.own _) k3 ⟨sm20 (by show 3 ≤ 100; decide), fun p2 n2 => ⟨.inl ⟨rfl, _, .inl (.inl upd_same)⟩, ?_⟩⟩))
  have e2 := (upd_ne (H := H1) (o := HO.lst [V.bl b1, V.bl b2, V.bl b3]) (ne_of_none e1 n2)).trans e1
  have s2 := Cv.Same.new (o := HO.lst [V.bl b1, V.bl b2, V.bl b3]) n2
  refine ⟨p2, _, _, _, _, rfl, rfl, .inl (.inl upd_same), .cons (.bl _) (.cons (.bl _) (.cons (.bl _) .nil)), .bl _, by simp [PyData.plainAll, PyData.plain], by simp [PyData.plain], by simp [PyData.depthAll, PyData.depth], ?_⟩
  rw [one]
  generalize upd H1 p2 _ = H2 at *
  rw [rEq_int]
  refine ⟨_, rfl, ?_⟩
  rw [decide_eq_true (show ((1 : Nat) : Int) = 1 by rfl), if_pos rfl]
  refine ⟨_, rfl, ?_⟩
  rw [if_pos (by rfl)]
  refine isP1 e2 (.ty _) OO.ve ⟨_, rfl, ?_⟩
  rw [if_pos rfl]
  exact isP1 e2 (.own _) OO.ce (q _ (Same.trans s1 s2))
/-- the binary digits of i, n of them -/
def dig : Nat → Int → List Nat
  | 0, _ => []
  | n + 1, i => dig n (i / 2) ++ [48 + (i % 2).toNat]
def digS (n : Nat) (i : Int) : Str := ⟨(dig n i).toArray⟩
theorem dig_len : ∀ (n : Nat) (i : Int), (dig n i).length = n
  | 0, _ => rfl
  | n + 1, i => by rw [dig, List.length_append, dig_len n]; rfl
theorem dig_cons : ∀ (n : Nat) (i : Int), dig (n + 1) i = (48 + ((i / 2 ^ n) % 2).toNat) :: dig n i
  | 0, i => by simp [dig]
  | n + 1, i => by
    rw [dig, dig_cons n (i / 2), dig, List.cons_append]
    have e : i / 2 / 2 ^ n = i / 2 ^ (n + 1) := by
      first
      | rw [Int.ediv_ediv_of_nonneg (by decide), Int.pow_succ, Int.mul_comm]
      | rw [Int.ediv_ediv_eq_ediv_mul _ (by decide), Int.pow_succ, Int.mul_comm]
      | rw [← Int.ediv_mul (by decide), Int.pow_succ, Int.mul_comm]
      | (rw [Int.ediv_ediv, if_neg (by omega), Int.sub_zero, Int.pow_succ, Int.mul_comm])
    rw [e]
theorem dig_mem : ∀ (n : Nat) (i : Int) (c : Nat), c ∈ dig n i → c = 48 ∨ c = 49
  | 0, _, c, h => by simp [dig] at h
  | n + 1, i, c, h => by
    rw [dig, List.mem_append] at h
    rcases h with h | h
    · exact dig_mem n _ c h
    · have e : c = 48 + (i % 2).toNat := by simpa using h
      omega
def spDig : Sp := fun vs H Q _ => ∃ x y, vs = [x, y] ∧ ∃ i n : Int, x = .int i ∧ y = .int n ∧ 0 ≤ n ∧ n ≤ 1000 ∧ 0 ≤ i ∧ i < 2 ^ 60 ∧ Q (.str (digS n.toNat i)) H
include A in
theorem ok__law_digits : FnOk P w K mg base CX0 1 A.f__law_digits A.fd__law_digits ["_law_number", "_law_many"] spDig := by
  refine A.F__law_digits.ok sc__law_digits (fun vs H Q E h => ?_) (fun cdv Ar outer s H vs Q E hr h => ?_)
  · obtain ⟨_, _, rfl, _⟩ := h
    rfl
  obtain ⟨x, y, rfl, h⟩ := h
  refine ⟨_, (pss_cons (ps_par (i := 2) (j := 3) rfl sc__law_digits.nd rfl rfl (by decide) rfl rfl (pa_cons pe_str (pa_cons (pv 0) pa_nil)) (by rfl)) (pss_cons (ps_for PassesOwn.never rfl (pi_range1 (by rfl) A.n_range (pa_cons (pv 1) pa_nil)) (pg_name (i := 4) sc__law_digits.nd rfl (by first | exact Or.inl rfl | exact Or.inr rfl)) (pss_cons (ps_set (i := 2) sc__law_digits.nd rfl (by first | exact Or.inl rfl | exact Or.inr rfl) (pe_op op_addU (pe_ix ix_u pe_str (pe_op op_mod (pe_callTy call_intI (by rfl) A.n_int (by decide +kernel) (pa_cons (pv 3) pa_nil)) pe_int) (fun _ _ => rfl)) (pv 2))) (pss_one (ps_set (i := 3) sc__law_digits.nd rfl (by first | exact Or.inl rfl | exact Or.inr rfl) (pe_op op_fdiv (pv 3) pe_int))))) (pss_one (ps_ret (pv 2))))), ?_⟩
  walk_at "wp"
  obtain ⟨i, n, rfl, rfl, n0, n1, i0, i1, q⟩ := h
  refine ⟨_, _, ⟨rfl, rfl⟩, ?_⟩
  refine forR n (fun R h => ⟨_, rfl, h⟩) (by omega) (by omega) (fun t σ' H' => (∃ y, σ' = [some (.int i), some (.int n), some (.str (digS t i)), some (.int (i / 2 ^ t)), y]) ∧ H' = H) ?_ ?_ ?_
  · exact ⟨⟨none, by rw [show i / 2 ^ 0 = i by simp]; rfl⟩, rfl⟩
  · rintro t _ _ ht ⟨⟨y, rfl⟩, rfl⟩
    walk_at "wp"
    have b01 : i / 2 ^ t % 2 = 0 ∨ i / 2 ^ t % 2 = 1 := by omega
    refine ⟨by decide, by decide +kernel, 48 + (i / 2 ^ t % 2).toNat, ?_, ?_, by unfold CDiv; omega, ?_, ?_, _, rfl⟩
    · rcases b01 with e | e <;> rw [e] <;> decide +kernel
    · rw [show (digS t i).length = t by show (dig t i).toArray.size = t; rw [List.size_toArray, dig_len], sizeLine_eq]
      show 1 + t ≤ _
      omega
    · unfold digS
      rw [dig_cons]
      show (⟨#[48 + (i / 2 ^ t % 2).toNat] ++ (dig t i).toArray⟩ : Str) = _
      congr 1
      simp
    · rw [Int.pow_succ]
      first
      | rw [Int.ediv_ediv_of_nonneg (by decide)]
      | rw [Int.ediv_ediv_eq_ediv_mul _ (by decide)]
      | rw [← Int.ediv_mul (by decide)]
      | (rw [Int.ediv_ediv, if_neg (by have : (0 : Int) < 2 ^ t := Int.pow_pos (by decide)
                                       omega), Int.sub_zero])
  · rintro _ _ ⟨⟨y, rfl⟩, rfl⟩
    exact ⟨_, rfl, q⟩
def num (l : List Nat) : Int := l.foldl (fun a c => 2 * a + ((c - 48 : Nat) : Int)) 0
theorem num_snoc (l : List Nat) (c : Nat) : num (l ++ [c]) = 2 * num l + ((c - 48 : Nat) : Int) := by
  unfold num
  rw [List.foldl_append]
  rfl
theorem fold_bound : ∀ (l : List Nat), (∀ c ∈ l, isDig c = true) → ∀ a : Int, 0 ≤ a → 0 ≤ l.foldl (fun a c => 2 * a + ((c - 48 : Nat) : Int)) a ∧ l.foldl (fun a c => 2 * a + ((c - 48 : Nat) : Int)) a + 1 ≤ (a + 1) * 2 ^ l.length
  | [], _, a, h => ⟨h, by simp⟩
  | c :: l, hl, a, h => by
    have hc : c = 48 ∨ c = 49 := of_decide_eq_true (hl c (by simp))
    obtain ⟨h1, h2⟩ := fold_bound l (fun x hx => hl x (List.mem_cons_of_mem _ hx)) (2 * a + ((c - 48 : Nat) : Int)) (by omega)
    refine ⟨h1, Int.le_trans h2 ?_⟩
    rw [List.length_cons, Int.pow_succ, Int.mul_comm (2 ^ l.length) 2, ← Int.mul_assoc]
    refine Int.mul_le_mul_of_nonneg_right (by omega) (Int.le_of_lt (Int.pow_pos (by decide)))
theorem num_bound (l : List Nat) (h : ∀ c ∈ l, isDig c = true) : 0 ≤ num l ∧ num l < 2 ^ l.length := by
  obtain ⟨h1, h2⟩ := fold_bound l h 0 (by decide)
  refine ⟨h1, ?_⟩
  unfold num
  omega
theorem dig_int {c : Nat} (h : isDig c = true) : intText? (⟨#[c]⟩ : Str) = some ((c - 48 : Nat) : Int) := by
  rcases (show c = 48 ∨ c = 49 from of_decide_eq_true h) with rfl | rfl <;> decide +kernel
theorem take_at {z : Str} {i c : Nat} (h : z.cps[i]? = some c) : z.cps.toList.take (i + 1) = z.cps.toList.take i ++ [c] := by
  rw [← Array.getElem?_toList] at h
  rw [List.take_add_one, h]
  rfl
theorem mem_at {z : Str} {i c : Nat} (h : z.cps[i]? = some c) : c ∈ z.cps.toList := by
  rw [← Array.getElem?_toList] at h
  exact List.mem_of_getElem? h
theorem take_all {z : Str} : z.cps.toList.take z.cps.size = z.cps.toList := by rw [← Array.length_toList, List.take_length]
def spEnds : Sp := fun vs H Q _ => ∃ x y, vs = [x, y] ∧ ∃ (z : Str) (n : Int), x = .str z ∧ y = .int n ∧ n ≤ 10 ∧ z.length ≤ n ∧ (∀ c ∈ z.cps.toList, isDig c = true) ∧
  ∀ p, H p = none → Q (.ref p) (upd H p (.tup [.int (num z.cps.toList * 2 ^ (n.toNat - z.length)), .int (num z.cps.toList * 2 ^ (n.toNat - z.length) + 2 ^ (n.toNat - z.length) - 1)]))
theorem one_eq {c : Nat} (h : isDig c = true) : (if decide ((⟨#[c]⟩ : Str) = Str.ofString "1") = true then (1 : Int) else 0) = ((c - 48 : Nat) : Int) := by
  rw [s1_eq]
  rcases (show c = 48 ∨ c = 49 from of_decide_eq_true h) with rfl | rfl <;> decide
include A in
theorem ok__law_ends : FnOk P w K mg base CX0 2 A.f__law_ends A.fd__law_ends ["_law_prefix", "_law_many"] spEnds := by
  have G__law_power := ok__law_power (P := P) (w := w) (base := base) A
  refine A.F__law_ends.ok sc__law_ends (fun vs H Q E h => ?_) (fun cdv Ar outer s H vs Q E hr h => ?_)
  · obtain ⟨_, _, rfl, _⟩ := h
    rfl
  obtain ⟨x, y, rfl, h⟩ := h
  refine ⟨_, (pss_cons (ps_set (i := 2) sc__law_ends.nd rfl (by first | exact Or.inl rfl | exact Or.inr rfl) pe_int) (pss_cons (ps_for PassesOwn.never rfl (pi_str (pv 0)) (pg_name (i := 3) sc__law_ends.nd rfl (by first | exact Or.inl rfl | exact Or.inr rfl)) (pss_one (ps_set (i := 2) sc__law_ends.nd rfl (by first | exact Or.inl rfl | exact Or.inr rfl) (pe_op op_addU (pe_op op_mul pe_int (pv 2)) (pe_callTy call_intB (by rfl) A.n_int (by decide +kernel) (pa_cons (pe_cmpR op_eq (pv 3) pe_str (nomark _)) pa_nil)))))) (pss_cons (ps_set (i := 4) sc__law_ends.nd rfl (by first | exact Or.inl rfl | exact Or.inr rfl) (pe_call G__law_power (hr.mono (by first | decide | omega)) (by rfl) A.g__law_power A.F__law_power.kp A.b__law_power .nil pass0 (pa_cons (pe_op op_sub (pv 1) (pe_callB call_lenU (by rfl) A.n_len (by decide +kernel) (pa_cons (pv 0) pa_nil))) pa_nil))) (pss_one (ps_ret (pe_tup (pa_cons (pe_op op_mul (pv 2) (pv 4)) (pa_cons (pe_op op_sub (pe_op op_addU (pe_op op_mul (pv 2) (pv 4)) (pv 4)) pe_int) pa_nil)))))))), ?_⟩
  walk_at "wp"
  obtain ⟨z, n, rfl, rfl, n1, zl, hz, q⟩ := h
  refine forS z (fun R h => ⟨_, rfl, h⟩) (fun i σ' H' => (∃ y1, σ' = [some (.str z), some (.int n), some (.int (num (z.cps.toList.take i))), y1, none]) ∧ H' = H) ⟨⟨_, rfl⟩, rfl⟩ ?_ ?_
  · rintro i c _ _ hc ⟨⟨y, rfl⟩, rfl⟩
    walk_at "wp"
    refine ⟨.inl ⟨by decide, by decide⟩, ?_⟩
    rw [show chV c = V.str ⟨#[c]⟩ from rfl, rEq_str]
    refine ⟨_, rfl, ⟨?_, _, rfl⟩, rfl⟩
    rw [one_eq (hz c (mem_at hc)), take_at hc, num_snoc]
  · rintro _ _ ⟨⟨y, rfl⟩, rfl⟩
    rw [take_all]
    walk_at "wp"
    obtain ⟨b0, b1⟩ := num_bound z.cps.toList hz
    have b2 := two_pow_le 10 z.cps.toList.length (by rw [Array.length_toList]; have : (z.cps.size : Int) ≤ n := zl; omega)
    have b3 : (2 : Int) ^ 10 = 1024 := by decide
    have en : (n - (z.length : Int)).toNat = n.toNat - z.length := by omega
    refine ⟨(by rw [sizeLine_eq]; omega), _, rfl, _, rfl, by omega, by omega, ?_⟩
    rw [en]
    refine ⟨_, rfl, .inl ⟨by omega, by omega⟩, _, rfl, .inl ⟨by omega, by omega⟩, ?_⟩
    rw [rAdd_int]
    exact ⟨_, rfl, sm20 (by show 2 ≤ 100; decide), q⟩
theorem isRng_str {v b : V} (h : isRng v b = true) : ∃ z, v = .str z := by
  cases v <;> cases b <;> first | exact ⟨_, rfl⟩ | (exfalso; simp [isRng, isBits] at h; done)
theorem none_of_same {H G : Hp} {p : Addr} (s : Same H G) (n : G p = none) : H p = none := by
  cases e : H p with
  | none => rfl
  | some o =>
    rw [s p o e] at n
    cases n
theorem wei {W : WX} {σ : L2.St} {cls : Value} {d : Option Addr} {H : Hp} (h : W cls d σ H) : WE W σ cls d H := h
theorem digS_len (n : Nat) (i : Int) : (digS n i).length = n := by
  show (dig n i).toArray.size = n
  rw [List.size_toArray, dig_len]
theorem digS_dig (n : Nat) (i : Int) : ∀ c ∈ (digS n i).cps.toList, isDig c = true := fun c hc => decide_eq_true (dig_mem n i c (by simpa [digS] using hc))
theorem strOk_dig {z : Str} (h : ∀ c ∈ z.cps.toList, isDig c = true) : PyData.strOk z = true := by
  unfold PyData.strOk
  rw [← Array.all_toList, List.all_eq_true]
  intro c hc
  rcases (show c = 48 ∨ c = 49 from of_decide_eq_true (h c hc)) with rfl | rfl <;> decide
theorem nice_told {n : Nat} {i : Int} (h : n ≤ 1000) : nice (.list [.str (digS n i), .str (digS n i)]) = true :=
  nice_of (ni_list (ni_cons (ni_str (m := 1000) (by rw [digS_len]; exact h) (strOk_dig (digS_dig n i))) (ni_cons (ni_str (m := 1000) (by rw [digS_len]; exact h) (strOk_dig (digS_dig n i))) ni_nil))) (by decide) (by decide)
theorem ends_small {z : Str} {n : Int} (h : n ≤ 10) (hz : ∀ c ∈ z.cps.toList, isDig c = true) (hl : z.length ≤ n) :
    0 ≤ num z.cps.toList * 2 ^ (n.toNat - z.length) ∧ num z.cps.toList * 2 ^ (n.toNat - z.length) ≤ 1024 * 1024 ∧ 1 ≤ (2 : Int) ^ (n.toNat - z.length) ∧ (2 : Int) ^ (n.toNat - z.length) ≤ 1024 := by
  obtain ⟨b0, b1⟩ := num_bound z.cps.toList hz
  have b2 := two_pow_le 10 z.cps.toList.length (by rw [Array.length_toList]; have : (z.cps.size : Int) ≤ n := hl; omega)
  have b3 : (2 : Int) ^ 10 = 1024 := by decide
  have b4 := two_pow_le 10 (n.toNat - z.length) (by omega)
  have b5 := two_pow_le (n.toNat - z.length) 0 (by omega)
  have b6 : (2 : Int) ^ 0 = 1 := by decide
  refine ⟨Int.mul_nonneg b0 (by omega), Int.mul_le_mul (by omega) (by omega) (by omega) (by decide), by omega, by omega⟩
theorem bits_ok {n : Int} (h1 : 1 ≤ n) (h2 : n ≤ 10) : isBits (.int n) = true := decide_eq_true ⟨h1, h2⟩
theorem val_ok {i n : Int} (h1 : 1 ≤ n) (h2 : n ≤ 10) (h3 : 0 ≤ i) (h4 : i < 2 ^ n.toNat) : isVal (.int i) (.int n) = true := by
  show (decide (1 ≤ n ∧ n ≤ 10) && decide (0 ≤ i ∧ i < 2 ^ n.toNat)) = true
  rw [decide_eq_true ⟨h1, h2⟩, decide_eq_true ⟨h3, h4⟩]
  rfl
theorem rng_ok {z : Str} {n : Int} (h1 : 1 ≤ n) (h2 : n ≤ 10) (hl : z.length ≤ n) (hz : ∀ c ∈ z.cps.toList, isDig c = true) : isRng (.str z) (.int n) = true := by
  rw [isRng_si, bits_ok h1 h2, decide_eq_true hl, List.all_eq_true.mpr hz]
  rfl
theorem cut_dig {z : Str} {lo hi : Option Int} (h : ∀ c ∈ z.cps.toList, isDig c = true) : ∀ c ∈ (cutS z lo hi).cps.toList, isDig c = true := fun c hc => by
  have hc2 : c ∈ (z.cps.toList.drop (HT.sIx z.length 0 lo)).take (HT.sIx z.length z.length hi - HT.sIx z.length 0 lo) := by simpa [cutS] using hc
  exact h c (List.mem_of_mem_drop (List.mem_of_mem_take hc2))
theorem num_dig : ∀ (n : Nat) (i : Int), 0 ≤ i → i < 2 ^ n → num (dig n i) = i
  | 0, i, h0, h1 => by
    have h1 : i < 1 := by simpa using h1
    have e : i = 0 := by omega
    rw [e]
    rfl
  | n + 1, i, h0, h1 => by
    rw [Int.pow_succ] at h1
    rw [dig, num_snoc, num_dig n (i / 2) (by omega) (by omega)]
    omega
/-- two flat lists, tuples of the same data: != says no -/
theorem ne_same {K : PySem.W.Frag} {H : Hp} {x y : V} {d : PyData} {Q : VK} (h1 : Dp K H x d) (h2 : Dp K H y d) (n : SeqAt.shaped d = true) (q : Q (.bl false) H) : rNeD K x y H Q :=
  ⟨d, d, h1, h2, n, n, by rw [eqv_refl d (SeqAt.canLay_of_shaped n)]; exact q⟩
def OdE (H : Hp) (r : Addr) (v : V) : Prop := ∃ z, Od H r v z
theorem OdE.keep {H H' : Hp} {r : Addr} {v : V} (o : OdE H r v) (k : KeepX r H H') : OdE H' r v := o.imp fun _ h => h.keep k
theorem ode_int {H : Hp} {r : Addr} {i : Int} (h : i.natAbs < 2 ^ 39) : OdE H r (.int i) := ⟨_, .flat (fun _ _ => .int i) (nice_of (ni_int h) (by decide) (by decide))⟩
theorem ode_str {H : Hp} {r : Addr} {z : Str} (h : z.length ≤ 1000) (ok : PyData.strOk z = true) : OdE H r (.str z) := ⟨_, .flat (fun _ _ => .str z) (nice_of (ni_str (m := 1000) h ok) (by decide) (by decide))⟩
theorem ode_big {H : Hp} {r : Addr} : OdE H r (.int (10 ^ Int.toNat 29)) := ⟨_, .flat (fun _ _ => .int _) (by decide +kernel)⟩
theorem app_len (a b : Str) : (a ++ b).length = a.length + b.length := by
  show (a.cps ++ b.cps).size = _
  rw [Array.size_append]
  rfl
theorem flat_shaped {s z : Str} {c : Bool} (h1 : PyData.strOk s = true) (h2 : PyData.strOk z = true) : SeqAt.shaped (.list [.str s, .str z, .bool c]) = true := by
  unfold SeqAt.shaped
  simp [PyData.canLay0, PyData.canLayAll0, PyData.depth, PyData.depthAll, h1, h2]
theorem flat_shaped2 {s z : Str} (h1 : PyData.strOk s = true) (h2 : PyData.strOk z = true) : SeqAt.shaped (.list [.str s, .str z]) = true := by
  unfold SeqAt.shaped
  simp [PyData.canLay0, PyData.canLayAll0, PyData.depth, PyData.depthAll, h1, h2]
theorem dig_range : ∀ (n : Nat) (i : Int), (List.range n).map (fun k => 48 + (i / 2 ^ (n - 1 - k) % 2).toNat) = dig n i
  | 0, _ => rfl
  | n + 1, i => by
    rw [dig_cons, ← dig_range n i, List.range_succ_eq_map, List.map_cons, List.map_map]
    congr 1
    refine List.map_congr_left fun k hk => ?_
    show 48 + (i / 2 ^ (n + 1 - 1 - (k + 1)) % 2).toNat = _
    rw [show n + 1 - 1 - (k + 1) = n - 1 - k by omega]
theorem bit_str {x : Int} (h : x = 0 ∨ x = 1) : Str.ofString (toString x) = (⟨#[48 + x.toNat]⟩ : Str) := by
  rcases h with rfl | rfl <;> decide +kernel
theorem join_dig (cs : List Nat) : Txt.join (Str.ofString "") (cs.map chS) = (⟨cs.toArray⟩ : Str) := by
  have e := join_ch cs
  generalize Txt.join (Str.ofString "") (cs.map chS) = z at e
  obtain ⟨a⟩ := z
  exact congrArg Str.mk e
def spRangeOf0 (cB cV : Addr) : Sp := fun vs H Q E => ∃ v b, vs = [v, b] ∧ NoDT H ∧ Plain H v ∧ Plain H b ∧ (isBits b = false → Err cB b H E) ∧ (isBits b = true → isVal v b = false → Err cV v H E) ∧
  ∀ (i n : Int), v = .int i → b = .int n → 1 ≤ n → n ≤ 10 → 0 ≤ i → i < 2 ^ n.toNat → ∀ H', Same H H' → Q (.str (digS n.toNat i)) H'
include A in
theorem ok_range_of : FnOk P w K mg base (L2N.CX P w) 5 A.f_range_of A.fd_range_of ["value", "bits"] (spRangeOf0 A.c_InvalidBits A.c_InvalidValue) := by
  have G_require_bits := ok_require_bits (P := P) (w := w) (base := base) A
  have G_require_value := ok_require_value (P := P) (w := w) (base := base) A
  refine okN A.F_range_of sc_range_of (fun vs H Q E h => ?_) (fun cdv Ar outer s H vs Q E hr h tk hpo => ?_)
  · obtain ⟨_, _, rfl, _⟩ := h
    rfl
  obtain ⟨v, b, rfl, h⟩ := h
  refine ⟨_, (pss_cons (ps_expr (pe_callS G_require_bits (hr.mono (by first | decide | omega)) (by rfl) A.g_require_bits A.F_require_bits.kp A.b_require_bits (fun σ => L2N.passAt tk σ) (pa_cons (pv 1) pa_nil))) (pss_cons (ps_expr (pe_callS G_require_value (hr.mono (by first | decide | omega)) (by rfl) A.g_require_value A.F_require_value.kp A.b_require_value (fun σ => L2N.passAt tk σ) (pa_cons (pv 0) (pa_cons (pv 1) pa_nil)))) (pss_one (ps_ret (pe_join pe_str (pe_lc (own := [("place", 2)]) (g := gName 2) (tt := tYes) rfl sc_range_of.nd (pi_range3 (by rfl) A.n_range (pa_cons (pe_op op_sub (pv 1) pe_int) (pa_cons (pe_un un_neg pe_int) (pa_cons (pe_un un_neg pe_int) pa_nil)))) (blkOk_by (N := N_range_of) (sc := defScope s_range_of) (by decide +kernel)) (fun _ _ _ _ _ => pg_name (i := 2) sc_range_of.nd rfl (Or.inl rfl)) (fun _ _ _ _ _ => pts_nil) (fun _ _ _ _ _ => (pe_callTy call_str_int (by rfl) A.n_str (by decide +kernel) (pa_cons (pe_op op_and (pe_op op_shr (pv 0) (pv 2)) pe_int) pa_nil))))))))), ?_⟩
  walk_at "wp"
  obtain ⟨nd, p, pb, eb, ev, q⟩ := h
  refine ⟨b, rfl, pb, fun hb => ⟨v, b, rfl, p, pb, fun hv => ?_, fun hv => ev hb hv⟩, fun hb => eb hb⟩
  obtain ⟨n, rfl, h1, h2⟩ := isBits_int hb
  obtain ⟨i, rfl, i0, i1⟩ : ∃ i : Int, v = .int i ∧ 0 ≤ i ∧ i < 2 ^ n.toNat := by
    cases v with
    | int i =>
      have hv2 : (decide (1 ≤ n ∧ n ≤ 10) && decide (0 ≤ i ∧ i < 2 ^ n.toNat)) = true := hv
      exact ⟨i, rfl, (of_decide_eq_true (Bool.and_eq_true_iff.mp hv2).2)⟩
    | _ => cases hv
  have ti := two_pow_le 10 n.toNat (by omega)
  have t10 : (2 : Int) ^ 10 = 1024 := by decide
  have bit : ∀ x : Int, (x % 2 = 0 ∨ x % 2 = 1) ∧ Builtin.bitAnd x 1 = x % 2 := fun x => ⟨by omega, PySem.W.kbt_mask x 1⟩
  refine ⟨⟨_, rfl⟩, lcC (n := n.toNat) (lo := n - 1) (hi := -1) (c := -1) (fun R h => by walk_at "wp"; exact h) ?_ (by rw [sizeLine_eq]; omega) (fun p => chV (48 + (i / 2 ^ p.toNat % 2).toNat)) (fun _ => rfl) (fun k hk H' R _ hR => ?_) fun D hD => ?_⟩
  · have e := RgC.neg (i := n - 1) (j := -1) (by omega) (by omega) (by omega) (by omega)
    rw [show n - 1 - -1 = n by omega] at e
    exact e
  · show tCB _ _ [some (.int i), some (.int n), some (.int (n - 1 + (k : Int) * -1))] H' R
    walk_at "wp"
    obtain ⟨e1, e2⟩ := bit (i / 2 ^ (n - 1 + (k : Int) * -1).toNat)
    refine ⟨by omega, ?_, ?_⟩
    · rw [e2]
      rcases e1 with e | e <;> rw [e] <;> decide +kernel
    · rw [e2, bit_str e1]
      exact hR
  · have el : (List.range n.toNat).map (fun k : Nat => chV (48 + (i / 2 ^ (n - 1 + (k : Int) * -1).toNat % 2).toNat)) = ((dig n.toNat i).map chS).map V.str := by
      rw [ch_V, ← dig_range, List.map_map]
      refine List.map_congr_left fun k hk => ?_
      have := List.mem_range.mp hk
      show chV _ = chV _
      rw [show (n - 1 + (k : Int) * -1).toNat = n.toNat - 1 - k by omega]
    refine ⟨_, rfl, D, rfl, (dig n.toNat i).map chS, .inl (.inl (.inl (by rw [upd_same, el]))), ?_, ?_⟩
    · rw [ch_sum, List.length_map, show (Str.ofString "").length = 0 from rfl, dig_len]
      omega
    · rw [join_dig]
      exact q i n rfl rfl h1 h2 i0 i1 _ (Cv.Same.new hD)
def spRangeOf (cB cV : Addr) : Sp := fun vs H Q E => ∃ v b, vs = [v, b] ∧ NoDT H ∧ Plain H v ∧ Plain H b ∧ (isBits b = false → Err cB b H E) ∧ (isBits b = true → isVal v b = false → Err cV v H E) ∧
  ∀ (i n : Int), v = .int i → b = .int n → 1 ≤ n → n ≤ 10 → 0 ≤ i → i < 2 ^ n.toNat → Q (.str (digS n.toNat i)) H
include A in
theorem ok_rangeOfD : FnOk P w K mg base (L2N.CX P w) 5 A.f_range_of A.fd_range_of ["value", "bits"] (spRangeOf A.c_InvalidBits A.c_InvalidValue) :=
  fnDrop (ok_range_of A) fun vs H Q E ⟨v, b, e, nd, p, pb, eb, ev, q⟩ => ⟨v, b, e, nd, p, pb, eb, ev, fun i n e1 e2 a1 a2 a3 a4 H' s => ⟨H, drop_same nd s, q i n e1 e2 a1 a2 a3 a4⟩⟩
def spBounds (cB cR : Addr) : Sp := fun vs H Q E => ∃ v b, vs = [v, b] ∧ NoDT H ∧ Plain H v ∧ Sm v ∧ Plain H b ∧ (isBits b = false → Err cB b H E) ∧ (isBits b = true → isRng v b = false → Err cR v H E) ∧
  ∀ (z : Str) (n : Int), v = .str z → b = .int n → 1 ≤ n → n ≤ 10 → z.length ≤ n → (∀ c ∈ z.cps.toList, isDig c = true) →
    ∀ p, H p = none → Q (.ref p) (upd H p (.tup [.int (num z.cps.toList * 2 ^ (n.toNat - z.length)), .int (num z.cps.toList * 2 ^ (n.toNat - z.length) + 2 ^ (n.toNat - z.length) - 1)]))
end
end K15

namespace K15
open PySem PySem.Spec PyProof.Rows L2 Cv
section
variable {P : Program} {w : World} {K : PySem.W.Frag} {mg : Str → Option Value} {base : Heap} (A : All K mg)
local macro_rules | `(tactic| walk_at "wp") => `(tactic| simp only [tSeq, tAsg, tRet, tRetN, tPar, tCallS, tCallSD, WE, tXf, tVeI, tOst, wNames, tKwS, tBM, tBM0, tSl, tPart, tNoPart, rSlS, tIfS, tNext, tDrop, tOp, tUn, tVar, tC, tCons, tNil, tCB, tCall, tCallN, gP, List.filterMap_cons, List.filterMap_nil, List.nil_append, List.cons_append, List.length_cons, List.length_nil, tTest, tB, tNot, tAnd, tOr, tAndV, tOrV, tNotV, tIf, tChain, tTup, tLst, Evl.tCut, gName, gTup, gCons, gNil, gSub, rI, rI0, rU, rIs, rIntI, rIntB, tDNewK, rEq_int, rNe_int, rEq_str, rNe_str, rAdd_int, rAdd_str, rAdd_ref, rIxU_ref, rIxU_str, rLenU_ref, rLenU_str, rSetL, start_cc, start_cn, start_nn, List.set_cons_zero, List.set_cons_succ, List.map_cons, List.map_nil, List.getElem?_cons_zero, List.getElem?_cons_succ, Option.some.injEq, V.int.injEq, V.bl.injEq, V.str.injEq, V.ref.injEq, V.ty.injEq, List.cons.injEq, and_true, true_and, exists_eq_left', exists_eq_left, exists_and_left, exists_and_right, List.append_nil, ↓reduceIte])
/-- how long two lists begin alike -/
def cl : List Nat → List Nat → Nat
  | a :: as, b :: bs => if a = b then cl as bs + 1 else 0
  | _, _ => 0
theorem cl_le1 : ∀ as bs : List Nat, cl as bs ≤ as.length
  | [], _ => Nat.zero_le _
  | _ :: _, [] => Nat.zero_le _
  | a :: as, b :: bs => by
    have := cl_le1 as bs
    rw [cl, List.length_cons]
    split <;> omega
theorem cl_le2 : ∀ as bs : List Nat, cl as bs ≤ bs.length
  | [], _ => Nat.zero_le _
  | _ :: _, [] => Nat.zero_le _
  | a :: as, b :: bs => by
    have := cl_le2 as bs
    rw [cl, List.length_cons]
    split <;> omega
theorem cl_take : ∀ (k : Nat) (as bs : List Nat), k ≤ as.length → k ≤ bs.length → (as.take k = bs.take k ↔ k ≤ cl as bs)
  | 0, _, _, _, _ => by simp
  | k + 1, [], _, h, _ => absurd h (by simp)
  | k + 1, _ :: _, [], _, h => absurd h (by simp)
  | k + 1, a :: as, b :: bs, h1, h2 => by
    have ih := cl_take k as bs (by simpa using h1) (by simpa using h2)
    rw [cl, List.take_succ_cons, List.take_succ_cons, List.cons.injEq, ih]
    by_cases e : a = b
    · rw [if_pos e]
      simp [e]
    · rw [if_neg e]
      simp [e]
theorem cl_step : ∀ (k : Nat) (as bs : List Nat) {c d : Nat}, as[k]? = some c → bs[k]? = some d → k ≤ cl as bs → (c = d ↔ k + 1 ≤ cl as bs)
  | _, [], _, _, _, h, _, _ => by simp at h
  | _, _ :: _, [], _, _, _, h, _ => by simp at h
  | 0, a :: as, b :: bs, c, d, h1, h2, _ => by
    have e1 : a = c := by simpa using h1
    have e2 : b = d := by simpa using h2
    subst e1 e2
    rw [cl]
    by_cases e : a = b
    · simp [e]
    · simp [e]
  | k + 1, a :: as, b :: bs, c, d, h1, h2, h3 => by
    rw [cl] at h3 ⊢
    by_cases e : a = b
    · rw [if_pos e] at h3 ⊢
      rw [cl_step k as bs (by simpa using h1) (by simpa using h2) (by omega)]
      omega
    · rw [if_neg e] at h3
      omega
theorem cl_ne {as bs : List Nat} (h : as.length = bs.length) (n : as ≠ bs) : cl as bs < as.length := by
  have h1 := cl_le1 as bs
  have h2 := cl_take as.length as bs (Nat.le_refl _) (by omega)
  rw [List.take_length, h, List.take_length] at h2
  have : ¬ bs.length ≤ cl as bs := fun h => n (h2.mpr h)
  omega
def spCl : Sp := fun vs H Q _ => ∃ x y, vs = [x, y] ∧ ∃ a b : Str, x = .str a ∧ y = .str b ∧ a.length ≤ 100 ∧ b.length ≤ 100 ∧ Q (.int (cl a.cps.toList b.cps.toList)) H
include A in
theorem ok_common_length : FnOk P w K mg base CX0 1 A.f_common_length A.fd_common_length ["one", "other"] spCl := by
  refine A.F_common_length.ok sc_common_length (fun vs H Q E h => ?_) (fun cdv Ar outer s H vs Q E hr h => ?_)
  · obtain ⟨_, _, rfl, _⟩ := h
    rfl
  obtain ⟨x, y, rfl, h⟩ := h
  refine ⟨_, (pss_cons (ps_set (i := 2) sc_common_length.nd rfl (by first | exact Or.inl rfl | exact Or.inr rfl) pe_int) (pss_cons (ps_while PassesOwn.never ((pw_and (pt_cmpR op_lt (pv 2) (pe_callB (call_min2 rfl) (by rfl) A.n_min (by decide +kernel) (pa_cons (pe_callB call_lenU (by rfl) A.n_len (by decide +kernel) (pa_cons (pv 0) pa_nil)) (pa_cons (pe_callB call_lenU (by rfl) A.n_len (by decide +kernel) (pa_cons (pv 1) pa_nil)) pa_nil))) (nomark _)) (pw_and1 (pt_cmpR op_eq (pe_ix ix_u (pv 0) (pv 2) (fun _ _ => rfl)) (pe_ix ix_u (pv 1) (pv 2) (fun _ _ => rfl)) (nomark _))))).pt (pss_one (ps_aug (i := 2) sc_common_length.nd rfl (by first | exact Or.inl rfl | exact Or.inr rfl) pe_int ip_add))) (pss_one (ps_ret (pv 2))))), ?_⟩
  walk_at "wp"
  obtain ⟨a, b, rfl, rfl, la, lb, q⟩ := h
  have sa : a.cps.toList.length = a.length := Array.length_toList
  have sb : b.cps.toList.length = b.length := Array.length_toList
  have c1 := cl_le1 a.cps.toList b.cps.toList
  have c2 := cl_le2 a.cps.toList b.cps.toList
  refine ⟨fun m σ' H' => ∃ k : Nat, σ' = [some (.str a), some (.str b), some (.int (k : Int))] ∧ H' = H ∧ k ≤ cl a.cps.toList b.cps.toList ∧ m = a.length - k, ⟨_, 0, rfl, rfl, Nat.zero_le _, rfl⟩, ?_⟩
  rintro m _ _ ⟨k, rfl, rfl, hk, rfl⟩
  walk_at "wp"
  have la1 : a.length ≤ sizeLine := sm20 la
  have lb1 : b.length ≤ sizeLine := sm20 lb
  have nx : ∀ {c : Nat}, cl a.cps.toList b.cps.toList ≤ k → Q (V.int (k : Int)) _ := fun h => by
    rw [show k = cl a.cps.toList b.cps.toList by omega]
    exact q
  refine ⟨la1, lb1, _, _, ⟨rfl, rfl⟩, ifD (fun h => ?_) (fun h => ?_)⟩
  · have h : (k : Int) < a.length ∧ (k : Int) < b.length := by
      split at h <;> omega
    obtain ⟨c, hc⟩ : ∃ c, a.cps.toList[k]? = some c := ⟨_, List.getElem?_eq_getElem (by omega)⟩
    obtain ⟨d, hd⟩ : ∃ d, b.cps.toList[k]? = some d := ⟨_, List.getElem?_eq_getElem (by omega)⟩
    have st := cl_step k _ _ hc hd hk
    refine ⟨la1, c, at_ofC rfl hc, lb1, d, at_ofC rfl hd, ifD (fun e => ?_) (fun e => ?_)⟩
    · have e : c = d := by
        have e := congrArg Str.cps e
        simpa using e
      refine ⟨fun σ' H' => σ' = [some (.str a), some (.str b), some (.int ((k : Int) + 1))] ∧ H' = _, fun σ' H' h => ⟨a.length - (k + 1), by omega, k + 1, ?_, h.2, st.mp e, rfl⟩, ?_⟩
      · rw [h.1]
        rfl
      · exact ⟨_, rfl, _, _, rfl, rfl, rfl, rfl⟩
    · refine nx (c := c) ?_
      have : ¬ c = d := fun z => e (by rw [z])
      have := mt st.mpr this
      omega
  · rw [if_neg (by decide)]
    refine nx (c := 0) ?_
    split at h <;> omega
def badB (i n : Int) (x : V) : Bool := !isVal x (.int n) || match x with | .int j => decide (j = i) | _ => false
def widS (n : Nat) (i : Int) (l : Nat) : V → Nat | .int j => max l (1 + cl (dig n i) (dig n j)) | _ => l
def wid (n : Nat) (i : Int) (xs : List V) : Nat := xs.foldl (widS n i) 0
theorem wid_snoc (n : Nat) (i : Int) (xs : List V) (x : V) : wid n i (xs ++ [x]) = widS n i (wid n i xs) x := by
  unfold wid
  rw [List.foldl_append]
  rfl
theorem take_snoc {xs : List V} {k : Nat} {x : V} (h : xs[k]? = some x) : xs.take (k + 1) = xs.take k ++ [x] := by
  rw [List.take_add_one, h]
  rfl
theorem isVal_int {x : V} {n : Int} (h : isVal x (.int n) = true) : ∃ j : Int, x = .int j ∧ 0 ≤ j ∧ j < 2 ^ n.toNat := by
  cases x with
  | int j =>
    have h2 : (decide (1 ≤ n ∧ n ≤ 10) && decide (0 ≤ j ∧ j < 2 ^ n.toNat)) = true := h
    exact ⟨j, rfl, (of_decide_eq_true (Bool.and_eq_true_iff.mp h2).2)⟩
  | _ => cases h
def spWid (K : PySem.W.Frag) (cB cV : Addr) : Sp := fun vs H Q E => ∃ v b B, vs = [v, b, B] ∧ ∃ (c : Addr) (xs : List V), B = .ref c ∧ NoDT H ∧ SqA K H c xs ∧ Plain H v ∧ Plain H b ∧ (∀ x ∈ xs, Plain H x) ∧ (isBits b = false → Err cB b H E) ∧ (isBits b = true → isVal v b = false → Err cV v H E) ∧
  ∀ (i n : Int), v = .int i → b = .int n → 1 ≤ n → n ≤ 10 → 0 ≤ i → i < 2 ^ n.toNat →
    (∀ k x, xs[k]? = some x → badB i n x = true → (∀ y ∈ xs.take k, badB i n y = false) → Err cV x H E) ∧
    ((∀ x ∈ xs, badB i n x = false) → Q (.str (cutS (digS n.toNat i) none (some (wid n.toNat i xs : Int)))) H)
include A in
theorem ok_widest_range : FnOk P w K mg base (L2N.CX P w) 6 A.f_widest_range A.fd_widest_range ["value", "bits", "barred"] (spWid K A.c_InvalidBits A.c_InvalidValue) := by
  have G_range_of := ok_rangeOfD (P := P) (w := w) (base := base) A
  have G_is_value := ok_is_value (P := P) (w := w) (base := base) A
  have G_common_length := ok_common_length (P := P) (w := w) (base := base) A
  refine okND A.F_widest_range sc_widest_range (fun vs H Q E h => ?_) (fun cdv Ar outer s H vs Q E hr h tk hpo => ?_)
  · obtain ⟨_, _, _, rfl, _⟩ := h
    rfl
  obtain ⟨v, b, B, rfl, h⟩ := h
  refine ⟨_, (pss_cons (ps_set (i := 3) sc_widest_range.nd rfl (by first | exact Or.inl rfl | exact Or.inr rfl) (pe_callS G_range_of (hr.mono (by first | decide | omega)) (by rfl) A.g_range_of A.F_range_of.kp A.b_range_of (fun σ => L2N.passAt tk σ) (pa_cons (pv 0) (pa_cons (pv 1) pa_nil)))) (pss_cons (ps_set (i := 4) sc_widest_range.nd rfl (by first | exact Or.inl rfl | exact Or.inr rfl) pe_int) (pss_cons (ps_for hpo rfl (pi_any (pv 2)) (pg_name (i := 5) sc_widest_range.nd rfl (by first | exact Or.inl rfl | exact Or.inr rfl)) (pss_cons (ps_if ((pw_or (pt_not (pt_val (pe_call G_is_value (hr.mono (by first | decide | omega)) (by rfl) A.g_is_value A.F_is_value.kp A.b_is_value .nil pass0 (pa_cons (pv 5) (pa_cons (pv 1) pa_nil))))) (pw_or1 (pt_cmpR op_eq (pv 5) (pv 0) (nomark _))))).pt (pss_one (L2N.ps_raise rfl tk (pmkN_own A.e_InvalidValue.ox A.ii_InvalidValue A.ti_InvalidValue (ok_init_InvalidValue (P := P) (w := w) (base := base) A) (hr.mono (by first | decide | omega)) A.b_init_InvalidValue pass0 (by rfl) A.gc_InvalidValue (pa_cons (pv 5) pa_nil)))) pss_nil) (pss_one (ps_set (i := 4) sc_widest_range.nd rfl (by first | exact Or.inl rfl | exact Or.inr rfl) (pe_callB (call_max2 rfl) (by rfl) A.n_max (by decide +kernel) (pa_cons (pv 4) (pa_cons (pe_op op_addU pe_int (pe_call G_common_length (hr.mono (by first | decide | omega)) (by rfl) A.g_common_length A.F_common_length.kp A.b_common_length .nil pass0 (pa_cons (pv 3) (pa_cons (pe_callS G_range_of (hr.mono (by first | decide | omega)) (by rfl) A.g_range_of A.F_range_of.kp A.b_range_of (fun σ => L2N.passAt tk σ) (pa_cons (pv 5) (pa_cons (pv 1) pa_nil))) pa_nil)))) pa_nil))))))) (pss_one (ps_ret (pe_slice sl_str (pv 3) po_none (po_some (pv 4)))))))), ?_⟩
  walk_at "wp"
  obtain ⟨c, xs, rfl, nd, hS, pv, pb, px, eb, ev, q⟩ := h
  refine ⟨v, b, rfl, nd, pv, pb, eb, ev, fun i n e1 e2 n1 n2 i0 i1 => ?_⟩
  subst e1 e2
  obtain ⟨qe, q⟩ := q i n rfl rfl n1 n2 i0 i1
  refine forA c xs (fun R h => ⟨_, rfl, h⟩) hS (fun k σ' H' => (∃ y, σ' = [some (.int i), some (.int n), some (.ref c), some (.str (digS n.toNat i)), some (.int (wid n.toNat i (xs.take k) : Int)), y]) ∧ H' = H ∧ ∀ y ∈ xs.take k, badB i n y = false) ⟨⟨_, rfl⟩, rfl, fun y h => by simp at h⟩ (fun _ _ _ _ p => p.2.1 ▸ Same.refl H) ?_ ?_
  · rintro k x _ _ hx ⟨⟨y, rfl⟩, rfl, hk⟩
    walk_at "wp"
    have mx : x ∈ xs := List.mem_of_getElem? hx
    refine ⟨x, _, rfl, px x mx, rfl, _, rfl, ifB (fun hv => ?_) (fun hv => ?_)⟩
    · have hv : isVal x (.int n) = false := by simpa using hv
      exact ⟨x, rfl, use_mk A.e_InvalidValue.ox A.na_InvalidValue (qe k x hx (by unfold badB; rw [hv]; rfl) hk)⟩
    have hv : isVal x (.int n) = true := by simpa using hv
    obtain ⟨j, rfl, j0, j1⟩ := isVal_int hv
    rw [rEq_int]
    refine ⟨_, rfl, ifD (fun he => ?_) (fun he => ?_)⟩
    · exact ⟨_, rfl, use_mk A.e_InvalidValue.ox A.na_InvalidValue (qe k _ hx (by unfold badB; simp [he]) hk)⟩
    have nb : ¬ isBits (.int n) = false := by rw [bits_ok n1 n2]; decide
    refine ⟨_, _, rfl, nd, rfl, rfl, (fun hb => absurd hb nb), (fun _ hw => absurd hw (by rw [hv]; decide)), fun a1 a2 e1 e2 _ _ _ _ => ?_⟩
    cases e1
    cases e2
    refine ⟨_, _, rfl, _, _, rfl, rfl, by rw [digS_len]; omega, by rw [digS_len]; omega, ?_⟩
    show Cv.rAdd (V.int 1) (V.int _) _ _
    rw [rAdd_int]
    refine ⟨_, _, ⟨rfl, rfl⟩, ⟨?_, _, rfl⟩, rfl, fun y hy => ?_⟩
    · rw [take_snoc hx, wid_snoc]
      show _ = ((max (wid n.toNat i (xs.take k)) (1 + cl (dig n.toNat i) (dig n.toNat j)) : Nat) : Int)
      have e1 : cl (digS n.toNat i).cps.toList (digS n.toNat j).cps.toList = cl (dig n.toNat i) (dig n.toNat j) := rfl
      rw [e1]
      split <;> omega
    · rw [take_snoc hx] at hy
      rcases List.mem_append.mp hy with h | h
      · exact hk y h
      · rw [List.mem_singleton.mp h]
        unfold badB
        simp [hv, he]
  · rintro _ _ ⟨⟨y, rfl⟩, rfl, hk⟩
    rw [List.take_length] at hk ⊢
    walk_at "wp"
    exact ⟨by rw [digS_len]; exact sm20 (by omega), q hk⟩
theorem bd_widest_range (A : All K mg) : Binds K A.fd_widest_range ["value", "bits", "barred"] [.ref A.t_widest_range] := by
  obtain ⟨ds, rd, b⟩ := A.F_widest_range.binds1 (ps := ["value", "bits", "barred"]) 2 0 (by simp) rfl fun _ _ _ _ _ _ _ us its hl h3 => match us, its, hl, h3 with | [_, _], [_], _, _ => ⟨_, rfl, rfl⟩
  obtain ⟨u, rfl, r⟩ := vals1 rd
  cases r
  exact b
theorem rd_widest_range (A : All K mg) : Vals [.ref A.t_widest_range] [.ref A.t_widest_range] := .cons rfl .nil
theorem kb_widest_range_0_barred_bits_value (A : All K mg) : KBn K A.fd_widest_range ["value", "bits", "barred"] 0 ["barred", "bits", "value"] (gP [2, 1, 0]) (gP [2, 1, 0]) :=
  funDK A.F_widest_range 0 ["barred", "bits", "value"] [2, 1, 0] (by simp) fun _ _ _ _ _ _ _ us ws its h1 h2 h3 => match us, ws, its, h1, h2, h3 with | [], [_, _, _], [_], _, _, _ => ⟨_, rfl, rfl⟩
/-- things with their texts -/
def OdL (H : Hp) (r : Addr) (xs : List V) (zs : List Str) : Prop := ∀ (k : Nat) (x : V), xs[k]? = some x → ∃ z : Str, zs[k]? = some z ∧ Od H r x z
theorem OdL.keep {H H' : Hp} {r : Addr} {xs : List V} {zs : List Str} (o : OdL H r xs zs) (k : KeepX r H H') : OdL H' r xs zs := fun i x h => by
  obtain ⟨z, e, q⟩ := o i x h
  exact ⟨z, e, q.keep k⟩
theorem OdL.same {H H' : Hp} {r : Addr} {xs : List V} {zs : List Str} (o : OdL H r xs zs) (k : Same H H') : OdL H' r xs zs := o.keep fun b u _ q => k b u q
theorem OdL.plain {H : Hp} {r : Addr} {xs : List V} {zs : List Str} (o : OdL H r xs zs) : ∀ x ∈ xs, Plain H x := fun x m => by
  obtain ⟨k, e⟩ := List.getElem?_of_mem m
  obtain ⟨z, _, q⟩ := o k x e
  exact q.pl.1
/-- the text of the first thing that is barred -/
def badT (i n : Int) : List V → List Str → Option Str
  | x :: xs, z :: zs => if badB i n x = true then some z else badT i n xs zs
  | _, _ => none
theorem badT_some (i n : Int) : ∀ (xs : List V) (zs : List Str) (k : Nat) {x : V} {z : Str}, xs[k]? = some x → zs[k]? = some z → badB i n x = true → (∀ y ∈ xs.take k, badB i n y = false) → badT i n xs zs = some z
  | [], _, _, _, _, h, _, _, _ => by simp at h
  | _ :: _, [], _, _, _, _, h, _, _ => by simp at h
  | x :: xs, z :: zs, 0, _, _, h1, h2, hb, _ => by
    have e1 := Option.some.inj h1
    have e2 := Option.some.inj h2
    subst e1 e2
    rw [badT, if_pos hb]
  | x :: xs, z :: zs, k + 1, _, _, h1, h2, hb, hk => by
    rw [badT, if_neg (by rw [hk x (by simp)]; decide)]
    exact badT_some i n xs zs k (by simpa using h1) (by simpa using h2) hb fun y hy => hk y (by rw [List.take_succ_cons]; exact List.mem_cons_of_mem _ hy)
theorem badT_none (i n : Int) : ∀ (xs : List V) (zs : List Str), (∀ y ∈ xs, badB i n y = false) → badT i n xs zs = none
  | [], _, _ => rfl
  | _ :: _, [], _ => rfl
  | x :: xs, z :: zs, h => by
    rw [badT, if_neg (by rw [h x (by simp)]; decide)]
    exact badT_none i n xs zs fun y hy => h y (List.mem_cons_of_mem _ hy)
def cutW (i n : Int) (xs : List V) : Str := cutS (digS n.toNat i) none (some (wid n.toNat i xs : Int))
def toldT (i n : Int) (xs : List V) : Str := (PyData.list [.str (cutW i n xs), .str (cutW i n xs), .str ""]).shown
def dueL (v b : V) (xs : List V) (zs : List Str) (zv zb : Str) : List V :=
  if isBits b = false then [.str "bits", .str zb, .bl true] else if isVal v b = false then [.str "value", .str zv, .bl true]
  else match v, b with
    | .int i, .int n => (match badT i n xs zs with | some z => [.str "value", .str z, .bl true] | none => [.str "told", .str (toldT i n xs)])
    | _, _ => []
theorem cut0 (z : Str) : cutS z none (some 0) = Str.ofString "" := by
  unfold cutS
  have e : HT.sIx z.length z.length (some 0) = 0 := by
    show (if (0 : Int) < 0 then ((0 : Int) + (z.length : Int)).toNat else min (0 : Int).toNat z.length) = 0
    rw [if_neg (by decide)]
    simp
  rw [e]
  simp
  decide +kernel
def spTold (K : PySem.W.Frag) : Sp := fun vs H Q _ => ∃ v b B, vs = [v, b, B] ∧ ∃ (r c : Addr) (xs : List V) (zs : List Str) (zv zb : Str), B = .ref c ∧ NoDT H ∧ SqA K H c xs ∧ xs.length ≤ 100 ∧ OdL H r xs zs ∧ Od H r v zv ∧ Od H r b zb ∧
  ∀ H' p, H p = none → Same H H' → H' p = some (.lst (dueL v b xs zs zv zb)) → Q (.ref p) H'
include A in
theorem ok__law_told : FnG P w K mg base CX0 7 A.f__law_told A.fd__law_told ["_law_number", "_law_many", "_law_some"] (spTold K) := by
  have G_widest_range := ok_widest_range (P := P) (w := w) (base := base) A
  have G__law_alone := ok__law_alone (P := P) (w := w) (base := base) A
  refine funG A.F__law_told sc__law_told (fun vs H Q E h => ?_) (fun cdv Ar outer s H vs Q E hr gd h => ?_)
  · obtain ⟨_, _, _, rfl, _⟩ := h
    rfl
  obtain ⟨v, b, B, rfl, h⟩ := h
  refine ⟨_, (pss_cons (ps_set (i := 3) sc__law_told.nd rfl (by first | exact Or.inl rfl | exact Or.inr rfl) (pe_lst (pa_cons pe_str pa_nil))) (pss_cons (ps_tryNames (X := (cxOf CX0 P w K mg base N__law_told "_law_told" (defScope s__law_told) A.f__law_told cdv Ar outer s H E).nox) (i := 5) rfl rfl sc__law_told.nd rfl rfl takesN0 (by intro W pn xe tk2 hpo; exact (pss_cons (ps_set (i := 4) sc__law_told.nd rfl (by first | exact Or.inl rfl | exact Or.inr rfl) (pe_lst (pa_cons (pe_callS G_widest_range (hr.mono (by first | decide | omega)) (by rfl) A.g_widest_range A.F_widest_range.kp A.b_widest_range (fun σ => L2N.passAt tk2 σ) (pa_cons (pv 0) (pa_cons (pv 1) (pa_cons (pv 2) pa_nil)))) (pa_cons (pe_callKS G_widest_range (hr.mono (by first | decide | omega)) (by rfl) A.g_widest_range A.F_widest_range.kp (kb_widest_range_0_barred_bits_value A) (fun σ => L2N.passAt tk2 σ) (pk_cons (pv 2) (pk_cons (pv 1) (pk_cons (pv 0) pk_nil)))) pa_nil)))) (pss_one (ps_set (i := 3) sc__law_told.nd rfl (by first | exact Or.inl rfl | exact Or.inr rfl) (pe_lst (pa_cons pe_str (pa_cons (pe_callB (call_reprK (K0 := K) rfl gd hr.units) (by rfl) A.n_repr (by decide +kernel) (pa_cons (pe_op op_addU (pv 4) (pe_lst (pa_cons (pe_callSD G_widest_range (hr.mono (by first | decide | omega)) (by rfl) A.g_widest_range A.F_widest_range.kp (bd_widest_range A) (rd_widest_range A) (fun σ => L2N.passAt tk2 σ) (pa_cons (pv 0) (pa_cons (pv 1) pa_nil))) pa_nil))) pa_nil)) pa_nil))))))) (.cons ⟨by rfl, by decide, .inl A.gc_InvalidBits⟩ (by intro a oe cls d pn z fl; exact (pss_one (ps_set (i := 3) sc__law_told.nd rfl (by first | exact Or.inl rfl | exact Or.inr rfl) (pe_lst (pa_cons pe_str (pa_cons (pe_callB (call_reprK (K0 := K) rfl gd hr.units) (by rfl) A.n_repr (by decide +kernel) (pa_cons (pe_xf A.e_InvalidBits.xf A.na_InvalidBits z.zc fl (pv 5)) pa_nil)) (pa_cons (pe_callE G__law_alone (hr.mono (by first | decide | omega)) (by rfl) A.g__law_alone A.F__law_alone.kp A.b__law_alone z fl (pa_cons (pv 5) pa_nil)) pa_nil))))))) (.cons ⟨by rfl, by decide, .inl A.gc_InvalidValue⟩ (by intro a oe cls d pn z fl; exact (pss_one (ps_set (i := 3) sc__law_told.nd rfl (by first | exact Or.inl rfl | exact Or.inr rfl) (pe_lst (pa_cons pe_str (pa_cons (pe_callB (call_reprK (K0 := K) rfl gd hr.units) (by rfl) A.n_repr (by decide +kernel) (pa_cons (pe_xf A.e_InvalidValue.xf A.na_InvalidValue z.zc fl (pv 5)) pa_nil)) (pa_cons (pe_callE G__law_alone (hr.mono (by first | decide | omega)) (by rfl) A.g__law_alone A.F__law_alone.kp A.b__law_alone z fl (pa_cons (pv 5) pa_nil)) pa_nil))))))) .nil))) (pss_one (ps_ret (pv 3))))), ?_⟩
  walk_at "wp"
  obtain ⟨r, c, xs, zs, zv, zb, rfl, nd, hS, hl, ol, ov, ob, q⟩ := h
  have fin : ∀ G p l, Same H G → G p = none → dueL v b xs zs zv zb = l → Q (.ref p) (upd G p (.lst l)) := fun G p l s np e =>
    q _ p (none_of_same s np) (Same.trans s (Cv.Same.new np)) (by rw [upd_same, e])
  refine ⟨sm20 (by decide), fun p0 n0 => ?_⟩
  have s0 := Cv.Same.new (o := .lst [V.str (Str.ofString "other")]) n0
  have nd0 := nd.upd (p := p0) (o := .lst [V.str (Str.ofString "other")]) rfl
  generalize upd H p0 _ = H0 at *
  have ov0 := ov.same s0
  have ob0 := ob.same s0
  have ol0 := ol.same s0
  have hS0 := hS.same s0
  refine ⟨v, b, _, rfl, c, xs, rfl, nd0, hS0, ov0.pl.1, ob0.pl.1, ol0.plain, fun hb d nd => wei ⟨true, A.x_InvalidBits_InvalidBits, fun _ a na => ?_, fun z => nomatch z⟩,
    fun hb hv d nd => wei ⟨false, A.x_InvalidValue_InvalidBits, (fun z => nomatch z), fun _ => ⟨true, A.x_InvalidValue_InvalidValue, fun _ a na => ?_, fun z => nomatch z⟩⟩, fun i n ev eb n1 n2 i0 i1 => ?_⟩
  · exact ⟨_, rfl, rfl, rfl, d, rfl, _, upd_same, _, rfl, (ob0.same (Cv.Same.new nd)).show ⟨_, rfl, rfl, _, d, _, rfl, rfl, kin_bits A, upd_same, fun G sG => ⟨sm20 (by show 3 ≤ 100; decide), fun p np => ⟨_, rfl,
      fin G p _ (Same.trans s0 (Same.trans (Cv.Same.new nd) sG)) np (by unfold dueL; rw [if_pos hb])⟩⟩⟩⟩
  · exact ⟨_, rfl, rfl, rfl, d, rfl, _, upd_same, _, rfl, (ov0.same (Cv.Same.new nd)).show ⟨_, rfl, rfl, _, d, _, rfl, rfl, kin_value A, upd_same, fun G sG => ⟨sm20 (by show 3 ≤ 100; decide), fun p np => ⟨_, rfl,
      fin G p _ (Same.trans s0 (Same.trans (Cv.Same.new nd) sG)) np (by unfold dueL; rw [if_neg (by rw [hb]; decide), if_pos hv])⟩⟩⟩⟩
  · subst ev eb
    have nb : ¬ isBits (.int n) = false := by rw [bits_ok n1 n2]; decide
    have nv : ¬ isVal (.int i) (.int n) = false := by rw [val_ok n1 n2 i0 i1]; decide
    have dl : dueL (.int i) (.int n) xs zs zv zb = (match badT i n xs zs with | some z => [.str "value", .str z, .bl true] | none => [.str "told", .str (toldT i n xs)]) := by
      unfold dueL
      rw [if_neg nb, if_neg nv]
    refine ⟨fun k x hx hb hk d nd => wei ⟨false, A.x_InvalidValue_InvalidBits, (fun z => nomatch z), fun _ => ⟨true, A.x_InvalidValue_InvalidValue, fun _ a na => ?_, fun z => nomatch z⟩⟩, fun hok => ?_⟩
    · obtain ⟨z, hz, oz⟩ := ol0 k x hx
      exact ⟨_, rfl, rfl, rfl, d, rfl, _, upd_same, _, rfl, (oz.same (Cv.Same.new nd)).show ⟨_, rfl, rfl, _, d, _, rfl, rfl, kin_value A, upd_same, fun G sG => ⟨sm20 (by show 3 ≤ 100; decide), fun p np => ⟨_, rfl,
        fin G p _ (Same.trans s0 (Same.trans (Cv.Same.new nd) sG)) np (by rw [dl, badT_some i n xs zs k hx hz hb hk])⟩⟩⟩⟩
    · refine ⟨_, _, _, rfl, c, xs, rfl, nd0, hS0, ov0.pl.1, ob0.pl.1, ol0.plain, (fun hb => absurd hb nb), (fun _ hv => absurd hv nv), fun i2 n2' e1 e2 _ _ _ _ => ?_⟩
      cases e1
      cases e2
      refine ⟨fun k x hx hb hk => absurd hb (by rw [hok x (List.mem_of_getElem? hx)]; decide), fun _ => ?_⟩
      refine ⟨sm20 (by show 2 ≤ 100; decide), fun p2 np2 => ?_⟩
      have nd2 := nd0.upd (p := p2) (o := .lst [V.str (cutW i n xs), V.str (cutW i n xs)]) rfl
      have s2 := Cv.Same.new (o := .lst [V.str (cutW i n xs), V.str (cutW i n xs)]) np2
      have e2 : upd H0 p2 (.lst [V.str (cutW i n xs), V.str (cutW i n xs)]) p2 = _ := upd_same
      show spWid K A.c_InvalidBits A.c_InvalidValue _ (upd H0 p2 (.lst [V.str (cutW i n xs), V.str (cutW i n xs)])) _ _
      generalize upd H0 p2 _ = H2 at *
      refine ⟨_, _, _, rfl, _, [], rfl, nd2, .inr (A.tt_widest_range H2), rfl, rfl, (fun x h => nomatch h), (fun hb => absurd hb nb), (fun _ hv => absurd hv nv), fun i2 n2' e1 e2 _ _ _ _ => ?_⟩
      cases e1
      cases e2
      refine ⟨(fun k x hx => nomatch hx), fun _ => ?_⟩
      have ec : cutS (digS n.toNat i) none (some (wid n.toNat i [] : Int)) = Str.ofString "" := cut0 _
      rw [ec]
      refine ⟨sm20 (by show 1 ≤ 100; decide), fun p3 np3 => ⟨_, by rw [upd_ne (ne_of_none e2 np3), e2]; rfl, _, by rw [upd_same]; rfl, sm20 (by show 3 ≤ 100; decide), fun p4 np4 => ?_⟩⟩
      have wd := cut_dig (lo := none) (hi := some (wid n.toNat i xs : Int)) (digS_dig n.toNat i)
      have wl : (cutW i n xs).length ≤ 10 := Nat.le_trans (cutS_length _ _ _) (by rw [digS_len]; omega)
      have nw : Ni (.str (cutW i n xs)) 0 10 := ni_str wl (strOk_dig wd)
      have ne : Ni (.str (Str.ofString "")) 0 10 := ni_str (by decide +kernel) (by decide +kernel)
      refine .inl ⟨_, _, rfl, .lst (.inl (.inl upd_same)) (.cons (.str _) (.cons (.str _) (.cons (.str _) .nil))), nice_of (ni_list (ni_cons nw (ni_cons nw (ni_cons ne ni_nil)))) (by decide) (by decide), ⟨sm20 (by show 2 ≤ 100; decide), fun p5 np5 => ?_⟩⟩
      exact fin _ p5 _ (Same.trans s0 (Same.trans s2 (Same.trans (Cv.Same.new np3) (Cv.Same.new np4)))) np5 (by rw [dl, badT_none i n xs zs hok]; rfl)
theorem cut_take (z : Str) (k : Nat) : (cutS z none (some (k : Int))).cps.toList = z.cps.toList.take k := by
  have e : HT.sIx z.length z.length (some (k : Int)) = min k z.length := by
    show (if ((k : Int)) < 0 then ((k : Int) + (z.length : Int)).toNat else min (k : Int).toNat z.length) = _
    rw [if_neg (by omega)]
    simp
  have hl : z.cps.toList.length = z.length := Array.length_toList
  unfold cutS
  rw [e, HT.sIx_none]
  simp only [List.drop_zero, Nat.sub_zero]
  rw [← hl]
  simp [← List.take_eq_take_min]
theorem str_ext {y z : Str} (h : y.cps.toList = z.cps.toList) : y = z := by
  obtain ⟨y⟩ := y
  obtain ⟨z⟩ := z
  exact congrArg Str.mk (Array.ext' h)
theorem cut_eq {n : Nat} {i j : Int} {k : Nat} (h : k ≤ n) : cutS (digS n j) none (some (k : Int)) = cutS (digS n i) none (some (k : Int)) ↔ k ≤ cl (dig n i) (dig n j) := by
  rw [← cl_take k (dig n i) (dig n j) (by rw [dig_len]; exact h) (by rw [dig_len]; exact h)]
  constructor
  · intro e
    have e := congrArg (fun z : Str => z.cps.toList) e
    simp only [cut_take] at e
    exact e.symm
  · intro e
    refine str_ext ?_
    rw [cut_take, cut_take]
    exact e.symm
theorem wid_ge0 (n : Nat) (i : Int) : ∀ (xs : List V) (l : Nat), l ≤ xs.foldl (widS n i) l
  | [], l => Nat.le_refl l
  | x :: xs, l => by
    rw [List.foldl_cons]
    refine Nat.le_trans ?_ (wid_ge0 n i xs _)
    unfold widS
    split <;> omega
theorem wid_ge1 (n : Nat) (i : Int) : ∀ (xs : List V) (l : Nat) {j : Int}, V.int j ∈ xs → 1 + cl (dig n i) (dig n j) ≤ xs.foldl (widS n i) l
  | x :: xs, l, j, h => by
    rw [List.foldl_cons]
    rcases List.mem_cons.mp h with h | h
    · subst h
      refine Nat.le_trans ?_ (wid_ge0 n i xs _)
      unfold widS
      exact Nat.le_max_right _ _
    · exact wid_ge1 n i xs _ h
theorem wid_le1 (n : Nat) (i : Int) (m : Nat) : ∀ (xs : List V) (l : Nat), l ≤ m → (∀ j : Int, V.int j ∈ xs → 1 + cl (dig n i) (dig n j) ≤ m) → xs.foldl (widS n i) l ≤ m
  | [], l, h, _ => h
  | x :: xs, l, h, hx => by
    rw [List.foldl_cons]
    refine wid_le1 n i m xs _ ?_ fun j hj => hx j (List.mem_cons_of_mem _ hj)
    unfold widS
    split
    · exact Nat.max_le.mpr ⟨h, hx _ List.mem_cons_self⟩
    · exact h
def spDue (K : PySem.W.Frag) : Sp := fun vs H Q _ => ∃ v b B, vs = [v, b, B] ∧ ∃ (r c : Addr) (xs : List V) (zs : List Str) (zv zb : Str), B = .ref c ∧ NoDT H ∧ SqL K H c xs ∧ xs.length ≤ 100 ∧ OdL H r xs zs ∧ Od H r v zv ∧ Od H r b zb ∧
  ∀ H' p, H p = none → Same H H' → H' p = some (.lst (dueL v b xs zs zv zb)) → Q (.ref p) H'
def tCut (n i : Int) (k : Nat) : V → Bool | .str z => decide (cutS z none (some (k : Int)) = cutS (digS n.toNat i) none (some (k : Int))) | _ => false
def gDg (n : Int) : V → V | .int j => .str (digS n.toNat j) | v => v
include A in
theorem ok__law_due : FnG P w K mg base CX0 4 A.f__law_due A.fd__law_due ["_law_number", "_law_many", "_law_some"] (spDue K) := by
  have G__law_is_bits := ok__law_is_bits (P := P) (w := w) (base := base) A
  have G__law_is_value := ok__law_is_value (P := P) (w := w) (base := base) A
  have G__law_digits := ok__law_digits (P := P) (w := w) (base := base) A
  refine funG A.F__law_due sc__law_due (fun vs H Q E h => ?_) (fun cdv Ar outer s H vs Q E hr gd h => ?_)
  · obtain ⟨_, _, _, rfl, _⟩ := h
    rfl
  obtain ⟨v, b, B, rfl, h⟩ := h
  refine ⟨_, (pss_cons (ps_if (pt_not (pt_val (pe_call G__law_is_bits (hr.mono (by first | decide | omega)) (by rfl) A.g__law_is_bits A.F__law_is_bits.kp A.b__law_is_bits .nil pass0 (pa_cons (pv 1) pa_nil)))) (pss_one (ps_ret (pe_lst (pa_cons pe_str (pa_cons (pe_callB (call_reprK (K0 := K) rfl gd hr.units) (by rfl) A.n_repr (by decide +kernel) (pa_cons (pv 1) pa_nil)) (pa_cons pe_bl pa_nil)))))) pss_nil) (pss_cons (ps_if (pt_not (pt_val (pe_call G__law_is_value (hr.mono (by first | decide | omega)) (by rfl) A.g__law_is_value A.F__law_is_value.kp A.b__law_is_value .nil pass0 (pa_cons (pv 0) (pa_cons (pv 1) pa_nil))))) (pss_one (ps_ret (pe_lst (pa_cons pe_str (pa_cons (pe_callB (call_reprK (K0 := K) rfl gd hr.units) (by rfl) A.n_repr (by decide +kernel) (pa_cons (pv 0) pa_nil)) (pa_cons pe_bl pa_nil)))))) pss_nil) (pss_cons (ps_for PassesOwn.never rfl (pi_list (pv 2)) (pg_name (i := 3) sc__law_due.nd rfl (by first | exact Or.inl rfl | exact Or.inr rfl)) (pss_one (ps_if ((pw_or (pt_not (pt_val (pe_call G__law_is_value (hr.mono (by first | decide | omega)) (by rfl) A.g__law_is_value A.F__law_is_value.kp A.b__law_is_value .nil pass0 (pa_cons (pv 3) (pa_cons (pv 1) pa_nil))))) (pw_or1 (pt_cmpR op_eq (pv 3) (pv 0) (nomark _))))).pt (pss_one (ps_ret (pe_lst (pa_cons pe_str (pa_cons (pe_callB (call_reprK (K0 := K) rfl gd hr.units) (by rfl) A.n_repr (by decide +kernel) (pa_cons (pv 3) pa_nil)) (pa_cons pe_bl pa_nil)))))) pss_nil))) (pss_cons (ps_asg (pe_tup (pa_cons (pe_call G__law_digits (hr.mono (by first | decide | omega)) (by rfl) A.g__law_digits A.F__law_digits.kp A.b__law_digits .nil pass0 (pa_cons (pv 0) (pa_cons (pv 1) pa_nil))) (pa_cons pe_int pa_nil))) (pg_tup rfl (pgs_cons (pg_name (i := 4) sc__law_due.nd rfl (by first | exact Or.inl rfl | exact Or.inr rfl)) (pgs_cons (pg_name (i := 5) sc__law_due.nd rfl (by first | exact Or.inl rfl | exact Or.inr rfl)) pgs_nil)))) (pss_cons (ps_setLc (i := 6) (own := [("_law_thing", 3)]) (g := gName 3) (tt := tYes) rfl sc__law_due.nd rfl rfl (sw_true rfl rfl rfl (by decide +kernel)) (pi_list (pv 2)) (blkOk_by (N := N__law_due) (sc := defScope s__law_due) (by decide +kernel)) (fun _ _ _ _ _ => pg_name (i := 3) sc__law_due.nd rfl (Or.inl rfl)) (fun _ _ _ _ _ => pts_nil) (fun _ _ _ _ _ => (pe_call G__law_digits (hr.mono (by first | decide | omega)) (by rfl) A.g__law_digits A.F__law_digits.kp A.b__law_digits .nil pass0 (pa_cons (pv 3) (pa_cons (pv 1) pa_nil))))) (pss_cons (ps_while PassesOwn.never (pt_cmpR (op_neD (by have := hr.units; exact this)) (pe_lc (own := [("_law_other_here", 7)]) (g := gName 7) rfl sc__law_due.nd (pi_list (pv 6)) (blkOk_by (N := N__law_due) (sc := defScope s__law_due) (by decide +kernel)) (fun _ _ _ _ _ => pg_name (i := 7) sc__law_due.nd rfl (Or.inl rfl)) (fun _ _ _ _ _ => (pts_one (pt_cmpR op_eq (pe_slice sl_str (pv 7) po_none (po_some (pv 5))) (pe_slice sl_str (pv 4) po_none (po_some (pv 5))) (nomark _)))) (fun _ _ _ _ _ => (pv 7))) (pe_lst pa_nil) (nomark _)) (pss_one (ps_set (i := 5) sc__law_due.nd rfl (by first | exact Or.inl rfl | exact Or.inr rfl) (pe_op op_addU (pv 5) pe_int)))) (pss_one (ps_ret (pe_lst (pa_cons pe_str (pa_cons (pe_callB (call_reprK (K0 := K) rfl gd hr.units) (by rfl) A.n_repr (by decide +kernel) (pa_cons (pe_op op_addU (pe_op op_rep (pe_lst (pa_cons (pe_slice sl_str (pv 4) po_none (po_some (pv 5))) pa_nil)) pe_int) (pe_lst (pa_cons pe_str pa_nil))) pa_nil)) pa_nil))))))))))), ?_⟩
  walk_at "wp"
  obtain ⟨r, c, xs, zs, zv, zb, rfl, nd, hS, hl, ol, ov, ob, q⟩ := h
  have fin : ∀ G p l, Same H G → G p = none → dueL v b xs zs zv zb = l → Q (.ref p) (upd G p (.lst l)) := fun G p l s np e =>
    q _ p (none_of_same s np) (Same.trans s (Cv.Same.new np)) (by rw [upd_same, e])
  refine ⟨b, rfl, ob.pl.1, _, rfl, ifB (fun hb => ?_) (fun hb => ?_)⟩
  · have hb : isBits b = false := by simpa using hb
    exact ob.show ⟨sm20 (by show 3 ≤ 100; decide), fun p np => fin _ p _ (Same.refl H) np (by unfold dueL; rw [if_pos hb])⟩
  have hb : isBits b = true := by simpa using hb
  have nb : ¬ isBits b = false := by rw [hb]; decide
  obtain ⟨n, rfl, n1, n2⟩ := isBits_int hb
  refine ⟨_, _, rfl, ov.pl.1, ob.pl.1, _, rfl, ifB (fun hv => ?_) (fun hv => ?_)⟩
  · have hv : isVal v (.int n) = false := by simpa using hv
    exact ov.show ⟨sm20 (by show 3 ≤ 100; decide), fun p np => fin _ p _ (Same.refl H) np (by unfold dueL; rw [if_neg nb, if_pos hv])⟩
  have hv : isVal v (.int n) = true := by simpa using hv
  have nv : ¬ isVal v (.int n) = false := by rw [hv]; decide
  obtain ⟨i, rfl, i0, i1⟩ := isVal_int hv
  have dl : dueL (.int i) (.int n) xs zs zv zb = (match badT i n xs zs with | some z => [.str "value", .str z, .bl true] | none => [.str "told", .str (toldT i n xs)]) := by
    unfold dueL
    rw [if_neg nb, if_neg nv]
  refine forL c xs (fun R h => ⟨_, rfl, h⟩) hS (fun k σ' H' => (∃ y, σ' = [some (.int i), some (.int n), some (.ref c), y, none, none, none, none]) ∧ H' = H ∧ ∀ y ∈ xs.take k, badB i n y = false) ⟨⟨_, rfl⟩, rfl, fun y h => by simp at h⟩ (fun _ _ _ _ p => p.2.1 ▸ hS) ?_ ?_
  · rintro k x _ _ hx ⟨⟨y, rfl⟩, rfl, hk⟩
    walk_at "wp"
    have mx : x ∈ xs := List.mem_of_getElem? hx
    obtain ⟨z, hz, oz⟩ := ol k x hx
    have bad : badB i n x = true → rShow K [x] _ fun x H1 => 0 + 1 + 1 + 1 ≤ sizeLine ∧ ∀ (p : Addr), H1 p = none → Q (V.ref p) (upd H1 p (HO.lst [V.str (Str.ofString "value"), x, V.bl true])) := fun hb =>
      oz.show ⟨sm20 (by show 3 ≤ 100; decide), fun p np => fin _ p _ (Same.refl _) np (by rw [dl, badT_some i n xs zs k hx hz hb hk])⟩
    refine ⟨x, _, rfl, oz.pl.1, rfl, _, rfl, ifB (fun hv => bad ?_) (fun hv => ?_)⟩
    · have hv : isVal x (.int n) = false := by simpa using hv
      unfold badB
      rw [hv]
      rfl
    have hv : isVal x (.int n) = true := by simpa using hv
    obtain ⟨j, rfl, j0, j1⟩ := isVal_int hv
    rw [rEq_int]
    refine ⟨_, rfl, ifD (fun he => bad (by unfold badB; simp [he])) (fun he => ⟨⟨_, rfl⟩, rfl, fun y hy => ?_⟩)⟩
    rw [take_snoc hx] at hy
    rcases List.mem_append.mp hy with h | h
    · exact hk y h
    · rw [List.mem_singleton.mp h]
      unfold badB
      simp [hv, he]
  · rintro _ _ ⟨⟨y, rfl⟩, rfl, hk⟩
    rw [List.take_length] at hk
    walk_at "wp"
    have ti := two_pow_le 10 n.toNat (by omega)
    have t10 : (2 : Int) ^ 10 = 1024 := by decide
    have vals : ∀ x ∈ xs, ∃ j : Int, x = .int j ∧ 0 ≤ j ∧ j < 2 ^ n.toNat ∧ j ≠ i := by
      intro x mx
      have hb := hk x mx
      unfold badB at hb
      rw [Bool.or_eq_false_iff] at hb
      obtain ⟨j, rfl, j0, j1⟩ := isVal_int (by simpa using hb.1)
      exact ⟨j, rfl, j0, j1, of_decide_eq_false hb.2⟩
    refine ⟨_, _, rfl, i, n, rfl, rfl, by omega, by omega, i0, by omega, sm20 (by show 2 ≤ 100; decide), fun p np => ⟨[.str (digS n.toNat i), .int 0], .inl (.inl upd_same), rfl, _, _, rfl, _, _, rfl, rfl, ?_⟩⟩
    have s1 := Cv.Same.new (o := .tup [.str (digS n.toNat i), .int 0]) np
    generalize upd _ p _ = H1 at *
    have hS1 := Same.seq s1 hS
    refine lcList c xs (fun _ => true) (gDg n) hS1 (by rw [sizeLine_eq]; omega) (fun R h => ⟨_, rfl, h⟩) (fun _ => rfl) (fun x _ H' R _ h => h) (fun x mx _ H' R _ hR => ?_) fun D hD => ?_
    · obtain ⟨j, rfl, j0, j1, _⟩ := vals x mx
      exact ⟨_, rfl, _, rfl, _, _, rfl, j, n, rfl, rfl, by omega, by omega, j0, by omega, hR⟩
    have s2 := Cv.Same.new (o := .lst (List.map (gDg n) (List.filter (fun _ => true) xs))) hD
    have e2 : upd H1 D (.lst (List.map (gDg n) (List.filter (fun _ => true) xs))) D = some (.lst (xs.map (gDg n))) := by
      rw [upd_same, List.filter_eq_self.mpr (fun _ _ => rfl)]
    generalize upd H1 D _ = H2 at *
    have texts : ∀ x ∈ xs.map (gDg n), ∃ j : Int, x = .str (digS n.toNat j) ∧ V.int j ∈ xs := by
      intro x hx
      obtain ⟨w, hw, rfl⟩ := List.mem_map.mp hx
      obtain ⟨j, rfl, _⟩ := vals w hw
      exact ⟨j, rfl, hw⟩
    have wn : wid n.toNat i xs ≤ n.toNat := wid_le1 _ _ _ xs 0 (Nat.zero_le _) fun j hj => by
      obtain ⟨j2, e, j0, j1, ne⟩ := vals _ hj
      cases e
      have := cl_ne (as := dig n.toNat i) (bs := dig n.toNat j) (by rw [dig_len, dig_len]) (fun e => ne (by rw [← num_dig _ _ j0 j1, ← e, num_dig _ _ i0 i1]))
      rw [dig_len] at this
      omega
    refine ⟨fun m σ' H' => ∃ k : Nat, σ' = [some (.int i), some (.int n), some (.ref c), y, some (.str (digS n.toNat i)), some (.int (k : Int)), some (.ref D), none] ∧ Same H2 H' ∧ k ≤ wid n.toNat i xs ∧ m = wid n.toNat i xs - k, ⟨_, 0, rfl, Same.refl _, Nat.zero_le _, rfl⟩, ?_⟩
    rintro m _ H3 ⟨k, rfl, s3, hk3, rfl⟩
    walk_at "wp"
    have e3 := s3 _ _ e2
    refine lcList D (xs.map (gDg n)) (tCut n i k) id (.inl (.inl e3)) (by rw [List.length_map, sizeLine_eq]; omega) (fun R h => ⟨_, rfl, h⟩) (fun _ => rfl) (fun x mx H' R _ h => ?_) (fun x mx _ H' R _ hR => ⟨_, rfl, hR⟩) fun D2 hD2 => ?_
    · obtain ⟨j, rfl, mj⟩ := texts x mx
      show tTest _ [some (.int i), some (.int n), some (.ref c), y, some (.str (digS n.toNat i)), some (.int (k : Int)), some (.ref D), some (.str (digS n.toNat j))] H' R
      walk_at "wp"
      exact ⟨by rw [digS_len]; exact sm20 (by omega), by rw [digS_len]; exact sm20 (by omega), h⟩
    · have s4 := Cv.Same.new (o := .lst (List.map id (List.filter (tCut n i k) (List.map (gDg n) xs)))) hD2
      have e4 : upd H3 D2 (.lst (List.map id (List.filter (tCut n i k) (List.map (gDg n) xs)))) D2 = some (.lst (List.filter (tCut n i k) (List.map (gDg n) xs))) := by rw [upd_same, List.map_id]
      generalize upd H3 D2 _ = H4 at *
      refine ⟨Nat.zero_le _, fun p4 np4 => ne_strs_nil (xs := List.filter (tCut n i k) (List.map (gDg n) xs)) (by rw [upd_ne (ne_of_none e4 np4)]; exact e4) upd_same (fun x hx => ?_) ⟨_, rfl, ifB (fun hc => ?_) (fun hc => ?_)⟩⟩
      · obtain ⟨j, rfl, _⟩ := texts x (List.mem_filter.mp hx).1
        exact ⟨_, rfl, strOk_dig (digS_dig _ _)⟩
      · obtain ⟨x, hx⟩ : ∃ x, x ∈ List.filter (tCut n i k) (List.map (gDg n) xs) := by
          cases hl : List.filter (tCut n i k) (List.map (gDg n) xs) with
          | nil => rw [hl] at hc; cases hc
          | cons x l => exact ⟨x, List.mem_cons_self⟩
        obtain ⟨hx, ht⟩ := List.mem_filter.mp hx
        obtain ⟨j, rfl, mj⟩ := texts x hx
        have ht := (cut_eq (by omega)).mp (of_decide_eq_true ht)
        have := wid_ge1 n.toNat i xs 0 mj
        have : k + 1 ≤ wid n.toNat i xs := by unfold wid; omega
        refine ⟨fun σ' H' => σ' = [some (.int i), some (.int n), some (.ref c), y, some (.str (digS n.toNat i)), some (.int ((k : Int) + 1)), some (.ref D), none] ∧ Same H2 H', fun σ' H' h => ⟨_, ?_, k + 1, h.1, h.2, this, rfl⟩, rfl, Same.trans s3 (Same.trans s4 (Cv.Same.new np4))⟩
        omega
      · have ek : wid n.toNat i xs = k := by
          refine Nat.le_antisymm (wid_le1 _ _ _ xs 0 (Nat.zero_le _) fun j mj => ?_) hk3
          have hm : V.str (digS n.toNat j) ∈ List.map (gDg n) xs := List.mem_map.mpr ⟨_, mj, rfl⟩
          have hn : ¬ tCut n i k (.str (digS n.toNat j)) = true := fun h => by
            have := List.mem_filter.mpr ⟨hm, h⟩
            cases hl : List.filter (tCut n i k) (List.map (gDg n) xs) with
            | nil => rw [hl] at this; cases this
            | cons x l => rw [hl] at hc; cases hc
          have : ¬ k ≤ cl (dig n.toNat i) (dig n.toNat j) := fun h => hn (decide_eq_true ((cut_eq (by omega)).mpr h))
          omega
        have s5 := Same.trans (Same.trans s1 (Same.trans s2 (Same.trans s3 s4))) (Cv.Same.new (o := .lst []) np4)
        generalize upd H4 p4 (.lst []) = H5 at *
        refine ⟨by rw [digS_len]; exact sm20 (by omega), sm20 (by show 1 ≤ 100; decide), fun p5 np5 => ⟨p5, 2, _, rfl, rfl, upd_same, by decide, by decide, sm20 (by show 2 ≤ 100; decide), fun p6 np6 => ⟨sm20 (by show 1 ≤ 100; decide), fun p7 np7 => ?_⟩⟩⟩
        have s7 := Same.trans s5 (Same.trans (Cv.Same.new np5) (Same.trans (Cv.Same.new np6) (Cv.Same.new (o := .lst [V.str (Str.ofString "")]) np7)))
        have e7 : upd (upd (upd H5 p5 (.lst [V.str (cutS (digS n.toNat i) none (some (k : Int)))])) p6 (.lst [V.str (cutS (digS n.toNat i) none (some (k : Int))), V.str (cutS (digS n.toNat i) none (some (k : Int)))])) p7 (.lst [V.str (Str.ofString "")]) p6 = some (.lst [V.str (cutS (digS n.toNat i) none (some (k : Int))), V.str (cutS (digS n.toNat i) none (some (k : Int)))]) := by
          rw [upd_ne (ne_of_none upd_same np7)]
          exact upd_same
        have e8 := upd_same (H := upd (upd H5 p5 (.lst [V.str (cutS (digS n.toNat i) none (some (k : Int)))])) p6 (.lst [V.str (cutS (digS n.toNat i) none (some (k : Int))), V.str (cutS (digS n.toNat i) none (some (k : Int)))])) (a := p7) (o := HO.lst [V.str (Str.ofString "")])
        show Cv.rAdd (V.ref p6) (V.ref p7) _ _
        rw [rAdd_ref]
        have wd := cut_dig (lo := none) (hi := some (k : Int)) (digS_dig n.toNat i)
        have wl : (cutS (digS n.toNat i) none (some (k : Int))).length ≤ 10 := Nat.le_trans (cutS_length _ _ _) (by rw [digS_len]; omega)
        have nw : Ni (.str (cutS (digS n.toNat i) none (some (k : Int)))) 0 10 := ni_str wl (strOk_dig wd)
        have ne : Ni (.str (Str.ofString "")) 0 10 := ni_str (by decide +kernel) (by decide +kernel)
        refine ⟨_, _, (congrArg lsM e7).trans rfl, (congrArg lsM e8).trans rfl, sm20 (by show 3 ≤ 100; decide), fun p8 np8 => .inl ⟨_, _, rfl, .lst (.inl (.inl upd_same)) (.cons (.str _) (.cons (.str _) (.cons (.str _) .nil))), nice_of (ni_list (ni_cons nw (ni_cons nw (ni_cons ne ni_nil)))) (by decide) (by decide), ⟨sm20 (by show 2 ≤ 100; decide), fun p9 np9 => ?_⟩⟩⟩
        refine fin _ p9 _ (Same.trans s7 (Cv.Same.new np8)) np9 ?_
        rw [dl, badT_none i n xs zs hk]
        show [V.str _, V.str (toldT i n xs)] = _
        unfold toldT cutW
        rw [ek]
end
end K15

namespace K15
open PySem PySem.Spec PyProof.Rows L2 Cv
section
variable {P : Program} {w : World} {K : PySem.W.Frag} {mg : Str → Option Value} {base : Heap} (A : All K mg)
local macro_rules | `(tactic| walk_at "wp") => `(tactic| simp only [tSeq, tAsg, tRet, tRetN, tPar, tCallS, tCallSD, WE, tXf, tVeI, tOst, wNames, tKwS, tBM, tBM0, tSl, tPart, tNoPart, rSlS, tIfS, tNext, tDrop, tOp, tUn, tVar, tC, tCons, tNil, tCB, tCall, tCallN, gP, List.filterMap_cons, List.filterMap_nil, List.nil_append, List.cons_append, List.length_cons, List.length_nil, tTest, tB, tNot, tAnd, tOr, tAndV, tOrV, tNotV, tIf, tChain, tTup, tLst, Evl.tCut, gName, gTup, gCons, gNil, gSub, rI, rI0, rU, rIs, rIntI, rIntB, tDNewK, rEq_int, rNe_int, rEq_str, rNe_str, rAdd_int, rAdd_str, rAdd_ref, rIxU_ref, rIxU_str, rLenU_ref, rLenU_str, rSetL, start_cc, start_cn, start_nn, List.set_cons_zero, List.set_cons_succ, List.map_cons, List.map_nil, List.getElem?_cons_zero, List.getElem?_cons_succ, Option.some.injEq, V.int.injEq, V.bl.injEq, V.str.injEq, V.ref.injEq, V.ty.injEq, List.cons.injEq, and_true, true_and, exists_eq_left', exists_eq_left, exists_and_left, exists_and_right, List.append_nil, ↓reduceIte])
def spOther : Sp := fun vs H Q _ => ∃ x y z, vs = [x, y, z] ∧ ∃ (r : Addr) (i n : Int), x = .ref r ∧ y = .int i ∧ z = .int n ∧ RngAt H r ∧ 1 ≤ n ∧ n ≤ 10 ∧ 0 ≤ i ∧ i < 2 ^ n.toNat ∧ ∀ (j : Int) H', j.natAbs < 2 ^ 20 → KeepX r H H' → RngAt H' r → Q (.int j) H'
def tNe (i : Int) : V → Bool | .int j => !decide (j = i) | _ => true
include A in
theorem ok__law_other : FnOk P w K mg base CX0 3 A.f__law_other A.fd__law_other ["_law_rng_here", "_law_number", "_law_many"] spOther := by
  have G__law_power := ok__law_power (P := P) (w := w) (base := base) A
  have G__law_draw := ok__law_draw (P := P) (w := w) (base := base) A
  have G__law_choice := ok__law_choice (P := P) (w := w) (base := base) A
  refine A.F__law_other.ok sc__law_other (fun vs H Q E h => ?_) (fun cdv Ar outer s H vs Q E hr h => ?_)
  · obtain ⟨_, _, _, rfl, _⟩ := h
    rfl
  obtain ⟨x, y, z, rfl, h⟩ := h
  refine ⟨_, (pss_cons (ps_par (i := 3) (j := 4) rfl sc__law_other.nd rfl rfl (by decide) rfl rfl (pa_cons (pe_call G__law_power (hr.mono (by first | decide | omega)) (by rfl) A.g__law_power A.F__law_power.kp A.b__law_power .nil pass0 (pa_cons (pv 2) pa_nil)) (pa_cons (pe_call G__law_power (hr.mono (by first | decide | omega)) (by rfl) A.g__law_power A.F__law_power.kp A.b__law_power .nil pass0 (pa_cons (pe_call G__law_draw (hr.mono (by first | decide | omega)) (by rfl) A.g__law_draw A.F__law_draw.kp A.b__law_draw .nil pass0 (pa_cons (pv 0) (pa_cons (pv 2) pa_nil))) pa_nil)) pa_nil)) (by rfl)) (pss_cons (ps_set (i := 5) sc__law_other.nd rfl (by first | exact Or.inl rfl | exact Or.inr rfl) (pe_ifExp (pt_cmpR op_eq (pe_op op_mod (pe_callTy call_intI (by rfl) A.n_int (by decide +kernel) (pa_cons (pe_op op_fdiv (pv 1) (pv 4)) pa_nil)) pe_int) pe_int (nomark _)) (pe_op op_sub (pv 1) (pv 4)) (pe_op op_addU (pv 1) (pv 4)))) (pss_cons (ps_set (i := 6) sc__law_other.nd rfl (by first | exact Or.inl rfl | exact Or.inr rfl) (pe_lst (pa_cons (pv 5) (pa_cons (pe_call G__law_draw (hr.mono (by first | decide | omega)) (by rfl) A.g__law_draw A.F__law_draw.kp A.b__law_draw .nil pass0 (pa_cons (pv 0) (pa_cons (pv 3) pa_nil))) (pa_cons (pe_op op_mod (pe_callTy call_intI (by rfl) A.n_int (by decide +kernel) (pa_cons (pe_op op_addU (pv 1) pe_int) pa_nil)) (pv 3)) (pa_cons (pe_op op_mod (pe_callTy call_intI (by rfl) A.n_int (by decide +kernel) (pa_cons (pe_op op_sub (pe_op op_addU (pv 1) (pv 3)) pe_int) pa_nil)) (pv 3)) pa_nil)))))) (pss_one (ps_ret (pe_call G__law_choice (hr.mono (by first | decide | omega)) (by rfl) A.g__law_choice A.F__law_choice.kp A.b__law_choice .nil pass0 (pa_cons (pv 0) (pa_cons (pe_lc (own := [("_law_thing", 7)]) (g := gName 7) rfl sc__law_other.nd (pi_list (pv 6)) (blkOk_by (N := N__law_other) (sc := defScope s__law_other) (by decide +kernel)) (fun _ _ _ _ _ => pg_name (i := 7) sc__law_other.nd rfl (Or.inl rfl)) (fun _ _ _ _ _ => (pts_one (pt_cmpR op_ne (pv 7) (pv 1) (nomark _)))) (fun _ _ _ _ _ => (pv 7))) pa_nil)))))))), ?_⟩
  walk_at "wp"
  obtain ⟨r, i, n, rfl, rfl, rfl, hR, n1, n2, i0, i1, q⟩ := h
  have p1 := two_pow_le n.toNat 0 (by omega)
  have p2 := two_pow_le 10 n.toNat (by omega)
  have p3 : (2 : Int) ^ 10 = 1024 := by decide
  have p4 : (2 : Int) ^ 0 = 1 := by decide
  refine ⟨_, rfl, n, rfl, by omega, by omega, ?_⟩
  refine useDraw hR n1 (by omega) fun d H1 d0 d1 k1 R1 => ⟨_, rfl, d, rfl, d0, by omega, ?_⟩
  have q1 := two_pow_le d.toNat 0 (by omega)
  have q2 := two_pow_le 10 d.toNat (by omega)
  generalize (2 : Int) ^ n.toNat = Z at *
  generalize (2 : Int) ^ d.toNat = Y at *
  refine ⟨_, _, ⟨rfl, rfl⟩, _, rfl, _, rfl, by unfold CDiv; omega, by decide, ifD (fun _ => ⟨_, rfl, _, rfl, ?_⟩) (fun _ => ?_)⟩
  rotate_left
  rw [rAdd_int]
  all_goals
    refine useDraw R1 (by omega) (by omega) fun e H3 e0 e1 k3 R3 => ?_
    rw [rAdd_int]
    refine ⟨_, rfl, _, rfl, by omega, ?_⟩
    rw [rAdd_int]
    refine ⟨_, rfl, _, rfl, by omega, sm20 (by show 4 ≤ 100; decide), fun p np => ?_⟩
    refine lcList p _ (tNe i) id (.inl (.inl upd_same)) (by rw [sizeLine_eq]; show 4 < _; decide) (fun R h => ⟨_, rfl, h⟩) (fun _ => rfl) (fun x mx H' R _ h => ?_) (fun x mx _ H' R _ hR => ⟨_, rfl, hR⟩) fun D hD => ?_
    · obtain ⟨j, rfl⟩ : ∃ j : Int, x = .int j := by
        simp only [List.mem_cons, List.not_mem_nil, or_false] at mx
        rcases mx with rfl | rfl | rfl | rfl <;> exact ⟨_, rfl⟩
      show tTest _ [some (.ref r), some (.int i), some (.int n), some (.int Z), some (.int Y), _, some (.ref p), some (.int j)] H' R
      walk_at "wp"
      exact h
    · rw [List.map_id]
      refine ⟨_, _, rfl, r, D, _, rfl, rfl, (R3.new np rfl).ne hD, (R3.new np rfl).new hD rfl, upd_same, ?_, ?_, fun v H' hv k hR' => ?_⟩
      · refine List.length_pos_of_mem (List.mem_filter.mpr ⟨List.mem_cons_self, ?_⟩)
        show (!decide (_ = i)) = true
        rw [decide_eq_false (by omega)]
        rfl
      · refine Nat.le_trans (List.length_filter_le _ _) (by show 4 ≤ 1000; decide)
      · have hv := (List.mem_filter.mp hv).1
        have m1 := Int.emod_nonneg (i + 1) (show Z ≠ 0 by omega)
        have m2 := Int.emod_lt_of_pos (i + 1) (show 0 < Z by omega)
        have m3 := Int.emod_nonneg (i + Z - 1) (show Z ≠ 0 by omega)
        have m4 := Int.emod_lt_of_pos (i + Z - 1) (show 0 < Z by omega)
        have kk := (k1.trans (k3.trans (KeepX.new (r := r) np))).trans ((KeepX.new (r := r) hD).trans k)
        simp only [List.mem_cons, List.not_mem_nil, or_false] at hv
        rcases hv with rfl | rfl | rfl | rfl <;> exact q _ _ (by omega) kk hR'
def spBarred : Sp := fun vs H Q _ => ∃ x y z, vs = [x, y, z] ∧ ∃ (r : Addr) (i n : Int), x = .ref r ∧ y = .int i ∧ z = .int n ∧ RngAt H r ∧ 1 ≤ n ∧ n ≤ 10 ∧ 0 ≤ i ∧ i < 2 ^ n.toNat ∧ ∀ (p : Addr) (xs : List V) H', xs.length ≤ 40 → (∀ x ∈ xs, ∃ j : Int, x = .int j ∧ j.natAbs < 2 ^ 20) → p ≠ r → H' p = some (.lst xs) → KeepX r H H' → RngAt H' r → Q (.ref p) H'
theorem lcR_eq {ta : TA} {te : TE} {g : TG} {tt : TT} {vs : List Nat} {σ : L2.St} {H : Hp} {Q : VK} : tLc (iRng1 ta) g tt te vs σ H Q = ta σ H fun ys H1 => tLc (iRng1 fun _ H R => R ys H) g tt te vs σ H1 Q := rfl
include A in
theorem ok__law_barred : FnOk P w K mg base CX0 4 A.f__law_barred A.fd__law_barred ["_law_rng_here", "_law_number", "_law_many"] spBarred := by
  have G__law_draw := ok__law_draw (P := P) (w := w) (base := base) A
  have G__law_other := ok__law_other (P := P) (w := w) (base := base) A
  refine A.F__law_barred.ok sc__law_barred (fun vs H Q E h => ?_) (fun cdv Ar outer s H vs Q E hr h => ?_)
  · obtain ⟨_, _, _, rfl, _⟩ := h
    rfl
  obtain ⟨x, y, z, rfl, h⟩ := h
  refine ⟨_, (pss_cons (ps_setLc (i := 3) (own := [("_law_turn", 4)]) (g := gName 4) (tt := tYes) rfl sc__law_barred.nd rfl rfl (sw_true rfl rfl rfl (by decide +kernel)) (pi_range1 (by rfl) A.n_range (pa_cons (pe_ix ix_u (pe_lst (pa_cons pe_int (pa_cons pe_int (pa_cons pe_int (pa_cons (pe_call G__law_draw (hr.mono (by first | decide | omega)) (by rfl) A.g__law_draw A.F__law_draw.kp A.b__law_draw .nil pass0 (pa_cons (pv 0) (pa_cons pe_int pa_nil))) pa_nil))))) (pe_call G__law_draw (hr.mono (by first | decide | omega)) (by rfl) A.g__law_draw A.F__law_draw.kp A.b__law_draw .nil pass0 (pa_cons (pv 0) (pa_cons pe_int pa_nil))) (fun _ _ => rfl)) pa_nil)) (blkOk_by (N := N__law_barred) (sc := defScope s__law_barred) (by decide +kernel)) (fun _ _ _ _ _ => pg_name (i := 4) sc__law_barred.nd rfl (Or.inl rfl)) (fun _ _ _ _ _ => pts_nil) (fun _ _ _ _ _ => (pe_call G__law_other (hr.mono (by first | decide | omega)) (by rfl) A.g__law_other A.F__law_other.kp A.b__law_other .nil pass0 (pa_cons (pv 0) (pa_cons (pv 1) (pa_cons (pv 2) pa_nil)))))) (pss_one (ps_ret (pe_op op_addU (pv 3) (pe_slice sl_list (pv 3) po_none (po_some (pe_call G__law_draw (hr.mono (by first | decide | omega)) (by rfl) A.g__law_draw A.F__law_draw.kp A.b__law_draw .nil pass0 (pa_cons (pv 0) (pa_cons pe_int pa_nil))))))))), ?_⟩
  walk_at "wp"
  obtain ⟨r, i, n, rfl, rfl, rfl, hR, n1, n2, i0, i1, q⟩ := h
  rw [lcR_eq]
  walk_at "wp"
  refine useDraw hR (by decide) (by decide) fun d H1 d0 d1 k1 R1 => ⟨sm20 (by show 4 ≤ 100; decide), fun p np => ?_⟩
  have k2 := k1.trans (KeepX.new (r := r) (o := .lst [.int 0, .int 1, .int 2, .int d]) np)
  have R2 := R1.new (o := .lst [.int 0, .int 1, .int 2, .int d]) np rfl
  have e2 := upd_same (H := H1) (a := p) (o := .lst [.int 0, .int 1, .int 2, .int d])
  have pr := R1.ne np
  generalize upd H1 p _ = H2 at *
  refine useDraw R2 (by decide) (by decide) fun c H3 c0 c1 k3 R3 => ?_
  have e3 := k3 p _ pr e2
  obtain ⟨m, em, m0, m1⟩ : ∃ m : Int, atI [V.int 0, V.int 1, V.int 2, V.int d] c = some (.int m) ∧ 0 ≤ m ∧ m ≤ 12 := by
    rcases (show c = 0 ∨ c = 1 ∨ c = 2 ∨ c = 3 by omega) with rfl | rfl | rfl | rfl
    · exact ⟨0, rfl, by decide, by decide⟩
    · exact ⟨1, rfl, by decide, by decide⟩
    · exact ⟨2, rfl, by decide, by decide⟩
    · exact ⟨d, rfl, d0, by omega⟩
  show rIxU (V.ref p) (V.int c) _ _
  rw [rIxU_ref]
  refine ⟨_, _, by rw [e3]; rfl, em, ?_⟩
  refine lcDraw m (fun R h => h) (by omega) (by omega) (fun v => ∃ j : Int, v = .int j ∧ j.natAbs < 2 ^ 20) R3 (fun _ => rfl) (fun t H' ht k R' R h => ?_) fun D H4 xs xl xp hD e4 k4 R4 => ?_
  · exact ⟨_, rfl, _, rfl, _, rfl, _, _, _, rfl, r, i, n, rfl, rfl, rfl, R', n1, n2, i0, i1, fun j H'' hj kj Rj => h _ _ ⟨j, rfl, hj⟩ kj Rj⟩
  · refine useDraw R4 (by decide) (by decide) fun g H5 g0 g1 k5 R5 => ?_
    have Dr := R3.ne hD
    have e5 := k5 D _ Dr e4
    refine ⟨_, rfl, D, xs, rfl, .inl (.inl e5), fun p6 np6 => ?_⟩
    show Cv.rAdd (V.ref D) (V.ref p6) _ _
    rw [rAdd_ref]
    have cl : (cutV xs none (some g)).length ≤ xs.length := by
      unfold cutV
      simp
      try omega
    have cm : ∀ x ∈ cutV xs none (some g), x ∈ xs := fun x hx => by
      unfold cutV at hx
      exact List.mem_of_mem_drop (List.mem_of_mem_take hx)
    have e6 : upd H5 p6 (.lst (cutV xs none (some g))) D = some (.lst xs) := by rw [upd_ne (ne_of_none e5 np6)]; exact e5
    refine ⟨_, _, by rw [e6]; rfl, by rw [upd_same]; rfl, sm20 (by omega), fun p7 np7 => ?_⟩
    refine q p7 _ _ (by rw [List.length_append]; omega) (fun x hx => ?_) ((R5.new np6 rfl).ne np7) upd_same (k2.trans (k3.trans (k4.trans (k5.trans ((KeepX.new np6).trans (KeepX.new np7)))))) ((R5.new np6 rfl).new np7 rfl)
    rcases List.mem_append.mp hx with h | h
    · exact xp x h
    · exact xp x (cm x h)
end
end K15

namespace K15
open PySem PySem.Spec PyProof.Rows L2 Cv
section
variable {P : Program} {w : World} {K : PySem.W.Frag} {mg : Str → Option Value} {base : Heap} (A : All K mg)
local macro_rules | `(tactic| walk_at "wp") => `(tactic| simp only [tSeq, tAsg, tRet, tRetN, tPar, tCallS, tCallSD, WE, tXf, tVeI, tOst, wNames, tKwS, tBM, tBM0, tSl, tPart, tNoPart, rSlS, tIfS, tNext, tDrop, tOp, tUn, tVar, tC, tCons, tNil, tCB, tCall, tCallN, gP, List.filterMap_cons, List.filterMap_nil, List.nil_append, List.cons_append, List.length_cons, List.length_nil, tTest, tB, tNot, tAnd, tOr, tAndV, tOrV, tNotV, tIf, tChain, tTup, tLst, Evl.tCut, gName, gTup, gCons, gNil, gSub, rI, rI0, rU, rIs, rIntI, rIntB, tDNewK, rEq_int, rNe_int, rEq_str, rNe_str, rAdd_int, rAdd_str, rAdd_ref, rIxU_ref, rIxU_str, rLenU_ref, rLenU_str, rSetL, start_cc, start_cn, start_nn, List.set_cons_zero, List.set_cons_succ, List.map_cons, List.map_nil, List.getElem?_cons_zero, List.getElem?_cons_succ, Option.some.injEq, V.int.injEq, V.bl.injEq, V.str.injEq, V.ref.injEq, V.ty.injEq, List.cons.injEq, and_true, true_and, exists_eq_left', exists_eq_left, exists_and_left, exists_and_right, List.append_nil, ↓reduceIte])
def spToldD (K : PySem.W.Frag) : Sp := fun vs H Q _ => ∃ v b B, vs = [v, b, B] ∧ ∃ (r c : Addr) (xs : List V) (zs : List Str) (zv zb : Str), B = .ref c ∧ NoDT H ∧ SqA K H c xs ∧ xs.length ≤ 100 ∧ OdL H r xs zs ∧ Od H r v zv ∧ Od H r b zb ∧ ∀ p, H p = none → Q (.ref p) (upd H p (.lst (dueL v b xs zs zv zb)))
include A in
theorem ok_toldD : FnG P w K mg base CX0 7 A.f__law_told A.fd__law_told ["_law_number", "_law_many", "_law_some"] (spToldD K) :=
  fnGDrop (ok__law_told A) fun vs H Q E ⟨v, b, B, e, r, c, xs, zs, zv, zb, e2, nd, hS, hl, ol, ov, ob, q⟩ => ⟨v, b, B, e, r, c, xs, zs, zv, zb, e2, nd, hS, hl, ol, ov, ob, fun H' p np s hp => ⟨_, drop_new nd s np hp (fun _ => trivial), q p np⟩⟩
def spDueD (K : PySem.W.Frag) : Sp := fun vs H Q _ => ∃ v b B, vs = [v, b, B] ∧ ∃ (r c : Addr) (xs : List V) (zs : List Str) (zv zb : Str), B = .ref c ∧ NoDT H ∧ SqL K H c xs ∧ xs.length ≤ 100 ∧ OdL H r xs zs ∧ Od H r v zv ∧ Od H r b zb ∧ ∀ p, H p = none → Q (.ref p) (upd H p (.lst (dueL v b xs zs zv zb)))
include A in
theorem ok_dueD : FnG P w K mg base CX0 4 A.f__law_due A.fd__law_due ["_law_number", "_law_many", "_law_some"] (spDueD K) :=
  fnGDrop (ok__law_due A) fun vs H Q E ⟨v, b, B, e, r, c, xs, zs, zv, zb, e2, nd, hS, hl, ol, ov, ob, q⟩ => ⟨v, b, B, e, r, c, xs, zs, zv, zb, e2, nd, hS, hl, ol, ov, ob, fun H' p np s hp => ⟨_, drop_new nd s np hp (fun _ => trivial), q p np⟩⟩
theorem cutV_mem {xs : List V} {lo hi : Option Int} {x : V} (h : x ∈ cutV xs lo hi) : x ∈ xs := by
  unfold cutV at h
  exact List.mem_of_mem_drop (List.mem_of_mem_take h)
theorem badT_ok {H : Hp} {r : Addr} (i n : Int) : ∀ (xs : List V) (zs : List Str) {z : Str}, OdL H r xs zs → badT i n xs zs = some z → PyData.strOk z = true
  | x :: xs, y :: zs, z, ol, h => by
    rw [badT] at h
    split at h
    · cases h
      obtain ⟨z2, e2, o2⟩ := ol 0 x rfl
      cases Option.some.inj e2
      exact o2.ok
    · exact badT_ok i n xs zs (fun k u hu => ol (k + 1) u hu) h
  | [], _, _, _, h => by cases h
  | _ :: _, [], _, _, h => by cases h
theorem due_data {H : Hp} {r : Addr} {v b : V} {xs : List V} {zs : List Str} {zv zb : Str} (ol : OdL H r xs zs) (ov : Od H r v zv) (ob : Od H r b zb) : ∃ ds, (∀ K G, DpAll K G (dueL v b xs zs zv zb) ds) ∧ SeqAt.shaped (.list ds) = true := by
  have three : ∀ (s z : Str), PyData.strOk s = true → PyData.strOk z = true → ∃ ds, (∀ K G, DpAll K G [.str s, .str z, .bl true] ds) ∧ SeqAt.shaped (.list ds) = true := fun s z h1 h2 => ⟨_, fun _ _ => .cons (.str _) (.cons (.str _) (.cons (.bl _) .nil)), flat_shaped h1 h2⟩
  unfold dueL
  split
  · exact three _ _ (strOk_ofString _) ob.ok
  split
  · exact three _ _ (strOk_ofString _) ov.ok
  · rename_i h1 h2
    have h1 : isBits b = true := by simpa using h1
    obtain ⟨n, rfl, n1, n2⟩ := isBits_int h1
    have h2 : isVal v (.int n) = true := by simpa using h2
    obtain ⟨i, rfl, i0, i1⟩ := isVal_int h2
    show ∃ ds, (∀ K G, DpAll K G (match badT i n xs zs with | some z => [.str "value", .str z, .bl true] | none => [.str "told", .str (toldT i n xs)]) ds) ∧ _
    cases hb : badT i n xs zs with
    | some z => exact three _ _ (strOk_ofString _) (badT_ok i n xs zs ol hb)
    | none =>
      have wd := cut_dig (lo := none) (hi := some (wid n.toNat i xs : Int)) (digS_dig n.toNat i)
      have wl : (cutW i n xs).length ≤ 10 := Nat.le_trans (cutS_length _ _ _) (by rw [digS_len]; omega)
      have nw : Ni (.str (cutW i n xs)) 0 10 := ni_str wl (strOk_dig wd)
      have ne : Ni (.str (Str.ofString "")) 0 10 := ni_str (by decide +kernel) (by decide +kernel)
      have nt := nice_of (ni_list (ni_cons nw (ni_cons nw (ni_cons ne ni_nil)))) (by decide) (by decide)
      have tk : PyData.strOk (toldT i n xs) = true := shown_ok _ (nice_parts nt).1
      refine ⟨_, fun _ _ => .cons (.str _) (.cons (.str _) .nil), ?_⟩
      exact flat_shaped2 (strOk_ofString _) tk
theorem odl_of {H : Hp} {r : Addr} : ∀ {xs : List V}, (∀ x ∈ xs, OdE H r x) → ∃ zs, OdL H r xs zs
  | [], _ => ⟨[], fun k x h => by simp at h⟩
  | x :: xs, h => by
    obtain ⟨z, oz⟩ := h x List.mem_cons_self
    obtain ⟨zs, ol⟩ := odl_of (xs := xs) fun y hy => h y (List.mem_cons_of_mem _ hy)
    refine ⟨z :: zs, fun k y hy => ?_⟩
    cases k with
    | zero => exact ⟨z, rfl, by cases Option.some.inj hy; exact oz⟩
    | succ k => exact ol k y hy
mutual
theorem dq_of {K : PySem.W.Frag} {H : Hp} : ∀ {v : V} {d : PyData}, Dp K H v d → Dq K H v d
  | _, _, .non => .non
  | _, _, .bl b => .bl b
  | _, _, .int i => .int i
  | _, _, .str z => .str z
  | _, _, .lst h r => .lst h (dqs_of r)
  | _, _, .tup h r => .tup h (dqs_of r)
theorem dqs_of {K : PySem.W.Frag} {H : Hp} : ∀ {v : List V} {d : List PyData}, DpAll K H v d → DqAll K H v d
  | _, _, .nil => .nil
  | _, _, .cons h r => .cons (dq_of h) (dqs_of r)
end
theorem od_dq {K : PySem.W.Frag} {H : Hp} {r : Addr} {v : V} {z : Str} (o : Od H r v z) : ∃ d, (∀ G, KeepX r H G → Dq K G v d) ∧ Nq d 40 100000 := by
  cases o with
  | flat h n => exact ⟨_, fun G _ => dq_of (h K G), nq_nice n⟩
  | lst ne e h n => exact ⟨_, fun G k => dq_of (.lst (.inl (.inl (k _ _ ne e))) (h K G)), nq_nice n⟩
  | tup ne e h n => exact ⟨_, fun G k => dq_of (.tup (.inl (.inl (k _ _ ne e))) (h K G)), nq_nice n⟩
  | dct ne e => exact ⟨_, fun G k => .dct (k _ _ ne e), nq_dct.1, by have := nq_dct.2.1; omega, by have := nq_dct.2.2.1; omega, nq_dct.2.2.2⟩
theorem ints_dq {K : PySem.W.Frag} : ∀ {xs : List V}, (∀ x ∈ xs, ∃ q : Int, x = .int q ∧ q.natAbs < 2 ^ 39) → ∃ ds, (∀ G, DqAll K G xs ds) ∧ NqAll ds 40 (xs.length * 41)
  | [], _ => ⟨[], fun _ => .nil, nq_nil.1, by have := nq_nil.2.1; omega, by have := nq_nil.2.2.1; omega, nq_nil.2.2.2⟩
  | x :: xs, h => by
    obtain ⟨q, rfl, hq⟩ := h x List.mem_cons_self
    obtain ⟨ds, d1, d2⟩ := ints_dq (K := K) (xs := xs) fun y hy => h y (List.mem_cons_of_mem _ hy)
    have := nq_cons (nq_ni (ni_int hq)) d2
    refine ⟨_, fun G => .cons (.int q) (d1 G), this.1, by have := this.2.1; omega, ?_, this.2.2.2⟩
    have := this.2.2.1
    rw [List.length_cons]
    omega
theorem dqAll_app {K : PySem.W.Frag} {H : Hp} : ∀ {xs ys : List V} {ds es : List PyData}, DqAll K H xs ds → DqAll K H ys es → DqAll K H (xs ++ ys) (ds ++ es)
  | _, _, _, _, .nil, q => q
  | _, _, _, _, .cons h r, q => .cons h (dqAll_app r q)
theorem nqAll_app : ∀ {ds es : List PyData} {k w1 w2 : Nat}, NqAll ds k w1 → NqAll es k w2 → NqAll (ds ++ es) k (w1 + w2)
  | [], es, k, w1, w2, _, q => ⟨q.1, q.2.1, by have := q.2.2.1; show PyData.weightAll es ≤ _; omega, q.2.2.2⟩
  | d :: ds, es, k, w1, w2, ⟨p1, p2, p3, p4⟩, q => by
    simp only [PyData.leavesShortAll, PyData.depthAll, PyData.weightAll, PyData.showableAll, Bool.and_eq_true] at p1 p2 p3 p4
    obtain ⟨r1, r2, r3, r4⟩ := nqAll_app (ds := ds) (es := es) (k := k) (w1 := PyData.weightAll ds) (w2 := w2) ⟨p1.2, by omega, Nat.le_refl _, p4.2⟩ q
    refine ⟨?_, ?_, ?_, ?_⟩
    · simp only [List.cons_append, PyData.leavesShortAll, p1.1, r1, Bool.and_self]
    · simp only [List.cons_append, PyData.depthAll]; omega
    · simp only [List.cons_append, PyData.weightAll]; omega
    · simp only [List.cons_append, PyData.showableAll, p4.1, r4, Bool.and_self]
/-- ints, but for one thing at most -/
def Most (H : Hp) (r : Addr) (ys : List V) : Prop := ∃ as us bs, ys = as ++ us ++ bs ∧ us.length ≤ 1 ∧ (∀ x ∈ us, OdE H r x) ∧ (∀ x ∈ as, ∃ q : Int, x = .int q ∧ q.natAbs < 2 ^ 39) ∧ ∀ x ∈ bs, ∃ q : Int, x = .int q ∧ q.natAbs < 2 ^ 39
theorem Most.od {H : Hp} {r : Addr} {ys : List V} (m : Most H r ys) : ∀ x ∈ ys, OdE H r x := by
  obtain ⟨as, us, bs, rfl, _, h1, h2, h3⟩ := m
  intro x hx
  rcases List.mem_append.mp hx with hx | hx
  · rcases List.mem_append.mp hx with hx | hx
    · obtain ⟨q, rfl, hq⟩ := h2 x hx
      exact ode_int hq
    · exact h1 x hx
  · obtain ⟨q, rfl, hq⟩ := h3 x hx
    exact ode_int hq
theorem Most.keep {H H' : Hp} {r : Addr} {ys : List V} (m : Most H r ys) (k : KeepX r H H') : Most H' r ys := by
  obtain ⟨as, us, bs, e, l, h1, h2, h3⟩ := m
  exact ⟨as, us, bs, e, l, fun x hx => (h1 x hx).keep k, h2, h3⟩
theorem Most.dq {K : PySem.W.Frag} {H : Hp} {r : Addr} {ys : List V} (m : Most H r ys) (hl : ys.length ≤ 100) : ∃ ds, (∀ G, KeepX r H G → DqAll K G ys ds) ∧ NqAll ds 40 110000 := by
  obtain ⟨as, us, bs, rfl, l, h1, h2, h3⟩ := m
  rw [List.length_append, List.length_append] at hl
  obtain ⟨d1, a1, n1⟩ := ints_dq (K := K) h2
  obtain ⟨d3, a3, n3⟩ := ints_dq (K := K) h3
  have : ∃ d2, (∀ G, KeepX r H G → DqAll K G us d2) ∧ NqAll d2 40 100001 := by
    match us, l, h1 with
    | [], _, _ => exact ⟨[], fun _ _ => .nil, nq_nil.1, by have := nq_nil.2.1; omega, by have := nq_nil.2.2.1; omega, nq_nil.2.2.2⟩
    | [u], _, h1 =>
      obtain ⟨z, oz⟩ := h1 u List.mem_cons_self
      obtain ⟨d, q1, q2⟩ := od_dq (K := K) oz
      have := nq_cons q2 nq_nil
      exact ⟨_, fun G k => .cons (q1 G k) .nil, this.1, by have := this.2.1; omega, by have := this.2.2.1; omega, this.2.2.2⟩
    | _ :: _ :: _, l, _ => simp at l
  obtain ⟨d2, a2, n2⟩ := this
  have n := nqAll_app (nqAll_app n1 n2) n3
  exact ⟨_, fun G k => dqAll_app (dqAll_app (a1 G) (a2 G k)) (a3 G), n.1, n.2.1, by have := n.2.2.1; omega, n.2.2.2⟩
def spLaw (K : PySem.W.Frag) : Sp := fun vs H Q _ => ∃ x, vs = [x] ∧ ∃ (a : Addr) (ns : List Int), x = .ref a ∧ SqL K H a (ns.map V.int) ∧ ns.length ≤ 63 ∧ NoDT H ∧ ∀ H', Q (.bl true) H'
include A in
theorem ok_law : FnG P w K mg base CX0 8 A.f_law A.fd_law ["_law_script"] (spLaw K) := by
  have G__law_rng := ok__law_rng (P := P) (w := w) (base := base) A
  have G__law_draw := ok__law_draw (P := P) (w := w) (base := base) A
  have G__law_power := ok__law_power (P := P) (w := w) (base := base) A
  have G__law_barred := ok__law_barred (P := P) (w := w) (base := base) A
  have G__law_odd := ok__law_odd (P := P) (w := w) (base := base) A
  have G__law_choice := ok__law_choice (P := P) (w := w) (base := base) A
  have G__law_told := ok_toldD (P := P) (w := w) (base := base) A
  have G__law_due := ok_dueD (P := P) (w := w) (base := base) A
  refine funG A.F_law sc_law (fun vs H Q E h => ?_) (fun cdv Ar outer s H vs Q E hr gd h => ?_)
  · obtain ⟨_, rfl, _⟩ := h
    rfl
  obtain ⟨x, rfl, h⟩ := h
  refine ⟨_, (pss_cons (ps_for PassesOwn.never rfl (pi_range1 (by rfl) A.n_range (pa_cons (pe_callB (call_max2 rfl) (by rfl) A.n_max (by decide +kernel) (pa_cons pe_int (pa_cons (pe_callB (call_min2 rfl) (by rfl) A.n_min (by decide +kernel) (pa_cons (pe_callB call_len_seq (by rfl) A.n_len (by decide +kernel) (pa_cons (pv 0) pa_nil)) (pa_cons pe_int pa_nil))) pa_nil))) pa_nil)) (pg_name (i := 1) sc_law.nd rfl (by first | exact Or.inl rfl | exact Or.inr rfl)) (pss_cons (ps_set (i := 2) sc_law.nd rfl (by first | exact Or.inl rfl | exact Or.inr rfl) (pe_call G__law_rng (hr.mono (by first | decide | omega)) (by rfl) A.g__law_rng A.F__law_rng.kp A.b__law_rng .nil pass0 (pa_cons (pv 0) (pa_cons (pv 1) pa_nil)))) (pss_one (ps_for PassesOwn.never rfl (pi_range1 (by rfl) A.n_range (pa_cons pe_int pa_nil)) (pg_name (i := 3) sc_law.nd rfl (by first | exact Or.inl rfl | exact Or.inr rfl)) (pss_cons (ps_set (i := 4) sc_law.nd rfl (by first | exact Or.inl rfl | exact Or.inr rfl) (pe_op op_addU pe_int (pe_call G__law_draw (hr.mono (by first | decide | omega)) (by rfl) A.g__law_draw A.F__law_draw.kp A.b__law_draw .nil pass0 (pa_cons (pv 2) (pa_cons pe_int pa_nil))))) (pss_cons (ps_set (i := 5) sc_law.nd rfl (by first | exact Or.inl rfl | exact Or.inr rfl) (pe_call G__law_draw (hr.mono (by first | decide | omega)) (by rfl) A.g__law_draw A.F__law_draw.kp A.b__law_draw .nil pass0 (pa_cons (pv 2) (pa_cons (pe_call G__law_power (hr.mono (by first | decide | omega)) (by rfl) A.g__law_power A.F__law_power.kp A.b__law_power .nil pass0 (pa_cons (pv 4) pa_nil)) pa_nil)))) (pss_cons (ps_set (i := 6) sc_law.nd rfl (by first | exact Or.inl rfl | exact Or.inr rfl) (pe_call G__law_barred (hr.mono (by first | decide | omega)) (by rfl) A.g__law_barred A.F__law_barred.kp A.b__law_barred .nil pass0 (pa_cons (pv 2) (pa_cons (pv 5) (pa_cons (pv 4) pa_nil))))) (pss_cons (ps_set (i := 7) sc_law.nd rfl (by first | exact Or.inl rfl | exact Or.inr rfl) (pe_call G__law_draw (hr.mono (by first | decide | omega)) (by rfl) A.g__law_draw A.F__law_draw.kp A.b__law_draw .nil pass0 (pa_cons (pv 2) (pa_cons pe_int pa_nil)))) (Evl.pss_cut (ps_if (pt_cmpR op_eq (pv 7) pe_int (nomark _)) (pss_one (ps_set (i := 4) sc_law.nd rfl (by first | exact Or.inl rfl | exact Or.inr rfl) (pe_call G__law_odd (hr.mono (by first | decide | omega)) (by rfl) A.g__law_odd A.F__law_odd.kp A.b__law_odd .nil pass0 (pa_cons (pv 2) pa_nil)))) pss_nil) (Evl.pss_cut (ps_if (pt_cmpR op_in_seq (pv 7) (pe_tup (pa_cons pe_int (pa_cons pe_int pa_nil))) (by with_unfolding_all rfl)) (pss_one (ps_set (i := 5) sc_law.nd rfl (by first | exact Or.inl rfl | exact Or.inr rfl) (pe_call G__law_choice (hr.mono (by first | decide | omega)) (by rfl) A.g__law_choice A.F__law_choice.kp A.b__law_choice .nil pass0 (pa_cons (pv 2) (pa_cons (pe_lst (pa_cons (pv 5) (pa_cons (pe_call G__law_odd (hr.mono (by first | decide | omega)) (by rfl) A.g__law_odd A.F__law_odd.kp A.b__law_odd .nil pass0 (pa_cons (pv 2) pa_nil)) (pa_cons pe_int (pa_cons (pe_un un_neg pe_int) pa_nil))))) pa_nil))))) pss_nil) (Evl.pss_cut (ps_if (pt_cmpR op_in_seq (pv 7) (pe_tup (pa_cons pe_int (pa_cons pe_int (pa_cons pe_int pa_nil)))) (by with_unfolding_all rfl)) (pss_cons (ps_set (i := 8) sc_law.nd rfl (by first | exact Or.inl rfl | exact Or.inr rfl) (pe_call G__law_draw (hr.mono (by first | decide | omega)) (by rfl) A.g__law_draw A.F__law_draw.kp A.b__law_draw .nil pass0 (pa_cons (pv 2) (pa_cons (pe_op op_addU (pe_callB call_len_seq (by rfl) A.n_len (by decide +kernel) (pa_cons (pv 6) pa_nil)) pe_int) pa_nil)))) (pss_one (ps_set (i := 6) sc_law.nd rfl (by first | exact Or.inl rfl | exact Or.inr rfl) (pe_op op_addU (pe_op op_addU (pe_slice sl_list (pv 6) po_none (po_some (pv 8))) (pe_lst (pa_cons (pe_call G__law_choice (hr.mono (by first | decide | omega)) (by rfl) A.g__law_choice A.F__law_choice.kp A.b__law_choice .nil pass0 (pa_cons (pv 2) (pa_cons (pe_lst (pa_cons (pv 5) (pa_cons (pv 5) (pa_cons (pe_call G__law_odd (hr.mono (by first | decide | omega)) (by rfl) A.g__law_odd A.F__law_odd.kp A.b__law_odd .nil pass0 (pa_cons (pv 2) pa_nil)) (pa_cons pe_int (pa_cons (pe_un un_neg pe_int) pa_nil)))))) pa_nil))) pa_nil))) (pe_slice sl_list (pv 6) (po_some (pv 8)) po_none))))) pss_nil) (pss_cons (ps_set (i := 9) sc_law.nd rfl (by first | exact Or.inl rfl | exact Or.inr rfl) (pe_ix ix_u (pe_lst (pa_cons (pe_callTy call_list_of (by rfl) A.n_list (by decide +kernel) (pa_cons (pv 6) pa_nil)) (pa_cons (pe_callTy call_tuple_of (by rfl) A.n_tuple (by decide +kernel) (pa_cons (pv 6) pa_nil)) pa_nil))) (pe_call G__law_draw (hr.mono (by first | decide | omega)) (by rfl) A.g__law_draw A.F__law_draw.kp A.b__law_draw .nil pass0 (pa_cons (pv 2) (pa_cons pe_int pa_nil))) (fun _ _ => rfl))) (pss_cons (ps_set (i := 10) sc_law.nd rfl (by first | exact Or.inl rfl | exact Or.inr rfl) (pe_callB (call_reprQ (K0 := K) rfl A.sy gd hr.units) (by rfl) A.n_repr (by decide +kernel) (pa_cons (pv 9) pa_nil))) (pss_one (ps_if ((pw_or (pt_cmpR (op_neD (by have := hr.units; exact this)) (pe_callG G__law_told (hr.mono (by first | decide | omega)) gd (by rfl) A.g__law_told A.F__law_told.kp A.b__law_told .nil pass0 (pa_cons (pv 5) (pa_cons (pv 4) (pa_cons (pv 9) pa_nil)))) (pe_callG G__law_due (hr.mono (by first | decide | omega)) gd (by rfl) A.g__law_due A.F__law_due.kp A.b__law_due .nil pass0 (pa_cons (pv 5) (pa_cons (pv 4) (pa_cons (pv 6) pa_nil)))) (nomark _)) (pw_or1 (pt_cmpR op_ne (pe_callB (call_reprQ (K0 := K) rfl A.sy gd hr.units) (by rfl) A.n_repr (by decide +kernel) (pa_cons (pv 9) pa_nil)) (pv 10) (nomark _))))).pt (pss_one (ps_ret pe_bl)) pss_nil))))))))))))))) (pss_one (ps_ret pe_bl))), ?_⟩
  walk_at "wp"
  obtain ⟨a, ns, rfl, hS, hl, nd, q⟩ := h
  obtain ⟨n, hn, n0, n1⟩ : ∃ n : Int, (if (if 8 < ((ns.map V.int).length : Int) then (8 : Int) else ((ns.map V.int).length : Int)) > 1 then (if 8 < ((ns.map V.int).length : Int) then (8 : Int) else ((ns.map V.int).length : Int)) else 1) = n ∧ 0 ≤ n ∧ n ≤ 8 := ⟨_, rfl, by split <;> split <;> omega, by split <;> split <;> omega⟩
  refine forR n (fun R h => ?_) (by omega) (by omega) (fun i σ' H' => (∃ y1 y2 y3 y4 y5 y6 y7 y8 y9 y10, σ' = [some (.ref a), y1, y2, y3, y4, y5, y6, y7, y8, y9, y10]) ∧ Same H H' ∧ NoDT H') ⟨⟨_, _, _, _, _, _, _, _, _, _, rfl⟩, Same.refl H, nd⟩ ?_ ?_
  · walk_at "wp"
    exact ⟨_, .inl hS, _, _, ⟨rfl, rfl⟩, _, _, ⟨rfl, rfl⟩, by rw [hn]; exact h⟩
  · rintro i _ H1 hi ⟨⟨y1, y2, y3, y4, y5, y6, y7, y8, y9, y10, rfl⟩, s1, nd1⟩
    walk_at "wp"
    refine ⟨_, _, rfl, a, (i : Int), ns, rfl, rfl, Same.seq s1 hS, by omega, by omega, fun r o hr ho => ?_⟩
    have R1 : RngAt (upd H1 r o) r := ⟨nd1.upd ho.ndt, o, upd_same, ho⟩
    refine forR 8 (fun R h => h) (by decide) (by decide) (fun j σ' H' => (∃ y3 y4 y5 y6 y7 y8 y9 y10, σ' = [some (.ref a), some (.int (i : Int)), some (.ref r), y3, y4, y5, y6, y7, y8, y9, y10]) ∧ KeepX r (upd H1 r o) H' ∧ RngAt H' r) ⟨⟨_, _, _, _, _, _, _, _, rfl⟩, KeepX.refl, R1⟩ ?_ ?_
    · rintro j _ H2 hj ⟨⟨z3, z4, z5, z6, z7, z8, z9, z10, rfl⟩, k2, R2⟩
      walk_at "wp"
      refine useDraw R2 (by decide) (by decide) fun d1 H3 d10 d11 k3 R3 => ?_
      rw [rAdd_int]
      obtain ⟨m, em, m1, m2⟩ : ∃ m : Int, 1 + d1 = m ∧ 1 ≤ m ∧ m ≤ 10 := ⟨_, rfl, by omega, by omega⟩
      rw [em]
      have p1 := two_pow_le m.toNat 0 (by omega)
      have p2 := two_pow_le 10 m.toNat (by omega)
      have p3 : (2 : Int) ^ 10 = 1024 := by decide
      have p4 : (2 : Int) ^ 0 = 1 := by decide
      refine ⟨_, rfl, m, rfl, by omega, by omega, useDraw R3 (by omega) (by omega) fun t H4 t0 t1 k4 R4 => ?_⟩
      refine ⟨_, _, _, rfl, r, t, m, rfl, rfl, rfl, R4, m1, m2, t0, t1, fun p xs H5 xl xp pr e5 k5 R5 => ?_⟩
      refine useDraw R5 (by decide) (by decide) fun way H6 w0 w1 k6 R6 => ?_
      have kk := k2.trans (k3.trans (k4.trans (k5.trans k6)))
      have e6 := k6 p _ pr e5
      refine ⟨fun σ' H' => ∃ b, σ' = [some (.ref a), some (.int (i : Int)), some (.ref r), some (.int (j : Int)), some b, some (.int t), some (.ref p), some (.int way), z8, z9, z10] ∧ OdE H' r b ∧ H' p = some (.lst xs) ∧ KeepX r (upd H1 r o) H' ∧ RngAt H' r, ?_, ?_⟩
      · rw [rEq_int]
        exact ⟨_, rfl, ifD (fun _ => ⟨_, rfl, r, rfl, R6, fun v z H9 o9 k9 R9 => ⟨v, rfl, ⟨z, o9⟩, k9 p _ pr e6, kk.trans k9, R9⟩⟩) (fun _ => ⟨_, rfl, ode_int (by omega), e6, kk, R6⟩)⟩
      clear kk e6 k6 R6
      rintro _ H9 ⟨b, rfl, ob, e9, k9, R9⟩
      refine ⟨fun σ' H' => ∃ v b, σ' = [some (.ref a), some (.int (i : Int)), some (.ref r), some (.int (j : Int)), some b, some v, some (.ref p), some (.int way), z8, z9, z10] ∧ OdE H' r v ∧ OdE H' r b ∧ H' p = some (.lst xs) ∧ KeepX r (upd H1 r o) H' ∧ RngAt H' r, ?_, ?_⟩
      · walk_at "wp"
        refine ⟨sm20 (by show 2 ≤ 100; decide), fun p2 np2 => ⟨p2, [.int 0, .int 1], rfl, .inr (.inl (.inl upd_same)), rfl, rfl, _, rfl, ifB (fun hw => ?_) (fun _ => ?_)⟩⟩
        · have kN := KeepX.new (r := r) (o := .tup [.int 0, .int 1]) np2
          have k10 := k9.trans kN
          have R10 := R9.new (o := .tup [.int 0, .int 1]) np2 rfl
          have ob10 := ob.keep kN
          have e10 := kN p _ pr e9
          generalize upd H9 p2 _ = H10 at *
          refine ⟨_, rfl, r, rfl, R10, fun x zx H12 ox k12 R12 => ?_⟩
          refine ⟨sm20 (by show 4 ≤ 100; decide), fun pl npl => ⟨_, _, rfl, r, pl, _, rfl, rfl, R12.ne npl, R12.new npl rfl, upd_same, by show 0 < 4; decide, by show 4 ≤ 1000; decide, fun u H' hv k hR' => ?_⟩⟩
          have k13 := (KeepX.new (r := r) npl).trans k
          have oz : OdE H' r u := by
            simp only [List.mem_cons, List.not_mem_nil, or_false] at hv
            rcases hv with rfl | rfl | rfl | rfl
            · exact ode_int (by omega)
            · exact ⟨_, ox.keep k13⟩
            · exact ode_int (by decide)
            · exact ode_int (by decide)
          exact ⟨_, _, ⟨rfl, rfl⟩, oz, (ob10.keep k12).keep k13, k13 p _ pr (k12 p _ pr e10), (k10.trans k12).trans k13, hR'⟩
        · have kN := KeepX.new (r := r) (o := .tup [.int 0, .int 1]) np2
          exact ⟨_, _, ⟨rfl, rfl⟩, ode_int (by omega), ob.keep kN, kN p _ pr e9, k9.trans kN, R9.new np2 rfl⟩
      rintro _ H9 ⟨v, b, rfl, ov, ob, e9, k9, R9⟩
      refine ⟨fun σ' H' => ∃ v b c ys y8, σ' = [some (.ref a), some (.int (i : Int)), some (.ref r), some (.int (j : Int)), some b, some v, some (.ref c), some (.int way), y8, z9, z10] ∧ OdE H' r v ∧ OdE H' r b ∧ c ≠ r ∧ H' c = some (.lst ys) ∧ ys.length ≤ 100 ∧ Most H' r ys ∧ KeepX r (upd H1 r o) H' ∧ RngAt H' r, ?_, ?_⟩
      · walk_at "wp"
        have xo : ∀ x ∈ xs, ∃ q : Int, x = .int q ∧ q.natAbs < 2 ^ 39 := fun x hx => by
          obtain ⟨q, rfl, hq⟩ := xp x hx
          exact ⟨q, rfl, by omega⟩
        refine ⟨sm20 (by show 3 ≤ 100; decide), fun p2 np2 => ⟨p2, [.int 0, .int 1, .int 2], rfl, .inr (.inl (.inl upd_same)), rfl, rfl, _, rfl, ifB (fun hw => ?_) (fun _ => ?_)⟩⟩
        · have kN := KeepX.new (r := r) (o := .tup [.int 0, .int 1, .int 2]) np2
          have k10 := k9.trans kN
          have R10 := R9.new (o := .tup [.int 0, .int 1, .int 2]) np2 rfl
          have ob10 := ob.keep kN
          have ov10 := ov.keep kN
          have e10 := kN p _ pr e9
          generalize upd H9 p2 _ = H10 at *
          refine ⟨xs, .inl (.inl (.inl e10)), useDraw R10 (by omega) (by omega) fun g H11 g0 g1 k11 R11 => ⟨g, rfl, p, xs, rfl, .inl (.inl (k11 p _ pr e10)), fun p3 np3 => ?_⟩⟩
          have kA := k11.trans (KeepX.new (r := r) (o := .lst (cutV xs none (some g))) np3)
          have R12 := R11.new (o := .lst (cutV xs none (some g))) np3 rfl
          have p3r := R11.ne np3
          have c12 := upd_same (H := H11) (a := p3) (o := .lst (cutV xs none (some g)))
          generalize upd H11 p3 _ = H12 at *
          refine ⟨_, rfl, r, rfl, R12, fun x zx H13 ox k13 R13 => ⟨sm20 (by show 5 ≤ 100; decide), fun p4 np4 => ⟨_, _, rfl, r, p4, _, rfl, rfl, R13.ne np4, R13.new np4 rfl, upd_same, by show 0 < 5; decide, by show 5 ≤ 1000; decide, fun u H14 hu k14 R14 => ⟨sm20 (by show 1 ≤ 100; decide), fun p5 np5 => ?_⟩⟩⟩⟩
          have kB := (KeepX.new (r := r) np4).trans k14
          have oz : OdE H14 r u := by
            simp only [List.mem_cons, List.not_mem_nil, or_false] at hu
            rcases hu with rfl | rfl | rfl | rfl | rfl
            · exact ((ov10.keep kA).keep k13).keep kB
            · exact ((ov10.keep kA).keep k13).keep kB
            · exact ⟨_, ox.keep kB⟩
            · exact ode_int (by decide)
            · exact ode_int (by decide)
          have kC := kA.trans (k13.trans kB)
          have c14 := kB p3 _ p3r (k13 p3 _ p3r c12)
          clear kB k14 hu
          have kD := KeepX.new (r := r) (o := .lst [u]) np5
          have R15 := R14.new (o := .lst [u]) np5 rfl
          have c15 := kD p3 _ p3r c14
          have u15 := upd_same (H := H14) (a := p5) (o := .lst [u])
          have oz15 := oz.keep kD
          generalize upd H14 p5 _ = H15 at *
          show Cv.rAdd (V.ref p3) (V.ref p5) _ _
          rw [rAdd_ref]
          have l1 := cutV_length xs none (some g)
          have l2 := cutV_length xs (some g) none
          refine ⟨_, _, (congrArg lsM c15).trans rfl, (congrArg lsM u15).trans rfl, sm20 (by show _ + 1 ≤ 100; omega), fun p6 np6 => ⟨g, rfl, p, xs, rfl, .inl (.inl ((KeepX.new (r := r) np6) p _ pr ((kC.trans kD) p _ pr e10))), fun p7 np7 => ?_⟩⟩
          have kE := KeepX.new (r := r) (o := .lst (cutV xs none (some g) ++ [u])) np6
          have R16 := R15.new (o := .lst (cutV xs none (some g) ++ [u])) np6 rfl
          have u16 := upd_same (H := H15) (a := p6) (o := .lst (cutV xs none (some g) ++ [u]))
          have p6r := R15.ne np6
          generalize upd H15 p6 _ = H16 at *
          have kF := KeepX.new (r := r) (o := .lst (cutV xs (some g) none)) np7
          have R17 := R16.new (o := .lst (cutV xs (some g) none)) np7 rfl
          have u17 := upd_same (H := H16) (a := p7) (o := .lst (cutV xs (some g) none))
          have c17 := kF p6 _ p6r u16
          generalize upd H16 p7 _ = H17 at *
          show Cv.rAdd (V.ref p6) (V.ref p7) _ _
          rw [rAdd_ref]
          refine ⟨_, _, (congrArg lsM c17).trans rfl, (congrArg lsM u17).trans rfl, sm20 (by rw [List.length_append]; show _ + 1 + _ ≤ 100; omega), fun p8 np8 => ?_⟩
          have kG := KeepX.new (r := r) (o := .lst (cutV xs none (some g) ++ [u] ++ cutV xs (some g) none)) np8
          have kk := kC.trans (kD.trans (kE.trans (kF.trans kG)))
          refine ⟨_, _, _, ⟨rfl, rfl, rfl, _, rfl⟩, ov10.keep kk, ob10.keep kk, R17.ne np8, _, upd_same, ?_, ⟨_, [u], _, rfl, Nat.le_refl 1, fun x hx => ?_, fun x hx => xo x (cutV_mem hx), fun x hx => xo x (cutV_mem hx)⟩, k10.trans kk, R17.new np8 rfl⟩
          · rw [List.length_append, List.length_append]
            show _ + 1 + _ ≤ 100
            omega
          · rw [List.mem_singleton.mp hx]
            exact oz15.keep (kE.trans (kF.trans kG))
        · have kN := KeepX.new (r := r) (o := .tup [.int 0, .int 1, .int 2]) np2
          exact ⟨_, _, _, ⟨rfl, rfl, rfl, _, rfl⟩, ov.keep kN, ob.keep kN, pr, _, kN p _ pr e9, by omega, ⟨xs, [], [], by simp, Nat.zero_le _, (fun x hx => nomatch hx), xo, (fun x hx => nomatch hx)⟩, k9.trans kN, R9.new np2 rfl⟩
      rintro _ H9 ⟨v, b, c, ys, y8, rfl, ov, ob, cr, e9, yl, yo, k9, R9⟩
      walk_at "wp"
      obtain ⟨zs, ol⟩ := odl_of yo.od
      obtain ⟨zv, ov⟩ := ov
      obtain ⟨zb, ob⟩ := ob
      refine ⟨ys, .inl (.inl (.inl e9)), fun l1 n1 => ?_⟩
      have kA := KeepX.new (r := r) (o := .lst ys) n1
      have RA := R9.new (o := .lst ys) n1 rfl
      have nA := R9.ne n1
      have eA := upd_same (H := H9) (a := l1) (o := HO.lst ys)
      have cA := kA c _ cr e9
      generalize upd H9 l1 _ = HA at *
      refine ⟨ys, .inl ⟨.inl (.inl cA), fun l2 n2 => ⟨sm20 (by show 2 ≤ 100; decide), fun p3 n3 => ?_⟩⟩⟩
      have kB := KeepX.new (r := r) (o := .tup ys) n2
      have RB := RA.new (o := .tup ys) n2 rfl
      have nB := RA.ne n2
      have eB := upd_same (H := HA) (a := l2) (o := HO.tup ys)
      generalize upd HA l2 _ = HB at *
      have kC := KeepX.new (r := r) (o := .lst [V.ref l1, V.ref l2]) n3
      have RC := RB.new (o := .lst [V.ref l1, V.ref l2]) n3 rfl
      have nC := RB.ne n3
      have eC := upd_same (H := HB) (a := p3) (o := HO.lst [V.ref l1, V.ref l2])
      have e1 := kC l1 _ nA (kB l1 _ nA eA)
      have e2 := kC l2 _ nB eB
      have kk := kA.trans (kB.trans kC)
      generalize upd HB p3 _ = HC at *
      refine useDraw RC (by decide) (by decide) fun d HD d0 d1 kD RD => ?_
      have k := kk.trans kD
      have e1 := kD l1 _ nA e1
      have e2 := kD l2 _ nB e2
      have e3 := kD p3 _ nC eC
      have cD := k c _ cr e9
      obtain ⟨ds, da, na⟩ := (yo.keep k).dq (K := K) yl
      have ol := ol.keep k
      have ov := ov.keep k
      have ob := ob.keep k
      clear kA kB kC kD kk RA RB RC
      have go : ∀ (h : Addr) (dd : PyData) (R1 : V → VK), SqA K HD h ys → (∀ G, KeepX r HD G → Dq K G (.ref h) dd) → Nq dd 41 110000 → (∀ G, KeepX r HD G → RngAt G r → R1 (.str dd.shown) (.bl false) G) →
          rShowQ K [V.ref h] HD fun z G1 => spToldD K [v, b, V.ref h] G1 (fun x G2 => spDueD K [v, b, V.ref c] G2 (fun y G3 => rNeD K x y G3 fun u G4 => ∃ q, u = V.bl q ∧ if q = true then Q (V.bl false) G4 else rShowQ K [V.ref h] G4 fun z2 G5 => rNe z2 z G5 (R1 z)) E0) E0 := by
        intro h dd R1 hA hd hn fin
        refine ⟨_, dd, 41, 110000, rfl, hd HD KeepX.refl, hn, by decide, by decide, ?_⟩
        refine ⟨v, b, _, rfl, r, h, ys, zs, zv, zb, rfl, RD.1, hA, yl, ol, ov, ob, fun p5 n5 => ?_⟩
        have kE := KeepX.new (r := r) (o := .lst (dueL v b ys zs zv zb)) n5
        have RE := RD.new (o := .lst (dueL v b ys zs zv zb)) n5 rfl
        have nE := RD.ne n5
        have eE := upd_same (H := HD) (a := p5) (o := HO.lst (dueL v b ys zs zv zb))
        generalize upd HD p5 _ = HE at *
        refine ⟨v, b, _, rfl, r, c, ys, zs, zv, zb, rfl, RE.1, .inl (.inl (kE c _ cr cD)), yl, ol.keep kE, ov.keep kE, ob.keep kE, fun p6 n6 => ?_⟩
        have kF := KeepX.new (r := r) (o := .lst (dueL v b ys zs zv zb)) n6
        have RF := RE.new (o := .lst (dueL v b ys zs zv zb)) n6 rfl
        have eF := upd_same (H := HE) (a := p6) (o := HO.lst (dueL v b ys zs zv zb))
        have eG := kF p5 _ nE eE
        generalize upd HE p6 _ = HF at *
        obtain ⟨d2, h2, nc⟩ := due_data ol ov ob
        refine ne_same (d := .list d2) (.lst (.inl (.inl eG)) (h2 _ _)) (.lst (.inl (.inl eF)) (h2 _ _)) nc ⟨_, rfl, ifB (fun z => nomatch z) fun _ => ?_⟩
        refine ⟨_, dd, 41, 110000, rfl, hd HF (kE.trans kF), hn, by decide, by decide, ?_⟩
        show rNe (.str dd.shown) (.str dd.shown) HF _
        rw [rNe_str, decide_eq_true rfl]
        exact fin HF (kE.trans kF) RF
      rcases (show d = 0 ∨ d = 1 by omega) with rfl | rfl
      · exact ⟨_, _, (congrArg sqO e3).trans rfl, rfl, go l1 (.list ds) (fun z x G => ∃ q, x = V.bl q ∧ if q = true then Q (V.bl false) G else (∃ y, some z = y) ∧ KeepX r (upd H1 r o) G ∧ RngAt G r) (.inl (.inl (.inl e1))) (fun G kG => .lst (.inl (.inl (kG l1 _ nA e1))) (da G kG)) (nq_list na)
          fun G kG RG => ⟨_, rfl, ifB (fun z => nomatch z) fun _ => ⟨⟨_, rfl⟩, k9.trans (k.trans kG), RG⟩⟩⟩
      · exact ⟨_, _, (congrArg sqO e3).trans rfl, rfl, go l2 (.tuple ds) (fun z x G => ∃ q, x = V.bl q ∧ if q = true then Q (V.bl false) G else (∃ y, some z = y) ∧ KeepX r (upd H1 r o) G ∧ RngAt G r) (.inr (.inl (.inl e2))) (fun G kG => .tup (.inl (.inl (kG l2 _ nB e2))) (da G kG)) (nq_tup na)
          fun G kG RG => ⟨_, rfl, ifB (fun z => nomatch z) fun _ => ⟨⟨_, rfl⟩, k9.trans (k.trans kG), RG⟩⟩⟩
    · rintro _ H2 ⟨⟨z3, z4, z5, z6, z7, z8, z9, z10, rfl⟩, k2, R2⟩
      exact ⟨⟨_, _, _, _, _, _, _, _, _, _, rfl⟩, Same.trans s1 (same_made hr k2), R2.1⟩
  · rintro _ H1 _
    exact q H1
end
end K15

namespace K15
open PySem PySem.Spec PyProof.Rows L2 Cv
def d_init_InvalidBits : He.DefD := ⟨("InvalidBits", some "__init__"), "__init__", "InvalidBits.__init__", defArgs s_init_InvalidBits, defBody s_init_InvalidBits, defScope s_init_InvalidBits, [], []⟩
def d_init_InvalidValue : He.DefD := ⟨("InvalidValue", some "__init__"), "__init__", "InvalidValue.__init__", defArgs s_init_InvalidValue, defBody s_init_InvalidValue, defScope s_init_InvalidValue, [], []⟩
def d_init_InvalidRange : He.DefD := ⟨("InvalidRange", some "__init__"), "__init__", "InvalidRange.__init__", defArgs s_init_InvalidRange, defBody s_init_InvalidRange, defScope s_init_InvalidRange, [], []⟩
def d_is_integer : He.DefD := ⟨("is_integer", none), "is_integer", "is_integer", defArgs s_is_integer, defBody s_is_integer, defScope s_is_integer, [], []⟩
def d_is_bits : He.DefD := ⟨("is_bits", none), "is_bits", "is_bits", defArgs s_is_bits, defBody s_is_bits, defScope s_is_bits, [], []⟩
def d_is_value : He.DefD := ⟨("is_value", none), "is_value", "is_value", defArgs s_is_value, defBody s_is_value, defScope s_is_value, [], []⟩
def d_require_bits : He.DefD := ⟨("require_bits", none), "require_bits", "require_bits", defArgs s_require_bits, defBody s_require_bits, defScope s_require_bits, [], []⟩
def d_require_value : He.DefD := ⟨("require_value", none), "require_value", "require_value", defArgs s_require_value, defBody s_require_value, defScope s_require_value, [], []⟩
def d_range_of : He.DefD := ⟨("range_of", none), "range_of", "range_of", defArgs s_range_of, defBody s_range_of, defScope s_range_of, [], []⟩
def d_common_length : He.DefD := ⟨("common_length", none), "common_length", "common_length", defArgs s_common_length, defBody s_common_length, defScope s_common_length, [], []⟩
def d_widest_range : He.DefD := ⟨("widest_range", none), "widest_range", "widest_range", defArgs s_widest_range, defBody s_widest_range, defScope s_widest_range, [.adr (He.dflAt ("widest_range", none) 0)], []⟩
def d__law_rng : He.DefD := ⟨("_law_rng", none), "_law_rng", "_law_rng", defArgs s__law_rng, defBody s__law_rng, defScope s__law_rng, [], []⟩
def d__law_draw : He.DefD := ⟨("_law_draw", none), "_law_draw", "_law_draw", defArgs s__law_draw, defBody s__law_draw, defScope s__law_draw, [], []⟩
def d__law_choice : He.DefD := ⟨("_law_choice", none), "_law_choice", "_law_choice", defArgs s__law_choice, defBody s__law_choice, defScope s__law_choice, [], []⟩
def d__law_is_integer : He.DefD := ⟨("_law_is_integer", none), "_law_is_integer", "_law_is_integer", defArgs s__law_is_integer, defBody s__law_is_integer, defScope s__law_is_integer, [], []⟩
def d__law_power : He.DefD := ⟨("_law_power", none), "_law_power", "_law_power", defArgs s__law_power, defBody s__law_power, defScope s__law_power, [], []⟩
def d__law_is_bits : He.DefD := ⟨("_law_is_bits", none), "_law_is_bits", "_law_is_bits", defArgs s__law_is_bits, defBody s__law_is_bits, defScope s__law_is_bits, [], []⟩
def d__law_is_value : He.DefD := ⟨("_law_is_value", none), "_law_is_value", "_law_is_value", defArgs s__law_is_value, defBody s__law_is_value, defScope s__law_is_value, [], []⟩
def d__law_is_range : He.DefD := ⟨("_law_is_range", none), "_law_is_range", "_law_is_range", defArgs s__law_is_range, defBody s__law_is_range, defScope s__law_is_range, [], []⟩
def d__law_odd : He.DefD := ⟨("_law_odd", none), "_law_odd", "_law_odd", defArgs s__law_odd, defBody s__law_odd, defScope s__law_odd, [], []⟩
def d__law_digits : He.DefD := ⟨("_law_digits", none), "_law_digits", "_law_digits", defArgs s__law_digits, defBody s__law_digits, defScope s__law_digits, [], []⟩
def d__law_ends : He.DefD := ⟨("_law_ends", none), "_law_ends", "_law_ends", defArgs s__law_ends, defBody s__law_ends, defScope s__law_ends, [], []⟩
def d__law_alone : He.DefD := ⟨("_law_alone", none), "_law_alone", "_law_alone", defArgs s__law_alone, defBody s__law_alone, defScope s__law_alone, [], []⟩
def d__law_told : He.DefD := ⟨("_law_told", none), "_law_told", "_law_told", defArgs s__law_told, defBody s__law_told, defScope s__law_told, [], []⟩
def d__law_due : He.DefD := ⟨("_law_due", none), "_law_due", "_law_due", defArgs s__law_due, defBody s__law_due, defScope s__law_due, [], []⟩
def d__law_other : He.DefD := ⟨("_law_other", none), "_law_other", "_law_other", defArgs s__law_other, defBody s__law_other, defScope s__law_other, [], []⟩
def d__law_barred : He.DefD := ⟨("_law_barred", none), "_law_barred", "_law_barred", defArgs s__law_barred, defBody s__law_barred, defScope s__law_barred, [], []⟩
def d_law : He.DefD := ⟨("law", none), "law", "law", defArgs s_law, defBody s_law, defScope s_law, [], []⟩
def fnL : List He.DefD := [d_init_InvalidBits, d_init_InvalidValue, d_init_InvalidRange, d_is_integer, d_is_bits, d_is_value, d_require_bits, d_require_value, d_range_of, d_common_length, d_widest_range, d__law_rng, d__law_draw, d__law_choice, d__law_is_integer, d__law_power, d__law_is_bits, d__law_is_value, d__law_is_range, d__law_odd, d__law_digits, d__law_ends, d__law_alone, d__law_told, d__law_due, d__law_other, d__law_barred, d_law]
def faL : List He.Fa := [.meth "InvalidBits" "__init__", .meth "InvalidValue" "__init__", .meth "InvalidRange" "__init__", .glo "is_integer", .glo "is_bits", .glo "is_value", .glo "require_bits", .glo "require_value", .glo "range_of", .glo "common_length", .glo "widest_range", .glo "_law_rng", .glo "_law_draw", .glo "_law_choice", .glo "_law_is_integer", .glo "_law_power", .glo "_law_is_bits", .glo "_law_is_value", .glo "_law_is_range", .glo "_law_odd", .glo "_law_digits", .glo "_law_ends", .glo "_law_alone", .glo "_law_told", .glo "_law_due", .glo "_law_other", .glo "_law_barred", .glo "law", .free "isinstance", .free "int", .free "bool", .free "str", .free "len", .free "list", .free "tuple", .free "range", .free "max", .free "min", .free "abs", .free "divmod", .free "repr", .free "ValueError", .int "MAX_BITS" 10, .glo "InvalidBits", .glo "InvalidRange", .glo "InvalidValue", .glo "InvalidBox", .glo "InvalidCount", .glo "InvalidKey", .glo "InvalidName", .glo "InvalidPlace", .glo "InvalidPoint", .glo "InvalidText", .glo "CoverError", .noat "InvalidBits" "value", .noat "InvalidRange" "value", .noat "InvalidValue" "value"]
def xsL : List (PySem.W.Frag → Bool) := [ownF "InvalidBits", ownF "InvalidRange", ownF "InvalidValue", baseF "CoverError", kitF "InvalidBits" "InvalidBits" true, kitF "InvalidBits" "InvalidRange" false, kitF "InvalidBits" "InvalidValue" false, kitF "InvalidBits" "InvalidBox" false, kitF "InvalidBits" "InvalidCount" false, kitF "InvalidBits" "InvalidKey" false, kitF "InvalidBits" "InvalidName" false, kitF "InvalidBits" "InvalidPlace" false, kitF "InvalidBits" "InvalidPoint" false, kitF "InvalidBits" "InvalidText" false, kitF "InvalidBits" "CoverError" true, kitT "InvalidBits" "ValueError" true, exmF "InvalidBits" "InvalidBits" true, exmF "InvalidBits" "InvalidRange" false, exmF "InvalidBits" "InvalidValue" false, kitF "InvalidRange" "InvalidBits" false, kitF "InvalidRange" "InvalidRange" true, kitF "InvalidRange" "InvalidValue" false, kitF "InvalidRange" "InvalidBox" false, kitF "InvalidRange" "InvalidCount" false, kitF "InvalidRange" "InvalidKey" false, kitF "InvalidRange" "InvalidName" false, kitF "InvalidRange" "InvalidPlace" false, kitF "InvalidRange" "InvalidPoint" false, kitF "InvalidRange" "InvalidText" false, kitF "InvalidRange" "CoverError" true, kitT "InvalidRange" "ValueError" true, exmF "InvalidRange" "InvalidBits" false, exmF "InvalidRange" "InvalidRange" true, exmF "InvalidRange" "InvalidValue" false, kitF "InvalidValue" "InvalidBits" false, kitF "InvalidValue" "InvalidRange" false, kitF "InvalidValue" "InvalidValue" true, kitF "InvalidValue" "InvalidBox" false, kitF "InvalidValue" "InvalidCount" false, kitF "InvalidValue" "InvalidKey" false, kitF "InvalidValue" "InvalidName" false, kitF "InvalidValue" "InvalidPlace" false, kitF "InvalidValue" "InvalidPoint" false, kitF "InvalidValue" "InvalidText" false, kitF "InvalidValue" "CoverError" true, kitT "InvalidValue" "ValueError" true, exmF "InvalidValue" "InvalidBits" false, exmF "InvalidValue" "InvalidRange" false, exmF "InvalidValue" "InvalidValue" true, emptyDfl ("widest_range", none) 0, sysB]
abbrev R : PySem.W.OpenRow := PySem.W.OpenLaw.row PySem.Challenge.rw_coverstore_k15_widest_ranges
abbrev hk : PySem.W.Hook := hookX 5 faL fnL xsL
def ob (s : PySem.W.SharedT) : AlX := obsX 5 faL fnL xsL (HandSHeadRun.getT s)
theorem ob_eq (s : PySem.W.SharedT) : ob s = hk.obs s.abs := obsX_eq (HandSHeadRun.getT_eq s)
def topNames : List Str := [("CoverError" : Str), ("InvalidBits" : Str), ("InvalidValue" : Str), ("InvalidRange" : Str), ("InvalidBox" : Str), ("InvalidPlace" : Str), ("InvalidCount" : Str), ("InvalidName" : Str), ("InvalidKey" : Str), ("InvalidText" : Str), ("InvalidPoint" : Str), ("MAX_BITS" : Str), ("is_integer" : Str), ("is_bits" : Str), ("is_value" : Str), ("require_bits" : Str), ("require_value" : Str), ("range_of" : Str), ("common_length" : Str), ("widest_range" : Str), ("_law_rng" : Str), ("_law_draw" : Str), ("_law_choice" : Str), ("_law_is_integer" : Str), ("_law_power" : Str), ("_law_is_bits" : Str), ("_law_is_value" : Str), ("_law_is_range" : Str), ("_law_odd" : Str), ("_law_digits" : Str), ("_law_ends" : Str), ("_law_alone" : Str), ("_law_told" : Str), ("_law_due" : Str), ("_law_other" : Str), ("_law_barred" : Str)]
theorem run (w : World) : HandSHeadRun.RunEq R (PySem.W.view R.prog [39]) hk ob 4000 topNames w := by
  intro os
  kernel_rfl
theorem facts {K : PySem.W.Frag} {h : Heap} {mg : Str → Option Value} (X : K.In h) (G : h.Ns mainGlobals mg) (c0 : SaysX faL fnL xsL K) : Nonempty (All K mg) := by
  have c := c0.1
  obtain ⟨fd0, D0⟩ := c.def_ 0 (d := d_init_InvalidBits) rfl
  obtain ⟨fd1, D1⟩ := c.def_ 1 (d := d_init_InvalidValue) rfl
  obtain ⟨fd2, D2⟩ := c.def_ 2 (d := d_init_InvalidRange) rfl
  obtain ⟨fd3, D3⟩ := c.def_ 3 (d := d_is_integer) rfl
  obtain ⟨fd4, D4⟩ := c.def_ 4 (d := d_is_bits) rfl
  obtain ⟨fd5, D5⟩ := c.def_ 5 (d := d_is_value) rfl
  obtain ⟨fd6, D6⟩ := c.def_ 6 (d := d_require_bits) rfl
  obtain ⟨fd7, D7⟩ := c.def_ 7 (d := d_require_value) rfl
  obtain ⟨fd8, D8⟩ := c.def_ 8 (d := d_range_of) rfl
  obtain ⟨fd9, D9⟩ := c.def_ 9 (d := d_common_length) rfl
  obtain ⟨fd10, D10⟩ := c.def_ 10 (d := d_widest_range) rfl
  obtain ⟨fd11, D11⟩ := c.def_ 11 (d := d__law_rng) rfl
  obtain ⟨fd12, D12⟩ := c.def_ 12 (d := d__law_draw) rfl
  obtain ⟨fd13, D13⟩ := c.def_ 13 (d := d__law_choice) rfl
  obtain ⟨fd14, D14⟩ := c.def_ 14 (d := d__law_is_integer) rfl
  obtain ⟨fd15, D15⟩ := c.def_ 15 (d := d__law_power) rfl
  obtain ⟨fd16, D16⟩ := c.def_ 16 (d := d__law_is_bits) rfl
  obtain ⟨fd17, D17⟩ := c.def_ 17 (d := d__law_is_value) rfl
  obtain ⟨fd18, D18⟩ := c.def_ 18 (d := d__law_is_range) rfl
  obtain ⟨fd19, D19⟩ := c.def_ 19 (d := d__law_odd) rfl
  obtain ⟨fd20, D20⟩ := c.def_ 20 (d := d__law_digits) rfl
  obtain ⟨fd21, D21⟩ := c.def_ 21 (d := d__law_ends) rfl
  obtain ⟨fd22, D22⟩ := c.def_ 22 (d := d__law_alone) rfl
  obtain ⟨fd23, D23⟩ := c.def_ 23 (d := d__law_told) rfl
  obtain ⟨fd24, D24⟩ := c.def_ 24 (d := d__law_due) rfl
  obtain ⟨fd25, D25⟩ := c.def_ 25 (d := d__law_other) rfl
  obtain ⟨fd26, D26⟩ := c.def_ 26 (d := d__law_barred) rfl
  obtain ⟨fd27, D27⟩ := c.def_ 27 (d := d_law) rfl
  obtain ⟨ti0, ei0⟩ := He.int_ok X G (c.fact 42 (f := .int "MAX_BITS" 10) rfl)
  exact ⟨{
    f_init_InvalidBits := _
    fd_init_InvalidBits := fd0
    F_init_InvalidBits := fun_of_D (st := s_init_InvalidBits) D0
    b_init_InvalidBits := (fun_of_D (st := s_init_InvalidBits) D0).binds (ps := ["self", "value"]) fun _ _ _ _ _ _ us hl => match us, hl with | [_, _], _ => rfl
    f_init_InvalidValue := _
    fd_init_InvalidValue := fd1
    F_init_InvalidValue := fun_of_D (st := s_init_InvalidValue) D1
    b_init_InvalidValue := (fun_of_D (st := s_init_InvalidValue) D1).binds (ps := ["self", "value"]) fun _ _ _ _ _ _ us hl => match us, hl with | [_, _], _ => rfl
    f_init_InvalidRange := _
    fd_init_InvalidRange := fd2
    F_init_InvalidRange := fun_of_D (st := s_init_InvalidRange) D2
    b_init_InvalidRange := (fun_of_D (st := s_init_InvalidRange) D2).binds (ps := ["self", "value"]) fun _ _ _ _ _ _ us hl => match us, hl with | [_, _], _ => rfl
    f_is_integer := _
    fd_is_integer := fd3
    F_is_integer := fun_of_D (st := s_is_integer) D3
    g_is_integer := He.glo_ok X G (c.fact 3 (f := .glo "is_integer") rfl)
    b_is_integer := (fun_of_D (st := s_is_integer) D3).binds (ps := ["value"]) fun _ _ _ _ _ _ us hl => match us, hl with | [_], _ => rfl
    f_is_bits := _
    fd_is_bits := fd4
    F_is_bits := fun_of_D (st := s_is_bits) D4
    g_is_bits := He.glo_ok X G (c.fact 4 (f := .glo "is_bits") rfl)
    b_is_bits := (fun_of_D (st := s_is_bits) D4).binds (ps := ["value"]) fun _ _ _ _ _ _ us hl => match us, hl with | [_], _ => rfl
    f_is_value := _
    fd_is_value := fd5
    F_is_value := fun_of_D (st := s_is_value) D5
    g_is_value := He.glo_ok X G (c.fact 5 (f := .glo "is_value") rfl)
    b_is_value := (fun_of_D (st := s_is_value) D5).binds (ps := ["value", "bits"]) fun _ _ _ _ _ _ us hl => match us, hl with | [_, _], _ => rfl
    f_require_bits := _
    fd_require_bits := fd6
    F_require_bits := fun_of_D (st := s_require_bits) D6
    g_require_bits := He.glo_ok X G (c.fact 6 (f := .glo "require_bits") rfl)
    b_require_bits := (fun_of_D (st := s_require_bits) D6).binds (ps := ["bits"]) fun _ _ _ _ _ _ us hl => match us, hl with | [_], _ => rfl
    f_require_value := _
    fd_require_value := fd7
    F_require_value := fun_of_D (st := s_require_value) D7
    g_require_value := He.glo_ok X G (c.fact 7 (f := .glo "require_value") rfl)
    b_require_value := (fun_of_D (st := s_require_value) D7).binds (ps := ["value", "bits"]) fun _ _ _ _ _ _ us hl => match us, hl with | [_, _], _ => rfl
    f_range_of := _
    fd_range_of := fd8
    F_range_of := fun_of_D (st := s_range_of) D8
    g_range_of := He.glo_ok X G (c.fact 8 (f := .glo "range_of") rfl)
    b_range_of := (fun_of_D (st := s_range_of) D8).binds (ps := ["value", "bits"]) fun _ _ _ _ _ _ us hl => match us, hl with | [_, _], _ => rfl
    f_common_length := _
    fd_common_length := fd9
    F_common_length := fun_of_D (st := s_common_length) D9
    g_common_length := He.glo_ok X G (c.fact 9 (f := .glo "common_length") rfl)
    b_common_length := (fun_of_D (st := s_common_length) D9).binds (ps := ["one", "other"]) fun _ _ _ _ _ _ us hl => match us, hl with | [_, _], _ => rfl
    f_widest_range := _
    fd_widest_range := fd10
    t_widest_range := _
    tt_widest_range := emptyDfl_ok (c0.ext 49 (f := emptyDfl ("widest_range", none) 0) rfl)
    F_widest_range := D10
    g_widest_range := He.glo_ok X G (c.fact 10 (f := .glo "widest_range") rfl)
    b_widest_range := funDA (ps := ["value", "bits", "barred"]) D10 (by simp [He.DefD.dvs, d_widest_range]) fun _ _ _ _ _ _ _ us its hl h3 => match us, its, hl, h3 with | [_, _, _], [_], _, _ => ⟨_, rfl, rfl⟩
    f__law_rng := _
    fd__law_rng := fd11
    F__law_rng := fun_of_D (st := s__law_rng) D11
    g__law_rng := He.glo_ok X G (c.fact 11 (f := .glo "_law_rng") rfl)
    b__law_rng := (fun_of_D (st := s__law_rng) D11).binds (ps := ["_law_script", "_law_k"]) fun _ _ _ _ _ _ us hl => match us, hl with | [_, _], _ => rfl
    f__law_draw := _
    fd__law_draw := fd12
    F__law_draw := fun_of_D (st := s__law_draw) D12
    g__law_draw := He.glo_ok X G (c.fact 12 (f := .glo "_law_draw") rfl)
    b__law_draw := (fun_of_D (st := s__law_draw) D12).binds (ps := ["_law_rng_here", "_law_many"]) fun _ _ _ _ _ _ us hl => match us, hl with | [_, _], _ => rfl
    f__law_choice := _
    fd__law_choice := fd13
    F__law_choice := fun_of_D (st := s__law_choice) D13
    g__law_choice := He.glo_ok X G (c.fact 13 (f := .glo "_law_choice") rfl)
    b__law_choice := (fun_of_D (st := s__law_choice) D13).binds (ps := ["_law_rng_here", "_law_options"]) fun _ _ _ _ _ _ us hl => match us, hl with | [_, _], _ => rfl
    f__law_is_integer := _
    fd__law_is_integer := fd14
    F__law_is_integer := fun_of_D (st := s__law_is_integer) D14
    g__law_is_integer := He.glo_ok X G (c.fact 14 (f := .glo "_law_is_integer") rfl)
    b__law_is_integer := (fun_of_D (st := s__law_is_integer) D14).binds (ps := ["_law_thing"]) fun _ _ _ _ _ _ us hl => match us, hl with | [_], _ => rfl
    f__law_power := _
    fd__law_power := fd15
    F__law_power := fun_of_D (st := s__law_power) D15
    g__law_power := He.glo_ok X G (c.fact 15 (f := .glo "_law_power") rfl)
    b__law_power := (fun_of_D (st := s__law_power) D15).binds (ps := ["_law_many"]) fun _ _ _ _ _ _ us hl => match us, hl with | [_], _ => rfl
    f__law_is_bits := _
    fd__law_is_bits := fd16
    F__law_is_bits := fun_of_D (st := s__law_is_bits) D16
    g__law_is_bits := He.glo_ok X G (c.fact 16 (f := .glo "_law_is_bits") rfl)
    b__law_is_bits := (fun_of_D (st := s__law_is_bits) D16).binds (ps := ["_law_thing"]) fun _ _ _ _ _ _ us hl => match us, hl with | [_], _ => rfl
    f__law_is_value := _
    fd__law_is_value := fd17
    F__law_is_value := fun_of_D (st := s__law_is_value) D17
    g__law_is_value := He.glo_ok X G (c.fact 17 (f := .glo "_law_is_value") rfl)
    b__law_is_value := (fun_of_D (st := s__law_is_value) D17).binds (ps := ["_law_thing", "_law_many"]) fun _ _ _ _ _ _ us hl => match us, hl with | [_, _], _ => rfl
    f__law_is_range := _
    fd__law_is_range := fd18
    F__law_is_range := fun_of_D (st := s__law_is_range) D18
    g__law_is_range := He.glo_ok X G (c.fact 18 (f := .glo "_law_is_range") rfl)
    b__law_is_range := (fun_of_D (st := s__law_is_range) D18).binds (ps := ["_law_thing", "_law_many"]) fun _ _ _ _ _ _ us hl => match us, hl with | [_, _], _ => rfl
    f__law_odd := _
    fd__law_odd := fd19
    F__law_odd := fun_of_D (st := s__law_odd) D19
    g__law_odd := He.glo_ok X G (c.fact 19 (f := .glo "_law_odd") rfl)
    b__law_odd := (fun_of_D (st := s__law_odd) D19).binds (ps := ["_law_rng_here"]) fun _ _ _ _ _ _ us hl => match us, hl with | [_], _ => rfl
    f__law_digits := _
    fd__law_digits := fd20
    F__law_digits := fun_of_D (st := s__law_digits) D20
    g__law_digits := He.glo_ok X G (c.fact 20 (f := .glo "_law_digits") rfl)
    b__law_digits := (fun_of_D (st := s__law_digits) D20).binds (ps := ["_law_number", "_law_many"]) fun _ _ _ _ _ _ us hl => match us, hl with | [_, _], _ => rfl
    f__law_ends := _
    fd__law_ends := fd21
    F__law_ends := fun_of_D (st := s__law_ends) D21
    g__law_ends := He.glo_ok X G (c.fact 21 (f := .glo "_law_ends") rfl)
    b__law_ends := (fun_of_D (st := s__law_ends) D21).binds (ps := ["_law_prefix", "_law_many"]) fun _ _ _ _ _ _ us hl => match us, hl with | [_, _], _ => rfl
    f__law_alone := _
    fd__law_alone := fd22
    F__law_alone := fun_of_D (st := s__law_alone) D22
    g__law_alone := He.glo_ok X G (c.fact 22 (f := .glo "_law_alone") rfl)
    b__law_alone := (fun_of_D (st := s__law_alone) D22).binds (ps := ["_law_e"]) fun _ _ _ _ _ _ us hl => match us, hl with | [_], _ => rfl
    f__law_told := _
    fd__law_told := fd23
    F__law_told := fun_of_D (st := s__law_told) D23
    g__law_told := He.glo_ok X G (c.fact 23 (f := .glo "_law_told") rfl)
    b__law_told := (fun_of_D (st := s__law_told) D23).binds (ps := ["_law_number", "_law_many", "_law_some"]) fun _ _ _ _ _ _ us hl => match us, hl with | [_, _, _], _ => rfl
    f__law_due := _
    fd__law_due := fd24
    F__law_due := fun_of_D (st := s__law_due) D24
    g__law_due := He.glo_ok X G (c.fact 24 (f := .glo "_law_due") rfl)
    b__law_due := (fun_of_D (st := s__law_due) D24).binds (ps := ["_law_number", "_law_many", "_law_some"]) fun _ _ _ _ _ _ us hl => match us, hl with | [_, _, _], _ => rfl
    f__law_other := _
    fd__law_other := fd25
    F__law_other := fun_of_D (st := s__law_other) D25
    g__law_other := He.glo_ok X G (c.fact 25 (f := .glo "_law_other") rfl)
    b__law_other := (fun_of_D (st := s__law_other) D25).binds (ps := ["_law_rng_here", "_law_number", "_law_many"]) fun _ _ _ _ _ _ us hl => match us, hl with | [_, _, _], _ => rfl
    f__law_barred := _
    fd__law_barred := fd26
    F__law_barred := fun_of_D (st := s__law_barred) D26
    g__law_barred := He.glo_ok X G (c.fact 26 (f := .glo "_law_barred") rfl)
    b__law_barred := (fun_of_D (st := s__law_barred) D26).binds (ps := ["_law_rng_here", "_law_number", "_law_many"]) fun _ _ _ _ _ _ us hl => match us, hl with | [_, _, _], _ => rfl
    f_law := _
    fd_law := fd27
    F_law := fun_of_D (st := s_law) D27
    g_law := He.glo_ok X G (c.fact 27 (f := .glo "law") rfl)
    b_law := (fun_of_D (st := s_law) D27).binds (ps := ["_law_script"]) fun _ _ _ _ _ _ us hl => match us, hl with | [_], _ => rfl
    n_isinstance := He.free_ok X G (c.fact 28 (f := .free "isinstance") rfl)
    n_int := He.free_ok X G (c.fact 29 (f := .free "int") rfl)
    n_bool := He.free_ok X G (c.fact 30 (f := .free "bool") rfl)
    n_str := He.free_ok X G (c.fact 31 (f := .free "str") rfl)
    n_len := He.free_ok X G (c.fact 32 (f := .free "len") rfl)
    n_list := He.free_ok X G (c.fact 33 (f := .free "list") rfl)
    n_tuple := He.free_ok X G (c.fact 34 (f := .free "tuple") rfl)
    n_range := He.free_ok X G (c.fact 35 (f := .free "range") rfl)
    n_max := He.free_ok X G (c.fact 36 (f := .free "max") rfl)
    n_min := He.free_ok X G (c.fact 37 (f := .free "min") rfl)
    n_abs := He.free_ok X G (c.fact 38 (f := .free "abs") rfl)
    n_divmod := He.free_ok X G (c.fact 39 (f := .free "divmod") rfl)
    n_repr := He.free_ok X G (c.fact 40 (f := .free "repr") rfl)
    n_ValueError := He.free_ok X G (c.fact 41 (f := .free "ValueError") rfl)
    u_MAX_BITS := _
    g_MAX_BITS := ei0
    v_MAX_BITS := ⟨ti0, rfl⟩
    c_InvalidBits := _
    gc_InvalidBits := He.glo_ok X G (c.fact 43 (f := .glo "InvalidBits") rfl)
    c_InvalidRange := _
    gc_InvalidRange := He.glo_ok X G (c.fact 44 (f := .glo "InvalidRange") rfl)
    c_InvalidValue := _
    gc_InvalidValue := He.glo_ok X G (c.fact 45 (f := .glo "InvalidValue") rfl)
    c_InvalidBox := _
    gc_InvalidBox := He.glo_ok X G (c.fact 46 (f := .glo "InvalidBox") rfl)
    c_InvalidCount := _
    gc_InvalidCount := He.glo_ok X G (c.fact 47 (f := .glo "InvalidCount") rfl)
    c_InvalidKey := _
    gc_InvalidKey := He.glo_ok X G (c.fact 48 (f := .glo "InvalidKey") rfl)
    c_InvalidName := _
    gc_InvalidName := He.glo_ok X G (c.fact 49 (f := .glo "InvalidName") rfl)
    c_InvalidPlace := _
    gc_InvalidPlace := He.glo_ok X G (c.fact 50 (f := .glo "InvalidPlace") rfl)
    c_InvalidPoint := _
    gc_InvalidPoint := He.glo_ok X G (c.fact 51 (f := .glo "InvalidPoint") rfl)
    c_InvalidText := _
    gc_InvalidText := He.glo_ok X G (c.fact 52 (f := .glo "InvalidText") rfl)
    c_CoverError := _
    gc_CoverError := He.glo_ok X G (c.fact 53 (f := .glo "CoverError") rfl)
    e_InvalidBits := ownB_ok (c0.ext 0 (f := ownF "InvalidBits") rfl)
    ii_InvalidBits := (He.meth_ok (c.fact 0 (f := .meth "InvalidBits" "__init__") rfl)).1
    ti_InvalidBits := eq_of_beq (He.meth_ok (c.fact 0 (f := .meth "InvalidBits" "__init__") rfl)).2
    na_InvalidBits := He.noat_ok (c.fact 54 (f := .noat "InvalidBits" "value") rfl)
    e_InvalidRange := ownB_ok (c0.ext 1 (f := ownF "InvalidRange") rfl)
    ii_InvalidRange := (He.meth_ok (c.fact 2 (f := .meth "InvalidRange" "__init__") rfl)).1
    ti_InvalidRange := eq_of_beq (He.meth_ok (c.fact 2 (f := .meth "InvalidRange" "__init__") rfl)).2
    na_InvalidRange := He.noat_ok (c.fact 55 (f := .noat "InvalidRange" "value") rfl)
    e_InvalidValue := ownB_ok (c0.ext 2 (f := ownF "InvalidValue") rfl)
    ii_InvalidValue := (He.meth_ok (c.fact 1 (f := .meth "InvalidValue" "__init__") rfl)).1
    ti_InvalidValue := eq_of_beq (He.meth_ok (c.fact 1 (f := .meth "InvalidValue" "__init__") rfl)).2
    na_InvalidValue := He.noat_ok (c.fact 56 (f := .noat "InvalidValue" "value") rfl)
    b_CoverError := baseB_ok (c0.ext 3 (f := baseF "CoverError") rfl)
    k_InvalidBits_InvalidBits := of_decide_eq_true (c0.ext 4 (f := kitF "InvalidBits" "InvalidBits" true) rfl)
    k_InvalidBits_InvalidRange := of_decide_eq_true (c0.ext 5 (f := kitF "InvalidBits" "InvalidRange" false) rfl)
    k_InvalidBits_InvalidValue := of_decide_eq_true (c0.ext 6 (f := kitF "InvalidBits" "InvalidValue" false) rfl)
    k_InvalidBits_InvalidBox := of_decide_eq_true (c0.ext 7 (f := kitF "InvalidBits" "InvalidBox" false) rfl)
    k_InvalidBits_InvalidCount := of_decide_eq_true (c0.ext 8 (f := kitF "InvalidBits" "InvalidCount" false) rfl)
    k_InvalidBits_InvalidKey := of_decide_eq_true (c0.ext 9 (f := kitF "InvalidBits" "InvalidKey" false) rfl)
    k_InvalidBits_InvalidName := of_decide_eq_true (c0.ext 10 (f := kitF "InvalidBits" "InvalidName" false) rfl)
    k_InvalidBits_InvalidPlace := of_decide_eq_true (c0.ext 11 (f := kitF "InvalidBits" "InvalidPlace" false) rfl)
    k_InvalidBits_InvalidPoint := of_decide_eq_true (c0.ext 12 (f := kitF "InvalidBits" "InvalidPoint" false) rfl)
    k_InvalidBits_InvalidText := of_decide_eq_true (c0.ext 13 (f := kitF "InvalidBits" "InvalidText" false) rfl)
    k_InvalidBits_CoverError := of_decide_eq_true (c0.ext 14 (f := kitF "InvalidBits" "CoverError" true) rfl)
    k_InvalidBits_ValueError := of_decide_eq_true (c0.ext 15 (f := kitT "InvalidBits" "ValueError" true) rfl)
    x_InvalidBits_InvalidBits := of_decide_eq_true (c0.ext 16 (f := exmF "InvalidBits" "InvalidBits" true) rfl)
    x_InvalidBits_InvalidRange := of_decide_eq_true (c0.ext 17 (f := exmF "InvalidBits" "InvalidRange" false) rfl)
    x_InvalidBits_InvalidValue := of_decide_eq_true (c0.ext 18 (f := exmF "InvalidBits" "InvalidValue" false) rfl)
    k_InvalidRange_InvalidBits := of_decide_eq_true (c0.ext 19 (f := kitF "InvalidRange" "InvalidBits" false) rfl)
    k_InvalidRange_InvalidRange := of_decide_eq_true (c0.ext 20 (f := kitF "InvalidRange" "InvalidRange" true) rfl)
    k_InvalidRange_InvalidValue := of_decide_eq_true (c0.ext 21 (f := kitF "InvalidRange" "InvalidValue" false) rfl)
    k_InvalidRange_InvalidBox := of_decide_eq_true (c0.ext 22 (f := kitF "InvalidRange" "InvalidBox" false) rfl)
    k_InvalidRange_InvalidCount := of_decide_eq_true (c0.ext 23 (f := kitF "InvalidRange" "InvalidCount" false) rfl)
    k_InvalidRange_InvalidKey := of_decide_eq_true (c0.ext 24 (f := kitF "InvalidRange" "InvalidKey" false) rfl)
    k_InvalidRange_InvalidName := of_decide_eq_true (c0.ext 25 (f := kitF "InvalidRange" "InvalidName" false) rfl)
    k_InvalidRange_InvalidPlace := of_decide_eq_true (c0.ext 26 (f := kitF "InvalidRange" "InvalidPlace" false) rfl)
    k_InvalidRange_InvalidPoint := of_decide_eq_true (c0.ext 27 (f := kitF "InvalidRange" "InvalidPoint" false) rfl)
    k_InvalidRange_InvalidText := of_decide_eq_true (c0.ext 28 (f := kitF "InvalidRange" "InvalidText" false) rfl)
    k_InvalidRange_CoverError := of_decide_eq_true (c0.ext 29 (f := kitF "InvalidRange" "CoverError" true) rfl)
    k_InvalidRange_ValueError := of_decide_eq_true (c0.ext 30 (f := kitT "InvalidRange" "ValueError" true) rfl)
    x_InvalidRange_InvalidBits := of_decide_eq_true (c0.ext 31 (f := exmF "InvalidRange" "InvalidBits" false) rfl)
    x_InvalidRange_InvalidRange := of_decide_eq_true (c0.ext 32 (f := exmF "InvalidRange" "InvalidRange" true) rfl)
    x_InvalidRange_InvalidValue := of_decide_eq_true (c0.ext 33 (f := exmF "InvalidRange" "InvalidValue" false) rfl)
    k_InvalidValue_InvalidBits := of_decide_eq_true (c0.ext 34 (f := kitF "InvalidValue" "InvalidBits" false) rfl)
    k_InvalidValue_InvalidRange := of_decide_eq_true (c0.ext 35 (f := kitF "InvalidValue" "InvalidRange" false) rfl)
    k_InvalidValue_InvalidValue := of_decide_eq_true (c0.ext 36 (f := kitF "InvalidValue" "InvalidValue" true) rfl)
    k_InvalidValue_InvalidBox := of_decide_eq_true (c0.ext 37 (f := kitF "InvalidValue" "InvalidBox" false) rfl)
    k_InvalidValue_InvalidCount := of_decide_eq_true (c0.ext 38 (f := kitF "InvalidValue" "InvalidCount" false) rfl)
    k_InvalidValue_InvalidKey := of_decide_eq_true (c0.ext 39 (f := kitF "InvalidValue" "InvalidKey" false) rfl)
    k_InvalidValue_InvalidName := of_decide_eq_true (c0.ext 40 (f := kitF "InvalidValue" "InvalidName" false) rfl)
    k_InvalidValue_InvalidPlace := of_decide_eq_true (c0.ext 41 (f := kitF "InvalidValue" "InvalidPlace" false) rfl)
    k_InvalidValue_InvalidPoint := of_decide_eq_true (c0.ext 42 (f := kitF "InvalidValue" "InvalidPoint" false) rfl)
    k_InvalidValue_InvalidText := of_decide_eq_true (c0.ext 43 (f := kitF "InvalidValue" "InvalidText" false) rfl)
    k_InvalidValue_CoverError := of_decide_eq_true (c0.ext 44 (f := kitF "InvalidValue" "CoverError" true) rfl)
    k_InvalidValue_ValueError := of_decide_eq_true (c0.ext 45 (f := kitT "InvalidValue" "ValueError" true) rfl)
    x_InvalidValue_InvalidBits := of_decide_eq_true (c0.ext 46 (f := exmF "InvalidValue" "InvalidBits" false) rfl)
    x_InvalidValue_InvalidRange := of_decide_eq_true (c0.ext 47 (f := exmF "InvalidValue" "InvalidRange" false) rfl)
    x_InvalidValue_InvalidValue := of_decide_eq_true (c0.ext 48 (f := exmF "InvalidValue" "InvalidValue" true) rfl)
    sy := c0.ext 50 (f := sysB) rfl }⟩
theorem bindLaw {K : PySem.W.Frag} {mg : Str → Option Value} (A : All K mg) (s : Shared) (u : Value) : BindsTo s A.fd_law ⟨[u], []⟩ [("_law_script", u)] :=
  fun_bindsA (ps := ["_law_script"]) A.F_law (fun _ _ _ _ _ _ us hl => match us, hl with | [_], _ => rfl) s [u] rfl
end K15
open PySem PySem.W PySem.Calls PyProof.Rows
theorem PySem.Challenge.cw_coverstore_k15_widest_ranges_holds : PySem.Challenge.rw_coverstore_k15_widest_ranges.Holds := by
  w_on; o_law
  refine HandSHeadRun.head_any (r := K15.R) (q := view K15.R.prog [39]) (H := K15.hk) (ob := K15.ob) (loose := K15.topNames) (d := HandSHeadRun.topDef K15.R.prog 39) (kwd := []) K15.ob_eq
    (by kernel_rfl) (fun s => by kernel_rfl) K15.run (by kernel_rfl) (by kernel_rfl) (by kernel_rfl) (by rfl) (by first | assumption | decide +kernel) (by decide +kernel) ⟨rfl, rfl, rfl, rfl, rfl, by decide +kernel⟩ ?hw ?hc
  case hw => w_witness2
  case hc =>
    refine Cv.walkG (l := PySem.Challenge.rw_coverstore_k15_widest_ranges) (n := 63) (k := 8) (x := "_law_script") (CX := L2.CX0) rfl (by decide) (by kernel_rfl) ⟨rfl, by decide, by decide⟩ ?F (fun _ _ _ _ z => z)
    intro w mg fa h Y G hmg0
    obtain ⟨K, KX, c⟩ := Y
    have hmg : mg ("law" : PySem.Str) = some (.ref fa) := by
      have e : (HandSHeadRun.topDef K15.R.prog 39).name = ("law" : PySem.Str) := by kernel_rfl
      rw [← e]
      exact hmg0
    obtain ⟨A⟩ := K15.facts KX G c
    obtain rfl : fa = A.f_law := by
      have e := hmg.symm.trans A.g_law
      injection e with e
      injection e
    exact ⟨K, A.fd_law, K15.spLaw K, KX, K15.bindLaw A, fun H a ns hl _ _ nd hS => ⟨_, rfl, a, ns, rfl, hS, hl, nd, fun _ => rfl⟩, fun base _ _ => K15.ok_law A⟩
