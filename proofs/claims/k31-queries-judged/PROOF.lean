import PyProof.Rows.All
import Wide.All
import OpenK.AllK
import Wide.FinOn
import HandS.ForMost
import HandS.IsInst
import HandS.WideBits
import HandS.Walk
import HandS.EndBits
import HandS.Evl
import HandS.Defaults
import HandS.ExcInit
import HandS.ExcField
import HandS.ExcOwn
import HandS.ExcCtx
import HandS.HotCalls
import HandS.ExcInitHot
import HandS.ClsMeth
import HandS.HeadHook1
import HandS.HeadHook2
import KE.KExcIs
import KE.DataFind
import HandS.Iter
import KE.KBits
import PyProof.StrBlock2
import HandS.Zip
import HandS.CallSlots
import HandS.Deep
import HandS.TupAny
import HandS.TupMul
import KE.DataEq
import HandS.RaiseMore
import HandS.MakeKw
import HandS.MakeKwOnly
import HandS.Property
import HandS.FStr
import KE.GoesEnum
import KE.GoesMore
import HandS.OwnIter
import PyProof.InstSpecial
import HandS.Head0
import HandS.Head1
import HandS.Head2
import HandS.HeadEnd
import PySem.Challenge.RW_coverstore_k31_queries_judged
set_option Elab.async false
set_option linter.all false
set_option maxRecDepth 100000
set_option maxHeartbeats 4000000
/-! CvA: heap looks, wide readings of operators, dropping what a def made for itself, defs that know no repr runs (FnG), repr of data. -/
namespace Cv
open PySem PySem.Spec PyProof.Rows L2

/-! ### looks at a tracked object -/
def lsO : Option HO → Option (List V)
  | some (.lst xs) => some xs
  | some (.frz _ (.lst xs)) => some xs
  | _ => none
def lsM : Option HO → Option (List V)
  | some (.lst xs) => some xs
  | _ => none
def tpO : Option HO → Option (List V)
  | some (.tup xs) => some xs
  | some (.frz _ (.tup xs)) => some xs
  | _ => none
def sqO (o : Option HO) : Option (List V) := match lsO o with
  | some xs => some xs
  | none => tpO o
theorem lsO_lst {xs : List V} : lsO (some (.lst xs)) = some xs := rfl
theorem lsM_lst {xs : List V} : lsM (some (.lst xs)) = some xs := rfl
theorem tpO_tup {xs : List V} : tpO (some (.tup xs)) = some xs := rfl
theorem sqO_lst {xs : List V} : sqO (some (.lst xs)) = some xs := rfl
theorem sqO_tup {xs : List V} : sqO (some (.tup xs)) = some xs := rfl
theorem lsO_sq {K : PySem.W.Frag} {H : Hp} {a : Addr} {xs : List V} (h : lsO (H a) = some xs) : SqL K H a xs := by
  cases e : H a with
  | none => rw [e] at h; cases h
  | some o =>
    rw [e] at h
    cases o with
    | lst ys => cases h; exact .inl (.inl e)
    | frz ob u =>
      cases u with
      | lst ys => cases h; exact .inl (.inr ⟨ob, e⟩)
      | _ => cases h
    | _ => cases h
theorem tpO_sq {K : PySem.W.Frag} {H : Hp} {a : Addr} {xs : List V} (h : tpO (H a) = some xs) : SqT K H a xs := by
  cases e : H a with
  | none => rw [e] at h; cases h
  | some o =>
    rw [e] at h
    cases o with
    | tup ys => cases h; exact .inl (.inl e)
    | frz ob u =>
      cases u with
      | tup ys => cases h; exact .inl (.inr ⟨ob, e⟩)
      | _ => cases h
    | _ => cases h
theorem lsM_at {H : Hp} {a : Addr} {xs : List V} (h : lsM (H a) = some xs) : H a = some (.lst xs) := by
  cases e : H a with
  | none => rw [e] at h; cases h
  | some o =>
    rw [e] at h
    cases o with
    | lst ys => cases h; rfl
    | _ => cases h
theorem sqO_sq {K : PySem.W.Frag} {H : Hp} {a : Addr} {xs : List V} (h : sqO (H a) = some xs) : SqL K H a xs ∨ SqT K H a xs := by
  unfold sqO at h
  cases e : lsO (H a) with
  | some ys =>
    rw [e] at h
    cases h
    exact .inl (lsO_sq e)
  | none =>
    rw [e] at h
    exact .inr (tpO_sq h)

/-! ### readings by implication -/
section
variable {X : Cx}
theorem opImp {f : Value → Value → Sem Value} {r r' : R2} (h : OpR X f r) (i : ∀ x y H Q, r' x y H Q → r x y H Q) : OpR X f r' := fun pins s σ H x y v u Q I rx ry q => h pins s σ H x y v u Q I rx ry (i _ _ _ _ q)
theorem ixImp {r r' : R2} (h : IxR X r) (i : ∀ x y H Q, r' x y H Q → r x y H Q) : IxR X r' := fun va sl pins s σ H x y v u Q I rx ry q e => h va sl pins s σ H x y v u Q I rx ry (i _ _ _ _ q) e
theorem callImp {f : Value} {r r' : List V → Hp → VK → Prop} (h : CallR X f r) (i : ∀ xs H Q, r' xs H Q → r xs H Q) : CallR X f r' := fun pins s σ H xs us Q I rx q => h pins s σ H xs us Q I rx (i _ _ _ q)

/-! ### + of ints, texts, lists -/
def rAdd : R2 := fun x y H Q => match x, y with
  | .int i, .int j => Q (.int (i + j)) H
  | .str a, .str b => a.length + b.length ≤ sizeLine ∧ Q (.str (a ++ b)) H
  | .ref a, .ref b => ∃ xs ys, lsM (H a) = some xs ∧ lsM (H b) = some ys ∧ xs.length + ys.length ≤ sizeLine ∧ ∀ p, H p = none → Q (.ref p) (upd H p (.lst (xs ++ ys)))
  | _, _ => False
theorem op_addU : OpR X (binaryOp .Add) rAdd := by
  intro pins s σ H x y v u Q I rx ry h
  cases x <;> cases y <;> first
    | exact op_add pins s σ H _ _ v u Q I rx ry ⟨_, _, rfl, rfl, h⟩
    | exact op_add_str pins s σ H _ _ v u Q I rx ry ⟨_, _, rfl, rfl, h.1, h.2⟩
    | (obtain ⟨xs, ys, h1, h2, h3, h4⟩ := h; exact op_cat pins s σ H _ _ v u Q I rx ry ⟨_, _, xs, ys, rfl, rfl, lsM_at h1, lsM_at h2, h3, h4⟩)
    | exact False.elim h
/-! ### items of lists, tuples, texts -/
def rIxU : R2 := fun x y H Q => match x, y with
  | .str z, .int i => z.length ≤ sizeLine ∧ ∃ c, atI z.cps.toList i = some c ∧ Q (.str ⟨#[c]⟩) H
  | .ref a, .int i => ∃ xs v, sqO (H a) = some xs ∧ atI xs i = some v ∧ Q v H
  | _, _ => False
theorem ix_u : IxR X rIxU := by
  refine ixImp (r := rIx X.K) ix_seq fun x y H Q h => ?_
  cases x <;> cases y <;> first
    | (obtain ⟨h1, c, h2, h3⟩ := h; exact .inr (.inr ⟨_, _, c, rfl, rfl, h1, h2, h3⟩))
    | (obtain ⟨xs, v, h1, h2, h3⟩ := h
       rcases sqO_sq (K := X.K) h1 with q | q
       · exact .inl ⟨_, xs, _, v, rfl, rfl, q, h2, h3⟩
       · exact .inr (.inl ⟨_, xs, _, v, rfl, rfl, q, h2, h3⟩))
    | exact False.elim h
/-! ### len -/
def rLenU : List V → Hp → VK → Prop := fun vs H Q => match vs with
  | [.str z] => z.length ≤ sizeLine ∧ Q (.int z.length) H
  | [.ref a] => ∃ xs, sqO (H a) = some xs ∧ Q (.int xs.length) H
  | _ => False
theorem call_lenU : CallR X (.builtin "len") rLenU := by
  refine callImp (r := fun xs H Q => ∃ x n, xs = [x] ∧ LenV X.K x H n ∧ Q (.int n) H) call_len fun vs H Q h => ?_
  match vs, h with
  | [.str z], h => exact ⟨_, z.length, rfl, ⟨h.1, rfl⟩, h.2⟩
  | [.ref a], ⟨xs, h1, h2⟩ =>
    refine ⟨_, xs.length, rfl, ?_, h2⟩
    rcases sqO_sq (K := X.K) h1 with q | q
    · exact .inl ⟨xs, q, rfl⟩
    · exact .inr ⟨xs, q, rfl⟩
end

/-! ### dropping what was made on the way -/
/-- what an object's description leans on stands in H'' as in H' -/
def Cl (H' H'' : Hp) : HO → Prop
  | .ins _ dx _ => ∀ o, H' dx = some o → H'' dx = some o
  | .dT _ => ∀ b xs, H' b = some (.tup xs) → H'' b = some (.tup xs)
  | .frz _ u => Cl H' H'' u
  | _ => True
theorem cl_ok {P : Program} {w : World} {H' H'' : Hp} {h : Heap} {a : Addr} : ∀ {o : HO}, Cl H' H'' o → ObjOk P w H' h a o → ObjOk P w H'' h a o
  | .lst _, _, x => x
  | .tup _, _, x => x
  | .dK _, _, x => x
  | .dT kvs, c, x => by
    obtain ⟨z, y, xs, r, q⟩ := x
    exact ⟨z, y, xs, Paired.mapP r fun p q z => ⟨z.1, c _ _ z.2.1, z.2.2⟩, q⟩
  | .set _ _, _, x => x
  | .ins _ _ _, c, ⟨e, q⟩ => ⟨c _ e, q⟩
  | .own _, _, x => x
  | .xd _, _, x => x
  | .met _ _, _, x => x
  | .rng _ _, _, x => x
  | .frz _ u, c, ⟨e, q⟩ => ⟨e, cl_ok (o := u) c q⟩
  | .tbl _, _, x => x
  | .ext _, _, x => x
/-! ### no dict with tuple keys is tracked -/
def ndt : HO → Bool
  | .dT _ => false
  | .frz _ u => ndt u
  | _ => true
def NoDT (H : Hp) : Prop := ∀ a o, H a = some o → ndt o = true
theorem NoDT.upd {H : Hp} {p : Addr} {o : HO} (n : NoDT H) (h : ndt o = true) : NoDT (upd H p o) := fun a u e => by
  by_cases q : a = p
  · rw [q, upd_same] at e
    cases e
    exact h
  · rw [upd_ne q] at e
    exact n a u e
/-- an object of H, in a heap that has all of H's -/
theorem cl_of {P : Program} {w : World} {H H' H'' : Hp} {h : Heap} {a : Addr} : ∀ {o : HO}, ObjOk P w H h a o → ndt o = true → (∀ b u, H b = some u → H'' b = H' b) → Cl H' H'' o
  | .lst _, _, _, _ => trivial
  | .tup _, _, _, _ => trivial
  | .dK _, _, _, _ => trivial
  | .dT _, _, e, _ => by cases e
  | .set _ _, _, _, _ => trivial
  | .ins _ _ _, ⟨e, _⟩, _, k => fun o q => (k _ _ e).trans q
  | .own _, _, _, _ => trivial
  | .xd _, _, _, _ => trivial
  | .met _ _, _, _, _ => trivial
  | .rng _ _, _, _, _ => trivial
  | .frz _ u, ⟨_, q⟩, e, k => cl_of (o := u) q e k
  | .tbl _, _, _, _ => trivial
  | .ext _, _, _, _ => trivial

/-- H'' is H' without some objects that H did not track -/
structure Drop (H H' H'' : Hp) : Prop where
  sub : ∀ b o, H'' b = some o → H' b = some o
  old : ∀ b o, H b = some o → H'' b = H' b
  cl : ∀ b o, H'' b = some o → (H b = some o ∧ ndt o = true) ∨ (∃ C dx fs fs', o = .ins C dx fs ∧ H b = some (.ins C dx fs')) ∨ Cl H' H'' o
theorem Drop.hok {P : Program} {w : World} {H H' H'' : Hp} {h h' : Heap} (d : Drop H H' H'') (x0 : HOk P w H h) (x : HOk P w H' h') : HOk P w H'' h' := fun a o e => by
  have x1 := x a o (d.sub a o e)
  rcases d.cl a o e with ⟨q, n⟩ | ⟨C, dx, fs, fs', rfl, q⟩ | q
  · exact cl_ok (cl_of (x0 a o q) n d.old) x1
  · refine cl_ok (o := .ins C dx fs) (fun u z => ?_) x1
    have x2 := x0 a _ q
    exact (d.old _ _ x2.1).trans z
  · exact cl_ok q x1
theorem Drop.none {H H' H'' : Hp} (d : Drop H H' H'') {b : Addr} (e : H' b = Option.none) : H'' b = Option.none := by
  cases q : H'' b with
  | none => rfl
  | some o =>
    have := d.sub b o q
    rw [e] at this
    cases this
theorem Drop.un {fs ex : List Addr} {H H' H'' : Hp} {h h' : Heap} (d : Drop H H' H'') (u : Un fs ex H H' h h') : Un fs ex H H'' h h' where
  keep := u.keep
  slot := u.slot
  free := fun b o q n hx => d.none (u.free b o q n hx)
  there := u.there
  tups := fun b xs q => (d.old b _ q).trans (u.tups b xs q)
  frzs := fun b o v q => (d.old b _ q).trans (u.frzs b o v q)
  tbls := fun b ps q => by
    obtain ⟨more, e⟩ := u.tbls b ps q
    exact ⟨more, (d.old b _ q).trans e⟩
/-- what is wanted behind a def, told of a heap without what the def made for itself -/
def dropQ (H : Hp) (Q : VK) : VK := fun v H' => ∃ H'', Drop H H' H'' ∧ Q v H''
theorem ce_drop {outer : List Env} {P : Program} {w : World} {H : Hp} {s s' : Shared} {Q : VK} {u : Value} (x0 : HOk P w H s.heap) (h : CE outer P w H s (dropQ H Q) u s') : CE outer P w H s Q u s' := by
  obtain ⟨v, H', e1, e2, e3, e4, e5, H'', d, q⟩ := h
  exact ⟨v, H'', e1, e2, d.un e3, d.hok x0 e4, e5, q⟩
theorem fnDrop {P : Program} {w : World} {K : PySem.W.Frag} {mg : Str → Option Value} {base : Heap} {CX : CXT} {k : Nat} {f : Addr} {fd : FuncData} {ps : List Str} {sp sp' : Sp} (F : FnOk P w K mg base CX k f fd ps sp)
    (h : ∀ vs H Q E, sp' vs H Q E → sp vs H (dropQ H Q) E) : FnOk P w K mg base CX k f fd ps sp' :=
  ⟨fun vs H Q E q => F.len vs H _ E (h _ _ _ _ q), fun A outer s H args us vs Q E hr he hb hv hs => codeAny_mono (F.run A outer s H args us vs _ E hr he hb hv (h _ _ _ _ hs)) fun r s' q => by
    cases r with
    | error e => exact q
    | ok fl =>
      cases fl with
      | ret u => exact ce_drop he.hok q
      | next => exact q
      | brk => exact q
      | cont => exact q⟩
/-- the heap is the old one again -/
theorem drop_same {H H' : Hp} (n : NoDT H) (e : Same H H') : Drop H H' H := ⟨e, fun b o q => q.trans (e b o q).symm, fun b o q => .inl ⟨q, n b o q⟩⟩
/-- .. but at r -/
def KeepX (r : Addr) (H H' : Hp) : Prop := ∀ b o, b ≠ r → H b = some o → H' b = some o
theorem drop_upd {H H' : Hp} {r : Addr} {o : HO} (n : NoDT H) (e : KeepX r H H') (h : H' r = some o) (c : ∀ G, Cl H' G o) : Drop H H' (upd H r o) := by
  refine ⟨fun b u q => ?_, fun b u q => ?_, fun b u q => ?_⟩
  · by_cases z : b = r
    · rw [z, upd_same] at q
      cases q
      rw [z]
      exact h
    · rw [upd_ne z] at q
      exact e b u z q
  · by_cases z : b = r
    · rw [z, upd_same, h]
    · rw [upd_ne z, q, e b u z q]
  · by_cases z : b = r
    · rw [z, upd_same] at q
      cases q
      exact .inr (.inr (c _))
    · rw [upd_ne z] at q
      exact .inl ⟨q, n b u q⟩
/-- a new object at p stays, besides -/
theorem drop_new {H H' : Hp} {p : Addr} {o : HO} (n : NoDT H) (e : Same H H') (hp : H p = Option.none) (h : H' p = some o) (c : ∀ G, Cl H' G o) : Drop H H' (upd H p o) :=
  drop_upd n (fun b u _ q => e b u q) h c

/-! ### defs that may not run inside a repr: the guards are known -/
structure FnG (P : Program) (w : World) (K : PySem.W.Frag) (mg : Str → Option Value) (base : Heap) (CX : CXT) (k : Nat) (f : Addr) (fd : FuncData) (ps : List Str) (sp : Sp) : Prop where
  len : ∀ vs H Q E, sp vs H Q E → vs.length = ps.length
  run : ∀ (A : Around) (outer : List Env) (s : Shared) (H : Hp) (args : Args) (us : List Value) (vs : List V) (Q : VK) (E : XK), Room k A → A.guards = some [] → Env0 P w K mg base A outer s H → BindsTo s fd args (ps.zip us) → Vals vs us → sp vs H Q E →
    codeAny (model P w) A (.call (.ref f) args) (CR CX outer P w H s Q E) s
theorem fnG {P : Program} {w : World} {K : PySem.W.Frag} {mg : Str → Option Value} {base : Heap} {CX : CXT} {k : Nat} {f : Addr} {fd : FuncData} {ps : List Str} {sp : Sp} (F : FnOk P w K mg base CX k f fd ps sp) : FnG P w K mg base CX k f fd ps sp :=
  ⟨F.len, fun A outer s H args us vs Q E hr _ => F.run A outer s H args us vs Q E hr⟩
theorem fnGDrop {P : Program} {w : World} {K : PySem.W.Frag} {mg : Str → Option Value} {base : Heap} {CX : CXT} {k : Nat} {f : Addr} {fd : FuncData} {ps : List Str} {sp sp' : Sp} (F : FnG P w K mg base CX k f fd ps sp)
    (h : ∀ vs H Q E, sp' vs H Q E → sp vs H (dropQ H Q) E) : FnG P w K mg base CX k f fd ps sp' :=
  ⟨fun vs H Q E q => F.len vs H _ E (h _ _ _ _ q), fun A outer s H args us vs Q E hr hg he hb hv hs => codeAny_mono (F.run A outer s H args us vs _ E hr hg he hb hv (h _ _ _ _ hs)) fun r s' q => by
    cases r with
    | error e => exact q
    | ok fl =>
      cases fl with
      | ret u => exact ce_drop he.hok q
      | next => exact q
      | brk => exact q
      | cont => exact q⟩
theorem guards_deeper {A : Around} {env : Env} (h : A.guards = some []) : (A.deeper env).guards = some [] := h

section
variable {P : Program} {w : World} {K : PySem.W.Frag} {mg : Str → Option Value} {base : Heap} {CX : CXT}
/-- a def's body, run where no repr runs -/
theorem fnGof {k : Nat} {f : Addr} {nm qual : Str} {pa : Arguments} {bd : List Stmt} {sc : Scope} {dV kV doc pm cdv ct oc : Value} {an od : Option Addr} {osl : Array (Option Value)} {N ps : List Str} {sp : Sp}
    (lk : K.lookup f = some ⟨oc, od, .func (PySem.W.fnOf nm qual pa bd sc dV kV doc pm an cdv ct), osl⟩) (hcd : PySem.W.codeIn K cdv qual = true) (S : FnScope N ps sc)
    (hl : ∀ vs H Q E, sp vs H Q E → vs.length = ps.length)
    (hb : ∀ (A : Around) (outer : List Env) (s : Shared) (H : Hp) (vs : List V) (Q : VK) (E : XK), Room k (A.deeper (envOfC qual sc s.heap.objs.size f cdv)) → A.guards = some [] → sp vs H Q E →
      ∃ t, PSs (cxOf CX P w K mg base N qual sc f cdv A outer s H E) bd t ∧ t ⟨fun _ G => Q .non G, Q, fun _ _ => False, fun _ _ => False⟩ (start N vs) H) :
    FnG P w K mg base CX (k + 1) f (PySem.W.fnOf nm qual pa bd sc dV kV doc pm an cdv ct) ps sp := by
  refine ⟨hl, fun A outer s H args us vs Q E room gd e0 bi rv want => ?_⟩
  have inK : K.In s.heap := e0.mod.kin.keeps fun b o q => (e0.bs b o q).1
  have noL : s.heap.NoLimit := e0.mod.nolimit.keeps fun b o q => (e0.bs b o q).1
  have kinds : ∀ y ∈ ps.zip us, sc.names.lookup y.1 = some .local ∨ (sc.names.lookup y.1 = some .cell ∧ ((cellsFrom (s.heap.objs.size + 1) sc.names []).lookup y.1).isSome = true) := by
    rintro ⟨n, v⟩ hy
    have hn := S.par n (List.of_mem_zip hy).1
    exact hn.imp id fun q => ⟨q, PySem.W.cellsFrom_some _ _ _ (.inl q)⟩
  refine codeAny_call_function room.depth (inK _ _ lk) rfl S.co S.gen rfl (PySem.W.codeRec_of inK hcd) (bi _ _ _ _ ?_)
  refine wpAny_newFunctionEnv_cells S.kind kinds fun env eq s1 ic => ?_
  cases eq
  refine ⟨noL.keeps ic.toInCall.keep, codeAny_func ?_⟩
  obtain ⟨t, ht, hq⟩ := hb A outer s H vs Q E (room.deeper _) gd want
  have I := inv_start (CX := CX) (E := E) (qual := qual) (f := f) (cd := cdv) (A := A) S room.hd e0 (hl _ _ _ _ want) rv ic
  refine wpAny_mono (ht.run [] s1 (start N vs) H _ I hq) (fun fl s' out => ?_) fun _ _ z => z
  cases fl with
  | ret u =>
    obtain ⟨v, _, G, J, r, q⟩ := out
    exact ⟨v, G, J.os, J.bare, J.base, J.hok, r, q⟩
  | next =>
    obtain ⟨_, G, J, q⟩ := out
    exact ⟨.non, G, J.os, J.bare, J.base, J.hok, rfl, q⟩
  | brk =>
    obtain ⟨_, _, _, q⟩ := out
    exact q.elim
  | cont =>
    obtain ⟨_, _, _, q⟩ := out
    exact q.elim
theorem funG {x qual : Str} {st : Stmt} {f : Addr} {fd : FuncData} {N ps : List Str} {k : Nat} {sp : Sp} (F : Fun K x qual st f fd) (S : FnScope N ps (defScope st)) (hl : ∀ vs H Q E, sp vs H Q E → vs.length = ps.length)
    (hb : ∀ (cdv : Value) (A : Around) (outer : List Env) (s : Shared) (H : Hp) (vs : List V) (Q : VK) (E : XK), Room k (A.deeper (envOfC qual (defScope st) s.heap.objs.size f cdv)) → A.guards = some [] → sp vs H Q E →
      ∃ t, PSs (cxOf CX0 P w K mg base N qual (defScope st) f cdv A outer s H E).nox (defBody st) t ∧ t ⟨fun _ G => Q .non G, Q, fun _ _ => False, fun _ _ => False⟩ (start N vs) H) : FnG P w K mg base CX0 (k + 1) f fd ps sp := by
  obtain ⟨oc, od, kV, doc, pm, an, cdv, ct, osl, rfl, lk, hcd⟩ := F.ex
  refine fnGof lk hcd S hl fun A outer s H vs Q E hr gd hs => ?_
  obtain ⟨t, h, q⟩ := hb cdv A outer s H vs Q E hr gd hs
  exact ⟨t, h.nox, q⟩
end
section
variable {X : Cx} {CX : CXT} {k : Nat} {f : Addr} {fd : FuncData} {ps : List Str} {sp : Sp} {dvs : List V} {ds : List Value} {E : XK} {x : Str} {p pos : Pos} {e : Expr} {es : List Expr} {t : TA}
theorem runG {pins : List (Addr × Obj)} {σ : L2.St} {H : Hp} {s : Shared} {Q : VK} {us : List Value} {vs : List V} (F : FnG X.prog X.w X.K X.mg X.base CX k f fd ps sp) (room : Room k X.A) (gd : X.A.guards = some []) (bi : Binds X.K fd ps ds) (rd : Vals dvs ds) (pass : Passes CX X E)
    (I : Inv X pins σ H s) (r : Vals vs us) (want : sp (vs ++ dvs) H Q E) : wpAny (model X.prog X.w) X.A (call (.ref f) us) (EP X pins σ Q) X.xe s := by
  have rr := r.append rd
  have ll : (us ++ ds).length = ps.length := rr.length.symm.trans (F.len _ _ _ _ want)
  refine wpAny_call (codeAny_mono (F.run X.A X.stack s H _ _ _ Q E room gd I.env0 (bi s us I.kIn ll) rr want) ?_)
  rintro (er | fl) s' out
  · exact pass pins σ H s er s' I out
  · cases fl with
    | ret u => exact I.after out
    | next => exact out.elim
    | brk => exact out.elim
    | cont => exact out.elim
/-- f(e, ..) of such a def -/
theorem pe_callG (F : FnG X.prog X.w X.K X.mg X.base CX k f fd ps sp) (room : Room k X.A) (gd : X.A.guards = some []) (hg : Gl X x) (hm : X.mg x = some (.ref f)) (hk : PySem.W.keepIn X.K (.ref f) = true) (bi : Binds X.K fd ps ds) (rd : Vals dvs ds) (pass : Passes CX X E)
    (ha : PA X (e :: es) t) (h1 : (x == ("__debug__" : Str)) = false := by decide) (h2 : starEach (e :: es) X.env = (false, eval e X.env) :: starEach es X.env := by rfl) (h3 : (backTo pos (starEach es X.env)).any (·.1) = false := by rfl) :
    PE X (.Call (.Name x p) (e :: es) [] pos) (tCall sp dvs E t) :=
  ⟨fun pins s σ H Q I h => wpAny_Call_Name_kw (ld_glob I hg hm
    (PySem.W.callWith_K (h₀ := X.base) I.ok.mod.kin hk (thn (ha.run pos pins s σ H _ I h) fun _ _ ⟨_, _, I1, r, q⟩ => ⟨I1.kIn, runG F room gd bi rd pass I1 r q⟩) h2 h3) h1)⟩
end
end Cv

namespace Cv
open PySem PySem.Spec PyProof.Rows L2
/-- a law's call, its def kept where no repr runs -/
theorem lawG {P : Program} {w : World} {K : PySem.W.Frag} {mg mb : Str → Option Value} {CX : CXT} {k : Nat} {fa a : Addr} {fd : FuncData} {x : Str} {sp : Sp} {s : Shared} {us : List Value} {ns : List Int}
    (inK : K.In s.heap) (hG : s.heap.Ns mainGlobals mg) (hB : s.heap.Ns builtinsNs mb) (hBB : ∀ x : Str, x ≠ "__name__" → mb x = bootBuiltins x) (noL : s.heap.NoLimit) (g0 : s.gens = #[])
    (ha : s.heap.get? a = some { cls := .type "list", data := .seq us.toArray }) (hi : IntsAre us ns) (hz : ns.length ≤ sizeLine) (room : Room k callerA)
    (F : ∀ base : Heap, K.In base → base.Ns mainGlobals mg → FnG P w K mg base CX k fa fd [x] sp) (bi : ∀ (s : Shared) (u : Value), BindsTo s fd ⟨[u], []⟩ [(x, u)])
    (want : ∀ H : Hp, Only H → NoDT H → SqL K H a (ns.map V.int) → sp [.ref a] H (fun v _ => v = .bl true) fun _ _ _ => False)
    (noX : ∀ H e s', CX [] H s (fun _ _ _ => False) e s' → False) :
    codeAny (model P w) callerA (.call (.ref fa) ⟨[.ref a], []⟩) (fun r s' => r = .ok (.ret (.bool true)) ∧ OldK s.heap s'.heap ∧ s'.os = s.os ∧ AllBare s'.gens) s := by
  have rel := vals_ints hi
  -- whatever of the script alone is tracked
  suffices key : ∀ H : Hp, Only H → NoDT H → SqL K H a (ns.map V.int) → HOk P w H s.heap → (∀ b u, H b = some u → b = a ∧ K.lookup a = none) →
      codeAny (model P w) callerA (.call (.ref fa) ⟨[.ref a], []⟩) (fun r s' => r = .ok (.ret (.bool true)) ∧ OldK s.heap s'.heap ∧ s'.os = s.os ∧ AllBare s'.gens) s by
    cases kq : K.lookup a with
    | some o =>
      have eo := inK a o kq
      rw [ha] at eo
      cases eo
      exact key (fun _ => none) (fun _ => .inl rfl) (fun _ _ z => nomatch z) (.inr ⟨_, us.toArray, _, kq, rfl, rfl, rfl, by rw [List.size_toArray, hi.length]; exact hz, rel⟩) (fun _ _ z => nomatch z) fun _ _ z => nomatch z
    | none =>
      have at_ : ∀ {b : Addr} {u : HO}, (if b = a then some (HO.frz { cls := .type "list", data := .seq us.toArray } (.lst (ns.map V.int))) else none) = some u → b = a ∧ u = HO.frz { cls := .type "list", data := .seq us.toArray } (.lst (ns.map V.int)) := by
        intro b u z
        by_cases q : b = a
        · rw [if_pos q] at z
          exact ⟨q, (Option.some.inj z).symm⟩
        · rw [if_neg q] at z
          cases z
      refine key (fun b => if b = a then some (.frz { cls := .type "list", data := .seq us.toArray } (.lst (ns.map V.int))) else none) (fun b => ?_) (fun b u z => ?_) (.inl (.inr ⟨_, if_pos rfl⟩)) (fun b u z => ?_) fun b u z => ⟨(at_ z).1, kq⟩
      · by_cases q : b = a
        · exact .inr ⟨_, _, if_pos q⟩
        · exact .inl (if_neg q)
      · rw [(at_ z).2]
        rfl
      · obtain ⟨rfl, rfl⟩ := at_ z
        exact ⟨ha, by rw [List.length_map]; exact hz, us, _, rel, ha⟩
  intro H only nd hS hok alone
  have apart : ∀ {b : Addr} {o : Obj}, s.heap.get? b = some o → (∀ items n, o.data ≠ .seq items n) → H b = none := by
    intro b o eb nd
    cases q : H b with
    | none => rfl
    | some u =>
      obtain ⟨rfl, _⟩ := alone b u q
      rw [ha] at eb
      cases eb
      exact absurd rfl (nd us.toArray _)
  have nsB : ∀ {b : Addr} {m : Str → Option Value}, s.heap.Ns b m → (hidT s.heap H).Ns b m := by
    rintro b m ⟨o, es, ep, e1, e2, e3⟩
    exact ⟨o, es, ep, hidT_get e1 (apart e1 fun _ _ z => by rw [e2] at z; cases z), e2, e3⟩
  have kB : K.In (hidT s.heap H) := by
    intro b o e1
    refine hidT_get (inK b o e1) ?_
    cases q : H b with
    | none => rfl
    | some u =>
      obtain ⟨rfl, z⟩ := alone b u q
      rw [z] at e1
      cases e1
  have lim : (hidT s.heap H).NoLimit := by
    obtain ⟨mc, e1, e2⟩ := noL
    exact ⟨mc, nsB e1, e2⟩
  have e0 : Env0 P w K mg (hidT s.heap H) callerA [] s H :=
    ⟨rfl, ⟨kB, nsB hG, ⟨mb, nsB hB, hBB⟩, lim⟩, fun b o z => of_hidT z, Nat.le_of_eq (hidT_size _ _), True.intro, fun b z => (List.not_mem_nil z).elim, hok, .of_eq g0⟩
  refine codeAny_mono ((F _ kB (nsB hG)).run callerA [] s H ⟨[.ref a], []⟩ [.ref a] [.ref a] _ _ room rfl e0 (bi s (.ref a)) (.cons rfl .nil) (want H only nd hS)) ?_
  rintro (er | fl) s' out
  · exact (noX H er s' out).elim
  · cases fl with
    | ret u =>
      obtain ⟨v, G, os, bare, un, hok', rv, qv⟩ := out
      have ev : v = .bl true := qv
      subst ev
      cases rv
      refine ⟨rfl, OldK.of_keep fun b o eb => ?_, os, bare⟩
      cases q : H b with
      | none => exact un.keep b o eb q (fun z => (List.not_mem_nil z).elim) (fun z => (List.not_mem_nil z).elim)
      | some u =>
        rcases only b with z | ⟨ob, xs, z⟩
        · rw [q] at z
          cases z
        · have c1 := (hok b _ z).1
          have c2 := (hok' b _ (un.frzs b ob _ z)).1
          rw [eb] at c1
          cases c1
          exact c2
    | next => exact out.elim
    | brk => exact out.elim
    | cont => exact out.elim
/-- the goal behind the head, from such a law's promise; the script's ints have at most 2 ^ 20 bits -/
theorem walkG {l : PySem.W.OpenLaw} {n k : Nat} {q : Program} {loose : List Str} {XP : (Str → Option Value) → Heap → Prop} {YP : World → Heap → Prop} {d : DefRec} {CX : CXT} {x : Str}
    (hn : l.most = some n) (hn2 : n ≤ sizeLine) (hdf : d.params.defaults = []) (room : Room k callerA)
    (F : ∀ (w : World) (mg : Str → Option Value) (fa : Addr) (h : Heap), YP w h → h.Ns mainGlobals mg → mg d.name = some (.ref fa) →
      ∃ (K : PySem.W.Frag) (fd : FuncData) (sp : Sp), K.In h ∧ (∀ (s : Shared) (u : Value), BindsTo s fd ⟨[u], []⟩ [(x, u)]) ∧
        (∀ (H : Hp) (a : Addr) (ns : List Int), ns.length ≤ n → (∀ z ∈ ns, Builtin.Int.intBits z ≤ 1048576) → Only H → NoDT H → SqL K H a (ns.map V.int) → sp [.ref a] H (fun v _ => v = .bl true) fun _ _ _ => False) ∧
        ∀ base : Heap, K.In base → base.Ns mainGlobals mg → FnG l.prog w K mg base CX k fa fd [x] sp)
    (noX : ∀ (H : Hp) (s : Shared) (e : Value) (s' : Shared), CX [] H s (fun _ _ _ => False) e s' → False) :
    PySem.W.WalkO q loose XP YP l.row.toRowW d [] (fun f vs => PySem.call f vs) := by
  refine Att.attach_callB hn hdf fun w s0 s1 mg mb fa o pm cd doc a vs ns G Y ho hd hcd hmg hobj hints hlen hbits hg => ?_
  obtain ⟨K, fd, sp, inK, hb, want, hF⟩ := F w mg fa _ Y G.T.g hmg
  exact lawG inK G.T.g G.T.b G.T.builtins G.T.nolimit hg hobj hints (Nat.le_trans hlen hn2) room hF hb (fun H hO hD hS => want H a ns hlen hbits hO hD hS) fun H e s' => noX H s1 e s'
end Cv

/-! CvB: repr of data; isinstance by kinds. -/
namespace Cv
open PySem PySem.Spec PyProof.Rows L2
mutual
theorem dp_nodict {K : PySem.W.Frag} {H : Hp} : ∀ (d : PyData) (v : V), Dp K H v d → d.hasDict = false
  | .none, _, _ => by simp only [PyData.hasDict]
  | .bool _, _, _ => by simp only [PyData.hasDict]
  | .int _, _, _ => by simp only [PyData.hasDict]
  | .str _, _, _ => by simp only [PyData.hasDict]
  | .list ds, _, h => by
    cases h with
    | lst _ ha => simp only [PyData.hasDict, dp_nodicts ds _ ha]
  | .tuple ds, _, h => by
    cases h with
    | tup _ ha => simp only [PyData.hasDict, dp_nodicts ds _ ha]
  | .dict _, _, h => by cases h
theorem dp_nodicts {K : PySem.W.Frag} {H : Hp} : ∀ (ds : List PyData) (vs : List V), DpAll K H vs ds → PyData.hasDictAll ds = false
  | [], _, _ => by simp only [PyData.hasDictAll]
  | d :: ds, _, h => by
    cases h with
    | cons h1 h2 => simp only [PyData.hasDictAll, dp_nodict d _ h1, dp_nodicts ds _ h2, Bool.or_self]
end
/-- repr(x), x a text, a number, a bool, None, or a list or tuple of such -/
def rRepr (K : PySem.W.Frag) : List V → Hp → VK → Prop := fun vs H Q => ∃ x d, vs = [x] ∧ Dp K H x d ∧ d.showable = true ∧ d.depth ≤ 50 ∧ d.shown.length ≤ sizeLine ∧ Q (.str d.shown) H
theorem call_reprD {X : Cx} (gd : X.A.guards = some []) (hu : X.A.units + 64 < cLine) : CallR X (.builtin "repr") (rRepr X.K) := by
  intro pins s σ H xs us Q I r h
  obtain ⟨x, d, rfl, dp, sh, dep, len, q⟩ := h
  obtain ⟨u, rfl, rx⟩ := vals1 r
  have hd := dp_nodict d x dp
  cases x with
  | ref a =>
    cases rx
    obtain ⟨as, rd⟩ := Dp.reads I d _ _ dp rfl
    refine PySem.repr_of_reads' rd sh (PyData.noDict_hsm hd) gd (by omega) (fun _ _ z => z) (fun h' u tk k => ?_) len
    exact ⟨.str d.shown, H, I.kept (t' := tk) k, ⟨u, rfl⟩, q⟩
  | non =>
    cases rx
    cases dp
    exact PySem.P.repr_of_none ⟨.str _, H, I.tok _, ⟨_, rfl⟩, by simpa only [PyData.shown] using q⟩
  | bl b =>
    cases rx
    cases dp
    exact PySem.P.repr_of_bool ⟨.str _, H, I.tok _, ⟨_, rfl⟩, by simpa only [PyData.shown] using q⟩
  | int i =>
    obtain ⟨t, rfl⟩ := rx
    cases dp
    simp only [PyData.showable, decide_eq_true_eq] at sh
    exact PySem.P.repr_of_int sh ⟨.str _, H, I.tok _, ⟨_, rfl⟩, by simpa only [PyData.shown] using q⟩
  | str z =>
    obtain ⟨t, rfl⟩ := rx
    cases dp
    simp only [PyData.shown] at q len
    exact PySem.P.repr_of_str ⟨.str _, H, I.tok _, ⟨_, rfl⟩, q⟩ len
  | _ => cases dp

/-! ### calls by name -/
/-- the values by position and by name, put in the parameters' order: the i-th parameter is the (idx i)-th of them -/
def gP {α : Type} (idx : List Nat) (us ws : List α) : List α := idx.filterMap fun i => (us ++ ws)[i]?
theorem gP_rel : ∀ {idx : List Nat} {vs zs : List V} {us ws : List Value}, Vals vs us → Vals zs ws → Vals (gP idx vs zs) (gP idx us ws)
  | [], _, _, _, _, _, _ => .nil
  | i :: idx, vs, zs, us, ws, r1, r2 => by
    have r := Vals.append r1 r2
    have ih := gP_rel (idx := idx) r1 r2
    unfold gP at ih ⊢
    rw [List.filterMap_cons, List.filterMap_cons]
    cases e : (vs ++ zs)[i]? with
    | none => rw [Vals.none_of r e]; exact ih
    | some x =>
      obtain ⟨u, e2, rx⟩ := r.get e
      rw [e2]
      exact .cons rx ih
section
variable {K : PySem.W.Frag}
theorem funKB {x qual : Str} {st : Stmt} {f : Addr} {fd : FuncData} {ps : List Str} (F : Fun K x qual st f fd) (n : Nat) (ks : List Str) (idx : List Nat)
    (h : ∀ (kV doc pm : Value) (an : Option Addr) (cdv ct : Value) (us ws : List Value), us.length = n → ws.length = ks.length → bindArgs (PySem.W.fnOf x qual (defArgs st) (defBody st) (defScope st) .none kV doc pm an cdv ct) ⟨us, ks.zip ws⟩ = pure (ps.zip (gP idx us ws))) :
    KBn K fd ps n ks (gP idx) (gP idx) := by
  obtain ⟨oc, od, kV, doc, pm, an, cdv, ct, osl, rfl, lk, hcd⟩ := F.ex
  exact ⟨fun s us ws _ l1 l2 => .of_eq (h kV doc pm an cdv ct us ws l1 l2), gP_rel⟩
end
section
variable {X : Cx} {CX : CXT} {k n : Nat} {f : Addr} {fd : FuncData} {ps ks : List Str} {sp : Sp} {E : XK} {x : Str} {p pos : Pos} {kws : List Keyword} {tk : TA} {g : List Value → List Value → List Value} {gV : List V → List V → List V}
/-- f(k = v, ..), nothing by position -/
theorem pe_callN0 (F : FnOk X.prog X.w X.K X.mg X.base CX k f fd ps sp) (room : Room k X.A) (hg : Gl X x) (hm : X.mg x = some (.ref f)) (hk : PySem.W.keepIn X.K (.ref f) = true) (hb : KBn X.K fd ps 0 ks g gV) (pass : Passes CX X E)
    (hkw : PK X kws tk) (h1 : (backToKw pos (keywordEach kws X.env)).all (·.1.isSome) = true := by rfl) (h2 : (backToKw pos (keywordEach kws X.env)).filterMap (·.1) = ks := by rfl)
    (h3 : (x == ("__debug__" : Str)) = false := by decide) (h4 : ((backTo pos (starEach [] X.env)).any (·.1) || (backToKw pos (keywordEach kws X.env)).any (·.1.isNone)) = false := by rfl) :
    PE X (.Call (.Name x p) [] kws pos) (tCallN 0 ks.length sp gV E tNil tk) := by
  refine ⟨fun pins s σ H Q I h => wpAny_Call_Name_kw (ld_glob I hg hm ?_ h3)⟩
  refine PySem.W.callWith_KW0 (h₀ := X.base) I.ok.mod.kin hk h1 (thn (hkw.run pos pins s σ H _ I h) fun ws s2 ⟨zs, G, J, rz, _, l2, q⟩ => ⟨J.kIn, ?_⟩) h4
  rw [h2]
  exact run_fnN (us := []) (vs := []) F room hb pass J .nil rz rfl l2 q
end
end Cv

/-! CvC: the kinds of plain values, isinstance of the built-in classes; a law's generator of draws; the step that reads straight lines. -/
namespace Cv
open PySem PySem.Spec PyProof.Rows L2
/-! ### kinds -/
def kO : Option HO → Option String
  | some (.lst _) => some "list"
  | some (.frz _ (.lst _)) => some "list"
  | some (.tup _) => some "tuple"
  | some (.frz _ (.tup _)) => some "tuple"
  | some (.dK _) => some "dict"
  | some (.frz _ (.dK _)) => some "dict"
  | _ => none
def kV (H : Hp) : V → Option String
  | .non => some "NoneType"
  | .bl _ => some "bool"
  | .int _ => some "int"
  | .str _ => some "str"
  | .ref a => kO (H a)
  | _ => none
theorem kV_ty {K : PySem.W.Frag} {H : Hp} {v : V} {T : String} (h : kV H v = some T) : TyX K H v (.type T) := by
  cases v with
  | non => cases h; exact .base .non
  | bl b => cases h; exact .base (.bl b)
  | int i => cases h; exact .base (.int i)
  | str z => cases h; exact .base (.str z)
  | ref a =>
    have h : kO (H a) = some T := h
    cases e : H a with
    | none => rw [e] at h; cases h
    | some o =>
      rw [e] at h
      cases o with
      | lst xs => cases h; exact .base (.lst e)
      | tup xs => cases h; exact .base (.tup e)
      | dK kvs => cases h; exact .base (.dK e)
      | frz ob u =>
        cases u with
        | lst xs => cases h; exact .base (.frz e)
        | tup xs => cases h; exact .fTuple e
        | dK kvs => cases h; exact .fDict e
        | _ => cases h
      | _ => cases h
  | _ => cases h
/-- a plain value: no own class's -/
def Plain (H : Hp) (v : V) : Prop := (kV H v).isSome = true
def isI : V → Bool | .int _ => true | _ => false
def isB : V → Bool | .bl _ => true | _ => false
def isS : V → Bool | .str _ => true | _ => false
def isL (H : Hp) : V → Bool | .ref a => kO (H a) == some "list" | _ => false
def isT (H : Hp) : V → Bool | .ref a => kO (H a) == some "tuple" | _ => false
theorem kV_ref {H : Hp} {a : Addr} {T : String} (h : kO (H a) = some T) : T = "list" ∨ T = "tuple" ∨ T = "dict" := by
  unfold kO at h
  split at h <;> first | (cases h; first | exact .inl rfl | exact .inr (.inl rfl) | exact .inr (.inr rfl)) | cases h
theorem kit_int {H : Hp} {v : V} {T : String} (h : kV H v = some T) : kitB T "int" = some (isI v || isB v) := by
  cases v with
  | ref a => rcases kV_ref h with rfl | rfl | rfl <;> (show kitB _ _ = some false; decide +kernel)
  | non => cases h; show kitB _ _ = some false; decide +kernel
  | bl b => cases h; show kitB _ _ = some true; decide +kernel
  | int i => cases h; show kitB _ _ = some true; decide +kernel
  | str z => cases h; show kitB _ _ = some false; decide +kernel
  | _ => cases h
theorem kit_bool {H : Hp} {v : V} {T : String} (h : kV H v = some T) : kitB T "bool" = some (isB v) := by
  cases v with
  | ref a => rcases kV_ref h with rfl | rfl | rfl <;> (show kitB _ _ = some false; decide +kernel)
  | non => cases h; show kitB _ _ = some false; decide +kernel
  | bl b => cases h; show kitB _ _ = some true; decide +kernel
  | int i => cases h; show kitB _ _ = some false; decide +kernel
  | str z => cases h; show kitB _ _ = some false; decide +kernel
  | _ => cases h
theorem kit_str {H : Hp} {v : V} {T : String} (h : kV H v = some T) : kitB T "str" = some (isS v) := by
  cases v with
  | ref a => rcases kV_ref h with rfl | rfl | rfl <;> (show kitB _ _ = some false; decide +kernel)
  | non => cases h; show kitB _ _ = some false; decide +kernel
  | bl b => cases h; show kitB _ _ = some false; decide +kernel
  | int i => cases h; show kitB _ _ = some false; decide +kernel
  | str z => cases h; show kitB _ _ = some true; decide +kernel
  | _ => cases h
theorem kit_list {H : Hp} {v : V} {T : String} (h : kV H v = some T) : kitB T "list" = some (isL H v) := by
  cases v with
  | ref a =>
    have e : isL H (.ref a) = (some T == some "list") := by show (kO (H a) == some "list") = _; rw [show kO (H a) = some T from h]
    rw [e]
    rcases kV_ref h with rfl | rfl | rfl <;> decide +kernel
  | non => cases h; show kitB _ _ = some false; decide +kernel
  | bl b => cases h; show kitB _ _ = some false; decide +kernel
  | int i => cases h; show kitB _ _ = some false; decide +kernel
  | str z => cases h; show kitB _ _ = some false; decide +kernel
  | _ => cases h
theorem kit_tuple {H : Hp} {v : V} {T : String} (h : kV H v = some T) : kitB T "tuple" = some (isT H v) := by
  cases v with
  | ref a =>
    have e : isT H (.ref a) = (some T == some "tuple") := by show (kO (H a) == some "tuple") = _; rw [show kO (H a) = some T from h]
    rw [e]
    rcases kV_ref h with rfl | rfl | rfl <;> decide +kernel
  | non => cases h; show kitB _ _ = some false; decide +kernel
  | bl b => cases h; show kitB _ _ = some false; decide +kernel
  | int i => cases h; show kitB _ _ = some false; decide +kernel
  | str z => cases h; show kitB _ _ = some false; decide +kernel
  | _ => cases h
theorem Plain.get {H : Hp} {v : V} (h : Plain H v) : ∃ T, kV H v = some T := Option.isSome_iff_exists.mp h
/-- isinstance(v, T), T a built-in class: f what it answers -/
def rIs (n : String) (f : Hp → V → Bool) : List V → Hp → VK → Prop := fun vs H Q => ∃ v, vs = [v, .ty n] ∧ Plain H v ∧ Q (.bl (f H v)) H
theorem call_is {X : Cx} {n : String} {f : Hp → V → Bool} (hk : ∀ {H : Hp} {v : V} {T : String}, kV H v = some T → kitB T n = some (f H v)) : CallR X (.builtin "isinstance") (rIs n f) :=
  callImp (r := rIsi X.K) call_isi fun vs H Q h => by
    obtain ⟨v, rfl, p, q⟩ := h
    obtain ⟨T, e⟩ := p.get
    exact ⟨v, .ty n, _, _, _, rfl, .ty n, kV_ty e, kit_ty (hk e), q⟩
theorem isi_int {X : Cx} : CallR X (.builtin "isinstance") (rIs "int" fun _ v => isI v || isB v) := call_is kit_int
theorem isi_bool {X : Cx} : CallR X (.builtin "isinstance") (rIs "bool" fun _ v => isB v) := call_is kit_bool
theorem isi_str {X : Cx} : CallR X (.builtin "isinstance") (rIs "str" fun _ v => isS v) := call_is kit_str
theorem isi_list {X : Cx} : CallR X (.builtin "isinstance") (rIs "list" isL) := call_is kit_list
theorem isi_tuple {X : Cx} : CallR X (.builtin "isinstance") (rIs "tuple" isT) := call_is kit_tuple
theorem plain_int {H : Hp} {i : Int} : Plain H (.int i) := rfl
theorem plain_str {H : Hp} {z : Str} : Plain H (.str z) := rfl
theorem plain_bl {H : Hp} {b : Bool} : Plain H (.bl b) := rfl
theorem plain_non {H : Hp} : Plain H .non := rfl
theorem plain_lst {H : Hp} {a : Addr} {xs : List V} (h : H a = some (.lst xs)) : Plain H (.ref a) := by show (kO (H a)).isSome = true; rw [h]; rfl
theorem plain_tup {H : Hp} {a : Addr} {xs : List V} (h : H a = some (.tup xs)) : Plain H (.ref a) := by show (kO (H a)).isSome = true; rw [h]; rfl
theorem plain_dK {H : Hp} {a : Addr} {kvs : List (L2.Key × V)} (h : H a = some (.dK kvs)) : Plain H (.ref a) := by show (kO (H a)).isSome = true; rw [h]; rfl
/-- what a look at a reference needs: its object stands as it stood -/
theorem kV_keep {H H' : Hp} {v : V} {T : String} (h : kV H v = some T) (k : ∀ a o, v = .ref a → H a = some o → H' a = some o) : kV H' v = some T := by
  cases v with
  | ref a =>
    have h : kO (H a) = some T := h
    show kO (H' a) = some T
    cases e : H a with
    | none => rw [e] at h; cases h
    | some o => rw [k a o rfl e, ← e]; exact h
  | _ => exact h
theorem Plain.keep {H H' : Hp} {v : V} (h : Plain H v) (k : ∀ a o, v = .ref a → H a = some o → H' a = some o) : Plain H' v := by
  obtain ⟨T, e⟩ := h.get
  unfold Plain
  rw [kV_keep e k]
  rfl

theorem start_cc {x : Str} {N : List Str} {v : V} {vs : List V} : L2.start (x :: N) (v :: vs) = some v :: L2.start N vs := by
  unfold L2.start
  rw [List.map_cons, List.cons_append, List.length_cons, List.length_cons, Nat.add_sub_add_right]
theorem start_cn {x : Str} {N : List Str} : L2.start (x :: N) [] = none :: L2.start N [] := rfl
theorem start_nn : L2.start [] [] = [] := rfl
theorem at_ofC {α : Type} {xs : List α} {z : Int} {j : Nat} {v : α} (e : z = (j : Int)) (h : xs[j]? = some v) : atI xs z = some v := by
  rw [e]
  exact atI_nat h
theorem ifB {b : Bool} {A B : Prop} (h1 : b = true → A) (h0 : b = false → B) : if b = true then A else B := by
  cases b with
  | true => exact h1 rfl
  | false => exact h0 rfl
theorem ifD {c A B : Prop} [Decidable c] (h1 : c → A) (h0 : ¬ c → B) : if decide c = true then A else B := by
  by_cases h : c
  · rw [decide_eq_true h]
    exact h1 h
  · rw [decide_eq_false h]
    exact h0 h
/-! ### comprehensions whose items are reckoned without a trace -/
theorem lcP {J : It} {n : Nat} {G : Hp → Prop} {Y : Nat → Hp → V → Hp → Prop} (w : Walk J n G Y) {tt : TT} {te : TE} {vs : List Nat} {σ : L2.St} {H : Hp} {Q : VK} {j : Nat} (xs : List V) (t : V → Bool) (g : V → V)
    (hl : xs.length = n) (hz : n < sizeLine) (hG : ∀ D acc, H D = none → G (upd H D (.lst acc))) (hY : ∀ i H x H', i < n → Y i H x H' → H' = H ∧ xs[i]? = some x)
    (hw : ∀ x, wipe ((wipe σ vs).set j (some x)) vs = wipe σ vs)
    (hT : ∀ x ∈ xs, ∀ H' (R : Bool → Hp → Prop), Same H H' → R (t x) H' → tt ((wipe σ vs).set j (some x)) H' R)
    (hE : ∀ x ∈ xs, t x = true → ∀ H' (R : VK), Same H H' → R (g x) H' → te ((wipe σ vs).set j (some x)) H' R)
    (k : ∀ D, H D = none → Q (.ref D) (upd H D (.lst ((xs.filter t).map g)))) :
    ∀ D, H D = none → ∃ W : Nat → Nat → Hp → Prop, (∃ m, W 0 m (upd H D (.lst []))) ∧ ∀ i m H, W i m H →
      (J.stop i H ∧ Q (.ref D) H) ∨ (J.go i H ∧ ∃ Nx : Hp → Prop, (∀ H', Nx H' → ∃ m', m' < m ∧ W (i + 1) m' H') ∧ ∀ x H', J.yld i H x H' → gName j x (wipe σ vs) H' fun σ2 H2 => wipe σ2 vs = wipe σ vs ∧ tt σ2 H2 fun b H3 =>
        if b = true then te σ2 H3 fun y H4 => ∃ acc, H4 D = some (.lst acc) ∧ acc.length < sizeLine ∧ Nx (upd H4 D (.lst (acc ++ [y]))) else Nx H3) := by
  intro D hD
  refine lc_it w (fun i H' => H' = upd H D (.lst (((xs.take i).filter t).map g))) rfl (fun i H' hi e => by rw [e]; exact hG D _ hD) (fun i x H1 H2 hi e y => ?_) (fun H' e => ?_)
  · obtain ⟨rfl, ex⟩ := hY i H1 x H2 hi y
    have mem : x ∈ xs := List.mem_of_getElem? ex
    have same : Same H H2 := by rw [e]; exact fun b o q => by rw [upd_ne (ne_of_none q hD)]; exact q
    have tk : xs.take (i + 1) = xs.take i ++ [x] := by rw [List.take_add_one, ex]; rfl
    refine ⟨hw x, hT x mem H2 _ same ?_⟩
    refine ifB (fun ht => ?_) (fun ht => ?_)
    · refine hE x mem ht H2 _ same ⟨_, by rw [e, upd_same], ?_, ?_⟩
      · rw [List.length_map]
        refine Nat.lt_of_le_of_lt (List.length_filter_le _ _) (Nat.lt_of_le_of_lt ?_ hz)
        rw [List.length_take]
        omega
      · rw [e, upd_upd, tk, List.filter_append, List.map_append, List.filter_cons, if_pos ht]
        rfl
    · rw [e, tk, List.filter_append, List.map_append, List.filter_cons, if_neg (by rw [ht]; exact Bool.false_ne_true)]
      rw [List.filter_nil, List.map_nil, List.append_nil]
  · rw [e, List.take_of_length_le (Nat.le_of_eq hl)]
    exact k D hD
def chV (c : Nat) : V := .str ⟨#[c]⟩
theorem its_items {z : Str} : ∀ (i : Nat) (H : Hp) (x : V) (H' : Hp), i < z.cps.size → (H' = H ∧ ∃ c, z.cps[i]? = some c ∧ x = .str ⟨#[c]⟩) → H' = H ∧ (z.cps.toList.map chV)[i]? = some x := by
  rintro i H x H' hi ⟨rfl, c, e, rfl⟩
  refine ⟨rfl, ?_⟩
  rw [List.getElem?_map, Array.getElem?_toList, e]
  rfl
theorem lcStr {z : Str} {tt : TT} {te : TE} {vs : List Nat} {σ : L2.St} {H : Hp} {Q : VK} {j : Nat} (t : V → Bool) (g : V → V) (hz : z.length < sizeLine)
    (hw : ∀ x, wipe ((wipe σ vs).set j (some x)) vs = wipe σ vs)
    (hT : ∀ c ∈ z.cps.toList, ∀ H' (R : Bool → Hp → Prop), Same H H' → R (t (chV c)) H' → tt ((wipe σ vs).set j (some (chV c))) H' R)
    (hE : ∀ c ∈ z.cps.toList, t (chV c) = true → ∀ H' (R : VK), Same H H' → R (g (chV c)) H' → te ((wipe σ vs).set j (some (chV c))) H' R)
    (k : ∀ D, H D = none → Q (.ref D) (upd H D (.lst (((z.cps.toList.map chV).filter t).map g)))) {te0 : TE} (h0 : ∀ R : VK, R (.str z) H → te0 σ H R) :
    tLc (iStr te0) (gName j) tt te vs σ H Q :=
  h0 _ ⟨z, rfl, lcP walk_str (z.cps.toList.map chV) t g (by rw [List.length_map, Array.length_toList]) hz (fun _ _ _ => trivial) its_items hw
    (fun x hx => by obtain ⟨c, hc, rfl⟩ := List.mem_map.mp hx; exact hT c hc) (fun x hx => by obtain ⟨c, hc, rfl⟩ := List.mem_map.mp hx; exact hE c hc) k⟩
/-! ### loops -/
theorem forR {ta : TA} {j : Nat} {tb : TS} {D : Ends} {σ : L2.St} {H : Hp} (n : Int) (hv : ∀ R : List V → Hp → Prop, R [.int n] H → ta σ H R) (h1 : -(2 ^ 62) ≤ n) (h2 : n < 2 ^ 62) (Pv : Nat → L2.St → Hp → Prop) (h0 : Pv 0 σ H)
    (hs : ∀ (i : Nat) σ' H', i < n.toNat → Pv i σ' H' → tb ⟨Pv (i + 1), D.rt, D.nx, Pv (i + 1)⟩ (σ'.set j (some (.int (i : Int)))) H') (hd : ∀ σ' H', Pv n.toNat σ' H' → D.nx σ' H') : tFor (iRng1 ta) (gName j) tb D σ H :=
  hv _ ⟨n, rfl, h1, h2, for_range (lo := 0) (n := n.toNat) Pv h0 (fun i σ' H' hi p => by
    show tb _ (σ'.set j (some (.int (0 + (i : Int))))) H'
    rw [Int.zero_add]
    exact hs i σ' H' hi p) hd⟩
theorem forL {K : PySem.W.Frag} {tl : TE} {j : Nat} {tb : TS} {D : Ends} {σ : L2.St} {H : Hp} (a : Addr) (xs : List V) (hv : ∀ R : VK, R (.ref a) H → tl σ H R) (hx : SqL K H a xs) (Pv : Nat → L2.St → Hp → Prop) (h0 : Pv 0 σ H)
    (hl : ∀ i σ' H', i ≤ xs.length → Pv i σ' H' → SqL K H' a xs) (hs : ∀ i x σ' H', xs[i]? = some x → Pv i σ' H' → tb ⟨Pv (i + 1), D.rt, D.nx, Pv (i + 1)⟩ (σ'.set j (some x)) H') (hd : ∀ σ' H', Pv xs.length σ' H' → D.nx σ' H') : tFor (iList K tl) (gName j) tb D σ H :=
  hv _ ⟨a, rfl, ⟨xs, hx⟩, for_list Pv h0 hl (fun i x σ' H' e p => hs i x σ' H' e p) hd⟩
theorem forT {K : PySem.W.Frag} {tl : TE} {j : Nat} {tb : TS} {D : Ends} {σ : L2.St} {H H1 : Hp} (a : Addr) (xs : List V) (hv : ∀ R : VK, R (.ref a) H1 → tl σ H R) (hx : SqT K H1 a xs) (Pv : Nat → L2.St → Hp → Prop) (h0 : Pv 0 σ H1)
    (hl : ∀ i σ' H', i ≤ xs.length → Pv i σ' H' → SqT K H' a xs) (hs : ∀ i x σ' H', xs[i]? = some x → Pv i σ' H' → tb ⟨Pv (i + 1), D.rt, D.nx, Pv (i + 1)⟩ (σ'.set j (some x)) H') (hd : ∀ σ' H', Pv xs.length σ' H' → D.nx σ' H') : tFor (iTup K tl) (gName j) tb D σ H :=
  hv _ ⟨a, rfl, ⟨xs, hx⟩, for_tup Pv h0 hl (fun i x σ' H' e p => hs i x σ' H' e p) hd⟩
theorem forS {te : TE} {j : Nat} {tb : TS} {D : Ends} {σ : L2.St} {H : Hp} (z : Str) (hv : ∀ R : VK, R (.str z) H → te σ H R) (Pv : Nat → L2.St → Hp → Prop) (h0 : Pv 0 σ H)
    (hs : ∀ (i : Nat) c σ' H', z.cps[i]? = some c → Pv i σ' H' → tb ⟨Pv (i + 1), D.rt, D.nx, Pv (i + 1)⟩ (σ'.set j (some (chV c))) H') (hd : ∀ σ' H', Pv z.cps.size σ' H' → D.nx σ' H') : tFor (iStr te) (gName j) tb D σ H :=
  hv _ ⟨z, rfl, for_it walk_str Pv h0 (fun _ _ _ _ _ => trivial) (fun i x σ' H1 H2 hi p ⟨e1, c, e2, e3⟩ => by
    subst e1 e3
    exact hs i c σ' _ e2 p) hd⟩
/-! what is walked, reckoned first -/
theorem forT_eq {K : PySem.W.Frag} {tl : TE} {g : TG} {tb : TS} {D : Ends} {σ : L2.St} {H : Hp} : tFor (iTup K tl) g tb D σ H = tl σ H fun x H1 => tFor (iTup K (tC x)) g tb D σ H1 := rfl
theorem forL_eq {K : PySem.W.Frag} {tl : TE} {g : TG} {tb : TS} {D : Ends} {σ : L2.St} {H : Hp} : tFor (iList K tl) g tb D σ H = tl σ H fun x H1 => tFor (iList K (tC x)) g tb D σ H1 := rfl
theorem lcL_eq {K : PySem.W.Frag} {tl : TE} {g : TG} {tt : TT} {te : TE} {vs : List Nat} {σ : L2.St} {H : Hp} {Q : VK} : tLc (iList K tl) g tt te vs σ H Q = tl σ H fun x H1 => tLc (iList K (tC x)) g tt te vs σ H1 Q := rfl
theorem lcT_eq {K : PySem.W.Frag} {tl : TE} {g : TG} {tt : TT} {te : TE} {vs : List Nat} {σ : L2.St} {H : Hp} {Q : VK} : tLc (iTup K tl) g tt te vs σ H Q = tl σ H fun x H1 => tLc (iTup K (tC x)) g tt te vs σ H1 Q := rfl
/-! ### readings opened at known values -/
section
variable {H : Hp} {Q : VK} {i j : Int} {a b : Addr} {y z : Str}
theorem rAdd_int : rAdd (.int i) (.int j) H Q = Q (.int (i + j)) H := rfl
theorem rAdd_str : rAdd (.str y) (.str z) H Q = (y.length + z.length ≤ sizeLine ∧ Q (.str (y ++ z)) H) := rfl
theorem rAdd_ref : rAdd (.ref a) (.ref b) H Q = (∃ xs ys, lsM (H a) = some xs ∧ lsM (H b) = some ys ∧ xs.length + ys.length ≤ sizeLine ∧ ∀ p, H p = none → Q (.ref p) (upd H p (.lst (xs ++ ys)))) := rfl
theorem rIxU_ref : rIxU (.ref a) (.int i) H Q = (∃ xs v, sqO (H a) = some xs ∧ atI xs i = some v ∧ Q v H) := rfl
theorem rIxU_str : rIxU (.str z) (.int i) H Q = (z.length ≤ sizeLine ∧ ∃ c, atI z.cps.toList i = some c ∧ Q (.str ⟨#[c]⟩) H) := rfl
theorem rLenU_ref : rLenU [.ref a] H Q = (∃ xs, sqO (H a) = some xs ∧ Q (.int xs.length) H) := rfl
theorem rLenU_str : rLenU [.str z] H Q = (z.length ≤ sizeLine ∧ Q (.int z.length) H) := rfl
end
theorem rEq_int {H : Hp} {Q : VK} {i j : Int} : rEq (.int i) (.int j) H Q = Q (.bl (decide (i = j))) H := by
  unfold rEq
  rw [show scal (.int i) (.int j) = true from rfl, show decide (V.int i = V.int j) = decide (i = j) from decide_eq_decide.mpr ⟨V.int.inj, congrArg V.int⟩]
  exact propext ⟨fun h => h.2, fun h => ⟨rfl, h⟩⟩
theorem rNe_int {H : Hp} {Q : VK} {i j : Int} : rNe (.int i) (.int j) H Q = Q (.bl (!decide (i = j))) H := by
  unfold rNe
  rw [show scal (.int i) (.int j) = true from rfl, show decide (V.int i = V.int j) = decide (i = j) from decide_eq_decide.mpr ⟨V.int.inj, congrArg V.int⟩]
  exact propext ⟨fun h => h.2, fun h => ⟨rfl, h⟩⟩
theorem rEq_str {H : Hp} {Q : VK} {i j : Str} : rEq (.str i) (.str j) H Q = Q (.bl (decide (i = j))) H := by
  unfold rEq
  rw [show scal (.str i) (.str j) = true from rfl, show decide (V.str i = V.str j) = decide (i = j) from decide_eq_decide.mpr ⟨V.str.inj, congrArg V.str⟩]
  exact propext ⟨fun h => h.2, fun h => ⟨rfl, h⟩⟩
theorem rNe_str {H : Hp} {Q : VK} {i j : Str} : rNe (.str i) (.str j) H Q = Q (.bl (!decide (i = j))) H := by
  unfold rNe
  rw [show scal (.str i) (.str j) = true from rfl, show decide (V.str i = V.str j) = decide (i = j) from decide_eq_decide.mpr ⟨V.str.inj, congrArg V.str⟩]
  exact propext ⟨fun h => h.2, fun h => ⟨rfl, h⟩⟩
theorem sm20 {n : Nat} (h : n ≤ 100) : n ≤ sizeLine := Nat.le_trans h (by decide)
/-- int(n) -/
def rIntI : List V → Hp → VK → Prop := fun vs H Q => ∃ i, vs = [.int i] ∧ Q (.int i) H
theorem call_intI {X : Cx} : CallR X (.type "int") rIntI := callImp call_int1 fun vs H Q h => .inl h
/-- int(b) -/
def rIntB : List V → Hp → VK → Prop := fun vs H Q => ∃ b, vs = [.bl b] ∧ Q (.int (if b then 1 else 0)) H
theorem call_intB {X : Cx} : CallR X (.type "int") rIntB := callImp call_int1 fun vs H Q h => .inr h
/-! ### lists of texts as data -/
def toD : V → PyData | .str z => .str z | .int i => .int i | .bl b => .bool b | _ => .none
def strsOk (xs : List V) : Prop := ∀ x ∈ xs, ∃ z : Str, x = .str z ∧ PyData.strOk z = true
theorem dp_strs {K : PySem.W.Frag} {H : Hp} : ∀ {xs : List V}, strsOk xs → DpAll K H xs (xs.map toD)
  | [], _ => .nil
  | x :: xs, h => by
    obtain ⟨z, rfl, _⟩ := h x (List.mem_cons_self ..)
    exact .cons (.str z) (dp_strs fun y hy => h y (List.mem_cons_of_mem _ hy))
theorem strs_can : ∀ {xs : List V}, strsOk xs → PyData.canLayAll0 (xs.map toD) = true ∧ PyData.depthAll (xs.map toD) = 0
  | [], _ => by simp only [List.map_nil, PyData.canLayAll0, PyData.depthAll, and_self]
  | x :: xs, h => by
    obtain ⟨z, rfl, e⟩ := h x (List.mem_cons_self ..)
    obtain ⟨h1, h2⟩ := strs_can (xs := xs) fun y hy => h y (List.mem_cons_of_mem _ hy)
    simp only [List.map_cons, toD, PyData.canLayAll0, PyData.depthAll, PyData.canLay0, PyData.depth, e, h1, h2, Bool.and_self, Nat.max_self, and_self]
theorem strs_shaped {xs : List V} (h : strsOk xs) : SeqAt.shaped (.list (xs.map toD)) = true := by
  obtain ⟨h1, h2⟩ := strs_can h
  simp only [SeqAt.shaped, PyData.canLay0, PyData.depth, h1, h2, Bool.true_and]
  decide
theorem nil_shaped : SeqAt.shaped (.list []) = true := by
  simp only [SeqAt.shaped, PyData.canLay0, PyData.depth, PyData.canLayAll0, PyData.depthAll, Bool.true_and]
  decide
theorem eqv_nil {ds : List PyData} : PyData.eqv (.list ds) (.list []) = ds.isEmpty := by cases ds <;> simp only [PyData.eqv, PyData.eqvAll, List.isEmpty]
/-- == of a list of texts and an empty list -/
theorem eq_strs_nil {K : PySem.W.Frag} {H : Hp} {a b : Addr} {xs : List V} {Q : VK} (ha : H a = some (.lst xs)) (hb : H b = some (.lst [])) (hx : strsOk xs) (q : Q (.bl xs.isEmpty) H) : rEqD K (.ref a) (.ref b) H Q :=
  ⟨.list (xs.map toD), .list [], .lst (.inl (.inl ha)) (dp_strs hx), .lst (.inl (.inl hb)) .nil, strs_shaped hx, nil_shaped, by rw [eqv_nil]; cases xs <;> exact q⟩
theorem strOk_ch {z : Str} (h : PyData.strOk z = true) {c : Nat} (m : c ∈ z.cps.toList) : PyData.strOk (⟨#[c]⟩ : Str) = true := by
  unfold PyData.strOk at h ⊢
  have h2 := Array.all_eq_true'.mp h c (by simpa using m)
  simpa using h2
theorem Same.trans' {H H1 H2 : Hp} (a : Same H H1) (b : Same H1 H2) : Same H H2 := fun c o h => b c o (a c o h)
/-! ### the law's generator of draws: a list of two numbers -/
def RngO (o : HO) : Prop := ∃ a b : Int, o = .lst [.int a, .int b] ∧ 0 ≤ a ∧ 0 ≤ b ∧ b < 2147483648
def RngAt (H : Hp) (r : Addr) : Prop := NoDT H ∧ ∃ o, H r = some o ∧ RngO o
theorem RngO.ndt {o : HO} (h : RngO o) : ndt o = true := by obtain ⟨a, b, rfl, _⟩ := h; rfl
theorem RngO.cl {o : HO} (h : RngO o) (H G : Hp) : Cl H G o := by obtain ⟨a, b, rfl, _⟩ := h; trivial
theorem RngAt.set {H : Hp} {r : Addr} {o : HO} (h : RngAt H r) (n : RngO o) : RngAt (upd H r o) r := ⟨h.1.upd n.ndt, o, upd_same, n⟩
theorem RngAt.new {H : Hp} {r p : Addr} {o : HO} (h : RngAt H r) (hp : H p = none) (n : ndt o = true) : RngAt (upd H p o) r := by
  obtain ⟨d, u, e, q⟩ := h
  exact ⟨d.upd n, u, by rw [upd_ne (ne_of_none e hp)]; exact e, q⟩
theorem KeepX.refl {r : Addr} {H : Hp} : KeepX r H H := fun _ _ _ q => q
theorem KeepX.trans {r : Addr} {H H1 H2 : Hp} (a : KeepX r H H1) (b : KeepX r H1 H2) : KeepX r H H2 := fun c o n h => b c o n (a c o n h)
theorem KeepX.set {r : Addr} {H : Hp} {o : HO} : KeepX r H (upd H r o) := fun c u n h => by rw [upd_ne n]; exact h
theorem KeepX.new {r p : Addr} {H : Hp} {o : HO} (hp : H p = none) : KeepX r H (upd H p o) := fun c u n h => by rw [upd_ne (ne_of_none h hp)]; exact h
theorem Same.new {p : Addr} {H : Hp} {o : HO} (hp : H p = none) : Same H (upd H p o) := fun c u h => by rw [upd_ne (ne_of_none h hp)]; exact h
theorem Same.keepX {r : Addr} {H H' : Hp} (s : Same H H') : KeepX r H H' := fun c o _ h => s c o h
/-- a drawn value: plain, and not the generator itself -/
def Sm : V → Prop | .str z => z.length ≤ 100000 ∧ PyData.strOk z = true | _ => True
def Pl (H : Hp) (r : Addr) (v : V) : Prop := Plain H v ∧ v ≠ .ref r ∧ Sm v
theorem Pl.keep {H H' : Hp} {r : Addr} {v : V} (h : Pl H r v) (k : KeepX r H H') : Pl H' r v := ⟨h.1.keep fun a o e q => k a o (fun z => h.2.1 (by rw [e, z])) q, h.2⟩
theorem pl_int {H : Hp} {r : Addr} {i : Int} : Pl H r (.int i) := ⟨rfl, (fun z => nomatch z), trivial⟩
theorem pl_str {H : Hp} {r : Addr} {i : Str} (h : i.length ≤ 100000) (h2 : PyData.strOk i = true) : Pl H r (.str i) := ⟨rfl, (fun z => nomatch z), h, h2⟩
theorem pl_bl {H : Hp} {r : Addr} {i : Bool} : Pl H r (.bl i) := ⟨rfl, (fun z => nomatch z), trivial⟩
theorem pl_non {H : Hp} {r : Addr} : Pl H r .non := ⟨rfl, (fun z => nomatch z), trivial⟩
theorem pl_lst {H : Hp} {r a : Addr} {xs : List V} (h : H a = some (.lst xs)) (n : a ≠ r) : Pl H r (.ref a) := ⟨plain_lst h, fun z => n (V.ref.inj z), trivial⟩
theorem pl_tup {H : Hp} {r a : Addr} {xs : List V} (h : H a = some (.tup xs)) (n : a ≠ r) : Pl H r (.ref a) := ⟨plain_tup h, fun z => n (V.ref.inj z), trivial⟩
theorem pl_dK {H : Hp} {r a : Addr} {xs : List (L2.Key × V)} (h : H a = some (.dK xs)) (n : a ≠ r) : Pl H r (.ref a) := ⟨plain_dK h, fun z => n (V.ref.inj z), trivial⟩
theorem Plain.same {H H' : Hp} {v : V} (h : Plain H v) (e : Same H H') : Plain H' v := h.keep fun a o _ q => e a o q
/-- a generator made anew, then drawn from: what stood ahead of it stands -/
theorem same_made {H H' : Hp} {r : Addr} {o : HO} (hr : H r = none) (k : KeepX r (upd H r o) H') : Same H H' := fun b u e => k b u (ne_of_none e hr) (by rw [upd_ne (ne_of_none e hr)]; exact e)
theorem RngAt.ne {H : Hp} {r p : Addr} (h : RngAt H r) (hp : H p = none) : p ≠ r := by
  obtain ⟨_, o, e, _⟩ := h
  exact (ne_of_none e hp).symm
/-! ### what the law's own helpers promise -/
theorem log2_small {m : Int} (h : m.natAbs < 2 ^ 63) : m.natAbs.log2 < 9000 := by
  by_cases h0 : m.natAbs = 0
  · rw [h0]; decide
  · have := (Nat.log2_lt h0).mpr h
    omega
def spRngMk (K : PySem.W.Frag) : Sp := fun vs H Q _ => ∃ x y, vs = [x, y] ∧ ∃ (a : Addr) (k : Int) (ns : List Int), x = .ref a ∧ y = .int k ∧ SqL K H a (ns.map V.int) ∧ 0 ≤ k ∧ k ≤ 100 ∧ ∀ p o, H p = none → RngO o → Q (.ref p) (upd H p o)
theorem cube_le {k : Int} (h0 : 0 ≤ k) (h1 : k ≤ 100) : 0 ≤ (k + 3) ^ Int.toNat 3 ∧ (k + 3) ^ Int.toNat 3 ≤ 1092727 := by
  have e : (k + 3) ^ Int.toNat 3 = (k + 3) * (k + 3) * (k + 3) := by show (k + 3) ^ 3 = _; rw [Int.pow_succ, Int.pow_succ, Int.pow_succ, Int.pow_zero, Int.one_mul]
  rw [e]
  have a1 : 0 ≤ (k + 3) * (k + 3) := Int.mul_nonneg (by omega) (by omega)
  have a2 : (k + 3) * (k + 3) ≤ 103 * 103 := Int.mul_le_mul (by omega) (by omega) (by omega) (by omega)
  exact ⟨Int.mul_nonneg a1 (by omega), Int.le_trans (Int.mul_le_mul a2 (show k + 3 ≤ 103 by omega) (by omega) (by omega)) (by decide)⟩
def spDraw : Sp := fun vs H Q _ => ∃ x y, vs = [x, y] ∧ ∃ (r : Addr) (m : Int), x = .ref r ∧ y = .int m ∧ RngAt H r ∧ 1 ≤ m ∧ m.natAbs.log2 < 9000 ∧ ∀ d H', 0 ≤ d → d < m → KeepX r H H' → RngAt H' r → Q (.int d) H'
theorem useDraw {r : Addr} {m : Int} {H : Hp} {R : VK} {E : XK} (hR : RngAt H r) (m1 : 1 ≤ m) (m2 : m.natAbs < 2 ^ 63) (k : ∀ d H', 0 ≤ d → d < m → KeepX r H H' → RngAt H' r → R (.int d) H') : spDraw [.ref r, .int m] H R E :=
  ⟨_, _, rfl, r, m, rfl, rfl, hR, m1, log2_small m2, k⟩
theorem useDrawB {r : Addr} {m : Int} {H : Hp} {R : VK} {E : XK} (hR : RngAt H r) (m1 : 1 ≤ m) (m2 : m.natAbs.log2 < 9000) (k : ∀ d H', 0 ≤ d → d < m → KeepX r H H' → RngAt H' r → R (.int d) H') : spDraw [.ref r, .int m] H R E :=
  ⟨_, _, rfl, r, m, rfl, rfl, hR, m1, m2, k⟩
def spChoice : Sp := fun vs H Q _ => ∃ x y, vs = [x, y] ∧ ∃ (r l : Addr) (xs : List V), x = .ref r ∧ y = .ref l ∧ l ≠ r ∧ RngAt H r ∧ H l = some (.lst xs) ∧ 0 < xs.length ∧ xs.length ≤ 1000 ∧ ∀ v H', v ∈ xs → KeepX r H H' → RngAt H' r → Q v H'
def spPow : Sp := fun vs H Q _ => ∃ v, vs = [v] ∧ ∃ n : Int, v = .int n ∧ 0 ≤ n ∧ n ≤ 1000 ∧ Q (.int (2 ^ n.toNat)) H
def spOdd : Sp := fun vs H Q _ => ∃ x, vs = [x] ∧ ∃ (r : Addr), x = .ref r ∧ RngAt H r ∧ ∀ v H', Pl H' r v → KeepX r H H' → RngAt H' r → Q v H'
/-! ### texts glued from signs -/
def chS (c : Nat) : Str := ⟨#[c]⟩
theorem join_ch : ∀ cs : List Nat, (Txt.join (Str.ofString "") (cs.map chS)).cps = cs.toArray := by
  intro cs
  rw [show Str.ofString "" = (⟨#[]⟩ : Str) by decide +kernel, show Txt.join (⟨#[]⟩ : Str) (cs.map chS) = Str.join ⟨#[]⟩ (cs.map chS) from PySem.StrLaws.glued_eq_join _ _]
  induction cs with
  | nil => rfl
  | cons c r ih =>
    cases r with
    | nil => rfl
    | cons d r =>
      show (chS c ++ (⟨#[]⟩ : Str) ++ Str.join ⟨#[]⟩ ((d :: r).map chS)).cps = _
      rw [Str.cps_append, Str.cps_append, ih]
      simp [chS]
theorem ch_list {p : Nat → Prop} : ∀ {xs : List V}, (∀ x ∈ xs, ∃ c, x = chV c ∧ p c) → ∃ cs : List Nat, xs = cs.map chV ∧ ∀ c ∈ cs, p c
  | [], _ => ⟨[], rfl, fun c h => (List.not_mem_nil h).elim⟩
  | x :: xs, h => by
    obtain ⟨c, rfl, pc⟩ := h x (List.mem_cons_self ..)
    obtain ⟨cs, rfl, pcs⟩ := ch_list (xs := xs) fun y hy => h y (List.mem_cons_of_mem _ hy)
    refine ⟨c :: cs, rfl, fun d hd => ?_⟩
    rcases List.mem_cons.mp hd with rfl | hd
    · exact pc
    · exact pcs d hd
theorem ch_sum : ∀ cs : List Nat, ((cs.map chS).map (·.length)).sum = cs.length
  | [] => rfl
  | c :: cs => by
    rw [List.map_cons, List.map_cons, List.sum_cons, ch_sum cs, List.length_cons]
    show 1 + cs.length = cs.length + 1
    omega
theorem ch_V (cs : List Nat) : (cs.map chS).map V.str = cs.map chV := by rw [List.map_map]; rfl
theorem join_len (cs : List Nat) : (Txt.join (Str.ofString "") (cs.map chS)).length = cs.length := by
  show (Txt.join (Str.ofString "") (cs.map chS)).cps.size = _
  rw [join_ch]
  simp
theorem join_ok {cs : List Nat} (h : ∀ c ∈ cs, c < 0x110000) : PyData.strOk (Txt.join (Str.ofString "") (cs.map chS)) = true := by
  unfold PyData.strOk
  rw [join_ch]
  refine Array.all_eq_true'.mpr fun c hc => ?_
  exact decide_eq_true (h c (by simpa using hc))
theorem strOk_mem {z : Str} (h : PyData.strOk z = true) {c : Nat} (m : c ∈ z.cps.toList) : c < 0x110000 := by
  unfold PyData.strOk at h
  exact of_decide_eq_true (Array.all_eq_true'.mp h c (by simpa using m))
theorem str_at {z : Str} {d : Int} (h0 : 0 ≤ d) (h1 : d < z.length) : ∃ c, atI z.cps.toList d = some c ∧ c ∈ z.cps.toList := by
  have hl : d.toNat < z.cps.toList.length := by
    rw [Array.length_toList]
    have : (z.length : Int) = (z.cps.size : Int) := rfl
    omega
  exact ⟨z.cps.toList[d.toNat], at_ofC (by omega) (List.getElem?_eq_getElem hl), List.getElem_mem hl⟩
/-- a comprehension over range(n) whose items are drawn -/
theorem lcDraw {r : Addr} {ta : TA} {te : TE} {vs : List Nat} {σ : L2.St} {H : Hp} {Q : VK} {j : Nat} (n : Int) (hv : ∀ R : List V → Hp → Prop, R [.int n] H → ta σ H R) (h1 : -(2 ^ 62) ≤ n) (h2 : n ≤ 100000) (P : V → Prop) (hR : RngAt H r)
    (hw : ∀ x, wipe ((wipe σ vs).set j (some x)) vs = wipe σ vs)
    (hE : ∀ (i : Nat) H', i < n.toNat → KeepX r H H' → RngAt H' r → ∀ R : VK, (∀ v H2, P v → KeepX r H' H2 → RngAt H2 r → R v H2) → te ((wipe σ vs).set j (some (.int (i : Int)))) H' R)
    (k : ∀ D H' xs, xs.length = n.toNat → (∀ x ∈ xs, P x) → H D = none → H' D = some (.lst xs) → KeepX r H H' → RngAt H' r → Q (.ref D) H') : tLc (iRng1 ta) (gName j) tYes te vs σ H Q :=
  hv _ ⟨n, rfl, h1, by omega, fun D hD => by
    have hDr := hR.ne hD
    refine lc_it (walk_range (lo := 0) (n := n.toNat)) (fun i H' => ∃ xs, xs.length = i ∧ (∀ x ∈ xs, P x) ∧ H' D = some (.lst xs) ∧ KeepX r H H' ∧ RngAt H' r) ⟨[], rfl, fun x h => (List.not_mem_nil h).elim, upd_same, KeepX.new hD, hR.new hD rfl⟩ (fun _ _ _ _ => trivial) ?_ ?_
    · rintro i x H1 H2 hi ⟨xs, l1, l2, l3, l4, l5⟩ ⟨e1, e2⟩
      subst e1
      have e3 : x = .int (i : Int) := by rw [e2]; show V.int (0 + (i : Int)) = _; rw [Int.zero_add]
      subst e3
      refine ⟨hw _, ?_⟩
      simp only [tYes, ↓reduceIte]
      refine hE i _ hi l4 l5 _ fun v H3 pv k3 R3 => ⟨xs, k3 D _ hDr l3, ?_, xs ++ [v], by rw [List.length_append, l1]; rfl, fun x hx => ?_, upd_same, fun c o nc e => ?_, ?_⟩
      · have : i < 100000 := by omega
        rw [l1]
        exact Nat.lt_of_lt_of_le this (by decide)
      · rcases List.mem_append.mp hx with h | h
        · exact l2 x h
        · rw [List.mem_singleton.mp h]
          exact pv
      · rw [upd_ne (ne_of_none e hD)]
        exact k3 c o nc (l4 c o nc e)
      · obtain ⟨nd, o, e, q⟩ := R3
        exact ⟨nd.upd rfl, o, by rw [upd_ne hDr.symm]; exact e, q⟩
    · rintro H' ⟨xs, l1, l2, l3, l4, l5⟩
      exact k D H' xs l1 l2 hD l3 l4 l5⟩
/-! ### from the head's facts -/
theorem fun_of_D {K : PySem.W.Frag} {x qual : Str} {st : Stmt} {kws : List (Str × V)} {f : Addr} {fd : FuncData} (F : FunD K x qual (defArgs st) (defBody st) (defScope st) [] kws f fd) : Fun K x qual st f fd := by
  obtain ⟨oc, od, dV, kV, doc, pm, an, cdv, ct, osl, e, lk, hcd, hD, _⟩ := F.ex
  rcases hD with ⟨_, rfl⟩ | ⟨z, _⟩
  · exact ⟨⟨oc, od, kV, doc, pm, an, cdv, ct, osl, e, lk, hcd⟩, F.kp⟩
  · exact absurd rfl z
theorem fun_bindsA {K : PySem.W.Frag} {x qual : Str} {st : Stmt} {f : Addr} {fd : FuncData} {ps : List Str} (F : Fun K x qual st f fd)
    (h : ∀ (kV doc pm : Value) (an : Option Addr) (cdv ct : Value) (us : List Value), us.length = ps.length → bindArgs (PySem.W.fnOf x qual (defArgs st) (defBody st) (defScope st) .none kV doc pm an cdv ct) ⟨us, []⟩ = pure (ps.zip us)) (s : Shared) (us : List Value) (hl : us.length = ps.length) : BindsTo s fd ⟨us, []⟩ (ps.zip us) := by
  obtain ⟨oc, od, kV, doc, pm, an, cdv, ct, osl, rfl, lk, hcd⟩ := F.ex
  exact .of_eq (h kV doc pm an cdv ct us hl)
end Cv

/-! CvD: own errors: their making (an __init__ that calls its own base's), several except clauses with a name, what a suite does with the caught error. -/
namespace Cv
open PySem PySem.Spec PyProof.Rows L2
abbrev Cls1 : Type := Value × (Addr → Value → Option Addr → TS)
/-- the wish of clauses 'except c as n', one after the other; slot i is n's -/
def wNames (K : PySem.W.Frag) (i : Nat) (Wout : WX) (D : Ends) : List Cls1 → WX
  | [] => Wout
  | (c, t) :: rest => fun cls d σ H => ∃ b, PySem.W.exmOne K cls c = some b ∧
      (b = true → ∀ a, H a = none → t a cls d ⟨fun τ G => D.nx (τ.set i none) G, D.rt, fun τ G => D.bk (τ.set i none) G, fun τ G => D.ct (τ.set i none) G⟩ (σ.set i (some (.ref a))) H) ∧
      (b = false → wNames K i Wout D rest cls d σ H)
inductive Named (X : Cx) (n : Str) : List ExceptHandler → List Cls1 → Prop
  | nil : Named X n [] []
  | cons {x : Str} {c : Value} {t : Addr → Value → Option Addr → TS} {b0 : Stmt} {bs : List Stmt} {np p2 : Pos} {hds : List ExceptHandler} {l : List Cls1} (hc : Names X x c)
      (hsu : ∀ (a : Addr) (oe : Obj) (cls : Value) (d : Option Addr) (pn : List (Addr × Obj)), L2N.Zn cls d oe → (∃ vs, oe.data = .fields vs) → PSs (X.suite a ((a, oe) :: pn)) (b0 :: bs) (t a cls d))
      (r : Named X n hds l) : Named X n (.ExceptHandler (some (.Name x np)) (some n) (b0 :: bs) p2 :: hds) ((c, t) :: l)
/-- the error a has come down to the try; sI: the state without it -/
structure Down (X : Cx) (pins : List (Addr × Obj)) (σ : L2.St) (H : Hp) (a : Addr) (cls : Value) (d : Option Addr) (B : Heap) (sI s : Shared) : Prop where
  inv : Inv X pins σ H sI
  nb : ∀ b o, sI.heap.get? b = some o → b ∉ frs X.stack → B.get? b = some o
  up : sI.heap.UpToSlots s.heap
  fly : HandSPX.FlyingZ B (X.env :: X.outer) a (L2N.Zn cls d) s.heap
  na : H a = none
  os : s.os = sI.os
  ag : AllBare s.gens
section
variable {X : Cx} {pins : List (Addr × Obj)} {σ : L2.St} {H : Hp} {a : Addr} {cls : Value} {d : Option Addr} {B : Heap} {sI s : Shared}
theorem Down.here (L : Down X pins σ H a cls d B sI s) : Inv X pins σ H s := L.inv.landed L.nb L.fly.1 L.up L.os L.ag
theorem Down.obj (hf : X.env.frame = some X.env.locals) (L : Down X pins σ H a cls d B sI s) :
    ∃ (oe : Obj) (vs : Array Value), s.heap.get? a = some oe ∧ L2N.Zn cls d oe ∧ oe.data = .fields vs ∧ Inv (X.suite a ((a, oe) :: (X.pn ++ pins))) [] σ H s := by
  obtain ⟨oe, vs, e1, e2, e3⟩ := L.fly.there
  have out : a ∉ frs (X.env :: X.outer) := by
    intro m
    obtain ⟨_, u, e4, e5⟩ := L.fly.2.2.1.mem m
    rw [e1] at e4
    cases e4
    exact e5 _ e3
  refine ⟨oe, vs, e1, e2, e3, L.here.suite e1 e3 L.na (fun z => out ?_) fun z => out ?_⟩
  · exact List.mem_filterMap.mpr ⟨X.env, List.mem_cons_self, by rw [hf, z]⟩
  · obtain ⟨e, m, q⟩ := List.mem_filterMap.mp z
    exact List.mem_filterMap.mpr ⟨e, List.mem_cons_of_mem _ m, q⟩
theorem Down.goes {h : Heap} (L : Down X pins σ H a cls d B sI s) (fl : HandSPX.FlyingZ B (X.env :: X.outer) a (L2N.Zn cls d) h) (up : s.heap.UpToSlots h) : Down X pins σ H a cls d B sI { s with heap := h } :=
  ⟨L.inv, L.nb, L.up.trans up, fl, L.na, L.os, L.ag⟩
/-- no clause is left: it goes on -/
theorem Down.on {D : Ends} {Wout : WX} (hs : X.stack = X.env :: X.outer) (hf : X.env.frame = some X.env.locals) (tk : L2N.Takes X Wout) (L : Down X pins σ H a cls d B sI s) (w : Wout cls d σ H) :
    wpAny (model X.prog X.w) X.A (handleBy (.ref a) X.env []) (SP X pins D) X.xe s := by
  refine wpAny_handleBy_nil ?_
  have tr := L.fly.2.2.2
  obtain ⟨oe, vs, T, _, _, e1, _, e2, e3, _⟩ := tr
  unfold PySem.passOn
  refine wpAny_bind (wpAny_field e1 e2 e3 ?_)
  rw [if_neg (show ¬ (Value.ref T == Value.none) = true by simp)]
  have last : wpAny (model X.prog X.w) X.A (setFlight (.ref a) X.env.frame) (fun _ s2 => wpAny (model X.prog X.w) X.A (throw (.ref a) : Sem Flow) (SP X pins D) X.xe s2) X.xe s := by
    rw [hf]
    refine HandSPX.setFlight_upZ L.fly fun h held up => wpAny_throw (tk _ _ ?_)
    exact ⟨a, B, sI, pins, σ, H, cls, d, rfl, L.inv, L.nb, L.up.trans up, .inr (.inr (by rw [hs]; exact held)), L.na, L.os, L.ag, w⟩
  first
  | exact wpAny_bind (wpAny_pure (wpAny_bind last))
  | exact wpAny_bind last
/-- the name's end behind a suite -/
theorem unname {n : Str} {i : Nat} {p2 : Pos} {oe : Obj} {τ : L2.St} {G : Hp} {t : Shared} {Q : Shared → Prop} (ok : X.Ok) (hN : X.N.Nodup) (hi : X.N[i]? = some n) (hln : X.env.kindOf n = some .local)
    (S : Inv (X.suite a ((a, oe) :: (X.pn ++ pins))) [] τ G t) (q : ∀ t', Inv X pins (τ.set i none) G t' → Q t') :
    wpAny (model X.prog X.w) X.A (do bindName X.env n .none; unbindBehindTheSuite X.env n p2) (fun _ t' => Q t') X.xe t := gone_ok (S.unsuite ok) hN hi hln q
theorem Down.handle {D : Ends} {Wout : WX} {n : Str} {i : Nat} {hds : List ExceptHandler} {l : List Cls1} (hs : X.stack = X.env :: X.outer) (hf : X.env.frame = some X.env.locals) (hN : X.N.Nodup) (hi : X.N[i]? = some n) (hln : X.env.kindOf n = some .local)
    (tk : L2N.Takes X Wout) (hh : Named X n hds l) : Down X pins σ H a cls d B sI s → wNames X.K i Wout D l cls d σ H → wpAny (model X.prog X.w) X.A (handleBy (.ref a) X.env hds) (SP X pins D) X.xe s := by
  induction hh with
  | nil => exact fun L w => L.on hs hf tk w
  | @cons x c t b0 bs np p2 hds l hc hsu r ih =>
    rintro L ⟨b, hm, yes, no⟩
    have ok := L.inv.ok
    obtain ⟨oe, vs, e1, e2, e3, S⟩ := L.obj hf
    have ty : PySem.W.Looks (model X.prog X.w) s.heap (typeOf (.ref a)) cls := fun _ _ _ _ k q => wpAny_typeOf_ref (k _ _ e1) (by rw [e2.1]; exact q)
    have asks := PySem.W.exm_one (M := model X.prog X.w) L.here.kIn ty hm
    refine wpAny_handleBy_cons (codeAny_handlers_test ?_) (fun z => nomatch z)
    have name : ∀ {Q : Value → Shared → Prop} {E : Value → Shared → Prop}, Q c s → wpAny (model X.prog X.w) (X.A.mark (some (.ref a))) (eval (.Name x np) X.env) Q E s := by
      intro Q E q
      obtain ⟨g1, g2, g3⟩ := hc
      rcases g3 with g3 | ⟨g3, g4, g5⟩
      · exact ld_glob (X := X.suite a ((a, oe) :: (X.pn ++ pins))) S g1 g3 q g2
      · exact ld_blt (X := X.suite a ((a, oe) :: (X.pn ++ pins))) S g1 g3 g4 q g5 g2
    refine name (asks.here ?_)
    cases b with
    | false =>
      show wpAny _ X.A (handleBy (.ref a) X.env hds) _ _ _
      exact ih L (no rfl)
    | true =>
      refine codeAny_handlers_suite_as (HandSPX.lands_againZ L.fly fun h fl up => ?_)
      obtain ⟨o2, v2, f1, f2, f3, S2⟩ := (L.goes fl up).obj hf
      refine store_ok (X := X.suite a ((a, o2) :: (X.pn ++ pins))) (v := .ref a) S2 hN hi (.inl hln) rfl (fun s5 S5 => ?_) (.inr hln)
      refine wpAny_mono ((hsu a o2 cls d (X.pn ++ pins) f2 ⟨_, f3⟩).run [] s5 _ H _ S5 (yes rfl a L.na)) ?_ (fun _ _ z => z.elim)
      intro f t hf'
      cases f with
      | ret u =>
        obtain ⟨v, τ, G, S6, rv, q⟩ := hf'
        exact unname ok hN hi hln S6 fun t' J => ⟨v, _, _, J, rv, q⟩
      | next =>
        obtain ⟨τ, G, S6, q⟩ := hf'
        exact unname ok hN hi hln S6 fun t' J => ⟨_, _, J, q⟩
      | brk =>
        obtain ⟨τ, G, S6, q⟩ := hf'
        exact unname ok hN hi hln S6 fun t' J => ⟨_, _, J, q⟩
      | cont =>
        obtain ⟨τ, G, S6, q⟩ := hf'
        exact unname ok hN hi hln S6 fun t' J => ⟨_, _, J, q⟩
end
/-- try: .., except c1 as n: .., except c2 as n: .. -/
theorem ps_tryNames {X : Cx} {n : Str} {i : Nat} {body : List Stmt} {h0 : ExceptHandler} {hds : List ExceptHandler} {l : List Cls1} {pos : Pos} {tb : WX → TS} {Wout : WX} (hs : X.stack = X.env :: X.outer) (hf : X.env.frame = some X.env.locals)
    (hN : X.N.Nodup) (hi : X.N[i]? = some n) (hln : X.env.kindOf n = some .local) (tk : L2N.Takes X Wout)
    (hb : ∀ (W : WX) (pn : List (Addr × Obj)) (xe : Value → Shared → Prop), L2N.Takes (X.tr pn xe) W → PassesOwn (model X.prog X.w) X.A X.env xe → PSs (X.tr pn xe) body (tb W))
    (hh : Named X n (h0 :: hds) l) : PS X (.Try body (h0 :: hds) [] [] pos) (fun D σ H => tb (wNames X.K i Wout D l) D σ H) := by
  refine ⟨fun pins s σ H D I h => wpAny_Try_except ?_⟩
  have ok := I.ok
  have hfr : X.A.frames = some (X.env :: X.outer) := by rw [ok.frames, hs]
  refine wpAny_mono ((hb (wNames X.K i Wout D l) (X.pn ++ pins) (fun e s1 => wpAny (model X.prog X.w) X.A (noteFrame e X.env) (fun _ s2 => wpAny (model X.prog X.w) X.A (setFlight e none)
    (fun _ s3 => wpAny (model X.prog X.w) X.A (handleBy e X.env (h0 :: hds)) (SP X pins D) X.xe s3) X.xe s2) X.xe s1) (fun u s1 air => ?_) PassesOwn.looking).run [] s σ H D (I.toTry _) h) (fun f s1 out => ?_) (fun _ _ z => z)
  · obtain ⟨a, B, sI, p1, τ, G, cls, d, rfl, J, nb, up, sky, na, os, ag, w⟩ := air
    have sky2 : Sky B (X.env :: X.outer) a (L2N.Zn cls d) X.env.locals s1.heap := by rw [← hs]; exact sky
    show wpAny (model X.prog X.w) X.A (noteFrame (.ref a) X.env) _ _ _
    exact L2N.Sky.land L2N.Zn.steady hfr hf sky2 fun h3 fl up3 => Down.handle hs hf hN hi hln tk hh ⟨J.ofTry ok, nb, up.trans up3, fl, na, os, ag⟩ w
  · cases f with
    | ret u =>
      obtain ⟨v, τ, G, J, r, q⟩ := out
      exact ⟨v, τ, G, J.ofTry ok, r, q⟩
    | next =>
      obtain ⟨τ, G, J, q⟩ := out
      exact wpAny_execs_nil ⟨τ, G, J.ofTry ok, q⟩
    | brk =>
      obtain ⟨τ, G, J, q⟩ := out
      exact ⟨τ, G, J.ofTry ok, q⟩
    | cont =>
      obtain ⟨τ, G, J, q⟩ := out
      exact ⟨τ, G, J.ofTry ok, q⟩

/-! ### classes of errors -/
/-- of the class at C: over ValueError (by own classes), an own dict, no __del__ -/
def oexB (K : PySem.W.Frag) (C : Addr) : Bool := match K.lookup C with
  | some ⟨.type "type", _, .cls cd, sl⟩ => (match cd.mro, sl.toList with
    | .ref D :: r, [_, _, _, _, some (.builtin n), _] => D == C && (n == "ValueError.__new__" && (!cd.hasDel && (cd.hasDict && PySem.HandSPX.refsVE r)))
    | _, _ => false)
  | _ => false
theorem oexB_ok {K : PySem.W.Frag} {C : Addr} (q : oexB K C = true) : ∃ nm q N bs bm sn sub ab col dd k0 k1 k2 k3 k5,
    K.lookup C = some (excClassObj nm q C N bs bm true sn sub ab col dd k0 k1 k2 k3 k5 "ValueError.__new__") ∧ PySem.HandSPX.refsVE bm = true := by
  unfold oexB at q
  split at q
  · rename_i dd cd sl ho
    split at q
    · rename_i D r k0 k1 k2 k3 n k5 hm hl
      simp only [Bool.and_eq_true, beq_iff_eq, Bool.not_eq_true'] at q
      obtain ⟨rfl, rfl, q1, q2, q3⟩ := q
      obtain ⟨nm, bs, mro, N, qn, hd, sn, sub, ab, col, dl⟩ := cd
      dsimp only at hm q1 q2
      subst hm q1 q2
      obtain ⟨l⟩ := sl
      dsimp only at hl
      subst hl
      exact ⟨nm, qn, N, bs, r, sn, sub, ab, col, dd, k0, k1, k2, k3, k5, ho, q3⟩
    · cases q
  · cases q
/-- what a proof asks of an own error class -/
structure OwnE (K : PySem.W.Frag) (C : Addr) : Prop where
  ox : OexC K C
  xf : XfC K C
  cl : (PySem.W.clsIn K C).isSome = true
  ca : PySem.W.findIn K (.ref C) "__class__" = some (some (.builtin "object.__class__"))
  cg : PySem.W.specialIn K (.builtin "object.__class__") "__get__" = some (some (.builtin "getset_descriptor.__get__"))
  ct : PySem.W.takesIn K (.builtin "object.__class__") = some true
  cm : PySem.W.mroIn K C (.type "object") = some true
def ownB (K : PySem.W.Frag) (C : Addr) : Bool := oexB K C && (He.eqO (PySem.W.findIn K (.ref C) "__setattr__") (some (some (.builtin "object.__setattr__"))) && (decide (PySem.W.typeIn K (.ref C) = some (.type "type")) && (PySem.W.keepIn K (.ref C) && (xfB K C &&
  ((PySem.W.clsIn K C).isSome && (He.eqO (PySem.W.findIn K (.ref C) "__class__") (some (some (.builtin "object.__class__"))) && (He.eqO (PySem.W.specialIn K (.builtin "object.__class__") "__get__") (some (some (.builtin "getset_descriptor.__get__"))) &&
  (decide (PySem.W.takesIn K (.builtin "object.__class__") = some true) && decide (PySem.W.mroIn K C (.type "object") = some true)))))))))
theorem ownB_ok {K : PySem.W.Frag} {C : Addr} (h : ownB K C = true) : OwnE K C := by
  obtain ⟨h1, h⟩ := Bool.and_eq_true_iff.mp h
  obtain ⟨h2, h⟩ := Bool.and_eq_true_iff.mp h
  obtain ⟨h3, h⟩ := Bool.and_eq_true_iff.mp h
  obtain ⟨h4, h⟩ := Bool.and_eq_true_iff.mp h
  obtain ⟨h5, h⟩ := Bool.and_eq_true_iff.mp h
  obtain ⟨h6, h⟩ := Bool.and_eq_true_iff.mp h
  obtain ⟨h7, h⟩ := Bool.and_eq_true_iff.mp h
  obtain ⟨h8, h⟩ := Bool.and_eq_true_iff.mp h
  obtain ⟨h9, h10⟩ := Bool.and_eq_true_iff.mp h
  have x := xfB_ok h5
  exact ⟨⟨oexB_ok h1, He.eqO_ok h2, x.exC, of_decide_eq_true h3, h4⟩, x, h6, He.eqO_ok h7, He.eqO_ok h8, of_decide_eq_true h9, of_decide_eq_true h10⟩
/-- C(e, ..), C's own __init__ keeping sp; its context is None -/
theorem pmkN_own {X : Cx} {CX : CXT} {x : Str} {e : Expr} {es : List Expr} {ta : TA} {p pos : Pos} {C fI : Addr} {k : Nat} {fd : FuncData} {ps : List Str} {sp : Sp} (T : OexC X.K C) (iC : PySem.W.findIn X.K (.ref C) "__init__" = some (some (.ref fI)))
    (tI : PySem.W.typeIn X.K (.ref fI) = some (.type "function")) (F1 : FnOk X.prog X.w X.K X.mg X.base CX k fI fd ps sp) (room : Room (k + 1) X.A) (bi : Binds X.K fd ps []) (pass : Passes CX X (fun _ _ _ => False)) (hg : Gl X x) (hm : X.mg x = some (.ref C))
    (ha : PA X (e :: es) ta) (h1 : (x == ("__debug__" : Str)) = false := by decide) (h2 : starEach (e :: es) X.env = (false, eval e X.env) :: starEach es X.env := by rfl) (h3 : (backTo pos (starEach es X.env)).any (·.1) = false := by rfl) :
    L2N.PMk X (.Call (.Name x p) (e :: es) [] pos) (tMkO C sp [] ta) := by
  intro pins s σ H Q I want
  obtain ⟨nm, q, N, bs, bm, sn, sub, ab, col, dd, k0, k1, k2, k3, k5, lk, ve⟩ := T.cls
  refine wpAny_Call_Name_kw (ld_glob I hg hm (PySem.W.callWith_K (h₀ := X.base) I.ok.mod.kin T.kC (thn (ha.run pos pins s σ H _ I want) fun us t ⟨vs, G, J, rv, z, body⟩ => ⟨J.kIn, ?_⟩) h2 h3) h1)
  show wpAny _ _ (call (.ref C) us) _ _ _
  obtain ⟨h, gs, dr, tk, os⟩ := t
  have le : h.objs.size ≤ h.objs.size + 1 := Nat.le_succ _
  have start := body (h.objs.size + 1) (J.hok.fresh le)
  rw [List.append_nil] at start
  have old : ∀ b o, h.get? b = some o → ((h.push (PySem.W.kdv_tup us)).push (PySem.HandSPX.excO C h.objs.size)).get? b = some o := fun b o w => Heap.get?_push_of_some _ (Heap.get?_push_of_some _ w)
  have new : ((h.push (PySem.W.kdv_tup us)).push (PySem.HandSPX.excO C h.objs.size)).get? (h.objs.size + 1) = some (PySem.HandSPX.excO C h.objs.size) := by heap_get
  have J2 := J.laid (t' := tk) (a := h.objs.size + 1) (o := exo (h.objs.size + 1) C none) (h' := (h.push (PySem.W.kdv_tup us)).push (PySem.HandSPX.excO C h.objs.size)) old le (exo_ok new)
  have rs : Vals (.ref (h.objs.size + 1) :: vs) (Value.ref (h.objs.size + 1) :: us) := .cons rfl rv
  have few : (Value.ref (h.objs.size + 1) :: us ++ []).length = ps.length := by
    rw [List.append_nil]
    exact rs.length.symm.trans (F1.len _ _ _ _ start)
  have small : us.length ≤ sizeLine := by
    rw [← Paired.length rv, sizeLine_eq]
    omega
  have bound := bi _ (Value.ref (h.objs.size + 1) :: us) J2.kIn few
  rw [List.append_nil] at bound
  refine wpAny_call (PySem.HandSPX.call_own F.excBase_ValueError (fun Y => PySem.HandSPX.refsVE_contains Y bm ve) (J.kIn _ _ lk) (PySem.W.looks_findIn J.kIn iC) (fun self => PySem.W.bind_fn J.kIn self tI) small
    (codeAny_mono (F1.run _ X.stack _ _ ⟨Value.ref (h.objs.size + 1) :: us, []⟩ _ _ _ (fun _ _ _ => False) (room.make C us []) (J2.env0.make C us []) bound rs start) ?_))
  rintro (er | fl) s' out
  · exact pass pins σ _ _ er s' J2 out
  · cases fl with
    | ret u =>
      obtain ⟨v, G2, os2, bare, un, hok, ru, ev, d, fs, ea, ed, free, q2⟩ := out
      cases ev
      obtain ⟨hB, g2, d2, t2, os'⟩ := s'
      obtain ⟨t0, hG, J3, keep, gone, there, na⟩ := mk_end0 (d2 := d2) (t2 := t2) J le old un hok os2 bare ea ed free
      exact ⟨ru, h.objs.size + 1, _, _, ⟨hG, g2, d2, t2, os'⟩, _, .ref C, some d, rfl, J3, keep, gone, there, ⟨rfl, rfl, fun vs hv => by cases hv; rfl⟩, rfl, rfl, na, rfl, bare, raises_own T.exC T.tyC, q2⟩
    | next => exact out.elim
    | brk => exact out.elim
    | cont => exact out.elim
/-- B.__init__(self, ..), B an own class whose __init__ is ValueError's -/
theorem pe_binit {X : Cx} {B : Addr} {x : Str} {e : Expr} {es : List Expr} {ta : TA} {p1 p2 pos : Pos} {pl : Sem Bool} (hg : Gl X x) (hm : X.mg x = some (.ref B)) (r : ClX.CRead X.K B (.type "type"))
    (hat : PySem.W.findCls X.K (.ref B) (.type "type") "__init__" = some (.val (.builtin "ValueError.__init__"))) (ha : PA X (e :: es) ta)
    (hc : eval (.Call (.Attribute (.Name x p1) "__init__" p2) (e :: es) [] pos) X.env = (do
      let ov ← eval (.Name x p1) X.env
      standAt p2.atName
      let (f, first) ← holding [ov] (getMethod ov "__init__" pl)
      callWith pos f first (backTo pos (starEach (e :: es) X.env)) (backToKw pos (keywordEach [] X.env))) := by rfl)
    (h1 : (x == ("__debug__" : Str)) = false := by decide) (h2 : starEach (e :: es) X.env = (false, eval e X.env) :: starEach es X.env := by rfl) (h3 : (backTo pos (starEach es X.env)).any (·.1) = false := by rfl) :
    PE X (.Call (.Attribute (.Name x p1) "__init__" p2) (e :: es) [] pos) (tVeI X.K ta) := by
  refine ⟨fun pins s σ H Q I h => PySem.W.methodCall_KW (ld_glob I hg hm ?_ h1) hc⟩
  refine PySem.W.method_cls I.kIn r.ga (PySem.W.cls_value I.kIn r.rd hat (by decide +kernel) ?_)
  show wpAny _ _ (callWith pos (Value.builtin "ValueError.__init__") [] (backTo pos (starEach (e :: es) X.env)) []) _ _ _
  refine PyProof.Rows.callWith_method1 (thn (ha.run pos pins _ σ H _ (I.tok _) h) fun us t ⟨vs, G, J, rv, a, C, ws, ev, hl, T, ea, q⟩ => ?_) h2 h3
  cases ev
  cases rv with
  | cons ru rr =>
    cases ru
    exact oinit_ok T J ea (by rw [← Paired.length rr, sizeLine_eq]; omega) fun s' J' => ⟨.non, G, J', rfl, q⟩
/-- an __init__ of the form: the base's __init__, then self.f = v -/
def spInit (K : PySem.W.Frag) (f : Str) : Sp := fun vs H Q _ => ∃ x v, vs = [x, v] ∧ ∃ (a C : Addr), x = .ref a ∧ OexC K C ∧ PySem.W.findIn K (.ref C) f = some none ∧ H a = some (exo a C none) ∧
  ∀ dx, H dx = none → dx ≠ a → Q .non (upd (upd H dx (exd dx [(f, v)])) a (exo a C (some dx)))
theorem made_heap {H : Hp} {a dx C : Addr} {f : Str} {v : V} (na : H a = none) (ne : dx ≠ a) :
    upd (del (upd (upd (upd H a (exo a C none)) dx (exd dx [(f, v)])) a (exo a C (some dx))) a) dx (.xd [(f, v)]) = upd H dx (.xd [(f, v)]) := by
  funext b
  by_cases hd : b = dx
  · rw [hd, upd_same, upd_same]
  · rw [upd_ne hd, upd_ne hd]
    by_cases ha : b = a
    · rw [ha, del_same, na]
    · rw [del_ne ha, upd_ne ha, upd_ne hd, upd_ne ha]
/-- .. so C(v) is: a new dict, the error itself nowhere told -/
theorem use_mk {K : PySem.W.Frag} {C : Addr} {f : Str} {v : V} {H : Hp} {Q : XK} (T : OexC K C) (hf : PySem.W.findIn K (.ref C) f = some none) (q : ∀ d, H d = none → Q (.ref C) (some d) (upd H d (.xd [(f, v)]))) :
    [v].length ≤ 1000 ∧ ∀ a, H a = none → spInit K f (.ref a :: ([v] ++ [])) (upd H a (exo a C none))
      (fun w G => w = .non ∧ ∃ (d : Addr) (fs : List (Str × V)), G a = some (exo a C (some d)) ∧ G d = some (exd d fs) ∧ H d = none ∧ Q (.ref C) (some d) (upd (del G a) d (.xd fs))) (fun _ _ _ => False) := by
  refine ⟨by show 1 ≤ 1000; decide, fun a na => ⟨_, v, rfl, a, C, rfl, T, hf, upd_same, fun dx nd ne => ⟨rfl, dx, [(f, v)], upd_same, ?_, ?_, ?_⟩⟩⟩
  · rw [upd_ne ne, upd_same]
  · rwa [upd_ne ne] at nd
  · rw [made_heap na ne]
    rw [upd_ne ne] at nd
    exact q dx nd
end Cv

/-! CvE: what an except suite says of the caught error: its text by repr, its class, a def called with it. -/
namespace Cv
open PySem PySem.Spec PyProof.Rows L2
/-! ### data whose text is short -/
def nice (d : PyData) : Bool := d.canLay0 && (decide (d.depth ≤ 40) && (decide (d.weight ≤ 100000) && (d.showable && d.intsShort 40)))
theorem nice_parts {d : PyData} (h : nice d = true) : d.canLay0 = true ∧ d.depth ≤ 40 ∧ d.weight ≤ 100000 ∧ d.showable = true ∧ d.intsShort 40 = true := by
  obtain ⟨h1, h⟩ := Bool.and_eq_true_iff.mp h
  obtain ⟨h2, h⟩ := Bool.and_eq_true_iff.mp h
  obtain ⟨h3, h⟩ := Bool.and_eq_true_iff.mp h
  obtain ⟨h4, h5⟩ := Bool.and_eq_true_iff.mp h
  exact ⟨h1, of_decide_eq_true h2, of_decide_eq_true h3, h4, h5⟩
theorem nice_len {d : PyData} (h : nice d = true) : d.shown.length ≤ sizeLine := by
  obtain ⟨h1, _, h3, _, h5⟩ := nice_parts h
  have := PyData.shown_le 40 (by decide) d (PyData.leavesShort_of_canLay0 40 d h1 h5)
  rw [sizeLine_eq]
  omega
theorem nice_shaped {d : PyData} (h : nice d = true) : SeqAt.shaped d = true := by
  obtain ⟨h1, h2, _⟩ := nice_parts h
  exact Bool.and_eq_true_iff.mpr ⟨h1, decide_eq_true (by omega)⟩
/-- repr(x), x data, or an empty dict -/
def rShow (K : PySem.W.Frag) : List V → Hp → VK → Prop := fun vs H Q => (∃ x d, vs = [x] ∧ Dp K H x d ∧ nice d = true ∧ Q (.str d.shown) H) ∨ ∃ a, vs = [.ref a] ∧ H a = some (.dK []) ∧ Q (.str "{}") H
theorem dict_shown : (PyData.dict []).shown = ("{}" : Str) := by decide +kernel
theorem call_reprS {X : Cx} (gd : X.A.guards = some []) (hu : X.A.units + 64 < cLine) : CallR X (.builtin "repr") (rShow X.K) := by
  intro pins s σ H xs us Q I r h
  rcases h with ⟨x, d, e, dp, nc, q⟩ | ⟨a, rfl, ha, q⟩
  · obtain ⟨_, n2, _, n4, _⟩ := nice_parts nc
    exact call_reprD gd hu pins s σ H xs us Q I r ⟨x, d, e, dp, n4, by omega, nice_len nc, q⟩
  · obtain ⟨u, rfl, ru⟩ := vals1 r
    cases (show u = Value.ref a from ru)
    obtain ⟨_, nm, vs, kv, o, es, ep, e1, ex, e2, _, pr, _⟩ := dk_of I.hok ha
    cases kv
    have e3 : es.toList = [] := by
      cases he : es.toList with
      | nil => rfl
      | cons z zs =>
        rw [he] at pr
        cases pr
    have rd : Reads s.heap (.ref a) (.dict []) [a] := by
      have z := Reads.dict (h := s.heap) (a := a) (kvs := []) (as := []) (bs := []) e1 ex.1 e2 (by rw [e3]; exact ReadsAll.nil) (by rw [e3]; exact ReadsAll.nil)
      simpa using z
    refine PySem.repr_of_reads' rd (by decide +kernel) (fun _ m => ?_) gd (by show X.A.units + (PyData.depth (.dict []) + 1) < cLine; have : PyData.depth (.dict []) ≤ 40 := by decide +kernel
                                                                              omega) (fun _ _ z => z) (fun h' u tk k => ?_) (by rw [dict_shown]; decide +kernel)
    · have e4 : sysModules = a := by simpa using m
      rw [e4, beq_self_eq_true] at nm
      cases nm
    · exact ⟨.str (PyData.dict []).shown, H, I.kept (t' := tk) k, ⟨u, rfl⟩, by rw [dict_shown]; exact q⟩
/-! ### a def called with the caught error -/
structure FnE (P : Program) (w : World) (K : PySem.W.Frag) (mg : Str → Option Value) (base : Heap) (k : Nat) (f : Addr) (fd : FuncData) (x : Str) (sp : Value → Option Addr → Hp → VK → Prop) : Prop where
  run : ∀ (A : Around) (outer : List Env) (s : Shared) (H : Hp) (args : Args) (Q : VK) (p : Addr × Obj) (cls : Value) (d : Option Addr), L2H.RoomH k A → L2H.Hot1 A p → L2H.PinOk outer H s p → Zc cls d p.2 → (∃ vs, p.2.data = .fields vs) →
    Env0 P w K mg base A outer s H → BindsTo s fd args [(x, .ref p.1)] → sp cls d H Q → codeAny (model P w) A (.call (.ref f) args) (CR CX0 outer P w H s Q E0) s
section
variable {P : Program} {w : World} {K : PySem.W.Frag} {mg : Str → Option Value} {base : Heap}
theorem funE {n qual x : Str} {st : Stmt} {f : Addr} {fd : FuncData} {N : List Str} {k : Nat} {sp : Value → Option Addr → Hp → VK → Prop} (F : Fun K n qual st f fd) (S : FnScope N [x] (defScope st))
    (hb : ∀ (cdv : Value) (A : Around) (outer : List Env) (s : Shared) (H : Hp) (Q : VK) (p : Addr × Obj) (cls : Value) (d : Option Addr), L2H.Hot1 A p → L2H.RoomH k (A.deeper (envOfC qual (defScope st) s.heap.objs.size f cdv)) → Zc cls d p.2 →
      (∃ vs, p.2.data = .fields vs) → sp cls d H Q → ∃ t, PSs (L2H.cxH CX0 P w K mg base N qual (defScope st) f cdv A outer s H E0 p).nox (defBody st) t ∧ t ⟨fun _ G => Q .non G, Q, fun _ _ => False, fun _ _ => False⟩ (start N [.ref p.1]) H) :
    FnE P w K mg base (k + 1) f fd x sp := by
  obtain ⟨oc, od, kV, doc, pm, an, cdv, ct, osl, rfl, lk, hcd⟩ := F.ex
  refine ⟨fun A outer s H args Q p cls d room hot pin z fl e0 bi want => ?_⟩
  have inK : K.In s.heap := e0.mod.kin.keeps fun b o q => (e0.bs b o q).1
  have noL : s.heap.NoLimit := e0.mod.nolimit.keeps fun b o q => (e0.bs b o q).1
  have kinds : ∀ y ∈ [(x, Value.ref p.1)], (defScope st).names.lookup y.1 = some .local ∨ ((defScope st).names.lookup y.1 = some .cell ∧ ((cellsFrom (s.heap.objs.size + 1) (defScope st).names []).lookup y.1).isSome = true) := by
    intro y hy
    have e : y = (x, Value.ref p.1) := by simpa using hy
    subst e
    exact (S.par x (by simp)).imp id fun q => ⟨q, PySem.W.cellsFrom_some _ _ _ (.inl q)⟩
  refine codeAny_call_function room.depth (inK _ _ lk) rfl S.co S.gen rfl (PySem.W.codeRec_of inK hcd) (bi _ _ _ _ ?_)
  refine wpAny_newFunctionEnv_cells S.kind kinds fun env eq s1 ic => ?_
  cases eq
  refine ⟨noL.keeps ic.toInCall.keep, codeAny_func ?_⟩
  obtain ⟨t, ht, hq⟩ := hb cdv A outer s H Q p cls d hot (room.deeper _) z fl want
  have I := L2H.inv_startH (CX := CX0) (E := E0) (qual := qual) (f := f) (cd := cdv) (A := A) (vs := [.ref p.1]) (us := [.ref p.1]) S pin e0 rfl (.cons rfl .nil) ic
  refine wpAny_mono (ht.nox.run [] s1 (start N [.ref p.1]) H _ I hq) (fun fl' s' out => ?_) fun _ _ z => z
  cases fl' with
  | ret u =>
    obtain ⟨v, _, G, J, r, q⟩ := out
    exact ⟨v, G, J.os, J.bare, J.base, J.hok, r, q⟩
  | next =>
    obtain ⟨_, G, J, q⟩ := out
    exact ⟨.non, G, J.os, J.bare, J.base, J.hok, rfl, q⟩
  | brk =>
    obtain ⟨_, _, _, q⟩ := out
    exact q.elim
  | cont =>
    obtain ⟨_, _, _, q⟩ := out
    exact q.elim
end
section
variable {X : Cx} {a : Addr} {oe : Obj} {cls : Value} {d : Option Addr} {pn : List (Addr × Obj)} {k : Nat} {f : Addr} {fd : FuncData} {x n : Str} {sp : Value → Option Addr → Hp → VK → Prop} {p pos : Pos} {e : Expr} {ta : TA}
/-- f(e), e the caught error -/
theorem pe_callE (F : FnE X.prog X.w X.K X.mg X.base k f fd n sp) (room : Room k X.A) (hg : Gl X x) (hm : X.mg x = some (.ref f)) (hk : PySem.W.keepIn X.K (.ref f) = true) (bi : Binds X.K fd [n] []) (z : L2N.Zn cls d oe) (fl : ∃ vs, oe.data = .fields vs)
    (ha : PA (X.suite a ((a, oe) :: pn)) [e] ta) (h1 : (x == ("__debug__" : Str)) = false := by decide) (h2 : starEach [e] X.env = (false, eval e X.env) :: starEach [] X.env := by rfl) (h3 : (backTo pos (starEach [] X.env)).any (·.1) = false := by rfl) :
    PE (X.suite a ((a, oe) :: pn)) (.Call (.Name x p) [e] [] pos) (fun σ H Q => ta σ H fun vs G => vs = [.ref a] ∧ sp cls d G Q) := by
  refine ⟨fun pins s σ H Q I h => wpAny_Call_Name_kw (ld_glob I hg hm ?_ h1)⟩
  refine PySem.W.callWith_K (h₀ := X.base) I.ok.mod.kin hk (thn (ha.run pos pins s σ H _ I h) fun us t ⟨vs, G, J, rv, ev, q⟩ => ⟨J.kIn, ?_⟩) h2 h3
  subst ev
  obtain ⟨u, rfl, ru⟩ := vals1 rv
  cases (show u = Value.ref a from ru)
  have P1 := J.pin (a, oe) (List.mem_append_left _ List.mem_cons_self)
  have pin : L2H.PinOk X.stack G t (a, oe) := ⟨P1.1, P1.2.1, fun hm => (List.mem_cons.mp (J.stkSub a hm)).elim P1.2.2.1 P1.2.2.2.1, P1.2.2.2.2⟩
  obtain ⟨vs, hv⟩ := fl
  have b := bi t [Value.ref a] J.kIn rfl
  refine wpAny_call (codeAny_mono (F.run _ X.stack t G ⟨[.ref a], []⟩ Q (a, oe) cls d (L2H.roomH_mark room _) ⟨rfl, vs, hv, z.2.2 vs hv⟩ pin z.zc ⟨vs, hv⟩ J.env0 b q) ?_)
  rintro (er | fl2) s' out
  · exact out.elim
  · cases fl2 with
    | ret u => exact J.after out
    | next => exact out.elim
    | brk => exact out.elim
    | cont => exact out.elim
end
/-! ### isinstance of the error that is handled -/
def rIsP (K : PySem.W.Frag) (a C dd : Addr) : List V → Hp → VK → Prop := fun xs H Q => ∃ (fs : List (Str × V)), H dd = some (.xd fs) ∧
  ((∃ c cv b, xs = [.ref a, c] ∧ ClsV c cv ∧ PySem.W.kitOne K (.ref C) cv = some b ∧ Q (.bl b) H) ∨
   ∃ tp cs us b, xs = [.ref a, .ref tp] ∧ H tp = some (.tup cs) ∧ Paired ClsV cs us ∧ PySem.W.kitAny K (.ref C) us = some b ∧ Q (.bl b) H)
theorem call_isP {X : Cx} {p : Addr × Obj} {C dd : Addr} (O : OwnE X.K C) (hp : p ∈ X.pn) (z : Zc (.ref C) (some dd) p.2) (fl : ∃ vs, p.2.data = .fields vs) : CallR X (.builtin "isinstance") (rIsP X.K p.1 C dd) := by
  intro pins s σ H xs us Q I r h
  obtain ⟨fs, ed, h⟩ := h
  obtain ⟨ha, _⟩ := I.pin p (List.mem_append_left _ hp)
  obtain ⟨vs, hv⟩ := fl
  have hx : ObjOk X.prog X.w H s.heap dd (.xd fs) := I.hok dd _ ed
  obtain ⟨mA, ns, _⟩ := hx
  obtain ⟨od, ho, _⟩ := lookIn_ns ns
  have J : PySem.W.InstAt s.heap p.1 p.2 C (some od) := ⟨ha, z.1, by unfold PySem.W.notCls; rw [hv], by rw [z.2]; exact ho⟩
  have Z := PySem.W.kitx_exc (x := p.1) (ox := p.2) (od := some od) O.cl O.xf.ga O.xf.gg O.xf.exC O.ca O.cg O.ct O.cm
  rcases h with ⟨c, cv, b, rfl, kc, e, q⟩ | ⟨tp, cs, ws, b, rfl, ht, kc, e, q⟩
  · obtain ⟨u1, u2, rfl, r1, r2⟩ := vals2 r
    cases (show u1 = Value.ref p.1 from r1)
    have e2 := kc.eq r2
    subst e2
    exact PySem.W.kia_one Z I.kIn J e (fun z => nomatch z) fun tk => ⟨.bl b, H, I.tok tk, rfl, q⟩
  · obtain ⟨u1, u2, rfl, r1, r2⟩ := vals2 r
    cases (show u1 = Value.ref p.1 from r1)
    cases (show u2 = Value.ref tp from r2)
    obtain ⟨_, its, rv, o, h1, h2, n, h3⟩ := (show ObjOk X.prog X.w H s.heap tp (.tup cs) from I.hok tp _ ht)
    have e3 := ClsV.all kc rv
    subst e3
    obtain ⟨oc, dt0, dt, sl⟩ := o
    simp only at h2 h3
    subst h2 h3
    exact PySem.W.kia_tup Z I.kIn J h1 e (fun z => nomatch z) fun tk => ⟨.bl b, H, I.tok tk, rfl, q⟩
/-- l.count(x), l a list of data -/
def rCntD (K : PySem.W.Frag) : V → List V → Hp → VK → Prop := fun x xs H Q => ∃ p vs ds y d, x = .ref p ∧ xs = [y] ∧ SqL K H p vs ∧ DpAll K H vs ds ∧ Dp K H y d ∧ PyData.plainAll ds = true ∧ d.plain = true ∧ PyData.depthAll ds ≤ 40 ∧
  Q (.int ((ds.countP fun z => PyData.eqv z d : Nat) : Int)) H
theorem mt_countD {X : Cx} (hu : X.A.units + 64 < cLine) : MtR X "list.count" (rCntD X.K) := by
  intro pins s σ H x xs v us Q I rx rxs h
  obtain ⟨p, vs, ds, y, d, rfl, rfl, hs, da, dy, pa, pd, hd, q⟩ := h
  cases rx
  obtain ⟨u, rfl, ru⟩ := vals1 rxs
  obtain ⟨its, rv, pl, hlen⟩ := I.list hs
  obtain ⟨as, rs⟩ := Dp.readsAll I ds vs its da rv
  obtain ⟨bs, r2⟩ := Dp.reads I d y u dy ru
  refine PySem.SeqAt.count_list_data pl.isList rs r2 pa pd (by omega) ⟨.int ((ds.countP fun z => PyData.eqv z d : Nat) : Int), H, I.tok _, ⟨s.toks, rfl⟩, q⟩
end Cv

/-! CvF: defs that raise, calls of them by name, the head's facts of error classes. -/
namespace Cv
open PySem PySem.Spec PyProof.Rows L2
theorem uH {k : Nat} {A : Around} (r : L2H.RoomH k A) : A.units + 64 < cLine := by have := r.un; omega
theorem uR {k : Nat} {A : Around} (r : Room k A) : L2H.RoomH k A := ⟨r.dp, r.un⟩
theorem call_reprK {X : Cx} {K0 : PySem.W.Frag} (hK : X.K = K0) (gd : X.A.guards = some []) (hu : X.A.units + 64 < cLine) : CallR X (.builtin "repr") (rShow K0) := by
  subst hK
  exact call_reprS gd hu
theorem takesN0 {X : Cx} : L2N.Takes X (fun _ _ _ _ => False) := fun _ _ air => by
  obtain ⟨_, _, _, _, _, _, _, _, _, _, _, _, _, _, _, _, z⟩ := air
  exact z.elim
section
variable {P : Program} {w : World} {K : PySem.W.Frag} {mg : Str → Option Value} {base : Heap}
/-- a def that may raise -/
theorem okN {x qual : Str} {st : Stmt} {f : Addr} {fd : FuncData} {N ps : List Str} {k : Nat} {sp : Sp} (F : Fun K x qual st f fd) (S : FnScope N ps (defScope st)) (hl : ∀ vs H Q E, sp vs H Q E → vs.length = ps.length)
    (hb : ∀ (cdv : Value) (A : Around) (outer : List Env) (s : Shared) (H : Hp) (vs : List V) (Q : VK) (E : XK), Room k (A.deeper (envOfC qual (defScope st) s.heap.objs.size f cdv)) → sp vs H Q E →
      L2N.Takes (cxOf (L2N.CX P w) P w K mg base N qual (defScope st) f cdv A outer s H E) (fun cls d _ G => E cls d G) →
      PassesOwn (model P w) (cxOf (L2N.CX P w) P w K mg base N qual (defScope st) f cdv A outer s H E).A (cxOf (L2N.CX P w) P w K mg base N qual (defScope st) f cdv A outer s H E).env (cxOf (L2N.CX P w) P w K mg base N qual (defScope st) f cdv A outer s H E).xe →
      ∃ t, PSs (cxOf (L2N.CX P w) P w K mg base N qual (defScope st) f cdv A outer s H E) (defBody st) t ∧ t ⟨fun _ G => Q .non G, Q, fun _ _ => False, fun _ _ => False⟩ (start N vs) H) : FnOk P w K mg base (L2N.CX P w) (k + 1) f fd ps sp := by
  obtain ⟨oc, od, kV, doc, pm, an, cdv, ct, osl, rfl, lk, hcd⟩ := F.ex
  exact fn_of lk hcd S hl fun A outer s H vs Q E room want => hb cdv A outer s H vs Q E room want (L2N.takes_of rfl rfl rfl rfl) PassesOwn.leaving
end
section
variable {X : Cx} {CX : CXT} {k n : Nat} {f : Addr} {fd : FuncData} {ps ks : List Str} {sp : Sp} {E : L2.St → XK} {x : Str} {p pos : Pos} {kws : List Keyword} {tk : TA} {g : List Value → List Value → List Value} {gV : List V → List V → List V}
def tKwS (m : Nat) (sp : Sp) (gV : List V → List V → List V) (E : L2.St → XK) (tk : TA) : TE := fun σ H Q => tk σ H fun zs G => zs.length = m ∧ sp (gV [] zs) G Q (E σ)
/-- f(k = v, ..), nothing by position, f may raise -/
theorem pe_callKS (F : FnOk X.prog X.w X.K X.mg X.base CX k f fd ps sp) (room : Room k X.A) (hg : Gl X x) (hm : X.mg x = some (.ref f)) (hk : PySem.W.keepIn X.K (.ref f) = true) (hb : KBn X.K fd ps 0 ks g gV) (pass : ∀ σ, PassesAt CX X σ (E σ))
    (hkw : PK X kws tk) (h1 : (backToKw pos (keywordEach kws X.env)).all (·.1.isSome) = true := by rfl) (h2 : (backToKw pos (keywordEach kws X.env)).filterMap (·.1) = ks := by rfl)
    (h3 : (x == ("__debug__" : Str)) = false := by decide) (h4 : ((backTo pos (starEach [] X.env)).any (·.1) || (backToKw pos (keywordEach kws X.env)).any (·.1.isNone)) = false := by rfl) :
    PE X (.Call (.Name x p) [] kws pos) (tKwS ks.length sp gV E tk) := by
  refine ⟨fun pins s σ H Q I h => wpAny_Call_Name_kw (ld_glob I hg hm ?_ h3)⟩
  refine PySem.W.callWith_KW0 (h₀ := X.base) I.ok.mod.kin hk h1 (thn (hkw.run pos pins s σ H _ I h) fun ws t ⟨zs, G, J, rz, l2, q⟩ => ⟨J.kIn, ?_⟩) h4
  rw [h2]
  have l3 : ws.length = ks.length := by rw [← l2]; exact rz.length.symm
  have rv := hb.rel (vs := []) (us := []) .nil rz
  refine wpAny_call (codeAny_mono (F.run X.A X.stack t G ⟨[], ks.zip ws⟩ (g [] ws) (gV [] zs) Q (E σ) room J.env0 (hb.to t [] ws J.kIn rfl l3) rv q) ?_)
  rintro (er | fl) s' out
  · exact pass σ pins G t er s' J out
  · cases fl with
    | ret u => exact J.after out
    | next => exact out.elim
    | brk => exact out.elim
    | cont => exact out.elim
end
section
variable {X : Cx} {K0 : PySem.W.Frag} {o e : Expr} {es : List Expr} {to : TE} {t : TA} {apos cpos : Pos} {r : V → List V → Hp → VK → Prop}
/-- o.m(e, ..), o.m() of a built-in type, the written part named -/
theorem pe_bmK {T id : String} {name : Str} (hK : X.K = K0) (pa : PlainAttrs T) (slot : Slot T name id) (hty : typeOf (.builtin id) = pure (.type "method_descriptor")) (hm : MtR X id r) (ho : PE X o to) (ha : PA X (e :: es) t)
    (hbase : attributeBase o name X.env (eval o X.env) = eval o X.env := by rfl)
    (hfew : ((backTo cpos (starEach (e :: es) X.env)).all (fun x => !x.1) && (backToKw cpos (keywordEach [] X.env)).all (fun x => x.1.isSome) && decide ((e :: es).length + ([] : List Keyword).length + (if ([] : List Keyword).isEmpty then 0 else 1) < 30)) = true := by rfl)
    (hline : (apos.endLine == cpos.line) = true := by rfl) (hs : starEach (e :: es) X.env = (false, eval e X.env) :: starEach es X.env := by rfl) (hplain : (backTo cpos (starEach es X.env)).any (·.1) = false := by rfl) :
    PE X (.Call (.Attribute o name apos) (e :: es) [] cpos) (tBM K0 T r to t) := by
  subst hK
  exact pe_bm pa slot hty hm ho ha hbase hfew hline hs hplain
theorem pe_bm0X {T id : String} {name : Str} (hK : X.K = K0) (pa : PlainAttrs T) (slot : Slot T name id) (hty : typeOf (.builtin id) = pure (.type "method_descriptor")) (hm : MtR X id r) (ho : PE X o to)
    (hbase : attributeBase o name X.env (eval o X.env) = eval o X.env := by rfl) (hline : (apos.endLine == cpos.line) = true := by rfl) : PE X (.Call (.Attribute o name apos) [] [] cpos) (tBM0 K0 T r to) := by
  subst hK
  exact pe_bm0 pa slot hty hm ho hbase hline
end
/-- text * int -/
def rMulS : R2 := fun x y H Q => ∃ z k, x = .str z ∧ y = .int k ∧ MulOk z k ∧ Q (.str (Txt.mul z k)) H
theorem op_mulS {X : Cx} : OpR X (binaryOp .Mult) rMulS := by
  intro pins s σ H x y v u Q I rx ry h
  obtain ⟨z, k, rfl, rfl, ok, q⟩ := h
  obtain ⟨t, rfl⟩ := rx
  obtain ⟨t2, rfl⟩ := ry
  exact PySem.SB.mul ok fun t3 n => ⟨.str (Txt.mul z k), H, I.tok _, ⟨t3, rfl⟩, q⟩
/-- a comprehension over range(lo, hi, c), each item reckoned from its number -/
theorem lcC {ta : TA} {te : TE} {vs : List Nat} {σ : L2.St} {H : Hp} {Q : VK} {j n : Nat} {lo hi c : Int} (hv : ∀ R : List V → Hp → Prop, R [.int lo, .int hi, .int c] H → ta σ H R) (hr : RgC lo hi c n) (hz : n < sizeLine) (f : Int → V)
    (hw : ∀ x, wipe ((wipe σ vs).set j (some x)) vs = wipe σ vs)
    (hE : ∀ i : Nat, i < n → ∀ H' (R : VK), Same H H' → R (f (lo + (i : Nat) * c)) H' → te ((wipe σ vs).set j (some (.int (lo + (i : Nat) * c)))) H' R)
    (k : ∀ D, H D = none → Q (.ref D) (upd H D (.lst ((List.range n).map fun (i : Nat) => f (lo + (i : Nat) * c))))) : tLc (iRng3 ta) (gName j) tYes te vs σ H Q :=
  hv _ ⟨lo, hi, c, n, rfl, hr, lcP walk_rangeC ((List.range n).map fun (i : Nat) => V.int (lo + (i : Nat) * c)) (fun _ => true) (fun v => match v with | .int i => f i | v => v) (by rw [List.length_map, List.length_range]) hz (fun _ _ _ => trivial)
    (fun i H x H' hi y => ⟨y.1, by rw [List.getElem?_map, List.getElem?_range hi, y.2]; rfl⟩) hw
    (fun x _ H' R _ h => h) (fun x hx _ H' R s h => by
      obtain ⟨i, hi, rfl⟩ := List.mem_map.mp hx
      exact hE i (List.mem_range.mp hi) H' R s h)
    (fun D hD => by
      rw [List.filter_eq_self.mpr (fun _ _ => rfl), List.map_map]
      exact k D hD)⟩
/-! ### data whose text is short, by their parts -/
def Ni (d : PyData) (k w : Nat) : Prop := d.canLay0 = true ∧ d.depth ≤ k ∧ d.weight ≤ w ∧ d.showable = true ∧ d.intsShort 40 = true
def NiAll (ds : List PyData) (k w : Nat) : Prop := PyData.canLayAll0 ds = true ∧ PyData.depthAll ds ≤ k ∧ PyData.weightAll ds ≤ w ∧ PyData.showableAll ds = true ∧ PyData.intsShortAll 40 ds = true
theorem nice_of {d : PyData} {k w : Nat} (h : Ni d k w) (hk : k ≤ 40) (hw : w ≤ 100000) : nice d = true := by
  obtain ⟨h1, h2, h3, h4, h5⟩ := h
  unfold nice
  rw [h1, h4, h5, decide_eq_true (Nat.le_trans h2 hk), decide_eq_true (Nat.le_trans h3 hw)]
  rfl
theorem ni_int {i : Int} (h : i.natAbs < 2 ^ 39) : Ni (.int i) 0 40 := by
  have hl : i.natAbs.log2 < 39 := by
    by_cases h0 : i.natAbs = 0
    · rw [h0]
      decide
    · exact (Nat.log2_lt h0).mpr h
  refine ⟨by simp only [PyData.canLay0], by simp only [PyData.depth]; omega, ?_, ?_, ?_⟩
  · simp only [PyData.weight]
    split <;> omega
  · simp only [PyData.showable]
    exact decide_eq_true (by omega)
  · simp only [PyData.intsShort]
    refine decide_eq_true ?_
    simp only [PyData.shown]
    rw [PySem.ofString_length]
    exact int_text_length_le (k := 39) (by decide) hl
theorem ni_str {z : Str} {m : Nat} (h : z.length ≤ m) (ok : PyData.strOk z = true) : Ni (.str z) 0 m :=
  ⟨by simpa only [PyData.canLay0] using ok, by simp only [PyData.depth]; omega, by simp only [PyData.weight]; exact h, by simp only [PyData.showable], by simp only [PyData.intsShort]⟩
theorem ni_bl {b : Bool} : Ni (.bool b) 0 0 := ⟨by simp only [PyData.canLay0], by simp only [PyData.depth]; omega, by simp only [PyData.weight]; omega, by simp only [PyData.showable], by simp only [PyData.intsShort]⟩
theorem ni_non : Ni .none 0 0 := ⟨by simp only [PyData.canLay0], by simp only [PyData.depth]; omega, by simp only [PyData.weight]; omega, by simp only [PyData.showable], by simp only [PyData.intsShort]⟩
theorem ni_nil : NiAll [] 0 0 := ⟨by simp only [PyData.canLayAll0], by simp only [PyData.depthAll]; omega, by simp only [PyData.weightAll]; omega, by simp only [PyData.showableAll], by simp only [PyData.intsShortAll]⟩
theorem ni_cons {d : PyData} {ds : List PyData} {k1 w1 k2 w2 : Nat} (h : Ni d k1 w1) (r : NiAll ds k2 w2) : NiAll (d :: ds) (max k1 k2) (w1 + 1 + w2) := by
  obtain ⟨h1, h2, h3, h4, h5⟩ := h
  obtain ⟨r1, r2, r3, r4, r5⟩ := r
  refine ⟨by simp only [PyData.canLayAll0, h1, r1, Bool.and_self], ?_, ?_, by simp only [PyData.showableAll, h4, r4, Bool.and_self], by simp only [PyData.intsShortAll, h5, r5, Bool.and_self]⟩
  · simp only [PyData.depthAll]
    omega
  · simp only [PyData.weightAll]
    omega
theorem ni_list {ds : List PyData} {k w : Nat} (h : NiAll ds k w) : Ni (.list ds) (k + 1) w := by
  obtain ⟨h1, h2, h3, h4, h5⟩ := h
  exact ⟨by simpa only [PyData.canLay0] using h1, by simp only [PyData.depth]; omega, by simpa only [PyData.weight] using h3, by simpa only [PyData.showable] using h4, by simpa only [PyData.intsShort] using h5⟩
theorem ni_tup {ds : List PyData} {k w : Nat} (h : NiAll ds k w) : Ni (.tuple ds) (k + 1) w := by
  obtain ⟨h1, h2, h3, h4, h5⟩ := h
  exact ⟨by simpa only [PyData.canLay0] using h1, by simp only [PyData.depth]; omega, by simpa only [PyData.weight] using h3, by simpa only [PyData.showable] using h4, by simpa only [PyData.intsShort] using h5⟩
theorem char_lt (c : Char) : c.toNat < 0x110000 := by
  have h := c.valid
  show c.val.toNat < _
  rcases h with h | h
  · have h : c.val.toNat < 0xd800 := h
    omega
  · exact h.2
theorem strOk_of {z : Str} (h : ∀ c ∈ z.cps.toList, c < 0x110000) : PyData.strOk z = true := by
  unfold PyData.strOk
  rw [← Array.all_toList, List.all_eq_true]
  exact fun c hc => decide_eq_true (h c hc)
theorem of_strOk {z : Str} (h : PyData.strOk z = true) : ∀ c ∈ z.cps.toList, c < 0x110000 := by
  unfold PyData.strOk at h
  rw [← Array.all_toList, List.all_eq_true] at h
  exact fun c hc => of_decide_eq_true (h c hc)
theorem strOk_ofString (s : String) : PyData.strOk (Str.ofString s) = true := strOk_of fun c hc => by
  have hc2 : c ∈ s.toList.map Char.toNat := by
    rw [Str.ofString_eq_toList] at hc
    simpa using hc
  obtain ⟨d, _, rfl⟩ := List.mem_map.mp hc2
  exact char_lt d
theorem reprChar_lt {q c d : Nat} (hc : c < 0x110000) (h : d ∈ Builtin.Str.reprChar q c) : d < 0x110000 := by
  unfold Builtin.Str.reprChar at h
  have hx : ∀ k, d ∈ (List.replicate (k - ((Nat.toDigits 16 c).map Char.toNat).length) 48 ++ (Nat.toDigits 16 c).map Char.toNat) → d < 0x110000 := by
    intro k hk
    rcases List.mem_append.mp hk with hk | hk
    · rw [(List.mem_replicate.mp hk).2]
      decide
    · obtain ⟨e, _, rfl⟩ := List.mem_map.mp hk
      exact char_lt e
  dsimp only at h
  split at h
  · simp only [List.mem_cons, List.not_mem_nil, or_false] at h
    omega
  split at h
  · simp only [List.mem_cons, List.not_mem_nil, or_false] at h
    omega
  split at h
  · simp only [List.mem_cons, List.not_mem_nil, or_false] at h
    omega
  split at h
  · simp only [List.mem_cons, List.not_mem_nil, or_false] at h
    omega
  split at h
  · simp only [List.mem_cons, List.not_mem_nil, or_false] at h
    omega
  split at h
  · rcases List.mem_append.mp h with h | h
    · simp only [List.mem_cons, List.not_mem_nil, or_false] at h
      omega
    · exact hx _ h
  split at h
  · rcases List.mem_append.mp h with h | h
    · simp only [List.mem_cons, List.not_mem_nil, or_false] at h
      omega
    · exact hx _ h
  · rcases List.mem_append.mp h with h | h
    · simp only [List.mem_cons, List.not_mem_nil, or_false] at h
      omega
    · exact hx _ h
theorem fold_lt {q : Nat} : ∀ (l : List Nat) (acc : Array Nat), (∀ c ∈ l, c < 0x110000) → (∀ d ∈ acc, d < 0x110000) → ∀ d ∈ l.foldl (fun out c => out ++ (Builtin.Str.reprChar q c).toArray) acc, d < 0x110000
  | [], _, _, h2, d, hd => h2 d hd
  | c :: l, acc, h1, h2, d, hd => by
    refine fold_lt l _ (fun x hx => h1 x (List.mem_cons_of_mem _ hx)) (fun x hx => ?_) d hd
    rcases Array.mem_append.mp hx with hx | hx
    · exact h2 x hx
    · exact reprChar_lt (h1 c (by simp)) (by simpa using hx)
theorem strOk_repr {z : Str} (h : PyData.strOk z = true) : PyData.strOk (reprText z) = true := strOk_of fun c hc => by
  have hq : reprQuote z < 0x110000 := by
    unfold reprQuote
    split <;> decide
  have hc2 : c ∈ (z.cps.foldl (fun out c => out ++ (Builtin.Str.reprChar (reprQuote z) c).toArray) #[reprQuote z]).push (reprQuote z) := by
    have := Array.mem_toList_iff.mp hc
    exact this
  rw [← Array.foldl_toList] at hc2
  rcases Array.mem_push.mp hc2 with h3 | h3
  · exact fold_lt _ _ (of_strOk h) (fun d hd => by rw [show d = reprQuote z by simpa using hd]; exact hq) c h3
  · rw [h3]
    exact hq
theorem strOk_app {a b : Str} (h1 : PyData.strOk a = true) (h2 : PyData.strOk b = true) : PyData.strOk (a ++ b) = true := by
  unfold PyData.strOk at *
  show (a.cps ++ b.cps).all _ = true
  rw [Array.all_append, h1, h2]
  rfl
theorem strOk_from : ∀ (ts : List Str) (k : Nat) (acc : Str), PyData.strOk acc = true → (∀ t ∈ ts, PyData.strOk t = true) → PyData.strOk (textFrom k acc ts) = true
  | [], _, _, h, _ => h
  | t :: ts, k, acc, h, ht => strOk_from ts (k + 1) _ (strOk_app (strOk_app h (strOk_ofString _)) (ht t (by simp))) fun x hx => ht x (List.mem_cons_of_mem _ hx)
theorem strOk_join : ∀ (ts : List Str), (∀ t ∈ ts, PyData.strOk t = true) → PyData.strOk (Str.join ", " ts) = true
  | [], _ => by decide +kernel
  | [t], h => h t (by simp)
  | t :: u :: ts, h => strOk_app (strOk_app (h t (by simp)) (strOk_ofString _)) (strOk_join (u :: ts) fun x hx => h x (List.mem_cons_of_mem _ hx))
mutual
theorem shown_ok : ∀ d : PyData, d.canLay0 = true → PyData.strOk d.shown = true
  | .none, _ => by simp only [PyData.shown]; exact strOk_ofString _
  | .bool b, _ => by simp only [PyData.shown]; cases b <;> exact strOk_ofString _
  | .int i, _ => by simp only [PyData.shown]; exact strOk_ofString _
  | .str z, h => by simp only [PyData.shown]; exact strOk_repr (by simpa only [PyData.canLay0] using h)
  | .list ds, h => by
    simp only [PyData.shown]
    exact strOk_app (strOk_from _ _ _ (strOk_ofString _) (shownAll_ok ds (by simpa only [PyData.canLay0] using h))) (strOk_ofString _)
  | .tuple ds, h => by
    simp only [PyData.shown]
    exact strOk_app (strOk_app (strOk_ofString _) (strOk_join _ (shownAll_ok ds (by simpa only [PyData.canLay0] using h)))) (strOk_ofString _)
  | .dict _, h => by simp [PyData.canLay0] at h
theorem shownAll_ok : ∀ ds : List PyData, PyData.canLayAll0 ds = true → ∀ t ∈ PyData.shownAll ds, PyData.strOk t = true
  | [], _, t, ht => by simp [PyData.shownAll] at ht
  | d :: ds, h, t, ht => by
    simp only [PyData.canLayAll0, Bool.and_eq_true] at h
    simp only [PyData.shownAll, List.mem_cons] at ht
    rcases ht with rfl | ht
    · exact shown_ok d h.1
    · exact shownAll_ok ds h.2 t ht
end
mutual
theorem eqv_refl : ∀ d : PyData, d.canLay0 = true → PyData.eqv d d = true
  | .none, _ => by simp only [PyData.eqv]
  | .bool _, _ => by simp only [PyData.eqv, beq_self_eq_true]
  | .int _, _ => by simp only [PyData.eqv, beq_self_eq_true]
  | .str _, _ => by simp only [PyData.eqv, beq_self_eq_true]
  | .list ds, h => by
    simp only [PyData.eqv]
    exact eqvAll_refl ds (by simpa only [PyData.canLay0] using h)
  | .tuple ds, h => by
    simp only [PyData.eqv]
    exact eqvAll_refl ds (by simpa only [PyData.canLay0] using h)
  | .dict _, h => by simp [PyData.canLay0] at h
theorem eqvAll_refl : ∀ ds : List PyData, PyData.canLayAll0 ds = true → PyData.eqvAll ds ds = true
  | [], _ => by simp only [PyData.eqvAll]
  | d :: ds, h => by
    simp only [PyData.canLayAll0, Bool.and_eq_true] at h
    simp only [PyData.eqvAll, eqv_refl d h.1, eqvAll_refl ds h.2, Bool.and_self]
end
/-! ### the head's facts -/
def clsBody : Stmt → List Stmt
  | .ClassDef (body := b) .. => b
  | _ => []
def metS (st : Stmt) (i : Nat) : Stmt := (clsBody st).getD i (.Pass ⟨0, 0, 0, 0⟩)
structure BaseE (K : PySem.W.Frag) (C : Addr) : Prop where
  rd : ClX.CRead K C (.type "type")
  at_ : PySem.W.findCls K (.ref C) (.type "type") "__init__" = some (.val (.builtin "ValueError.__init__"))
def baseB (K : PySem.W.Frag) (C : Addr) : Bool := PySem.W.readsIn K C (.type "type") && (He.eqO (PySem.W.specialIn K (.ref C) "__getattribute__") (some (some (.builtin "type.__getattribute__"))) && (match PySem.W.findCls K (.ref C) (.type "type") "__init__" with
  | some (.val (.builtin s)) => s == "ValueError.__init__"
  | _ => false))
theorem baseB_ok {K : PySem.W.Frag} {C : Addr} (h : baseB K C = true) : BaseE K C := by
  obtain ⟨h1, h⟩ := Bool.and_eq_true_iff.mp h
  obtain ⟨h2, h3⟩ := Bool.and_eq_true_iff.mp h
  refine ⟨⟨h1, He.eqO_ok h2⟩, ?_⟩
  split at h3
  · rename_i s e
    rw [e, eq_of_beq h3]
  · cases h3
def kitF (x y : Str) (b : Bool) : PySem.W.Frag → Bool := fun K => decide (PySem.W.kitOne K (.ref (He.ga K x)) (.ref (He.ga K y)) = some b)
def kitT (x : Str) (y : String) (b : Bool) : PySem.W.Frag → Bool := fun K => decide (PySem.W.kitOne K (.ref (He.ga K x)) (.type y) = some b)
def exmF (x y : Str) (b : Bool) : PySem.W.Frag → Bool := fun K => decide (PySem.W.exmOne K (.ref (He.ga K x)) (.ref (He.ga K y)) = some b)
def ownF (x : Str) : PySem.W.Frag → Bool := fun K => ownB K (He.ga K x)
def baseF (x : Str) : PySem.W.Frag → Bool := fun K => baseB K (He.ga K x)
abbrev AlX : Type := He.AlD × Bool
def obsX (n : Nat) (fa : List He.Fa) (fn : List He.DefD) (xs : List (PySem.W.Frag → Bool)) (g : Addr → Option Obj) : AlX := (He.obsD fa fn (He.frG g (He.asD g n ++ [cStatics, sysModules])), xs.all fun f => f (He.frG g (He.asD g n ++ [cStatics, sysModules])))
def SaysX (fa : List He.Fa) (fn : List He.DefD) (xs : List (PySem.W.Frag → Bool)) (K : PySem.W.Frag) : Prop := He.SaysD fa fn K ∧ (xs.all fun f => f K) = true
def hookX (n : Nat) (fa : List He.Fa) (fn : List He.DefD) (xs : List (PySem.W.Frag → Bool)) : PySem.W.Hook where
  α := AlX
  obs := fun s => obsX n fa fn xs s.heap.get?
  val := fun _ => (He.valD fn, true)
  says := fun _ h => ∃ K : PySem.W.Frag, K.In h ∧ SaysX fa fn xs K
  of := fun _ _ e => ⟨_, He.frG_in, congrArg (fun z : AlX => z.1) e, congrArg (fun z : AlX => z.2) e⟩
  keeps := fun _ _ _ ⟨K, hK, c⟩ k => ⟨K, PySem.W.Frag.In.keeps hK k, c⟩
theorem obsX_eq {n : Nat} {fa : List He.Fa} {fn : List He.DefD} {xs : List (PySem.W.Frag → Bool)} {g : Addr → Option Obj} {s : Shared} (h : ∀ a, g a = s.heap.get? a) : obsX n fa fn xs g = (hookX n fa fn xs).obs s := by
  have e : g = s.heap.get? := funext h
  rw [e]
  rfl
theorem SaysX.ext {fa : List He.Fa} {fn : List He.DefD} {xs : List (PySem.W.Frag → Bool)} {K : PySem.W.Frag} (c : SaysX fa fn xs K) (i : Nat) {f : PySem.W.Frag → Bool} (h : xs[i]? = some f := by rfl) : f K = true :=
  List.all_eq_true.mp c.2 f (List.mem_of_getElem? h)
end Cv

/-! CvG: repr of data that may hold empty dicts. -/
namespace Cv
open PySem PySem.Spec PyProof.Rows L2
/-- a dict's key as data -/
def kP : L2.Key → PyData
  | .inl i => .int i
  | .inr x => .str x
mutual
inductive Dq (K : PySem.W.Frag) (H : Hp) : V → PyData → Prop
  | non : Dq K H .non .none
  | bl (b : Bool) : Dq K H (.bl b) (.bool b)
  | int (i : Int) : Dq K H (.int i) (.int i)
  | str (x : Str) : Dq K H (.str x) (.str x)
  | lst {a : Addr} {xs : List V} {ds : List PyData} : SqL K H a xs → DqAll K H xs ds → Dq K H (.ref a) (.list ds)
  | tup {a : Addr} {xs : List V} {ds : List PyData} : SqT K H a xs → DqAll K H xs ds → Dq K H (.ref a) (.tuple ds)
  | dct {a : Addr} {kvs : List (L2.Key × V)} {ds : List (PyData × PyData)} : H a = some (.dK kvs) → DqKv K H kvs ds → Dq K H (.ref a) (.dict ds)
inductive DqAll (K : PySem.W.Frag) (H : Hp) : List V → List PyData → Prop
  | nil : DqAll K H [] []
  | cons {v : V} {vs : List V} {d : PyData} {ds : List PyData} : Dq K H v d → DqAll K H vs ds → DqAll K H (v :: vs) (d :: ds)
inductive DqKv (K : PySem.W.Frag) (H : Hp) : List (L2.Key × V) → List (PyData × PyData) → Prop
  | nil : DqKv K H [] []
  | cons {k : L2.Key} {v : V} {vs : List (L2.Key × V)} {d : PyData} {ds : List (PyData × PyData)} : Dq K H v d → DqKv K H vs ds → DqKv K H ((k, v) :: vs) ((kP k, d) :: ds)
end
/-- sys.modules is a dict -/
def sysB (K : PySem.W.Frag) : Bool := match K.lookup sysModules with
  | some ⟨.type t, _, _, _⟩ => t == "dict"
  | _ => false
theorem sysB_ok {K : PySem.W.Frag} (h : sysB K = true) : ∃ o, K.lookup sysModules = some o ∧ o.cls = .type "dict" := by
  unfold sysB at h
  split at h
  · rename_i t _ _ _ e
    exact ⟨_, e, by rw [eq_of_beq h]⟩
  · cases h
theorem reads_keys {K : PySem.W.Frag} {H : Hp} {P : Program} {w : World} {h : Heap} : ∀ {ds : List (PyData × PyData)} {kvs : List (L2.Key × V)} {vs : List (L2.Key × Value)} {es : List DictEntry}, DqKv K H kvs ds → KV kvs vs → Pairs (mixKind P w) es vs →
    ReadsAll h (es.map (·.key)) (ds.map (·.1)) []
  | [], _, _, _, q, r, p => by
    cases q
    cases r
    cases p
    exact ReadsAll.nil
  | (dk, d) :: ds, _, _, _, q, r, p => by
    cases q with
    | @cons k _ _ _ _ h1 h2 =>
      cases r with
      | cons r1 r2 =>
        cases p with
        | cons p1 p2 p3 =>
          have ih := reads_keys (h := h) h2 r2 p3
          rw [List.map_cons, List.map_cons]
          have e : ([] : List Addr) = [] ++ [] := rfl
          rw [e]
          refine ReadsAll.cons ?_ ih
          rw [← r1.1] at p1
          rcases keyIs_shape p1 with ⟨i, t, e1, e2⟩ | ⟨x, t, e1, e2⟩
          · have e3 : k = .inl i := e1
            subst e3
            rw [e2]
            exact Reads.int i t
          · have e3 : k = .inr x := e1
            subst e3
            rw [e2]
            exact Reads.str x t
section
variable {X : Cx} {pins : List (Addr × Obj)} {σ : L2.St} {H : Hp} {s : Shared}
mutual
theorem Dq.reads (I : Inv X pins σ H s) (sy : sysB X.K = true) : ∀ (d : PyData) (v : V) (u : Value), Dq X.K H v d → RelV v u → ∃ as, Reads s.heap u d as ∧ sysModules ∉ as
  | .none, _, _, h, r => by
    cases h
    cases r
    exact ⟨_, Reads.none, by simp⟩
  | .bool b, _, _, h, r => by
    cases h
    cases r
    exact ⟨_, Reads.bool b, by simp⟩
  | .int i, _, _, h, r => by
    cases h
    obtain ⟨t, rfl⟩ := r
    exact ⟨_, Reads.int i t, by simp⟩
  | .str x, _, _, h, r => by
    cases h
    obtain ⟨t, rfl⟩ := r
    exact ⟨_, Reads.str x t, by simp⟩
  | .list ds, _, _, h, r => by
    cases h with
    | @lst a xs _ hs ha =>
      cases r
      obtain ⟨its, rv, ⟨o, n, e1, e2, e3, e4⟩, _⟩ := I.list hs
      obtain ⟨as, ra, na⟩ := Dq.readsAll I sy ds xs its ha rv
      refine ⟨_, Reads.list e1 e2 e4 (by simpa using ra), fun m => ?_⟩
      rcases List.mem_cons.mp m with m | m
      · obtain ⟨so, lk, sc⟩ := sysB_ok sy
        have e5 := I.kIn _ _ lk
        rw [m, e1] at e5
        have e6 := Option.some.inj e5
        rw [e6, sc] at e2
        injection e2 with e2
        exact absurd e2 (by decide)
      · exact na m
  | .tuple ds, _, _, h, r => by
    cases h with
    | @tup a xs _ hs ha =>
      cases r
      obtain ⟨its, rv, ⟨o, e1, e2, n, e4⟩, _⟩ := I.tuple hs
      obtain ⟨as, ra, na⟩ := Dq.readsAll I sy ds xs its ha rv
      exact ⟨_, Reads.tuple e1 e2 e4 (by simpa using ra), na⟩
  | .dict ds, _, _, h, r => by
    cases h with
    | @dct a kvs _ ha hk =>
      cases r
      obtain ⟨_, nm, vs, kv, o, es, ep, e1, ex, e2, _, pr, _⟩ := dk_of I.hok ha
      obtain ⟨as, r1, n1⟩ := Dq.readsKv I sy ds kvs vs es.toList hk kv pr
      have rd := Reads.dict (h := s.heap) (a := a) (kvs := ds) e1 ex.1 e2 (reads_keys (h := s.heap) hk kv pr) r1
      refine ⟨_, rd, fun m => ?_⟩
      rcases List.mem_cons.mp (show sysModules ∈ a :: as from m) with m | m
      · rw [← m, beq_self_eq_true] at nm
        cases nm
      · exact n1 m
theorem Dq.readsAll (I : Inv X pins σ H s) (sy : sysB X.K = true) : ∀ (ds : List PyData) (vs : List V) (us : List Value), DqAll X.K H vs ds → Vals vs us → ∃ as, ReadsAll s.heap us ds as ∧ sysModules ∉ as
  | [], _, _, h, r => by
    cases h
    cases r
    exact ⟨_, ReadsAll.nil, by simp⟩
  | d :: ds, _, _, h, r => by
    cases h with
    | cons h1 h2 =>
      cases r with
      | cons r1 r2 =>
        obtain ⟨as, q1, n1⟩ := Dq.reads I sy d _ _ h1 r1
        obtain ⟨bs, q2, n2⟩ := Dq.readsAll I sy ds _ _ h2 r2
        exact ⟨_, ReadsAll.cons q1 q2, fun m => (List.mem_append.mp m).elim n1 n2⟩
theorem Dq.readsKv (I : Inv X pins σ H s) (sy : sysB X.K = true) : ∀ (ds : List (PyData × PyData)) (kvs : List (L2.Key × V)) (vs : List (L2.Key × Value)) (es : List DictEntry), DqKv X.K H kvs ds → KV kvs vs → Pairs (mixKind X.prog X.w) es vs →
    ∃ bs, ReadsAll s.heap (es.map (·.val)) (ds.map (·.2)) bs ∧ sysModules ∉ bs
  | [], _, _, _, h, r, p => by
    cases h
    cases r
    cases p
    exact ⟨_, ReadsAll.nil, by simp⟩
  | (dk, d) :: ds, _, _, _, h, r, p => by
    cases h with
    | cons h1 h2 =>
      cases r with
      | cons r1 r2 =>
        cases p with
        | cons p1 p2 p3 =>
          obtain ⟨as, q1, n1⟩ := Dq.reads I sy d _ _ h1 r1.2
          obtain ⟨bs, q2, n2⟩ := Dq.readsKv I sy ds _ _ _ h2 r2 p3
          refine ⟨as ++ bs, ?_, fun m => (List.mem_append.mp m).elim n1 n2⟩
          rw [List.map_cons, List.map_cons, p2]
          exact ReadsAll.cons q1 q2
end
end
/-- data with a short text, empty dicts allowed -/
def Nq (d : PyData) (k w : Nat) : Prop := d.leavesShort 40 = true ∧ d.depth ≤ k ∧ d.weight ≤ w ∧ d.showable = true
def NqAll (ds : List PyData) (k w : Nat) : Prop := PyData.leavesShortAll 40 ds = true ∧ PyData.depthAll ds ≤ k ∧ PyData.weightAll ds ≤ w ∧ PyData.showableAll ds = true
theorem nq_ni {d : PyData} {k w : Nat} (h : Ni d k w) : Nq d k w := ⟨PyData.leavesShort_of_canLay0 40 d h.1 h.2.2.2.2, h.2.1, h.2.2.1, h.2.2.2.1⟩
theorem nq_nice {d : PyData} (h : nice d = true) : Nq d 40 100000 := by
  obtain ⟨h1, h2, h3, h4, h5⟩ := nice_parts h
  exact ⟨PyData.leavesShort_of_canLay0 40 d h1 h5, h2, h3, h4⟩
theorem nq_dct : Nq (.dict []) 1 0 := ⟨by decide +kernel, by decide +kernel, by decide +kernel, by decide +kernel⟩
theorem nq_nil : NqAll [] 0 0 := ⟨by simp only [PyData.leavesShortAll], by simp only [PyData.depthAll]; omega, by simp only [PyData.weightAll]; omega, by simp only [PyData.showableAll]⟩
theorem nq_cons {d : PyData} {ds : List PyData} {k1 w1 k2 w2 : Nat} (h : Nq d k1 w1) (r : NqAll ds k2 w2) : NqAll (d :: ds) (max k1 k2) (w1 + 1 + w2) := by
  obtain ⟨h1, h2, h3, h4⟩ := h
  obtain ⟨r1, r2, r3, r4⟩ := r
  refine ⟨by simp only [PyData.leavesShortAll, h1, r1, Bool.and_self], ?_, ?_, by simp only [PyData.showableAll, h4, r4, Bool.and_self]⟩
  · simp only [PyData.depthAll]
    omega
  · simp only [PyData.weightAll]
    omega
theorem nq_list {ds : List PyData} {k w : Nat} (h : NqAll ds k w) : Nq (.list ds) (k + 1) w := by
  obtain ⟨h1, h2, h3, h4⟩ := h
  exact ⟨by simpa only [PyData.leavesShort] using h1, by simp only [PyData.depth]; omega, by simpa only [PyData.weight] using h3, by simpa only [PyData.showable] using h4⟩
theorem nq_tup {ds : List PyData} {k w : Nat} (h : NqAll ds k w) : Nq (.tuple ds) (k + 1) w := by
  obtain ⟨h1, h2, h3, h4⟩ := h
  exact ⟨by simpa only [PyData.leavesShort] using h1, by simp only [PyData.depth]; omega, by simpa only [PyData.weight] using h3, by simpa only [PyData.showable] using h4⟩
/-- repr(x), x a list, a tuple, an empty dict, of such, or a scalar -/
def rShowQ (K : PySem.W.Frag) : List V → Hp → VK → Prop := fun vs H Q => ∃ x d k w, vs = [x] ∧ Dq K H x d ∧ Nq d k w ∧ k ≤ 45 ∧ w ≤ 200000 ∧ Q (.str d.shown) H
theorem call_reprQ {X : Cx} {K0 : PySem.W.Frag} (hK : X.K = K0) (sy : sysB K0 = true) (gd : X.A.guards = some []) (hu : X.A.units + 64 < cLine) : CallR X (.builtin "repr") (rShowQ K0) := by
  subst hK
  intro pins s σ H xs us Q I r h
  obtain ⟨x, d, k, w, rfl, dq, ⟨n1, n2, n3, n4⟩, hk, hw, q⟩ := h
  obtain ⟨u, rfl, rx⟩ := vals1 r
  have len : d.shown.length ≤ sizeLine := by
    have := PyData.shown_le 40 (by decide) d n1
    rw [sizeLine_eq]
    omega
  obtain ⟨as, rd, ns⟩ := Dq.reads I sy d x u dq rx
  cases x with
  | ref a =>
    cases rx
    refine PySem.repr_of_reads' rd n4 (fun _ => ns) gd (by omega) (fun _ _ z => z) (fun h' u tk k => ?_) len
    exact ⟨.str d.shown, H, I.kept (t' := tk) k, ⟨u, rfl⟩, q⟩
  | _ =>
    refine call_reprD gd hu pins s σ H _ _ Q I (.cons rx .nil) ⟨_, d, rfl, ?_, n4, by omega, len, q⟩
    cases dq <;> first | exact .non | exact .bl _ | exact .int _ | exact .str _
/-! ### a def with defaults for its last parameters -/
section
variable {K : PySem.W.Frag} {x qual : Str} {pa : Arguments} {bd : List Stmt} {sc : Scope} {dvs : List V} {kws : List (Str × V)} {f : Addr} {fd : FuncData} {ps : List Str}
theorem funDK (F : FunD K x qual pa bd sc dvs kws f fd) (n : Nat) (ks : List Str) (idx : List Nat) (hd : dvs ≠ [])
    (h : ∀ (T : Addr) (kV doc pm : Value) (an : Option Addr) (cdv ct : Value) (us ws its : List Value), us.length = n → ws.length = ks.length → its.length = dvs.length →
      ∃ k, bindArgs (PySem.W.fnOf x qual pa bd sc (.ref T) kV doc pm an cdv ct) ⟨us, ks.zip ws⟩ = seqItems? (.ref T) >>= k ∧ k (some its.toArray) = pure (ps.zip (gP idx us ws))) : KBn K fd ps n ks (gP idx) (gP idx) := by
  obtain ⟨oc, od, dV, kV, doc, pm, an, cdv, ct, osl, rfl, lk, hcd, hD, hK⟩ := F.ex
  rcases hD with ⟨e, _⟩ | ⟨_, T, o, its, m, rfl, lT, oT, rT⟩
  · exact absurd e hd
  · refine ⟨fun s us ws X l1 l2 => ?_, gP_rel⟩
    obtain ⟨k, e1, e2⟩ := h T kV doc pm an cdv ct us ws its l1 l2 rT.length.symm
    refine BindsTo.of_looks fun M => ?_
    rw [e1]
    exact looks_items X lT oT (.of_pure e2)
/-- all values by position: the defaults are read, not used -/
theorem funDA (F : FunD K x qual pa bd sc dvs kws f fd) (hd : dvs ≠ [])
    (h : ∀ (T : Addr) (kV doc pm : Value) (an : Option Addr) (cdv ct : Value) (us its : List Value), us.length = ps.length → its.length = dvs.length →
      ∃ k, bindArgs (PySem.W.fnOf x qual pa bd sc (.ref T) kV doc pm an cdv ct) ⟨us, []⟩ = seqItems? (.ref T) >>= k ∧ k (some its.toArray) = pure (ps.zip us)) : Binds K fd ps [] := by
  obtain ⟨oc, od, dV, kV, doc, pm, an, cdv, ct, osl, rfl, lk, hcd, hD, hK⟩ := F.ex
  rcases hD with ⟨e, _⟩ | ⟨_, T, o, its, m, rfl, lT, oT, rT⟩
  · exact absurd e hd
  · intro s us X l
    rw [List.append_nil] at l ⊢
    obtain ⟨k, e1, e2⟩ := h T kV doc pm an cdv ct us its l rT.length.symm
    refine BindsTo.of_looks fun M => ?_
    rw [e1]
    exact looks_items X lT oT (.of_pure e2)
end
section
variable {P : Program} {w : World} {K : PySem.W.Frag} {mg : Str → Option Value} {base : Heap}
/-- such a def that may raise -/
theorem okND {x qual : Str} {st : Stmt} {dvs : List V} {f : Addr} {fd : FuncData} {N ps : List Str} {k : Nat} {sp : Sp} (F : FunD K x qual (defArgs st) (defBody st) (defScope st) dvs [] f fd) (S : FnScope N ps (defScope st)) (hl : ∀ vs H Q E, sp vs H Q E → vs.length = ps.length)
    (hb : ∀ (cdv : Value) (A : Around) (outer : List Env) (s : Shared) (H : Hp) (vs : List V) (Q : VK) (E : XK), Room k (A.deeper (envOfC qual (defScope st) s.heap.objs.size f cdv)) → sp vs H Q E →
      L2N.Takes (cxOf (L2N.CX P w) P w K mg base N qual (defScope st) f cdv A outer s H E) (fun cls d _ G => E cls d G) →
      PassesOwn (model P w) (cxOf (L2N.CX P w) P w K mg base N qual (defScope st) f cdv A outer s H E).A (cxOf (L2N.CX P w) P w K mg base N qual (defScope st) f cdv A outer s H E).env (cxOf (L2N.CX P w) P w K mg base N qual (defScope st) f cdv A outer s H E).xe →
      ∃ t, PSs (cxOf (L2N.CX P w) P w K mg base N qual (defScope st) f cdv A outer s H E) (defBody st) t ∧ t ⟨fun _ G => Q .non G, Q, fun _ _ => False, fun _ _ => False⟩ (start N vs) H) : FnOk P w K mg base (L2N.CX P w) (k + 1) f fd ps sp :=
  F.ok S hl fun cdv A outer s H vs Q E room want => hb cdv A outer s H vs Q E room want (L2N.takes_of rfl rfl rfl rfl) PassesOwn.leaving
end
section
variable {X : Cx} {CX : CXT} {k : Nat} {f : Addr} {fd : FuncData} {ps : List Str} {sp : Sp} {dvs : List V} {ds : List Value} {E : L2.St → XK} {x : Str} {p pos : Pos} {e : Expr} {es : List Expr} {t : TA}
def tCallSD (sp : Sp) (dvs : List V) (E : L2.St → XK) (t : TA) : TE := fun σ H Q => t σ H fun vs G => sp (vs ++ dvs) G Q (E σ)
/-- f(e, ..), the last parameters by their defaults; f may raise -/
theorem pe_callSD (F : FnOk X.prog X.w X.K X.mg X.base CX k f fd ps sp) (room : Room k X.A) (hg : Gl X x) (hm : X.mg x = some (.ref f)) (hk : PySem.W.keepIn X.K (.ref f) = true) (bi : Binds X.K fd ps ds) (rd : Vals dvs ds) (pass : ∀ σ, PassesAt CX X σ (E σ))
    (ha : PA X (e :: es) t) (h1 : (x == ("__debug__" : Str)) = false := by decide) (h2 : starEach (e :: es) X.env = (false, eval e X.env) :: starEach es X.env := by rfl) (h3 : (backTo pos (starEach es X.env)).any (·.1) = false := by rfl) :
    PE X (.Call (.Name x p) (e :: es) [] pos) (tCallSD sp dvs E t) := by
  refine ⟨fun pins s σ H Q I h => wpAny_Call_Name_kw (ld_glob I hg hm (PySem.W.callWith_K (h₀ := X.base) I.ok.mod.kin hk (thn (ha.run pos pins s σ H _ I h) fun us s1 ⟨vs, G, J, r, q⟩ => ⟨J.kIn, ?_⟩) h2 h3) h1)⟩
  have rr := r.append rd
  have ll : (us ++ ds).length = ps.length := rr.length.symm.trans (F.len _ _ _ _ q)
  refine wpAny_call (codeAny_mono (F.run X.A X.stack s1 G _ _ _ Q (E σ) room J.env0 (bi s1 us J.kIn ll) rr q) ?_)
  rintro (er | fl) s' out
  · exact pass σ pins G s1 er s' J out
  · cases fl with
    | ret u => exact J.after out
    | next => exact out.elim
    | brk => exact out.elim
    | cont => exact out.elim
end
/-- the i-th default of the def p is the empty tuple -/
def emptyDfl (p : Str × Option Str) (i : Nat) : PySem.W.Frag → Bool := fun K => match K.lookup (He.dflAt p i K) with
  | some ⟨.type c, _, .seq its _, _⟩ => c == "tuple" && its.isEmpty
  | _ => false
theorem emptyDfl_ok {K : PySem.W.Frag} {p : Str × Option Str} {i : Nat} (h : emptyDfl p i K = true) (H : Hp) : SqT K H (He.dflAt p i K) [] := by
  unfold emptyDfl at h
  split at h
  · rename_i c d its n sl e
    obtain ⟨h1, h2⟩ := Bool.and_eq_true_iff.mp h
    have e1 : c = "tuple" := eq_of_beq h1
    have e2 : its = #[] := Array.isEmpty_iff.mp h2
    subst e1 e2
    exact .inr ⟨_, #[], n, e, rfl, rfl, Nat.zero_le _, .nil⟩
  · cases h
/-! ### a walk over a list or a tuple -/
def iAny (K : PySem.W.Frag) (tl : TE) : TI := fun σ H R => iList K tl σ H R ∨ iTup K tl σ H R
theorem pi_any {X : Cx} {tg l : Expr} {tl : TE} (hl : PE X l tl) : PI X tg l (iAny X.K tl) :=
  ⟨fun pins s σ H R I h => h.elim (fun h => (pi_list hl).run pins s σ H R I h) (fun h => (pi_tup hl).run pins s σ H R I h)⟩
theorem same_tup {K : PySem.W.Frag} {H H' : Hp} {a : Addr} {xs : List V} (s : Same H H') (h : SqT K H a xs) : SqT K H' a xs := by
  rcases h with h | h
  · rcases h with h | ⟨od, h⟩
    · exact .inl (.inl (s _ _ h))
    · exact .inl (.inr ⟨od, s _ _ h⟩)
  · exact .inr h
def SqA (K : PySem.W.Frag) (H : Hp) (a : Addr) (xs : List V) : Prop := SqL K H a xs ∨ SqT K H a xs
theorem SqA.same {K : PySem.W.Frag} {H H' : Hp} {a : Addr} {xs : List V} (h : SqA K H a xs) (s : Same H H') : SqA K H' a xs := h.imp (Same.seq s) (same_tup s)
theorem forA {K : PySem.W.Frag} {tl : TE} {j : Nat} {tb : TS} {D : Ends} {σ : L2.St} {H : Hp} (a : Addr) (xs : List V) (hv : ∀ R : VK, R (.ref a) H → tl σ H R) (hx : SqA K H a xs) (Pv : Nat → L2.St → Hp → Prop) (h0 : Pv 0 σ H)
    (hl : ∀ i σ' H', i ≤ xs.length → Pv i σ' H' → Same H H') (hs : ∀ i x σ' H', xs[i]? = some x → Pv i σ' H' → tb ⟨Pv (i + 1), D.rt, D.nx, Pv (i + 1)⟩ (σ'.set j (some x)) H') (hd : ∀ σ' H', Pv xs.length σ' H' → D.nx σ' H') : tFor (iAny K tl) (gName j) tb D σ H := by
  rcases hx with hx | hx
  · exact .inl (forL a xs hv hx Pv h0 (fun i σ' H' hi p => Same.seq (hl i σ' H' hi p) hx) hs hd)
  · exact .inr (forT a xs hv hx Pv h0 (fun i σ' H' hi p => same_tup (hl i σ' H' hi p) hx) hs hd)
theorem lcList {K : PySem.W.Frag} {tl te : TE} {tt : TT} {vs : List Nat} {σ : L2.St} {H : Hp} {Q : VK} {j : Nat} (a : Addr) (xs : List V) (t : V → Bool) (g : V → V) (hx : SqL K H a xs) (hz : xs.length < sizeLine) (h0 : ∀ R : VK, R (.ref a) H → tl σ H R)
    (hw : ∀ x, wipe ((wipe σ vs).set j (some x)) vs = wipe σ vs)
    (hT : ∀ x ∈ xs, ∀ H' (R : Bool → Hp → Prop), Same H H' → R (t x) H' → tt ((wipe σ vs).set j (some x)) H' R)
    (hE : ∀ x ∈ xs, t x = true → ∀ H' (R : VK), Same H H' → R (g x) H' → te ((wipe σ vs).set j (some x)) H' R)
    (k : ∀ D, H D = none → Q (.ref D) (upd H D (.lst ((xs.filter t).map g)))) : tLc (iList K tl) (gName j) tt te vs σ H Q :=
  h0 _ ⟨a, rfl, ⟨xs, hx⟩, lcP walk_list xs t g rfl hz (fun D acc hD => Same.seq (Cv.Same.new hD) hx) (fun i H x H' hi y => y) hw hT hE k⟩
theorem ne_strs_nil {K : PySem.W.Frag} {H : Hp} {a b : Addr} {xs : List V} {Q : VK} (ha : H a = some (.lst xs)) (hb : H b = some (.lst [])) (hx : strsOk xs) (q : Q (.bl (!xs.isEmpty)) H) : rNeD K (.ref a) (.ref b) H Q :=
  ⟨.list (xs.map toD), .list [], .lst (.inl (.inl ha)) (dp_strs hx), .lst (.inl (.inl hb)) .nil, strs_shaped hx, nil_shaped, by rw [eqv_nil]; cases xs <;> exact q⟩
end Cv

/-! DvA: data as plain Lean terms (D), a store of changing objects, what a heap says of them (Rep, Good), frames and their slots; readings given by functions (QE, QT, QA, QS). -/
namespace Dv
open PySem PySem.Spec PyProof.Rows L2 Cv

/-! ### data -/
inductive D where
  | non | bl (b : Bool) | int (i : Int) | str (s : Str)
  | lst (xs : List D) | tup (xs : List D) | dct (kvs : List (D × D))
  | ins (C : Str) (fs : List (Str × D)) | ref (n : Nat) | ty (n : String) | rol (xs : List D)
/-- a changing object -/
inductive SO where
  | lst (xs : List D) | dct (kvs : List (D × D)) | ins (C : Str) (fs : List (Str × D))
/-- what of a heap never changes any more; where the changing objects stand -/
structure Wd where
  Z : Hp
  m : Nat → Option Addr
abbrev Store := List SO
/-- the module's names; the error that is handled -/
structure Gm where
  f : Str → Option Value
  pn : Option (Addr × Obj)
/-- what is wanted of an error; the error that is handled -/
structure Wi where
  w : WX
  pn : Option (Addr × Obj)
abbrev Wi.g (W : Wi) (X : Cx) : Gm := ⟨X.mg, W.pn⟩
def kD : L2.Key → D
  | .inl i => .int i
  | .inr x => .str x
section
variable (K : PySem.W.Frag) (mg : Gm)
mutual
inductive Rep (w : Wd) : V → D → Prop
  | non : Rep w .non .non
  | bl (b : Bool) : Rep w (.bl b) (.bl b)
  | int (i : Int) : Rep w (.int i) (.int i)
  | str (s : Str) : Rep w (.str s) (.str s)
  | ty (n : String) : Rep w (.ty n) (.ty n)
  | lst {a : Addr} {vs : List V} {ds : List D} (h : w.Z a = some (.lst vs)) (r : RepL w vs ds) : Rep w (.ref a) (.lst ds)
  | rol {a : Addr} {vs : List V} {ds : List D} (h : SqL K w.Z a vs) (r : RepL w vs ds) : Rep w (.ref a) (.rol ds)
  | tup {a : Addr} {vs : List V} {ds : List D} (h : SqT K w.Z a vs) (r : RepL w vs ds) : Rep w (.ref a) (.tup ds)
  | dct {a : Addr} {kvs : List (L2.Key × V)} {ds : List (D × D)} (h : w.Z a = some (.dK kvs)) (r : RepK w kvs ds) : Rep w (.ref a) (.dct ds)
  | ins {a c dx : Addr} {C : Str} {fs : List (Str × V)} {ds : List (Str × D)} (hc : mg.f C = some (.ref c)) (h : w.Z a = some (.ins c dx fs)) (r : RepF w fs ds) : Rep w (.ref a) (.ins C ds)
  | ref {a : Addr} {n : Nat} (h : w.m n = some a) : Rep w (.ref a) (.ref n)
inductive RepL (w : Wd) : List V → List D → Prop
  | nil : RepL w [] []
  | cons {v : V} {d : D} {vs : List V} {ds : List D} (h : Rep w v d) (r : RepL w vs ds) : RepL w (v :: vs) (d :: ds)
inductive RepF (w : Wd) : List (Str × V) → List (Str × D) → Prop
  | nil : RepF w [] []
  | cons {x : Str} {v : V} {d : D} {vs : List (Str × V)} {ds : List (Str × D)} (h : Rep w v d) (r : RepF w vs ds) : RepF w ((x, v) :: vs) ((x, d) :: ds)
inductive RepK (w : Wd) : List (L2.Key × V) → List (D × D) → Prop
  | nil : RepK w [] []
  | cons {k : L2.Key} {v : V} {d : D} {vs : List (L2.Key × V)} {ds : List (D × D)} (h : Rep w v d) (r : RepK w vs ds) : RepK w ((k, v) :: vs) ((kD k, d) :: ds)
end
structure Ext (w w' : Wd) : Prop where
  z : ∀ a o, w.Z a = some o → w'.Z a = some o
  m : ∀ n a, w.m n = some a → w'.m n = some a
theorem Ext.refl {w : Wd} : Ext w w := ⟨fun _ _ h => h, fun _ _ h => h⟩
theorem Ext.trans {w w1 w2 : Wd} (a : Ext w w1) (b : Ext w1 w2) : Ext w w2 := ⟨fun x o h => b.z x o (a.z x o h), fun x o h => b.m x o (a.m x o h)⟩
variable {K mg}
theorem seqL_mono {H H' : Hp} {a : Addr} {xs : List V} (s : ∀ a o, H a = some o → H' a = some o) (h : SqL K H a xs) : SqL K H' a xs := Same.seq s h
mutual
theorem Rep.ext {w w' : Wd} (x : Ext w w') : ∀ {v : V} {d : D}, Rep K mg w v d → Rep K mg w' v d
  | _, _, .non => .non
  | _, _, .bl b => .bl b
  | _, _, .int b => .int b
  | _, _, .str b => .str b
  | _, _, .ty b => .ty b
  | _, _, .lst h r => .lst (x.z _ _ h) (RepL.ext x r)
  | _, _, .rol h r => .rol (Same.seq x.z h) (RepL.ext x r)
  | _, _, .tup h r => .tup (same_tup x.z h) (RepL.ext x r)
  | _, _, .dct h r => .dct (x.z _ _ h) (RepK.ext x r)
  | _, _, .ins hc h r => .ins hc (x.z _ _ h) (RepF.ext x r)
  | _, _, .ref h => .ref (x.m _ _ h)
theorem RepL.ext {w w' : Wd} (x : Ext w w') : ∀ {v : List V} {d : List D}, RepL K mg w v d → RepL K mg w' v d
  | _, _, .nil => .nil
  | _, _, .cons h r => .cons (Rep.ext x h) (RepL.ext x r)
theorem RepF.ext {w w' : Wd} (x : Ext w w') : ∀ {v : List (Str × V)} {d : List (Str × D)}, RepF K mg w v d → RepF K mg w' v d
  | _, _, .nil => .nil
  | _, _, .cons h r => .cons (Rep.ext x h) (RepF.ext x r)
theorem RepK.ext {w w' : Wd} (x : Ext w w') : ∀ {v : List (L2.Key × V)} {d : List (D × D)}, RepK K mg w v d → RepK K mg w' v d
  | _, _, .nil => .nil
  | _, _, .cons h r => .cons (Rep.ext x h) (RepK.ext x r)
end
end
section
variable {K : PySem.W.Frag} {mg : Gm} {w : Wd}
theorem RepL.length : ∀ {vs : List V} {ds : List D}, RepL K mg w vs ds → vs.length = ds.length
  | _, _, .nil => rfl
  | _, _, .cons _ r => by rw [List.length_cons, List.length_cons, r.length]
theorem RepL.get : ∀ {vs : List V} {ds : List D} {i : Nat} {d : D}, RepL K mg w vs ds → ds[i]? = some d → ∃ v, vs[i]? = some v ∧ Rep K mg w v d
  | _, _, _, _, .nil, e => by simp at e
  | _, _, 0, _, .cons h _, e => by
    cases Option.some.inj e
    exact ⟨_, rfl, h⟩
  | _, _, i + 1, _, .cons _ r, e => r.get (i := i) (by simpa using e)
theorem RepL.getV : ∀ {vs : List V} {ds : List D} {i : Nat} {v : V}, RepL K mg w vs ds → vs[i]? = some v → ∃ d, ds[i]? = some d ∧ Rep K mg w v d
  | _, _, _, _, .nil, e => by simp at e
  | _, _, 0, _, .cons h _, e => by
    cases Option.some.inj e
    exact ⟨_, rfl, h⟩
  | _, _, i + 1, _, .cons _ r, e => r.getV (i := i) (by simpa using e)
theorem RepL.append : ∀ {vs vs' : List V} {ds ds' : List D}, RepL K mg w vs ds → RepL K mg w vs' ds' → RepL K mg w (vs ++ vs') (ds ++ ds')
  | _, _, _, _, .nil, r => r
  | _, _, _, _, .cons h r, q => .cons h (r.append q)
theorem RepL.take : ∀ {vs : List V} {ds : List D} (n : Nat), RepL K mg w vs ds → RepL K mg w (vs.take n) (ds.take n)
  | _, _, 0, _ => .nil
  | _, _, _ + 1, .nil => .nil
  | _, _, n + 1, .cons h r => .cons h (r.take n)
theorem RepL.drop : ∀ {vs : List V} {ds : List D} (n : Nat), RepL K mg w vs ds → RepL K mg w (vs.drop n) (ds.drop n)
  | _, _, 0, r => r
  | _, _, _ + 1, .nil => .nil
  | _, _, n + 1, .cons _ r => r.drop n
theorem RepL.set : ∀ {vs : List V} {ds : List D} {v : V} {d : D} (n : Nat), Rep K mg w v d → RepL K mg w vs ds → RepL K mg w (vs.set n v) (ds.set n d)
  | _, _, _, _, _, _, .nil => .nil
  | _, _, _, _, 0, q, .cons _ r => .cons q r
  | _, _, _, _, n + 1, q, .cons h r => .cons h (r.set n q)
theorem RepF.lookup : ∀ {fs : List (Str × V)} {ds : List (Str × D)} {x : Str} {d : D}, RepF K mg w fs ds → ds.lookup x = some d → ∃ v, fs.lookup x = some v ∧ Rep K mg w v d
  | _, _, _, _, .nil, e => by simp at e
  | (y, v) :: fs, (_, e) :: ds, x, d, .cons h r, q => by
    rw [List.lookup_cons] at q ⊢
    split at q
    · rename_i hx
      cases q
      exact ⟨_, rfl, h⟩
    · rename_i hx
      exact r.lookup q
end

/-! ### what a heap says -/
section
variable (K : PySem.W.Frag) (mg : Gm)
/-- a changing object -/
inductive ORep (w : Wd) : HO → SO → Prop
  | lst {vs : List V} {ds : List D} (r : RepL K mg w vs ds) : ORep w (.lst vs) (.lst ds)
  | dct {vs : List (L2.Key × V)} {ds : List (D × D)} (r : RepK K mg w vs ds) : ORep w (.dK vs) (.dct ds)
  | ins {c dx : Addr} {C : Str} {fs : List (Str × V)} {ds : List (Str × D)} (hc : mg.f C = some (.ref c)) (r : RepF K mg w fs ds) : ORep w (.ins c dx fs) (.ins C ds)
structure Good (w : Wd) (st : Store) (H : Hp) : Prop where
  sub : ∀ a o, w.Z a = some o → H a = some o
  dom : ∀ n a, w.m n = some a → n < st.length
  at_ : ∀ n o, st[n]? = some o → ∃ a ho, w.m n = some a ∧ H a = some ho ∧ ORep K mg w ho o ∧ w.Z a = none
  inj : ∀ n n' a, w.m n = some a → w.m n' = some a → n = n'
/-- the heap at a frame's entry, how many changing objects there were -/
structure Fr where
  H0 : Hp
  L : Nat
  Z0 : Hp
  slf : Option Addr
structure Keep (fr : Fr) (w : Wd) (H : Hp) : Prop where
  old : ∀ a o, fr.H0 a = some o → (∀ n, n < fr.L → w.m n ≠ some a) → H a = some o
  new : ∀ n a, fr.L ≤ n → w.m n = some a → fr.H0 a = none
  fz : ∀ a o, fr.H0 a = some o → fr.Z0 a = none → w.Z a = none
/-- a slot of a frame: nothing, a value, an object that nobody else knows, the error that is handled -/
inductive Sl where
  | no | val (d : D) | own (o : SO) | err (C : Str) (fs : List (Str × D))
abbrev Env' := List Sl
structure OwnAt (fr : Fr) (w : Wd) (H : Hp) (a : Addr) (o : SO) : Prop where
  rep : ∃ ho, H a = some ho ∧ ORep K mg w ho o
  z : w.Z a = none
  m : ∀ n, w.m n ≠ some a
  nw : fr.H0 a = none
/-- the error at a is the one that is handled -/
def EAt (w : Wd) (a : Addr) (C : Str) (fs : List (Str × D)) : Prop := ∃ oe c, mg.pn = some (a, oe) ∧ (∃ vs, oe.data = .fields vs) ∧ mg.f C = some (.ref c) ∧ oe.cls = .ref c ∧ ((oe.dict = none ∧ fs = []) ∨ ∃ d vs, oe.dict = some d ∧ w.Z d = some (.xd vs) ∧ RepF K mg w vs fs)
structure Slots (fr : Fr) (w : Wd) (H : Hp) (σ : L2.St) (env : Env') : Prop where
  len : σ.length = env.length
  val : ∀ (i : Nat) (d : D), env[i]? = some (Sl.val d) → ∃ v, σ[i]? = some (some v) ∧ Rep K mg w v d
  own : ∀ (i : Nat) (o : SO), env[i]? = some (Sl.own o) → ∃ a, σ[i]? = some (some (V.ref a)) ∧ OwnAt K mg fr w H a o
  ap : ∀ (i j : Nat) (a : Addr) (o o' : SO), env[i]? = some (Sl.own o) → env[j]? = some (Sl.own o') → σ[i]? = some (some (V.ref a)) → σ[j]? = some (some (V.ref a)) → i = j
  sf : ∀ (x : Addr) (o : SO), fr.slf = some x → env[0]? = some (Sl.own o) → σ[0]? = some (some (V.ref x))
  er : ∀ (i : Nat) (C : Str) (fs : List (Str × D)), env[i]? = some (Sl.err C fs) → ∃ a, σ[i]? = some (some (V.ref a)) ∧ EAt K mg w a C fs
structure IE (fr : Fr) (w : Wd) (env : Env') (st : Store) (σ : L2.St) (H : Hp) : Prop where
  g : Good K mg w st H
  k : Keep fr w H
  s : Slots K mg fr w H σ env
end
section
variable {K : PySem.W.Frag} {mg : Gm} {w w' : Wd}
theorem EAt.ext {a : Addr} {C : Str} {fs : List (Str × D)} (x : Ext w w') : EAt K mg w a C fs → EAt K mg w' a C fs := fun ⟨oe, c, h1, h2, h3, h4, h5⟩ => ⟨oe, c, h1, h2, h3, h4, h5.imp id fun ⟨d, vs, e1, e2, r⟩ => ⟨d, vs, e1, x.z _ _ e2, r.ext x⟩⟩
theorem ORep.ext {ho : HO} {o : SO} (x : Ext w w') (r : ORep K mg w ho o) : ORep K mg w' ho o := by
  cases r with
  | lst r => exact .lst (r.ext x)
  | dct r => exact .dct (r.ext x)
  | ins hc r => exact .ins hc (r.ext x)
/-- p is new: it never changes -/
def Wd.add (w : Wd) (p : Addr) (o : HO) : Wd := ⟨upd w.Z p o, w.m⟩
theorem Wd.add_ext {p : Addr} {o : HO} (h : w.Z p = none) : Ext w (w.add p o) := ⟨fun a u e => by show upd w.Z p o a = some u; rw [upd_ne (ne_of_none e h)]; exact e, fun _ _ h => h⟩
variable {fr : Fr} {env : Env'} {st : Store} {σ : L2.St} {H : Hp}
theorem Good.new {p : Addr} {o : HO} (g : Good K mg w st H) (hp : H p = none) : w.Z p = none ∧ ∀ n, w.m n ≠ some p := by
  refine ⟨?_, fun n e => ?_⟩
  · cases e : w.Z p with
    | none => rfl
    | some o => rw [g.sub p o e] at hp; cases hp
  · obtain ⟨o, e2⟩ : ∃ o, st[n]? = some o := ⟨_, List.getElem?_eq_getElem (g.dom n p e)⟩
    obtain ⟨a, ho, e3, e4, _⟩ := g.at_ n o e2
    rw [e] at e3
    cases e3
    rw [e4] at hp
    cases hp
theorem Good.alloc {p : Addr} {o : HO} (g : Good K mg w st H) (hp : H p = none) : Good K mg (w.add p o) st (upd H p o) := by
  obtain ⟨z, m⟩ := g.new (o := o) hp
  refine ⟨fun a u e => ?_, g.dom, fun n u e => ?_, g.inj⟩
  · by_cases h : a = p
    · subst h
      rw [show (w.add a o).Z a = some o from upd_same] at e
      rw [upd_same, e]
    · rw [show (w.add p o).Z a = w.Z a from upd_ne h] at e
      rw [upd_ne h]
      exact g.sub a u e
  · obtain ⟨a, ho, e1, e2, e3, e4⟩ := g.at_ n u e
    have h : a ≠ p := fun q => m n (q ▸ e1)
    exact ⟨a, ho, e1, by rw [upd_ne h]; exact e2, e3.ext (Wd.add_ext z), (upd_ne h).trans e4⟩
/-- what stood at the entry stands somehow -/
theorem Keep.there (k : Keep fr w H) (g : Good K mg w st H) {a : Addr} {o : HO} (e : fr.H0 a = some o) : ∃ u, H a = some u := by
  by_cases h : ∃ n, n < fr.L ∧ w.m n = some a
  · obtain ⟨n, _, e2⟩ := h
    obtain ⟨so, e3⟩ : ∃ so, st[n]? = some so := ⟨_, List.getElem?_eq_getElem (g.dom n a e2)⟩
    obtain ⟨b, ho, e4, e5, _⟩ := g.at_ n so e3
    rw [e2] at e4
    cases e4
    exact ⟨ho, e5⟩
  · exact ⟨o, k.old a o e fun n hn q => h ⟨n, hn, q⟩⟩
theorem Keep.alloc {p : Addr} {o : HO} (k : Keep fr w H) (g : Good K mg w st H) (hp : H p = none) : Keep fr (w.add p o) (upd H p o) :=
  ⟨fun a u e n => by rw [upd_ne (ne_of_none (k.old a u e n) hp)]; exact k.old a u e n, k.new, fun a u e z => by
    obtain ⟨v, ev⟩ := k.there g e
    exact (upd_ne (ne_of_none ev hp)).trans (k.fz a u e z)⟩
theorem OwnAt.alloc {a p : Addr} {o : HO} {so : SO} (k : OwnAt K mg fr w H a so) (hp : H p = none) (z : w.Z p = none) : OwnAt K mg fr (w.add p o) (upd H p o) a so := by
  obtain ⟨⟨ho, e, r⟩, k2, k3, k4⟩ := k
  have n := ne_of_none e hp
  exact ⟨⟨ho, by rw [upd_ne n]; exact e, r.ext (Wd.add_ext z)⟩, (upd_ne n).trans k2, k3, k4⟩
theorem Slots.alloc {p : Addr} {o : HO} (s : Slots K mg fr w H σ env) (hp : H p = none) (z : w.Z p = none) : Slots K mg fr (w.add p o) (upd H p o) σ env :=
  ⟨s.len, fun i d e => by
    obtain ⟨v, e1, r⟩ := s.val i d e
    exact ⟨v, e1, r.ext (Wd.add_ext z)⟩, fun i u e => by
    obtain ⟨a, e1, r⟩ := s.own i u e
    exact ⟨a, e1, r.alloc hp z⟩, s.ap, s.sf, fun i C fs e => by
    obtain ⟨a, e1, r⟩ := s.er i C fs e
    exact ⟨a, e1, r.ext (Wd.add_ext z)⟩⟩
theorem IE.alloc {p : Addr} {o : HO} (I : IE K mg fr w env st σ H) (hp : H p = none) : IE K mg fr (w.add p o) env st σ (upd H p o) :=
  ⟨I.g.alloc hp, I.k.alloc I.g hp, I.s.alloc hp (I.g.new (o := o) hp).1⟩
theorem IE.ext {p : Addr} (o : HO) (I : IE K mg fr w env st σ H) (hp : H p = none) : Ext w (w.add p o) := Wd.add_ext (I.g.new (o := o) hp).1
theorem Wd.add_at {p : Addr} {o : HO} : (w.add p o).Z p = some o := upd_same
end

/-! ### what functions hand back -/
inductive R (α : Type) where
  | ok (a : α) (st : Store) | ex (C : Str) (fs : List (Str × D)) (st : Store) | bad
def R.bind {α β : Type} (r : R α) (f : α → Store → R β) : R β := match r with
  | .ok a st => f a st
  | .ex C fs st => .ex C fs st
  | .bad => .bad
theorem R.bind_ok {α β : Type} {a : α} {st : Store} {f : α → Store → R β} : (R.ok a st).bind f = f a st := rfl
theorem R.bind_ex {α β : Type} {C : Str} {fs : List (Str × D)} {st : Store} {f : α → Store → R β} : (R.ex C fs st : R α).bind f = .ex C fs st := rfl
theorem R.bind_bad {α β : Type} {f : α → Store → R β} : (R.bad : R α).bind f = .bad := rfl
inductive Out where
  | nx (e : Env') (st : Store) | rt (d : D) (st : Store) | bk (e : Env') (st : Store) | ct (e : Env') (st : Store) | ex (C : Str) (fs : List (Str × D)) (e : Env') (st : Store) | bad
abbrev Dn := Env' → Store → R D
abbrev Dt := Env' → Store → R Bool
abbrev Da := Env' → Store → R (List D)
abbrev Ds := Env' → Store → Out
abbrev Fn := List D → Store → R D

/-! ### readings given by functions -/
section
variable (K : PySem.W.Frag) (mg : Gm)
/-- an error in the air: its class, its dict -/
def Flies (w : Wd) (H : Hp) (C : Str) (fs : List (Str × D)) (c : Addr) (dx : Option Addr) : Prop := mg.f C = some (.ref c) ∧ ((dx = none ∧ fs = []) ∨ ∃ d vs, dx = some d ∧ w.Z d = some (.xd vs) ∧ RepF K mg w vs fs)
def posE (fr : Fr) (w : Wd) (env : Env') (σ : L2.St) (W : Wi) {α β : Type} (rep : Wd → β → α → Prop) (Q : β → Hp → Prop) : R α → Prop
  | .ok d st => ∀ v H' w', Ext w w' → IE K mg fr w' env st σ H' → rep w' v d → Q v H'
  | .ex C fs st => ∀ c dx H' w', Ext w w' → IE K mg fr w' env st σ H' → Flies K mg w' H' C fs c dx → W.w (.ref c) dx σ H'
  | .bad => False
def rdE (W : Wi) (F : Dn) : TE := fun σ H Q => ∃ fr w env st, IE K mg fr w env st σ H ∧ posE K mg fr w env σ W (Rep K mg) Q (F env st)
def rdT (W : Wi) (F : Dt) : TT := fun σ H Q => ∃ fr w env st, IE K mg fr w env st σ H ∧ posE K mg fr w env σ W (fun _ b d => b = d) Q (F env st)
def rdA (W : Wi) (F : Da) : TA := fun σ H Q => ∃ fr w env st, IE K mg fr w env st σ H ∧ posE K mg fr w env σ W (RepL K mg) Q (F env st)
def posS (fr : Fr) (w : Wd) (W : Wi) (D : Ends) : Out → Prop
  | .nx env st => ∀ σ' H' w', Ext w w' → IE K mg fr w' env st σ' H' → D.nx σ' H'
  | .rt d st => ∀ v H' w', Ext w w' → Good K mg w' st H' → Keep fr w' H' → Rep K mg w' v d → D.rt v H'
  | .bk env st => ∀ σ' H' w', Ext w w' → IE K mg fr w' env st σ' H' → D.bk σ' H'
  | .ct env st => ∀ σ' H' w', Ext w w' → IE K mg fr w' env st σ' H' → D.ct σ' H'
  | .ex C fs env st => ∀ c dx σ' H' w', Ext w w' → IE K mg fr w' env st σ' H' → Flies K mg w' H' C fs c dx → W.w (.ref c) dx σ' H'
  | .bad => False
def rdS (W : Wi) (F : Ds) : TS := fun D σ H => ∃ fr w env st, IE K mg fr w env st σ H ∧ posS K mg fr w W D (F env st)
end
section
variable (X : Cx) (W : Wi)
def QE (e : Expr) (F : Dn) : Prop := PE X e (rdE X.K (W.g X) W F)
def QT (e : Expr) (F : Dt) : Prop := PT X e (rdT X.K (W.g X) W F)
def QW (e : Expr) (F : Dt) : Prop := PW X e (rdT X.K (W.g X) W F)
def QA (es : List Expr) (F : Da) : Prop := PA X es (rdA X.K (W.g X) W F)
def QS (s : Stmt) (F : Ds) : Prop := PS X s (rdS X.K (W.g X) W F)
def QB (ss : List Stmt) (F : Ds) : Prop := PSs X ss (rdS X.K (W.g X) W F)
end
theorem peI {X : Cx} {e : Expr} {t t' : TE} (h : PE X e t) (i : ∀ σ H Q, t' σ H Q → t σ H Q) : PE X e t' := ⟨fun pins s σ H Q I q => h.run pins s σ H Q I (i σ H Q q)⟩
theorem ptI {X : Cx} {e : Expr} {t t' : TT} (h : PT X e t) (i : ∀ σ H Q, t' σ H Q → t σ H Q) : PT X e t' := ⟨fun pins s σ H Q I q => h.run pins s σ H Q I (i σ H Q q)⟩
theorem pwI {X : Cx} {e : Expr} {t t' : TT} (h : PW X e t) (i : ∀ σ H Q, t' σ H Q → t σ H Q) : PW X e t' := ⟨fun wh pins s σ H Q I q => h.run wh pins s σ H Q I (i σ H Q q)⟩
theorem paI {X : Cx} {e : List Expr} {t t' : TA} (h : PA X e t) (i : ∀ σ H Q, t' σ H Q → t σ H Q) : PA X e t' := ⟨fun pos pins s σ H Q I q => h.run pos pins s σ H Q I (i σ H Q q)⟩
theorem psI {X : Cx} {e : Stmt} {t t' : TS} (h : PS X e t) (i : ∀ D σ H, t' D σ H → t D σ H) : PS X e t' := ⟨fun pins s σ H D I q => h.run pins s σ H D I (i D σ H q)⟩
theorem pbI {X : Cx} {e : List Stmt} {t t' : TS} (h : PSs X e t) (i : ∀ D σ H, t' D σ H → t D σ H) : PSs X e t' := ⟨fun pins s σ H D I q => h.run pins s σ H D I (i D σ H q)⟩
end Dv

/-! DvB: rules for readings given by functions: names, constants, operators, tests, displays, statements, loops. -/
namespace Dv
open PySem PySem.Spec PyProof.Rows L2 Cv
section
variable {K : PySem.W.Frag} {mg : Gm} {fr : Fr} {w w' : Wd} {env : Env'} {st st' : Store} {σ : L2.St} {H H' : Hp} {W : Wi}
theorem pos_mono {α β : Type} {rep : Wd → β → α → Prop} {Q : β → Hp → Prop} {r : R α} (x : Ext w w') (p : posE K mg fr w env σ W rep Q r) : posE K mg fr w' env σ W rep Q r := by
  cases r with
  | ok d s => exact fun v H' w2 x2 I q => p v H' w2 (x.trans x2) I q
  | ex C fs s => exact fun c dx H' w2 x2 I q => p c dx H' w2 (x.trans x2) I q
  | bad => exact p
theorem posS_mono {D : Ends} {r : Out} (x : Ext w w') (p : posS K mg fr w W D r) : posS K mg fr w' W D r := by
  cases r with
  | nx e s => exact fun σ' H' w2 x2 I => p σ' H' w2 (x.trans x2) I
  | rt d s => exact fun v H' w2 x2 g k r => p v H' w2 (x.trans x2) g k r
  | bk e s => exact fun σ' H' w2 x2 I => p σ' H' w2 (x.trans x2) I
  | ct e s => exact fun σ' H' w2 x2 I => p σ' H' w2 (x.trans x2) I
  | ex C fs e s => exact fun c dx σ' H' w2 x2 I f => p c dx σ' H' w2 (x.trans x2) I f
  | bad => exact p
theorem pos_bind {α β γ δ : Type} {rep : Wd → β → α → Prop} {rep' : Wd → δ → γ → Prop} {Q : δ → Hp → Prop} {Q' : β → Hp → Prop} {r : R α} {k : α → Store → R γ} (q : posE K mg fr w env σ W rep' Q (r.bind k))
    (h : ∀ a s, r = .ok a s → ∀ v H' w', Ext w w' → IE K mg fr w' env s σ H' → rep w' v a → posE K mg fr w' env σ W rep' Q (k a s) → Q' v H') : posE K mg fr w env σ W rep Q' r := by
  cases r with
  | ok d s => exact fun v H' w2 x I r => h d s rfl v H' w2 x I r (pos_mono x q)
  | ex C fs s => exact q
  | bad => exact q
/-- at a value, the heap as it is -/
theorem pos_here {α β : Type} {rep : Wd → β → α → Prop} {Q : β → Hp → Prop} {d : α} {v : β} (p : posE K mg fr w env σ W rep Q (.ok d st)) (I : IE K mg fr w env st σ H) (r : rep w v d) : Q v H := p v H w Ext.refl I r
/-- at a new object that never changes -/
theorem pos_new {Q : VK} {d : D} {p : Addr} {o : HO} (q : posE K mg fr w env σ W (Rep K mg) Q (.ok d st)) (I : IE K mg fr w env st σ H) (hp : H p = none) (r : Rep K mg (w.add p o) (.ref p) d) : Q (.ref p) (upd H p o) :=
  q _ _ (w.add p o) (I.ext o hp) (I.alloc hp) r
theorem rep_lstN {p : Addr} {vs : List V} {ds : List D} (z : w.Z p = none) (r : RepL K mg w vs ds) : Rep K mg (w.add p (.lst vs)) (.ref p) (.lst ds) := .lst Wd.add_at (r.ext (Wd.add_ext z))
theorem rep_tupN {p : Addr} {vs : List V} {ds : List D} (z : w.Z p = none) (r : RepL K mg w vs ds) : Rep K mg (w.add p (.tup vs)) (.ref p) (.tup ds) := .tup (.inl (.inl Wd.add_at)) (r.ext (Wd.add_ext z))
theorem IE.z (I : IE K mg fr w env st σ H) {p : Addr} (hp : H p = none) : w.Z p = none := (I.g.new (o := .lst []) hp).1
theorem IE.seqL (I : IE K mg fr w env st σ H) {a : Addr} {xs : List V} (h : SqL K w.Z a xs) : SqL K H a xs := Same.seq I.g.sub h
theorem IE.seqT (I : IE K mg fr w env st σ H) {a : Addr} {xs : List V} (h : SqT K w.Z a xs) : SqT K H a xs := same_tup I.g.sub h
/-- a value is stored in a slot -/
theorem IE.set (I : IE K mg fr w env st σ H) {i : Nat} {v : V} {d : D} (r : Rep K mg w v d) : IE K mg fr w (env.set i (.val d)) st (σ.set i (some v)) H := by
  refine ⟨I.g, I.k, by rw [List.length_set, List.length_set]; exact I.s.len, fun j e he => ?_, fun j o he => ?_, fun j k a o o' h1 h2 h3 h4 => ?_, fun x o hx e => ?_, fun j C fs he => ?_⟩
  · by_cases hj : i = j
    · subst hj
      have hl : i < env.length := by
        by_cases q : i < env.length
        · exact q
        · rw [List.getElem?_eq_none (by rw [List.length_set]; omega)] at he; cases he
      rw [List.getElem?_set_self hl] at he
      cases Option.some.inj he
      exact ⟨v, List.getElem?_set_self (by rw [I.s.len]; exact hl), r⟩
    · rw [List.getElem?_set_ne hj] at he
      rw [List.getElem?_set_ne hj]
      exact I.s.val j e he
  · by_cases hj : i = j
    · subst hj
      have hl : i < env.length := by
        by_cases q : i < env.length
        · exact q
        · rw [List.getElem?_eq_none (by rw [List.length_set]; omega)] at he; cases he
      rw [List.getElem?_set_self hl] at he
      cases Option.some.inj he
    · rw [List.getElem?_set_ne hj] at he
      rw [List.getElem?_set_ne hj]
      exact I.s.own j o he
  · have n1 : i ≠ j := by
      rintro rfl
      have hl : i < env.length := by
        by_cases q : i < env.length
        · exact q
        · rw [List.getElem?_eq_none (by rw [List.length_set]; omega)] at h1; cases h1
      rw [List.getElem?_set_self hl] at h1
      cases Option.some.inj h1
    have n2 : i ≠ k := by
      rintro rfl
      have hl : i < env.length := by
        by_cases q : i < env.length
        · exact q
        · rw [List.getElem?_eq_none (by rw [List.length_set]; omega)] at h2; cases h2
      rw [List.getElem?_set_self hl] at h2
      cases Option.some.inj h2
    rw [List.getElem?_set_ne n1] at h1 h3
    rw [List.getElem?_set_ne n2] at h2 h4
    exact I.s.ap j k a o o' h1 h2 h3 h4
  · have n1 : i ≠ 0 := by
      rintro rfl
      have hl : 0 < env.length := by
        by_cases q : 0 < env.length
        · exact q
        · rw [List.getElem?_eq_none (by rw [List.length_set]; omega)] at e; cases e
      rw [List.getElem?_set_self hl] at e
      cases Option.some.inj e
    rw [List.getElem?_set_ne n1] at e ⊢
    exact I.s.sf x o hx e
  · by_cases hj : i = j
    · subst hj
      have hl : i < env.length := by
        by_cases q : i < env.length
        · exact q
        · rw [List.getElem?_eq_none (by rw [List.length_set]; omega)] at he; cases he
      rw [List.getElem?_set_self hl] at he
      cases Option.some.inj he
    · rw [List.getElem?_set_ne hj] at he
      rw [List.getElem?_set_ne hj]
      exact I.s.er j C fs he
end

/-! ### the functions -/
def fC (d : D) : Dn := fun _ st => .ok d st
def fVar (i : Nat) : Dn := fun env st => match env[i]? with
  | some (.val d) => .ok d st
  | _ => .bad
def fOp (f : D → D → Store → R D) (a b : Dn) : Dn := fun env st => (a env st).bind fun x s => (b env s).bind fun y s2 => f x y s2
def fUn (f : D → Store → R D) (a : Dn) : Dn := fun env st => (a env st).bind fun x s => f x s
def asB : D → Store → R Bool
  | .bl b, st => .ok b st
  | _, _ => .bad
def fT (a : Dn) : Dt := fun env st => (a env st).bind asB
def fAnd (a b : Dt) : Dt := fun env st => (a env st).bind fun x s => if x = true then b env s else .ok false s
def fOr (a b : Dt) : Dt := fun env st => (a env st).bind fun x s => if x = true then .ok true s else b env s
def fNot (a : Dt) : Dt := fun env st => (a env st).bind fun x s => .ok (!x) s
/-- .. as values -/
def fAndV (a b : Dn) : Dn := fun env st => (fT a env st).bind fun x s => if x = true then b env s else .ok (.bl false) s
def fOrV (a b : Dn) : Dn := fun env st => (fT a env st).bind fun x s => if x = true then .ok (.bl true) s else b env s
def fNotV (a : Dn) : Dn := fun env st => (fT a env st).bind fun x s => .ok (.bl (!x)) s
def fIte (c : Dt) (a b : Dn) : Dn := fun env st => (c env st).bind fun x s => if x = true then a env s else b env s
def fChain (f g : D → D → Store → R D) (a b c : Dn) : Dn := fun env st => (a env st).bind fun x s => (b env s).bind fun y s2 => (f x y s2).bind fun z s3 => (asB z s3).bind fun k s4 => if k = true then (c env s4).bind fun u s5 => g y u s5 else .ok (.bl false) s4
def fNil : Da := fun _ st => .ok [] st
def fCons (a : Dn) (r : Da) : Da := fun env st => (a env st).bind fun x s => (r env s).bind fun xs s2 => .ok (x :: xs) s2
def fLst (a : Da) : Dn := fun env st => (a env st).bind fun xs s => if xs.length ≤ sizeLine then .ok (.lst xs) s else .bad
def fTup (a : Da) : Dn := fun env st => (a env st).bind fun xs s => if xs.length ≤ sizeLine then .ok (.tup xs) s else .bad
def fCall (f : Fn) (a : Da) : Dn := fun env st => (a env st).bind f

section
variable {X : Cx} {W : Wi} {a b c : Expr} {Fa Fb Fc : Dn} {Ta Tb : Dt} {pos : Pos}
theorem qe_int {i j pos} : QE X W (.Constant (.int i) j pos) (fC (.int i)) := peI pe_int fun σ H Q ⟨fr, w, env, st, I, h⟩ => pos_here h I (.int i)
theorem qe_str {x j pos} : QE X W (.Constant (.str x) j pos) (fC (.str x)) := peI pe_str fun σ H Q ⟨fr, w, env, st, I, h⟩ => pos_here h I (.str x)
theorem qe_bl {x j pos} : QE X W (.Constant (.bool x) j pos) (fC (.bl x)) := peI pe_bl fun σ H Q ⟨fr, w, env, st, I, h⟩ => pos_here h I (.bl x)
theorem qe_non {j pos} : QE X W (.Constant .none j pos) (fC .non) := peI pe_non fun σ H Q ⟨fr, w, env, st, I, h⟩ => pos_here h I .non
theorem qe_v {i : Nat} (h : PE X a (tVar i)) : QE X W a (fVar i) := peI h fun σ H Q ⟨fr, w, env, st, I, q⟩ => by
  unfold fVar at q
  split at q
  · rename_i d e
    obtain ⟨v, e1, r⟩ := I.s.val i d e
    exact ⟨v, e1, pos_here q I r⟩
  · exact q.elim
/-- a module's constant -/
def CRep (K : PySem.W.Frag) (mg : Gm) (v : V) (d : D) : Prop := ∀ w : Wd, Rep K mg w v d
theorem qe_c {v : V} {d : D} (h : PE X a (tC v)) (r : CRep X.K (W.g X) v d) : QE X W a (fC d) := peI h fun σ H Q ⟨fr, w, env, st, I, q⟩ => pos_here q I (r w)
/-- a reading of two values, by a function -/
def OpS (K : PySem.W.Frag) (mg : Gm) (r : R2) (f : D → D → Store → R D) : Prop :=
  ∀ (fr : Fr) (w : Wd) (env : Env') (st : Store) (σ : L2.St) (H : Hp) (W : Wi) (v u : V) (x y : D) (Q : VK), IE K mg fr w env st σ H → Rep K mg w v x → Rep K mg w u y → posE K mg fr w env σ W (Rep K mg) Q (f x y st) → r v u H Q
def UnS (K : PySem.W.Frag) (mg : Gm) (r : V → Hp → VK → Prop) (f : D → Store → R D) : Prop :=
  ∀ (fr : Fr) (w : Wd) (env : Env') (st : Store) (σ : L2.St) (H : Hp) (W : Wi) (v : V) (x : D) (Q : VK), IE K mg fr w env st σ H → Rep K mg w v x → posE K mg fr w env σ W (Rep K mg) Q (f x st) → r v H Q
def CallS (K : PySem.W.Frag) (mg : Gm) (r : List V → Hp → VK → Prop) (f : Fn) : Prop :=
  ∀ (fr : Fr) (w : Wd) (env : Env') (st : Store) (σ : L2.St) (H : Hp) (W : Wi) (vs : List V) (xs : List D) (Q : VK), IE K mg fr w env st σ H → RepL K mg w vs xs → posE K mg fr w env σ W (Rep K mg) Q (f xs st) → r vs H Q
theorem rd_op {ta tb : TE} {r : R2} {f : D → D → Store → R D} (hs : OpS X.K (W.g X) r f) {σ : L2.St} {H : Hp} {Q : VK} (h : rdE X.K (W.g X) W (fOp f Fa Fb) σ H Q) : tOp r (rdE X.K (W.g X) W Fa) (rdE X.K (W.g X) W Fb) σ H Q := by
  obtain ⟨fr, w, env, st, I, q⟩ := h
  exact ⟨fr, w, env, st, I, pos_bind q fun x s _ v H1 w1 x1 I1 r1 q1 => ⟨fr, w1, env, s, I1, pos_bind q1 fun y s2 _ u H2 w2 x2 I2 r2 q2 => hs fr w2 env s2 σ H2 W v u x y Q I2 (r1.ext x2) r2 q2⟩⟩
theorem qe_op {op : Operator} {r : R2} {f : D → D → Store → R D} (ho : OpR X (binaryOp op) r) (hs : OpS X.K (W.g X) r f) (ha : QE X W a Fa) (hb : QE X W b Fb) : QE X W (.BinOp a op b pos) (fOp f Fa Fb) :=
  peI (pe_op ho ha hb) fun σ H Q h => rd_op (ta := rdE X.K (W.g X) W Fa) (tb := rdE X.K (W.g X) W Fb) hs h
theorem qe_cmp {op : CmpOp} {r : R2} {f : D → D → Store → R D} (ho : OpR X (compareOp op) r) (hs : OpS X.K (W.g X) r f) (ha : QE X W a Fa) (hb : QE X W b Fb) (hm : behindInMarks op b = false) : QE X W (.Compare a [op] [b] pos) (fOp f Fa Fb) :=
  peI (pe_cmpR ho ha hb hm) fun σ H Q h => rd_op (ta := rdE X.K (W.g X) W Fa) (tb := rdE X.K (W.g X) W Fb) hs h
theorem rd_T {t : TE} {F : Dn} (ht : ∀ σ H Q, rdE X.K (W.g X) W F σ H Q → t σ H Q) {σ : L2.St} {H : Hp} {Q : Bool → Hp → Prop} (h : rdT X.K (W.g X) W (fT F) σ H Q) : tTest t σ H Q := by
  obtain ⟨fr, w, env, st, I, q⟩ := h
  refine ht σ H _ ⟨fr, w, env, st, I, pos_bind (rep' := fun _ b d => b = d) (k := asB) q fun x s _ v H1 w1 x1 I1 r1 q1 => ?_⟩
  unfold asB at q1
  split at q1
  · cases r1
    exact ⟨_, rfl, q1 _ _ w1 Ext.refl I1 rfl⟩
  · exact q1.elim
theorem qt_cmp {op : CmpOp} {r : R2} {f : D → D → Store → R D} (ho : OpR X (compareOp op) r) (hs : OpS X.K (W.g X) r f) (ha : QE X W a Fa) (hb : QE X W b Fb) (hm : behindInMarks op b = false) : QT X W (.Compare a [op] [b] pos) (fT (fOp f Fa Fb)) :=
  ptI (pt_cmpR ho ha hb hm) fun σ H Q h => rd_T (fun σ H Q h => rd_op (ta := rdE X.K (W.g X) W Fa) (tb := rdE X.K (W.g X) W Fb) hs h) h
theorem qt_val {F : Dn} (h : QE X W a F) (he : ∀ whole, isTrue a X.env whole = (do let v ← whole; standAt a.pos; holding [v] (truthy v)) := by intro _; rfl) : QT X W a (fT F) :=
  ptI (pt_val h he) fun σ H Q h => rd_T (t := rdE X.K (W.g X) W F) (fun _ _ _ h => h) h
theorem rd_chain {r r' : R2} {f g : D → D → Store → R D} (hs : OpS X.K (W.g X) r f) (hs' : OpS X.K (W.g X) r' g) {σ : L2.St} {H : Hp} {Q : VK} (h : rdE X.K (W.g X) W (fChain f g Fa Fb Fc) σ H Q) :
    tChain r r' (rdE X.K (W.g X) W Fa) (rdE X.K (W.g X) W Fb) (rdE X.K (W.g X) W Fc) σ H Q := by
  obtain ⟨fr, w, env, st, I, q⟩ := h
  refine ⟨fr, w, env, st, I, pos_bind q fun x s _ v H1 w1 x1 I1 r1 q1 => ⟨fr, w1, env, s, I1, pos_bind q1 fun y s2 _ u H2 w2 x2 I2 r2 q2 => hs fr w2 env s2 σ H2 W v u x y _ I2 (r1.ext x2) r2 (pos_bind q2 fun z s3 _ zv H3 w3 x3 I3 r3 q3 => ?_)⟩⟩
  unfold asB at q3
  split at q3
  · cases r3
    refine ⟨_, rfl, ?_⟩
    rw [R.bind_ok] at q3
    split
    · rename_i hk
      rw [if_pos hk] at q3
      exact ⟨fr, w3, env, _, I3, pos_bind q3 fun c2 s5 _ cv H5 w5 x5 I5 r5 q5 => hs' fr w5 env s5 σ H5 W u cv y c2 Q I5 ((r2.ext x3).ext x5) r5 q5⟩
    · rename_i hk
      rw [if_neg hk] at q3
      exact pos_here q3 I3 (.bl false)
  · exact q3.elim
theorem qe_chain {op op' : CmpOp} {r r' : R2} {f g : D → D → Store → R D} (ho : OpR X (compareOp op) r) (ho' : OpR X (compareOp op') r') (hs : OpS X.K (W.g X) r f) (hs' : OpS X.K (W.g X) r' g) (ha : QE X W a Fa) (hb : QE X W b Fb) (hc : QE X W c Fc)
    {e : Expr} (h : ∀ {ta tb tc : TE}, PE X a ta → PE X b tb → PE X c tc → PE X e (tChain r r' ta tb tc)) : QE X W e (fChain f g Fa Fb Fc) := peI (h ha hb hc) fun σ H Q h => rd_chain hs hs' h
/-! ### and, or, not -/
theorem qw_and1 (ha : QT X W a Ta) : QW X W (.BoolOp .And [a] pos) Ta := pw_and1 ha
theorem qw_or1 (ha : QT X W a Ta) : QW X W (.BoolOp .Or [a] pos) Ta := pw_or1 ha
theorem pos_if {α β : Type} {fr : Fr} {w : Wd} {env : Env'} {σ : L2.St} {rep : Wd → β → α → Prop} {Q : β → Hp → Prop} {k : Bool} {x y : R α} {A B : Prop} (q : posE X.K (W.g X) fr w env σ W rep Q (if k = true then x else y)) (h1 : posE X.K (W.g X) fr w env σ W rep Q x → A) (h2 : posE X.K (W.g X) fr w env σ W rep Q y → B) : if k = true then A else B := by
  cases k with
  | true => exact h1 q
  | false => exact h2 q
theorem qw_and {rest : List Expr} (ha : QT X W a Ta) (hb : QW X W (.BoolOp .And (b :: rest) pos) Tb) : QW X W (.BoolOp .And (a :: b :: rest) pos) (fAnd Ta Tb) :=
  pwI (pw_and ha hb) fun σ H Q ⟨fr, w, env, st, I, q⟩ => ⟨fr, w, env, st, I, pos_bind q fun x s _ v H1 w1 x1 I1 r1 q1 => by
    subst r1
    exact pos_if q1 (fun q => ⟨fr, w1, env, s, I1, q⟩) fun q => pos_here q I1 rfl⟩
theorem qw_or {rest : List Expr} (ha : QT X W a Ta) (hb : QW X W (.BoolOp .Or (b :: rest) pos) Tb) : QW X W (.BoolOp .Or (a :: b :: rest) pos) (fOr Ta Tb) :=
  pwI (pw_or ha hb) fun σ H Q ⟨fr, w, env, st, I, q⟩ => ⟨fr, w, env, st, I, pos_bind q fun x s _ v H1 w1 x1 I1 r1 q1 => by
    subst r1
    exact pos_if q1 (fun q => pos_here q I1 rfl) fun q => ⟨fr, w1, env, s, I1, q⟩⟩
theorem qt_w (h : QW X W a Ta) : QT X W a Ta := PW.pt h
theorem qt_not (ha : QT X W a Ta) : QT X W (.UnaryOp .Not a pos) (fNot Ta) :=
  ptI (pt_not ha) fun σ H Q ⟨fr, w, env, st, I, q⟩ => ⟨fr, w, env, st, I, pos_bind q fun x s _ v H1 w1 x1 I1 r1 q1 => by
    subst r1
    exact pos_here q1 I1 rfl⟩
theorem rd_B {F : Dn} {k : Bool → Store → R D} {fr : Fr} {w : Wd} {env : Env'} {st : Store} {σ : L2.St} {H : Hp} {Q : VK} {P : Bool → Hp → Prop} (I : IE X.K (W.g X) fr w env st σ H) (q : posE X.K (W.g X) fr w env σ W (Rep X.K (W.g X)) Q ((fT F env st).bind k))
    (h : ∀ b s H1 w1, Ext w w1 → IE X.K (W.g X) fr w1 env s σ H1 → posE X.K (W.g X) fr w1 env σ W (Rep X.K (W.g X)) Q (k b s) → P b H1) : rdE X.K (W.g X) W F σ H fun x H1 => ∃ c, x = .bl c ∧ P c H1 := by
  refine ⟨fr, w, env, st, I, ?_⟩
  unfold fT at q
  generalize F env st = r at *
  cases r with
  | ok d s =>
    intro v H1 w1 x1 I1 r1
    rw [R.bind_ok] at q
    unfold asB at q
    split at q
    · cases r1
      exact ⟨_, rfl, h _ _ H1 w1 x1 I1 (pos_mono x1 q)⟩
    · exact q.elim
  | ex C fs s => exact q
  | bad => exact q
theorem qe_and {rest : List Expr} (ha : QE X W a Fa) (hb : QE X W (.BoolOp .And (b :: rest) pos) Fb) : QE X W (.BoolOp .And (a :: b :: rest) pos) (fAndV Fa Fb) :=
  peI (pe_and ha hb) fun σ H Q ⟨fr, w, env, st, I, q⟩ => rd_B I q fun k s H1 w1 _ I1 q1 => pos_if q1 (fun q => ⟨fr, w1, env, s, I1, q⟩) fun q => pos_here q I1 (.bl false)
theorem qe_or {rest : List Expr} (ha : QE X W a Fa) (hb : QE X W (.BoolOp .Or (b :: rest) pos) Fb) : QE X W (.BoolOp .Or (a :: b :: rest) pos) (fOrV Fa Fb) :=
  peI (pe_or ha hb) fun σ H Q ⟨fr, w, env, st, I, q⟩ => rd_B I q fun k s H1 w1 _ I1 q1 => pos_if q1 (fun q => pos_here q I1 (.bl true)) fun q => ⟨fr, w1, env, s, I1, q⟩
theorem qe_one {op} (h : QE X W a Fa) : QE X W (.BoolOp op [a] pos) Fa := pe_one h
theorem qe_not (ha : QE X W a Fa) : QE X W (.UnaryOp .Not a pos) (fNotV Fa) :=
  peI (pe_not ha) fun σ H Q ⟨fr, w, env, st, I, q⟩ => rd_B I q fun k s H1 w1 _ I1 q1 => pos_here q1 I1 (.bl (!k))
theorem qe_ite (hc : QT X W c Ta) (ha : QE X W a Fa) (hb : QE X W b Fb) : QE X W (.IfExp c a b pos) (fIte Ta Fa Fb) :=
  peI (pe_ifExp hc ha hb) fun σ H Q ⟨fr, w, env, st, I, q⟩ => ⟨fr, w, env, st, I, pos_bind q fun x s _ v H1 w1 x1 I1 r1 q1 => by
    subst r1
    exact pos_if q1 (fun q => ⟨fr, w1, env, s, I1, q⟩) fun q => ⟨fr, w1, env, s, I1, q⟩⟩
theorem qe_un {op : UnaryOp} {r : V → Hp → VK → Prop} {f : D → Store → R D} (ho : UnR X (unaryOp op) r) (hs : UnS X.K (W.g X) r f) (ha : QE X W a Fa) : QE X W (.UnaryOp op a pos) (fUn f Fa) :=
  peI (pe_un ho ha) fun σ H Q ⟨fr, w, env, st, I, q⟩ => ⟨fr, w, env, st, I, pos_bind q fun x s _ v H1 w1 x1 I1 r1 q1 => hs fr w1 env s σ H1 W v x Q I1 r1 q1⟩
/-! ### arguments, displays, calls of built-ins -/
variable {e : Expr} {es : List Expr} {Fs : Da}
theorem qa_nil : QA X W [] fNil := paI pa_nil fun σ H Q ⟨fr, w, env, st, I, q⟩ => q [] H w Ext.refl I .nil
theorem qa_cons (ha : QE X W e Fa) (hr : QA X W es Fs) (hs : starEach (e :: es) X.env = (false, eval e X.env) :: starEach es X.env := by rfl) : QA X W (e :: es) (fCons Fa Fs) :=
  paI (pa_cons ha hr hs) fun σ H Q ⟨fr, w, env, st, I, q⟩ => ⟨fr, w, env, st, I, pos_bind q fun x s _ v H1 w1 x1 I1 r1 q1 => ⟨fr, w1, env, s, I1, pos_bind q1 fun xs s2 _ vs H2 w2 x2 I2 r2 q2 => q2 _ _ w2 Ext.refl I2 (.cons (r1.ext x2) r2)⟩⟩
theorem qe_tup {x1} (h : QA X W es Fs) : QE X W (.Tuple es x1 pos) (fTup Fs) :=
  peI (pe_tup h) fun σ H Q ⟨fr, w, env, st, I, q⟩ => ⟨fr, w, env, st, I, pos_bind q fun xs s _ vs H1 w1 x1 I1 r1 q1 => by
    split at q1
    · rename_i hl
      exact ⟨by rw [r1.length]; exact hl, fun p hp => pos_new q1 I1 hp (rep_tupN (I1.z hp) r1)⟩
    · exact q1.elim⟩
theorem qe_lst (h : QA X W es Fs) : QE X W (.List es pos) (fLst Fs) :=
  peI (pe_lst h) fun σ H Q ⟨fr, w, env, st, I, q⟩ => ⟨fr, w, env, st, I, pos_bind q fun xs s _ vs H1 w1 x1 I1 r1 q1 => by
    split at q1
    · rename_i hl
      exact ⟨by rw [r1.length]; exact hl, fun p hp => pos_new q1 I1 hp (rep_lstN (I1.z hp) r1)⟩
    · exact q1.elim⟩
theorem rd_CB {r : List V → Hp → VK → Prop} {f : Fn} (hs : CallS X.K (W.g X) r f) {σ : L2.St} {H : Hp} {Q : VK} (h : rdE X.K (W.g X) W (fCall f Fs) σ H Q) : tCB r (rdA X.K (W.g X) W Fs) σ H Q := by
  obtain ⟨fr, w, env, st, I, q⟩ := h
  exact ⟨fr, w, env, st, I, pos_bind q fun xs s _ vs H1 w1 x1 I1 r1 q1 => hs fr w1 env s σ H1 W vs xs Q I1 r1 q1⟩
/-- a call of a built-in, by its rule's conclusion -/
theorem qe_callB {r : List V → Hp → VK → Prop} {f : Fn} (hs : CallS X.K (W.g X) r f) (ha : QA X W es Fs) (h : ∀ {t : TA}, PA X es t → PE X e (tCB r t)) : QE X W e (fCall f Fs) := peI (h ha) fun σ H Q h => rd_CB hs h
theorem qe_ix {r : R2} {f : D → D → Store → R D} (hr : IxR X r) (hs : OpS X.K (W.g X) r f) (ha : QE X W a Fa) (hb : QE X W b Fb) (hp : PlainIx b) : QE X W (.Subscript a b pos) (fOp f Fa Fb) :=
  peI (pe_ix hr ha hb hp) fun σ H Q h => rd_op (ta := rdE X.K (W.g X) W Fa) (tb := rdE X.K (W.g X) W Fb) hs h
end

/-! ### statements -/
def fSkip : Ds := fun env st => .nx env st
def fSeq (a b : Ds) : Ds := fun env st => match a env st with
  | .nx e s => b e s
  | r => r
def fExpr (a : Dn) : Ds := fun env st => match a env st with
  | .ok _ s => .nx env s
  | .ex C fs s => .ex C fs env s
  | .bad => .bad
def fRet (a : Dn) : Ds := fun env st => match a env st with
  | .ok d s => .rt d s
  | .ex C fs s => .ex C fs env s
  | .bad => .bad
def fRetN : Ds := fun _ st => .rt .non st
def fSet (i : Nat) (a : Dn) : Ds := fun env st => match a env st with
  | .ok d s => .nx (env.set i (.val d)) s
  | .ex C fs s => .ex C fs env s
  | .bad => .bad
def fIf (c : Dt) (a b : Ds) : Ds := fun env st => match c env st with
  | .ok x s => if x = true then a env s else b env s
  | .ex C fs s => .ex C fs env s
  | .bad => .bad
def fBreak : Ds := fun env st => .bk env st
def fContinue : Ds := fun env st => .ct env st
/-- a while, n turns at most -/
def fWhile (c : Dt) (b : Ds) : Nat → Ds
  | 0 => fun _ _ => .bad
  | n + 1 => fun env st => match c env st with
    | .ok true s => (match b env s with
      | .nx e s2 => fWhile c b n e s2
      | .ct e s2 => fWhile c b n e s2
      | .bk e s2 => .nx e s2
      | r => r)
    | .ok false s => .nx env s
    | .ex C fs s => .ex C fs env s
    | .bad => .bad
/-- a for: what is walked is known ahead -/
def fTurns (tg : D → Env' → Option Env') (b : Ds) : List D → Ds
  | [] => fun env st => .nx env st
  | x :: xs => fun env st => match tg x env with
    | none => .bad
    | some e1 => (match b e1 st with
      | .nx e s => fTurns tg b xs e s
      | .ct e s => fTurns tg b xs e s
      | .bk e s => .nx e s
      | r => r)
def fFor (it : Da) (tg : D → Env' → Option Env') (b : Ds) : Ds := fun env st => match it env st with
  | .ok xs s => fTurns tg b xs env s
  | .ex C fs s => .ex C fs env s
  | .bad => .bad
/-- targets -/
def gN (i : Nat) : D → Env' → Option Env' := fun d env => some (env.set i (.val d))
def gNil : List D → Env' → Option Env' := fun ds env => match ds with | [] => some env | _ => none
def gCons (g : D → Env' → Option Env') (r : List D → Env' → Option Env') : List D → Env' → Option Env' := fun ds env => match ds with
  | d :: ds => (match g d env with | some e => r ds e | none => none)
  | [] => none
def gTup (n : Nat) (r : List D → Env' → Option Env') : D → Env' → Option Env' := fun d env => match d with
  | .tup ds => if ds.length = n then r ds env else none
  | _ => none
def fAsg (a : Dn) (g : D → Env' → Option Env') : Ds := fun env st => match a env st with
  | .ok d s => (match g d env with | some e => .nx e s | none => .bad)
  | .ex C fs s => .ex C fs env s
  | .bad => .bad
section
variable {X : Cx} {W : Wi} {e : Expr} {s : Stmt} {ss : List Stmt} {F G : Ds} {Fe : Dn} {pos : Pos}
theorem qb_nil : QB X W [] fSkip := pbI pss_nil fun D σ H ⟨fr, w, env, st, I, q⟩ => q σ H w Ext.refl I
theorem qb_cons (h1 : QS X W s F) (h2 : QB X W ss G) : QB X W (s :: ss) (fSeq F G) := pbI (pss_cons h1 h2) fun D σ H ⟨fr, w, env, st, I, q⟩ => ⟨fr, w, env, st, I, by
  unfold fSeq at q
  generalize F env st = r at *
  cases r with
  | nx e s => exact fun σ' H' w' x I' => ⟨fr, w', e, s, I', posS_mono x q⟩
  | rt d s => exact q
  | bk e s => exact q
  | ct e s => exact q
  | ex C fs e s => exact q
  | bad => exact q⟩
theorem qb_one (h1 : QS X W s F) : QB X W [s] F := pss_one h1
theorem qs_pass : QS X W (.Pass pos) fSkip := psI ps_pass fun D σ H ⟨fr, w, env, st, I, q⟩ => q σ H w Ext.refl I
theorem qs_break : QS X W (.Break pos) fBreak := psI ps_break fun D σ H ⟨fr, w, env, st, I, q⟩ => q σ H w Ext.refl I
theorem qs_continue : QS X W (.Continue pos) fContinue := psI ps_continue fun D σ H ⟨fr, w, env, st, I, q⟩ => q σ H w Ext.refl I
theorem qs_expr (he : QE X W e Fe) (hs : swapsWith e none pos.line X.env = pure false := by rfl) : QS X W (.Expr e pos) (fExpr Fe) := psI (ps_expr he hs) fun D σ H ⟨fr, w, env, st, I, q⟩ => ⟨fr, w, env, st, I, by
  unfold fExpr at q
  generalize Fe env st = r at *
  cases r with
  | ok d s => exact fun v H' w' x I' _ => q σ H' w' x I'
  | ex C fs s => exact fun c dx H' w' x I' f => q c dx σ H' w' x I' f
  | bad => exact q⟩
theorem qs_doc {x j p1 p2} : QS X W (.Expr (.Constant (.str x) j p1) p2) fSkip := psI ps_doc fun D σ H ⟨fr, w, env, st, I, q⟩ => q σ H w Ext.refl I
theorem qs_ret (he : QE X W e Fe) : QS X W (.Return (some e) pos) (fRet Fe) := psI (ps_ret he) fun D σ H ⟨fr, w, env, st, I, q⟩ => ⟨fr, w, env, st, I, by
  unfold fRet at q
  generalize Fe env st = r at *
  cases r with
  | ok d s => exact fun v H' w' x I' r => q v H' w' x I'.g I'.k r
  | ex C fs s => exact fun c dx H' w' x I' f => q c dx σ H' w' x I' f
  | bad => exact q⟩
theorem qs_retN : QS X W (.Return none pos) fRetN := psI ps_retN fun D σ H ⟨fr, w, env, st, I, q⟩ => q .non H w Ext.refl I.g I.k .non
theorem qs_set {i : Nat} {tg : Stmt} (h : ∀ {te : TE}, PE X e te → PS X tg (tAsg te (gName i))) (he : QE X W e Fe) : QS X W tg (fSet i Fe) := psI (h he) fun D σ H ⟨fr, w, env, st, I, q⟩ => ⟨fr, w, env, st, I, by
  unfold fSet at q
  generalize Fe env st = r at *
  cases r with
  | ok d s => exact fun v H' w' x I' r => q _ H' w' x (I'.set r)
  | ex C fs s => exact fun c dx H' w' x I' f => q c dx σ H' w' x I' f
  | bad => exact q⟩
theorem qs_if {c : Expr} {a b : List Stmt} {T : Dt} (hc : QT X W c T) (ha : QB X W a F) (hb : QB X W b G) : QS X W (.If c a b pos) (fIf T F G) := psI (ps_if hc ha hb) fun D σ H ⟨fr, w, env, st, I, q⟩ => ⟨fr, w, env, st, I, by
  unfold fIf at q
  generalize T env st = r at *
  cases r with
  | ok d s =>
    rintro v H' w' x I' rfl
    cases v with
    | true => exact ⟨fr, w', env, s, I', posS_mono x q⟩
    | false => exact ⟨fr, w', env, s, I', posS_mono x q⟩
  | ex C fs s => exact fun c dx H' w' x I' f => q c dx σ H' w' x I' f
  | bad => exact q⟩
theorem qs_while {c : Expr} {body : List Stmt} {T : Dt} (n : Nat) (hp : PassesOwn (model X.prog X.w) X.A X.env X.xe) (hc : QT X W c T) (hb : QB X W body F) : QS X W (.While c body [] pos) (fWhile T F n) :=
  psI (ps_while hp hc hb) fun D σ H ⟨fr, w, env, st, I, q⟩ => by
  refine ⟨fun m σ' H' => ∃ w' env' st', IE X.K (W.g X) fr w' env' st' σ' H' ∧ posS X.K (W.g X) fr w' W D (fWhile T F m env' st'), ⟨n, w, env, st, I, q⟩, ?_⟩
  rintro m σ1 H1 ⟨w1, e1, s1, I1, q1⟩
  refine ⟨fr, w1, e1, s1, I1, ?_⟩
  cases m with
  | zero => exact q1.elim
  | succ m =>
    unfold fWhile at q1
    generalize T e1 s1 = r at *
    cases r with
    | ok d s =>
      rintro v H' w' x I' rfl
      cases v with
      | true =>
        refine ⟨fun σ' H' => ∃ w' env' st', IE X.K (W.g X) fr w' env' st' σ' H' ∧ posS X.K (W.g X) fr w' W D (fWhile T F m env' st'), fun σ' H' h => ⟨m, Nat.lt_succ_self m, h⟩, fr, w', e1, s, I', ?_⟩
        have q2 := posS_mono x q1
        clear q1
        revert q2
        dsimp only
        generalize F e1 s = r
        cases r with
        | nx e s2 => exact fun q σ' H2 w2 x2 I2 => ⟨w2, e, s2, I2, posS_mono x2 q⟩
        | ct e s2 => exact fun q σ' H2 w2 x2 I2 => ⟨w2, e, s2, I2, posS_mono x2 q⟩
        | bk e s2 => exact fun q => q
        | rt d s2 => exact fun q => q
        | ex C fs e s2 => exact fun q => q
        | bad => exact fun q => q
      | false => exact q1 σ1 H' w' x I'
    | ex C fs s => exact fun c dx H' w' x I' f => q1 c dx σ1 H' w' x I' f
    | bad => exact q1
end
end Dv

/-! DvC: what loops and comprehensions walk; targets; defs and their calls. -/
namespace Dv
open PySem PySem.Spec PyProof.Rows L2 Cv
/-! ### targets -/
def TgS (K : PySem.W.Frag) (mg : Gm) (t : TG) (g : D → Env' → Option Env') (is : List Nat) : Prop :=
  ∀ (fr : Fr) (w : Wd) (env : Env') (st : Store) (σ : L2.St) (H : Hp) (v : V) (d : D) (e' : Env') (Q : L2.St → Hp → Prop), IE K mg fr w env st σ H → Rep K mg w v d → g d env = some e' →
    (∀ σ', (∀ vs, (∀ i ∈ is, i ∈ vs) → wipe σ' vs = wipe σ vs) → IE K mg fr w e' st σ' H → Q σ' H) → t v σ H Q
def TgsS (K : PySem.W.Frag) (mg : Gm) (t : TGs) (g : List D → Env' → Option Env') (is : List Nat) : Prop :=
  ∀ (fr : Fr) (w : Wd) (env : Env') (st : Store) (σ : L2.St) (H : Hp) (v : List V) (d : List D) (e' : Env') (Q : L2.St → Hp → Prop), IE K mg fr w env st σ H → RepL K mg w v d → g d env = some e' →
    (∀ σ', (∀ vs, (∀ i ∈ is, i ∈ vs) → wipe σ' vs = wipe σ vs) → IE K mg fr w e' st σ' H → Q σ' H) → t v σ H Q
theorem wipe_set {i : Nat} {x : Option V} : ∀ {vs : List Nat} {σ : L2.St}, i ∈ vs → wipe (σ.set i x) vs = wipe σ vs := by
  have key : ∀ {vs : List Nat} {σ : L2.St}, wipe (σ.set i x) vs = (wipe σ vs).set i x ∨ wipe (σ.set i x) vs = wipe σ vs := by
    intro vs
    induction vs with
    | nil => exact fun {σ} => .inl rfl
    | cons v vs ih =>
      intro σ
      unfold wipe
      rcases ih (σ := σ) with h | h
      · rw [h]
        by_cases hv : v = i
        · subst hv
          exact .inr (by rw [List.set_set])
        · exact .inl (by rw [List.set_comm _ _ (Ne.symm hv)])
      · exact .inr (by rw [h])
  intro vs
  induction vs with
  | nil => exact fun h => nomatch h
  | cons v vs ih =>
    intro σ h
    unfold wipe
    by_cases hv : v = i
    · subst hv
      rcases key (vs := vs) (σ := σ) with q | q
      · rw [q, List.set_set]
      · rw [q]
    · rw [ih (by rcases List.mem_cons.mp h with z | z; exact absurd z.symm hv; exact z)]
theorem wipe_wipe {vs : List Nat} {σ : L2.St} : wipe (wipe σ vs) vs = wipe σ vs := by
  have key : ∀ (us vs : List Nat), (∀ i ∈ us, i ∈ vs) → wipe (wipe σ us) vs = wipe σ vs := by
    intro us
    induction us with
    | nil => exact fun _ _ => rfl
    | cons u us ih =>
      intro vs h
      rw [show wipe σ (u :: us) = (wipe σ us).set u none from rfl, wipe_set (h u List.mem_cons_self)]
      exact ih vs fun i hi => h i (List.mem_cons_of_mem _ hi)
  exact key vs vs fun _ h => h
section
variable {K : PySem.W.Frag} {mg : Gm}
theorem tg_name {i : Nat} : TgS K mg (gName i) (gN i) [i] := fun fr w env st σ H v d e' Q I r e q => by
  cases Option.some.inj e
  exact q _ (fun vs h => wipe_set (h i List.mem_cons_self)) (I.set r)
theorem tgs_nil : TgsS K mg L2.gNil gNil [] := fun fr w env st σ H v d e' Q I r e q => by
  cases r with
  | nil =>
    cases Option.some.inj e
    exact ⟨rfl, q _ (fun _ _ => rfl) I⟩
  | cons _ _ => cases e
theorem tgs_cons {t : TG} {g : D → Env' → Option Env'} {is js : List Nat} {u : TGs} {h : List D → Env' → Option Env'} (a : TgS K mg t g is) (b : TgsS K mg u h js) : TgsS K mg (L2.gCons t u) (gCons g h) (is ++ js) := fun fr w env st σ H v d e' Q I r e q => by
  cases r with
  | nil => cases e
  | cons r rs =>
    unfold gCons at e
    split at e
    · rename_i d1 ds he
      cases he
      split at e
      · rename_i e1 h1
        refine ⟨_, _, rfl, a fr w env st σ H _ _ e1 _ I r h1 fun σ1 w1 I1 => b fr w e1 st σ1 H _ _ e' _ I1 rs e fun σ2 w2 I2 => q σ2 (fun vs hv => ?_) I2⟩
        rw [w2 vs fun i hi => hv i (List.mem_append_right _ hi), w1 vs fun i hi => hv i (List.mem_append_left _ hi)]
      · cases e
    · rename_i he
      cases he
theorem tg_tup {n : Nat} {u : TGs} {h : List D → Env' → Option Env'} {js : List Nat} (b : TgsS K mg u h js) : TgS K mg (L2.gTup K n u) (gTup n h) js := fun fr w env st σ H v d e' Q I r e q => by
  unfold gTup at e
  split at e
  · split at e
    · rename_i ds hl
      cases r with
      | tup hs rs => exact ⟨_, _, rfl, I.seqT hs, by rw [rs.length]; exact hl, b fr w env st σ H _ _ e' Q I rs e q⟩
    · cases e
  · cases e
end
section
variable {X : Cx} {W : Wi} {e tg : Expr} {Fe : Dn} {pos : Pos}
/-- target = value, the target of any form -/
theorem qs_asg {t : TG} {g : D → Env' → Option Env'} {is : List Nat} (ht : TgS X.K (W.g X) t g is) {sg : Stmt} (h : ∀ {te : TE}, PE X e te → PS X sg (tAsg te t)) (he : QE X W e Fe) : QS X W sg (fAsg Fe g) := psI (h he) fun D σ H ⟨fr, w, env, st, I, q⟩ => ⟨fr, w, env, st, I, by
  unfold fAsg at q
  generalize Fe env st = r at *
  cases r with
  | ok d s =>
    intro v H' w' x I' r
    have q2 := posS_mono x q
    clear q
    revert q2
    dsimp only
    cases hg : g d env with
    | none => exact fun z => z.elim
    | some e1 => exact fun q => ht fr w' env s σ H' v d e1 _ I' r hg fun σ' _ I2 => q σ' H' w' Ext.refl I2
  | ex C fs s => exact fun c dx H' w' x I' f => q c dx σ H' w' x I' f
  | bad => exact q⟩
end
/-! ### what is walked -/
/-- a heap that grew by one new object, or not at all -/
def Src (K : PySem.W.Frag) (mg : Gm) (w : Wd) (J : It) (items : List D) : Prop :=
  ∃ G Y, Walk J items.length G Y ∧ (∀ H w', Ext w w' → (∀ a o, w'.Z a = some o → H a = some o) → G H) ∧
    ∀ i H x H', i < items.length → Y i H x H' → ∃ d, items[i]? = some d ∧ ((H' = H ∧ Rep K mg w x d) ∨ ∃ p vs ds, H p = none ∧ H' = upd H p (.tup vs) ∧ x = .ref p ∧ d = .tup ds ∧ RepL K mg w vs ds)
def rdI (K : PySem.W.Frag) (mg : Gm) (W : Wi) (F : Da) : TI := fun σ H R => ∃ fr w env st, IE K mg fr w env st σ H ∧ posE K mg fr w env σ W (fun w J items => Src K mg w J items) R (F env st)
def QI (X : Cx) (W : Wi) (tg iter : Expr) (F : Da) : Prop := PI X tg iter (rdI X.K (W.g X) W F)
theorem piI {X : Cx} {tg e : Expr} {t t' : TI} (h : PI X tg e t) (i : ∀ σ H Q, t' σ H Q → t σ H Q) : PI X tg e t' := ⟨fun pins s σ H Q I q => h.run pins s σ H Q I (i σ H Q q)⟩
def chD (c : Nat) : D := .str ⟨#[c]⟩
/-- the items of a list, a tuple, a text -/
def itemsOf : D → Store → R (List D)
  | .lst xs, st => .ok xs st
  | .rol xs, st => .ok xs st
  | .tup xs, st => .ok xs st
  | .str z, st => .ok (z.cps.toList.map chD) st
  | _, _ => .bad
def fIt (a : Dn) : Da := fun env st => (a env st).bind itemsOf
def rngL (lo : Int) (n : Nat) : List D := (List.range n).map fun i => .int (lo + (i : Nat))
def rng1Of : List D → Store → R (List D)
  | [.int n], st => if -(2 ^ 62) ≤ n ∧ n < 2 ^ 62 then .ok (rngL 0 n.toNat) st else .bad
  | _, _ => .bad
def rng2Of : List D → Store → R (List D)
  | [.int a, .int b], st => if -(2 ^ 62) ≤ a ∧ a < 2 ^ 62 ∧ -(2 ^ 62) ≤ b ∧ b < 2 ^ 62 then .ok (rngL a (b - a).toNat) st else .bad
  | _, _ => .bad
/-- downwards by ones -/
def rngD (hi : Int) (n : Nat) : List D := (List.range n).map fun i => .int (hi + (i : Nat) * (-1))
def rng3Of : List D → Store → R (List D)
  | [.int a, .int b, .int (-1)], st => if -(2 ^ 62) ≤ a ∧ a < 2 ^ 62 ∧ -(2 ^ 62) ≤ b ∧ b < 2 ^ 62 then .ok (rngD a (a - b).toNat) st else .bad
  | _, _ => .bad
def fRng (f : List D → Store → R (List D)) (a : Da) : Da := fun env st => (a env st).bind f
def pairL (xs ys : List D) : List D := List.zipWith (fun x y => .tup [x, y]) xs ys
section
variable {K : PySem.W.Frag} {mg : Gm} {w : Wd}
theorem src_list {a : Addr} {vs : List V} {ds : List D} (h : SqL K w.Z a vs) (r : RepL K mg w vs ds) : Src K mg w (Itl K a) ds := by
  refine ⟨_, _, by rw [← r.length]; exact walk_list, fun H w' x s => Same.seq (fun b o q => s b o (x.z b o q)) h, fun i H x H' hi y => ?_⟩
  obtain ⟨d, e, q⟩ := r.getV y.2
  exact ⟨d, e, .inl ⟨y.1, q⟩⟩
theorem src_tup {a : Addr} {vs : List V} {ds : List D} (h : SqT K w.Z a vs) (r : RepL K mg w vs ds) : Src K mg w (Itt K a) ds := by
  refine ⟨_, _, by rw [← r.length]; exact walk_tup, fun H w' x s => same_tup (fun b o q => s b o (x.z b o q)) h, fun i H x H' hi y => ?_⟩
  obtain ⟨d, e, q⟩ := r.getV y.2
  exact ⟨d, e, .inl ⟨y.1, q⟩⟩
theorem src_str {z : Str} : Src K mg w (Its z) (z.cps.toList.map chD) := by
  refine ⟨_, _, by rw [List.length_map, Array.length_toList]; exact walk_str, fun H w' x s => trivial, fun i H x H' hi y => ?_⟩
  obtain ⟨h1, c, h2, h3⟩ := y
  exact ⟨chD c, by rw [List.getElem?_map, Array.getElem?_toList, h2]; rfl, .inl ⟨h1, h3 ▸ .str _⟩⟩
theorem src_rng {lo : Int} {n : Nat} : Src K mg w (Itr lo n) (rngL lo n) := by
  refine ⟨_, _, by unfold rngL; rw [List.length_map, List.length_range]; exact walk_range, fun H w' x s => trivial, fun i H x H' hi y => ?_⟩
  unfold rngL at hi
  rw [List.length_map, List.length_range] at hi
  refine ⟨.int (lo + (i : Nat)), ?_, .inl ⟨y.1, y.2 ▸ .int _⟩⟩
  unfold rngL
  rw [List.getElem?_map, List.getElem?_range hi]
  rfl
end
section
variable {X : Cx} {W : Wi} {e tg : Expr} {es : List Expr} {Fe : Dn} {Fs : Da} {pos : Pos}
/-- a list, a tuple, a text -/
theorem qi_any (h : QE X W e Fe) : QI X W tg e (fIt Fe) := by
  refine ⟨fun pins s σ H Q I ⟨fr, w, env, st, J, q⟩ => ?_⟩
  unfold fIt at q
  have key : ∀ d s, Fe env st = .ok d s → ((∃ xs, d = .lst xs) ∨ ∃ xs, d = .rol xs) ∨ (∃ xs, d = .tup xs) ∨ (∃ z, d = .str z) ∨ posE X.K (W.g X) fr w env σ W (fun w J items => Src X.K (W.g X) w J items) Q (.bad) := fun d s e => by
    rw [e, R.bind_ok] at q
    cases d with
    | lst xs => exact .inl (.inl ⟨_, rfl⟩)
    | rol xs => exact .inl (.inr ⟨_, rfl⟩)
    | tup xs => exact .inr (.inl ⟨_, rfl⟩)
    | str z => exact .inr (.inr (.inl ⟨_, rfl⟩))
    | _ => exact .inr (.inr (.inr q))
  cases hF : Fe env st with
  | ok d s1 =>
    rcases key d s1 hF with (⟨xs, rfl⟩ | ⟨xs, rfl⟩) | ⟨xs, rfl⟩ | ⟨z, rfl⟩ | z
    · refine (pi_list h).run pins s σ H Q I ⟨fr, w, env, st, J, ?_⟩
      rw [hF] at q ⊢
      intro v H' w' x I' r
      cases r with
      | lst hs rs => exact ⟨_, rfl, ⟨_, I'.seqL (.inl (.inl hs))⟩, q _ H' w' x I' (src_list (.inl (.inl hs)) rs)⟩
    · refine (pi_list h).run pins s σ H Q I ⟨fr, w, env, st, J, ?_⟩
      rw [hF] at q ⊢
      intro v H' w' x I' r
      cases r with
      | rol hs rs => exact ⟨_, rfl, ⟨_, I'.seqL hs⟩, q _ H' w' x I' (src_list hs rs)⟩
    · refine (pi_tup h).run pins s σ H Q I ⟨fr, w, env, st, J, ?_⟩
      rw [hF] at q ⊢
      intro v H' w' x I' r
      cases r with
      | tup hs rs => exact ⟨_, rfl, ⟨_, I'.seqT hs⟩, q _ H' w' x I' (src_tup hs rs)⟩
    · refine (pi_str h).run pins s σ H Q I ⟨fr, w, env, st, J, ?_⟩
      rw [hF] at q ⊢
      intro v H' w' x I' r
      cases r with
      | str z => exact ⟨_, rfl, q _ H' w' x I' src_str⟩
    · exact z.elim
  | ex C fs s1 =>
    refine (pi_list h).run pins s σ H Q I ⟨fr, w, env, st, J, ?_⟩
    rw [hF] at q ⊢
    exact q
  | bad =>
    rw [hF] at q
    exact q.elim
theorem qi_rng1 {es : List Expr} (h : ∀ {t : TA}, PA X es t → PI X tg e (iRng1 t)) (ha : QA X W es Fs) : QI X W tg e (fRng rng1Of Fs) := piI (h ha) fun σ H Q ⟨fr, w, env, st, J, q⟩ => ⟨fr, w, env, st, J, pos_bind q fun ds s _ vs H1 w1 x1 I1 r1 q1 => by
  unfold rng1Of at q1
  split at q1
  · split at q1
    · rename_i n _ hn
      cases r1 with
      | cons r rs =>
        cases rs
        cases r
        exact ⟨n, rfl, hn.1, hn.2, q1 _ H1 w1 Ext.refl I1 src_rng⟩
    · exact q1.elim
  · exact q1.elim⟩
theorem qi_rng2 {es : List Expr} (h : ∀ {t : TA}, PA X es t → PI X tg e (iRng2 t)) (ha : QA X W es Fs) : QI X W tg e (fRng rng2Of Fs) := piI (h ha) fun σ H Q ⟨fr, w, env, st, J, q⟩ => ⟨fr, w, env, st, J, pos_bind q fun ds s _ vs H1 w1 x1 I1 r1 q1 => by
  unfold rng2Of at q1
  split at q1
  · split at q1
    · rename_i n m _ hn
      cases r1 with
      | cons r rs =>
        cases rs with
        | cons r2 rs =>
          cases rs
          cases r
          cases r2
          exact ⟨n, m, rfl, hn, q1 _ H1 w1 Ext.refl I1 src_rng⟩
    · exact q1.elim
  · exact q1.elim⟩
theorem src_rngD {K : PySem.W.Frag} {mg : Gm} {w : Wd} {lo : Int} {n : Nat} : Src K mg w (Itc lo (-1) n) (rngD lo n) := by
  refine ⟨_, _, by unfold rngD; rw [List.length_map, List.length_range]; exact walk_rangeC, fun H w' x s => trivial, fun i H x H' hi y => ?_⟩
  unfold rngD at hi
  rw [List.length_map, List.length_range] at hi
  obtain ⟨y1, rfl⟩ := y
  refine ⟨_, ?_, .inl ⟨y1, .int _⟩⟩
  unfold rngD
  rw [List.getElem?_map, List.getElem?_range hi]
  rfl
theorem qi_rng3 {es : List Expr} (h : ∀ {t : TA}, PA X es t → PI X tg e (iRng3 t)) (ha : QA X W es Fs) : QI X W tg e (fRng rng3Of Fs) := piI (h ha) fun σ H Q ⟨fr, w, env, st, J, q⟩ => ⟨fr, w, env, st, J, pos_bind q fun ds s _ vs H1 w1 x1 I1 r1 q1 => by
  unfold rng3Of at q1
  split at q1
  · split at q1
    · rename_i n m _ hn
      cases r1 with
      | cons r rs =>
        cases rs with
        | cons r2 rs =>
          cases rs with
          | cons r3 rs =>
            cases rs
            cases r
            cases r2
            cases r3
            exact ⟨n, m, -1, _, rfl, RgC.neg hn.1 hn.2.1 hn.2.2.1 hn.2.2.2, q1 _ H1 w1 Ext.refl I1 src_rngD⟩
    · exact q1.elim
  · exact q1.elim⟩
/-! ### for -/
theorem qs_for {iter : Expr} {body : List Stmt} {t : TG} {g : D → Env' → Option Env'} {is : List Nat} {Fi : Da} {F : Ds} (ht : TgS X.K (W.g X) t g is) (hp : PassesOwn (model X.prog X.w) X.A X.env X.xe) (hc : X.calm = true) (hi : QI X W tg iter Fi) (hg : PG X tg t)
    (hb : QB X W body F) (hs : ∀ x, foldedSetIterable iter X.env x = pure x := by intro _; rfl) : QS X W (.For tg iter body [] pos) (fFor Fi g F) := psI (ps_for hp hc hi hg hb hs) fun D σ H ⟨fr, w, env, st, I, q⟩ => ⟨fr, w, env, st, I, by
  unfold fFor at q
  generalize Fi env st = r at *
  cases r with
  | ok items s =>
    rintro J H1 w1 x1 I1 ⟨G, Y, wk, gs, ys⟩
    refine for_it wk (fun i σ' H' => ∃ w' env' st', Ext w1 w' ∧ IE X.K (W.g X) fr w' env' st' σ' H' ∧ posS X.K (W.g X) fr w' W D (fTurns g F (items.drop i) env' st')) ⟨w1, env, s, Ext.refl, I1, posS_mono x1 q⟩ ?_ ?_ ?_
    · rintro i σ' H' _ ⟨w', e', s', x', I', _⟩
      exact gs H' w' x' I'.g.sub
    · rintro i v σ' H' H2 hi ⟨w', e', s', x', I', q'⟩ y
      obtain ⟨d, ed, h⟩ := ys i H' v H2 hi y
      have dr : items.drop i = d :: items.drop (i + 1) := by
        rw [List.drop_eq_getElem_cons hi]
        rw [List.getElem?_eq_getElem hi] at ed
        rw [Option.some.inj ed]
      rw [dr] at q'
      unfold fTurns at q'
      -- the turn, over the world w2
      have turn : ∀ w2, Ext w' w2 → IE X.K (W.g X) fr w2 e' s' σ' H2 → Rep X.K (W.g X) w2 v d → t v σ' H2 fun σ2 H3 => rdS X.K (W.g X) W F { D with nx := fun σ3 H4 => ∃ w' env' st', Ext w1 w' ∧ IE X.K (W.g X) fr w' env' st' σ3 H4 ∧ posS X.K (W.g X) fr w' W D (fTurns g F (items.drop (i + 1)) env' st'), ct := fun σ3 H4 => ∃ w' env' st', Ext w1 w' ∧ IE X.K (W.g X) fr w' env' st' σ3 H4 ∧ posS X.K (W.g X) fr w' W D (fTurns g F (items.drop (i + 1)) env' st'), bk := D.nx } σ2 H3 := by
        intro w2 x2 I2 r2
        have q2 := posS_mono x2 q'
        clear q'
        revert q2
        cases hg : g d e' with
        | none => exact fun z => z.elim
        | some e1 =>
          intro q2
          refine ht fr w2 e' s' σ' H2 v d e1 _ I2 r2 hg fun σ2 _ I3 => ⟨fr, w2, e1, s', I3, ?_⟩
          revert q2
          dsimp only
          generalize F e1 s' = r
          cases r with
          | nx e s3 => exact fun q σ3 H3 w3 x3 I3 => ⟨w3, e, s3, (x'.trans x2).trans x3, I3, posS_mono x3 q⟩
          | ct e s3 => exact fun q σ3 H3 w3 x3 I3 => ⟨w3, e, s3, (x'.trans x2).trans x3, I3, posS_mono x3 q⟩
          | bk e s3 => exact fun q => q
          | rt d s3 => exact fun q => q
          | ex C fs e s3 => exact fun q => q
          | bad => exact fun q => q
      rcases h with ⟨rfl, r⟩ | ⟨p, vs, ds, hp, rfl, rfl, rfl, r⟩
      · exact turn w' Ext.refl I' (r.ext x')
      · exact turn (w'.add p (.tup vs)) (I'.ext _ hp) (I'.alloc hp) (rep_tupN (I'.z hp) (r.ext x'))
    · rintro σ' H' ⟨w', e', s', x', I', q'⟩
      rw [List.drop_length] at q'
      exact q' σ' H' w' Ext.refl I'
  | ex C fs s => exact fun c dx H' w' x I' f => q c dx σ H' w' x I' f
  | bad => exact q⟩
end
end Dv

/-! DvD: frames in a row, comprehensions, defs and their calls. -/
namespace Dv
open PySem PySem.Spec PyProof.Rows L2 Cv
/-- the frame that begins here -/
abbrev frAt (w : Wd) (st : Store) (H : Hp) : Fr := ⟨H, st.length, w.Z, none⟩
section
variable {K : PySem.W.Frag} {mg : Gm} {fr : Fr} {w w' : Wd} {env : Env'} {st st' : Store} {σ : L2.St} {H H' : Hp}
theorem Good.back (g : Good K mg w st H) (x : Ext w w') {n : Nat} {a : Addr} (hn : n < st.length) (e : w'.m n = some a) : w.m n = some a := by
  obtain ⟨b, ho, e1, _⟩ := g.at_ n _ (List.getElem?_eq_getElem hn)
  rw [x.m n b e1] at e
  cases e
  exact e1
theorem Keep.here (g : Good K mg w st H) : Keep (frAt w st H) w H := ⟨fun _ _ e _ => e, fun n a h e => absurd (g.dom n a e) (Nat.not_lt.mpr h), fun _ _ _ z => z⟩
theorem Keep.trans (k : Keep fr w H) (g : Good K mg w st H) (x : Ext w w') (k' : Keep (frAt w st H) w' H') : Keep fr w' H' := by
  refine ⟨fun a o e nl => ?_, fun n a hn e => ?_, fun a o e z => ?_⟩
  · refine k'.old a o (k.old a o e fun n hn q => nl n hn (x.m _ _ q)) fun n hn q => ?_
    have e1 := g.back x hn q
    by_cases h : n < fr.L
    · exact nl n h q
    · have := k.new n a (Nat.not_lt.mp h) e1
      rw [this] at e
      cases e
  · by_cases h : n < st.length
    · exact k.new n a hn (g.back x h e)
    · have h1 : H a = none := k'.new n a (Nat.not_lt.mp h) e
      cases q : fr.H0 a with
      | none => rfl
      | some o =>
        obtain ⟨u, e2⟩ := k.there g q
        rw [h1] at e2
        cases e2
  · obtain ⟨u, e2⟩ := k.there g e
    exact k'.fz a u e2 (k.fz a o e z)
theorem OwnAt.trans {a : Addr} {so : SO} (k : OwnAt K mg fr w H a so) (g : Good K mg w st H) (x : Ext w w') (k' : Keep (frAt w st H) w' H') : OwnAt K mg fr w' H' a so := by
  obtain ⟨⟨ho, e, r⟩, k2, k3, k4⟩ := k
  have nl : ∀ n, n < st.length → w'.m n ≠ some a := fun n hn q => k3 n (g.back x hn q)
  refine ⟨⟨ho, k'.old a ho e nl, r.ext x⟩, k'.fz a ho e k2, fun n q => ?_, k4⟩
  by_cases h : n < st.length
  · exact nl n h q
  · have h1 : H a = none := k'.new n a (Nat.not_lt.mp h) q
    rw [e] at h1
    cases h1
theorem Slots.trans (s : Slots K mg fr w H σ env) (g : Good K mg w st H) (x : Ext w w') (k' : Keep (frAt w st H) w' H') : Slots K mg fr w' H' σ env :=
  ⟨s.len, fun i d e => by
    obtain ⟨v, e1, r⟩ := s.val i d e
    exact ⟨v, e1, r.ext x⟩, fun i u e => by
    obtain ⟨a, e1, r⟩ := s.own i u e
    exact ⟨a, e1, r.trans g x k'⟩, s.ap, s.sf, fun i C fs e => by
    obtain ⟨a, e1, r⟩ := s.er i C fs e
    exact ⟨a, e1, r.ext x⟩⟩
/-- behind what ran in a frame of its own -/
theorem IE.trans (I : IE K mg fr w env st σ H) (x : Ext w w') (g' : Good K mg w' st' H') (k' : Keep (frAt w st H) w' H') : IE K mg fr w' env st' σ H' := ⟨g', I.k.trans I.g x k', I.s.trans I.g x k'⟩
/-- an object that only we know never changes from now on -/
theorem Good.freeze {p : Addr} {o : HO} (g : Good K mg w st H) (e : H p = some o) (z : w.Z p = none) (m : ∀ n, w.m n ≠ some p) : Good K mg (w.add p o) st H := by
  refine ⟨fun a u q => ?_, g.dom, fun n u q => ?_, g.inj⟩
  · by_cases h : a = p
    · subst h
      rw [show (w.add a o).Z a = some o from upd_same] at q
      rw [e, q]
    · rw [show (w.add p o).Z a = w.Z a from upd_ne h] at q
      exact g.sub a u q
  · obtain ⟨a, ho, e1, e2, e3, e4⟩ := g.at_ n u q
    have h : a ≠ p := fun q => m n (q ▸ e1)
    exact ⟨a, ho, e1, e2, e3.ext (Wd.add_ext z), (upd_ne h).trans e4⟩
theorem IE.freeze {p : Addr} {o : HO} (I : IE K mg fr w env st σ H) (e : H p = some o) (z : w.Z p = none) (m : ∀ n, w.m n ≠ some p) (n0 : fr.H0 p = none) (ns : ∀ (i : Nat) (so : SO), env[i]? = some (Sl.own so) → σ[i]? ≠ some (some (V.ref p))) : IE K mg fr (w.add p o) env st σ H := by
  refine ⟨I.g.freeze e z m, ⟨I.k.old, I.k.new, fun a u q z' => (upd_ne (ne_of_none q n0)).trans (I.k.fz a u q z')⟩, I.s.len, fun i d q => ?_, fun i so q => ?_, I.s.ap, I.s.sf, fun i C fs q => ?_⟩
  · obtain ⟨v, e1, r⟩ := I.s.val i d q
    exact ⟨v, e1, r.ext (Wd.add_ext z)⟩
  · obtain ⟨a, e1, ⟨ho, r1, r2⟩, r3, r4, r5⟩ := I.s.own i so q
    have h : a ≠ p := fun z => ns i so q (by rw [e1, z])
    exact ⟨a, e1, ⟨ho, r1, r2.ext (Wd.add_ext z)⟩, (upd_ne h).trans r3, r4, r5⟩
  · obtain ⟨a, e1, r⟩ := I.s.er i C fs q
    exact ⟨a, e1, r.ext (Wd.add_ext z)⟩
end
/-! ### comprehensions -/
def Sl.blk : Sl → Sl
  | .own _ => .no
  | .err _ _ => .no
  | s => s
/-- the slots within a comprehension's block -/
def wipeE (env : Env') : List Nat → Env'
  | [] => env.map Sl.blk
  | v :: vs => (wipeE env vs).set v .no
def R.quiet {α : Type} : R α → R α
  | .ex _ _ _ => .bad
  | r => r
def fCompT (g : D → Env' → Option Env') (c : Dt) (elt : Dn) (env : Env') : List D → Store → R (List D)
  | [], s => .ok [] s
  | x :: xs, s => match g x env with
    | none => .bad
    | some e1 => (c e1 s).quiet.bind fun b s1 => if b = true then (elt e1 s1).quiet.bind fun y s2 => (fCompT g c elt env xs s2).bind fun ys s3 => .ok (y :: ys) s3 else fCompT g c elt env xs s1
def fComp (it : Da) (g : D → Env' → Option Env') (c : Dt) (elt : Dn) (vs : List Nat) : Dn := fun env st => (it env st).bind fun items s => if items.length < sizeLine then (fCompT g c elt (wipeE env vs) items s).bind fun ys s2 => .ok (.lst ys) s2 else .bad
def fYes : Dt := fun _ st => .ok true st
section
variable {K : PySem.W.Frag} {mg : Gm} {fr fr' : Fr} {w w' : Wd} {env : Env'} {st st' : Store} {σ : L2.St} {H H' : Hp}
theorem wipeE_length : ∀ vs : List Nat, (wipeE env vs).length = env.length
  | [] => by unfold wipeE; rw [List.length_map]
  | v :: vs => by unfold wipeE; rw [List.length_set, wipeE_length vs]
theorem wipeE_get : ∀ {vs : List Nat} {i : Nat} {s : Sl}, (wipeE env vs)[i]? = some s → s = .no ∨ (i ∉ vs ∧ ∃ d, s = .val d ∧ env[i]? = some (.val d))
  | [], i, s, h => by
    unfold wipeE at h
    rw [List.getElem?_map] at h
    cases e : env[i]? with
    | none => rw [e] at h; cases h
    | some u =>
      rw [e] at h
      cases u with
      | no => cases h; exact .inl rfl
      | val d => cases h; exact .inr ⟨List.not_mem_nil, d, rfl, rfl⟩
      | own o => cases h; exact .inl rfl
      | err C fs => cases h; exact .inl rfl
  | v :: vs, i, s, h => by
    unfold wipeE at h
    by_cases hv : v = i
    · subst hv
      by_cases hl : v < (wipeE env vs).length
      · rw [List.getElem?_set_self hl] at h
        exact .inl (Option.some.inj h).symm
      · rw [List.getElem?_eq_none (by rw [List.length_set]; omega)] at h
        cases h
    · rw [List.getElem?_set_ne hv] at h
      rcases wipeE_get h with q | ⟨q1, q2⟩
      · exact .inl q
      · exact .inr ⟨fun m => (List.mem_cons.mp m).elim (fun z => hv z.symm) q1, q2⟩
theorem wipe_get : ∀ {vs : List Nat} {i : Nat}, i ∉ vs → (wipe σ vs)[i]? = σ[i]?
  | [], _, _ => rfl
  | v :: vs, i, h => by
    unfold wipe
    rw [List.getElem?_set_ne (fun z => h (by rw [z]; exact List.mem_cons_self)), wipe_get fun m => h (List.mem_cons_of_mem _ m)]
/-- in the block only values are known -/
theorem Slots.blk (s : Slots K mg fr w H σ env) (x : Ext w w') (vs : List Nat) : Slots K mg fr' w' H' (wipe σ vs) (wipeE env vs) := by
  refine ⟨by rw [wipe_length, wipeE_length]; exact s.len, fun i d e => ?_, fun i o e => ?_, fun i j a o o' e => ?_, fun x o _ e => ?_, fun i C fs e => ?_⟩
  · rcases wipeE_get e with q | ⟨q1, d', q2, q3⟩
    · cases q
    · cases q2
      obtain ⟨v, e1, r⟩ := s.val i d q3
      exact ⟨v, (wipe_get q1).trans e1, r.ext x⟩
  · rcases wipeE_get e with q | ⟨_, _, q, _⟩ <;> cases q
  · rcases wipeE_get e with q | ⟨_, _, q, _⟩ <;> cases q
  · rcases wipeE_get e with q | ⟨_, _, q, _⟩ <;> cases q
  · rcases wipeE_get e with q | ⟨_, _, q, _⟩ <;> cases q
end
def WF (W : Wi) : Wi := ⟨fun _ _ _ _ => False, W.pn⟩
section
variable {K : PySem.W.Frag} {mg : Gm} {fr fr' : Fr} {w w' : Wd} {env env' : Env'} {st st' : Store} {σ σ' : L2.St} {H H' : Hp} {W : Wi}
/-- .. where nothing is raised -/
theorem pos_quiet {α β γ δ : Type} {rep : Wd → β → α → Prop} {rep' : Wd → δ → γ → Prop} {Q : δ → Hp → Prop} {Q' : β → Hp → Prop} {r : R α} {k : α → Store → R γ} (q : posE K mg fr w env σ W rep' Q (r.quiet.bind k))
    (h : ∀ a s, ∀ v H' w', Ext w w' → IE K mg fr' w' env' s σ' H' → rep w' v a → posE K mg fr w' env σ W rep' Q (k a s) → Q' v H') : posE K mg fr' w env' σ' (WF W) rep Q' r := by
  cases r with
  | ok d s => exact fun v H' w2 x I r => h d s v H' w2 x I r (pos_mono x q)
  | ex C fs s => exact q.elim
  | bad => exact q
end
section
variable {X : Cx} {W : Wi}
theorem rd_lc {t : TG} {g : D → Env' → Option Env'} {is : List Nat} {Fi : Da} {T : Dt} {Fe : Dn} {vs : List Nat} (ht : TgS X.K (W.g X) t g is) (hv : ∀ i ∈ is, i ∈ vs) {σ : L2.St} {H : Hp} {Q : VK} (h : rdE X.K (W.g X) W (fComp Fi g T Fe vs) σ H Q) :
    tLc (rdI X.K (W.g X) W Fi) t (rdT X.K (W.g X) (WF W) T) (rdE X.K (W.g X) (WF W) Fe) vs σ H Q := by
  obtain ⟨fr, w, env, st, I, q⟩ := h
  refine ⟨fr, w, env, st, I, pos_bind q fun items s _ J H1 w1 x1 I1 src q1 => ?_⟩
  obtain ⟨G, Y, wk, gs, ys⟩ := src
  split at q1
  rotate_left
  · exact q1.elim
  rename_i hz
  intro D hD
  have dz := I1.g.new (o := .lst []) hD
  have d0 : fr.H0 D = none := by
    cases e : fr.H0 D with
    | none => rfl
    | some o =>
      obtain ⟨u, e2⟩ := I1.k.there I1.g e
      rw [hD] at e2
      cases e2
  refine lc_it wk (fun i H' => ∃ w' s' acc vs', Ext w1 w' ∧ Good X.K (W.g X) w' s' H' ∧ Keep (frAt w1 s H1) w' H' ∧ H' D = some (.lst vs') ∧ RepL X.K (W.g X) w' vs' acc ∧ w'.Z D = none ∧ (∀ n, w'.m n ≠ some D) ∧ acc.length ≤ i ∧
    posE X.K (W.g X) fr w' env σ W (Rep X.K (W.g X)) Q ((fCompT g T Fe (wipeE env vs) (items.drop i) s').bind fun ys s2 => .ok (Dv.D.lst (acc ++ ys)) s2)) ⟨w1, s, [], [], Ext.refl, ?_, ?_, upd_same, .nil, dz.1, dz.2, Nat.le_refl 0, q1⟩ ?_ ?_ ?_
  · refine ⟨fun a o e => by rw [upd_ne (ne_of_none e dz.1)]; exact I1.g.sub a o e, I1.g.dom, fun n o e => ?_, I1.g.inj⟩
    obtain ⟨a, ho, e1, e2, e3⟩ := I1.g.at_ n o e
    exact ⟨a, ho, e1, by rw [upd_ne (fun q : a = D => dz.2 n (q ▸ e1))]; exact e2, e3⟩
  · exact ⟨fun a o e _ => by rw [upd_ne (ne_of_none e hD)]; exact e, fun n a h e => absurd (I1.g.dom n a e) (Nat.not_lt.mpr h), fun _ _ _ z => z⟩
  · rintro i H' _ ⟨w', s', acc, vs', x', g', _⟩
    exact gs H' w' x' g'.sub
  · rintro i v H' H2 hi ⟨w', s', acc, vs', x', g', k', eD, rD, zD, mD, la, q'⟩ y
    obtain ⟨d, ed, h⟩ := ys i H' v H2 hi y
    have dr : items.drop i = d :: items.drop (i + 1) := by
      rw [List.drop_eq_getElem_cons hi]
      rw [List.getElem?_eq_getElem hi] at ed
      rw [Option.some.inj ed]
    rw [dr] at q'
    unfold fCompT at q'
    have turn : ∀ w2, Ext w' w2 → Good X.K (W.g X) w2 s' H2 → Keep (frAt w1 s H1) w2 H2 → H2 D = some (.lst vs') → w2.Z D = none → (∀ n, w2.m n ≠ some D) → Rep X.K (W.g X) w2 v d →
        t v (wipe σ vs) H2 fun σ2 H3 => wipe σ2 vs = wipe σ vs ∧ rdT X.K (W.g X) (WF W) T σ2 H3 fun b H4 => if b = true then rdE X.K (W.g X) (WF W) Fe σ2 H4 fun y H5 => ∃ acc, H5 D = some (.lst acc) ∧ acc.length < sizeLine ∧
          (∃ w' s' ac vs', Ext w1 w' ∧ Good X.K (W.g X) w' s' (upd H5 D (.lst (acc ++ [y]))) ∧ Keep (frAt w1 s H1) w' (upd H5 D (.lst (acc ++ [y]))) ∧ upd H5 D (.lst (acc ++ [y])) D = some (.lst vs') ∧ RepL X.K (W.g X) w' vs' ac ∧ w'.Z D = none ∧ (∀ n, w'.m n ≠ some D) ∧ ac.length ≤ i + 1 ∧
            posE X.K (W.g X) fr w' env σ W (Rep X.K (W.g X)) Q ((fCompT g T Fe (wipeE env vs) (items.drop (i + 1)) s').bind fun ys s2 => .ok (Dv.D.lst (ac ++ ys)) s2)) else
          (∃ w' s' ac vs', Ext w1 w' ∧ Good X.K (W.g X) w' s' H4 ∧ Keep (frAt w1 s H1) w' H4 ∧ H4 D = some (.lst vs') ∧ RepL X.K (W.g X) w' vs' ac ∧ w'.Z D = none ∧ (∀ n, w'.m n ≠ some D) ∧ ac.length ≤ i + 1 ∧
            posE X.K (W.g X) fr w' env σ W (Rep X.K (W.g X)) Q ((fCompT g T Fe (wipeE env vs) (items.drop (i + 1)) s').bind fun ys s2 => .ok (Dv.D.lst (ac ++ ys)) s2)) := by
      intro w2 x2 g2 k2 e2 z2 m2 r2
      have q2 := pos_mono x2 q'
      clear q'
      revert q2
      cases hg : g d (wipeE env vs) with
      | none => exact fun z => z.elim
      | some e1 =>
        intro q2
        have S2 : IE X.K (W.g X) (frAt w2 s' H2) w2 (wipeE env vs) s' (wipe σ vs) H2 := ⟨g2, Keep.here g2, I1.s.blk (x'.trans x2) vs⟩
        refine ht _ w2 _ s' _ H2 v d e1 _ S2 r2 hg fun σ2 hw I3 => ⟨by rw [hw vs hv, wipe_wipe], ?_⟩
        have q3 : posE X.K (W.g X) fr w2 env σ W (Rep X.K (W.g X)) Q ((T e1 s').quiet.bind fun b s1 => (if b = true then (Fe e1 s1).quiet.bind fun y s2 => (fCompT g T Fe (wipeE env vs) (items.drop (i + 1)) s2).bind fun ys s3 => .ok (y :: ys) s3 else fCompT g T Fe (wipeE env vs) (items.drop (i + 1)) s1).bind fun ys s2 => .ok (Dv.D.lst (acc ++ ys)) s2) := by
          revert q2
          dsimp only
          cases T e1 s' <;> exact fun q => q
        have stay : ∀ {w3 : Wd} {s3 : Store} {H3 : Hp}, Ext w2 w3 → IE X.K (W.g X) (frAt w2 s' H2) w3 e1 s3 σ2 H3 → H3 D = some (.lst vs') ∧ w3.Z D = none ∧ (∀ n, w3.m n ≠ some D) ∧ Keep (frAt w1 s H1) w3 H3 := by
          intro w3 s3 H3 x3 I4
          have nl : ∀ n, n < s'.length → w3.m n ≠ some D := fun n hn q => m2 n (g2.back x3 hn q)
          refine ⟨I4.k.old D _ e2 nl, I4.k.fz D _ e2 z2, fun n q => ?_, k2.trans g2 x3 I4.k⟩
          by_cases h : n < s'.length
          · exact nl n h q
          · have h1 : H2 D = none := I4.k.new n D (Nat.not_lt.mp h) q
            rw [e2] at h1
            cases h1
        refine ⟨_, w2, e1, s', I3, pos_quiet q3 fun b s3 b' H3 w3 x3 I4 hb q4 => ?_⟩
        subst hb
        cases b' with
        | false =>
          obtain ⟨f1, f2, f3, f4⟩ := stay x3 I4
          exact ⟨w3, s3, acc, vs', (x'.trans x2).trans x3, I4.g, f4, f1, rD.ext (x2.trans x3), f2, f3, Nat.le_succ_of_le la, q4⟩
        | true =>
          show rdE X.K (W.g X) (WF W) Fe σ2 H3 _
          have q5 : posE X.K (W.g X) fr w3 env σ W (Rep X.K (W.g X)) Q ((Fe e1 s3).quiet.bind fun y s2 => ((fCompT g T Fe (wipeE env vs) (items.drop (i + 1)) s2).bind fun ys s3 => .ok (Dv.D.lst ((acc ++ [y]) ++ ys)) s3)) := by
            revert q4
            rw [if_pos rfl]
            cases Fe e1 s3 with
            | ok y s2 =>
              show posE _ _ _ _ _ _ _ _ _ (((fCompT g T Fe (wipeE env vs) (items.drop (i + 1)) s2).bind fun ys s3 => .ok (y :: ys) s3).bind fun ys s2 => .ok (Dv.D.lst (acc ++ ys)) s2) → posE _ _ _ _ _ _ _ _ _ ((fCompT g T Fe (wipeE env vs) (items.drop (i + 1)) s2).bind fun ys s3 => .ok (Dv.D.lst ((acc ++ [y]) ++ ys)) s3)
              cases fCompT g T Fe (wipeE env vs) (items.drop (i + 1)) s2 with
              | ok ys s3 =>
                intro q
                have e : acc ++ [y] ++ ys = acc ++ y :: ys := by simp
                show posE _ _ _ _ _ _ _ _ _ (.ok (Dv.D.lst (acc ++ [y] ++ ys)) s3)
                rw [e]
                exact q
              | ex _ _ _ => exact fun q => q
              | bad => exact fun q => q
            | ex _ _ _ => exact fun q => q
            | bad => exact fun q => q
          refine ⟨_, w3, e1, s3, I4, pos_quiet q5 fun y s4 yv H4 w4 x4 I5 ry q6 => ?_⟩
          obtain ⟨f1, f2, f3, f4⟩ := stay (x3.trans x4) I5
          refine ⟨vs', f1, ?_, w4, s4, acc ++ [y], vs' ++ [yv], ((x'.trans x2).trans x3).trans x4, ?_, ?_, upd_same, (rD.ext ((x2.trans x3).trans x4)).append (.cons ry .nil), f2, f3, ?_, q6⟩
          · rw [rD.length]
            have : i < items.length := hi
            omega
          · refine ⟨fun a o e => by rw [upd_ne (ne_of_none e f2)]; exact I5.g.sub a o e, I5.g.dom, fun n o e => ?_, I5.g.inj⟩
            obtain ⟨a, ho, e1, e2, e3⟩ := I5.g.at_ n o e
            exact ⟨a, ho, e1, by rw [upd_ne (fun q : a = D => f3 n (q ▸ e1))]; exact e2, e3⟩
          · exact ⟨fun a o e nl => by rw [upd_ne (ne_of_none e hD)]; exact f4.old a o e nl, f4.new, f4.fz⟩
          · rw [List.length_append]
            show acc.length + 1 ≤ i + 1
            omega
    rcases h with ⟨rfl, r⟩ | ⟨p, vs2, ds, hp, rfl, rfl, rfl, r⟩
    · exact turn w' Ext.refl g' k' eD zD mD (r.ext x')
    · have pz := g'.new (o := .tup vs2) hp
      have pD : D ≠ p := ne_of_none eD hp
      refine turn (w'.add p (.tup vs2)) (Wd.add_ext pz.1) (g'.alloc hp) (k'.alloc g' hp) ?_ ((upd_ne pD).trans zD) mD (rep_tupN pz.1 (r.ext x'))
      rw [upd_ne pD]
      exact eD
  · rintro H' ⟨w', s', acc, vs', x', g', k', eD, rD, zD, mD, la, q'⟩
    rw [List.drop_length] at q'
    have q2 : posE X.K (W.g X) fr w' env σ W (Rep X.K (W.g X)) Q (.ok (Dv.D.lst (acc ++ [])) s') := q'
    rw [List.append_nil] at q2
    have I2 := I1.trans x' g' k'
    refine q2 _ H' (w'.add D (.lst vs')) (Wd.add_ext zD) (I2.freeze eD zD mD d0 fun i so e q => ?_) (.lst Wd.add_at (rD.ext (Wd.add_ext zD)))
    obtain ⟨a, e1, ⟨ho, r1, _⟩, _⟩ := I1.s.own i so e
    rw [e1] at q
    cases q
    rw [hD] at r1
    cases r1
/-- [elt for target in iter if ..] -/
theorem qe_lc {t : TG} {g : D → Env' → Option Env'} {is : List Nat} {Fi : Da} {T : Dt} {Fe : Dn} {vs : List Nat} {e : Expr} (ht : TgS X.K (W.g X) t g is) (hv : ∀ i ∈ is, i ∈ vs) (h : PE X e (tLc (rdI X.K (W.g X) W Fi) t (rdT X.K (W.g X) (WF W) T) (rdE X.K (W.g X) (WF W) Fe) vs)) : QE X W e (fComp Fi g T Fe vs) :=
  peI h fun σ H Q h => rd_lc ht hv h
theorem qs_setLc {i : Nat} {t : TG} {g : D → Env' → Option Env'} {is : List Nat} {Fi : Da} {T : Dt} {Fe : Dn} {vs : List Nat} {s : Stmt} (ht : TgS X.K (W.g X) t g is) (hv : ∀ i ∈ is, i ∈ vs) (h : PS X s (tAsg (tLc (rdI X.K (W.g X) W Fi) t (rdT X.K (W.g X) (WF W) T) (rdE X.K (W.g X) (WF W) Fe) vs) (gName i))) :
    QS X W s (fSet i (fComp Fi g T Fe vs)) := psI h fun D σ H ⟨fr, w, env, st, I, q⟩ => rd_lc ht hv ⟨fr, w, env, st, I, by
  unfold fSet at q
  generalize fComp Fi g T Fe vs env st = r at *
  cases r with
  | ok d s => exact fun v H' w' x I' r => q _ H' w' x (I'.set r)
  | ex C fs s => exact fun c dx H' w' x I' f => q c dx σ H' w' x I' f
  | bad => exact q⟩
theorem qts_nil {ifs : TT} : PTs X [] (rdT X.K (W.g X) (WF W) fYes) := ⟨fun pins s σ H Q I h => pts_nil.run pins s σ H Q I (by
  obtain ⟨fr, w, env, st, J, q⟩ := h
  exact q true H w Ext.refl J rfl)⟩
theorem qts_one {c : Expr} {T : Dt} (h : QT X (WF W) c T) : PTs X [c] (rdT X.K (W.g X) (WF W) T) := pts_one h
end
end Dv

/-! DvE: defs whose promise is a function; their calls. -/
namespace Dv
open PySem PySem.Spec PyProof.Rows L2 Cv
section
variable (K : PySem.W.Frag) (mg : Gm)
def posF (w : Wd) (st : Store) (H : Hp) (Q : VK) (E : XK) : R D → Prop
  | .ok d st' => ∀ v H' w', Ext w w' → Good K mg w' st' H' → Keep (frAt w st H) w' H' → Rep K mg w' v d → Q v H'
  | .ex C fs st' => ∀ c dx H' w', Ext w w' → Good K mg w' st' H' → Keep (frAt w st H) w' H' → Flies K mg w' H' C fs c dx → E (.ref c) dx H'
  | .bad => False
end
/-- the promise: what F says of the arguments -/
def spD (K : PySem.W.Frag) (mg : Str → Option Value) (n : Nat) (F : Fn) : Sp := fun vs H Q E => ∃ pn w st ds, Good K ⟨mg, pn⟩ w st H ∧ RepL K ⟨mg, pn⟩ w vs ds ∧ ds.length = n ∧ posF K ⟨mg, pn⟩ w st H Q E (F ds st)
def startE (n : Nat) (ds : List D) : Env' := ds.map Sl.val ++ List.replicate (n - ds.length) Sl.no
/-- a body's function, as a def's -/
def fnB (n : Nat) (F : Ds) : Fn := fun ds st => match F (startE n ds) st with
  | .rt d s => .ok d s
  | .nx _ s => .ok .non s
  | .ex C fs _ s => .ex C fs s
  | _ => .bad
section
variable {K : PySem.W.Frag} {mg : Gm} {fr : Fr} {w w' : Wd} {env : Env'} {st st' : Store} {σ : L2.St} {H H' : Hp}
theorem repL_map {vs : List V} {ds : List D} (r : RepL K mg w vs ds) : ∀ (i : Nat) (d : D), (ds.map Sl.val)[i]? = some (Sl.val d) → ∃ v, (vs.map some)[i]? = some (some v) ∧ Rep K mg w v d := fun i d e => by
  rw [List.getElem?_map] at e
  cases h : ds[i]? with
  | none => rw [h] at e; cases e
  | some u =>
    rw [h] at e
    cases e
    obtain ⟨v, e1, r1⟩ := r.get h
    exact ⟨v, by rw [List.getElem?_map, e1]; rfl, r1⟩
theorem startE_get {n : Nat} {ds : List D} {i : Nat} {s : Sl} (e : (startE n ds)[i]? = some s) : s = .no ∨ ∃ d, s = .val d ∧ (ds.map Sl.val)[i]? = some s := by
  unfold startE at e
  by_cases h : i < (ds.map Sl.val).length
  · rw [List.getElem?_append_left h] at e
    refine .inr ?_
    have e2 := e
    rw [List.getElem?_map] at e2
    cases q : ds[i]? with
    | none => rw [q] at e2; cases e2
    | some d =>
      rw [q] at e2
      cases e2
      exact ⟨d, rfl, e⟩
  · rw [List.getElem?_append_right (by omega)] at e
    rw [List.getElem?_replicate] at e
    split at e
    · exact .inl (Option.some.inj e).symm
    · cases e
theorem start_ie {N : List Str} {vs : List V} {ds : List D} (g : Good K mg w st H) (r : RepL K mg w vs ds) (hl : ds.length ≤ N.length) : IE K mg (frAt w st H) w (startE N.length ds) st (L2.start N vs) H := by
  refine ⟨g, Keep.here g, ?_, fun i d e => ?_, fun i o e => ?_, fun i j a o o' e => ?_, fun x o hx _ => (nomatch hx), fun i C fs e => ?_⟩
  · unfold L2.start startE
    rw [List.length_append, List.length_append, List.length_map, List.length_map, List.length_replicate, List.length_replicate, r.length]
  · rcases startE_get e with q | ⟨d', q, e2⟩
    · cases q
    · cases q
      obtain ⟨v, e3, r3⟩ := repL_map r i d e2
      refine ⟨v, ?_, r3⟩
      unfold L2.start
      have hi : i < (vs.map some).length := by
        by_cases h : i < (vs.map some).length
        · exact h
        · rw [List.getElem?_eq_none (by omega)] at e3; cases e3
      rw [List.getElem?_append_left hi]
      exact e3
  · rcases startE_get e with q | ⟨d', q, _⟩ <;> cases q
  · rcases startE_get e with q | ⟨d', q, _⟩ <;> cases q
  · rcases startE_get e with q | ⟨d', q, _⟩ <;> cases q
theorem posF_S {P : Program} {pn : Option (Addr × Obj)} {n : Nat} {F : Ds} {ds : List D} {Q : VK} {E : XK} (q : posF K mg w st H Q E (fnB n F ds st)) :
    posS K mg (frAt w st H) w ⟨fun cls d _ G => E cls d G, pn⟩ ⟨fun _ G => Q .non G, Q, fun _ _ => False, fun _ _ => False⟩ (F (startE n ds) st) := by
  unfold fnB at q
  generalize F (startE n ds) st = r at *
  cases r with
  | nx e s => exact fun σ' H' w' x I => q .non H' w' x I.g I.k .non
  | rt d s => exact fun v H' w' x g k r => q v H' w' x g k r
  | bk e s => exact q.elim
  | ct e s => exact q.elim
  | ex C fs e s => exact fun c dx σ' H' w' x I f => q c dx H' w' x I.g I.k f
  | bad => exact q
end
section
variable {P : Program} {w : World} {K : PySem.W.Frag} {mg : Str → Option Value} {base : Heap}
/-- the context of a def that may raise -/
abbrev cxD (P : Program) (w : World) (K : PySem.W.Frag) (mg : Str → Option Value) (base : Heap) (N : List Str) (qual : Str) (sc : Scope) (f : Addr) (cdv : Value) (A : Around) (outer : List Env) (s : Shared) (H : Hp) (E : XK) : Cx :=
  cxOf (L2N.CX P w) P w K mg base N qual sc f cdv A outer s H E
theorem len_spD {n : Nat} {F : Fn} {ps : List Str} (hp : ps.length = n) : ∀ vs H Q E, spD K mg n F vs H Q E → vs.length = ps.length := fun vs H Q E ⟨pn, w, st, ds, _, r, l, _⟩ => by rw [r.length, l, hp]
/-- a def, by its body's function -/
theorem okQ {x qual : Str} {st : Stmt} {f : Addr} {fd : FuncData} {N ps : List Str} {k : Nat} {F : Ds} (Fu : Fun K x qual st f fd) (S : FnScope N ps (defScope st)) (hl : ps.length ≤ N.length)
    (hb : ∀ (pn : Option (Addr × Obj)) (cdv : Value) (A : Around) (outer : List Env) (s : Shared) (H : Hp) (E : XK), Room k (A.deeper (envOfC qual (defScope st) s.heap.objs.size f cdv)) →
      L2N.Takes (cxD P w K mg base N qual (defScope st) f cdv A outer s H E) (fun cls d _ G => E cls d G) →
      PassesOwn (model P w) (cxD P w K mg base N qual (defScope st) f cdv A outer s H E).A (cxD P w K mg base N qual (defScope st) f cdv A outer s H E).env (cxD P w K mg base N qual (defScope st) f cdv A outer s H E).xe →
      QB (cxD P w K mg base N qual (defScope st) f cdv A outer s H E) ⟨fun cls d _ G => E cls d G, pn⟩ (defBody st) F) :
    FnOk P w K mg base (L2N.CX P w) (k + 1) f fd ps (spD K mg ps.length (fnB N.length F)) :=
  okN Fu S (len_spD rfl) fun cdv A outer s H vs Q E hr ⟨pn, wd, st0, ds, g, r, l, q⟩ tk hpo =>
    ⟨_, hb pn cdv A outer s H E hr tk hpo, frAt wd st0 H, wd, startE N.length ds, st0, start_ie g r (by omega), posF_S (P := P) q⟩
/-- .. with defaults for its last parameters -/
theorem okQD {x qual : Str} {st : Stmt} {dvs : List V} {f : Addr} {fd : FuncData} {N ps : List Str} {k : Nat} {F : Ds} (Fu : FunD K x qual (defArgs st) (defBody st) (defScope st) dvs [] f fd) (S : FnScope N ps (defScope st)) (hl : ps.length ≤ N.length)
    (hb : ∀ (pn : Option (Addr × Obj)) (cdv : Value) (A : Around) (outer : List Env) (s : Shared) (H : Hp) (E : XK), Room k (A.deeper (envOfC qual (defScope st) s.heap.objs.size f cdv)) →
      L2N.Takes (cxD P w K mg base N qual (defScope st) f cdv A outer s H E) (fun cls d _ G => E cls d G) →
      PassesOwn (model P w) (cxD P w K mg base N qual (defScope st) f cdv A outer s H E).A (cxD P w K mg base N qual (defScope st) f cdv A outer s H E).env (cxD P w K mg base N qual (defScope st) f cdv A outer s H E).xe →
      QB (cxD P w K mg base N qual (defScope st) f cdv A outer s H E) ⟨fun cls d _ G => E cls d G, pn⟩ (defBody st) F) :
    FnOk P w K mg base (L2N.CX P w) (k + 1) f fd ps (spD K mg ps.length (fnB N.length F)) :=
  okND Fu S (len_spD rfl) fun cdv A outer s H vs Q E hr ⟨pn, wd, st0, ds, g, r, l, q⟩ tk hpo =>
    ⟨_, hb pn cdv A outer s H E hr tk hpo, frAt wd st0 H, wd, startE N.length ds, st0, start_ie g r (by omega), posF_S (P := P) q⟩
/-- .. that is only called where no repr runs -/
theorem okG {x qual : Str} {st : Stmt} {f : Addr} {fd : FuncData} {N ps : List Str} {k : Nat} {F : Ds} (Fu : Fun K x qual st f fd) (S : FnScope N ps (defScope st)) (hl : ps.length ≤ N.length)
    (hb : ∀ (pn : Option (Addr × Obj)) (cdv : Value) (A : Around) (outer : List Env) (s : Shared) (H : Hp) (E : XK), Room k (A.deeper (envOfC qual (defScope st) s.heap.objs.size f cdv)) → A.guards = some [] →
      L2N.Takes (cxD P w K mg base N qual (defScope st) f cdv A outer s H E) (fun cls d _ G => E cls d G) →
      PassesOwn (model P w) (cxD P w K mg base N qual (defScope st) f cdv A outer s H E).A (cxD P w K mg base N qual (defScope st) f cdv A outer s H E).env (cxD P w K mg base N qual (defScope st) f cdv A outer s H E).xe →
      QB (cxD P w K mg base N qual (defScope st) f cdv A outer s H E) ⟨fun cls d _ G => E cls d G, pn⟩ (defBody st) F) :
    FnG P w K mg base (L2N.CX P w) (k + 1) f fd ps (spD K mg ps.length (fnB N.length F)) := by
  obtain ⟨oc, od, kV, doc, pm, an, cdv, ct, osl, rfl, lk, hcd⟩ := Fu.ex
  exact fnGof lk hcd S (len_spD rfl) fun A outer s H vs Q E hr gd ⟨pn, wd, st0, ds, g, r, l, q⟩ =>
    ⟨_, hb pn cdv A outer s H E hr gd (L2N.takes_of rfl rfl rfl rfl) PassesOwn.leaving, frAt wd st0 H, wd, startE N.length ds, st0, start_ie g r (by omega), posF_S (P := P) q⟩
end
/-! ### calls -/
/-- what is expected of defaults -/
def fCallD (f : Fn) (dd : List D) (a : Da) : Dn := fun env st => (a env st).bind fun xs s => f (xs ++ dd) s
section
variable {X : Cx} {W : Wi} {e : Expr} {es : List Expr} {Fs : Da}
theorem posE_F {fr : Fr} {w : Wd} {env : Env'} {st : Store} {σ : L2.St} {H : Hp} {Q : VK} {r : R D} (I : IE X.K (W.g X) fr w env st σ H) (q : posE X.K (W.g X) fr w env σ W (Rep X.K (W.g X)) Q r) : posF X.K (W.g X) w st H Q (L2.WE W.w σ) r := by
  cases r with
  | ok d s => exact fun v H' w' x g k r => q v H' w' x (I.trans x g k) r
  | ex C fs s => exact fun c dx H' w' x g k f => q c dx H' w' x (I.trans x g k) f
  | bad => exact q
/-- a call by its rule's conclusion -/
theorem rd_call {n : Nat} {f : Fn} {dvs : List V} {dd : List D} (hd : ∀ w : Wd, RepL X.K (W.g X) w dvs dd) (hn : ∀ env st ds s, Fs env st = .ok ds s → (ds ++ dd).length = n) {σ : L2.St} {H : Hp} {Q : VK} (h : rdE X.K (W.g X) W (fCallD f dd Fs) σ H Q) :
    rdA X.K (W.g X) W Fs σ H fun vs G => spD X.K X.mg n f (vs ++ dvs) G Q (L2.WE W.w σ) := by
  obtain ⟨fr, w, env, st, I, q⟩ := h
  exact ⟨fr, w, env, st, I, pos_bind q fun xs s hx vs H1 w1 x1 I1 r1 q1 => ⟨W.pn, w1, s, xs ++ dd, I1.g, r1.append (hd w1), hn _ _ _ _ hx, posE_F I1 q1⟩⟩
theorem fNil_len {env : Env'} {st : Store} {ds : List D} {s : Store} (h : fNil env st = .ok ds s) : ds.length = 0 := by cases h; rfl
theorem fCons_len {a : Dn} {r : Da} {n : Nat} (hr : ∀ env st ds s, r env st = .ok ds s → ds.length = n) : ∀ env st ds s, fCons a r env st = .ok ds s → ds.length = n + 1 := fun env st ds s h => by
  unfold fCons at h
  cases ha : a env st with
  | ok x s1 =>
    rw [ha] at h
    dsimp only [R.bind] at h
    cases hb : r env s1 with
    | ok xs s2 =>
      rw [hb] at h
      cases h
      rw [List.length_cons, hr _ _ _ _ hb]
    | ex _ _ _ => rw [hb] at h; cases h
    | bad => rw [hb] at h; cases h
  | ex _ _ _ => rw [ha] at h; cases h
  | bad => rw [ha] at h; cases h
/-- QA with the number of arguments -/
structure QN (X : Cx) (W : Wi) (es : List Expr) (F : Da) (n : Nat) : Prop where
  qa : QA X W es F
  len : ∀ env st ds s, F env st = .ok ds s → ds.length = n
theorem qn_nil : QN X W [] fNil 0 := ⟨qa_nil, fun _ _ _ _ h => fNil_len h⟩
theorem qn_cons {Fa : Dn} {n : Nat} (ha : QE X W e Fa) (hr : QN X W es Fs n) (hs : starEach (e :: es) X.env = (false, eval e X.env) :: starEach es X.env := by rfl) : QN X W (e :: es) (fCons Fa Fs) (n + 1) := ⟨qa_cons ha hr.qa hs, fCons_len hr.len⟩
theorem repL_nil {K : PySem.W.Frag} {mg : Gm} : ∀ w : Wd, RepL K mg w [] [] := fun _ => .nil
/-- f(e, ..): the rule gives L2.tCallSD -/
theorem qe_call {n m : Nat} {f : Fn} {dvs : List V} {dd : List D} {c : Expr} (hd : ∀ w : Wd, RepL X.K (W.g X) w dvs dd) (hm : n + dd.length = m) (ha : QN X W es Fs n)
    (h : ∀ {t : TA}, PA X es t → PE X c (L2.tCallSD (spD X.K X.mg m f) dvs (L2.WE W.w) t)) : QE X W c (fCallD f dd Fs) :=
  peI (h ha.qa) fun σ H Q h => rd_call hd (fun env st ds s e => by rw [List.length_append, ha.len _ _ _ _ e, hm]) h
end
section
variable {X : Cx} {CX : CXT} {k : Nat} {f : Addr} {fd : FuncData} {ps : List Str} {sp : Sp} {dvs : List V} {ds : List Value} {E : L2.St → XK} {x : Str} {p pos : Pos} {e : Expr} {es : List Expr} {t : TA}
theorem runGS {pins : List (Addr × Obj)} {σ : L2.St} {H : Hp} {s : Shared} {Q : VK} {us : List Value} {vs : List V} (F : FnG X.prog X.w X.K X.mg X.base CX k f fd ps sp) (room : Room k X.A) (gd : X.A.guards = some []) (bi : Binds X.K fd ps ds) (rd : Vals dvs ds) (pass : PassesAt CX X σ (E σ))
    (I : Inv X pins σ H s) (r : Vals vs us) (want : sp (vs ++ dvs) H Q (E σ)) : wpAny (model X.prog X.w) X.A (call (.ref f) us) (EP X pins σ Q) X.xe s := by
  have rr := r.append rd
  have ll : (us ++ ds).length = ps.length := rr.length.symm.trans (F.len _ _ _ _ want)
  refine wpAny_call (codeAny_mono (F.run X.A X.stack s H _ _ _ Q (E σ) room gd I.env0 (bi s us I.kIn ll) rr want) ?_)
  rintro (er | fl) s' out
  · exact pass pins H s er s' I out
  · cases fl with
    | ret u => exact I.after out
    | next => exact out.elim
    | brk => exact out.elim
    | cont => exact out.elim
theorem pe_callGS (F : FnG X.prog X.w X.K X.mg X.base CX k f fd ps sp) (room : Room k X.A) (gd : X.A.guards = some []) (hg : Gl X x) (hm : X.mg x = some (.ref f)) (hk : PySem.W.keepIn X.K (.ref f) = true) (bi : Binds X.K fd ps ds) (rd : Vals dvs ds) (pass : ∀ σ, PassesAt CX X σ (E σ))
    (ha : PA X (e :: es) t) (h1 : (x == ("__debug__" : Str)) = false := by decide) (h2 : starEach (e :: es) X.env = (false, eval e X.env) :: starEach es X.env := by rfl) (h3 : (backTo pos (starEach es X.env)).any (·.1) = false := by rfl) :
    PE X (.Call (.Name x p) (e :: es) [] pos) (L2.tCallSD sp dvs E t) :=
  ⟨fun pins s σ H Q I h => wpAny_Call_Name_kw (ld_glob I hg hm
    (PySem.W.callWith_K (h₀ := X.base) I.ok.mod.kin hk (thn (ha.run pos pins s σ H _ I h) fun _ _ ⟨_, _, I1, r, q⟩ => ⟨I1.kIn, runGS F room gd bi rd (pass σ) I1 r q⟩) h2 h3) h1)⟩
end
end Dv

/-! DvF: operators and built-ins over data. -/
namespace Dv
open PySem PySem.Spec PyProof.Rows L2 Cv
/-! ### + - * // % ** << >> & -/
def dAdd : D → D → Store → R D
  | .int i, .int j, st => .ok (.int (i + j)) st
  | .str a, .str b, st => if a.length + b.length ≤ sizeLine then .ok (.str (a ++ b)) st else .bad
  | .lst a, .lst b, st => if a.length + b.length ≤ sizeLine then .ok (.lst (a ++ b)) st else .bad
  | .tup a, .tup b, st => if a.length + b.length ≤ sizeLine then .ok (.tup (a ++ b)) st else .bad
  | _, _, _ => .bad
def dSub : D → D → Store → R D
  | .int i, .int j, st => .ok (.int (i - j)) st
  | _, _, _ => .bad
def dMul : D → D → Store → R D
  | .int i, .int j, st => if i.natAbs < 2 ^ 64 ∨ j.natAbs < 2 ^ 64 then .ok (.int (i * j)) st else .bad
  | .lst a, .int j, st => if -(2 ^ 63) ≤ j ∧ j < 2 ^ 63 ∧ a.length * j.toNat ≤ sizeLine then .ok (.lst (List.replicate j.toNat a).flatten) st else .bad
  | _, _, _ => .bad
def dFdiv : D → D → Store → R D
  | .int i, .int j, st => if 0 < j ∧ j.natAbs.log2 < 9000 then .ok (.int (i / j)) st else .bad
  | _, _, _ => .bad
def dMod : D → D → Store → R D
  | .int i, .int j, st => if 0 < j then .ok (.int (i % j)) st else .bad
  | _, _, _ => .bad
def dPow : D → D → Store → R D
  | .int i, .int j, st => if 0 ≤ j ∧ j ≤ 1000000 ∧ i.natAbs < 2 ^ 64 then .ok (.int (i ^ j.toNat)) st else .bad
  | _, _, _ => .bad
def dShl : D → D → Store → R D
  | .int i, .int j, st => if 0 ≤ j ∧ j ≤ 1000000 ∧ i.natAbs < 2 ^ 64 then .ok (.int (i * 2 ^ j.toNat)) st else .bad
  | _, _, _ => .bad
def dShr : D → D → Store → R D
  | .int i, .int j, st => if 0 ≤ j then .ok (.int (i / 2 ^ j.toNat)) st else .bad
  | _, _, _ => .bad
def dBand : D → D → Store → R D
  | .int i, .int j, st => .ok (.int (Builtin.bitAnd i j)) st
  | _, _, _ => .bad
def dNeg : D → Store → R D
  | .int i, st => .ok (.int (-i)) st
  | _, _ => .bad
section
variable {K : PySem.W.Frag} {mg : Gm} {w : Wd} {H : Hp}
theorem RepL.nil_iff {vs : List V} {ds : List D} (r : RepL K mg w vs ds) : vs = [] ↔ ds = [] := by
  cases r with
  | nil => simp
  | cons _ _ => simp
theorem RepL.rep {vs : List V} {ds : List D} (r : RepL K mg w vs ds) : ∀ n : Nat, RepL K mg w (List.replicate n vs).flatten (List.replicate n ds).flatten
  | 0 => .nil
  | n + 1 => by
    rw [List.replicate_succ, List.replicate_succ, List.flatten_cons, List.flatten_cons]
    exact r.append (r.rep n)
def rPlus (K : PySem.W.Frag) : R2 := fun x y H Q => ((Cv.rAdd x y H Q ∨ rCatA K x y H Q) ∨ rCat x y H Q)
theorem op_plus {X : Cx} : OpR X (binaryOp .Add) (rPlus X.K) := fun pins s σ H x y v u Q I rx ry q => q.elim (fun q => q.elim (op_addU pins s σ H x y v u Q I rx ry) (op_catA pins s σ H x y v u Q I rx ry)) (op_cat pins s σ H x y v u Q I rx ry)
theorem s_add : OpS K mg (rPlus K) dAdd := fun fr w env st σ H W v u x y Q I rx ry q => by
  unfold dAdd at q
  split at q
  · cases rx; cases ry
    exact .inl (.inl (pos_here q I (.int _)))
  · split at q
    · rename_i hl
      cases rx; cases ry
      exact .inl (.inl ⟨hl, pos_here q I (.str _)⟩)
    · exact q.elim
  · split at q
    · rename_i hl
      cases rx with
      | lst h1 r1 =>
        cases ry with
        | lst h2 r2 => exact .inr ⟨_, _, _, _, rfl, rfl, I.g.sub _ _ h1, I.g.sub _ _ h2, by rw [r1.length, r2.length]; exact hl, fun p hp => pos_new q I hp (rep_lstN (I.z hp) (r1.append r2))⟩
    · exact q.elim
  · split at q
    · rename_i hl
      cases rx with
      | tup h1 r1 =>
        cases ry with
        | tup h2 r2 =>
          refine .inl (.inr ⟨_, _, _, _, rfl, rfl, I.seqT h1, I.seqT h2, by rw [r1.length, r2.length]; exact hl, fun z => ?_, fun _ z => ?_, fun _ _ p hp => pos_new q I hp (rep_tupN (I.z hp) (r1.append r2))⟩)
          · have z2 := r1.nil_iff.mp z
            subst z2
            rw [List.nil_append] at q
            exact pos_here q I (.tup h2 r2)
          · have z2 := r2.nil_iff.mp z
            subst z2
            rw [List.append_nil] at q
            exact pos_here q I (.tup h1 r1)
    · exact q.elim
  · exact q.elim
theorem s_sub : OpS K mg (rI0 fun i j => .int (i - j)) dSub := fun fr w env st σ H W v u x y Q I rx ry q => by
  unfold dSub at q
  split at q
  · cases rx; cases ry
    exact ⟨_, _, rfl, rfl, pos_here q I (.int _)⟩
  · exact q.elim
theorem natAbs_lt64 {i : Int} (h : i.natAbs < 2 ^ 64) : -(2 ^ 64) < i ∧ i < 2 ^ 64 := by omega
def rTimes : R2 := fun x y H Q => rI CMul (fun i j => .int (i * j)) x y H Q ∨ rRep x y H Q
theorem op_times {X : Cx} : OpR X (binaryOp .Mult) rTimes := fun pins s σ H x y v u Q I rx ry q => q.elim (op_mul pins s σ H x y v u Q I rx ry) (op_rep pins s σ H x y v u Q I rx ry)
theorem s_mul : OpS K mg rTimes dMul := fun fr w env st σ H W v u x y Q I rx ry q => by
  unfold dMul at q
  split at q
  · split at q
    · rename_i hl
      cases rx; cases ry
      exact .inl ⟨_, _, rfl, rfl, hl.imp natAbs_lt64 natAbs_lt64, pos_here q I (.int _)⟩
    · exact q.elim
  · split at q
    · rename_i hl
      cases rx with
      | lst h1 r1 =>
        cases ry
        exact .inr ⟨_, _, _, rfl, rfl, I.g.sub _ _ h1, hl.1, hl.2.1, by rw [r1.length]; exact hl.2.2, fun p hp => pos_new q I hp (rep_lstN (I.z hp) (r1.rep _))⟩
    · exact q.elim
  · exact q.elim
theorem s_mod : OpS K mg (rI (fun _ j => 0 < j) fun i j => .int (i % j)) dMod := fun fr w env st σ H W v u x y Q I rx ry q => by
  unfold dMod at q
  split at q
  · split at q
    · rename_i hl
      cases rx; cases ry
      exact ⟨_, _, rfl, rfl, hl, pos_here q I (.int _)⟩
    · exact q.elim
  · exact q.elim
theorem s_pow : OpS K mg (rI CPow fun i j => .int (i ^ j.toNat)) dPow := fun fr w env st σ H W v u x y Q I rx ry q => by
  unfold dPow at q
  split at q
  · split at q
    · rename_i hl
      cases rx; cases ry
      exact ⟨_, _, rfl, rfl, hl, pos_here q I (.int _)⟩
    · exact q.elim
  · exact q.elim
theorem s_shl : OpS K mg (rI CPow fun i j => .int (i * 2 ^ j.toNat)) dShl := fun fr w env st σ H W v u x y Q I rx ry q => by
  unfold dShl at q
  split at q
  · split at q
    · rename_i hl
      cases rx; cases ry
      exact ⟨_, _, rfl, rfl, hl, pos_here q I (.int _)⟩
    · exact q.elim
  · exact q.elim
theorem s_shr : OpS K mg (rI (fun _ j => 0 ≤ j) fun i j => .int (i / 2 ^ j.toNat)) dShr := fun fr w env st σ H W v u x y Q I rx ry q => by
  unfold dShr at q
  split at q
  · split at q
    · rename_i hl
      cases rx; cases ry
      exact ⟨_, _, rfl, rfl, hl, pos_here q I (.int _)⟩
    · exact q.elim
  · exact q.elim
theorem s_band : OpS K mg (rI0 fun i j => .int (Builtin.bitAnd i j)) dBand := fun fr w env st σ H W v u x y Q I rx ry q => by
  unfold dBand at q
  split at q
  · cases rx; cases ry
    exact ⟨_, _, rfl, rfl, pos_here q I (.int _)⟩
  · exact q.elim
theorem s_neg : UnS K mg (rU fun i => .int (-i)) dNeg := fun fr w env st σ H W v x Q I rx q => by
  unfold dNeg at q
  split at q
  · cases rx
    exact ⟨_, rfl, pos_here q I (.int _)⟩
  · exact q.elim
/-! ### < <= > >= of ints -/
def dCmp (p : Int → Int → Bool) : D → D → Store → R D
  | .int i, .int j, st => .ok (.bl (p i j)) st
  | _, _, _ => .bad
theorem s_cmp {p : Int → Int → Bool} : OpS K mg (rI0 fun i j => .bl (p i j)) (dCmp p) := fun fr w env st σ H W v u x y Q I rx ry q => by
  unfold dCmp at q
  split at q
  · cases rx; cases ry
    exact ⟨_, _, rfl, rfl, pos_here q I (.bl _)⟩
  · exact q.elim
/-! ### is None -/
def isNon : D → Bool
  | .non => true
  | _ => false
theorem non_iff {v : V} {d : D} (r : Rep K mg w v d) : decide (v = V.non) = isNon d := by
  cases r <;> rfl
def dIsN (k : Bool) : D → D → Store → R D
  | x, .non, st => .ok (.bl (isNon x != k)) st
  | _, _, _ => .bad
theorem s_isN : OpS K mg (fun x y H Q => y = .non ∧ Q (.bl (decide (x = .non))) H) (dIsN false) := fun fr w env st σ H W v u x y Q I rx ry q => by
  unfold dIsN at q
  split at q
  · cases ry
    refine ⟨rfl, ?_⟩
    rw [non_iff rx]
    rw [Bool.bne_false] at q
    exact pos_here q I (.bl _)
  · exact q.elim
theorem s_notN : OpS K mg (fun x y H Q => y = .non ∧ Q (.bl (!decide (x = .non))) H) (dIsN true) := fun fr w env st σ H W v u x y Q I rx ry q => by
  unfold dIsN at q
  split at q
  · cases ry
    refine ⟨rfl, ?_⟩
    rw [non_iff rx]
    rw [Bool.bne_true] at q
    exact pos_here q I (.bl _)
  · exact q.elim
/-! ### == of data -/
mutual
/-- data without objects -/
def toPy : D → Option PyData
  | .non => some .none
  | .bl b => some (.bool b)
  | .int i => some (.int i)
  | .str s => some (.str s)
  | .lst xs => (toPys xs).map .list
  | .tup xs => (toPys xs).map .tuple
  | _ => none
def toPys : List D → Option (List PyData)
  | [] => some []
  | x :: xs => match toPy x, toPys xs with
    | some p, some ps => some (p :: ps)
    | _, _ => none
end
mutual
theorem rep_dp (s : ∀ a o, w.Z a = some o → H a = some o) : ∀ {v : V} {d : D} {p : PyData}, Rep K mg w v d → toPy d = some p → Dp K H v p
  | _, _, _, .non, e => by simp only [toPy] at e; cases e; exact .non
  | _, _, _, .bl _, e => by simp only [toPy] at e; cases e; exact .bl _
  | _, _, _, .int _, e => by simp only [toPy] at e; cases e; exact .int _
  | _, _, _, .str _, e => by simp only [toPy] at e; cases e; exact .str _
  | _, _, _, .ty _, e => by simp [toPy] at e
  | _, _, _, .lst h r, e => by
    simp only [toPy] at e
    obtain ⟨ps, e1, rfl⟩ := Option.map_eq_some_iff.mp e
    exact .lst (.inl (.inl (s _ _ h))) (reps_dp s r e1)
  | _, _, _, .rol _ _, e => by simp [toPy] at e
  | _, _, _, .tup h r, e => by
    simp only [toPy] at e
    obtain ⟨ps, e1, rfl⟩ := Option.map_eq_some_iff.mp e
    exact .tup (same_tup s h) (reps_dp s r e1)
  | _, _, _, .dct _ _, e => by simp [toPy] at e
  | _, _, _, .ins _ _ _, e => by simp [toPy] at e
  | _, _, _, .ref _, e => by simp [toPy] at e
theorem reps_dp (s : ∀ a o, w.Z a = some o → H a = some o) : ∀ {v : List V} {d : List D} {p : List PyData}, RepL K mg w v d → toPys d = some p → DpAll K H v p
  | _, _, _, .nil, e => by simp only [toPys] at e; cases e; exact .nil
  | _, _, _, .cons h r, e => by
    simp only [toPys] at e
    split at e
    · rename_i e1 e2
      cases e
      exact .cons (rep_dp s h e1) (reps_dp s r e2)
    · cases e
end
mutual
theorem plain_toPy : ∀ {d : D} {p : PyData}, toPy d = some p → p.plain = true
  | .non, _, e => by simp only [toPy] at e; cases e; rfl
  | .bl _, _, e => by simp only [toPy] at e; cases e; rfl
  | .int _, _, e => by simp only [toPy] at e; cases e; rfl
  | .str _, _, e => by simp only [toPy] at e; cases e; rfl
  | .lst xs, _, e => by
    simp only [toPy] at e
    obtain ⟨ps, e1, rfl⟩ := Option.map_eq_some_iff.mp e
    simp only [PyData.plain, plain_toPys e1]
  | .tup xs, _, e => by
    simp only [toPy] at e
    obtain ⟨ps, e1, rfl⟩ := Option.map_eq_some_iff.mp e
    simp only [PyData.plain, plain_toPys e1]
  | .rol _, _, e => by simp [toPy] at e
  | .dct _, _, e => by simp [toPy] at e
  | .ins _ _, _, e => by simp [toPy] at e
  | .ref _, _, e => by simp [toPy] at e
  | .ty _, _, e => by simp [toPy] at e
theorem plain_toPys : ∀ {d : List D} {p : List PyData}, toPys d = some p → PyData.plainAll p = true
  | [], _, e => by simp only [toPys] at e; cases e; rfl
  | x :: xs, _, e => by
    simp only [toPys] at e
    split at e
    · rename_i e1 e2
      cases e
      simp only [PyData.plainAll, plain_toPy e1, plain_toPys e2, Bool.and_self]
    · cases e
end
/-- a list of the store: its items -/
def derL (st : Store) (d : D) : D := match d with
  | .ref n => (match st[n]? with
    | some (.lst xs) => .lst xs
    | _ => .ref n)
  | d => d
theorem rep_dpS {fr : Fr} {env : Env'} {st : Store} {σ : L2.St} (I : IE K mg fr w env st σ H) {v : V} {d : D} {p : PyData} (r : Rep K mg w v d) (h : toPy (derL st d) = some p) : Dp K H v p := by
  cases r with
  | ref hm =>
    unfold derL at h
    dsimp only at h
    split at h
    · rename_i hs
      obtain ⟨b, ho, e1, e2, e3, _⟩ := I.g.at_ _ _ hs
      rw [hm] at e1
      cases e1
      cases e3 with
      | lst r =>
        simp only [toPy] at h
        obtain ⟨ps, e1, rfl⟩ := Option.map_eq_some_iff.mp h
        exact .lst (.inl (.inl e2)) (reps_dp I.g.sub r e1)
    · simp only [toPy] at h
      cases h
  | non => exact rep_dp (mg := mg) I.g.sub .non h
  | bl b => exact rep_dp (mg := mg) I.g.sub (.bl b) h
  | int b => exact rep_dp (mg := mg) I.g.sub (.int b) h
  | str b => exact rep_dp (mg := mg) I.g.sub (.str b) h
  | ty b => exact rep_dp (mg := mg) I.g.sub (.ty b) h
  | lst a b => exact rep_dp I.g.sub (.lst a b) h
  | rol a b => exact rep_dp I.g.sub (.rol a b) h
  | tup a b => exact rep_dp I.g.sub (.tup a b) h
  | dct a b => exact rep_dp I.g.sub (.dct a b) h
  | ins a b c => exact rep_dp I.g.sub (.ins a b c) h
def eqO (st : Store) (x y : D) : Option Bool := match toPy (derL st x), toPy (derL st y) with
  | some p, some q => if min p.depth q.depth ≤ 60 then some (PyData.eqv p q) else none
  | _, _ => none
def dEq (k : Bool) (x y : D) (st : Store) : R D := match eqO st x y with
  | some b => .ok (.bl (b != k)) st
  | none => .bad
def rEqP (K : PySem.W.Frag) (k : Bool) : R2 := fun x y H Q => ∃ p q, Dp K H x p ∧ Dp K H y q ∧ p.plain = true ∧ q.plain = true ∧ min p.depth q.depth ≤ 60 ∧ Q (.bl (PyData.eqv p q != k)) H
theorem op_eqP {X : Cx} (hu : X.A.units + 64 < cLine) : OpR X (compareOp .Eq) (rEqP X.K false) := fun pins s σ H x y v u Q I rx ry ⟨p, q, hp, hq, pp, pq, hd, z⟩ => by
  obtain ⟨as, r1⟩ := Dp.reads I p x v hp rx
  obtain ⟨bs, r2⟩ := Dp.reads I q y u hq ry
  refine SeqAt.eq_plain r1 r2 pp pq (by omega) ⟨.bl _, H, I, rfl, ?_⟩
  rw [Bool.bne_false] at z
  exact z
theorem op_neP {X : Cx} (hu : X.A.units + 64 < cLine) : OpR X (compareOp .NotEq) (rEqP X.K true) := fun pins s σ H x y v u Q I rx ry ⟨p, q, hp, hq, pp, pq, hd, z⟩ => by
  obtain ⟨as, r1⟩ := Dp.reads I p x v hp rx
  obtain ⟨bs, r2⟩ := Dp.reads I q y u hq ry
  refine SeqAt.ne_plain r1 r2 pp pq (by omega) ⟨.bl _, H, I, rfl, ?_⟩
  rw [Bool.bne_true] at z
  exact z
theorem s_eqP {k : Bool} : OpS K mg (rEqP K k) (dEq k) := fun fr w env st σ H W v u x y Q I rx ry q => by
  unfold dEq at q
  split at q
  · rename_i b hb
    unfold eqO at hb
    split at hb
    · rename_i p r h1 h2
      split at hb
      · rename_i hs
        cases hb
        exact ⟨p, r, rep_dpS I rx h1, rep_dpS I ry h2, plain_toPy h1, plain_toPy h2, hs, pos_here q I (.bl _)⟩
      · cases hb
    · cases hb
  · exact q.elim
/-! ### in -/
/-- one sign in a text -/
def signOf (s : Str) : Option Nat := match s.cps.toList with
  | [c] => some c
  | _ => none
def inO (st : Store) (x y : D) : Option Bool := match derL st y with
  | .str z => (match x with
    | .str s => (match signOf s with | some c => some (decide (c ∈ z.cps.toList)) | none => none)
    | _ => none)
  | .lst ys => (match toPy x, toPys ys with
    | some p, some ps => if p.depth ≤ 60 then some (ps.any fun z => PyData.eqv z p) else none
    | _, _ => none)
  | .tup ys => (match toPy x, toPys ys with
    | some p, some ps => if p.depth ≤ 60 then some (ps.any fun z => PyData.eqv z p) else none
    | _, _ => none)
  | _ => none
def dIn (k : Bool) (x y : D) (st : Store) : R D := match inO st x y with
  | some b => .ok (.bl (b != k)) st
  | none => .bad
def rInP (K : PySem.W.Frag) (k : Bool) : R2 := fun x y H Q => (∃ (c : Nat) (z : Str), x = .str ⟨#[c]⟩ ∧ y = .str z ∧ Q (.bl (decide (c ∈ z.cps.toList) != k)) H) ∨
  (∃ p ps, Dp K H x p ∧ (Dp K H y (.list ps) ∨ Dp K H y (.tuple ps)) ∧ p.plain = true ∧ PyData.plainAll ps = true ∧ p.depth ≤ 60 ∧ Q (.bl ((ps.any fun z => PyData.eqv z p) != k)) H)
theorem op_inP {X : Cx} (hu : X.A.units + 64 < cLine) : OpR X (compareOp .In) (rInP X.K false) := fun pins s σ H x y v u Q I rx ry h => by
  rcases h with ⟨c, z, e1, e2, q⟩ | ⟨p, ps, hp, hq, pp, pq, hd, z⟩
  · rw [Bool.bne_false] at q
    exact op_in_sign pins s σ H x y v u Q I rx ry ⟨c, z, e1, e2, q⟩
  · obtain ⟨as, r1⟩ := Dp.reads I p x v hp rx
    rw [Bool.bne_false] at z
    rcases hq with hq | hq
    · obtain ⟨bs, r2⟩ := Dp.reads I _ y u hq ry
      exact SeqAt.in_list_data r2 r1 pq pp (by omega) ⟨.bl _, H, I, rfl, z⟩
    · obtain ⟨bs, r2⟩ := Dp.reads I _ y u hq ry
      exact SeqAt.in_tuple_data r2 r1 pq pp (by omega) ⟨.bl _, H, I, rfl, z⟩
theorem op_notInP {X : Cx} (hu : X.A.units + 64 < cLine) : OpR X (compareOp .NotIn) (rInP X.K true) := fun pins s σ H x y v u Q I rx ry h => by
  rcases h with ⟨c, z, e1, e2, q⟩ | ⟨p, ps, hp, hq, pp, pq, hd, z⟩
  · rw [Bool.bne_true] at q
    subst e1 e2
    exact op_notIn_sign pins s σ H _ _ v u Q I rx ry ⟨c, z, rfl, rfl, q⟩
  · obtain ⟨as, r1⟩ := Dp.reads I p x v hp rx
    rw [Bool.bne_true] at z
    rcases hq with hq | hq
    · obtain ⟨bs, r2⟩ := Dp.reads I _ y u hq ry
      exact SeqAt.notIn_list_data r2 r1 pq pp (by omega) ⟨.bl _, H, I, rfl, z⟩
    · obtain ⟨bs, r2⟩ := Dp.reads I _ y u hq ry
      exact SeqAt.notIn_tuple_data r2 r1 pq pp (by omega) ⟨.bl _, H, I, rfl, z⟩
theorem sign_str {s : Str} {c : Nat} (h : signOf s = some c) : s = ⟨#[c]⟩ := by
  unfold signOf at h
  split at h
  · rename_i c' e
    cases h
    obtain ⟨a⟩ := s
    exact congrArg Str.mk (Array.ext' (by rw [e]))
  · cases h
theorem s_inP {k : Bool} : OpS K mg (rInP K k) (dIn k) := fun fr w env st σ H W v u x y Q I rx ry q => by
  unfold dIn at q
  split at q
  · rename_i b hb
    unfold inO at hb
    split at hb
    · rename_i z hz
      split at hb
      · split at hb
        · rename_i c hc
          cases hb
          cases rx
          have hy : y = .str z := by
            cases y <;> first | exact hz | (unfold derL at hz; dsimp only at hz; split at hz <;> cases hz)
          subst hy
          cases ry
          exact .inl ⟨c, _, by rw [sign_str hc], rfl, pos_here q I (.bl _)⟩
        · cases hb
      · cases hb
    · split at hb
      · rename_i ys hy _ _ p ps h1 h2
        split at hb
        · rename_i hs
          cases hb
          have ry2 : toPy (derL st y) = some (.list ps) := by rw [hy]; simp only [toPy, h2, Option.map_some]
          exact .inr ⟨p, ps, rep_dp I.g.sub rx h1, .inl (rep_dpS I ry ry2), plain_toPy h1, plain_toPys h2, hs, pos_here q I (.bl _)⟩
        · cases hb
      · cases hb
    · split at hb
      · rename_i ys hy _ _ p ps h1 h2
        split at hb
        · rename_i hs
          cases hb
          have ry2 : toPy (derL st y) = some (.tuple ps) := by rw [hy]; simp only [toPy, h2, Option.map_some]
          exact .inr ⟨p, ps, rep_dp I.g.sub rx h1, .inr (rep_dpS I ry ry2), plain_toPy h1, plain_toPys h2, hs, pos_here q I (.bl _)⟩
        · cases hb
      · cases hb
    · cases hb
  · exact q.elim
end
end Dv

/-! DvG: subscripts, slices, isinstance, built-ins, methods of texts. -/
namespace Dv
open PySem PySem.Spec PyProof.Rows L2 Cv
/-! ### kinds -/
def tyD : D → Option String
  | .non => some "NoneType"
  | .bl _ => some "bool"
  | .int _ => some "int"
  | .str _ => some "str"
  | .lst _ => some "list"
  | .rol _ => some "list"
  | .tup _ => some "tuple"
  | .dct _ => some "dict"
  | _ => none
/-- .. of the store's objects, too -/
def tyS (st : Store) (d : D) : Option String := match d with
  | .ref n => (match st[n]? with
    | some (.lst _) => some "list"
    | some (.dct _) => some "dict"
    | _ => none)
  | d => tyD d
def kitD (T n : String) : Bool := T == n || (T == "bool" && n == "int")
def knownT : List String := ["int", "bool", "str", "list", "tuple", "dict"]
def namesT : List String := ["NoneType", "bool", "int", "str", "list", "tuple", "dict"]
theorem kit_all : (namesT.all fun T => knownT.all fun n => decide (kitB T n = some (kitD T n))) = true := by decide +kernel
theorem kitB_of {T n : String} (h1 : T ∈ namesT) (h2 : n ∈ knownT) : kitB T n = some (kitD T n) := of_decide_eq_true (List.all_eq_true.mp (List.all_eq_true.mp kit_all T h1) n h2)
theorem tyD_mem {d : D} {T : String} (h : tyD d = some T) : T ∈ namesT := by
  cases d <;> first | (cases h; decide) | cases h
theorem tyS_mem {st : Store} {d : D} {T : String} (h : tyS st d = some T) : T ∈ namesT := by
  unfold tyS at h
  split at h
  · split at h <;> first | (cases h; decide) | cases h
  · exact tyD_mem h
section
variable {K : PySem.W.Frag} {mg : Gm} {fr : Fr} {w : Wd} {env : Env'} {st : Store} {σ : L2.St} {H : Hp}
theorem tyx_seqL {a : Addr} {xs : List V} (h : SqL K H a xs) : TyX K H (.ref a) (.type "list") := by
  rcases h with (h | ⟨o, h⟩) | ⟨o, its, n, h, hc, _⟩
  · exact .base (.lst h)
  · exact .base (.frz h)
  · exact .kList h hc
theorem tyx_seqT {a : Addr} {xs : List V} (h : SqT K H a xs) : TyX K H (.ref a) (.type "tuple") := by
  rcases h with (h | ⟨o, h⟩) | ⟨o, its, n, h, hc, _⟩
  · exact .base (.tup h)
  · exact .fTuple h
  · exact .kTuple h hc
theorem rep_ty (I : IE K mg fr w env st σ H) {v : V} {d : D} {T : String} (r : Rep K mg w v d) (h : tyS st d = some T) : TyX K H v (.type T) := by
  cases r with
  | non => cases h; exact .base .non
  | bl b => cases h; exact .base (.bl b)
  | int b => cases h; exact .base (.int b)
  | str b => cases h; exact .base (.str b)
  | lst hz _ => cases h; exact tyx_seqL (.inl (.inl (I.g.sub _ _ hz)))
  | rol hz _ => cases h; exact tyx_seqL (I.seqL hz)
  | tup hz _ => cases h; exact tyx_seqT (I.seqT hz)
  | dct hz _ => cases h; exact .base (.dK (I.g.sub _ _ hz))
  | ref hm =>
    unfold tyS at h
    dsimp only at h
    split at h
    · rename_i hs
      cases h
      obtain ⟨b, ho, e1, e2, e3, _⟩ := I.g.at_ _ _ hs
      rw [hm] at e1
      cases e1
      cases e3 with
      | lst _ => exact tyx_seqL (.inl (.inl e2))
    · rename_i hs
      cases h
      obtain ⟨b, ho, e1, e2, e3, _⟩ := I.g.at_ _ _ hs
      rw [hm] at e1
      cases e1
      cases e3 with
      | dct _ => exact .base (.dK e2)
    · cases h
  | _ => cases h
end
/-- isinstance(x, T), isinstance(x, (T, ..)) -/
def dIs (ns : List String) : D → Store → R D := fun d st => match tyS st d with
  | some T => .ok (.bl (ns.any (kitD T))) st
  | none => .bad
def rIsiA (K : PySem.W.Frag) : List V → Hp → VK → Prop := fun xs H Q => rIsi K xs H Q ∨ rIsiT K xs H Q
theorem call_isiA {X : Cx} : CallR X (.builtin "isinstance") (rIsiA X.K) := fun pins s σ H xs us Q I r h => h.elim (call_isi pins s σ H xs us Q I r) (call_isiT pins s σ H xs us Q I r)
def tTys : List String → TA
  | [] => tNil
  | n :: ns => tCons (tC (.ty n)) (tTys ns)
theorem tTys_eq : ∀ (ns : List String) (σ : L2.St) (H : Hp) (Q : List V → Hp → Prop), Q (ns.map V.ty) H → tTys ns σ H Q
  | [], _, _, _, q => q
  | n :: ns, σ, H, Q, q => tTys_eq ns σ H _ q
section
variable {K : PySem.W.Frag}
theorem kitAny_all {T : String} (hT : T ∈ namesT) : ∀ {ns : List String}, (∀ n ∈ ns, n ∈ knownT) → PySem.W.kitAny K (.type T) (ns.map Value.type) = some (ns.any (kitD T))
  | [], _ => by unfold PySem.W.kitAny; rfl
  | n :: ns, h => by
    have e := kit_ty (K := K) (kitB_of hT (h n List.mem_cons_self))
    rw [List.map_cons, List.any_cons]
    refine kitAny_cons (b := kitD T n) e (fun hb => ?_) (fun hb => ?_)
    · rw [hb, Bool.false_or]
      exact kitAny_all hT fun m hm => h m (List.mem_cons_of_mem _ hm)
    · rw [hb, Bool.true_or]
theorem clsV_tys : ∀ ns : List String, Paired ClsV (ns.map V.ty) (ns.map Value.type)
  | [] => .nil
  | n :: ns => .cons (.ty n) (clsV_tys ns)
end
section
variable {X : Cx} {W : Wi} {e c : Expr} {es : List Expr} {Fe Fo : Dn} {Fs : Da}
theorem qe_isi1 {n : String} (hn : n ∈ knownT) (he : QE X W e Fe) (h : ∀ {te : TE}, PE X e te → PE X c (tCB (rIsiA X.K) (tCons te (tCons (tC (.ty n)) tNil)))) : QE X W c (fUn (dIs [n]) Fe) :=
  peI (h he) fun σ H Q ⟨fr, w, env, st, I, q⟩ => ⟨fr, w, env, st, I, pos_bind q fun x s _ v H1 w1 x1 I1 r1 q1 => by
  unfold dIs at q1
  split at q1
  · rename_i T hT
    refine .inl ⟨_, .ty n, _, _, _, rfl, .ty n, rep_ty I1 r1 hT, kit_ty (kitB_of (tyS_mem hT) hn), ?_⟩
    have := pos_here q1 I1 (.bl _)
    simpa using this
  · exact q1.elim⟩
theorem qe_isiT {ns : List String} (hn : ∀ n ∈ ns, n ∈ knownT) (hz : ns.length ≤ 100) (he : QE X W e Fe) (h : ∀ {te : TE}, PE X e te → PE X c (tCB (rIsiA X.K) (tCons te (tCons (tTup (tTys ns)) tNil)))) : QE X W c (fUn (dIs ns) Fe) :=
  peI (h he) fun σ H Q ⟨fr, w, env, st, I, q⟩ => ⟨fr, w, env, st, I, pos_bind q fun x s _ v H1 w1 x1 I1 r1 q1 => by
  unfold dIs at q1
  split at q1
  · rename_i T hT
    refine tTys_eq ns σ H1 _ ⟨by rw [List.length_map]; exact sm20 hz, fun p hp => .inr ⟨_, p, _, _, _, _, rfl, upd_same, clsV_tys ns, rep_ty (I1.alloc (o := .tup (ns.map V.ty)) hp) (r1.ext (Wd.add_ext (I1.z hp))) hT, kitAny_all (tyS_mem hT) hn, ?_⟩⟩
    exact q1 _ _ (w1.add p _) (I1.ext _ hp) (I1.alloc hp) (.bl _)
  · exact q1.elim⟩
end
/-! ### subscripts -/
theorem repL_at {K : PySem.W.Frag} {mg : Gm} {w : Wd} {vs : List V} {ds : List D} {i : Int} {d : D} (r : RepL K mg w vs ds) (h : atI ds i = some d) : ∃ v, atI vs i = some v ∧ Rep K mg w v d := by
  unfold atI at h ⊢
  rw [r.length]
  cases e : ixN ds.length i with
  | none => rw [e] at h; cases h
  | some j =>
    rw [e] at h
    exact r.get h
def dIx : D → D → Store → R D
  | .str z, .int i, st => if z.length ≤ sizeLine then (match atI z.cps.toList i with | some c => .ok (.str ⟨#[c]⟩) st | none => .bad) else .bad
  | .lst xs, .int i, st => (match atI xs i with | some d => .ok d st | none => .bad)
  | .rol xs, .int i, st => (match atI xs i with | some d => .ok d st | none => .bad)
  | .tup xs, .int i, st => (match atI xs i with | some d => .ok d st | none => .bad)
  | .ref n, .int i, st => (match st[n]? with
    | some (.lst xs) => (match atI xs i with | some d => .ok d st | none => .bad)
    | _ => .bad)
  | _, _, _ => .bad
section
variable {K : PySem.W.Frag} {mg : Gm} {fr : Fr} {w : Wd} {env : Env'} {st : Store} {σ : L2.St} {H : Hp}
/-- the list at a handle -/
theorem IE.atL (I : IE K mg fr w env st σ H) {a : Addr} {n : Nat} {xs : List D} (hm : w.m n = some a) (hs : st[n]? = some (.lst xs)) : ∃ vs, H a = some (.lst vs) ∧ RepL K mg w vs xs := by
  obtain ⟨b, ho, e1, e2, e3, _⟩ := I.g.at_ n _ hs
  rw [hm] at e1
  cases e1
  cases e3 with
  | lst r => exact ⟨_, e2, r⟩
theorem s_ix : OpS K mg (rIx K) dIx := fun fr w env st σ H W v u x y Q I rx ry q => by
  unfold dIx at q
  split at q
  · split at q
    · rename_i hl
      split at q
      · rename_i c hc
        cases rx; cases ry
        exact .inr (.inr ⟨_, _, c, rfl, rfl, hl, hc, pos_here q I (.str _)⟩)
      · exact q.elim
    · exact q.elim
  · split at q
    · rename_i d hd
      cases rx with
      | lst h r =>
        cases ry
        obtain ⟨v, e, r2⟩ := repL_at r hd
        exact .inl ⟨_, _, _, v, rfl, rfl, .inl (.inl (I.g.sub _ _ h)), e, pos_here q I r2⟩
    · exact q.elim
  · split at q
    · rename_i d hd
      cases rx with
      | rol h r =>
        cases ry
        obtain ⟨v, e, r2⟩ := repL_at r hd
        exact .inl ⟨_, _, _, v, rfl, rfl, I.seqL h, e, pos_here q I r2⟩
    · exact q.elim
  · split at q
    · rename_i d hd
      cases rx with
      | tup h r =>
        cases ry
        obtain ⟨v, e, r2⟩ := repL_at r hd
        exact .inr (.inl ⟨_, _, _, v, rfl, rfl, I.seqT h, e, pos_here q I r2⟩)
    · exact q.elim
  · split at q
    · rename_i xs hs
      split at q
      · rename_i d hd
        cases rx with
        | ref h =>
          cases ry
          obtain ⟨vs, e1, r⟩ := I.atL h hs
          obtain ⟨v, e, r2⟩ := repL_at r hd
          exact .inl ⟨_, _, _, v, rfl, rfl, .inl (.inl e1), e, pos_here q I r2⟩
      · exact q.elim
    · exact q.elim
  · exact q.elim
end
/-! ### slices -/
def cutD (xs : List D) (lo hi : Option Int) : List D := (xs.drop (HT.sIx xs.length 0 lo)).take (HT.sIx xs.length xs.length hi - HT.sIx xs.length 0 lo)
def dSl (d : D) (lo hi : Option Int) (st : Store) : R D := match d with
  | .str z => if z.length ≤ sizeLine then .ok (.str (cutS z lo hi)) st else .bad
  | .lst xs => .ok (.lst (cutD xs lo hi)) st
  | .rol xs => .ok (.lst (cutD xs lo hi)) st
  | .tup xs => .ok (.tup (cutD xs lo hi)) st
  | _ => .bad
abbrev Do := Env' → Store → R (Option Int)
def fNone : Do := fun _ st => .ok none st
def asI : D → Store → R (Option Int)
  | .int i, st => .ok (some i) st
  | _, _ => .bad
def fSome (a : Dn) : Do := fun env st => (a env st).bind asI
def fSl (a : Dn) (lo hi : Do) : Dn := fun env st => (a env st).bind fun x s => (lo env s).bind fun l s2 => (hi env s2).bind fun h s3 => dSl x l h s3
def rdO (K : PySem.W.Frag) (mg : Gm) (W : Wi) (F : Do) : TO := fun σ H Q => ∃ fr w env st, IE K mg fr w env st σ H ∧ posE K mg fr w env σ W (fun _ b d => b = d) Q (F env st)
def QO (X : Cx) (W : Wi) (e : Option Expr) (F : Do) : Prop := PO X e (rdO X.K (W.g X) W F)
theorem poI {X : Cx} {e : Option Expr} {t t' : TO} (h : PO X e t) (i : ∀ σ H Q, t' σ H Q → t σ H Q) : PO X e t' := ⟨fun pins s σ H Q I q => h.run pins s σ H Q I (i σ H Q q)⟩
section
variable {X : Cx} {W : Wi} {e : Expr} {Fe : Dn} {Fl Fh : Do} {lo hi : Option Expr} {pos p2 : Pos}
theorem qo_none : QO X W none fNone := poI po_none fun σ H Q ⟨fr, w, env, st, I, q⟩ => q _ H w Ext.refl I rfl
theorem qo_some (h : QE X W e Fe) : QO X W (some e) (fSome Fe) := poI (po_some h) fun σ H Q ⟨fr, w, env, st, I, q⟩ => ⟨fr, w, env, st, I, pos_bind q fun x s _ v H1 w1 x1 I1 r1 q1 => by
  unfold asI at q1
  split at q1
  · cases r1
    exact ⟨_, rfl, q1 _ H1 w1 Ext.refl I1 rfl⟩
  · exact q1.elim⟩
def rSlX (K : PySem.W.Frag) : V → Option Int → Option Int → Hp → VK → Prop := fun x lo hi H Q => rSlS x lo hi H Q ∨ (rSlL K x lo hi H Q ∨ rSlA K x lo hi H Q)
theorem sl_x : SlR X (rSlX X.K) := sl_str.or (sl_list.or sl_tupA)
theorem cutD_rep {K : PySem.W.Frag} {mg : Gm} {w : Wd} {vs : List V} {ds : List D} (r : RepL K mg w vs ds) (lo hi : Option Int) : RepL K mg w (cutV vs lo hi) (cutD ds lo hi) := by
  unfold cutV cutD
  rw [r.length]
  exact (r.drop _).take _
theorem qe_sl (he : QE X W e Fe) (hl : QO X W lo Fl) (hh : QO X W hi Fh) : QE X W (.Subscript e (.Slice lo hi none p2) pos) (fSl Fe Fl Fh) :=
  peI (pe_slice sl_x he hl hh) fun σ H Q ⟨fr, w, env, st, I, q⟩ => ⟨fr, w, env, st, I, pos_bind q fun x s _ v H1 w1 x1 I1 r1 q1 => ⟨fr, w1, env, s, I1, pos_bind q1 fun l s2 _ l' H2 w2 x2 I2 r2 q2 => ⟨fr, w2, env, s2, I2, pos_bind q2 fun h s3 _ h' H3 w3 x3 I3 r3 q3 => by
  subst r2 r3
  have r := r1.ext (x2.trans x3)
  unfold dSl at q3
  split at q3
  · split at q3
    · rename_i hz
      cases r
      exact .inl ⟨_, rfl, hz, pos_here q3 I3 (.str _)⟩
    · exact q3.elim
  · cases r with
    | lst h1 r1 => exact .inr (.inl ⟨_, _, rfl, .inl (.inl (I3.g.sub _ _ h1)), fun p hp => pos_new q3 I3 hp (rep_lstN (I3.z hp) (cutD_rep r1 _ _))⟩)
  · cases r with
    | rol h1 r1 => exact .inr (.inl ⟨_, _, rfl, I3.seqL h1, fun p hp => pos_new q3 I3 hp (rep_lstN (I3.z hp) (cutD_rep r1 _ _))⟩)
  · cases r with
    | tup h1 r1 =>
      refine .inr (.inr ⟨_, _, rfl, I3.seqT h1, fun hw => ?_, fun _ p hp => pos_new q3 I3 hp (rep_tupN (I3.z hp) (cutD_rep r1 _ _))⟩)
      rw [r1.length] at hw
      refine pos_here q3 I3 (.tup h1 ?_)
      have e2 := cutD_rep r1 l' h'
      unfold cutV cutD at e2
      unfold cutD
      rw [hw.1, hw.2]
      simpa using r1
  · exact q3.elim⟩⟩⟩
end
end Dv

/-! DvH: built-in functions, methods of texts, repr of data. -/
namespace Dv
open PySem PySem.Spec PyProof.Rows L2 Cv
def dLen : Fn := fun ds st => match ds with
  | [.str z] => if z.length ≤ sizeLine then .ok (.int z.length) st else .bad
  | [.lst xs] => .ok (.int xs.length) st
  | [.rol xs] => .ok (.int xs.length) st
  | [.tup xs] => .ok (.int xs.length) st
  | [.dct xs] => .ok (.int xs.length) st
  | [.ref n] => (match st[n]? with
    | some (.lst xs) => .ok (.int xs.length) st
    | some (.dct xs) => .ok (.int xs.length) st
    | _ => .bad)
  | _ => .bad
def dAbs : Fn := fun ds st => match ds with
  | [.int i] => .ok (.int (if i < 0 then -i else i)) st
  | _ => .bad
def dMax2 : Fn := fun ds st => match ds with
  | [.int i, .int j] => .ok (.int (if j > i then j else i)) st
  | _ => .bad
def dMin2 : Fn := fun ds st => match ds with
  | [.int i, .int j] => .ok (.int (if j < i then j else i)) st
  | _ => .bad
def dDivmod : Fn := fun ds st => match ds with
  | [.int i, .int j] => if 0 < j ∧ j.natAbs.log2 < 9000 then .ok (.tup [.int (i / j), .int (i % j)]) st else .bad
  | _ => .bad
def dInt : Fn := fun ds st => match ds with
  | [.int i] => .ok (.int i) st
  | [.bl b] => .ok (.int (if b then 1 else 0)) st
  | [.str z] => (match PySem.intText? z with
    | some n => if z.length ≤ 640 then .ok (.int n) st else .bad
    | none => .bad)
  | _ => .bad
def dStr : Fn := fun ds st => match ds with
  | [.int i] => if i.natAbs.log2 < 1920 then .ok (.str (toString i)) st else .bad
  | [.str z] => .ok (.str z) st
  | _ => .bad
def dList : Fn := fun ds st => match ds with
  | [.lst xs] => .ok (.lst xs) st
  | [.rol xs] => .ok (.lst xs) st
  | [.tup xs] => .ok (.lst xs) st
  | [.ref n] => (match st[n]? with
    | some (.lst xs) => .ok (.lst xs) st
    | _ => .bad)
  | _ => .bad
def dTuple : Fn := fun ds st => match ds with
  | [.lst xs] => .ok (.tup xs) st
  | [.rol xs] => .ok (.tup xs) st
  | [.tup xs] => .ok (.tup xs) st
  | [.ref n] => (match st[n]? with
    | some (.lst xs) => .ok (.tup xs) st
    | _ => .bad)
  | _ => .bad
def bools : List D → Option (List Bool)
  | [] => some []
  | .bl b :: ds => (match bools ds with | some bs => some (b :: bs) | none => none)
  | _ => none
def dAll : Fn := fun ds st => match ds with
  | [.lst xs] => (match bools xs with | some bs => .ok (.bl (bs.all id)) st | none => .bad)
  | _ => .bad
def dAny : Fn := fun ds st => match ds with
  | [.lst xs] => (match bools xs with | some bs => .ok (.bl (bs.any id)) st | none => .bad)
  | _ => .bad
def intsOf : List D → Option (List Int)
  | [] => some []
  | .int b :: ds => (match intsOf ds with | some bs => some (b :: bs) | none => none)
  | _ => none
def dSum : Fn := fun ds st => match ds with
  | [.lst xs] => (match intsOf xs with | some bs => .ok (.int bs.sum) st | none => .bad)
  | _ => .bad
section
variable {K : PySem.W.Frag} {mg : Gm} {w : Wd} {fr : Fr} {env : Env'} {st : Store} {σ : L2.St} {H : Hp}
theorem repL1 {vs : List V} {d : D} (r : RepL K mg w vs [d]) : ∃ v, vs = [v] ∧ Rep K mg w v d := by
  cases r with
  | cons h r => cases r; exact ⟨_, rfl, h⟩
theorem repL2' {vs : List V} {d e : D} (r : RepL K mg w vs [d, e]) : ∃ v u, vs = [v, u] ∧ Rep K mg w v d ∧ Rep K mg w u e := by
  cases r with
  | cons h r =>
    obtain ⟨u, rfl, h2⟩ := repL1 r
    exact ⟨_, _, rfl, h, h2⟩
theorem IE.atK (I : IE K mg fr w env st σ H) {a : Addr} {n : Nat} {xs : List (D × D)} (hm : w.m n = some a) (hs : st[n]? = some (.dct xs)) : ∃ vs, H a = some (.dK vs) ∧ RepK K mg w vs xs := by
  obtain ⟨b, ho, e1, e2, e3, _⟩ := I.g.at_ n _ hs
  rw [hm] at e1
  cases e1
  cases e3 with
  | dct r => exact ⟨_, e2, r⟩
theorem RepK.length : ∀ {vs : List (L2.Key × V)} {ds : List (D × D)}, RepK K mg w vs ds → vs.length = ds.length
  | _, _, .nil => rfl
  | _, _, .cons _ r => by rw [List.length_cons, List.length_cons, r.length]
def rLenA (K : PySem.W.Frag) : List V → Hp → VK → Prop := fun xs H Q => (∃ x n, xs = [x] ∧ LenV K x H n ∧ Q (.int n) H) ∨ ∃ a kvs, xs = [V.ref a] ∧ H a = some (.dK kvs) ∧ Q (.int kvs.length) H
theorem call_lenA {X : Cx} : CallR X (.builtin "len") (rLenA X.K) := fun pins s σ H xs us Q I r h => h.elim (call_len pins s σ H xs us Q I r) (call_lenD pins s σ H xs us Q I r)
theorem s_len : CallS K mg (rLenA K) dLen := fun fr w env st σ H W vs xs Q I rs q => by
  unfold dLen at q
  split at q
  · obtain ⟨v, rfl, r⟩ := repL1 rs
    split at q
    · rename_i hz
      cases r
      exact .inl ⟨_, _, rfl, ⟨hz, rfl⟩, pos_here q I (.int _)⟩
    · exact q.elim
  · obtain ⟨v, rfl, r⟩ := repL1 rs
    cases r with
    | lst h r => exact .inl ⟨_, _, rfl, .inl ⟨_, .inl (.inl (I.g.sub _ _ h)), rfl⟩, by rw [r.length]; exact pos_here q I (.int _)⟩
  · obtain ⟨v, rfl, r⟩ := repL1 rs
    cases r with
    | rol h r => exact .inl ⟨_, _, rfl, .inl ⟨_, I.seqL h, rfl⟩, by rw [r.length]; exact pos_here q I (.int _)⟩
  · obtain ⟨v, rfl, r⟩ := repL1 rs
    cases r with
    | tup h r => exact .inl ⟨_, _, rfl, .inr ⟨_, I.seqT h, rfl⟩, by rw [r.length]; exact pos_here q I (.int _)⟩
  · obtain ⟨v, rfl, r⟩ := repL1 rs
    cases r with
    | dct h r => exact .inr ⟨_, _, rfl, I.g.sub _ _ h, by rw [r.length]; exact pos_here q I (.int _)⟩
  · obtain ⟨v, rfl, r⟩ := repL1 rs
    cases r with
    | ref h =>
      split at q
      · rename_i hs
        obtain ⟨vs, e, r⟩ := I.atL h hs
        exact .inl ⟨_, _, rfl, .inl ⟨_, .inl (.inl e), rfl⟩, by rw [r.length]; exact pos_here q I (.int _)⟩
      · rename_i hs
        obtain ⟨vs, e, r⟩ := I.atK h hs
        exact .inr ⟨_, _, rfl, e, by rw [r.length]; exact pos_here q I (.int _)⟩
      · exact q.elim
  · exact q.elim
theorem s_abs : CallS K mg (fun xs H Q => ∃ i, xs = [.int i] ∧ Q (.int (if i < 0 then -i else i)) H) dAbs := fun fr w env st σ H W vs xs Q I rs q => by
  unfold dAbs at q
  split at q
  · obtain ⟨v, rfl, r⟩ := repL1 rs
    cases r
    exact ⟨_, rfl, pos_here q I (.int _)⟩
  · exact q.elim
theorem s_max2 : CallS K mg (fun xs H Q => ∃ i j, xs = [.int i, .int j] ∧ Q (.int (if j > i then j else i)) H) dMax2 := fun fr w env st σ H W vs xs Q I rs q => by
  unfold dMax2 at q
  split at q
  · obtain ⟨v, u, rfl, r, r2⟩ := repL2' rs
    cases r; cases r2
    exact ⟨_, _, rfl, pos_here q I (.int _)⟩
  · exact q.elim
theorem s_min2 : CallS K mg (fun xs H Q => ∃ i j, xs = [.int i, .int j] ∧ Q (.int (if j < i then j else i)) H) dMin2 := fun fr w env st σ H W vs xs Q I rs q => by
  unfold dMin2 at q
  split at q
  · obtain ⟨v, u, rfl, r, r2⟩ := repL2' rs
    cases r; cases r2
    exact ⟨_, _, rfl, pos_here q I (.int _)⟩
  · exact q.elim
theorem s_divmod : CallS K mg (fun xs H Q => ∃ i j, xs = [.int i, .int j] ∧ CDivP i j ∧ ∀ p, H p = none → Q (.ref p) (upd H p (.tup [.int (i / j), .int (i % j)]))) dDivmod := fun fr w env st σ H W vs xs Q I rs q => by
  unfold dDivmod at q
  split at q
  · split at q
    · rename_i hc
      obtain ⟨v, u, rfl, r, r2⟩ := repL2' rs
      cases r; cases r2
      exact ⟨_, _, rfl, ⟨hc.1, PyProof.noPylong_of_log2 hc.2⟩, fun p hp => pos_new q I hp (rep_tupN (I.z hp) (.cons (.int _) (.cons (.int _) .nil)))⟩
    · exact q.elim
  · exact q.elim
def rIntA : List V → Hp → VK → Prop := fun xs H Q => ((∃ i, xs = [.int i] ∧ Q (.int i) H) ∨ ∃ k, xs = [.bl k] ∧ Q (.int (if k then 1 else 0)) H) ∨ (∃ a n, xs = [.str a] ∧ PySem.intText? a = some n ∧ a.length ≤ 640 ∧ Q (.int n) H)
theorem call_intA {X : Cx} : CallR X (.type "int") rIntA := fun pins s σ H xs us Q I r h => h.elim (call_int1 pins s σ H xs us Q I r) (call_int_str pins s σ H xs us Q I r)
theorem s_int : CallS K mg rIntA dInt := fun fr w env st σ H W vs xs Q I rs q => by
  unfold dInt at q
  split at q
  · obtain ⟨v, rfl, r⟩ := repL1 rs
    cases r
    exact .inl (.inl ⟨_, rfl, pos_here q I (.int _)⟩)
  · obtain ⟨v, rfl, r⟩ := repL1 rs
    cases r
    exact .inl (.inr ⟨_, rfl, pos_here q I (.int _)⟩)
  · split at q
    · split at q
      · rename_i n hn hl
        obtain ⟨v, rfl, r⟩ := repL1 rs
        cases r
        exact .inr ⟨_, _, rfl, hn, hl, pos_here q I (.int _)⟩
      · exact q.elim
    · exact q.elim
  · exact q.elim
def rStrA : List V → Hp → VK → Prop := fun xs H Q => (∃ i, xs = [.int i] ∧ i.natAbs.log2 < 1920 ∧ Q (.str (toString i)) H) ∨ (∃ a, xs = [.str a] ∧ Q (.str a) H)
theorem call_strA {X : Cx} : CallR X (.type "str") rStrA := fun pins s σ H xs us Q I r h => h.elim (call_str_int pins s σ H xs us Q I r) (SkE.call_str_str pins s σ H xs us Q I r)
theorem s_str : CallS K mg rStrA dStr := fun fr w env st σ H W vs xs Q I rs q => by
  unfold dStr at q
  split at q
  · split at q
    · rename_i hl
      obtain ⟨v, rfl, r⟩ := repL1 rs
      cases r
      exact .inl ⟨_, rfl, hl, pos_here q I (.str _)⟩
    · exact q.elim
  · obtain ⟨v, rfl, r⟩ := repL1 rs
    cases r
    exact .inr ⟨_, rfl, pos_here q I (.str _)⟩
  · exact q.elim
theorem s_list : CallS K mg (fun xs H Q => ∃ p ys, xs = [.ref p] ∧ (SqL K H p ys ∨ SqT K H p ys) ∧ ∀ l, H l = none → Q (.ref l) (upd H l (.lst ys))) dList := fun fr w env st σ H W vs xs Q I rs q => by
  unfold dList at q
  split at q
  · obtain ⟨v, rfl, r⟩ := repL1 rs
    cases r with
    | lst h r => exact ⟨_, _, rfl, .inl (.inl (.inl (I.g.sub _ _ h))), fun l hl => pos_new q I hl (rep_lstN (I.z hl) r)⟩
  · obtain ⟨v, rfl, r⟩ := repL1 rs
    cases r with
    | rol h r => exact ⟨_, _, rfl, .inl (I.seqL h), fun l hl => pos_new q I hl (rep_lstN (I.z hl) r)⟩
  · obtain ⟨v, rfl, r⟩ := repL1 rs
    cases r with
    | tup h r => exact ⟨_, _, rfl, .inr (I.seqT h), fun l hl => pos_new q I hl (rep_lstN (I.z hl) r)⟩
  · obtain ⟨v, rfl, r⟩ := repL1 rs
    cases r with
    | ref h =>
      split at q
      · rename_i hs
        obtain ⟨vs, e, r⟩ := I.atL h hs
        exact ⟨_, _, rfl, .inl (.inl (.inl e)), fun l hl => pos_new q I hl (rep_lstN (I.z hl) r)⟩
      · exact q.elim
  · exact q.elim
theorem s_tuple : CallS K mg (fun xs H Q => ∃ p ys, xs = [.ref p] ∧ ((SqL K H p ys ∧ ∀ l, H l = none → Q (.ref l) (upd H l (.tup ys))) ∨ (SqT K H p ys ∧ Q (.ref p) H))) dTuple := fun fr w env st σ H W vs xs Q I rs q => by
  unfold dTuple at q
  split at q
  · obtain ⟨v, rfl, r⟩ := repL1 rs
    cases r with
    | lst h r => exact ⟨_, _, rfl, .inl ⟨.inl (.inl (I.g.sub _ _ h)), fun l hl => pos_new q I hl (rep_tupN (I.z hl) r)⟩⟩
  · obtain ⟨v, rfl, r⟩ := repL1 rs
    cases r with
    | rol h r => exact ⟨_, _, rfl, .inl ⟨I.seqL h, fun l hl => pos_new q I hl (rep_tupN (I.z hl) r)⟩⟩
  · obtain ⟨v, rfl, r⟩ := repL1 rs
    cases r with
    | tup h r => exact ⟨_, _, rfl, .inr ⟨I.seqT h, pos_here q I (.tup h r)⟩⟩
  · obtain ⟨v, rfl, r⟩ := repL1 rs
    cases r with
    | ref h =>
      split at q
      · rename_i hs
        obtain ⟨vs, e, r⟩ := I.atL h hs
        exact ⟨_, _, rfl, .inl ⟨.inl (.inl e), fun l hl => pos_new q I hl (rep_tupN (I.z hl) r)⟩⟩
      · exact q.elim
  · exact q.elim
theorem bools_rep : ∀ {vs : List V} {ds : List D} {bs : List Bool}, RepL K mg w vs ds → bools ds = some bs → vs = bs.map V.bl
  | _, _, _, .nil, e => by cases e; rfl
  | _, _, _, .cons h r, e => by
    cases h with
    | bl b =>
      simp only [bools] at e
      split at e
      · rename_i bs e2
        cases e
        rw [List.map_cons, bools_rep r e2]
      · cases e
    | _ => simp [bools] at e
theorem ints_rep : ∀ {vs : List V} {ds : List D} {bs : List Int}, RepL K mg w vs ds → intsOf ds = some bs → vs = bs.map V.int
  | _, _, _, .nil, e => by cases e; rfl
  | _, _, _, .cons h r, e => by
    cases h with
    | int b =>
      simp only [intsOf] at e
      split at e
      · rename_i bs e2
        cases e
        rw [List.map_cons, ints_rep r e2]
      · cases e
    | _ => simp [intsOf] at e
theorem s_all : CallS K mg (rAll K) dAll := fun fr w env st σ H W vs xs Q I rs q => by
  unfold dAll at q
  split at q
  · split at q
    · rename_i hb
      obtain ⟨v, rfl, r⟩ := repL1 rs
      cases r with
      | lst h r => exact ⟨_, _, rfl, .inl (.inl (by rw [← bools_rep r hb]; exact I.g.sub _ _ h)), pos_here q I (.bl _)⟩
    · exact q.elim
  · exact q.elim
theorem s_any : CallS K mg (rAny K) dAny := fun fr w env st σ H W vs xs Q I rs q => by
  unfold dAny at q
  split at q
  · split at q
    · rename_i hb
      obtain ⟨v, rfl, r⟩ := repL1 rs
      cases r with
      | lst h r => exact ⟨_, _, rfl, .inl (.inl (by rw [← bools_rep r hb]; exact I.g.sub _ _ h)), pos_here q I (.bl _)⟩
    · exact q.elim
  · exact q.elim
theorem s_sum : CallS K mg (rSum K) dSum := fun fr w env st σ H W vs xs Q I rs q => by
  unfold dSum at q
  split at q
  · split at q
    · rename_i hb
      obtain ⟨v, rfl, r⟩ := repL1 rs
      cases r with
      | lst h r => exact ⟨_, _, rfl, .inl (.inl (by rw [← ints_rep r hb]; exact I.g.sub _ _ h)), pos_here q I (.int _)⟩
    · exact q.elim
  · exact q.elim
end
/-! ### methods of texts -/
def isSt : D → Bool
  | .str _ => true
  | _ => false
def fStrM (f : D → List D → Store → R D) (o : Dn) (a : Da) : Dn := fun env st => (o env st).bind fun x s => if isSt x = true then (a env s).bind fun ds s2 => f x ds s2 else .bad
def MetS (K : PySem.W.Frag) (mg : Gm) (r : V → List V → Hp → VK → Prop) (f : D → List D → Store → R D) : Prop :=
  ∀ (fr : Fr) (w : Wd) (env : Env') (st : Store) (σ : L2.St) (H : Hp) (W : Wi) (v : V) (vs : List V) (x : D) (xs : List D) (Q : VK), IE K mg fr w env st σ H → Rep K mg w v x → RepL K mg w vs xs → posE K mg fr w env σ W (Rep K mg) Q (f x xs st) → r v vs H Q
section
variable {X : Cx} {W : Wi} {c o : Expr} {es : List Expr} {Fo : Dn} {Fs : Da}
theorem qe_strM {r : V → List V → Hp → VK → Prop} {f : D → List D → Store → R D} (hs : MetS X.K (W.g X) r f) (ho : QE X W o Fo) (ha : QA X W es Fs) (h : ∀ {to : TE} {t : TA}, PE X o to → PA X es t → PE X c (tBM X.K "str" r to t)) : QE X W c (fStrM f Fo Fs) :=
  peI (h ho ha) fun σ H Q ⟨fr, w, env, st, I, q⟩ => ⟨fr, w, env, st, I, pos_bind q fun x s _ v H1 w1 x1 I1 r1 q1 => by
  split at q1
  · rename_i hx
    refine ⟨?_, fr, w1, env, s, I1, pos_bind q1 fun xs s2 _ vs H2 w2 x2 I2 r2 q2 => hs fr w2 env s2 σ H2 W v vs x xs Q I2 (r1.ext x2) r2 q2⟩
    cases r1 <;> first | rfl | cases hx
  · exact q1.elim⟩
end
def strsOf : List D → Option (List Str)
  | [] => some []
  | .str b :: ds => (match strsOf ds with | some bs => some (b :: bs) | none => none)
  | _ => none
def dJoin (x : D) (ds : List D) (st : Store) : R D := match x, ds with
  | .str a, [.lst xs] => (match strsOf xs with
    | some ys => if (ys.map (·.length)).sum + ys.length * a.length ≤ 16777216 then .ok (.str (Txt.join a ys)) st else .bad
    | none => .bad)
  | .str a, [.tup xs] => (match strsOf xs with
    | some ys => if (ys.map (·.length)).sum + ys.length * a.length ≤ 16777216 then .ok (.str (Txt.join a ys)) st else .bad
    | none => .bad)
  | _, _ => .bad
def dStarts (x : D) (ds : List D) (st : Store) : R D := match x, ds with
  | .str a, [.str b] => .ok (.bl (Txt.startswith a b)) st
  | _, _ => .bad
def dEnds (x : D) (ds : List D) (st : Store) : R D := match x, ds with
  | .str a, [.str b] => .ok (.bl (Txt.endswith a b)) st
  | _, _ => .bad
def dSplit (x : D) (ds : List D) (st : Store) : R D := match x, ds with
  | .str a, [.str b] => if (b.length == 0) = false ∧ a.length + 2 ≤ sizeLine then .ok (.lst ((Txt.split a b).map D.str)) st else .bad
  | _, _ => .bad
def dPart (x : D) (ds : List D) (st : Store) : R D := match x, ds with
  | .str a, [.str b] => if (b.length == 0) = false ∧ a.length ≤ sizeLine then .ok (.tup [.str (Txt.partition a b).1, .str (Txt.partition a b).2.1, .str (Txt.partition a b).2.2]) st else .bad
  | _, _ => .bad
section
variable {K : PySem.W.Frag} {mg : Gm} {w : Wd}
theorem strs_rep : ∀ {vs : List V} {ds : List D} {bs : List Str}, RepL K mg w vs ds → strsOf ds = some bs → vs = bs.map V.str
  | _, _, _, .nil, e => by cases e; rfl
  | _, _, _, .cons h r, e => by
    cases h with
    | str b =>
      simp only [strsOf] at e
      split at e
      · rename_i bs e2
        cases e
        rw [List.map_cons, strs_rep r e2]
      · cases e
    | _ => simp [strsOf] at e
theorem rep_strs : ∀ zs : List Str, RepL K mg w (zs.map V.str) (zs.map D.str)
  | [] => .nil
  | z :: zs => .cons (.str z) (rep_strs zs)
theorem s_join : MetS K mg (fun x xs H Q => ∃ a p, ∃ ys : List Str, x = .str a ∧ xs = [.ref p] ∧ (SqL K H p (ys.map V.str) ∨ SqT K H p (ys.map V.str)) ∧ (ys.map (·.length)).sum + ys.length * a.length ≤ 16777216 ∧ Q (.str (Txt.join a ys)) H) dJoin :=
  fun fr w env st σ H W v vs x xs Q I rx rs q => by
  unfold dJoin at q
  split at q
  · split at q
    · rename_i ys hy
      split at q
      · rename_i hl
        obtain ⟨v, rfl, r⟩ := repL1 rs
        cases rx
        cases r with
        | lst h r => exact ⟨_, _, ys, rfl, rfl, .inl (.inl (.inl (by rw [← strs_rep r hy]; exact I.g.sub _ _ h))), hl, pos_here q I (.str _)⟩
      · exact q.elim
    · exact q.elim
  · split at q
    · rename_i ys hy
      split at q
      · rename_i hl
        obtain ⟨v, rfl, r⟩ := repL1 rs
        cases rx
        cases r with
        | tup h r => exact ⟨_, _, ys, rfl, rfl, .inr (by rw [← strs_rep r hy]; exact I.seqT h), hl, pos_here q I (.str _)⟩
      · exact q.elim
    · exact q.elim
  · exact q.elim
theorem s_starts : MetS K mg (fun x xs H Q => ∃ a b, x = .str a ∧ xs = [.str b] ∧ Q (.bl (Txt.startswith a b)) H) dStarts := fun fr w env st σ H W v vs x xs Q I rx rs q => by
  unfold dStarts at q
  split at q
  · obtain ⟨v, rfl, r⟩ := repL1 rs
    cases rx; cases r
    exact ⟨_, _, rfl, rfl, pos_here q I (.bl _)⟩
  · exact q.elim
theorem s_ends : MetS K mg (fun x xs H Q => ∃ a b, x = .str a ∧ xs = [.str b] ∧ Q (.bl (Txt.endswith a b)) H) dEnds := fun fr w env st σ H W v vs x xs Q I rx rs q => by
  unfold dEnds at q
  split at q
  · obtain ⟨v, rfl, r⟩ := repL1 rs
    cases rx; cases r
    exact ⟨_, _, rfl, rfl, pos_here q I (.bl _)⟩
  · exact q.elim
theorem s_split : MetS K mg (fun x xs H Q => ∃ a b, x = .str a ∧ xs = [.str b] ∧ (b.length == 0) = false ∧ a.length + 2 ≤ sizeLine ∧ rNewStrs (Txt.split a b) H Q) dSplit := fun fr w env st σ H W v vs x xs Q I rx rs q => by
  unfold dSplit at q
  split at q
  · split at q
    · rename_i hl
      obtain ⟨v, rfl, r⟩ := repL1 rs
      cases rx; cases r
      exact ⟨_, _, rfl, rfl, hl.1, hl.2, fun p hp => pos_new q I hp (rep_lstN (I.z hp) (rep_strs _))⟩
    · exact q.elim
  · exact q.elim
theorem s_part : MetS K mg (fun x xs H Q => ∃ a b, x = .str a ∧ xs = [.str b] ∧ (b.length == 0) = false ∧ a.length ≤ sizeLine ∧
    ∀ p, H p = none → Q (.ref p) (upd H p (.tup [.str (Txt.partition a b).1, .str (Txt.partition a b).2.1, .str (Txt.partition a b).2.2]))) dPart := fun fr w env st σ H W v vs x xs Q I rx rs q => by
  unfold dPart at q
  split at q
  · split at q
    · rename_i hl
      obtain ⟨v, rfl, r⟩ := repL1 rs
      cases rx; cases r
      exact ⟨_, _, rfl, rfl, hl.1, hl.2, fun p hp => pos_new q I hp (rep_tupN (I.z hp) (.cons (.str _) (.cons (.str _) (.cons (.str _) .nil))))⟩
    · exact q.elim
  · exact q.elim
end
/-! ### repr -/
mutual
/-- data that repr knows -/
def toPyQ : D → Option PyData
  | .non => some .none
  | .bl b => some (.bool b)
  | .int i => some (.int i)
  | .str s => some (.str s)
  | .lst xs => (toPyQs xs).map .list
  | .tup xs => (toPyQs xs).map .tuple
  | .dct kvs => (toPyQk kvs).map .dict
  | _ => none
def toPyQs : List D → Option (List PyData)
  | [] => some []
  | x :: xs => match toPyQ x, toPyQs xs with
    | some p, some ps => some (p :: ps)
    | _, _ => none
def toPyQk : List (D × D) → Option (List (PyData × PyData))
  | [] => some []
  | (k, v) :: r => match toPyQ k, toPyQ v, toPyQk r with
    | some a, some b, some c => some ((a, b) :: c)
    | _, _, _ => none
end
section
variable {K : PySem.W.Frag} {mg : Gm} {w : Wd} {H : Hp}
mutual
theorem rep_dq (s : ∀ a o, w.Z a = some o → H a = some o) : ∀ {v : V} {d : D} {p : PyData}, Rep K mg w v d → toPyQ d = some p → Dq K H v p
  | _, _, _, .non, e => by simp only [toPyQ] at e; cases e; exact .non
  | _, _, _, .bl _, e => by simp only [toPyQ] at e; cases e; exact .bl _
  | _, _, _, .int _, e => by simp only [toPyQ] at e; cases e; exact .int _
  | _, _, _, .str _, e => by simp only [toPyQ] at e; cases e; exact .str _
  | _, _, _, .ty _, e => by simp [toPyQ] at e
  | _, _, _, .lst h r, e => by
    simp only [toPyQ] at e
    obtain ⟨ps, e1, rfl⟩ := Option.map_eq_some_iff.mp e
    exact .lst (.inl (.inl (s _ _ h))) (reps_dq s r e1)
  | _, _, _, .rol _ _, e => by simp [toPyQ] at e
  | _, _, _, .tup h r, e => by
    simp only [toPyQ] at e
    obtain ⟨ps, e1, rfl⟩ := Option.map_eq_some_iff.mp e
    exact .tup (same_tup s h) (reps_dq s r e1)
  | _, _, _, .dct h r, e => by
    simp only [toPyQ] at e
    obtain ⟨ps, e1, rfl⟩ := Option.map_eq_some_iff.mp e
    exact .dct (s _ _ h) (repk_dq s r e1)
  | _, _, _, .ins _ _ _, e => by simp [toPyQ] at e
  | _, _, _, .ref _, e => by simp [toPyQ] at e
theorem reps_dq (s : ∀ a o, w.Z a = some o → H a = some o) : ∀ {v : List V} {d : List D} {p : List PyData}, RepL K mg w v d → toPyQs d = some p → DqAll K H v p
  | _, _, _, .nil, e => by simp only [toPyQs] at e; cases e; exact .nil
  | _, _, _, .cons h r, e => by
    simp only [toPyQs] at e
    split at e
    · rename_i e1 e2
      cases e
      exact .cons (rep_dq s h e1) (reps_dq s r e2)
    · cases e
theorem repk_dq (s : ∀ a o, w.Z a = some o → H a = some o) : ∀ {v : List (L2.Key × V)} {d : List (D × D)} {p : List (PyData × PyData)}, RepK K mg w v d → toPyQk d = some p → DqKv K H v p
  | _, _, _, .nil, e => by simp only [toPyQk] at e; cases e; exact .nil
  | _, _, _, .cons (k := k) h r, e => by
    simp only [toPyQk] at e
    split at e
    · rename_i a b c e1 e2 e3
      cases e
      have ek : a = kP k := by
        cases k with
        | inl i => simp only [kD, toPyQ] at e1; cases e1; rfl
        | inr x => simp only [kD, toPyQ] at e1; cases e1; rfl
      subst ek
      exact .cons (rep_dq s h e2) (repk_dq s r e3)
    · cases e
end
/-- short enough to be shown -/
def okQ' (d : PyData) : Bool := d.leavesShort 40 && (decide (d.depth ≤ 45) && (decide (d.weight ≤ 200000) && d.showable))
theorem okQ_nq {d : PyData} (h : okQ' d = true) : Nq d 45 200000 := by
  obtain ⟨h1, h⟩ := Bool.and_eq_true_iff.mp h
  obtain ⟨h2, h⟩ := Bool.and_eq_true_iff.mp h
  obtain ⟨h3, h4⟩ := Bool.and_eq_true_iff.mp h
  exact ⟨h1, of_decide_eq_true h2, of_decide_eq_true h3, h4⟩
def dRepr : Fn := fun ds st => match ds with
  | [d] => (match toPyQ d with
    | some p => if okQ' p = true then .ok (.str p.shown) st else .bad
    | none => .bad)
  | _ => .bad
theorem s_repr : CallS K mg (rShowQ K) dRepr := fun fr w env st σ H W vs xs Q I rs q => by
  unfold dRepr at q
  split at q
  · split at q
    · rename_i p hp
      split at q
      · rename_i ho
        obtain ⟨v, rfl, r⟩ := repL1 rs
        exact ⟨v, p, 45, 200000, rfl, rep_dq I.g.sub r hp, okQ_nq ho, Nat.le_refl _, Nat.le_refl _, pos_here q I (.str _)⟩
      · exact q.elim
    · exact q.elim
  · exact q.elim
end
end Dv

/-! DvI: objects that change: those of a slot, those of the store. -/
namespace Dv
open PySem PySem.Spec PyProof.Rows L2 Cv
section
variable {K : PySem.W.Frag} {mg : Gm} {fr : Fr} {w w' : Wd} {env : Env'} {st st' : Store} {σ : L2.St} {H H' : Hp}
theorem set_cases {α : Type} {l : List α} {i j : Nat} {x y : α} (h : (l.set i x)[j]? = some y) : (i = j ∧ y = x ∧ i < l.length) ∨ (i ≠ j ∧ l[j]? = some y) := by
  by_cases hj : i = j
  · subst hj
    have hl : i < l.length := by
      by_cases q : i < l.length
      · exact q
      · rw [List.getElem?_eq_none (by rw [List.length_set]; omega)] at h; cases h
    rw [List.getElem?_set_self hl] at h
    exact .inl ⟨rfl, (Option.some.inj h).symm, hl⟩
  · rw [List.getElem?_set_ne hj] at h
    exact .inr ⟨hj, h⟩
theorem Good.own {a : Addr} {ho : HO} (g : Good K mg w st H) (z : w.Z a = none) (m : ∀ n, w.m n ≠ some a) : Good K mg w st (upd H a ho) := by
  refine ⟨fun b o e => by rw [upd_ne (ne_of_none e z)]; exact g.sub b o e, g.dom, fun n o e => ?_, g.inj⟩
  obtain ⟨b, hb, e1, e2, e3⟩ := g.at_ n o e
  exact ⟨b, hb, e1, by rw [upd_ne (fun q : b = a => m n (q ▸ e1))]; exact e2, e3⟩
theorem Keep.own {a : Addr} {ho : HO} (k : Keep fr w H) (n0 : fr.H0 a = none) : Keep fr w (upd H a ho) :=
  ⟨fun b o e nl => by rw [upd_ne (ne_of_none e n0)]; exact k.old b o e nl, k.new, k.fz⟩
theorem OwnAt.other {a b : Addr} {ho : HO} {so : SO} (x : OwnAt K mg fr w H b so) (h : b ≠ a) : OwnAt K mg fr w (upd H a ho) b so := by
  obtain ⟨⟨o, e, r⟩, k2, k3, k4⟩ := x
  exact ⟨⟨o, by rw [upd_ne h]; exact e, r⟩, k2, k3, k4⟩
/-- the object of slot i is changed -/
theorem IE.mutOwn (I : IE K mg fr w env st σ H) {i : Nat} {a : Addr} {so so' : SO} {ho : HO} (he : env[i]? = some (.own so)) (hσ : σ[i]? = some (some (.ref a))) (r : ORep K mg w ho so') : IE K mg fr w (env.set i (.own so')) st σ (upd H a ho) := by
  obtain ⟨b, e1, ow⟩ := I.s.own i so he
  rw [hσ] at e1
  cases e1
  refine ⟨I.g.own ow.z ow.m, I.k.own ow.nw, by rw [List.length_set]; exact I.s.len, fun j d e => ?_, fun j o e => ?_, fun j k c o o' h1 h2 h3 h4 => ?_, fun x o hx e => ?_, fun j C fs e => ?_⟩
  · rcases set_cases e with ⟨_, e, _⟩ | ⟨_, e⟩
    · cases e
    · exact I.s.val j d e
  · rcases set_cases e with ⟨rfl, e, _⟩ | ⟨hj, e⟩
    · cases e
      exact ⟨a, hσ, ⟨ho, upd_same, r⟩, ow.z, ow.m, ow.nw⟩
    · obtain ⟨b, e1, x⟩ := I.s.own j o e
      exact ⟨b, e1, x.other fun q => hj (I.s.ap i j a so o he e hσ (by rw [e1, q]))⟩
  · have f1 : ∃ u, env[j]? = some (.own u) := by
      rcases set_cases h1 with ⟨rfl, _, _⟩ | ⟨_, e⟩
      · exact ⟨_, he⟩
      · exact ⟨_, e⟩
    have f2 : ∃ u, env[k]? = some (.own u) := by
      rcases set_cases h2 with ⟨rfl, _, _⟩ | ⟨_, e⟩
      · exact ⟨_, he⟩
      · exact ⟨_, e⟩
    obtain ⟨u1, f1⟩ := f1
    obtain ⟨u2, f2⟩ := f2
    exact I.s.ap j k c u1 u2 f1 f2 h3 h4
  · rcases set_cases e with ⟨h0, _, _⟩ | ⟨_, e⟩
    · subst h0
      exact I.s.sf x so hx he
    · exact I.s.sf x o hx e
  · rcases set_cases e with ⟨_, e, _⟩ | ⟨_, e⟩
    · cases e
    · exact I.s.er j C fs e
/-- an object that nobody knows yet -/
structure Fresh (K : PySem.W.Frag) (mg : Gm) (fr : Fr) (w : Wd) (env : Env') (σ : L2.St) (H : Hp) (p : Addr) (so : SO) : Prop where
  own : OwnAt K mg fr w H p so
  ap : ∀ (i : Nat) (u : SO), env[i]? = some (Sl.own u) → σ[i]? ≠ some (some (V.ref p))
theorem Keep.n0 (k : Keep fr w H) (g : Good K mg w st H) {p : Addr} (hp : H p = none) : fr.H0 p = none := by
  cases e : fr.H0 p with
  | none => rfl
  | some o =>
    obtain ⟨u, e2⟩ := k.there g e
    rw [hp] at e2
    cases e2
theorem IE.allocOwn (I : IE K mg fr w env st σ H) {p : Addr} {ho : HO} {so : SO} (hp : H p = none) (r : ORep K mg w ho so) : IE K mg fr w env st σ (upd H p ho) ∧ Fresh K mg fr w env σ (upd H p ho) p so := by
  have pz := I.g.new (o := ho) hp
  have n0 := I.k.n0 I.g hp
  refine ⟨⟨I.g.own pz.1 pz.2, I.k.own n0, I.s.len, I.s.val, fun i o e => ?_, I.s.ap, I.s.sf, I.s.er⟩, ⟨⟨ho, upd_same, r⟩, pz.1, pz.2, n0⟩, fun i u e q => ?_⟩
  · obtain ⟨b, e1, x⟩ := I.s.own i o e
    obtain ⟨⟨o, e2, _⟩, _⟩ := id x
    exact ⟨b, e1, x.other (ne_of_none e2 hp)⟩
  · obtain ⟨b, e1, ⟨⟨o, e2, _⟩, _⟩⟩ := I.s.own i u e
    rw [e1] at q
    cases q
    rw [hp] at e2
    cases e2
theorem IE.setOwn (I : IE K mg fr w env st σ H) {i : Nat} (hi : 0 < i) {p : Addr} {so : SO} (f : Fresh K mg fr w env σ H p so) : IE K mg fr w (env.set i (.own so)) st (σ.set i (some (.ref p))) H := by
  refine ⟨I.g, I.k, by rw [List.length_set, List.length_set]; exact I.s.len, fun j d e => ?_, fun j o e => ?_, fun j k c o o' h1 h2 h3 h4 => ?_, fun x o hx e => ?_, fun j C fs e => ?_⟩
  · rcases set_cases e with ⟨_, e, _⟩ | ⟨hj, e⟩
    · cases e
    · rw [List.getElem?_set_ne hj]
      exact I.s.val j d e
  · rcases set_cases e with ⟨rfl, e, hl⟩ | ⟨hj, e⟩
    · cases e
      exact ⟨p, List.getElem?_set_self (by rw [I.s.len]; exact hl), f.own⟩
    · rw [List.getElem?_set_ne hj]
      exact I.s.own j o e
  · rcases set_cases h1 with ⟨rfl, e1, hl⟩ | ⟨n1, e1⟩
    · rcases set_cases h2 with ⟨rfl, e2, _⟩ | ⟨n2, e2⟩
      · rfl
      · rw [List.getElem?_set_self (by rw [I.s.len]; exact hl)] at h3
        cases h3
        rw [List.getElem?_set_ne n2] at h4
        exact absurd h4 (f.ap k _ e2)
    · rcases set_cases h2 with ⟨rfl, e2, hl⟩ | ⟨n2, e2⟩
      · rw [List.getElem?_set_self (by rw [I.s.len]; exact hl)] at h4
        cases h4
        rw [List.getElem?_set_ne n1] at h3
        exact absurd h3 (f.ap j _ e1)
      · rw [List.getElem?_set_ne n1] at h3
        rw [List.getElem?_set_ne n2] at h4
        exact I.s.ap j k c o o' e1 e2 h3 h4
  · rcases set_cases e with ⟨h0, _, _⟩ | ⟨h0, e⟩
    · omega
    · rw [List.getElem?_set_ne h0]
      exact I.s.sf x o hx e
  · rcases set_cases e with ⟨_, e, _⟩ | ⟨hj, e⟩
    · cases e
    · rw [List.getElem?_set_ne hj]
      exact I.s.er j C fs e
/-- slot i is forgotten -/
theorem IE.drop (I : IE K mg fr w env st σ H) (i : Nat) : IE K mg fr w (env.set i .no) st σ H := by
  refine ⟨I.g, I.k, by rw [List.length_set]; exact I.s.len, fun j d e => ?_, fun j o e => ?_, fun j k c o o' h1 h2 h3 h4 => ?_, fun x o hx e => ?_, fun j C fs e => ?_⟩
  · rcases set_cases e with ⟨_, e, _⟩ | ⟨_, e⟩
    · cases e
    · exact I.s.val j d e
  · rcases set_cases e with ⟨_, e, _⟩ | ⟨_, e⟩
    · cases e
    · exact I.s.own j o e
  · rcases set_cases h1 with ⟨_, e, _⟩ | ⟨_, e1⟩
    · cases e
    rcases set_cases h2 with ⟨_, e, _⟩ | ⟨_, e2⟩
    · cases e
    exact I.s.ap j k c o o' e1 e2 h3 h4
  · rcases set_cases e with ⟨_, e, _⟩ | ⟨_, e⟩
    · cases e
    · exact I.s.sf x o hx e
  · rcases set_cases e with ⟨_, e, _⟩ | ⟨_, e⟩
    · cases e
    · exact I.s.er j C fs e
/-- what a frozen object is -/
def soD : SO → D
  | .lst ds => .lst ds
  | .dct ds => .dct ds
  | .ins C fs => .ins C fs
theorem orep_add {p : Addr} {ho : HO} {so : SO} (z : w.Z p = none) (r : ORep K mg w ho so) : Rep K mg (w.add p ho) (.ref p) (soD so) := by
  cases r with
  | lst r => exact .lst Wd.add_at (r.ext (Wd.add_ext z))
  | dct r => exact .dct Wd.add_at (r.ext (Wd.add_ext z))
  | ins hc r => exact .ins hc Wd.add_at (r.ext (Wd.add_ext z))
/-- the object of slot i never changes from now on -/
theorem IE.frz (I : IE K mg fr w env st σ H) {i : Nat} {so : SO} (he : env[i]? = some (.own so)) : ∃ w', Ext w w' ∧ IE K mg fr w' (env.set i (.val (soD so))) st σ H := by
  obtain ⟨a, e1, ⟨ho, e2, r⟩, z, m, nw⟩ := I.s.own i so he
  have I2 := (I.drop i).freeze e2 z m nw fun j u e q => by
    rcases set_cases e with ⟨_, e, _⟩ | ⟨hj, e⟩
    · cases e
    · exact hj (I.s.ap i j a so u he e e1 q)
  refine ⟨w.add a ho, Wd.add_ext z, ?_⟩
  have I3 := I2.set (i := i) (orep_add z r)
  have hs : σ.set i (some (.ref a)) = σ := by
    refine List.ext_getElem? fun j => ?_
    by_cases hj : i = j
    · subst hj
      by_cases hl : i < σ.length
      · rw [List.getElem?_set_self hl, e1]
      · rw [List.getElem?_eq_none (by omega)] at e1; cases e1
    · rw [List.getElem?_set_ne hj]
  rw [hs, List.set_set] at I3
  exact I3
/-- a fresh object never changes from now on -/
theorem IE.frzF (I : IE K mg fr w env st σ H) {p : Addr} {so : SO} (f : Fresh K mg fr w env σ H p so) : ∃ w', Ext w w' ∧ IE K mg fr w' env st σ H ∧ Rep K mg w' (.ref p) (soD so) := by
  obtain ⟨⟨ho, e2, r⟩, z, m, nw⟩ := f.own
  exact ⟨w.add p ho, Wd.add_ext z, I.freeze e2 z m nw fun j u e => f.ap j u e, orep_add z r⟩
/-! ### the store -/
theorem mget_lt {α : Type} {l : List α} {n : Nat} {x : α} (h : l[n]? = some x) : n < l.length := by
  by_cases q : n < l.length
  · exact q
  · rw [List.getElem?_eq_none (by omega)] at h; cases h
theorem IE.put (I : IE K mg fr w env st σ H) {n : Nat} {a : Addr} {so : SO} {ho : HO} (hm : w.m n = some a) (r : ORep K mg w ho so) : IE K mg fr w env (st.set n so) σ (upd H a ho) := by
  have hn := I.g.dom n a hm
  obtain ⟨b, o1, e1, e2, e3, z⟩ := I.g.at_ n _ (List.getElem?_eq_getElem hn)
  rw [hm] at e1
  cases e1
  refine ⟨⟨fun b o e => by rw [upd_ne (ne_of_none e z)]; exact I.g.sub b o e, fun k b e => by rw [List.length_set]; exact I.g.dom k b e, fun k o e => ?_, I.g.inj⟩, ⟨fun b o e nl => ?_, I.k.new, I.k.fz⟩, I.s.len, I.s.val, fun i o e => ?_, I.s.ap, I.s.sf, I.s.er⟩
  · rcases set_cases e with ⟨rfl, rfl, _⟩ | ⟨hk, e⟩
    · exact ⟨a, ho, hm, upd_same, r, z⟩
    · obtain ⟨b, hb, f1, f2, f3⟩ := I.g.at_ k o e
      exact ⟨b, hb, f1, by rw [upd_ne (fun q : b = a => hk (I.g.inj n k a hm (q ▸ f1)))]; exact f2, f3⟩
  · have hb : b ≠ a := by
      rintro rfl
      by_cases h : n < fr.L
      · exact nl n h hm
      · rw [I.k.new n b (Nat.not_lt.mp h) hm] at e
        cases e
    rw [upd_ne hb]
    exact I.k.old b o e nl
  · obtain ⟨b, f1, x⟩ := I.s.own i o e
    exact ⟨b, f1, x.other fun q => x.m n (q ▸ hm)⟩
/-- a fresh object joins the store -/
theorem IE.store (I : IE K mg fr w env st σ H) {p : Addr} {so : SO} (f : Fresh K mg fr w env σ H p so) : ∃ w', Ext w w' ∧ IE K mg fr w' env (st ++ [so]) σ H ∧ w'.m st.length = some p := by
  obtain ⟨⟨ho, e2, r⟩, z, m, nw⟩ := f.own
  have none_at : w.m st.length = none := by
    cases e : w.m st.length with
    | none => rfl
    | some a => exact absurd (I.g.dom _ a e) (Nat.lt_irrefl _)
  have at0 : ∀ n, (if n = st.length then some p else w.m n) = (if n = st.length then some p else w.m n) := fun _ => rfl
  let w' : Wd := ⟨w.Z, fun n => if n = st.length then some p else w.m n⟩
  have mm : ∀ {n a}, w'.m n = some a → (n = st.length ∧ a = p) ∨ (n ≠ st.length ∧ w.m n = some a) := fun {n a} e => by
    have e : (if n = st.length then some p else w.m n) = some a := e
    by_cases h : n = st.length
    · rw [if_pos h] at e
      cases e
      exact .inl ⟨h, rfl⟩
    · rw [if_neg h] at e
      exact .inr ⟨h, e⟩
  have x : Ext w w' := ⟨fun _ _ e => e, fun n a e => by
    have h : n ≠ st.length := fun q => by rw [q, none_at] at e; cases e
    show (if n = st.length then some p else w.m n) = some a
    rw [if_neg h]
    exact e⟩
  have mp : w'.m st.length = some p := if_pos rfl
  refine ⟨w', x, ⟨⟨I.g.sub, fun n a e => ?_, fun n o e => ?_, fun n n' a e e' => ?_⟩, ⟨fun b o e nl => I.k.old b o e fun n hn q => nl n hn (x.m _ _ q), fun n a hn e => ?_, I.k.fz⟩, I.s.len, fun i d e => ?_, fun i o e => ?_, I.s.ap, I.s.sf, fun i C fs e => ?_⟩, mp⟩
  · rw [List.length_append]
    show n < st.length + 1
    rcases mm e with ⟨h, _⟩ | ⟨_, h⟩
    · omega
    · have := I.g.dom n a h
      omega
  · by_cases h : n < st.length
    · rw [List.getElem?_append_left h] at e
      obtain ⟨b, hb, f1, f2, f3, f4⟩ := I.g.at_ n o e
      exact ⟨b, hb, x.m _ _ f1, f2, f3.ext x, f4⟩
    · have hn := mget_lt e
      rw [List.length_append] at hn
      have hn : n < st.length + 1 := hn
      have h2 : n = st.length := by omega
      subst h2
      rw [List.getElem?_append_right (Nat.le_refl _), Nat.sub_self] at e
      cases Option.some.inj e
      exact ⟨p, ho, mp, e2, r.ext x, z⟩
  · rcases mm e with ⟨h, ha⟩ | ⟨h, e⟩
    · rcases mm e' with ⟨h', _⟩ | ⟨h', e'⟩
      · rw [h, h']
      · rw [ha] at e'
        exact absurd e' (m n')
    · rcases mm e' with ⟨h', ha⟩ | ⟨h', e'⟩
      · rw [ha] at e
        exact absurd e (m n)
      · exact I.g.inj n n' a e e'
  · rcases mm e with ⟨_, ha⟩ | ⟨_, e⟩
    · rw [ha]
      exact nw
    · exact I.k.new n a hn e
  · obtain ⟨v, e1, r1⟩ := I.s.val i d e
    exact ⟨v, e1, r1.ext x⟩
  · obtain ⟨b, e1, y⟩ := I.s.own i o e
    obtain ⟨⟨h1, e3, r3⟩, y2, y3, y4⟩ := y
    refine ⟨b, e1, ⟨h1, e3, r3.ext x⟩, y2, fun n q => ?_, y4⟩
    rcases mm q with ⟨_, ha⟩ | ⟨_, q⟩
    · rw [ha] at e1
      exact f.ap i o e e1
    · exact y3 n q
  · obtain ⟨a, e1, r⟩ := I.s.er i C fs e
    exact ⟨a, e1, r.ext x⟩
end
end Dv

/-! DvJ: rules for objects that change: fresh ones, methods of lists, items stored. -/
namespace Dv
open PySem PySem.Spec PyProof.Rows L2 Cv
abbrev Df := Env' → Store → R SO
section
variable (K : PySem.W.Frag) (mg : Gm)
def posN (fr : Fr) (w : Wd) (env : Env') (σ : L2.St) (W : Wi) (Q : VK) : R SO → Prop
  | .ok so st => ∀ p H' w', Ext w w' → IE K mg fr w' env st σ H' → Fresh K mg fr w' env σ H' p so → Q (.ref p) H'
  | .ex C fs st => ∀ c dx H' w', Ext w w' → IE K mg fr w' env st σ H' → Flies K mg w' H' C fs c dx → W.w (.ref c) dx σ H'
  | .bad => False
def rdN (W : Wi) (F : Df) : TE := fun σ H Q => ∃ fr w env st, IE K mg fr w env st σ H ∧ posN K mg fr w env σ W Q (F env st)
end
def QN' (X : Cx) (W : Wi) (e : Expr) (F : Df) : Prop := PE X e (rdN X.K (W.g X) W F)
def fFrz (a : Df) : Dn := fun env st => (a env st).bind fun so s => .ok (soD so) s
def fRef (a : Df) : Dn := fun env st => (a env st).bind fun so s => .ok (.ref s.length) (s ++ [so])
def fLstN (a : Da) : Df := fun env st => (a env st).bind fun xs s => if xs.length ≤ sizeLine then .ok (.lst xs) s else .bad
def fDctN : Df := fun _ st => .ok (.dct []) st
def fListN (a : Dn) : Df := fun env st => (a env st).bind fun x s => match x with
  | .lst xs => .ok (.lst xs) s
  | .rol xs => .ok (.lst xs) s
  | .tup xs => .ok (.lst xs) s
  | .ref n => (match s[n]? with
    | some (.lst xs) => .ok (.lst xs) s
    | _ => .bad)
  | _ => .bad
def fSetN (i : Nat) (a : Df) : Ds := fun env st => match a env st with
  | .ok so s => .nx (env.set i (.own so)) s
  | .ex C fs s => .ex C fs env s
  | .bad => .bad
/-- slot i is frozen ahead of a statement -/
def fFrzS (i : Nat) (f : Ds) : Ds := fun env st => match env[i]? with
  | some (.own so) => f (env.set i (.val (soD so))) st
  | _ => f env st
section
variable {X : Cx} {W : Wi} {e : Expr} {es : List Expr} {Fs : Da} {Fe : Dn} {Fn : Df} {pos : Pos}
theorem posN_mono {K : PySem.W.Frag} {mg : Gm} {fr : Fr} {w w' : Wd} {env : Env'} {σ : L2.St} {Q : VK} {r : R SO} (x : Ext w w') (p : posN K mg fr w env σ W Q r) : posN K mg fr w' env σ W Q r := by
  cases r with
  | ok d s => exact fun v H' w2 x2 I q => p v H' w2 (x.trans x2) I q
  | ex C fs s => exact fun c dx H' w2 x2 I q => p c dx H' w2 (x.trans x2) I q
  | bad => exact p
theorem posN_bind {K : PySem.W.Frag} {mg : Gm} {fr : Fr} {w : Wd} {env : Env'} {σ : L2.St} {α β : Type} {rep : Wd → β → α → Prop} {Q : VK} {Q' : β → Hp → Prop} {r : R α} {k : α → Store → R SO} (q : posN K mg fr w env σ W Q (r.bind k))
    (h : ∀ a s, r = .ok a s → ∀ v H' w', Ext w w' → IE K mg fr w' env s σ H' → rep w' v a → posN K mg fr w' env σ W Q (k a s) → Q' v H') : posE K mg fr w env σ W rep Q' r := by
  cases r with
  | ok d s => exact fun v H' w2 x I r => h d s rfl v H' w2 x I r (posN_mono x q)
  | ex C fs s => exact q
  | bad => exact q
/-- a fresh list is made at p -/
theorem posN_new {K : PySem.W.Frag} {mg : Gm} {fr : Fr} {w : Wd} {env : Env'} {st : Store} {σ : L2.St} {H : Hp} {Q : VK} {so : SO} {p : Addr} {ho : HO} (q : posN K mg fr w env σ W Q (.ok so st)) (I : IE K mg fr w env st σ H) (hp : H p = none) (r : ORep K mg w ho so) : Q (.ref p) (upd H p ho) :=
  q p _ w Ext.refl (I.allocOwn hp r).1 (I.allocOwn hp r).2
theorem qn_lst (h : QA X W es Fs) : QN' X W (.List es pos) (fLstN Fs) :=
  peI (pe_lst h) fun σ H Q ⟨fr, w, env, st, I, q⟩ => ⟨fr, w, env, st, I, posN_bind q fun xs s _ vs H1 w1 x1 I1 r1 q1 => by
    split at q1
    · rename_i hl
      exact ⟨by rw [r1.length]; exact hl, fun p hp => posN_new q1 I1 hp (.lst r1)⟩
    · exact q1.elim⟩
theorem qn_dct : QN' X W (.Dict [] [] pos) fDctN := peI pe_dnewK fun σ H Q ⟨fr, w, env, st, I, q⟩ p hp => posN_new q I hp (.dct .nil)
theorem qn_list {c : Expr} (he : QE X W e Fe) (h : ∀ {te : TE}, PE X e te → PE X c (tCB (fun xs H Q => ∃ p ys, xs = [.ref p] ∧ (SqL X.K H p ys ∨ SqT X.K H p ys) ∧ ∀ l, H l = none → Q (.ref l) (upd H l (.lst ys))) (tCons te tNil))) : QN' X W c (fListN Fe) :=
  peI (h he) fun σ H Q ⟨fr, w, env, st, I, q⟩ => ⟨fr, w, env, st, I, posN_bind q fun x s _ v H1 w1 x1 I1 r q1 => by
    split at q1
    · cases r with
      | lst h r => exact ⟨_, _, rfl, .inl (.inl (.inl (I1.g.sub _ _ h))), fun l hl => posN_new q1 I1 hl (.lst r)⟩
    · cases r with
      | rol h r => exact ⟨_, _, rfl, .inl (I1.seqL h), fun l hl => posN_new q1 I1 hl (.lst r)⟩
    · cases r with
      | tup h r => exact ⟨_, _, rfl, .inr (I1.seqT h), fun l hl => posN_new q1 I1 hl (.lst r)⟩
    · cases r with
      | ref h =>
        split at q1
        · rename_i hs
          obtain ⟨vs, e, r⟩ := I1.atL h hs
          exact ⟨_, _, rfl, .inl (.inl (.inl e)), fun l hl => posN_new q1 I1 hl (.lst r)⟩
        · exact q1.elim
    · exact q1.elim⟩
theorem qe_frz (h : QN' X W e Fn) : QE X W e (fFrz Fn) := peI h fun σ H Q ⟨fr, w, env, st, I, q⟩ => ⟨fr, w, env, st, I, by
  unfold fFrz at q
  generalize Fn env st = r at *
  cases r with
  | ok so s =>
    intro p H' w' x I' f
    obtain ⟨w2, x2, I2, r2⟩ := I'.frzF f
    exact q _ H' w2 (x.trans x2) I2 r2
  | ex C fs s => exact q
  | bad => exact q⟩
theorem qe_ref (h : QN' X W e Fn) : QE X W e (fRef Fn) := peI h fun σ H Q ⟨fr, w, env, st, I, q⟩ => ⟨fr, w, env, st, I, by
  unfold fRef at q
  generalize Fn env st = r at *
  cases r with
  | ok so s =>
    intro p H' w' x I' f
    obtain ⟨w2, x2, I2, m2⟩ := I'.store f
    exact q _ H' w2 (x.trans x2) I2 (.ref m2)
  | ex C fs s => exact q
  | bad => exact q⟩
theorem qs_setN {i : Nat} (hi : 0 < i) {tg : Stmt} (h : ∀ {te : TE}, PE X e te → PS X tg (tAsg te (gName i))) (he : QN' X W e Fn) : QS X W tg (fSetN i Fn) := psI (h he) fun D σ H ⟨fr, w, env, st, I, q⟩ => ⟨fr, w, env, st, I, by
  unfold fSetN at q
  generalize Fn env st = r at *
  cases r with
  | ok so s => exact fun p H' w' x I' f => q _ H' w' x (I'.setOwn hi f)
  | ex C fs s => exact fun c dx H' w' x I' f => q c dx σ H' w' x I' f
  | bad => exact q⟩
theorem qs_frz {i : Nat} {s : Stmt} {F : Ds} (h : QS X W s F) : QS X W s (fFrzS i F) := psI h fun D σ H ⟨fr, w, env, st, I, q⟩ => by
  unfold fFrzS at q
  split at q
  · rename_i so he
    obtain ⟨w', x, I'⟩ := I.frz he
    exact ⟨fr, w', _, st, I', posS_mono x q⟩
  · exact ⟨fr, w, env, st, I, q⟩
end
/-! ### methods of lists -/
abbrev LM := List D → List D → Option (D × List D)
def LMS (K : PySem.W.Frag) (mg : Gm) (r : V → List V → Hp → VK → Prop) (g : LM) : Prop :=
  ∀ (H : Hp) (l : Addr) (vs : List V) (xs : List D) (args : List V) (ds : List D) (d : D) (ys : List D) (w : Wd) (Q : VK), (∀ a o, w.Z a = some o → H a = some o) → H l = some (.lst vs) → RepL K mg w vs xs → RepL K mg w args ds → g xs ds = some (d, ys) →
    (∀ v vs', Rep K mg w v d → RepL K mg w vs' ys → Q v (upd H l (.lst vs'))) → r (.ref l) args H Q
def lAppend : LM := fun xs ds => match ds with
  | [d] => if xs.length < sizeLine then some (.non, xs ++ [d]) else none
  | _ => none
def lExtend : LM := fun xs ds => match ds with
  | [.lst ys] => if xs.length + ys.length ≤ sizeLine then some (.non, xs ++ ys) else none
  | _ => none
def lReverse : LM := fun xs ds => match ds with
  | [] => some (.non, xs.reverse)
  | _ => none
def lClear : LM := fun xs ds => match ds with
  | [] => some (.non, [])
  | _ => none
def lInsert : LM := fun xs ds => match ds with
  | [.int i, d] => if xs.length < sizeLine ∧ 0 ≤ i ∧ i < 2 ^ 63 then some (.non, xs.take i.toNat ++ [d] ++ xs.drop i.toNat) else none
  | _ => none
def lPopAt : LM := fun xs ds => match ds with
  | [.int i] => if 0 ≤ i ∧ i < 2 ^ 63 then (match xs[i.toNat]? with | some y => some (y, xs.eraseIdx i.toNat) | none => none) else none
  | _ => none
def lPop : LM := fun xs ds => match ds with
  | [] => (match xs[xs.length - 1]? with | some y => some (y, xs.dropLast) | none => none)
  | _ => none
section
variable {K : PySem.W.Frag} {mg : Gm} {w : Wd}
theorem RepL.reverse : ∀ {vs : List V} {ds : List D}, RepL K mg w vs ds → RepL K mg w vs.reverse ds.reverse
  | _, _, .nil => .nil
  | _, _, .cons h r => by
    rw [List.reverse_cons, List.reverse_cons]
    exact r.reverse.append (.cons h .nil)
theorem RepL.erase : ∀ {vs : List V} {ds : List D} (n : Nat), RepL K mg w vs ds → RepL K mg w (vs.eraseIdx n) (ds.eraseIdx n)
  | _, _, _, .nil => .nil
  | _, _, 0, .cons _ r => r
  | _, _, n + 1, .cons h r => .cons h (r.erase n)
theorem RepL.dropLast : ∀ {vs : List V} {ds : List D}, RepL K mg w vs ds → RepL K mg w vs.dropLast ds.dropLast
  | _, _, .nil => .nil
  | _, _, .cons _ .nil => .nil
  | _, _, .cons h (.cons h2 r) => .cons h (RepL.dropLast (.cons h2 r))
theorem l_append : LMS K mg rAppend lAppend := fun H l vs xs args ds d ys w Q sub hl r ra hg k => by
  unfold lAppend at hg
  split at hg
  · split at hg
    · rename_i hz
      cases hg
      cases ra with
      | cons h ra =>
        cases ra
        exact ⟨l, vs, _, rfl, rfl, hl, by rw [r.length]; exact hz, k _ _ .non (r.append (.cons h .nil))⟩
    · cases hg
  · cases hg
theorem l_extend : LMS K mg rExtend lExtend := fun H l vs xs args ds d ys w Q sub hl r ra hg k => by
  unfold lExtend at hg
  split at hg
  · split at hg
    · rename_i hz
      cases hg
      cases ra with
      | cons h ra =>
        cases ra
        cases h with
        | lst hb rb => exact ⟨l, _, vs, _, rfl, rfl, hl, sub _ _ hb, by rw [r.length, rb.length]; exact hz, k _ _ .non (r.append rb)⟩
    · cases hg
  · cases hg
theorem l_reverse : LMS K mg rReverse lReverse := fun H l vs xs args ds d ys w Q sub hl r ra hg k => by
  unfold lReverse at hg
  split at hg
  · cases hg
    cases ra
    exact ⟨l, vs, rfl, rfl, hl, k _ _ .non r.reverse⟩
  · cases hg
theorem l_clear : LMS K mg rClear lClear := fun H l vs xs args ds d ys w Q sub hl r ra hg k => by
  unfold lClear at hg
  split at hg
  · cases hg
    cases ra
    exact ⟨l, vs, rfl, rfl, hl, k _ _ .non .nil⟩
  · cases hg
theorem l_insert : LMS K mg (fun x vs H Q => ∃ (l : Addr) (xs : List V) (i : Int) (y : V), x = .ref l ∧ vs = [.int i, y] ∧ H l = some (.lst xs) ∧ xs.length < sizeLine ∧ 0 ≤ i ∧ i < 2 ^ 63 ∧ Q .non (upd H l (.lst (xs.take i.toNat ++ [y] ++ xs.drop i.toNat)))) lInsert := fun H l vs xs args ds d ys w Q sub hl r ra hg k => by
  unfold lInsert at hg
  split at hg
  · split at hg
    · rename_i hz
      cases hg
      cases ra with
      | cons h ra =>
        cases ra with
        | cons h2 ra =>
          cases ra
          cases h
          exact ⟨l, vs, _, _, rfl, rfl, hl, by rw [r.length]; exact hz.1, hz.2.1, hz.2.2, k _ _ .non (((r.take _).append (.cons h2 .nil)).append (r.drop _))⟩
    · cases hg
  · cases hg
theorem seqIx_nn {i : Int} {n : Nat} (h : 0 ≤ i) (h2 : i < n) : seqIndex? i n = some i.toNat := (ixN_seq (by unfold ixN; rw [if_pos h, if_pos h2])).1
theorem l_popAt : LMS K mg rPopAt lPopAt := fun H l vs xs args ds d ys w Q sub hl r ra hg k => by
  unfold lPopAt at hg
  split at hg
  · split at hg
    · rename_i hz
      split at hg
      · rename_i y hy
        cases hg
        cases ra with
        | cons h ra =>
          cases ra
          cases h
          obtain ⟨v, e, rv⟩ := r.get hy
          have hn := mget_lt e
          exact ⟨l, vs, _, _, v, rfl, rfl, hl, by omega, hz.2, seqIx_nn hz.1 (by omega), e, k _ _ rv (r.erase _)⟩
      · cases hg
    · cases hg
  · cases hg
theorem l_pop : LMS K mg rPop lPop := fun H l vs xs args ds d ys w Q sub hl r ra hg k => by
  unfold lPop at hg
  split at hg
  · split at hg
    · rename_i y hy
      cases hg
      cases ra
      obtain ⟨v, e, rv⟩ := r.get hy
      exact ⟨l, vs, v, rfl, rfl, hl, by rw [r.length]; exact e, k _ _ rv r.dropLast⟩
    · cases hg
  · cases hg
end
/-- x.m(..), x the list of slot i, its answer dropped -/
def fOwnM (i : Nat) (g : LM) (a : Da) : Ds := fun env st => match env[i]? with
  | some (.own (.lst xs)) => (match a env st with
    | .ok ds s => (match g xs ds with
      | some (_, ys) => .nx (env.set i (.own (.lst ys))) s
      | none => .bad)
    | .ex C fs s => .ex C fs env s
    | .bad => .bad)
  | _ => .bad
/-- o.m(..), o a list of the store -/
def fRefM (g : LM) (o : Dn) (a : Da) : Dn := fun env st => (o env st).bind fun x s => match x with
  | .ref n => (match s[n]? with
    | some (.lst _) => (a env s).bind fun ds s2 => (match s2[n]? with
      | some (.lst xs) => (match g xs ds with
        | some (d, ys) => .ok d (s2.set n (.lst ys))
        | none => .bad)
      | _ => .bad)
    | _ => .bad)
  | _ => .bad
section
variable {X : Cx} {W : Wi} {c o : Expr} {es : List Expr} {Fo : Dn} {Fs : Da} {s : Stmt}
theorem rd_ownM {i : Nat} {r : V → List V → Hp → VK → Prop} {g : LM} (hs : LMS X.K (W.g X) r g) {D : Ends} {σ : L2.St} {H : Hp} (h : rdS X.K (W.g X) W (fOwnM i g Fs) D σ H) : tDrop (tBM X.K "list" r (tVar i) (rdA X.K (W.g X) W Fs)) D σ H := by
  obtain ⟨fr, w, env, st, I, q⟩ := h
  unfold fOwnM at q
  split at q
  · rename_i xs he
    obtain ⟨a, e1, ⟨ho, e2, r1⟩, _⟩ := I.s.own i _ he
    cases r1 with
    | lst r1 =>
      refine ⟨_, e1, .inl ⟨rfl, _, .inl (.inl e2)⟩, fr, w, env, st, I, ?_⟩
      generalize Fs env st = t at *
      cases t with
      | ok ds s =>
        intro args H' w' x I' ra
        obtain ⟨b, f1, ⟨hb, f2, r2⟩, _⟩ := I'.s.own i _ he
        rw [e1] at f1
        cases f1
        cases r2 with
        | lst r2 =>
          have q2 := posS_mono x q
          clear q
          revert q2
          dsimp only
          cases hg : g xs ds with
          | none => exact fun z => z.elim
          | some p =>
            obtain ⟨d, ys⟩ := p
            intro q
            exact hs H' a _ xs args ds d ys w' _ I'.g.sub f2 r2 ra hg fun v vs' _ rv => q σ _ w' Ext.refl (I'.mutOwn he e1 (.lst rv))
      | ex C fs s => exact fun c dx H' w' x I' f => q c dx σ H' w' x I' f
      | bad => exact q
  · exact q.elim
theorem qs_ownM {i : Nat} {r : V → List V → Hp → VK → Prop} {g : LM} (hs : LMS X.K (W.g X) r g) (ha : QA X W es Fs) (h : ∀ {t : TA}, PA X es t → PS X s (tDrop (tBM X.K "list" r (tVar i) t))) : QS X W s (fOwnM i g Fs) := psI (h ha) fun D σ H h => rd_ownM hs h
theorem qs_ownM0 {i : Nat} {r : V → List V → Hp → VK → Prop} {g : LM} (hs : LMS X.K (W.g X) r g) (h : PS X s (tDrop (tBM0 X.K "list" r (tVar i)))) : QS X W s (fOwnM i g fNil) := psI h fun D σ H h => by
  obtain ⟨v, e, t, fr, w, env, st, I, q⟩ := rd_ownM hs h
  exact ⟨v, e, t, q [] H w Ext.refl I .nil⟩
theorem rd_refM {r : V → List V → Hp → VK → Prop} {g : LM} (hs : LMS X.K (W.g X) r g) {σ : L2.St} {H : Hp} {Q : VK} (h : rdE X.K (W.g X) W (fRefM g Fo Fs) σ H Q) : tBM X.K "list" r (rdE X.K (W.g X) W Fo) (rdA X.K (W.g X) W Fs) σ H Q := by
  obtain ⟨fr, w, env, st, I, q⟩ := h
  refine ⟨fr, w, env, st, I, pos_bind q fun x s _ v H1 w1 x1 I1 r1 q1 => ?_⟩
  split at q1
  · rename_i n
    cases r1 with
    | ref hm =>
      split at q1
      · rename_i xs0 hs0
        obtain ⟨vs0, e0, r0⟩ := I1.atL hm hs0
        refine ⟨.inl ⟨rfl, _, .inl (.inl e0)⟩, fr, w1, env, s, I1, pos_bind q1 fun ds s2 _ args H2 w2 x2 I2 ra q2 => ?_⟩
        split at q2
        · rename_i xs hs2
          have hm2 := x2.m _ _ hm
          obtain ⟨vs, e2, r2⟩ := I2.atL hm2 hs2
          split at q2
          · rename_i d ys hg
            exact hs H2 _ vs xs args ds d ys w2 _ I2.g.sub e2 r2 ra hg fun v vs' rd rv => q2 _ _ w2 Ext.refl (I2.put hm2 (.lst rv)) rd
          · exact q2.elim
        · exact q2.elim
      · exact q1.elim
  · exact q1.elim
theorem qe_refM {r : V → List V → Hp → VK → Prop} {g : LM} (hs : LMS X.K (W.g X) r g) (ho : QE X W o Fo) (ha : QA X W es Fs) (h : ∀ {to : TE} {t : TA}, PE X o to → PA X es t → PE X c (tBM X.K "list" r to t)) : QE X W c (fRefM g Fo Fs) := peI (h ho ha) fun σ H Q h => rd_refM hs h
theorem qe_refM0 {r : V → List V → Hp → VK → Prop} {g : LM} (hs : LMS X.K (W.g X) r g) (ho : QE X W o Fo) (h : ∀ {to : TE}, PE X o to → PE X c (tBM0 X.K "list" r to)) : QE X W c (fRefM g Fo fNil) := peI (h ho) fun σ H Q h => by
  obtain ⟨fr, w, env, st, I, q⟩ := rd_refM hs h
  refine ⟨fr, w, env, st, I, ?_⟩
  generalize Fo env st = t at *
  cases t with
  | ok d s =>
    intro v H' w' x I' r
    obtain ⟨t, fr2, w2, env2, st2, I2, q2⟩ := q v H' w' x I' r
    exact ⟨t, q2 [] H' w2 Ext.refl I2 .nil⟩
  | ex C fs s => exact q
  | bad => exact q
end
/-! ### items stored -/
def putAt (d x k : D) (s : Store) : R D := match x, k with
  | .ref n, .int j => (match s[n]? with
    | some (.lst xs) => (match ixN xs.length j with
      | some m => .ok .non (s.set n (.lst (xs.set m d)))
      | none => .bad)
    | _ => .bad)
  | _, _ => .bad
/-- o[i] = e, o a list of the store -/
def fPutE (o i e : Dn) : Dn := fun env st => (e env st).bind fun d s => (o env s).bind fun x s2 => (i env s2).bind fun k s3 => putAt d x k s3
def fPut (o i e : Dn) : Ds := fExpr (fPutE o i e)
/-- x[i] = e, x the list of slot n -/
def fPutOwn (n : Nat) (i e : Dn) : Ds := fun env st => match env[n]? with
  | some (.own (.lst xs)) => (match e env st with
    | .ok d s => (match i env s with
      | .ok (.int j) s2 => (match ixN xs.length j with
        | some m => .nx (env.set n (.own (.lst (xs.set m d)))) s2
        | none => .bad)
      | .ok _ _ => .bad
      | .ex C fs s2 => .ex C fs env s2
      | .bad => .bad)
    | .ex C fs s => .ex C fs env s
    | .bad => .bad)
  | _ => .bad
section
variable {X : Cx} {W : Wi} {e o i : Expr} {Fe Fo Fi : Dn} {s : Stmt}
theorem posS_expr {K : PySem.W.Frag} {mg : Gm} {fr : Fr} {w : Wd} {env : Env'} {st : Store} {σ : L2.St} {N : Ends} {F : Dn} (q : posS K mg fr w W N (fExpr F env st)) : posE K mg fr w env σ W (Rep K mg) (fun _ H' => N.nx σ H') (F env st) := by
  unfold fExpr at q
  generalize F env st = t at *
  cases t with
  | ok d s => exact fun v H' w' x I' _ => q σ H' w' x I'
  | ex C fs s => exact fun c dx H' w' x I' f => q c dx σ H' w' x I' f
  | bad => exact q
theorem qs_put (he : QE X W e Fe) (ho : QE X W o Fo) (hi : QE X W i Fi) (h : ∀ {te to ti : TE}, PE X e te → PE X o to → PE X i ti → PS X s (tAsg te (gSub to ti rSetL))) : QS X W s (fPut Fo Fi Fe) := psI (h he ho hi) fun N σ H ⟨fr, w, env, st, I, q⟩ =>
  ⟨fr, w, env, st, I, pos_bind (posS_expr q) fun d s _ v H1 w1 x1 I1 r1 q1 => ⟨fr, w1, env, s, I1, pos_bind q1 fun x s2 _ u H2 w2 x2 I2 r2 q2 => ⟨fr, w2, env, s2, I2, pos_bind q2 fun k s3 _ t H3 w3 x3 I3 r3 q3 => by
  unfold putAt at q3
  split at q3
  · split at q3
    · rename_i hs
      split at q3
      · rename_i m hm
        cases r2 with
        | ref hr =>
          cases r3
          have hr3 := x3.m _ _ hr
          obtain ⟨vs, e3, rv⟩ := I3.atL hr3 hs
          exact ⟨_, vs, _, m, rfl, rfl, e3, by rw [rv.length]; exact hm, q3 .non _ w3 Ext.refl (I3.put hr3 (.lst (rv.set m ((r1.ext x2).ext x3)))) .non⟩
      · exact q3.elim
    · exact q3.elim
  · exact q3.elim⟩⟩⟩
theorem qs_putOwn {n : Nat} (he : QE X W e Fe) (hi : QE X W i Fi) (h : ∀ {te ti : TE}, PE X e te → PE X i ti → PS X s (tAsg te (gSub (tVar n) ti rSetL))) : QS X W s (fPutOwn n Fi Fe) := psI (h he hi) fun N σ H ⟨fr, w, env, st, I, q⟩ => by
  unfold fPutOwn at q
  split at q
  rotate_left
  · exact q.elim
  rename_i xs hen
  obtain ⟨a, e1, _⟩ := I.s.own n _ hen
  refine ⟨fr, w, env, st, I, ?_⟩
  revert q
  cases Fe env st with
  | bad => exact fun q => q
  | ex C fs s => exact fun q c dx H' w' x I' f => q c dx σ H' w' x I' f
  | ok d s =>
    intro q v H1 w1 x1 I1 r1
    refine ⟨_, e1, fr, w1, env, s, I1, ?_⟩
    have q := posS_mono x1 q
    revert q
    dsimp only
    cases Fi env s with
    | bad => exact fun q => q
    | ex C fs s2 => exact fun q c dx H' w' x I' f => q c dx σ H' w' x I' f
    | ok k s2 =>
      intro q t H2 w2 x2 I2 r2
      have q := posS_mono x2 q
      cases r2 <;> first | exact q.elim | skip
      rename_i j q0
      dsimp only at q
      split at q
      · rename_i m hm
        obtain ⟨b, f1, ⟨hb, f2, r3⟩, _⟩ := I2.s.own n _ hen
        rw [e1] at f1
        cases f1
        cases r3 with
        | lst r3 => exact ⟨a, _, _, m, rfl, rfl, f2, by rw [r3.length]; exact hm, q σ _ w2 Ext.refl (I2.mutOwn hen e1 (.lst (r3.set m (r1.ext x2))))⟩
      · exact q.elim
end
end Dv

/-! DvK: own classes: attributes, __init__, new instances, methods, properties. -/
namespace Dv
open PySem PySem.Spec PyProof.Rows L2 Cv
/-! ### calls whose wish looks at the slots -/
section
variable {X : Cx} {CX : CXT} {k n : Nat} {f C : Addr} {fd : FuncData} {ps ks : List Str} {sp : Sp} {dvs : List V} {ds : List Value} {E : L2.St → XK} {x m : Str} {p pos apos : Pos} {e o : Expr} {es : List Expr} {t tk : TA} {ta : TE} {kws : List Keyword}
  {g : List Value → List Value → List Value} {gV : List V → List V → List V}
theorem mk_run {pins : List (Addr × Obj)} {σ : L2.St} {H : Hp} {s : Shared} {Q : VK} {us : List Value} {kw : List (Str × Value)} {uu : Addr → List Value} {vv : Addr → List V} (M : Mk X.K C f) (F : FnOk X.prog X.w X.K X.mg X.base CX k f fd ps sp) (room : Room (k + 1) X.A)
    (bi : ∀ (a : Addr) (s : Shared), X.K.In s.heap → BindsTo s fd ⟨.ref a :: us, kw⟩ (ps.zip (uu a))) (rr : ∀ a, Vals (vv a) (uu a)) (pass : PassesAt CX X σ (E σ)) (I : Inv X pins σ H s)
    (want : ∀ a d, H a = none → H d = none → d ≠ a → sp (vv a) (upd (upd H d (.own a)) a (.ins C d [])) (fun v G => v = .non ∧ Q (.ref a) G) (E σ)) : wpAny (model X.prog X.w) X.A (call (.ref C) us kw) (EP X pins σ Q) X.xe s := by
  have go := want (s.heap.objs.size + 1) s.heap.objs.size (I.hok.fresh (Nat.le_succ _)) (I.hok.fresh (Nat.le_refl _)) (Nat.ne_of_lt (Nat.lt_succ_self _))
  have J := Inv.made (C := C) I
  refine wpAny_call (make_map (f := f) I.kIn M.makes M.init (beq_iff_eq.mp M.fn) (codeAny_mono (F.run _ X.stack _ _ ⟨Value.ref (s.heap.objs.size + 1) :: us, kw⟩ _ _ _ (E σ) (room.make C us kw) (J.env0.make C us kw) (bi _ _ J.kIn) (rr _) go) ?_))
  rintro (er | fl) s' out
  · exact pass pins _ _ er s' J out
  · cases fl with
    | ret u =>
      obtain ⟨v, G, L, rv, ev, q⟩ := J.after out
      subst ev
      exact ⟨rv, ⟨V.ref (s.heap.objs.size + 1), G, L, rfl, q⟩⟩
    | next => exact out.elim
    | brk => exact out.elim
    | cont => exact out.elim
def tMkS (C : Addr) (sp : Sp) (dvs : List V) (E : L2.St → XK) (t : TA) : TE := fun σ H Q => t σ H fun vs G => ∀ a d, G a = none → G d = none → d ≠ a →
  sp (.ref a :: (vs ++ dvs)) (upd (upd G d (.own a)) a (.ins C d [])) (fun v K => v = .non ∧ Q (.ref a) K) (E σ)
theorem vals_len {vs : List V} {us : List Value} {F : FnOk X.prog X.w X.K X.mg X.base CX k f fd ps sp} {H : Hp} {Q : VK} {E : XK} (r : Vals vs us) (h : sp vs H Q E) : us.length = ps.length := r.length.symm.trans (F.len _ _ _ _ h)
/-- C(e, ..) -/
theorem pe_mkS (M : Mk X.K C f) (F : FnOk X.prog X.w X.K X.mg X.base CX k f fd ps sp) (room : Room (k + 1) X.A) (hg : Gl X x) (hm : X.mg x = some (.ref C)) (bi : Binds X.K fd ps ds) (rd : Vals dvs ds) (pass : ∀ σ, PassesAt CX X σ (E σ))
    (ha : PA X (e :: es) t) (h1 : (x == ("__debug__" : Str)) = false := by decide) (h2 : starEach (e :: es) X.env = (false, eval e X.env) :: starEach es X.env := by rfl) (h3 : (backTo pos (starEach es X.env)).any (·.1) = false := by rfl) :
    PE X (.Call (.Name x p) (e :: es) [] pos) (tMkS C sp dvs E t) := by
  refine ⟨fun pins s σ H Q I h => wpAny_Call_Name_kw (ld_glob I hg hm (PySem.W.callWith_K (h₀ := X.base) I.ok.mod.kin M.kp (thn (ha.run pos pins s σ H _ I h) fun us s1 ⟨vs, G, J, r, q⟩ => ⟨J.kIn, ?_⟩) h2 h3) h1)⟩
  have go := q (s1.heap.objs.size + 1) s1.heap.objs.size (J.hok.fresh (Nat.le_succ _)) (J.hok.fresh (Nat.le_refl _)) (Nat.ne_of_lt (Nat.lt_succ_self _))
  have r2 : ∀ a : Addr, Vals (V.ref a :: (vs ++ dvs)) (Value.ref a :: (us ++ ds)) := fun a => .cons rfl (r.append rd)
  have ll : (us ++ ds).length + 1 = ps.length := (r2 (s1.heap.objs.size + 1)).length.symm.trans (F.len _ _ _ _ go)
  exact mk_run M F room (uu := fun a => Value.ref a :: (us ++ ds)) (vv := fun a => V.ref a :: (vs ++ dvs)) (fun a s2 hK => bi s2 (Value.ref a :: us) hK ll) r2 (pass σ) J q
def tMkKS (C : Addr) (n m : Nat) (sp : Sp) (gV : List V → List V → List V) (E : L2.St → XK) (t tk : TA) : TE := fun σ H Q => t σ H fun vs G => tk σ G fun zs G => vs.length = n ∧ zs.length = m ∧ ∀ a d, G a = none → G d = none → d ≠ a →
  sp (gV (.ref a :: vs) zs) (upd (upd G d (.own a)) a (.ins C d [])) (fun v K => v = .non ∧ Q (.ref a) K) (E σ)
/-- C(e, .., k = v, ..) -/
theorem pe_mkKS (M : Mk X.K C f) (F : FnOk X.prog X.w X.K X.mg X.base CX k f fd ps sp) (room : Room (k + 1) X.A) (hg : Gl X x) (hm : X.mg x = some (.ref C)) (hb : KBn X.K fd ps (n + 1) ks g gV) (pass : ∀ σ, PassesAt CX X σ (E σ))
    (ha : PA X (e :: es) t) (hkw : PK X kws tk) (h4 : (backToKw pos (keywordEach kws X.env)).all (·.1.isSome) = true := by rfl) (h5 : (backToKw pos (keywordEach kws X.env)).filterMap (·.1) = ks := by rfl)
    (h1 : (x == ("__debug__" : Str)) = false := by decide) (h2 : starEach (e :: es) X.env = (false, eval e X.env) :: starEach es X.env := by rfl)
    (h3 : ((backTo pos (starEach (e :: es) X.env)).any (·.1) || (backToKw pos (keywordEach kws X.env)).any (·.1.isNone)) = false := by rfl) : PE X (.Call (.Name x p) (e :: es) kws pos) (tMkKS C n ks.length sp gV E t tk) := by
  refine ⟨fun pins s σ H Q I h => wpAny_Call_Name_kw (ld_glob I hg hm (PySem.W.callWith_KW (h₀ := X.base) I.ok.mod.kin M.kp h4 (thn (ha.run pos pins s σ H _ I h) fun us s1 ⟨vs, G, J, r, q⟩ => ?_) h3 h2) h1)⟩
  refine thn (hkw.run pos pins s1 σ G _ J q) fun ws s2 ⟨zs, G2, J2, rz, l1, l2, q2⟩ => ⟨J2.kIn, ?_⟩
  rw [h5]
  refine mk_run M F room (uu := fun a => g (Value.ref a :: us) ws) (vv := fun a => gV (V.ref a :: vs) zs) (fun a s3 hK => hb.to s3 (Value.ref a :: us) ws hK ?_ ?_) (fun a => hb.rel (.cons rfl r) rz) (pass σ) J2 q2
  · exact congrArg Nat.succ (r.length.symm.trans l1)
  · exact rz.length.symm.trans l2
/-- C(k = v, ..) -/
theorem pe_mkKS0 (M : Mk X.K C f) (F : FnOk X.prog X.w X.K X.mg X.base CX k f fd ps sp) (room : Room (k + 1) X.A) (hg : Gl X x) (hm : X.mg x = some (.ref C)) (hb : KBn X.K fd ps (0 + 1) ks g gV) (pass : ∀ σ, PassesAt CX X σ (E σ))
    (hkw : PK X kws tk) (h4 : (backToKw pos (keywordEach kws X.env)).all (·.1.isSome) = true := by rfl) (h5 : (backToKw pos (keywordEach kws X.env)).filterMap (·.1) = ks := by rfl)
    (h1 : (x == ("__debug__" : Str)) = false := by decide) (h3 : ((backTo pos (starEach [] X.env)).any (·.1) || (backToKw pos (keywordEach kws X.env)).any (·.1.isNone)) = false := by rfl) :
    PE X (.Call (.Name x p) [] kws pos) (tMkKS C 0 ks.length sp gV E tNil tk) := by
  refine ⟨fun pins s σ H Q I h => wpAny_Call_Name_kw (ld_glob I hg hm (PySem.W.callWith_KW0 (h₀ := X.base) I.ok.mod.kin M.kp h4 (thn (hkw.run pos pins s σ H _ I h) fun ws s2 ⟨zs, G2, J2, rz, l1, l2, q2⟩ => ⟨J2.kIn, ?_⟩) h3) h1)⟩
  rw [h5]
  exact mk_run M F room (us := []) (uu := fun a => g (Value.ref a :: []) ws) (vv := fun a => gV (V.ref a :: []) zs) (fun a s3 hK => hb.to s3 (Value.ref a :: []) ws hK rfl (rz.length.symm.trans l2)) (fun a => hb.rel (.cons rfl .nil) rz) (pass σ) J2 q2
/-- o.m(e, ..) -/
def tMethS (C : Addr) (m : Str) (sp : Sp) (dvs : List V) (E : L2.St → XK) (ta : TE) (t : TA) : TE := fun σ H Q => ta σ H fun x G => ∃ a dx fs, x = .ref a ∧ G a = some (.ins C dx fs) ∧ fs.lookup m = none ∧ t σ G fun vs G2 => sp (x :: (vs ++ dvs)) G2 Q (E σ)
theorem pe_methS {pl : Sem Bool} (ho : PE X o ta) (c : Cls X.K C) (hm : Meth X.K C m f) (F : FnOk X.prog X.w X.K X.mg X.base CX k f fd ps sp) (room : Room k X.A) (bi : Binds X.K fd ps ds) (rd : Vals dvs ds) (pass : ∀ σ, PassesAt CX X σ (E σ)) (ha : PA X (e :: es) t)
    (h2 : starEach (e :: es) X.env = (false, eval e X.env) :: starEach es X.env := by rfl) (h3 : (backTo pos (starEach es X.env)).any (·.1) = false := by rfl)
    (h1 : eval (.Call (.Attribute o m apos) (e :: es) [] pos) X.env = (do
      let v ← eval o X.env
      standAt apos.atName
      let (f, first) ← holding [v] (getMethod v m pl)
      callWith pos f first (backTo pos (starEach (e :: es) X.env)) (backToKw pos (keywordEach [] X.env))) := by rfl) : PE X (.Call (.Attribute o m apos) (e :: es) [] pos) (tMethS C m sp dvs E ta t) := by
  refine ⟨fun pins s σ H Q I h => PySem.W.methodCall_KW (pl := pl) (thn (ho.run pins s σ H _ I h) fun u s1 ⟨y, G, J, ry, a, d, fs, ey, ea, l, q⟩ => ?_) h1⟩
  subst ey
  obtain rfl : u = Value.ref a := ry
  refine getmeth_ok J ea c hm l (PySem.W.callWith_K (first := [.ref a]) (h₀ := X.base) I.ok.mod.kin hm.kp (thn (ha.run pos pins s1 σ G _ J q) fun us s2 ⟨vs, G2, J2, r, q2⟩ => ⟨J2.kIn, ?_⟩) h2 h3)
  exact run_fnSD (us := .ref a :: us) (vs := .ref a :: vs) F room bi rd (pass σ) J2 (.cons rfl r) q2
theorem pe_methS0 {pl : Sem Bool} (ho : PE X o ta) (c : Cls X.K C) (hm : Meth X.K C m f) (F : FnOk X.prog X.w X.K X.mg X.base CX k f fd ps sp) (room : Room k X.A) (bi : Binds X.K fd ps ds) (rd : Vals dvs ds) (pass : ∀ σ, PassesAt CX X σ (E σ))
    (h1 : eval (.Call (.Attribute o m apos) [] [] pos) X.env = (do
      let v ← eval o X.env
      standAt apos.atName
      let (f, first) ← holding [v] (getMethod v m pl)
      callWith pos f first (backTo pos (starEach [] X.env)) (backToKw pos (keywordEach [] X.env))) := by rfl) : PE X (.Call (.Attribute o m apos) [] [] pos) (tMethS C m sp dvs E ta tNil) := by
  refine ⟨fun pins s σ H Q I h => PySem.W.methodCall_KW (pl := pl) (thn (ho.run pins s σ H _ I h) fun u s1 ⟨y, G, J, ry, a, d, fs, ey, ea, l, q⟩ => ?_) h1⟩
  subst ey
  obtain rfl : u = Value.ref a := ry
  refine getmeth_ok J ea c hm l (PySem.W.callWith_K0 (first := [.ref a]) J.kIn hm.kp ?_)
  exact run_fnSD (us := .ref a :: []) (vs := .ref a :: []) F room bi rd (pass σ) J (.cons rfl .nil) q
end
/-! ### attributes -/
def putD (f : Str) (d : D) : List (Str × D) → List (Str × D)
  | [] => [(f, d)]
  | (g, x) :: r => if g = f then (g, d) :: r else (g, x) :: putD f d r
theorem repF_put {K : PySem.W.Frag} {mg : Gm} {w : Wd} {f : Str} {v : V} {d : D} (h : Rep K mg w v d) : ∀ {vs : List (Str × V)} {ds : List (Str × D)}, RepF K mg w vs ds → RepF K mg w (putF f v vs) (putD f d ds)
  | _, _, .nil => .cons h .nil
  | (g, x) :: r, _, .cons h2 rr => by
    unfold putF putD
    split
    · exact .cons h rr
    · exact .cons h2 (repF_put h rr)
theorem repF_len {K : PySem.W.Frag} {mg : Gm} {w : Wd} : ∀ {vs : List (Str × V)} {ds : List (Str × D)}, RepF K mg w vs ds → vs.length = ds.length
  | _, _, .nil => rfl
  | _, _, .cons _ r => by rw [List.length_cons, List.length_cons, repF_len r]
theorem repF_none {K : PySem.W.Frag} {mg : Gm} {w : Wd} {f : Str} : ∀ {vs : List (Str × V)} {ds : List (Str × D)}, RepF K mg w vs ds → ds.lookup f = none → vs.lookup f = none
  | _, _, .nil, _ => rfl
  | (g, x) :: r, _, .cons h rr, e => by
    rw [List.lookup_cons] at e ⊢
    split at e
    · cases e
    · exact repF_none rr e
/-- the classes of Cs have no attribute f of their own -/
def FldOk (K : PySem.W.Frag) (mg : Gm) (Cs : List Str) (f : Str) : Prop := ∀ C ∈ Cs, ∀ c, mg.f C = some (.ref c) → Cls K c ∧ NoAttr K c f
def attrD (f : Str) (Cs : List Str) : D → Store → R D
  | .ins C fs, st => if C ∈ Cs then (match fs.lookup f with | some d => .ok d st | none => .bad) else .bad
  | .ref n, st => (match st[n]? with
    | some (.ins C fs) => if C ∈ Cs then (match fs.lookup f with | some d => .ok d st | none => .bad) else .bad
    | _ => .bad)
  | _, _ => .bad
/-- the attribute of the new instance in slot i -/
def fSelf (i : Nat) (f : Str) (Cs : List Str) : Dn := fun env st => match env[i]? with
  | some (.own (.ins C fs)) => if C ∈ Cs then (match fs.lookup f with | some d => .ok d st | none => .bad) else .bad
  | _ => .bad
def fSelfPut (i : Nat) (f : Str) (Cs : List Str) (a : Dn) : Ds := fun env st => match env[i]? with
  | some (.own (.ins C fs)) => (match a env st with
    | .ok d s => if C ∈ Cs ∧ fs.length < 1000 then .nx (env.set i (.own (.ins C (putD f d fs)))) s else .bad
    | .ex C fs s => .ex C fs env s
    | .bad => .bad)
  | _ => .bad
/-- o.f = e, o an instance of the store -/
def putFld (f : Str) (Cs : List Str) (d x : D) (s : Store) : R D := match x with
  | .ref n => (match s[n]? with
    | some (.ins C fs) => if C ∈ Cs ∧ fs.length < 1000 then .ok .non (s.set n (.ins C (putD f d fs))) else .bad
    | _ => .bad)
  | _ => .bad
def fFldPut (f : Str) (Cs : List Str) (o a : Dn) : Ds := fExpr fun env st => (a env st).bind fun d s => (o env s).bind fun x s2 => putFld f Cs d x s2
section
variable {K : PySem.W.Frag} {mg : Gm} {fr : Fr} {w : Wd} {env : Env'} {st : Store} {σ : L2.St} {H : Hp}
theorem IE.atI (I : IE K mg fr w env st σ H) {a : Addr} {n : Nat} {C : Str} {fs : List (Str × D)} (hm : w.m n = some a) (hs : st[n]? = some (.ins C fs)) : ∃ c dx vs, mg.f C = some (.ref c) ∧ H a = some (.ins c dx vs) ∧ RepF K mg w vs fs := by
  obtain ⟨b, ho, e1, e2, e3, _⟩ := I.g.at_ n _ hs
  rw [hm] at e1
  cases e1
  cases e3 with
  | ins hc r => exact ⟨_, _, _, hc, e2, r⟩
/-- an instance, frozen or in the store -/
theorem IE.ins (I : IE K mg fr w env st σ H) {v : V} {d : D} (r : Rep K mg w v d) {C : Str} {fs : List (Str × D)} (h : d = .ins C fs ∨ ∃ n, d = .ref n ∧ st[n]? = some (.ins C fs)) : ∃ a c dx vs, v = .ref a ∧ mg.f C = some (.ref c) ∧ H a = some (.ins c dx vs) ∧ RepF K mg w vs fs := by
  rcases h with rfl | ⟨n, rfl, hs⟩
  · cases r with
    | ins hc hz rf => exact ⟨_, _, _, _, rfl, hc, I.g.sub _ _ hz, rf⟩
  · cases r with
    | ref hm =>
      obtain ⟨c, dx, vs, hc, e, rf⟩ := I.atI hm hs
      exact ⟨_, c, dx, vs, rfl, hc, e, rf⟩
end
section
variable {X : Cx} {W : Wi} {e o c : Expr} {Fe Fo : Dn} {s : Stmt} {f : Str} {Cs : List Str}
theorem attr_at {fr : Fr} {w : Wd} {env : Env'} {st : Store} {σ : L2.St} {H : Hp} {Q : VK} {v : V} {d : D} (hf : FldOk X.K (W.g X) Cs f) (I : IE X.K (W.g X) fr w env st σ H) (r : Rep X.K (W.g X) w v d) (q : posE X.K (W.g X) fr w env σ W (Rep X.K (W.g X)) Q (attrD f Cs d st)) :
    ∃ a C dx fs u, v = .ref a ∧ H a = some (.ins C dx fs) ∧ Cls X.K C ∧ NoAttr X.K C f ∧ fs.lookup f = some u ∧ Q u H := by
  have key : ∀ C fs, (d = .ins C fs ∨ ∃ n, d = .ref n ∧ st[n]? = some (.ins C fs)) → posE X.K (W.g X) fr w env σ W (Rep X.K (W.g X)) Q (if C ∈ Cs then (match fs.lookup f with | some d => .ok d st | none => .bad) else .bad) → ∃ a C dx fs u, v = .ref a ∧ H a = some (.ins C dx fs) ∧ Cls X.K C ∧ NoAttr X.K C f ∧ fs.lookup f = some u ∧ Q u H := by
    intro C fs h q
    obtain ⟨a, c, dx, vs, e1, e2, e3, rf⟩ := I.ins r h
    split at q
    · rename_i hC
      split at q
      · rename_i d hd
        obtain ⟨u, eu, ru⟩ := rf.lookup hd
        obtain ⟨k1, k2⟩ := hf C hC c e2
        exact ⟨a, c, dx, vs, u, e1, e3, k1, k2, eu, pos_here q I ru⟩
      · exact q.elim
    · exact q.elim
  unfold attrD at q
  split at q
  · exact key _ _ (.inl rfl) q
  · split at q
    · rename_i hs
      exact key _ _ (.inr ⟨_, rfl, hs⟩) q
    · exact q.elim
  · exact q.elim
theorem qe_attr (hf : FldOk X.K (W.g X) Cs f) (he : QE X W e Fe) (h : ∀ {te : TE}, PE X e te → PE X c (tFld X.K te f)) : QE X W c (fUn (attrD f Cs) Fe) := peI (h he) fun σ H Q ⟨fr, w, env, st, I, q⟩ =>
  ⟨fr, w, env, st, I, pos_bind q fun d s _ v H1 w1 x1 I1 r1 q1 => attr_at hf I1 r1 q1⟩
theorem qe_self {i : Nat} (hf : FldOk X.K (W.g X) Cs f) (h : PE X c (tFld X.K (tVar i) f)) : QE X W c (fSelf i f Cs) := peI h fun σ H Q ⟨fr, w, env, st, I, q⟩ => by
  unfold fSelf at q
  split at q
  · rename_i C fs he
    split at q
    · rename_i hC
      split at q
      · rename_i d hd
        obtain ⟨a, e1, ⟨ho, e2, r⟩, _⟩ := I.s.own i _ he
        cases r with
        | ins hc rf =>
          obtain ⟨u, eu, ru⟩ := rf.lookup hd
          obtain ⟨k1, k2⟩ := hf C hC _ hc
          exact ⟨_, e1, a, _, _, _, u, rfl, e2, k1, k2, eu, pos_here q I ru⟩
      · exact q.elim
    · exact q.elim
  · exact q.elim
theorem qs_selfPut {i : Nat} (hf : FldOk X.K (W.g X) Cs f) (he : QE X W e Fe) (h : ∀ {te : TE}, PE X e te → PS X s (sFld X.K (tVar i) te f)) : QS X W s (fSelfPut i f Cs Fe) := psI (h he) fun N σ H ⟨fr, w, env, st, I, q⟩ => by
  unfold fSelfPut at q
  split at q
  rotate_left
  · exact q.elim
  rename_i C fs hen
  refine ⟨fr, w, env, st, I, ?_⟩
  revert q
  cases Fe env st with
  | bad => exact fun q => q
  | ex C fs s => exact fun q c dx H' w' x I' f => q c dx σ H' w' x I' f
  | ok d s =>
    intro q v H1 w1 x1 I1 r1
    dsimp only at q
    split at q
    · rename_i hC
      obtain ⟨a, e1, ⟨ho, e2, r⟩, _⟩ := I1.s.own i _ hen
      cases r with
      | ins hc rf =>
        obtain ⟨k1, k2⟩ := hf C hC.1 _ hc
        exact ⟨_, e1, a, _, _, _, rfl, e2, k1, k2, by rw [repF_len rf]; exact hC.2, q σ _ w1 x1 (I1.mutOwn hen e1 (.ins hc (repF_put r1 rf)))⟩
    · exact q.elim
theorem qs_fldPut (hf : FldOk X.K (W.g X) Cs f) (he : QE X W e Fe) (ho : QE X W o Fo) (h : ∀ {te to : TE}, PE X e te → PE X o to → PS X s (sFld X.K to te f)) : QS X W s (fFldPut f Cs Fo Fe) := psI (h he ho) fun N σ H ⟨fr, w, env, st, I, q⟩ =>
  ⟨fr, w, env, st, I, pos_bind (posS_expr q) fun d s _ v H1 w1 x1 I1 r1 q1 => ⟨fr, w1, env, s, I1, pos_bind q1 fun x s2 _ u H2 w2 x2 I2 r2 q2 => by
  unfold putFld at q2
  split at q2
  · rename_i n
    split at q2
    · rename_i C fs hs
      split at q2
      · rename_i hC
        cases r2 with
        | ref hm =>
          obtain ⟨c, dx, vs, hc, e3, rf⟩ := I2.atI hm hs
          obtain ⟨k1, k2⟩ := hf C hC.1 c hc
          exact ⟨_, c, dx, vs, rfl, e3, k1, k2, by rw [repF_len rf]; exact hC.2, q2 .non _ w2 Ext.refl (I2.put hm (.ins hc (repF_put (r1.ext x2) rf))) .non⟩
      · exact q2.elim
    · exact q2.elim
  · exact q2.elim⟩⟩
end
end Dv

/-! DvL: __init__, new instances. -/
namespace Dv
open PySem PySem.Spec PyProof.Rows L2 Cv
/-- an __init__'s function: the new instance -/
abbrev Fi := List D → Store → R SO
abbrev frI (w : Wd) (st : Store) (G : Hp) (x : Addr) : Fr := ⟨G, st.length, w.Z, some x⟩
section
variable (K : PySem.W.Frag) (mg : Gm)
def posI (w : Wd) (st : Store) (G1 : Hp) (x : Addr) (Q : VK) (E : XK) : R SO → Prop
  | .ok so s => ∀ G w', Ext w w' → Good K mg w' s G → Keep (frI w st G1 x) w' G → (∃ ho, G x = some ho ∧ ORep K mg w' ho so) → w'.Z x = none → (∀ n, w'.m n ≠ some x) → Q .non G
  | .ex C fs s => ∀ e d G w', Ext w w' → Good K mg w' s G → Keep (frI w st G1 x) w' G → Flies K mg w' G C fs e d → E (.ref e) d G
  | .bad => False
end
def spI (K : PySem.W.Frag) (mg : Str → Option Value) (C : Str) (n : Nat) (F : Fi) : Sp := fun vs H Q E => ∃ pn w st ds x c dx us G1, vs = .ref x :: us ∧ G1 x = none ∧ H = upd G1 x (.ins c dx []) ∧ mg C = some (.ref c) ∧ Good K ⟨mg, pn⟩ w st G1 ∧ RepL K ⟨mg, pn⟩ w us ds ∧ ds.length = n ∧ posI K ⟨mg, pn⟩ w st G1 x Q E (F ds st)
def startI (C : Str) (n : Nat) (ds : List D) : Env' := (startE n (.non :: ds)).set 0 (.own (.ins C []))
def fnI (C : Str) (n : Nat) (F : Ds) : Fi := fun ds st => match F (startI C n ds) st with
  | .nx env s => (match env[0]? with
    | some (Sl.own so) => .ok so s
    | _ => .bad)
  | .ex C fs _ s => .ex C fs s
  | _ => .bad
section
variable {K : PySem.W.Frag} {mg : Gm} {fr : Fr} {w w' : Wd} {env : Env'} {st st' : Store} {σ : L2.St} {H H' : Hp}
theorem IE.setSelf (I : IE K mg fr w env st σ H) {p : Addr} {so : SO} (hs : fr.slf = some p) (f : Fresh K mg fr w env σ H p so) : IE K mg fr w (env.set 0 (.own so)) st (σ.set 0 (some (.ref p))) H := by
  refine ⟨I.g, I.k, by rw [List.length_set, List.length_set]; exact I.s.len, fun j d e => ?_, fun j o e => ?_, fun j k c o o' h1 h2 h3 h4 => ?_, fun x o hx e => ?_, fun j C fs e => ?_⟩
  · rcases set_cases e with ⟨_, e, _⟩ | ⟨hj, e⟩
    · cases e
    · rw [List.getElem?_set_ne hj]
      exact I.s.val j d e
  · rcases set_cases e with ⟨rfl, e, hl⟩ | ⟨hj, e⟩
    · cases e
      exact ⟨p, List.getElem?_set_self (by rw [I.s.len]; exact hl), f.own⟩
    · rw [List.getElem?_set_ne hj]
      exact I.s.own j o e
  · rcases set_cases h1 with ⟨rfl, e1, hl⟩ | ⟨n1, e1⟩
    · rcases set_cases h2 with ⟨rfl, e2, _⟩ | ⟨n2, e2⟩
      · rfl
      · rw [List.getElem?_set_self (by rw [I.s.len]; exact hl)] at h3
        cases h3
        rw [List.getElem?_set_ne n2] at h4
        exact absurd h4 (f.ap k _ e2)
    · rcases set_cases h2 with ⟨rfl, e2, hl⟩ | ⟨n2, e2⟩
      · rw [List.getElem?_set_self (by rw [I.s.len]; exact hl)] at h4
        cases h4
        rw [List.getElem?_set_ne n1] at h3
        exact absurd h3 (f.ap j _ e1)
      · rw [List.getElem?_set_ne n1] at h3
        rw [List.getElem?_set_ne n2] at h4
        exact I.s.ap j k c o o' e1 e2 h3 h4
  · rcases set_cases e with ⟨h0, _, hl⟩ | ⟨h0, e⟩
    · rw [hs] at hx
      cases hx
      exact List.getElem?_set_self (by rw [I.s.len]; exact hl)
    · exact absurd rfl h0
  · rcases set_cases e with ⟨_, e, _⟩ | ⟨hj, e⟩
    · cases e
    · rw [List.getElem?_set_ne hj]
      exact I.s.er j C fs e
theorem startI_ie {N : List Str} {us : List V} {ds : List D} {C : Str} {c dx x : Addr} (g : Good K mg w st H) (nx : H x = none) (hc : mg.f C = some (.ref c)) (r : RepL K mg w us ds) (hl : ds.length + 1 ≤ N.length) :
    IE K mg (frI w st H x) w (startI C N.length ds) st (L2.start N (.ref x :: us)) (upd H x (.ins c dx [])) := by
  have I0 := start_ie (N := N) g (.cons .non r) (by rw [List.length_cons]; exact hl)
  have no : ∀ (i : Nat) (o : SO), (startE N.length (.non :: ds))[i]? ≠ some (Sl.own o) := fun i o e => by
    rcases startE_get e with q | ⟨d', q, _⟩ <;> cases q
  have I1 : IE K mg (frI w st H x) w (startE N.length (.non :: ds)) st (L2.start N (.non :: us)) H := ⟨I0.g, ⟨I0.k.old, I0.k.new, I0.k.fz⟩, ⟨I0.s.len, I0.s.val, fun i o e => absurd e (no i o), fun i j a o o' e => absurd e (no i o), fun y o _ e => absurd e (no 0 o), fun i C fs e => by
    rcases startE_get e with q | ⟨d', q, _⟩ <;> cases q⟩⟩
  obtain ⟨I2, f⟩ := I1.allocOwn (ho := .ins c dx []) (so := .ins C []) nx (.ins hc .nil)
  exact I2.setSelf rfl f
theorem posI_S {n : Nat} {C : Str} {x : Addr} {F : Ds} {ds : List D} {Q : VK} {E : XK} (q : posI K mg w st H x Q E (fnI C n F ds st)) :
    posS K mg (frI w st H x) w ⟨fun cls d _ G => E cls d G, mg.pn⟩ ⟨fun _ G => Q .non G, Q, fun _ _ => False, fun _ _ => False⟩ (F (startI C n ds) st) := by
  unfold fnI at q
  generalize F (startI C n ds) st = r at *
  cases r with
  | nx e s =>
    dsimp only at q
    split at q
    · rename_i so he
      intro σ' H' w' x' I
      obtain ⟨a, e1, ⟨ho, e2, r⟩, z, m, _⟩ := I.s.own 0 so he
      have e3 := I.s.sf x so rfl he
      rw [e3] at e1
      cases e1
      exact q H' w' x' I.g I.k ⟨ho, e2, r⟩ z m
    · exact q.elim
  | rt d s => exact q.elim
  | bk e s => exact q.elim
  | ct e s => exact q.elim
  | ex C fs e s => exact fun c dx σ' H' w' x I f => q c dx H' w' x I.g I.k f
  | bad => exact q
end
section
variable {P : Program} {w : World} {K : PySem.W.Frag} {mg : Str → Option Value} {base : Heap}
theorem len_spI {C : Str} {n : Nat} {F : Fi} {ps : List Str} (hp : ps.length = n + 1) : ∀ vs H Q E, spI K mg C n F vs H Q E → vs.length = ps.length := fun vs H Q E ⟨pn, w, st, ds, x, c, dx, us, G1, e, _, _, _, _, r, l, _⟩ => by rw [e, List.length_cons, r.length, l, hp]
/-- an __init__ without defaults -/
theorem okI {C x qual : Str} {st : Stmt} {f : Addr} {fd : FuncData} {N ps : List Str} {p : Str} {k : Nat} {F : Ds} (Fu : Fun K x qual st f fd) (S : FnScope N (p :: ps) (defScope st)) (hl : ps.length + 1 ≤ N.length)
    (hb : ∀ (pn : Option (Addr × Obj)) (cdv : Value) (A : Around) (outer : List Env) (s : Shared) (H : Hp) (E : XK), Room k (A.deeper (envOfC qual (defScope st) s.heap.objs.size f cdv)) →
      L2N.Takes (cxD P w K mg base N qual (defScope st) f cdv A outer s H E) (fun cls d _ G => E cls d G) →
      PassesOwn (model P w) (cxD P w K mg base N qual (defScope st) f cdv A outer s H E).A (cxD P w K mg base N qual (defScope st) f cdv A outer s H E).env (cxD P w K mg base N qual (defScope st) f cdv A outer s H E).xe →
      QB (cxD P w K mg base N qual (defScope st) f cdv A outer s H E) ⟨fun cls d _ G => E cls d G, pn⟩ (defBody st) F) :
    FnOk P w K mg base (L2N.CX P w) (k + 1) f fd (p :: ps) (spI K mg C ps.length (fnI C N.length F)) :=
  okN Fu S (len_spI rfl) fun cdv A outer s H vs Q E hr ⟨pn, wd, st0, ds, x, c, dx, us, G1, e1, nx, e2, hc, g, r, l, q⟩ tk hpo => by
    subst e1 e2
    exact ⟨_, hb pn cdv A outer s _ E hr tk hpo, frI wd st0 G1 x, wd, startI C N.length ds, st0, startI_ie g nx hc r (by omega), posI_S q⟩
theorem okID {C x qual : Str} {st : Stmt} {dvs : List V} {f : Addr} {fd : FuncData} {N ps : List Str} {p : Str} {k : Nat} {F : Ds} (Fu : FunD K x qual (defArgs st) (defBody st) (defScope st) dvs [] f fd) (S : FnScope N (p :: ps) (defScope st)) (hl : ps.length + 1 ≤ N.length)
    (hb : ∀ (pn : Option (Addr × Obj)) (cdv : Value) (A : Around) (outer : List Env) (s : Shared) (H : Hp) (E : XK), Room k (A.deeper (envOfC qual (defScope st) s.heap.objs.size f cdv)) →
      L2N.Takes (cxD P w K mg base N qual (defScope st) f cdv A outer s H E) (fun cls d _ G => E cls d G) →
      PassesOwn (model P w) (cxD P w K mg base N qual (defScope st) f cdv A outer s H E).A (cxD P w K mg base N qual (defScope st) f cdv A outer s H E).env (cxD P w K mg base N qual (defScope st) f cdv A outer s H E).xe →
      QB (cxD P w K mg base N qual (defScope st) f cdv A outer s H E) ⟨fun cls d _ G => E cls d G, pn⟩ (defBody st) F) :
    FnOk P w K mg base (L2N.CX P w) (k + 1) f fd (p :: ps) (spI K mg C ps.length (fnI C N.length F)) :=
  okND Fu S (len_spI rfl) fun cdv A outer s H vs Q E hr ⟨pn, wd, st0, ds, x, c, dx, us, G1, e1, nx, e2, hc, g, r, l, q⟩ tk hpo => by
    subst e1 e2
    exact ⟨_, hb pn cdv A outer s _ E hr tk hpo, frI wd st0 G1 x, wd, startI C N.length ds, st0, startI_ie g nx hc r (by omega), posI_S q⟩
end
/-! ### new instances -/
def fMake (f : Fi) (dd : List D) (a : Da) : Df := fun env st => (a env st).bind fun xs s => f (xs ++ dd) s
/-- keywords: their values, put into the parameters' sequence -/
def fMakeK (f : Fi) (g : List D → List D → List D) (a ak : Da) : Df := fun env st => (a env st).bind fun xs s => (ak env s).bind fun ys s2 => f (g xs ys) s2
section
variable {X : Cx} {W : Wi} {e : Expr} {es : List Expr} {Fs Fk : Da}
theorem posI_N {fr : Fr} {w : Wd} {env : Env'} {st : Store} {σ : L2.St} {G : Hp} {Q : VK} {x d : Addr} {r : R SO} (I : IE X.K (W.g X) fr w env st σ G) (nx : G x = none) (nd : G d = none) (ne : d ≠ x) (q : posN X.K (W.g X) fr w env σ W Q r) :
    posI X.K (W.g X) (w.add d (.own x)) st (upd G d (.own x)) x (fun v K => v = .non ∧ Q (.ref x) K) (L2.WE W.w σ) r := by
  have I1 := I.alloc (o := .own x) nd
  have x1 := I.ext (.own x) nd
  cases r with
  | ok so s =>
    intro G2 w2 x2 g k ⟨ho, e, rr⟩ z m
    have k' : Keep (frAt (w.add d (.own x)) st (upd G d (.own x))) w2 G2 := ⟨k.old, k.new, k.fz⟩
    refine ⟨rfl, q x G2 w2 (x1.trans x2) (I1.trans x2 g k') ⟨⟨⟨ho, e, rr⟩, z, m, I.k.n0 I.g nx⟩, fun i u eu es => ?_⟩⟩
    obtain ⟨a, e3, ⟨⟨o, e4, _⟩, _⟩⟩ := I.s.own i u eu
    rw [e3] at es
    cases es
    rw [nx] at e4
    cases e4
  | ex C fs s =>
    intro c dx G2 w2 x2 g k f
    have k' : Keep (frAt (w.add d (.own x)) st (upd G d (.own x))) w2 G2 := ⟨k.old, k.new, k.fz⟩
    exact q c dx G2 w2 (x1.trans x2) (I1.trans x2 g k') f
  | bad => exact q
theorem qn_mk {C : Str} {c : Addr} {n m : Nat} {f : Fi} {dvs : List V} {dd : List D} {ex : Expr} (hc : X.mg C = some (.ref c)) (hd : ∀ w : Wd, RepL X.K (W.g X) w dvs dd) (hm : n + dd.length = m) (ha : QN X W es Fs n)
    (h : ∀ {t : TA}, PA X es t → PE X ex (tMkS c (spI X.K X.mg C m f) dvs (L2.WE W.w) t)) : QN' X W ex (fMake f dd Fs) :=
  peI (h ha.qa) fun σ H Q ⟨fr, w, env, st, I, q⟩ => ⟨fr, w, env, st, I, posN_bind q fun xs s hx vs H1 w1 x1 I1 r1 q1 a d na nd ne => by
    refine ⟨W.pn, w1.add d (.own a), s, xs ++ dd, a, c, d, vs ++ dvs, upd H1 d (.own a), rfl, ?_, rfl, hc, (I1.alloc (o := .own a) nd).g, ?_, ?_, posI_N I1 na nd ne q1⟩
    · rw [upd_ne (fun z : a = d => ne z.symm)]
      exact na
    · exact (r1.append (hd w1)).ext (I1.ext _ nd)
    · rw [List.length_append, ha.len _ _ _ _ hx, hm]⟩
/-- the values of keywords -/
def QK (X : Cx) (W : Wi) (kws : List Keyword) (F : Da) : Prop := PK X kws (rdA X.K (W.g X) W F)
theorem pkI {X : Cx} {e : List Keyword} {t t' : TA} (h : PK X e t) (i : ∀ σ H Q, t' σ H Q → t σ H Q) : PK X e t' := ⟨fun pos pins s σ H Q I q => h.run pos pins s σ H Q I (i σ H Q q)⟩
structure QKN (X : Cx) (W : Wi) (kws : List Keyword) (F : Da) (n : Nat) : Prop where
  qk : QK X W kws F
  len : ∀ env st ds s, F env st = .ok ds s → ds.length = n
theorem qk_nil : QKN X W [] fNil 0 := ⟨pkI pk_nil fun σ H Q ⟨fr, w, env, st, I, q⟩ => q [] H w Ext.refl I .nil, fun _ _ _ _ h => fNil_len h⟩
theorem qk_cons {nm : Option Str} {kpos : Pos} {kws : List Keyword} {Fa : Dn} {n : Nat} (ha : QE X W e Fa) (hr : QKN X W kws Fs n) : QKN X W (⟨nm, e, kpos⟩ :: kws) (fCons Fa Fs) (n + 1) :=
  ⟨pkI (pk_cons ha hr.qk) fun σ H Q ⟨fr, w, env, st, I, q⟩ => ⟨fr, w, env, st, I, pos_bind q fun x s _ v H1 w1 x1 I1 r1 q1 => ⟨fr, w1, env, s, I1, pos_bind q1 fun xs s2 _ vs H2 w2 x2 I2 r2 q2 => q2 _ _ w2 Ext.refl I2 (.cons (r1.ext x2) r2)⟩⟩, fCons_len hr.len⟩
/-- C(e, .., k = v, ..): g puts the values (without the instance) in their sequence; gV as the rule has it -/
theorem qn_mkK {C : Str} {c : Addr} {n k m : Nat} {f : Fi} {kws : List Keyword} {gV : List V → List V → List V} {g : List D → List D → List D} {ex : Expr} (hc : X.mg C = some (.ref c))
    (hg : ∀ (w : Wd) a vs zs ds es, RepL X.K (W.g X) w vs ds → RepL X.K (W.g X) w zs es → ds.length = n → es.length = k → ∃ us, gV (.ref a :: vs) zs = .ref a :: us ∧ RepL X.K (W.g X) w us (g ds es) ∧ (g ds es).length = m)
    (ha : QN X W es Fs n) (hk : QKN X W kws Fk k)
    (h : ∀ {t tk : TA}, PA X es t → PK X kws tk → PE X ex (tMkKS c n k (spI X.K X.mg C m f) gV (L2.WE W.w) t tk)) : QN' X W ex (fMakeK f g Fs Fk) :=
  peI (h ha.qa hk.qk) fun σ H Q ⟨fr, w, env, st, I, q⟩ => ⟨fr, w, env, st, I, posN_bind q fun xs s hx vs H1 w1 x1 I1 r1 q1 => ⟨fr, w1, env, s, I1, posN_bind q1 fun ys s2 hy zs H2 w2 x2 I2 r2 q2 => by
    have lx := ha.len _ _ _ _ hx
    have ly := hk.len _ _ _ _ hy
    refine ⟨r1.length.trans lx, r2.length.trans ly, fun a d na nd ne => ?_⟩
    obtain ⟨us, e1, ru, lu⟩ := hg w2 a vs zs xs ys (r1.ext x2) r2 lx ly
    rw [e1]
    refine ⟨W.pn, w2.add d (.own a), s2, g xs ys, a, c, d, us, upd H2 d (.own a), rfl, ?_, rfl, hc, (I2.alloc (o := .own a) nd).g, ru.ext (I2.ext _ nd), lu, posI_N I2 na nd ne q2⟩
    rw [upd_ne (fun z : a = d => ne z.symm)]
    exact na⟩⟩
end
end Dv

/-! DvM: enumerate(tuple); loops over lists of the store, enumerate. -/
namespace Dv
open PySem PySem.Spec PyProof.Rows L2 Cv
/-! ### enumerate(tuple) -/
theorem meets_enum1 {v : Value} {o : Obj} {H : Heap → Prop} (B : Begins v o H) :
    Meets (Builtin.«enumerate.__new__» ⟨[.type "enumerate", v], []⟩) (fun _ R s => H s.heap ∧
      R (.ok (.ret (.ref (s.heap.push o).objs.size))) { s with heap := (s.heap.push o).push { cls := .type "enumerate", data := .fields #[.none, .bool false, .ref s.heap.objs.size, rawInt 0, .none, .none] } }) :=
  .of_wp fun prog w A R s h => by
    obtain ⟨hp, g, d, tk, os⟩ := s; obtain ⟨h1, h⟩ := h
    have hsub := sub_enumerate
    have q1 : ∀ {A' : Around} {E : Value → Shared → Prop} {Q : Value → Shared → Prop}, Q (.ref hp.objs.size) ⟨hp.push o, g, d, tk, os⟩ → wpAny (model prog w) A' (pyIter v) Q E ⟨hp, g, d, tk, os⟩ :=
      fun q => B.iter prog w _ _ ⟨hp, g, d, tk, os⟩ _ h1 q
    wp_walk using q1
    refine wpAny_stack_any fun st => wpAny_pure ?_
    split
    · rename_i c _ _ _ _ _
      cases (c == Value.type "enumerate")
      · wp_walk using q1
        exact ⟨_, rfl, h⟩
      · wp_walk using q1
        exact ⟨_, rfl, h⟩
    · wp_walk using q1
      exact ⟨_, rfl, h⟩
theorem call_enum1 {prog : Program} {w : World} {A : Around} {E : Value → Shared → Prop} {s : Shared} {v : Value} {o : Obj} {H : Heap → Prop} {Q : Value → Shared → Prop} (B : Begins v o H) (h1 : H s.heap)
    (h : ∀ h', IsEnum h' (s.heap.objs.size + 1) s.heap.objs.size 0 .none → h'.get? s.heap.objs.size = some o → h'.objs.size = s.heap.objs.size + 2 →
      (∀ b o, s.heap.get? b = some o → h'.get? b = some o) → Q (.ref (s.heap.objs.size + 1)) { s with heap := h' }) :
    wpAny (model prog w) A (call (.type "enumerate") [v]) Q E s := by
  refine callType_new F.called_enumerate (by decide) (F.typeCall_enumerate_1 _) (F.newCall_enumerate_1 _) (fun obj => F.args_object_init_2 obj _) F.entry_enumerate_new
    (meets_enum1 B) ⟨h1, ?_⟩
  have hz : (s.heap.push o).objs.size = s.heap.objs.size + 1 := Heap.size_push ..
  show _ ∧ _
  rw [hz]
  have he : IsEnum ((s.heap.push o).push { cls := .type "enumerate", data := .fields #[.none, .bool false, .ref s.heap.objs.size, rawInt 0, .none, .none] }) (s.heap.objs.size + 1) s.heap.objs.size 0 .none := by
    have := Heap.get?_push_size (s.heap.push o) (o := { cls := .type "enumerate", data := .fields #[.none, .bool false, .ref s.heap.objs.size, rawInt 0, .none, .none] }) rfl
    rw [hz] at this; exact this
  refine ⟨⟨_, he, rfl⟩, h _ he (Heap.get?_push_of_some _ (Heap.get?_push_size _ B.free)) (by rw [Heap.size_push, hz]) fun b o x => Heap.get?_push_of_some _ (Heap.get?_push_of_some _ x)⟩
theorem enum_endT {prog : Program} {w : World} {A : Around} {E : Value → Shared → Prop} {s : Shared} {e it t : Addr} {i : Nat} {c : Int} {items : Array Value} {old : Value} {Q : Option Value → Shared → Prop} (hh : A.handled = none)
    (he : IsEnum s.heap e it c old) (hit : s.heap.IsTupleIter it t i) (ht : s.heap.IsTuple t items) (hx : items[i]? = none)
    (hQ : ∀ h', Heap.ExtBut it s.heap h' → Q none { s with heap := h' }) : wpAny (model prog w) A (pyNext (.ref e)) Q E s := by
  have hT : s.TypeIs (.ref e) "enumerate" := ⟨_, he, rfl⟩
  unfold pyNext
  refine wpAny_bind (wpAny_attempt (wpAny_callSpecial?_slot (name := Str.ofString "__next__") hT F.slot_enumerate_next
    (wpAny_call_entry F.slot_enumerate_next hT F.entry_enumerate_next ?_ (F.args_enumerate_next_1 _))))
  show wpAny _ _ (field (.ref e) 2 >>= _) _ _ _
  refine wpAny_bind (wpAny_field he rfl (x := .ref it) rfl ?_)
  refine wpAny_bind (wpAny_nextOf_tuple_end (A := A.in1) (show A.in1.handled = none from hh) hit ht hx fun h' x he' hx' => ?_)
  obtain ⟨o, ho, hc⟩ := hx'
  refine wpAny_bind (wpAny_isInstance (T := "StopIteration") (b := true) ⟨o, ho, hc⟩ isSubtype_stop ?_)
  exact wpAny_pure (hQ _ he')
def Iteu (K : PySem.W.Frag) (a : Addr) : It :=
  ⟨fun i H => ∃ (xs : List V) (x : V), SqT K H a xs ∧ xs[i]? = some x, fun i H v H' => ∃ T x, v = .ref T ∧ H T = none ∧ H' = upd H T (.tup [.int (i : Nat), x]) ∧ ∀ xs, SqT K H a xs → xs[i]? = some x, fun i H => ∃ xs : List V, SqT K H a xs ∧ xs.length ≤ i⟩
theorem turn_enumT {P : Program} {w : World} {K : PySem.W.Frag} {elts : List Expr} {kk : Nat} {tpos : Pos} (a e it : Addr) :
    Turn P w K (.Tuple elts kk tpos) (Iteu K a) [e, it] e (fun i h => (∃ old, IsEnum h e it ((i : Nat) : Int) old) ∧ h.IsTupleIter it a i ∧ e ≠ it) where
  mem := by simp
  obj := fun i h st b hb => by
    obtain ⟨⟨old, he⟩, ⟨o, ho, hc, hd⟩, _⟩ := st
    have e' : b = e ∨ b = it := by simpa using hb
    rcases e' with z | z
    · rw [z]; exact ⟨_, he, fun v q => nomatch q⟩
    · rw [z]; exact ⟨o, ho, fun v q => by rw [hd] at q; cases q⟩
  keep := fun i h h' st k => let ⟨⟨old, he⟩, hi, hne⟩ := st; ⟨⟨old, k e (by simp) _ he⟩, hi.at fun o q => k it (by simp) o q, hne⟩
  item := by
    intro X hP hw hK hc i pins s σ H E I hf st hg
    subst hP hw hK
    obtain ⟨⟨old, he⟩, hit, hne⟩ := st
    obtain ⟨xs, x, hq, hx⟩ := hg
    obtain ⟨its, rv, p, hz⟩ := I.tuple hq
    obtain ⟨u, hu, ru⟩ := rv.get hx
    have hel : e < s.heap.objs.size := Heap.lt_size he
    have hil : it < s.heap.objs.size := by obtain ⟨_, q, _⟩ := hit; exact Heap.lt_size q
    have pT : s.heap.IsTuple a its.toArray := p
    have hai : a ≠ it := by
      rintro rfl
      obtain ⟨o1, q1, c1, _⟩ := hit
      obtain ⟨o2, q2, c2, _⟩ := pT
      rw [q1] at q2
      cases q2
      rw [c1] at c2
      exact absurd c2 (by decide)
    have hae : a ≠ e := by
      rintro rfl
      obtain ⟨o2, q2, c2, _⟩ := pT
      have q1 : s.heap.get? a = some _ := he
      rw [q1] at q2
      cases q2
      exact absurd (show Value.type "enumerate" = Value.type "tuple" from c2) (by decide)
    have Dr : Draws X.prog X.w X.A.in1 it [it, a] its.toArray.size (fun i v => its.toArray[i]? = some v) (fun i h => h.IsTupleIter it a i ∧ h.IsTuple a its.toArray) := Draws.tuple (A := X.A.in1) (show X.A.in1.handled = none from I.ok.hd hc) it a hai its.toArray
    have hlt : i < its.toArray.size := by
      have := List.getElem?_eq_some_iff.mp hu
      obtain ⟨h1, _⟩ := this
      simpa using h1
    refine wpAny_pyNext_enum_itemD Dr he ⟨hit, pT⟩ hlt hne (by simp [hne, Ne.symm hae]) fun x' h' tk hPx ho hit' hT hsz hk => ?_
    have ex : x' = u := by
      have h1 : its.toArray[i]? = some u := by simpa using hu
      rw [h1] at hPx
      cases hPx
      rfl
    subst ex
    refine ⟨_, rfl, wpAny_letOwnedTupleGo_enum (s := { s with heap := h', toks := tk + 1 }) ho fun h'' he' sb => ?_⟩
    have hT2 : h''.get? s.heap.objs.size = some { cls := .type "tuple", data := .seq #[.int i tk, x'] } := (sb.2 _ (Nat.ne_of_gt hel)).trans hT
    have new : ObjOk X.prog X.w (upd H s.heap.objs.size (.tup [.int (i : Nat), x])) h'' s.heap.objs.size (.tup [.int (i : Nat), x]) :=
      ⟨by show 2 ≤ sizeLine; decide, [.int i tk, x'], .cons ⟨_, rfl⟩ (.cons ru .nil), ⟨_, hT2, rfl, _, rfl⟩⟩
    have I1 : Inv X pins σ (upd H s.heap.objs.size (.tup [.int (i : Nat), x])) { s with heap := h'', toks := tk + 1 } :=
      I.turnedNew (ch := [e, it]) (fun b ob hb q => (sb.2 b (fun z => hb (by simp [z]))).trans (hk b ob (fun z => hb (by simp [z])) (fun z => hb (by simp [z])) q)) hf (Nat.le_refl _) new
    refine ⟨.ref s.heap.objs.size, _, I1, rfl, ⟨_, x, rfl, I.hok.fresh (Nat.le_refl _), rfl, fun ys hy => by rw [I.tuple_inj hy hq]; exact hx⟩, ⟨⟨x', ?_⟩, hit'.1.at fun o q => (sb.2 it (Ne.symm hne)).trans q, hne⟩, fun b hb => ?_⟩
    · have e1 : ((i + 1 : Nat) : Int) = (i : Int) + 1 := by omega
      rw [e1]; exact he'
    · have hb' : b < s.heap.objs.size := by
        have e' : b = e ∨ b = it := by simpa using hb
        rcases e' with z | z
        · rw [z]; exact hel
        · rw [z]; exact hil
      rw [upd_ne (Nat.ne_of_lt hb')]
      exact (hf b hb).1
  done := by
    intro X hP hw hK hc i pins s σ H E I hf st hg
    subst hP hw hK
    obtain ⟨⟨old, he⟩, hit, hne⟩ := st
    obtain ⟨xs, hq, hx⟩ := hg
    obtain ⟨its, rv, p, hz⟩ := I.tuple hq
    obtain ⟨f0, f1, f2, f3, f4, f5⟩ := hf it (by simp)
    have hl := rv.length
    have pT : s.heap.IsTuple a its.toArray := p
    exact enum_endT (I.ok.hd hc) he hit pT (by simp; omega) fun h' eb => ⟨rfl, I.turned (t' := s.toks) (fun b o hb q => eb b o hb q) f0 f1 f3 f4 f5⟩
  self := fun A i s Q E st h => let ⟨⟨_, he⟩, _⟩ := st; wpAny_pyIter_enum he h
def iEnumT (K : PySem.W.Frag) (ta : TA) : TI := fun σ H R => ta σ H fun vs H1 => ∃ a xs, vs = [.ref a] ∧ SqT K H1 a xs ∧ R (Iteu K a) H1
theorem pi_enumT {X : Cx} {e : Expr} {ta : TA} {p pos tpos : Pos} {elts : List Expr} {kk : Nat} (hg : Gl X "enumerate") (hm : X.mg "enumerate" = none) (ha : PA X [e] ta) (hs : starEach [e] X.env = [(false, eval e X.env)] := by rfl) :
    PI X (.Tuple elts kk tpos) (.Call (.Name "enumerate" p) [e] [] pos) (iEnumT X.K ta) := by
  refine ⟨fun pins s σ H R I h => ?_⟩
  refine PyProof.Rows.Call_ (ld_blt I hg hm boot_enumerate (PyProof.Rows.callWith_type1 (thn (ha.run pos pins s σ H _ I h) fun us s1 ⟨vs, H1, I1, r1, q1⟩ => ?_) hs rfl))
  obtain ⟨a, xs, ex, hq, q⟩ := q1
  subst ex
  cases r1 with
  | cons r rr =>
    cases rr
    cases r
    obtain ⟨its, rv, p', hz⟩ := I1.tuple hq
    refine call_enum1 (begins_tuple a its.toArray) (show s1.heap.IsTuple a its.toArray from p') fun h' he hit hsz hk => wpAny_pyIter_enum he ?_
    have I2 : Inv X pins σ H1 { s1 with heap := h' } := I1.kept (t' := s1.toks) hk
    refine ⟨s1.heap.objs.size + 1, [s1.heap.objs.size + 1, s1.heap.objs.size], _, _, H1, rfl, I2, turn_enumT a (s1.heap.objs.size + 1) s1.heap.objs.size, ⟨⟨.none, he⟩, ⟨_, hit, rfl, rfl⟩, Nat.succ_ne_self _⟩, fun b hb => ?_, q⟩
    have e' : b = s1.heap.objs.size + 1 ∨ b = s1.heap.objs.size := by simpa using hb
    have hle : s1.heap.objs.size ≤ b := by
      rcases e' with z | z
      · rw [z]; exact Nat.le_add_right _ _
      · rw [z]; exact Nat.le_refl _
    exact I1.fpOk hle (I1.hok.fresh hle)
theorem walk_enumT {K : PySem.W.Frag} {a : Addr} {xs : List V} : Walk (Iteu K a) xs.length (fun H => SqT K H a xs) (fun i H v H' => ∃ T x, v = .ref T ∧ H T = none ∧ H' = upd H T (.tup [.int (i : Nat), x]) ∧ xs[i]? = some x) :=
  ⟨fun i _ hi q => ⟨xs, xs[i], q, by simp [hi]⟩, fun _ q => ⟨xs, q, Nat.le_refl _⟩, fun _ _ _ _ _ q ⟨T, x, e1, e2, e3, y⟩ => ⟨T, x, e1, e2, e3, y xs q⟩⟩
end Dv

/-! DvN: loops over lists of the store, enumerate. -/
namespace Dv
open PySem PySem.Spec PyProof.Rows L2 Cv
/-- the store's list that is walked, if it is one -/
abbrev Lv := Option (Nat × List D)
def liv (st : Store) : Lv → Prop
  | none => True
  | some (n, xs) => st[n]? = some (.lst xs)
abbrev Dl := Env' → Store → R (List D × Lv)
def itemsL : D → Store → R (List D × Lv)
  | .ref n, st => (match st[n]? with
    | some (.lst xs) => .ok (xs, some (n, xs)) st
    | _ => .bad)
  | d, st => (itemsOf d st).bind fun xs s => .ok (xs, none) s
def fItL (a : Dn) : Dl := fun env st => (a env st).bind itemsL
def enumF : Nat → List D → List D
  | _, [] => []
  | i, x :: xs => .tup [.int (i : Nat), x] :: enumF (i + 1) xs
def enumL : D → Store → R (List D × Lv)
  | .ref n, st => (match st[n]? with
    | some (.lst xs) => .ok (enumF 0 xs, some (n, xs)) st
    | _ => .bad)
  | .lst xs, st => .ok (enumF 0 xs, none) st
  | .rol xs, st => .ok (enumF 0 xs, none) st
  | .tup xs, st => .ok (enumF 0 xs, none) st
  | _, _ => .bad
def fEnumL (a : Dn) : Dl := fun env st => (a env st).bind enumL
open Classical in
noncomputable def fTurnsL (tg : D → Env' → Option Env') (b : Ds) (l : Lv) : List D → Ds
  | [] => fun env st => if liv st l then .nx env st else .bad
  | x :: xs => fun env st => if liv st l then (match tg x env with
    | none => .bad
    | some e1 => (match b e1 st with
      | .nx e s => fTurnsL tg b l xs e s
      | .ct e s => fTurnsL tg b l xs e s
      | .bk e s => .nx e s
      | r => r)) else .bad
noncomputable def fForL (it : Dl) (tg : D → Env' → Option Env') (b : Ds) : Ds := fun env st => match it env st with
  | .ok (xs, l) s => fTurnsL tg b l xs env s
  | .ex C fs s => .ex C fs env s
  | .bad => .bad
section
variable (K : PySem.W.Frag) (mg : Gm)
def SrcL (w : Wd) (J : It) (il : List D × Lv) : Prop :=
  ∃ G Y, Walk J il.1.length G Y ∧ (∀ H w' s, Ext w w' → Good K mg w' s H → liv s il.2 → G H) ∧
    ∀ i H x H' w' s, Ext w w' → Good K mg w' s H → liv s il.2 → i < il.1.length → Y i H x H' → ∃ d, il.1[i]? = some d ∧ ((H' = H ∧ Rep K mg w' x d) ∨ ∃ p vs ds, H p = none ∧ H' = upd H p (.tup vs) ∧ x = .ref p ∧ d = .tup ds ∧ RepL K mg w' vs ds)
def rdIL (W : Wi) (F : Dl) : TI := fun σ H R => ∃ fr w env st, IE K mg fr w env st σ H ∧ posE K mg fr w env σ W (fun w J il => SrcL K mg w J il) R (F env st)
end
def QIL (X : Cx) (W : Wi) (tg iter : Expr) (F : Dl) : Prop := PI X tg iter (rdIL X.K (W.g X) W F)
section
variable {K : PySem.W.Frag} {mg : Gm} {w : Wd}
theorem src_L {J : It} {items : List D} (h : Src K mg w J items) : SrcL K mg w J (items, none) := by
  obtain ⟨G, Y, wk, gs, ys⟩ := h
  refine ⟨G, Y, wk, fun H w' s x g _ => gs H w' x g.sub, fun i H v H' w' s x g _ hi y => ?_⟩
  obtain ⟨d, e, h⟩ := ys i H v H' hi y
  refine ⟨d, e, h.imp (fun ⟨e1, r⟩ => ⟨e1, r.ext x⟩) fun ⟨p, vs, ds, e1, e2, e3, e4, r⟩ => ⟨p, vs, ds, e1, e2, e3, e4, r.ext x⟩⟩
theorem Good.atL {st : Store} {H : Hp} (g : Good K mg w st H) {a : Addr} {n : Nat} {xs : List D} (hm : w.m n = some a) (hs : st[n]? = some (.lst xs)) : ∃ vs, H a = some (.lst vs) ∧ RepL K mg w vs xs := by
  obtain ⟨b, ho, e1, e2, e3, _⟩ := g.at_ n _ hs
  rw [hm] at e1
  cases e1
  cases e3 with
  | lst r => exact ⟨_, e2, r⟩
theorem walk_liv {a : Addr} {n : Nat} : Walk (Itl K a) n (fun H => ∃ xs, SqL K H a xs ∧ xs.length = n) (fun i H x H' => H' = H ∧ ∀ xs, SqL K H a xs → xs[i]? = some x) :=
  ⟨fun i _ hi ⟨xs, q, l⟩ => ⟨xs, xs[i], q, by simp [show i < xs.length by omega]⟩, fun _ ⟨xs, q, l⟩ => ⟨xs, q, by omega⟩, fun _ _ _ _ _ _ y => y⟩
theorem src_ref {a : Addr} {n : Nat} {xs : List D} (hm : w.m n = some a) : SrcL K mg w (Itl K a) (xs, some (n, xs)) := by
  refine ⟨_, _, walk_liv, fun H w' s x g l => ?_, fun i H v H' w' s x g l hi y => ?_⟩
  · obtain ⟨vs, e, r⟩ := g.atL (x.m _ _ hm) l
    exact ⟨vs, .inl (.inl e), r.length⟩
  · obtain ⟨vs, e, r⟩ := g.atL (x.m _ _ hm) l
    obtain ⟨d, ed, rd⟩ := r.getV (y.2 vs (.inl (.inl e)))
    exact ⟨d, ed, .inl ⟨y.1, rd⟩⟩
theorem enumF_len : ∀ (k : Nat) (xs : List D), (enumF k xs).length = xs.length
  | _, [] => rfl
  | k, x :: xs => by
    unfold enumF
    rw [List.length_cons, List.length_cons, enumF_len (k + 1) xs]
theorem enumF_get : ∀ {k : Nat} {xs : List D} {i : Nat} {d : D}, xs[i]? = some d → (enumF k xs)[i]? = some (.tup [.int ((k + i : Nat) : Int), d])
  | k, x :: xs, 0, d, e => by
    cases Option.some.inj e
    rfl
  | k, x :: xs, i + 1, d, e => by
    have := enumF_get (k := k + 1) (xs := xs) (i := i) (d := d) (by simpa using e)
    unfold enumF
    rw [List.getElem?_cons_succ, this, show k + 1 + i = k + (i + 1) by omega]
  | _, [], _, _, e => by simp at e
theorem walk_enumL {a : Addr} {n : Nat} : Walk (Ite K a) n (fun H => ∃ xs, SqL K H a xs ∧ xs.length = n) (fun i H v H' => ∃ T x, v = .ref T ∧ H T = none ∧ H' = upd H T (.tup [.int (i : Nat), x]) ∧ ∀ xs, SqL K H a xs → xs[i]? = some x) :=
  ⟨fun i _ hi ⟨xs, q, l⟩ => ⟨xs, xs[i], q, by simp [show i < xs.length by omega]⟩, fun _ ⟨xs, q, l⟩ => ⟨xs, q, by omega⟩, fun _ _ _ _ _ _ y => y⟩
/-- one pair of enumerate -/
theorem pair_enum {vs : List V} {ds : List D} {i : Nat} {T : Addr} {v x : V} {H H' : Hp} (r : RepL K mg w vs ds) (e1 : v = .ref T) (e2 : H T = none) (e3 : H' = upd H T (.tup [.int (i : Nat), x])) (e4 : vs[i]? = some x) :
    ∃ d, (enumF 0 ds)[i]? = some d ∧ ((H' = H ∧ Rep K mg w v d) ∨ ∃ p vs ds, H p = none ∧ H' = upd H p (.tup vs) ∧ v = .ref p ∧ d = .tup ds ∧ RepL K mg w vs ds) := by
  obtain ⟨d, ed, rd⟩ := r.getV e4
  refine ⟨_, enumF_get ed, .inr ⟨T, _, _, e2, e3, e1, rfl, .cons ?_ (.cons rd .nil)⟩⟩
  rw [Nat.zero_add]
  exact .int _
theorem src_enumL {a : Addr} {vs : List V} {ds : List D} (h : SqL K w.Z a vs) (r : RepL K mg w vs ds) : SrcL K mg w (Ite K a) (enumF 0 ds, none) := by
  have wk := walk_enumL (K := K) (a := a) (n := ds.length)
  rw [← enumF_len 0 ds] at wk
  refine ⟨_, _, wk, fun H w' s x g _ => ⟨vs, Same.seq (fun b o q => g.sub b o (x.z b o q)) h, r.length.trans (enumF_len 0 ds).symm⟩, fun i H v H' w' s x g _ hi ⟨T, u, e1, e2, e3, e4⟩ => ?_⟩
  exact pair_enum (r.ext x) e1 e2 e3 (e4 vs (Same.seq (fun b o q => g.sub b o (x.z b o q)) h))
theorem src_enumR {a : Addr} {n : Nat} {xs : List D} (hm : w.m n = some a) : SrcL K mg w (Ite K a) (enumF 0 xs, some (n, xs)) := by
  have wk := walk_enumL (K := K) (a := a) (n := xs.length)
  rw [← enumF_len 0 xs] at wk
  refine ⟨_, _, wk, fun H w' s x g l => ?_, fun i H v H' w' s x g l hi ⟨T, u, e1, e2, e3, e4⟩ => ?_⟩
  · obtain ⟨vs, e, r⟩ := g.atL (x.m _ _ hm) l
    exact ⟨vs, .inl (.inl e), r.length.trans (enumF_len 0 xs).symm⟩
  · obtain ⟨vs, e, r⟩ := g.atL (x.m _ _ hm) l
    exact pair_enum r e1 e2 e3 (e4 vs (.inl (.inl e)))
theorem src_enumT {a : Addr} {vs : List V} {ds : List D} (h : SqT K w.Z a vs) (r : RepL K mg w vs ds) : SrcL K mg w (Iteu K a) (enumF 0 ds, none) := by
  have wk := walk_enumT (K := K) (a := a) (xs := vs)
  rw [show vs.length = (enumF 0 ds).length from r.length.trans (enumF_len 0 ds).symm] at wk
  refine ⟨_, _, wk, fun H w' s x g _ => same_tup (fun b o q => g.sub b o (x.z b o q)) h, fun i H v H' w' s x g _ hi ⟨T, u, e1, e2, e3, e4⟩ => ?_⟩
  exact pair_enum (r.ext x) e1 e2 e3 e4
end
section
variable {X : Cx} {W : Wi} {e tg : Expr} {es : List Expr} {Fe : Dn} {Fs : Da} {pos : Pos}
theorem qil_any (h : QE X W e Fe) : QIL X W tg e (fItL Fe) := by
  refine ⟨fun pins s σ H Q I ⟨fr, w, env, st, J, q⟩ => ?_⟩
  unfold fItL at q
  cases hF : Fe env st with
  | bad =>
    rw [hF] at q
    exact q.elim
  | ex C fs s1 =>
    refine (pi_list h).run pins s σ H Q I ⟨fr, w, env, st, J, ?_⟩
    rw [hF] at q ⊢
    exact q
  | ok d s1 =>
    by_cases hr : ∃ n, d = .ref n
    · obtain ⟨n, rfl⟩ := hr
      refine (pi_list h).run pins s σ H Q I ⟨fr, w, env, st, J, ?_⟩
      rw [hF] at q ⊢
      rw [R.bind_ok] at q
      unfold itemsL at q
      dsimp only at q
      split at q
      · rename_i xs hs
        intro v H' w' x I' r
        cases r with
        | ref hm =>
          obtain ⟨vs, e1, r1⟩ := I'.g.atL hm hs
          exact ⟨_, rfl, ⟨_, .inl (.inl e1)⟩, q _ H' w' x I' (src_ref hm)⟩
      · exact q.elim
    · have q2 : posE X.K (W.g X) fr w env σ W (fun w J items => Src X.K (W.g X) w J items) Q (fIt Fe env st) := by
        unfold fIt
        rw [hF] at q ⊢
        rw [R.bind_ok] at q ⊢
        have e2 : itemsL d s1 = (itemsOf d s1).bind fun xs s => .ok (xs, none) s := by
          cases d <;> first | rfl | exact absurd ⟨_, rfl⟩ hr
        rw [e2] at q
        generalize itemsOf d s1 = r at *
        cases r with
        | ok xs s2 => exact fun v H' w' x I' r => q v H' w' x I' (src_L r)
        | ex _ _ _ => exact q
        | bad => exact q
      exact (qi_any (tg := tg) h).run pins s σ H Q I ⟨fr, w, env, st, J, q2⟩
theorem qil_enum {elts : List Expr} {kk : Nat} {tpos p cpos : Pos} (hg : Gl X "enumerate") (hm : X.mg "enumerate" = none) (h : QE X W e Fe) (hs : starEach [e] X.env = [(false, eval e X.env)] := by rfl) :
    QIL X W (.Tuple elts kk tpos) (.Call (.Name "enumerate" p) [e] [] cpos) (fEnumL Fe) := by
  refine ⟨fun pins s σ H Q I ⟨fr, w, env, st, J, q⟩ => ?_⟩
  have ha := qa_cons h qa_nil (hs := hs)
  unfold fEnumL at q
  have hA : fCons Fe fNil env st = (Fe env st).bind fun x s => .ok [x] s := by
    unfold fCons
    cases Fe env st <;> rfl
  cases hF : Fe env st with
  | bad =>
    rw [hF] at q
    exact q.elim
  | ex C fs s1 =>
    refine (pi_enum hg hm ha (hs := hs)).run pins s σ H Q I ⟨fr, w, env, st, J, ?_⟩
    rw [hA, hF]
    rw [hF] at q
    exact q
  | ok d s1 =>
    rw [hF, R.bind_ok] at q
    rw [hF, R.bind_ok] at hA
    unfold enumL at q
    split at q
    · split at q
      · rename_i n _ xs hs1
        refine (pi_enum hg hm ha (hs := hs)).run pins s σ H Q I ⟨fr, w, env, st, J, ?_⟩
        rw [hA]
        intro vs H' w' x I' rs
        obtain ⟨v, rfl, r⟩ := repL1 rs
        cases r with
        | ref hmm =>
          obtain ⟨vs, e1, r1⟩ := I'.g.atL hmm hs1
          exact ⟨_, _, rfl, .inl (.inl e1), q _ H' w' x I' (src_enumR hmm)⟩
      · exact q.elim
    · refine (pi_enum hg hm ha (hs := hs)).run pins s σ H Q I ⟨fr, w, env, st, J, ?_⟩
      rw [hA]
      intro vs H' w' x I' rs
      obtain ⟨v, rfl, r⟩ := repL1 rs
      cases r with
      | lst hz r => exact ⟨_, _, rfl, I'.seqL (.inl (.inl hz)), q _ H' w' x I' (src_enumL (.inl (.inl hz)) r)⟩
    · refine (pi_enum hg hm ha (hs := hs)).run pins s σ H Q I ⟨fr, w, env, st, J, ?_⟩
      rw [hA]
      intro vs H' w' x I' rs
      obtain ⟨v, rfl, r⟩ := repL1 rs
      cases r with
      | rol hz r => exact ⟨_, _, rfl, I'.seqL hz, q _ H' w' x I' (src_enumL hz r)⟩
    · refine (pi_enumT hg hm ha (hs := hs)).run pins s σ H Q I ⟨fr, w, env, st, J, ?_⟩
      rw [hA]
      intro vs H' w' x I' rs
      obtain ⟨v, rfl, r⟩ := repL1 rs
      cases r with
      | tup hz r => exact ⟨_, _, rfl, I'.seqT hz, q _ H' w' x I' (src_enumT hz r)⟩
    · exact q.elim
/-- for, over a list that may change (it must not while it is walked) -/
theorem qs_forL {iter : Expr} {body : List Stmt} {t : TG} {g : D → Env' → Option Env'} {is : List Nat} {Fi : Dl} {F : Ds} (ht : TgS X.K (W.g X) t g is) (hp : PassesOwn (model X.prog X.w) X.A X.env X.xe) (hc : X.calm = true) (hi : QIL X W tg iter Fi) (hg : PG X tg t)
    (hb : QB X W body F) (hs : ∀ x, foldedSetIterable iter X.env x = pure x := by intro _; rfl) : QS X W (.For tg iter body [] pos) (fForL Fi g F) := psI (ps_for hp hc hi hg hb hs) fun D σ H ⟨fr, w, env, st, I, q⟩ => ⟨fr, w, env, st, I, by
  unfold fForL at q
  generalize Fi env st = r at *
  cases r with
  | ok il s =>
    obtain ⟨items, l⟩ := il
    rintro J H1 w1 x1 I1 ⟨G, Y, wk, gs, ys⟩
    refine for_it wk (fun i σ' H' => ∃ w' env' st', Ext w1 w' ∧ IE X.K (W.g X) fr w' env' st' σ' H' ∧ posS X.K (W.g X) fr w' W D (fTurnsL g F l (items.drop i) env' st')) ⟨w1, env, s, Ext.refl, I1, posS_mono x1 q⟩ ?_ ?_ ?_
    · rintro i σ' H' _ ⟨w', e', s', x', I', q'⟩
      refine gs H' w' s' x' I'.g ?_
      generalize items.drop i = zs at q'
      cases zs <;> (unfold fTurnsL at q'; split at q' <;> first | assumption | exact q'.elim)
    · rintro i v σ' H' H2 hi ⟨w', e', s', x', I', q'⟩ y
      have lv : liv s' l := by
        generalize items.drop i = zs at q'
        cases zs <;> (unfold fTurnsL at q'; split at q' <;> first | assumption | exact q'.elim)
      obtain ⟨d, ed, h⟩ := ys i H' v H2 w' s' x' I'.g lv hi y
      have dr : items.drop i = d :: items.drop (i + 1) := by
        rw [List.drop_eq_getElem_cons hi]
        have ed' : items[i]? = some d := ed
        rw [List.getElem?_eq_getElem hi] at ed'
        rw [Option.some.inj ed']
      rw [dr] at q'
      unfold fTurnsL at q'
      rw [if_pos lv] at q'
      -- the turn, over the world w2
      have turn : ∀ w2, Ext w' w2 → IE X.K (W.g X) fr w2 e' s' σ' H2 → Rep X.K (W.g X) w2 v d → t v σ' H2 fun σ2 H3 => rdS X.K (W.g X) W F { D with nx := fun σ3 H4 => ∃ w' env' st', Ext w1 w' ∧ IE X.K (W.g X) fr w' env' st' σ3 H4 ∧ posS X.K (W.g X) fr w' W D (fTurnsL g F l (items.drop (i + 1)) env' st'), ct := fun σ3 H4 => ∃ w' env' st', Ext w1 w' ∧ IE X.K (W.g X) fr w' env' st' σ3 H4 ∧ posS X.K (W.g X) fr w' W D (fTurnsL g F l (items.drop (i + 1)) env' st'), bk := D.nx } σ2 H3 := by
        intro w2 x2 I2 r2
        have q2 := posS_mono x2 q'
        clear q'
        revert q2
        cases hg : g d e' with
        | none => exact fun z => z.elim
        | some e1 =>
          intro q2
          refine ht fr w2 e' s' σ' H2 v d e1 _ I2 r2 hg fun σ2 _ I3 => ⟨fr, w2, e1, s', I3, ?_⟩
          revert q2
          dsimp only
          generalize F e1 s' = r
          cases r with
          | nx e s3 => exact fun q σ3 H3 w3 x3 I3 => ⟨w3, e, s3, (x'.trans x2).trans x3, I3, posS_mono x3 q⟩
          | ct e s3 => exact fun q σ3 H3 w3 x3 I3 => ⟨w3, e, s3, (x'.trans x2).trans x3, I3, posS_mono x3 q⟩
          | bk e s3 => exact fun q => q
          | rt d s3 => exact fun q => q
          | ex C fs e s3 => exact fun q => q
          | bad => exact fun q => q
      rcases h with ⟨rfl, r⟩ | ⟨p, vs, ds, hp, rfl, rfl, rfl, r⟩
      · exact turn w' Ext.refl I' r
      · exact turn (w'.add p (.tup vs)) (I'.ext _ hp) (I'.alloc hp) (rep_tupN (I'.z hp) r)
    · rintro σ' H' ⟨w', e', s', x', I', q'⟩
      have q2 : posS X.K (W.g X) fr w' W D (fTurnsL g F l (items.drop items.length) e' s') := q'
      rw [List.drop_length] at q2
      unfold fTurnsL at q2
      split at q2
      · exact q2 σ' H' w' Ext.refl I'
      · exact q2.elim
  | ex C fs s => exact fun c dx H' w' x I' f => q c dx σ H' w' x I' f
  | bad => exact q⟩
end
/-- .. over something that cannot change: as if it were known ahead -/
theorem fTurnsL_none {tg : D → Env' → Option Env'} {b : Ds} : ∀ {xs : List D} {env : Env'} {st : Store}, fTurnsL tg b none xs env st = fTurns tg b xs env st
  | [], env, st => by unfold fTurnsL fTurns; exact if_pos trivial
  | x :: xs, env, st => by
    unfold fTurnsL fTurns
    rw [if_pos (show liv st none from trivial)]
    cases tg x env with
    | none => rfl
    | some e1 =>
      dsimp only
      cases b e1 st with
      | nx e s => exact fTurnsL_none
      | ct e s => exact fTurnsL_none
      | _ => rfl
end Dv

/-! DvO: methods, properties, raise, try, the caught error. -/
namespace Dv
open PySem PySem.Spec PyProof.Rows L2 Cv
def insOf (x : D) (s : Store) : Option (Str × List (Str × D)) := match x with
  | .ins C fs => some (C, fs)
  | .ref n => (match s[n]? with
    | some (.ins C fs) => some (C, fs)
    | _ => none)
  | _ => none
def fMeth (C m : Str) (f : Fn) (dd : List D) (o : Dn) (a : Da) : Dn := fun env st => (o env st).bind fun x s => match insOf x s with
  | some (C', fs) => if C' = C ∧ (fs.lookup m).isNone = true then (a env s).bind fun ds s2 => f (x :: (ds ++ dd)) s2 else .bad
  | none => .bad
def fProp (C : Str) (f : Fn) (o : Dn) : Dn := fun env st => (o env st).bind fun x s => match insOf x s with
  | some (C', _) => if C' = C then (f [x] s).quiet else .bad
  | none => .bad
theorem insOf_or {x : D} {s : Store} {C : Str} {fs : List (Str × D)} (h : insOf x s = some (C, fs)) : x = .ins C fs ∨ ∃ n, x = .ref n ∧ s[n]? = some (.ins C fs) := by
  unfold insOf at h
  split at h
  · cases h; exact .inl rfl
  · split at h
    · rename_i hs
      cases h
      exact .inr ⟨_, rfl, hs⟩
    · cases h
  · cases h
section
variable {X : Cx} {W : Wi} {e o ex : Expr} {es : List Expr} {Fs : Da} {Fo : Dn} {C m : Str} {c : Addr} {f : Fn}
theorem qe_meth {n k : Nat} {dvs : List V} {dd : List D} (hc : X.mg C = some (.ref c)) (hd : ∀ w : Wd, RepL X.K (W.g X) w dvs dd) (hm : n + dd.length + 1 = k) (ho : QE X W o Fo) (ha : QN X W es Fs n)
    (h : ∀ {to : TE} {t : TA}, PE X o to → PA X es t → PE X ex (tMethS c m (spD X.K X.mg k f) dvs (L2.WE W.w) to t)) : QE X W ex (fMeth C m f dd Fo Fs) :=
  peI (h ho ha.qa) fun σ H Q ⟨fr, w, env, st, I, q⟩ => ⟨fr, w, env, st, I, pos_bind q fun x s _ v H1 w1 x1 I1 r1 q1 => by
    split at q1
    · rename_i C' fs hi
      split at q1
      · rename_i hC
        obtain ⟨a, c', dx, vs, e1, e2, e3, rf⟩ := I1.ins r1 (insOf_or hi)
        obtain ⟨rfl, hn⟩ := hC
        have e2' : X.mg C' = some (.ref c') := e2
        rw [hc] at e2'
        cases e2'
        refine ⟨a, dx, vs, e1, e3, repF_none rf (Option.isNone_iff_eq_none.mp hn), fr, w1, env, s, I1, pos_bind q1 fun ds s2 hx us H2 w2 x2 I2 r2 q2 => ?_⟩
        exact ⟨W.pn, w2, s2, x :: (ds ++ dd), I2.g, .cons (r1.ext x2) (r2.append (hd w2)), by rw [List.length_cons, List.length_append, ha.len _ _ _ _ hx]; omega, posE_F I2 q2⟩
      · exact q1.elim
    · exact q1.elim⟩
theorem posE_F0 {fr : Fr} {w : Wd} {env : Env'} {st : Store} {σ : L2.St} {H : Hp} {Q : VK} {r : R D} (I : IE X.K (W.g X) fr w env st σ H) (q : posE X.K (W.g X) fr w env σ W (Rep X.K (W.g X)) Q r.quiet) : posF X.K (W.g X) w st H Q (fun _ _ _ => False) r := by
  cases r with
  | ok d s => exact fun v H' w' x g k r => q v H' w' x (I.trans x g k) r
  | ex C fs s => exact q.elim
  | bad => exact q
theorem qe_prop (hc : X.mg C = some (.ref c)) (ho : QE X W o Fo) (h : ∀ {to : TE}, PE X o to → PE X ex (tProp c (spD X.K X.mg 1 f) [] (fun _ _ _ => False) to)) : QE X W ex (fProp C f Fo) :=
  peI (h ho) fun σ H Q ⟨fr, w, env, st, I, q⟩ => ⟨fr, w, env, st, I, pos_bind q fun x s _ v H1 w1 x1 I1 r1 q1 => by
    split at q1
    · rename_i C' fs hi
      split at q1
      · rename_i hC
        obtain ⟨a, c', dx, vs, e1, e2, e3, rf⟩ := I1.ins r1 (insOf_or hi)
        subst hC
        have e2' : X.mg C' = some (.ref c') := e2
        rw [hc] at e2'
        cases e2'
        subst e1
        exact ⟨a, dx, vs, rfl, e3, W.pn, w1, s, [x], I1.g, .cons r1 .nil, rfl, posE_F0 I1 q1⟩
      · exact q1.elim
    · exact q1.elim⟩
end
/-! ### raise -/
/-- an error's __init__: the base's __init__, then one attribute per parameter -/
def spErr (K : PySem.W.Frag) (names : List Str) : Sp := fun vs H Q _ => ∃ (a C : Addr) (ws : List V), vs = .ref a :: ws ∧ ws.length = names.length ∧ OexC K C ∧ (∀ f ∈ names, PySem.W.findIn K (.ref C) f = some none) ∧ H a = some (exo a C none) ∧
  ∀ dx G, H dx = none → dx ≠ a → (∀ b, b ≠ a → b ≠ dx → G b = H b) → G a = some (exo a C (some dx)) → G dx = some (exd dx (names.zip ws).reverse) → Q .non G
theorem use_mkN {K : PySem.W.Frag} {C : Addr} {names : List Str} {ws : List V} {H : Hp} {Q : XK} (T : OexC K C) (hf : ∀ f ∈ names, PySem.W.findIn K (.ref C) f = some none) (hl : ws.length = names.length) (hz : names.length ≤ 1000)
    (q : ∀ d, H d = none → Q (.ref C) (some d) (upd H d (.xd (names.zip ws).reverse))) :
    ws.length ≤ 1000 ∧ ∀ a, H a = none → spErr K names (.ref a :: (ws ++ [])) (upd H a (exo a C none))
      (fun w G => w = .non ∧ ∃ (d : Addr) (fs : List (Str × V)), G a = some (exo a C (some d)) ∧ G d = some (exd d fs) ∧ H d = none ∧ Q (.ref C) (some d) (upd (del G a) d (.xd fs))) (fun _ _ _ => False) := by
  refine ⟨by omega, fun a na => ⟨a, C, ws, by rw [List.append_nil], hl, T, hf, upd_same, fun dx G nd ne old ga gd => ?_⟩⟩
  rw [upd_ne ne] at nd
  refine ⟨rfl, dx, _, ga, gd, nd, ?_⟩
  have e : upd (del G a) dx (.xd (names.zip ws).reverse) = upd H dx (.xd (names.zip ws).reverse) := by
    funext b
    by_cases hd : b = dx
    · rw [hd, upd_same, upd_same]
    · rw [upd_ne hd, upd_ne hd]
      by_cases ha : b = a
      · rw [ha, del_same, na]
      · rw [del_ne ha, old b ha hd, upd_ne ha]
  rw [e]
  exact q dx nd
def fRaise (C : Str) (names : List Str) (a : Da) : Ds := fun env st => match a env st with
  | .ok xs s => if xs.length = names.length then .ex C (names.zip xs).reverse env s else .bad
  | .ex C fs s => .ex C fs env s
  | .bad => .bad
theorem repF_zip {K : PySem.W.Frag} {mg : Gm} {w : Wd} : ∀ {names : List Str} {vs : List V} {ds : List D}, RepL K mg w vs ds → RepF K mg w (names.zip vs) (names.zip ds)
  | [], _, _, _ => .nil
  | _ :: _, _, _, .nil => .nil
  | _ :: _, _, _, .cons h r => .cons h (repF_zip r)
theorem repF_app {K : PySem.W.Frag} {mg : Gm} {w : Wd} : ∀ {vs us : List (Str × V)} {ds es : List (Str × D)}, RepF K mg w vs ds → RepF K mg w us es → RepF K mg w (vs ++ us) (ds ++ es)
  | _, _, _, _, .nil, r => r
  | _, _, _, _, .cons h r, q => .cons h (repF_app r q)
theorem repF_rev {K : PySem.W.Frag} {mg : Gm} {w : Wd} : ∀ {vs : List (Str × V)} {ds : List (Str × D)}, RepF K mg w vs ds → RepF K mg w vs.reverse ds.reverse
  | _, _, .nil => .nil
  | _, _, .cons h r => by
    rw [List.reverse_cons, List.reverse_cons]
    exact repF_app (repF_rev r) (.cons h .nil)
theorem qs_raise {X : Cx} {W : Wi} {es : List Expr} {Fs : Da} {s : Stmt} {C : Str} {c : Addr} {names : List Str} (hC : X.mg C = some (.ref c)) (T : OexC X.K c) (hf : ∀ f ∈ names, PySem.W.findIn X.K (.ref c) f = some none) (hz : names.length ≤ 1000) (ha : QA X W es Fs)
    (h : ∀ {t : TA}, PA X es t → PS X s (fun _ σ H => tMkO c (spErr X.K names) [] t σ H fun cls d H' => W.w cls d σ H')) : QS X W s (fRaise C names Fs) :=
  psI (h ha) fun D σ H ⟨fr, w, env, st, I, q⟩ => ⟨fr, w, env, st, I, by
    unfold fRaise at q
    generalize Fs env st = r at *
    cases r with
    | ok xs s =>
      intro vs H1 w1 x1 I1 r1
      dsimp only at q
      split at q
      · rename_i hl
        refine use_mkN (Q := fun cls d H' => W.w cls d σ H') T hf (r1.length.trans hl) hz fun d nd => ?_
        exact q c (some d) σ _ (w1.add d _) (x1.trans (I1.ext _ nd)) (I1.alloc nd) ⟨hC, .inr ⟨d, _, rfl, Wd.add_at, (repF_rev (repF_zip r1)).ext (I1.ext _ nd)⟩⟩
      · exact q.elim
    | ex C fs s => exact fun c dx H' w' x I' f => q c dx σ H' w' x I' f
    | bad => exact q⟩
/-! ### try -/
mutual
theorem Rep.pn {K : PySem.W.Frag} {mg : Gm} {w : Wd} {pn : Option (Addr × Obj)} : ∀ {v : V} {d : D}, Rep K mg w v d → Rep K ⟨mg.f, pn⟩ w v d
  | _, _, .non => .non
  | _, _, .bl b => .bl b
  | _, _, .int b => .int b
  | _, _, .str b => .str b
  | _, _, .ty b => .ty b
  | _, _, .lst h r => .lst h r.pn
  | _, _, .rol h r => .rol h r.pn
  | _, _, .tup h r => .tup h r.pn
  | _, _, .dct h r => .dct h r.pn
  | _, _, .ins hc h r => .ins hc h r.pn
  | _, _, .ref h => .ref h
theorem RepL.pn {K : PySem.W.Frag} {mg : Gm} {w : Wd} {pn : Option (Addr × Obj)} : ∀ {v : List V} {d : List D}, RepL K mg w v d → RepL K ⟨mg.f, pn⟩ w v d
  | _, _, .nil => .nil
  | _, _, .cons h r => .cons h.pn r.pn
theorem RepF.pn {K : PySem.W.Frag} {mg : Gm} {w : Wd} {pn : Option (Addr × Obj)} : ∀ {v : List (Str × V)} {d : List (Str × D)}, RepF K mg w v d → RepF K ⟨mg.f, pn⟩ w v d
  | _, _, .nil => .nil
  | _, _, .cons h r => .cons h.pn r.pn
theorem RepK.pn {K : PySem.W.Frag} {mg : Gm} {w : Wd} {pn : Option (Addr × Obj)} : ∀ {v : List (L2.Key × V)} {d : List (D × D)}, RepK K mg w v d → RepK K ⟨mg.f, pn⟩ w v d
  | _, _, .nil => .nil
  | _, _, .cons h r => .cons h.pn r.pn
end
def Sl.clr : Sl → Sl
  | .err _ _ => .no
  | s => s
/-- no error is known any more -/
def clrE (env : Env') : Env' := env.map Sl.clr
section
variable {K : PySem.W.Frag} {mg : Gm} {fr : Fr} {w w' : Wd} {env : Env'} {st st' : Store} {σ : L2.St} {H H' : Hp} {po : Option (Addr × Obj)}
theorem ORep.pn {ho : HO} {so : SO} (r : ORep K mg w ho so) : ORep K ⟨mg.f, po⟩ w ho so := by
  cases r with
  | lst r => exact .lst r.pn
  | dct r => exact .dct r.pn
  | ins hc r => exact .ins hc r.pn
theorem Good.pn (g : Good K mg w st H) : Good K ⟨mg.f, po⟩ w st H := ⟨g.sub, g.dom, fun n o e => by
  obtain ⟨a, ho, h1, h2, h3, h4⟩ := g.at_ n o e
  exact ⟨a, ho, h1, h2, h3.pn, h4⟩, g.inj⟩
theorem clr_get {i : Nat} {s : Sl} (h : (clrE env)[i]? = some s) : (s = .no) ∨ (env[i]? = some s ∧ ∀ C fs, s ≠ .err C fs) := by
  unfold clrE at h
  rw [List.getElem?_map] at h
  cases e : env[i]? with
  | none => rw [e] at h; cases h
  | some u =>
    rw [e] at h
    cases u with
    | no => cases h; exact .inl rfl
    | val d => cases h; exact .inr ⟨rfl, fun _ _ z => nomatch z⟩
    | own o => cases h; exact .inr ⟨rfl, fun _ _ z => nomatch z⟩
    | err C fs => cases h; exact .inl rfl
theorem OwnAt.pn {a : Addr} {so : SO} (k : OwnAt K mg fr w H a so) : OwnAt K ⟨mg.f, po⟩ fr w H a so := by
  obtain ⟨⟨ho, e, r⟩, k2, k3, k4⟩ := k
  exact ⟨⟨ho, e, r.pn⟩, k2, k3, k4⟩
theorem IE.pn (I : IE K mg fr w env st σ H) : IE K ⟨mg.f, po⟩ fr w (clrE env) st σ H := by
  refine ⟨I.g.pn, ⟨I.k.old, I.k.new, I.k.fz⟩, ?_, fun i d e => ?_, fun i o e => ?_, fun i j a o o' e1 e2 => ?_, fun x o hx e => ?_, fun i C fs e => ?_⟩
  · unfold clrE
    rw [List.length_map]
    exact I.s.len
  · rcases clr_get e with q | ⟨q, _⟩
    · cases q
    · obtain ⟨v, e1, r⟩ := I.s.val i d q
      exact ⟨v, e1, r.pn⟩
  · rcases clr_get e with q | ⟨q, _⟩
    · cases q
    · obtain ⟨v, e1, r⟩ := I.s.own i o q
      exact ⟨v, e1, r.pn⟩
  · rcases clr_get e1 with q | ⟨q, _⟩
    · cases q
    rcases clr_get e2 with q' | ⟨q', _⟩
    · cases q'
    exact I.s.ap i j a o o' q q'
  · rcases clr_get e with q | ⟨q, _⟩
    · cases q
    · exact I.s.sf x o hx q
  · rcases clr_get e with q | ⟨_, q⟩
    · cases q
    · exact absurd rfl (q C fs)
theorem IE.setErr (I : IE K mg fr w env st σ H) {i : Nat} {a : Addr} {C : Str} {fs : List (Str × D)} (h : EAt K mg w a C fs) : IE K mg fr w (env.set i (.err C fs)) st (σ.set i (some (.ref a))) H := by
  refine ⟨I.g, I.k, by rw [List.length_set, List.length_set]; exact I.s.len, fun j d e => ?_, fun j o e => ?_, fun j k c o o' h1 h2 h3 h4 => ?_, fun x o hx e => ?_, fun j C fs e => ?_⟩
  · rcases set_cases e with ⟨_, e, _⟩ | ⟨hj, e⟩
    · cases e
    · rw [List.getElem?_set_ne hj]
      exact I.s.val j d e
  · rcases set_cases e with ⟨_, e, _⟩ | ⟨hj, e⟩
    · cases e
    · rw [List.getElem?_set_ne hj]
      exact I.s.own j o e
  · rcases set_cases h1 with ⟨_, e, _⟩ | ⟨n1, e1⟩
    · cases e
    rcases set_cases h2 with ⟨_, e, _⟩ | ⟨n2, e2⟩
    · cases e
    rw [List.getElem?_set_ne n1] at h3
    rw [List.getElem?_set_ne n2] at h4
    exact I.s.ap j k c o o' e1 e2 h3 h4
  · rcases set_cases e with ⟨_, e, _⟩ | ⟨hj, e⟩
    · cases e
    · rw [List.getElem?_set_ne hj]
      exact I.s.sf x o hx e
  · rcases set_cases e with ⟨rfl, e, hl⟩ | ⟨hj, e⟩
    · cases e
      exact ⟨a, List.getElem?_set_self (by rw [I.s.len]; exact hl), h⟩
    · rw [List.getElem?_set_ne hj]
      exact I.s.er j C fs e
/-- slot i has nothing any more -/
theorem IE.setNo (I : IE K mg fr w env st σ H) (i : Nat) : IE K mg fr w (env.set i .no) st (σ.set i none) H := by
  refine ⟨I.g, I.k, by rw [List.length_set, List.length_set]; exact I.s.len, fun j d e => ?_, fun j o e => ?_, fun j k c o o' h1 h2 h3 h4 => ?_, fun x o hx e => ?_, fun j C fs e => ?_⟩
  · rcases set_cases e with ⟨_, e, _⟩ | ⟨hj, e⟩
    · cases e
    · rw [List.getElem?_set_ne hj]
      exact I.s.val j d e
  · rcases set_cases e with ⟨_, e, _⟩ | ⟨hj, e⟩
    · cases e
    · rw [List.getElem?_set_ne hj]
      exact I.s.own j o e
  · rcases set_cases h1 with ⟨_, e, _⟩ | ⟨n1, e1⟩
    · cases e
    rcases set_cases h2 with ⟨_, e, _⟩ | ⟨n2, e2⟩
    · cases e
    rw [List.getElem?_set_ne n1] at h3
    rw [List.getElem?_set_ne n2] at h4
    exact I.s.ap j k c o o' e1 e2 h3 h4
  · rcases set_cases e with ⟨_, e, _⟩ | ⟨hj, e⟩
    · cases e
    · rw [List.getElem?_set_ne hj]
      exact I.s.sf x o hx e
  · rcases set_cases e with ⟨_, e, _⟩ | ⟨hj, e⟩
    · cases e
    · rw [List.getElem?_set_ne hj]
      exact I.s.er j C fs e
end
/-- a clause: of which classes it is, its suite -/
abbrev Hd := (Str → Option Bool) × Ds
def fHandle (i : Nat) : List Hd → Str → List (Str × D) → Ds
  | [], C, fs => fun env st => .ex C fs env st
  | (m, h) :: r, C, fs => fun env st => match m C with
    | some true => (match h ((clrE env).set i (.err C fs)) st with
      | .nx e s => .nx ((clrE e).set i .no) s
      | .rt d s => .rt d s
      | .bk e s => .bk ((clrE e).set i .no) s
      | .ct e s => .ct ((clrE e).set i .no) s
      | _ => .bad)
    | some false => fHandle i r C fs env st
    | none => .bad
def fTry (i : Nat) (b : Ds) (hs : List Hd) : Ds := fun env st => match b env st with
  | .ex C fs e s => fHandle i hs C fs e s
  | r => r
/-- a clause's reading -/
def tHd (X : Cx) (F : Ds) : Addr → Value → Option Addr → TS := fun a cls d D σ H => ∀ oe, L2N.Zn cls d oe → (∃ vs, oe.data = .fields vs) → rdS X.K ⟨X.mg, some (a, oe)⟩ ⟨fun _ _ _ _ => False, some (a, oe)⟩ F D σ H
/-- what a class says of the errors -/
def Orc (X : Cx) (c : Value) (m : Str → Option Bool) : Prop := ∀ C a b, X.mg C = some (.ref a) → m C = some b → PySem.W.exmOne X.K (.ref a) c = some b
inductive QHd (X : Cx) (n : Str) : List ExceptHandler → List Cls1 → List Hd → Prop
  | nil : QHd X n [] [] []
  | cons {x : Str} {c : Value} {b0 : Stmt} {bs : List Stmt} {np p2 : Pos} {hds : List ExceptHandler} {l : List Cls1} {fs : List Hd} {m : Str → Option Bool} {F : Ds} (hc : Names X x c) (ho : Orc X c m)
      (hsu : ∀ (a : Addr) (oe : Obj) (cls : Value) (d : Option Addr) (pn : List (Addr × Obj)), L2N.Zn cls d oe → (∃ vs, oe.data = .fields vs) → QB (X.suite a ((a, oe) :: pn)) ⟨fun _ _ _ _ => False, some (a, oe)⟩ (b0 :: bs) F)
      (r : QHd X n hds l fs) : QHd X n (.ExceptHandler (some (.Name x np)) (some n) (b0 :: bs) p2 :: hds) ((c, tHd X F) :: l) ((m, F) :: fs)
section
variable {X : Cx} {W : Wi} {n : Str} {i : Nat}
theorem QHd.named {hds : List ExceptHandler} {l : List Cls1} {fs : List Hd} (h : QHd X n hds l fs) : Named X n hds l := by
  induction h with
  | nil => exact .nil
  | cons hc ho hsu r ih => exact .cons hc (fun a oe cls d pn z fl => pbI (hsu a oe cls d pn z fl) fun D σ H q => q oe z fl) ih
theorem handle_ok {hds : List ExceptHandler} {l : List Cls1} {hs : List Hd} (h : QHd X n hds l hs) {fr : Fr} {w : Wd} {N : Ends} {C : Str} {fs : List (Str × D)} {env : Env'} {st : Store} : posS X.K (W.g X) fr w W N (fHandle i hs C fs env st) →
    ∀ (e : Addr) (dx : Option Addr) (σ : L2.St) (H : Hp) (w' : Wd), Ext w w' → IE X.K (W.g X) fr w' env st σ H → Flies X.K (W.g X) w' H C fs e dx → wNames X.K i W.w N l (.ref e) dx σ H := by
  induction h with
  | nil => exact fun q e dx σ H w' x I f => q e dx σ H w' x I f
  | @cons x c b0 bs np p2 hds l hs m F hc ho hsu r ih =>
    intro q e dx σ H w' x I f
    unfold fHandle at q
    cases hm : m C with
    | none => rw [hm] at q; exact q.elim
    | some b =>
      rw [hm] at q
      refine ⟨b, ho C e b f.1 hm, fun hb a na oe z fl => ?_, fun hb => ?_⟩
      · subst hb
        dsimp only at q
        have I2 := (I.pn (po := some (a, oe))).setErr (i := i) (a := a) (C := C) (fs := fs) ⟨oe, e, rfl, fl, f.1, z.1, by
          rcases f.2 with ⟨h1, h2⟩ | ⟨d, vs, h1, h2, h3⟩
          · exact .inl ⟨z.2.1.trans h1, h2⟩
          · exact .inr ⟨d, vs, z.2.1.trans h1, h2, h3.pn⟩⟩
        refine ⟨fr, w', _, st, I2, ?_⟩
        revert q
        generalize F ((clrE env).set i (.err C fs)) st = r
        have back : ∀ {w2 : Wd} {e2 : Env'} {s2 : Store} {τ : L2.St} {G : Hp}, IE X.K ⟨X.mg, some (a, oe)⟩ fr w2 e2 s2 τ G → IE X.K (W.g X) fr w2 ((clrE e2).set i .no) s2 (τ.set i none) G := fun I => (I.pn (po := W.pn)).setNo i
        cases r with
        | nx e2 s2 => exact fun q τ G w2 x2 I3 => q _ G w2 (x.trans x2) (back I3)
        | rt d s2 => exact fun q v G w2 x2 g k r => q v G w2 (x.trans x2) (g.pn (po := W.pn)) k (r.pn (pn := W.pn))
        | bk e2 s2 => exact fun q τ G w2 x2 I3 => q _ G w2 (x.trans x2) (back I3)
        | ct e2 s2 => exact fun q τ G w2 x2 I3 => q _ G w2 (x.trans x2) (back I3)
        | ex C2 fs2 e2 s2 => exact fun q => q.elim
        | bad => exact fun q => q.elim
      · subst hb
        exact ih q e dx σ H w' x I f
/-- try: .., except C as n: .. -/
theorem qs_try {body : List Stmt} {h0 : ExceptHandler} {hds : List ExceptHandler} {l : List Cls1} {hs : List Hd} {F : Ds} {pos : Pos} (hst : X.stack = X.env :: X.outer) (hf : X.env.frame = some X.env.locals)
    (hN : X.N.Nodup) (hi : X.N[i]? = some n) (hln : X.env.kindOf n = some .local) (tk : L2N.Takes X W.w)
    (hb : ∀ (V : WX) (pn : List (Addr × Obj)) (xe : Value → Shared → Prop), L2N.Takes (X.tr pn xe) V → PassesOwn (model X.prog X.w) X.A X.env xe → QB (X.tr pn xe) ⟨V, W.pn⟩ body F)
    (hh : QHd X n (h0 :: hds) l hs) : QS X W (.Try body (h0 :: hds) [] [] pos) (fTry i F hs) :=
  psI (ps_tryNames (tb := fun V => rdS X.K (W.g X) ⟨V, W.pn⟩ F) hst hf hN hi hln tk hb hh.named) fun D σ H ⟨fr, w, env, st, I, q⟩ => ⟨fr, w, env, st, I, by
    unfold fTry at q
    revert q
    generalize F env st = r
    cases r with
    | ex C fs e s => exact fun q c dx σ' H' w' x I' f => handle_ok hh q c dx σ' H' w' x I' f
    | nx e s => exact fun q => q
    | rt d s => exact fun q => q
    | bk e s => exact fun q => q
    | ct e s => exact fun q => q
    | bad => exact fun q => q⟩
end
end Dv

/-! DvP: attributes of the caught error, isinstance of it; len of own classes; f-strings; constants of classes; tuples repeated; calls by keywords alone. -/
namespace Dv
open PySem PySem.Spec PyProof.Rows L2 Cv
/-! ### the caught error -/
def fErr (i : Nat) (f : Str) (Cs : List Str) : Dn := fun env st => match env[i]? with
  | some (Sl.err C fs) => if C ∈ Cs then (match fs.lookup f with
    | some d => .ok d st
    | none => .bad) else .bad
  | _ => .bad
def ErrOk (K : PySem.W.Frag) (mg : Str → Option Value) (Cs : List Str) (f : Str) : Prop := ∀ C ∈ Cs, ∀ c, mg C = some (.ref c) → XfC K c ∧ PySem.W.findIn K (.ref c) f = some none
def tXf2 (K : PySem.W.Frag) (a : Addr) (cls : Value) (d : Option Addr) (f : Str) (te : TE) : TE := fun σ H Q => te σ H fun x H1 => x = .ref a ∧ ∃ (C dd : Addr) (fs : List (Str × V)) (v : V), cls = .ref C ∧ XfC K C ∧ PySem.W.findIn K (.ref C) f = some none ∧ d = some dd ∧ H1 dd = some (.xd fs) ∧ fs.lookup f = some v ∧ Q v H1
theorem pe_xf2 {X : Cx} {a : Addr} {oe : Obj} {cls : Value} {d : Option Addr} {pn : List (Addr × Obj)} {e : Expr} {te : TE} {pos : Pos} {n : Str}
    (hz : L2.Zc cls d oe) (hf : ∃ vs, oe.data = .fields vs) (he : PE (X.suite a ((a, oe) :: pn)) e te) (hb : attributeBase e n X.env (eval e X.env) = eval e X.env := by rfl) :
    PE (X.suite a ((a, oe) :: pn)) (.Attribute e n pos) (tXf2 X.K a cls d n te) := by
  refine ⟨fun pins s σ H Q I h => ?_⟩
  refine attr_of hb (thn (he.run pins s σ H _ I h) fun u s1 hh => ?_)
  obtain ⟨x, H1, I1, rx, ex, C, dd, fs, v, ec, T, hno, ed, ea, l, q⟩ := hh
  subst ex
  obtain rfl : u = Value.ref a := rx
  subst ec
  subst ed
  obtain ⟨ha, _⟩ := I1.pin (a, oe) (List.mem_append_left _ List.mem_cons_self)
  obtain ⟨vs, hd⟩ := hf
  have hx : ObjOk X.prog X.w H1 s1.heap dd (.xd fs) := I1.hok dd _ ea
  obtain ⟨mA, hns, hr⟩ := hx
  obtain ⟨od, ho, hl⟩ := lookIn_ns hns
  obtain ⟨u, hu, ru⟩ := RelO.some_of (v := v) (o := mA n) (by rw [← l]; exact hr n)
  have J : PySem.W.InstAt s1.heap a oe C (some od) := ⟨ha, hz.1, by unfold PySem.W.notCls; rw [hd] <;> rfl, by rw [hz.2]; exact ho⟩
  exact HandSPX.exc_get I1.kIn J T.ga T.gg T.exC (PySem.W.findObj_own T.hdC hno rfl (by rw [hl, hu])) (handed_of ru) ⟨v, H1, I1.tok _, ru, q⟩
theorem qe_err {X : Cx} {a : Addr} {oe : Obj} {cls : Value} {d : Option Addr} {pn : List (Addr × Obj)} {e : Expr} {pos : Pos} {n : Str} {Wx : WX} {i : Nat} {Cs : List Str} (hE : ErrOk X.K X.mg Cs n) (z : L2N.Zn cls d oe) (fl : ∃ vs, oe.data = .fields vs)
    (he : PE (X.suite a ((a, oe) :: pn)) e (tVar i)) (hb : attributeBase e n X.env (eval e X.env) = eval e X.env := by rfl) : QE (X.suite a ((a, oe) :: pn)) ⟨Wx, some (a, oe)⟩ (.Attribute e n pos) (fErr i n Cs) :=
  peI (pe_xf2 z.zc fl he hb) fun σ H Q ⟨fr, w, env, st, I, q⟩ => by
    unfold fErr at q
    split at q
    · rename_i C fs hen
      split at q
      · rename_i hC
        split at q
        · rename_i u hu
          obtain ⟨a', e1, oe', c, h1, h2, h3, h4, h5⟩ := I.s.er i C fs hen
          have h1' : some (a, oe) = some (a', oe') := h1
          cases h1'
          obtain ⟨T, hno⟩ := hE C hC c h3
          rcases h5 with ⟨_, rfl⟩ | ⟨dd, vs, g1, g2, g3⟩
          · cases hu
          · obtain ⟨v, ev, rv⟩ := g3.lookup hu
            exact ⟨_, e1, rfl, c, dd, vs, v, z.1.symm.trans h4, T, hno, z.2.1.symm.trans g1, I.g.sub _ _ g2, ev, pos_here q I rv⟩
        · exact q.elim
      · exact q.elim
    · exact q.elim
/-- isinstance(e, C) -/
def fErrIs (i : Nat) (m : Str → Option Bool) : Dn := fun env st => match env[i]? with
  | some (Sl.err C fs) => if fs.isEmpty = true then .bad else (match m C with
    | some b => .ok (.bl b) st
    | none => .bad)
  | _ => .bad
def OrcK (K : PySem.W.Frag) (mg : Str → Option Value) (cv : Value) (m : Str → Option Bool) : Prop := ∀ C a b, mg C = some (.ref a) → m C = some b → OwnE K a ∧ PySem.W.kitOne K (.ref a) cv = some b
def rIsP2 (K : PySem.W.Frag) (p : Addr × Obj) : List V → Hp → VK → Prop := fun xs H Q => ∃ C dd, OwnE K C ∧ L2.Zc (.ref C) (some dd) p.2 ∧ rIsP K p.1 C dd xs H Q
theorem call_isP2 {X : Cx} {p : Addr × Obj} (hp : p ∈ X.pn) (fl : ∃ vs, p.2.data = .fields vs) : CallR X (.builtin "isinstance") (rIsP2 X.K p) := fun pins s σ H xs us Q I r ⟨C, dd, O, z, h⟩ => call_isP O hp z fl pins s σ H xs us Q I r h
theorem qe_errIs {X : Cx} {a : Addr} {oe : Obj} {cls : Value} {d : Option Addr} {pn : List (Addr × Obj)} {ex : Expr} {Wx : WX} {i : Nat} {v : V} {cv : Value} {m : Str → Option Bool} (hm : OrcK X.K X.mg cv m) (hv : ClsV v cv) (z : L2N.Zn cls d oe) (fl : ∃ vs, oe.data = .fields vs)
    (h : PE (X.suite a ((a, oe) :: pn)) ex (tCB (rIsP2 X.K (a, oe)) (tCons (tVar i) (tCons (tC v) tNil)))) : QE (X.suite a ((a, oe) :: pn)) ⟨Wx, some (a, oe)⟩ ex (fErrIs i m) :=
  peI h fun σ H Q ⟨fr, w, env, st, I, q⟩ => by
    unfold fErrIs at q
    split at q
    · rename_i C fs hen
      split at q
      · exact q.elim
      rename_i hne
      split at q
      · rename_i b hb
        obtain ⟨a', e1, oe', c, h1, h2, h3, h4, h5⟩ := I.s.er i C fs hen
        have h1' : some (a, oe) = some (a', oe') := h1
        cases h1'
        obtain ⟨O, hk⟩ := hm C c b h3 hb
        rcases h5 with ⟨g1, g2⟩ | ⟨dd, vs, g1, g2, g3⟩
        · exact absurd (by rw [g2]; rfl) hne
        · exact ⟨_, e1, c, dd, O, ⟨h4, g1⟩, vs, I.g.sub _ _ g2, .inl ⟨v, cv, b, rfl, hv, hk, pos_here q I (.bl b)⟩⟩
      · exact q.elim
    · exact q.elim
/-! ### len of an instance -/
theorem special_K {M : Model} {A : Around} {E : Value → Shared → Prop} {s : Shared} {K : PySem.W.Frag} {x C f : Addr} {ox : Obj} {od : Option Obj} {name : Str} {Q : Option Value → Shared → Prop} (hK : K.In s.heap) (J : PySem.W.InstAt s.heap x ox C od)
    (hf : PySem.W.findIn K (.ref C) name = some (some (.ref f))) (tf : PySem.W.typeIn K (.ref f) = some (.type "function")) (hcall : wpAny M A (call (.ref f) [.ref x]) (fun v => Q (some v)) E s) : wpAny M A (callSpecial? (.ref x) name) Q E s := by
  unfold callSpecial?
  refine wpAny_bind ?_
  unfold specialOf
  refine wpAny_bind (J.type.here ((PySem.W.looks_findIn hK hf).here ?_))
  first
  | exact wpAny_pure (wpAny_holding (wpAny_bind ((PySem.W.bind_fn hK (.ref x) tf).here (wpAny_bind (wpAny_mono hcall (fun v s' h' => wpAny_pure h') fun _ _ h' => h')))))
  | exact wpAny_holding (wpAny_bind ((PySem.W.bind_fn hK (.ref x) tf).here (wpAny_bind (wpAny_mono hcall (fun v s' h' => wpAny_pure h') fun _ _ h' => h'))))
def rLenO (C : Addr) (sp : Sp) : List V → Hp → VK → Prop := fun xs H Q => ∃ a dx fs, xs = [.ref a] ∧ H a = some (.ins C dx fs) ∧ sp [.ref a] H (fun v G => ∃ n : Int, v = .int n ∧ 0 ≤ n ∧ n < 2 ^ 63 ∧ Q (.int n) G) (fun _ _ _ => False)
theorem call_lenO {X : Cx} {CX : CXT} {C f : Addr} {k : Nat} {fd : FuncData} {ps : List Str} {sp : Sp} (hl : PySem.W.findIn X.K (.ref C) "__len__" = some (some (.ref f))) (tf : PySem.W.typeIn X.K (.ref f) = some (.type "function"))
    (F : FnOk X.prog X.w X.K X.mg X.base CX k f fd ps sp) (room : Room (k + 1) X.A) (bi : Binds X.K fd ps []) (pass : Passes CX X.nox (fun _ _ _ => False)) : CallR X (.builtin "len") (rLenO C sp) := by
  intro pins s σ H xs us Q I r h
  obtain ⟨a, dx, fs, rfl, ea, h⟩ := h
  obtain ⟨u, rfl, ru⟩ := vals1 r
  obtain rfl : u = Value.ref a := ru
  obtain ⟨mA, O, _, _, _, _⟩ := ins_get I.hok ea
  obtain ⟨od, J, _⟩ := O.look
  refine Calls.call_function_entry kind_len plain_len entry_len (args_len1 _) ?_
  unfold Builtin.«len»
  refine wpAny_bind (m := oneArg "len" _) (wpAny_pure ?_)
  have ll : ([Value.ref a] ++ []).length = ps.length := F.len _ _ _ _ h
  refine wpAny_bind (m := callSpecial? (.ref a) (Str.ofString "__len__")) (special_K I.kIn J hl tf (wpAny_call (codeAny_mono (F.run X.A.in1 X.stack s H ⟨[.ref a], []⟩ [.ref a] [.ref a] _ (fun _ _ _ => False) room.in1 I.env0.in1 (bi s [.ref a] I.kIn ll) (.cons rfl .nil) h) fun r s' hq => ?_)))
  cases r with
  | error er => exact False.elim (pass pins σ H s er s' (I.wish _) hq)
  | ok fl =>
    cases fl with
    | ret u =>
      obtain ⟨v, H', I3, rv, n, rfl, h0, h1, q3⟩ := I.after hq
      obtain ⟨t, rfl⟩ := rv
      refine wpAny_bind (wpAny_holding (wpAny_pure ?_))
      refine wpAny_bind (wpAny_letGo ?_)
      show wpAny _ _ (if n < 0 then _ else _) _ _ _
      rw [if_neg (by omega)]
      show wpAny _ _ (if n ≥ 2 ^ 63 then _ else _) _ _ _
      rw [if_neg (by omega)]
      exact wpAny_bind (wpAny_mkInt (wpAny_pure ⟨_, rfl, .int n, H', I3.tok _, ⟨_, rfl⟩, q3⟩))
    | next => exact False.elim hq
    | brk => exact False.elim hq
    | cont => exact False.elim hq
def asLen : D → Store → R D
  | .int n, st => if 0 ≤ n ∧ n < 2 ^ 63 then .ok (.int n) st else .bad
  | _, _ => .bad
/-- len(o), o of the class C -/
def fLenO (C : Str) (f : Fn) (o : Dn) : Dn := fun env st => (o env st).bind fun x s => match insOf x s with
  | some (C', _) => if C' = C then (f [x] s).quiet.bind asLen else .bad
  | none => .bad
theorem qe_lenO {X : Cx} {W : Wi} {o ex : Expr} {Fo : Dn} {C : Str} {c : Addr} {f : Fn} (hc : X.mg C = some (.ref c)) (ho : QE X W o Fo) (h : ∀ {to : TE}, PE X o to → PE X ex (tCB (rLenO c (spD X.K X.mg 1 f)) (tCons to tNil))) : QE X W ex (fLenO C f Fo) :=
  peI (h ho) fun σ H Q ⟨fr, w, env, st, I, q⟩ => ⟨fr, w, env, st, I, pos_bind q fun x s _ v H1 w1 x1 I1 r1 q1 => by
    split at q1
    · rename_i C' fs hi
      split at q1
      · rename_i hC
        obtain ⟨a, c', dx, vs, e1, e2, e3, rf⟩ := I1.ins r1 (insOf_or hi)
        subst hC
        have e2' : X.mg C' = some (.ref c') := e2
        rw [hc] at e2'
        cases e2'
        subst e1
        refine ⟨a, dx, vs, rfl, e3, W.pn, w1, s, [x], I1.g, .cons r1 .nil, rfl, ?_⟩
        revert q1
        cases f [x] s with
        | ok d s2 =>
          intro q1 v H' w' x' g k r
          have q2 : posE X.K (W.g X) fr w1 env σ W (Rep X.K (W.g X)) Q (asLen d s2) := q1
          unfold asLen at q2
          split at q2
          · split at q2
            · rename_i hn
              cases r
              exact ⟨_, rfl, hn.1, hn.2, q2 _ H' w' x' (I1.trans x' g k) (.int _)⟩
            · exact q2.elim
          · exact q2.elim
        | ex _ _ _ => exact fun q => q.elim
        | bad => exact fun q => q.elim
      · exact q1.elim
    · exact q1.elim⟩
/-! ### f-strings -/
def fFmt (a : Dn) : Dn := fun env st => (a env st).bind fun x s => match x with
  | .str y => if y.length ≤ sizeLine then .ok (.str y) s else .bad
  | .int i => if i.natAbs.log2 < 1920 then .ok (.str (toString i)) s else .bad
  | _ => .bad
def fJs : List Dn → Str → Dn
  | [], acc => fun _ st => .ok (.str acc) st
  | f :: fs, acc => fun env st => (f env st).bind fun x s => match x with
    | .str y => if (acc ++ y).length ≤ sizeLine then fJs fs (acc ++ y) env s else .bad
    | _ => .bad
section
variable {X : Cx} {W : Wi} {e : Expr} {es : List Expr} {Fe : Dn} {pos : Pos}
theorem qe_fmt (h : QE X W e Fe) : QE X W (.FormattedValue e (-1) none pos) (fFmt Fe) := peI (pe_fmt h) fun σ H Q ⟨fr, w, env, st, I, q⟩ => ⟨fr, w, env, st, I, pos_bind q fun x s _ v H1 w1 x1 I1 r1 q1 => by
  split at q1
  · split at q1
    · rename_i hl
      cases r1
      exact .inl ⟨_, rfl, hl, pos_here q1 I1 (.str _)⟩
    · exact q1.elim
  · split at q1
    · rename_i hl
      cases r1
      exact .inr ⟨_, rfl, hl, pos_here q1 I1 (.str _)⟩
    · exact q1.elim
  · exact q1.elim⟩
inductive QJ (X : Cx) (W : Wi) : List Expr → List Dn → Prop
  | nil : QJ X W [] []
  | cons {e : Expr} {es : List Expr} {F : Dn} {Fs : List Dn} (h : QE X W e F) (r : QJ X W es Fs) : QJ X W (e :: es) (F :: Fs)
theorem QJ.pj {Fs : List Dn} (h : QJ X W es Fs) : PJ X es (Fs.map fun F => rdE X.K (W.g X) W F) := by
  induction h with
  | nil => exact .nil
  | cons h r ih => exact .cons h ih
theorem js_ok {σ : L2.St} {Q : VK} : ∀ {Fs : List Dn} {acc : Str} {fr : Fr} {w : Wd} {env : Env'} {st : Store} {H : Hp}, IE X.K (W.g X) fr w env st σ H → posE X.K (W.g X) fr w env σ W (Rep X.K (W.g X)) Q (fJs Fs acc env st) →
    tJs (Fs.map fun F => rdE X.K (W.g X) W F) acc σ H fun out H1 => Q (.str out) H1
  | [], acc, fr, w, env, st, H, I, q => pos_here q I (.str acc)
  | F :: Fs, acc, fr, w, env, st, H, I, q => ⟨fr, w, env, st, I, pos_bind q fun x s _ v H1 w1 x1 I1 r1 q1 => by
    split at q1
    · split at q1
      · rename_i hl
        cases r1
        exact ⟨_, rfl, hl, js_ok I1 q1⟩
      · exact q1.elim
    · exact q1.elim⟩
theorem qe_joined {v1 v2 : Expr} {rest : List Expr} {Fs : List Dn} (h : QJ X W (v1 :: v2 :: rest) Fs) : QE X W (.JoinedStr (v1 :: v2 :: rest) pos) (fJs Fs Str.empty) :=
  peI (pe_joined h.pj) fun σ H Q ⟨fr, w, env, st, I, q⟩ => js_ok I q
/-! ### constants of classes -/
theorem qe_cval {c : Addr} {mc u : Value} {v : V} {d : D} {f : Str} (he : PE X e (tC (.ref c))) (r : ClX.CRead X.K c mc) (k : ClX.CVal X.K c mc f v u) (hd : CRep X.K (W.g X) v d) (hb : attributeBase e f X.env (eval e X.env) = eval e X.env := by rfl) : QE X W (.Attribute e f pos) (fC d) :=
  peI (ClX.pe_cval he hb) fun σ H Q ⟨fr, w, env, st, I, q⟩ => ⟨c, mc, v, u, rfl, r, k, pos_here q I (hd w)⟩
end
/-! ### C(k = v, ..) -/
section
variable {X : Cx} {W : Wi} {e : Expr} {es : List Expr} {Fs Fk : Da}
theorem qn_mkK0 {C : Str} {c : Addr} {k m : Nat} {f : Fi} {kws : List Keyword} {gV : List V → List V → List V} {g : List D → List D → List D} {ex : Expr} (hc : X.mg C = some (.ref c))
    (hg : ∀ (w : Wd) a zs es, RepL X.K (W.g X) w zs es → es.length = k → ∃ us, gV [.ref a] zs = .ref a :: us ∧ RepL X.K (W.g X) w us (g [] es) ∧ (g [] es).length = m)
    (hk : QKN X W kws Fk k) (h : ∀ {tk : TA}, PK X kws tk → PE X ex (tMkKS c 0 k (spI X.K X.mg C m f) gV (L2.WE W.w) tNil tk)) : QN' X W ex (fMakeK f g fNil Fk) :=
  peI (h hk.qk) fun σ H Q ⟨fr, w, env, st, I, q⟩ => ⟨fr, w, env, st, I, posN_bind (r := Fk env st) (k := fun ys s2 => f (g [] ys) s2) q fun ys s2 hy zs H2 w2 x2 I2 r2 q2 => by
    have ly := hk.len _ _ _ _ hy
    refine ⟨rfl, r2.length.trans ly, fun a d na nd ne => ?_⟩
    obtain ⟨us, e1, ru, lu⟩ := hg w2 a zs ys r2 ly
    rw [e1]
    refine ⟨W.pn, w2.add d (.own a), s2, g [] ys, a, c, d, us, upd H2 d (.own a), rfl, ?_, rfl, hc, (I2.alloc (o := .own a) nd).g, ru.ext (I2.ext _ nd), lu, posI_N I2 na nd ne q2⟩
    rw [upd_ne (fun z : a = d => ne z.symm)]
    exact na⟩
end
end Dv

/-! DvQ: `//`, tuples repeated; `in` and len of a slot's own list. -/
namespace Dv
open PySem PySem.Spec PyProof.Rows L2 Cv
section
variable {K : PySem.W.Frag} {mg : Gm} {w : Wd} {H : Hp}
/-- (..) * k -/
def dMulT : D → D → Store → R D
  | .tup a, .int j, st => if a.isEmpty = false ∧ 2 ≤ j ∧ j ≤ 1000 ∧ a.length ≤ 1000 then .ok (.tup (List.replicate j.toNat a).flatten) st else .bad
  | x, y, st => dMul x y st
def rTimesT (K : PySem.W.Frag) : R2 := fun x y H Q => rTimes x y H Q ∨ rRepT K x y H Q
theorem op_timesT {X : Cx} : OpR X (binaryOp .Mult) (rTimesT X.K) := fun pins s σ H x y v u Q I rx ry q => q.elim (op_times pins s σ H x y v u Q I rx ry) (op_repT pins s σ H x y v u Q I rx ry)
theorem s_mulT : OpS K mg (rTimesT K) dMulT := fun fr w env st σ H W v u x y Q I rx ry q => by
  unfold dMulT at q
  split at q
  · split at q
    · rename_i hl
      cases rx with
      | tup h1 r1 =>
        cases ry
        refine .inr ⟨_, _, _, rfl, rfl, I.seqT h1, ?_, hl.2.1, hl.2.2.1, by rw [r1.length]; exact hl.2.2.2, fun p hp => pos_new q I hp (rep_tupN (I.z hp) (r1.rep _))⟩
        intro z
        have := r1.nil_iff.mp z
        rw [this] at hl
        exact absurd hl.1 (by decide)
    · exact q.elim
  · exact .inl (s_mul fr w env st σ H W v u _ _ Q I rx ry q)
theorem s_fdiv : OpS K mg (rI CDivW fun i j => .int (i / j)) dFdiv := fun fr w env st σ H W v u x y Q I rx ry q => by
  unfold dFdiv at q
  split at q
  · split at q
    · rename_i hl
      cases rx; cases ry
      exact ⟨_, _, rfl, rfl, hl, pos_here q I (.int _)⟩
    · exact q.elim
  · exact q.elim
end
/-! ### a slot's own list, read -/
def fInOwn (k : Bool) (i : Nat) (a : Dn) : Dn := fun env st => (a env st).bind fun x s => match env[i]? with
  | some (Sl.own (.lst ys)) => (match toPy x, toPys ys with
    | some p, some ps => if p.depth ≤ 60 then .ok (.bl ((ps.any fun z => PyData.eqv z p) != k)) s else .bad
    | _, _ => .bad)
  | _ => .bad
def fLenOwn (i : Nat) : Dn := fun env st => match env[i]? with
  | some (Sl.own (.lst ys)) => .ok (.int ys.length) st
  | _ => .bad
section
variable {X : Cx} {W : Wi} {a b : Expr} {Fa : Dn} {pos : Pos}
theorem qe_inOwn {op : CmpOp} {k : Bool} {i : Nat} (ho : OpR X (compareOp op) (rInP X.K k)) (ha : QE X W a Fa) (hb : PE X b (tVar i)) (hm : behindInMarks op b = false) : QE X W (.Compare a [op] [b] pos) (fInOwn k i Fa) :=
  peI (pe_cmpR ho ha hb hm) fun σ H Q ⟨fr, w, env, st, I, q⟩ => ⟨fr, w, env, st, I, pos_bind q fun x s _ v H1 w1 x1 I1 r1 q1 => by
    split at q1
    · rename_i ys he
      split at q1
      · rename_i p ps h1 h2
        split at q1
        · rename_i hd
          obtain ⟨l, e1, ⟨hh, e2, r⟩, _⟩ := I1.s.own i _ he
          cases r with
          | lst r => exact ⟨_, e1, .inr ⟨p, ps, rep_dp I1.g.sub r1 h1, .inl (.lst (.inl (.inl e2)) (reps_dp I1.g.sub r h2)), plain_toPy h1, plain_toPys h2, hd, pos_here q1 I1 (.bl _)⟩⟩
        · exact q1.elim
      · exact q1.elim
    · exact q1.elim⟩
theorem qt_inOwn {op : CmpOp} {k : Bool} {i : Nat} (ho : OpR X (compareOp op) (rInP X.K k)) (ha : QE X W a Fa) (hb : PE X b (tVar i)) (hm : behindInMarks op b = false) : QT X W (.Compare a [op] [b] pos) (fT (fInOwn k i Fa)) :=
  ptI (pt_cmpR ho ha hb hm) fun σ H Q h => rd_T (t := tOp (rInP X.K k) (rdE X.K (W.g X) W Fa) (tVar i)) (fun σ H Q ⟨fr, w, env, st, I, q⟩ => ⟨fr, w, env, st, I, pos_bind q fun x s _ v H1 w1 x1 I1 r1 q1 => by
    split at q1
    · rename_i ys he
      split at q1
      · rename_i p ps h1 h2
        split at q1
        · rename_i hd
          obtain ⟨l, e1, ⟨hh, e2, r⟩, _⟩ := I1.s.own i _ he
          cases r with
          | lst r => exact ⟨_, e1, .inr ⟨p, ps, rep_dp I1.g.sub r1 h1, .inl (.lst (.inl (.inl e2)) (reps_dp I1.g.sub r h2)), plain_toPy h1, plain_toPys h2, hd, pos_here q1 I1 (.bl _)⟩⟩
        · exact q1.elim
      · exact q1.elim
    · exact q1.elim⟩) h
theorem qe_lenOwn {c : Expr} {i : Nat} (h : PE X c (tCB (rLenA X.K) (tCons (tVar i) tNil))) : QE X W c (fLenOwn i) := peI h fun σ H Q ⟨fr, w, env, st, I, q⟩ => by
  unfold fLenOwn at q
  split at q
  · rename_i ys he
    obtain ⟨l, e1, ⟨hh, e2, r⟩, _⟩ := I.s.own i _ he
    cases r with
    | lst r => exact ⟨_, e1, .inl ⟨_, _, rfl, .inl ⟨_, .inl (.inl e2), rfl⟩, by rw [r.length]; exact pos_here q I (.int _)⟩⟩
  · exact q.elim
end
end Dv

/-! DvR: the head's facts: defs wherever they stand (methods, getters of properties), constants of classes. -/
namespace Dv
open PySem PySem.Spec PyProof.Rows L2 Cv
/-- the record of the property (the classmethod) C.m, its def -/
def pa (K : PySem.W.Frag) (C m : Str) : Addr := He.ma K (He.ga K C) m
def pg (K : PySem.W.Frag) (T : String) (C m : Str) : Addr := match PySem.W.recIn K (pa K C m) T with
  | some (.ref g :: _) => g
  | _ => 0
def fnP (K : PySem.W.Frag) (a : Addr) : He.FnW := match K.lookup a with
  | some ⟨_, _, .func fd, _⟩ => some (fd.name, fd.qualname, fd.params, fd.body, fd.scope, fd.globals, fd.closure, fd.builtins)
  | _ => none
/-- one def, wherever it stands -/
structure DefP where
  at_ : PySem.W.Frag → Addr
  name : Str
  qual : Str
  params : Arguments
  body : List Stmt
  scope : Scope
  dfl : List He.Dv := []
def DefP.val (d : DefP) : He.FnW := some (d.name, d.qual, d.params, .stmts d.body, d.scope, mainGlobals, [], builtinsNs)
def DefP.dvs (K : PySem.W.Frag) (d : DefP) : List V := d.dfl.map (He.Dv.v K)
def DefP.ok (K : PySem.W.Frag) (d : DefP) : Bool := PySem.W.keepIn K (.ref (d.at_ K)) && (match K.lookup (d.at_ K) with
  | some ⟨_, _, .func fd, _⟩ => PySem.W.codeIn K fd.code d.qual && (He.dflB K fd.defaults (d.dvs K) && He.kwdB K fd.kwdefaults [])
  | _ => false)
theorem DefP.funD {K : PySem.W.Frag} {d : DefP} (e : fnP K (d.at_ K) = d.val) (c : d.ok K = true) : ∃ fd, FunD K d.name d.qual d.params d.body d.scope (d.dvs K) [] (d.at_ K) fd := by
  obtain ⟨kp, c2⟩ := He.ba c
  unfold fnP at e
  cases q : K.lookup (d.at_ K) with
  | none =>
    rw [q] at c2
    cases c2
  | some o =>
    obtain ⟨oc, od, dt, osl⟩ := o
    rw [q] at c2 e
    cases dt with
    | func fd =>
      obtain ⟨n1, n2, n3, n4, n5, n6, n7, n8, n9, n10, n11, n12, n13, n14, n15⟩ := fd
      have e2 : (some (n1, n2, n3, n4, n5, n6, n7, n15) : He.FnW) = some (d.name, d.qual, d.params, .stmts d.body, d.scope, mainGlobals, [], builtinsNs) := e
      simp only [Option.some.injEq, Prod.mk.injEq] at e2
      obtain ⟨h1, h2, h3, h4, h5, h6, h7, h8⟩ := e2
      subst h1 h2 h3 h4 h5 h6 h7 h8
      have c3 : (PySem.W.codeIn K n13 d.qual && (He.dflB K n8 (d.dvs K) && He.kwdB K n9 [])) = true := c2
      obtain ⟨k1, k2⟩ := He.ba c3
      obtain ⟨k3, k4⟩ := He.ba k2
      exact ⟨_, ⟨oc, od, n8, n9, n10, n11, n12, n13, n14, osl, rfl, q, k1, He.dflB_ok k3, He.kwdB_ok k4⟩, kp⟩
    | _ => cases c2
abbrev AlP : Type := Bool × List He.FnW
def frP (n : Nat) (g : Addr → Option Obj) : PySem.W.Frag := He.frG g (He.asD g n ++ [cStatics, sysModules])
def obsP (n : Nat) (xs : List (PySem.W.Frag → Bool)) (fn : List DefP) (g : Addr → Option Obj) : AlP := ((xs.all fun f => f (frP n g)) && fn.all fun d => d.ok (frP n g), fn.map fun d => fnP (frP n g) (d.at_ (frP n g)))
structure SaysP (xs : List (PySem.W.Frag → Bool)) (fn : List DefP) (K : PySem.W.Frag) : Prop where
  all : ((xs.all fun f => f K) && fn.all fun d => d.ok K) = true
  fns : (fn.map fun d => fnP K (d.at_ K)) = fn.map DefP.val
def hookP (n : Nat) (xs : List (PySem.W.Frag → Bool)) (fn : List DefP) : PySem.W.Hook where
  α := AlP
  obs := fun s => obsP n xs fn s.heap.get?
  val := fun _ => (true, fn.map DefP.val)
  says := fun _ h => ∃ K : PySem.W.Frag, K.In h ∧ SaysP xs fn K
  of := fun _ _ e => ⟨_, He.frG_in, congrArg (fun z : AlP => z.1) e, congrArg (fun z : AlP => z.2) e⟩
  keeps := fun _ _ _ ⟨K, hK, c⟩ k => ⟨K, PySem.W.Frag.In.keeps hK k, c⟩
theorem obsP_eq {n : Nat} {xs : List (PySem.W.Frag → Bool)} {fn : List DefP} {g : Addr → Option Obj} {s : Shared} (h : ∀ a, g a = s.heap.get? a) : obsP n xs fn g = (hookP n xs fn).obs s := by
  have e : g = s.heap.get? := funext h
  rw [e]
  rfl
section
variable {xs : List (PySem.W.Frag → Bool)} {fn : List DefP} {K : PySem.W.Frag}
theorem SaysP.ext (c : SaysP xs fn K) (i : Nat) {f : PySem.W.Frag → Bool} (h : xs[i]? = some f := by rfl) : f K = true := List.all_eq_true.mp (He.ba c.all).1 f (List.mem_of_getElem? h)
theorem SaysP.def_ (c : SaysP xs fn K) (i : Nat) {d : DefP} (h : fn[i]? = some d := by rfl) : ∃ fd, FunD K d.name d.qual d.params d.body d.scope (d.dvs K) [] (d.at_ K) fd := by
  have e2 : (fn.map fun d => fnP K (d.at_ K))[i]? = (fn.map DefP.val)[i]? := by rw [c.fns]
  rw [List.getElem?_map, List.getElem?_map, h] at e2
  exact DefP.funD (Option.some.inj e2) (List.all_eq_true.mp (He.ba c.all).2 d (List.mem_of_getElem? h))
end
def faF (f : He.Fa) : PySem.W.Frag → Bool := fun K => f.ok K
/-- C.m is a property -/
def propB (C m : Str) : PySem.W.Frag → Bool := fun K => He.eqO (PySem.W.findIn K (.ref (He.ga K C)) m) (some (some (.ref (pa K C m)))) && (He.eqO (PySem.W.specialIn K (.ref (pa K C m)) "__get__") (some (some (.builtin "property.__get__"))) &&
  (decide (PySem.W.takesIn K (.ref (pa K C m)) = some true) && (match PySem.W.recIn K (pa K C m) "property" with
    | some (.ref _ :: _) => true
    | _ => false)))
theorem propB_ok {K : PySem.W.Frag} {C m : Str} (h : propB C m K = true) : PropOf K (He.ga K C) m (pa K C m) (pg K "property" C m) := by
  obtain ⟨h1, h⟩ := He.ba h
  obtain ⟨h2, h⟩ := He.ba h
  obtain ⟨h3, h4⟩ := He.ba h
  refine ⟨He.eqO_ok h1, He.eqO_ok h2, of_decide_eq_true h3, ?_⟩
  unfold pg
  split at h4
  · rename_i g rest e
    exact ⟨rest, by rw [e]⟩
  · cases h4
/-- C.f is the constant v -/
def cvalB (C f : Str) (v : He.Dv) : PySem.W.Frag → Bool := fun K => PySem.W.readsIn K (He.ga K C) (.type "type") && (He.eqO (PySem.W.specialIn K (.ref (He.ga K C)) "__getattribute__") (some (some (.builtin "type.__getattribute__"))) &&
  (match PySem.W.findCls K (.ref (He.ga K C)) (.type "type") f with
  | some (.val u) => He.relB (v.v K) u
  | _ => false))
theorem cvalB_ok {K : PySem.W.Frag} {C f : Str} {v : He.Dv} (h : cvalB C f v K = true) : ClX.CRead K (He.ga K C) (.type "type") ∧ ∃ u, ClX.CVal K (He.ga K C) (.type "type") f (v.v K) u := by
  obtain ⟨h1, h⟩ := He.ba h
  obtain ⟨h2, h3⟩ := He.ba h
  refine ⟨⟨h1, He.eqO_ok h2⟩, ?_⟩
  split at h3
  · rename_i u e
    exact ⟨u, e, He.relB_ok h3⟩
  · cases h3
/-- a module's tuple of texts -/
theorem tup_rep {K : PySem.W.Frag} {mg : Gm} {x : Str} {ss : List Str} (h : He.tupB K x (ss.map He.Dv.str) = true) : CRep K mg (.ref (He.ga K x)) (.tup (ss.map D.str)) := by
  intro w
  have h2 := He.tupB_ok h w.Z
  have e : (ss.map He.Dv.str).map (He.Dv.v K) = ss.map V.str := by
    rw [List.map_map]
    rfl
  rw [e] at h2
  refine .tup h2 ?_
  clear h h2 e
  induction ss with
  | nil => exact .nil
  | cons s ss ih => exact .cons (.str s) ih
end Dv

/-! DvS: a, b = x, y; what classes say of errors, by lists; small helpers of the printer. -/
namespace Dv
open PySem PySem.Spec PyProof.Rows L2 Cv
def fPar (i j : Nat) (a : Da) : Ds := fun env st => match a env st with
  | .ok [x, y] s => .nx ((env.set i (.val x)).set j (.val y)) s
  | .ok _ _ => .bad
  | .ex C fs s => .ex C fs env s
  | .bad => .bad
section
variable {X : Cx} {W : Wi} {es : List Expr} {Fs : Da} {s : Stmt}
theorem qs_par {i j : Nat} (ha : QA X W es Fs) (h : ∀ {t : TA}, PA X es t → PS X s (tPar i j t)) : QS X W s (fPar i j Fs) := psI (h ha) fun N σ H ⟨fr, w, env, st, I, q⟩ => ⟨fr, w, env, st, I, by
  unfold fPar at q
  generalize Fs env st = r at *
  cases r with
  | ok xs s =>
    intro vs H1 w1 x1 I1 r1
    split at q
    · rename_i x y s' he
      cases he
      obtain ⟨v, u, rfl, r, r2⟩ := repL2' r1
      exact ⟨v, u, rfl, q _ H1 w1 x1 ((I1.set r).set r2)⟩
    · exact q.elim
    · rename_i he
      cases he
    · exact q.elim
  | ex C fs s => exact fun c dx H' w' x I' f => q c dx σ H' w' x I' f
  | bad => exact q⟩
end
theorem passN0 {X : Cx} : Passes (L2N.CX X.prog X.w) X (fun _ _ _ => False) := fun pins σ H s e s' I c => L2N.passAt (takesN0 (X := X)) σ pins H s e s' I c
/-! ### oracles by lists -/
abbrev oL (l : List (Str × Bool)) : Str → Option Bool := fun C => l.lookup C
section
variable {X : Cx} {c : Value} {l : List (Str × Bool)} {n : Str} {a : Addr} {b : Bool}
theorem orc_nil : Orc X c (oL []) := fun _ _ _ _ e => nomatch e
theorem orc_cons (hn : X.mg n = some (.ref a)) (hx : PySem.W.exmOne X.K (.ref a) c = some b) (r : Orc X c (oL l)) : Orc X c (oL ((n, b) :: l)) := fun C a' b' e1 e2 => by
  have e2 : ((n, b) :: l).lookup C = some b' := e2
  rw [List.lookup_cons] at e2
  split at e2
  · rename_i h
    cases e2
    have : C = n := eq_of_beq h
    subst this
    rw [hn] at e1
    cases e1
    exact hx
  · exact r C a' b' e1 e2
theorem orck_nil {K : PySem.W.Frag} {mg : Str → Option Value} : OrcK K mg c (oL []) := fun _ _ _ _ e => nomatch e
theorem orck_cons {K : PySem.W.Frag} {mg : Str → Option Value} (hn : mg n = some (.ref a)) (o : OwnE K a) (hx : PySem.W.kitOne K (.ref a) c = some b) (r : OrcK K mg c (oL l)) : OrcK K mg c (oL ((n, b) :: l)) := fun C a' b' e1 e2 => by
  have e2 : ((n, b) :: l).lookup C = some b' := e2
  rw [List.lookup_cons] at e2
  split at e2
  · rename_i h
    cases e2
    have : C = n := eq_of_beq h
    subst this
    rw [hn] at e1
    cases e1
    exact ⟨o, hx⟩
  · exact r C a' b' e1 e2
end
theorem err1 {K : PySem.W.Frag} {mg : Str → Option Value} {C f : Str} {a : Addr} (hn : mg C = some (.ref a)) (x : XfC K a) (h : PySem.W.findIn K (.ref a) f = some none) : ErrOk K mg [C] f := fun C' hC c e => by
  cases List.mem_singleton.mp hC
  rw [hn] at e
  cases e
  exact ⟨x, h⟩
theorem fld1 {K : PySem.W.Frag} {mg : Gm} {C f : Str} {a : Addr} (hn : mg.f C = some (.ref a)) (x : Cls K a) (h : NoAttr K a f) : FldOk K mg [C] f := fun C' hC c e => by
  cases List.mem_singleton.mp hC
  rw [hn] at e
  cases e
  exact ⟨x, h⟩
theorem wdl_nil {K : PySem.W.Frag} {mg : Gm} : ∀ w : Wd, RepL K mg w [] [] := fun _ => .nil
theorem wdl_non {K : PySem.W.Frag} {mg : Gm} : ∀ w : Wd, RepL K mg w [.non] [.non] := fun _ => .cons .non .nil
theorem repL_gP {K : PySem.W.Frag} {mg : Gm} {w : Wd} {vs zs : List V} {ds es : List D} (r1 : RepL K mg w vs ds) (r2 : RepL K mg w zs es) : ∀ idx : List Nat, RepL K mg w (gP idx vs zs) (gP idx ds es)
  | [] => .nil
  | i :: idx => by
    have ih := repL_gP r1 r2 idx
    have r := r1.append r2
    unfold gP at ih ⊢
    rw [List.filterMap_cons, List.filterMap_cons]
    cases h : (ds ++ es)[i]? with
    | none =>
      have h2 : (vs ++ zs)[i]? = none := by
        rw [List.getElem?_eq_none_iff] at h ⊢
        rw [r.length]
        exact h
      rw [h2]
      exact ih
    | some d =>
      obtain ⟨v, e, rv⟩ := r.get h
      rw [e]
      exact .cons rv ih
structure CRepT (K : PySem.W.Frag) (a : Addr) (ss : List Str) : Prop where
  rep : ∀ {mg : Gm}, CRep K mg (.ref a) (.tup (ss.map D.str))
/-! ### a method without arguments -/
theorem qe_meth0 {X : Cx} {W : Wi} {o ex : Expr} {Fo : Dn} {C m : Str} {c : Addr} {f : Fn} {k : Nat} {dvs : List V} {dd : List D} (hc : X.mg C = some (.ref c)) (hd : ∀ w : Wd, RepL X.K (W.g X) w dvs dd) (hm : 0 + dd.length + 1 = k) (ho : QE X W o Fo)
    (h : ∀ {to : TE}, PE X o to → PE X ex (tMethS c m (spD X.K X.mg k f) dvs (L2.WE W.w) to tNil)) : QE X W ex (fMeth C m f dd Fo fNil) :=
  peI (h ho) fun σ H Q ⟨fr, w, env, st, I, q⟩ => ⟨fr, w, env, st, I, pos_bind q fun x s _ v H1 w1 x1 I1 r1 q1 => by
    split at q1
    · rename_i C' fs hi
      split at q1
      · rename_i hC
        obtain ⟨a, c', dx, vs, e1, e2, e3, rf⟩ := I1.ins r1 (insOf_or hi)
        obtain ⟨rfl, hn⟩ := hC
        have e2' : X.mg C' = some (.ref c') := e2
        rw [hc] at e2'
        cases e2'
        refine ⟨a, dx, vs, e1, e3, repF_none rf (Option.isNone_iff_eq_none.mp hn), ?_⟩
        exact ⟨W.pn, w1, s, x :: ([] ++ dd), I1.g, .cons r1 (RepL.append .nil (hd w1)), by rw [List.length_cons, List.nil_append]; omega, posE_F I1 q1⟩
      · exact q1.elim
    · exact q1.elim⟩
/-! ### chains as tests; comprehensions with their parts -/
theorem qt_chain {X : Cx} {W : Wi} {a b c : Expr} {Fa Fb Fc : Dn} {op op' : CmpOp} {r r' : R2} {f g : D → D → Store → R D} {pos : Pos} (ho : OpR X (compareOp op) r) (ho' : OpR X (compareOp op') r') (hs : OpS X.K (W.g X) r f) (hs' : OpS X.K (W.g X) r' g) (ha : QE X W a Fa) (hb : QE X W b Fb) (hc : QE X W c Fc)
    (hm : lastMarks [op, op'] [b, c] = false := by with_unfolding_all rfl) : QT X W (.Compare a [op, op'] [b, c] pos) (fT (fChain f g Fa Fb Fc)) :=
  ptI (pt_chain ho ho' ha hb hc (hm := hm)) fun σ H Q h => rd_T (t := tChain r r' (rdE X.K (W.g X) W Fa) (rdE X.K (W.g X) W Fb) (rdE X.K (W.g X) W Fc)) (fun σ H Q h => rd_chain hs hs' h) h
def QTs (X : Cx) (W : Wi) (cs : List Expr) (F : Dt) : Prop := PTs X cs (rdT X.K (W.g X) (WF W) F)
theorem qtss_nil {X : Cx} {W : Wi} : QTs X W [] fYes := qts_nil (ifs := fun _ _ _ => True)
theorem qtss_one {X : Cx} {W : Wi} {c : Expr} {T : Dt} (h : QT X (WF W) c T) : QTs X W [c] T := qts_one h
section
variable {X : Cx} {W : Wi} {elt tg iter : Expr} {ifs : List Expr} {scope : Scope} {own : List (Str × Nat)} {vs : List Nat} {pos : Pos} {t : TG} {g : D → Env' → Option Env'} {is : List Nat} {Fi : Da} {T : Dt} {Fe : Dn}
theorem qe_lcQ (ht : TgS X.K (W.g X) t g is) (hvs : own.map (·.2) = vs) (hv : ∀ i ∈ is, i ∈ vs) (hc : X.calm = true) (hN : X.N.Nodup) (hi : QI X W tg iter Fi) (ok : BlkOk X.N X.env.scope scope own)
    (hg : ∀ (s : Shared) (H : Hp) (C : Addr) (cl : List (Str × Addr)) (fp : List Addr), PG (X.blk s H scope (compEnvC scope cl C X.env) fp) tg t)
    (hT : ∀ (s : Shared) (H : Hp) (C : Addr) (cl : List (Str × Addr)) (fp : List Addr), QTs (X.blk s H scope (compEnvC scope cl C X.env) fp) W ifs T)
    (he : ∀ (s : Shared) (H : Hp) (C : Addr) (cl : List (Str × Addr)) (fp : List Addr), QE (X.blk s H scope (compEnvC scope cl C X.env) fp) (WF W) elt Fe) (hs : ∀ x, foldedSetIterable iter X.env x = pure x := by intro _; rfl) :
    QE X W (.ListComp elt [⟨tg, iter, ifs, 0⟩] scope pos) (fComp Fi g T Fe vs) := by
  subst hvs
  exact qe_lc ht hv (pe_lc hc hN hi ok hg (fun s H C cl fp => hT s H C cl fp) (fun s H C cl fp => he s H C cl fp) hs)
theorem qs_setLcQ {i : Nat} {y : Str} {py spos : Pos} (ht : TgS X.K (W.g X) t g is) (hvs : own.map (·.2) = vs) (hv : ∀ i ∈ is, i ∈ vs) (hc : X.calm = true) (hN : X.N.Nodup) (hy : X.N[i]? = some y) (hyl : X.env.scope.names.lookup y = some .local)
    (hsw : swapsWith (.ListComp elt [⟨tg, iter, ifs, 0⟩] scope pos) (some (.Name y py)) spos.line X.env = pure true) (hi : QI X W tg iter Fi) (ok : BlkOk X.N X.env.scope scope own)
    (hg : ∀ (s : Shared) (H : Hp) (C : Addr) (cl : List (Str × Addr)) (fp : List Addr), PG (X.blk s H scope (compEnvC scope cl C X.env) fp) tg t)
    (hT : ∀ (s : Shared) (H : Hp) (C : Addr) (cl : List (Str × Addr)) (fp : List Addr), QTs (X.blk s H scope (compEnvC scope cl C X.env) fp) W ifs T)
    (he : ∀ (s : Shared) (H : Hp) (C : Addr) (cl : List (Str × Addr)) (fp : List Addr), QE (X.blk s H scope (compEnvC scope cl C X.env) fp) (WF W) elt Fe) (hs : ∀ x, foldedSetIterable iter X.env x = pure x := by intro _; rfl) :
    QS X W (.Assign [.Name y py] (.ListComp elt [⟨tg, iter, ifs, 0⟩] scope pos) spos) (fSet i (fComp Fi g T Fe vs)) := by
  subst hvs
  exact qs_setLc ht hv (ps_setLc hc hN hy hyl hsw hi ok hg (fun s H C cl fp => hT s H C cl fp) (fun s H C cl fp => he s H C cl fp) hs)
end
/-! ### __init__ of errors -/
theorem len1 {ws : List V} (h : ws.length = 1) : ∃ a, ws = [a] := match ws, h with | [a], _ => ⟨a, rfl⟩
theorem len2 {ws : List V} (h : ws.length = 2) : ∃ a b, ws = [a, b] := match ws, h with | [a, b], _ => ⟨a, b, rfl⟩
theorem len3 {ws : List V} (h : ws.length = 3) : ∃ a b c, ws = [a, b, c] := match ws, h with | [a, b, c], _ => ⟨a, b, c, rfl⟩
theorem len_spErr {K : PySem.W.Frag} {names ps : List Str} (hp : ps.length = names.length + 1) : ∀ vs H Q E, spErr K names vs H Q E → vs.length = ps.length := fun vs H Q E ⟨a, C, ws, e, l, _⟩ => by rw [e, List.length_cons, l, hp]
end Dv

/-! DvT: {k: xs[j]}, a display with one int key and an item of a list. -/
namespace Dv
open PySem PySem.Spec PyProof.Rows L2 Cv
def fDctIx (k : Int) (i : Nat) (j : Int) : Dn := fun env st => match env[i]? with
  | some (Sl.val (.lst xs)) => (match atI xs j with
    | some d => .ok (.dct [(.int k, d)]) st
    | none => .bad)
  | _ => .bad
theorem qe_dctIx {X : Cx} {W : Wi} {c : Expr} {k : Int} {i : Nat} {j : Int} (h : PE X c (tDisp [(tC (.int k), tOp (rIx X.K) (tVar i) (tC (.int j)))])) : QE X W c (fDctIx k i j) := peI h fun σ H Q ⟨fr, w, env, st, I, q⟩ => by
  unfold fDctIx at q
  split at q
  · rename_i xs he
    split at q
    · rename_i d hd
      intro p hp
      obtain ⟨v, e1, r⟩ := I.s.val i _ he
      cases r with
      | @lst a vs _ hz r =>
        obtain ⟨u, eu, ru⟩ := repL_at r hd
        have ne : a ≠ p := ne_of_none (I.g.sub _ _ hz) hp
        refine ⟨_, e1, .inl ⟨_, _, _, u, rfl, rfl, .inl (.inl ?_), eu, upd_same, [(.inl k, u)], rfl, (show (1 : Nat) ≤ 15 by decide), ?_⟩⟩
        · rw [upd_ne ne]
          exact I.g.sub _ _ hz
        · have e2 : upd (upd H p (.dK [])) p (.dK (mergeK [] [(.inl k, u)])) = upd H p (.dK [(.inl k, u)]) := by
            funext b
            by_cases hb : b = p
            · rw [hb, upd_same, upd_same]
              rfl
            · rw [upd_ne hb, upd_ne hb, upd_ne hb]
          rw [e2]
          exact pos_new q I hp (.dct Wd.add_at (.cons (ru.ext (Wd.add_ext (I.z hp))) .nil))
    · exact q.elim
  · exact q.elim
end Dv

/-! DvU: a law's end: its function answers True. -/
namespace Dv
open PySem PySem.Spec PyProof.Rows L2 Cv
theorem repL_ints {K : PySem.W.Frag} {mg : Gm} {w : Wd} : ∀ ns : List Int, RepL K mg w (ns.map V.int) (ns.map D.int)
  | [] => .nil
  | n :: ns => .cons (.int n) (repL_ints ns)
theorem law_sp {K : PySem.W.Frag} {mg : Str → Option Value} {F : Fn} {H : Hp} {a : Addr} {ns : List Int} (hS : SqL K H a (ns.map V.int)) (h : ∃ s, F [.rol (ns.map D.int)] [] = .ok (.bl true) s) :
    spD K mg 1 F [.ref a] H (fun v _ => v = .bl true) fun _ _ _ => False := by
  obtain ⟨s, h⟩ := h
  refine ⟨none, ⟨H, fun _ => none⟩, [], [.rol (ns.map D.int)], ⟨fun _ _ e => e, fun _ _ e => (nomatch e), fun n o e => ?_, fun _ _ _ e => (nomatch e)⟩, .cons (.rol hS (repL_ints ns)) .nil, rfl, ?_⟩
  · simp at e
  · rw [h]
    intro v H' w' x g k r
    cases r
    rfl
theorem noXN {P : Program} {w : World} {H : Hp} {s : Shared} {e : Value} {s' : Shared} (h : L2N.CX P w [] H s (fun _ _ _ => False) e s') : False := by
  unfold L2N.CX at h
  simp at h
/-- walkG for what may let out errors (none with this wish) -/
theorem walkGN {l : PySem.W.OpenLaw} {n k : Nat} {q : Program} {loose : List Str} {XP : (Str → Option Value) → Heap → Prop} {YP : World → Heap → Prop} {d : DefRec} {x : Str}
    (hn : l.most = some n) (hn2 : n ≤ sizeLine) (hdf : d.params.defaults = []) (room : Room k callerA)
    (F : ∀ (w : World) (mg : Str → Option Value) (fa : Addr) (h : Heap), YP w h → h.Ns mainGlobals mg → mg d.name = some (.ref fa) →
      ∃ (K : PySem.W.Frag) (fd : FuncData) (sp : Sp), K.In h ∧ (∀ (s : Shared) (u : Value), BindsTo s fd ⟨[u], []⟩ [(x, u)]) ∧
        (∀ (H : Hp) (a : Addr) (ns : List Int), ns.length ≤ n → (∀ z ∈ ns, Builtin.Int.intBits z ≤ 1048576) → Only H → NoDT H → SqL K H a (ns.map V.int) → sp [.ref a] H (fun v _ => v = .bl true) fun _ _ _ => False) ∧
        ∀ base : Heap, K.In base → base.Ns mainGlobals mg → FnG l.prog w K mg base (L2N.CX l.prog w) k fa fd [x] sp) :
    PySem.W.WalkO q loose XP YP l.row.toRowW d [] (fun f vs => PySem.call f vs) := by
  refine Att.attach_callB hn hdf fun w s0 s1 mg mb fa o pm cd doc a vs ns G Y ho hd hcd hmg hobj hints hlen hbits hg => ?_
  obtain ⟨K, fd, sp, inK, hb, want, hF⟩ := F w mg fa _ Y G.T.g hmg
  exact lawG inK G.T.g G.T.b G.T.builtins G.T.nolimit hg hobj hints (Nat.le_trans hlen hn2) room hF hb (fun H hO hD hS => want H a ns hlen hbits hO hD hS) fun H e s' => noXN
end Dv

/-! PvA: what a function over data answers: a calculus of wishes. -/
namespace Dv
open PySem PySem.Spec PyProof.Rows L2 Cv
def R.wp0 {α : Type} (r : R α) (Q : α → Store → Prop) (E : Str → List (Str × D) → Store → Prop) : Prop := match r with
  | .ok a s => Q a s
  | .ex C fs s => E C fs s
  | .bad => False
/-- no error -/
def nE : Str → List (Str × D) → Store → Prop := fun _ _ _ => False
structure Ks where
  nx : Env' → Store → Prop
  rt : D → Store → Prop
  bk : Env' → Store → Prop
  ct : Env' → Store → Prop
  ex : Str → List (Str × D) → Env' → Store → Prop
def Out.wp0 (o : Out) (k : Ks) : Prop := match o with
  | .nx e s => k.nx e s
  | .rt d s => k.rt d s
  | .bk e s => k.bk e s
  | .ct e s => k.ct e s
  | .ex C fs e s => k.ex C fs e s
  | .bad => False


/-! the kernel is not to walk into these -/
theorem wp_is : ∃ f : (α : Type) → R α → (α → Store → Prop) → (Str → List (Str × D) → Store → Prop) → Prop, f = fun α r Q E => R.wp0 r Q E := ⟨_, rfl⟩
noncomputable def R.wp {α : Type} (r : R α) (Q : α → Store → Prop) (E : Str → List (Str × D) → Store → Prop) : Prop := Classical.choose wp_is α r Q E
theorem R.wp_eq {α : Type} {r : R α} {Q : α → Store → Prop} {E : Str → List (Str × D) → Store → Prop} : r.wp Q E = r.wp0 Q E := by
  unfold R.wp
  rw [Classical.choose_spec wp_is]
theorem owp_is : ∃ f : Out → Ks → Prop, f = Out.wp0 := ⟨_, rfl⟩
noncomputable def Out.wp (o : Out) (k : Ks) : Prop := Classical.choose owp_is o k
theorem Out.wp_eq {o : Out} {k : Ks} : o.wp k = o.wp0 k := by
  unfold Out.wp
  rw [Classical.choose_spec owp_is]
section
variable {α β : Type} {Q Q' : α → Store → Prop} {E E' : Str → List (Str × D) → Store → Prop} {k : Ks} {s st : Store} {env : Env'}
theorem wp_ok {a : α} : (R.ok a s).wp Q E = Q a s := by simp only [Out.wp_eq, R.wp_eq]; rfl
theorem wp_ex {C : Str} {fs : List (Str × D)} : (R.ex C fs s : R α).wp Q E = E C fs s := by simp only [Out.wp_eq, R.wp_eq]; rfl
theorem wp_bad : (R.bad : R α).wp Q E = False := by simp only [Out.wp_eq, R.wp_eq]; rfl
theorem wp_bind {r : R α} {f : α → Store → R β} {Q : β → Store → Prop} : (r.bind f).wp Q E = r.wp (fun a s => (f a s).wp Q E) E := by simp only [Out.wp_eq, R.wp_eq]; cases r <;> rfl
theorem wp_quiet {r : R α} : r.quiet.wp Q E = r.wp Q nE := by simp only [Out.wp_eq, R.wp_eq]; cases r <;> rfl
theorem wp_ite {c : Prop} [Decidable c] {a b : R α} : (if c then a else b).wp Q E = if c then a.wp Q E else b.wp Q E := by split <;> rfl
theorem wp_mono {r : R α} (h : r.wp Q E) (hq : ∀ a s, Q a s → Q' a s) (he : ∀ C fs s, E C fs s → E' C fs s) : r.wp Q' E' := by
  rw [R.wp_eq] at h ⊢
  cases r with
  | ok a s => exact hq a s h
  | ex C fs s => exact he C fs s h
  | bad => exact h
theorem wp_get {r : R α} (h : r.wp Q nE) : ∃ a s, r = .ok a s ∧ Q a s := by
  rw [R.wp_eq] at h
  cases r with
  | ok a s => exact ⟨a, s, rfl, h⟩
  | ex C fs s => exact h.elim
  | bad => exact h.elim
theorem wp_of {r : R α} {a : α} (e : r = .ok a s) (h : Q a s) : r.wp Q E := by rw [e, R.wp_eq]; exact h
theorem owp_mono {o : Out} {k' : Ks} (h : o.wp k) (h1 : ∀ e s, k.nx e s → k'.nx e s) (h2 : ∀ d s, k.rt d s → k'.rt d s) (h3 : ∀ e s, k.bk e s → k'.bk e s) (h4 : ∀ e s, k.ct e s → k'.ct e s) (h5 : ∀ C fs e s, k.ex C fs e s → k'.ex C fs e s) : o.wp k' := by
  rw [Out.wp_eq] at h ⊢
  cases o with
  | nx e s => exact h1 e s h
  | rt d s => exact h2 d s h
  | bk e s => exact h3 e s h
  | ct e s => exact h4 e s h
  | ex C fs e s => exact h5 C fs e s h
  | bad => exact h
theorem wp_fnB {n : Nat} {F : Ds} {ds : List D} {Q : D → Store → Prop} : (fnB n F ds st).wp Q E = (F (startE n ds) st).wp ⟨fun _ s => Q .non s, Q, fun _ _ => False, fun _ _ => False, fun C fs _ s => E C fs s⟩ := by
  unfold fnB
  simp only [Out.wp_eq, R.wp_eq]
  cases F (startE n ds) st <;> rfl
def ownK (Q : SO → Store → Prop) : Env' → Store → Prop := fun env s => match env[0]? with
  | some (Sl.own so) => Q so s
  | _ => False
theorem wp_fnI {C : Str} {n : Nat} {F : Ds} {ds : List D} {Q : SO → Store → Prop} : (fnI C n F ds st).wp Q E = (F (startI C n ds) st).wp ⟨ownK Q, fun _ _ => False, fun _ _ => False, fun _ _ => False, fun C fs _ s => E C fs s⟩ := by
  unfold fnI
  simp only [Out.wp_eq, R.wp_eq]
  cases F (startI C n ds) st with
  | nx e s =>
    show R.wp0 (match e[0]? with
      | some (Sl.own so) => R.ok so s
      | _ => R.bad) Q E = ownK Q e s
    unfold ownK
    split <;> rfl
  | _ => rfl
/-! statements -/
variable {a b : Ds} {x : Dn} {t : Dt}
theorem owp_nx : (Out.nx env s).wp k = k.nx env s := by simp only [Out.wp_eq, R.wp_eq]; rfl
theorem owp_rt {d : D} : (Out.rt d s).wp k = k.rt d s := by simp only [Out.wp_eq, R.wp_eq]; rfl
theorem owp_bk : (Out.bk env s).wp k = k.bk env s := by simp only [Out.wp_eq, R.wp_eq]; rfl
theorem owp_ct : (Out.ct env s).wp k = k.ct env s := by simp only [Out.wp_eq, R.wp_eq]; rfl
theorem owp_ex {C : Str} {fs : List (Str × D)} : (Out.ex C fs env s).wp k = k.ex C fs env s := by simp only [Out.wp_eq, R.wp_eq]; rfl
theorem owp_bad : Out.bad.wp k = False := by simp only [Out.wp_eq, R.wp_eq]; rfl
theorem owp_ite {c : Prop} [Decidable c] {a b : Out} : (if c then a else b).wp k = if c then a.wp k else b.wp k := by split <;> rfl
theorem owp_skip : (fSkip env st).wp k = k.nx env st := by simp only [Out.wp_eq, R.wp_eq]; rfl
theorem owp_seq : (fSeq a b env st).wp k = (a env st).wp ⟨fun e s => (b e s).wp k, k.rt, k.bk, k.ct, k.ex⟩ := by
  unfold fSeq
  simp only [Out.wp_eq, R.wp_eq]
  cases a env st <;> rfl
theorem owp_expr : (fExpr x env st).wp k = (x env st).wp (fun _ s => k.nx env s) (fun C fs s => k.ex C fs env s) := by
  unfold fExpr
  simp only [Out.wp_eq, R.wp_eq]
  cases x env st <;> rfl
theorem owp_ret : (fRet x env st).wp k = (x env st).wp (fun d s => k.rt d s) (fun C fs s => k.ex C fs env s) := by
  unfold fRet
  simp only [Out.wp_eq, R.wp_eq]
  cases x env st <;> rfl
theorem owp_retN : (fRetN env st).wp k = k.rt .non st := by simp only [Out.wp_eq, R.wp_eq]; rfl
theorem owp_set {i : Nat} : (fSet i x env st).wp k = (x env st).wp (fun d s => k.nx (env.set i (.val d)) s) (fun C fs s => k.ex C fs env s) := by
  unfold fSet
  simp only [Out.wp_eq, R.wp_eq]
  cases x env st <;> rfl
theorem owp_if : (fIf t a b env st).wp k = (t env st).wp (fun c s => if c = true then (a env s).wp k else (b env s).wp k) (fun C fs s => k.ex C fs env s) := by
  unfold fIf
  simp only [Out.wp_eq, R.wp_eq]
  cases t env st with
  | ok c s => cases c <;> rfl
  | _ => rfl
theorem owp_break : (fBreak env st).wp k = k.bk env st := by simp only [Out.wp_eq, R.wp_eq]; rfl
theorem owp_continue : (fContinue env st).wp k = k.ct env st := by simp only [Out.wp_eq, R.wp_eq]; rfl
theorem owp_asg {g : D → Env' → Option Env'} : (fAsg x g env st).wp k = (x env st).wp (fun d s => match g d env with | some e => k.nx e s | none => False) (fun C fs s => k.ex C fs env s) := by
  unfold fAsg
  simp only [Out.wp_eq, R.wp_eq]
  cases x env st with
  | ok d s => 
    show Out.wp0 (match g d env with | some e => Out.nx e s | none => Out.bad) k = match g d env with | some e => k.nx e s | none => False
    split <;> rfl
  | _ => rfl
theorem owp_par {i j : Nat} {f : Da} : (fPar i j f env st).wp k = (f env st).wp (fun ds s => match ds with | [x, y] => k.nx ((env.set i (.val x)).set j (.val y)) s | _ => False) (fun C fs s => k.ex C fs env s) := by
  unfold fPar
  simp only [Out.wp_eq, R.wp_eq]
  cases f env st with
  | ok d s =>
    show Out.wp0 (match (R.ok d s : R (List D)) with
      | .ok [x, y] s => .nx ((env.set i (.val x)).set j (.val y)) s
      | .ok _ _ => .bad
      | .ex C fs s => .ex C fs env s
      | .bad => .bad) k = _
    match d with
    | [] => rfl
    | [_] => rfl
    | [_, _] => rfl
    | _ :: _ :: _ :: _ => rfl
  | _ => rfl
theorem owp_raise {C : Str} {names : List Str} {f : Da} : (fRaise C names f env st).wp k = (f env st).wp (fun xs s => xs.length = names.length ∧ k.ex C (names.zip xs).reverse env s) (fun C fs s => k.ex C fs env s) := by
  unfold fRaise
  simp only [Out.wp_eq, R.wp_eq]
  cases f env st with
  | ok d s =>
    show Out.wp0 (if d.length = names.length then .ex C (names.zip d).reverse env s else .bad) k = (d.length = names.length ∧ k.ex C (names.zip d).reverse env s)
    split
    · rename_i h
      simp [h, Out.wp0]
    · rename_i h
      simp [h, Out.wp0]
  | _ => rfl
theorem owp_setN {i : Nat} {f : Df} : (fSetN i f env st).wp k = (f env st).wp (fun d s => k.nx (env.set i (.own d)) s) (fun C fs s => k.ex C fs env s) := by
  unfold fSetN
  simp only [Out.wp_eq, R.wp_eq]
  cases f env st <;> rfl
theorem owp_ownM {i : Nat} {g : LM} {f : Da} {xs : List D} (h : env[i]? = some (.own (.lst xs))) : (fOwnM i g f env st).wp k = (f env st).wp (fun ds s => match g xs ds with | some (_, ys) => k.nx (env.set i (.own (.lst ys))) s | none => False) (fun C fs s => k.ex C fs env s) := by
  unfold fOwnM
  simp only [Out.wp_eq, R.wp_eq]
  rw [h]
  show Out.wp0 (match f env st with
    | .ok ds s => (match g xs ds with
      | some (_, ys) => .nx (env.set i (.own (.lst ys))) s
      | none => .bad)
    | .ex C fs s => .ex C fs env s
    | .bad => .bad) k = _
  cases f env st with
  | ok ds s =>
    show Out.wp0 (match g xs ds with
      | some (_, ys) => .nx (env.set i (.own (.lst ys))) s
      | none => .bad) k = match g xs ds with | some (_, ys) => k.nx (env.set i (.own (.lst ys))) s | none => False
    cases g xs ds <;> rfl
  | _ => rfl
theorem owp_putOwn {n : Nat} {i x : Dn} {xs : List D} (h : env[n]? = some (.own (.lst xs))) : (fPutOwn n i x env st).wp k = (x env st).wp (fun d s => (i env s).wp (fun z s2 => match z with | .int j => (match ixN xs.length j with | some m => k.nx (env.set n (.own (.lst (xs.set m d)))) s2 | none => False) | _ => False) (fun C fs s => k.ex C fs env s)) (fun C fs s => k.ex C fs env s) := by
  unfold fPutOwn
  simp only [Out.wp_eq, R.wp_eq]
  rw [h]
  show Out.wp0 (match x env st with
    | .ok d s => (match i env s with
      | .ok (.int j) s2 => (match ixN xs.length j with
        | some m => .nx (env.set n (.own (.lst (xs.set m d)))) s2
        | none => .bad)
      | .ok _ _ => .bad
      | .ex C fs s2 => .ex C fs env s2
      | .bad => .bad)
    | .ex C fs s => .ex C fs env s
    | .bad => .bad) k = _
  cases x env st with
  | ok d s =>
    show Out.wp0 (match i env s with
      | .ok (.int j) s2 => (match ixN xs.length j with
        | some m => .nx (env.set n (.own (.lst (xs.set m d)))) s2
        | none => .bad)
      | .ok _ _ => .bad
      | .ex C fs s2 => .ex C fs env s2
      | .bad => .bad) k = (i env s).wp0 _ _
    cases i env s with
    | ok z s2 =>
      cases z with
      | int j =>
        show Out.wp0 (match ixN xs.length j with
          | some m => .nx (env.set n (.own (.lst (xs.set m d)))) s2
          | none => .bad) k = match ixN xs.length j with | some m => k.nx (env.set n (.own (.lst (xs.set m d)))) s2 | none => False
        cases ixN xs.length j <;> rfl
      | _ => rfl
    | _ => rfl
  | _ => rfl
theorem owp_frzS {i : Nat} {f : Ds} {so : SO} (h : env[i]? = some (.own so)) : (fFrzS i f env st).wp k = (f (env.set i (.val (soD so))) st).wp k := by
  unfold fFrzS
  rw [h]
theorem owp_selfPut {i : Nat} {f : Str} {Cs : List Str} {C : Str} {fs : List (Str × D)} (h : env[i]? = some (.own (.ins C fs))) : (fSelfPut i f Cs x env st).wp k = (x env st).wp (fun d s => if C ∈ Cs ∧ fs.length < 1000 then k.nx (env.set i (.own (.ins C (putD f d fs)))) s else False) (fun C fs s => k.ex C fs env s) := by
  unfold fSelfPut
  simp only [Out.wp_eq, R.wp_eq]
  rw [h]
  show Out.wp0 (match x env st with
    | .ok d s => if C ∈ Cs ∧ fs.length < 1000 then .nx (env.set i (.own (.ins C (putD f d fs)))) s else .bad
    | .ex C fs s => .ex C fs env s
    | .bad => .bad) k = _
  cases x env st with
  | ok d s =>
    show Out.wp0 (if C ∈ Cs ∧ fs.length < 1000 then .nx (env.set i (.own (.ins C (putD f d fs)))) s else .bad) k = if C ∈ Cs ∧ fs.length < 1000 then k.nx (env.set i (.own (.ins C (putD f d fs)))) s else False
    split <;> rfl
  | _ => rfl
theorem owp_try {i : Nat} {hs : List Hd} : (fTry i a hs env st).wp k = (a env st).wp ⟨k.nx, k.rt, k.bk, k.ct, fun C fs e s => (fHandle i hs C fs e s).wp k⟩ := by
  unfold fTry
  simp only [Out.wp_eq, R.wp_eq]
  cases a env st <;> rfl
theorem owp_for {it : Da} {tg : D → Env' → Option Env'} : (fFor it tg b env st).wp k = (it env st).wp (fun xs s => (fTurns tg b xs env s).wp k) (fun C fs s => k.ex C fs env s) := by
  unfold fFor
  simp only [Out.wp_eq, R.wp_eq]
  cases it env st <;> rfl
theorem owp_forL {it : Dl} {tg : D → Env' → Option Env'} : (fForL it tg b env st).wp k = (it env st).wp (fun p s => (fTurnsL tg b p.2 p.1 env s).wp k) (fun C fs s => k.ex C fs env s) := by
  unfold fForL
  simp only [Out.wp_eq, R.wp_eq]
  cases it env st <;> rfl
/-- a for's turns: an invariant over what is done and what is left -/
theorem turns_wp {tg : D → Env' → Option Env'} {k : Ks} (Inv : List D → List D → Env' → Store → Prop)
    (step : ∀ done x rest e s, Inv done (x :: rest) e s → match tg x e with | some e1 => (b e1 s).wp ⟨Inv (done ++ [x]) rest, k.rt, k.nx, Inv (done ++ [x]) rest, k.ex⟩ | none => False) :
    ∀ (xs done : List D) (env : Env') (st : Store), Inv done xs env st → (∀ e s, Inv (done ++ xs) [] e s → k.nx e s) → (fTurns tg b xs env st).wp k
  | [], done, env, st, h, fin => by
    rw [Out.wp_eq]
    exact fin env st (by rw [List.append_nil]; exact h)
  | x :: xs, done, env, st, h, fin => by
    have z := step done x xs env st h
    have ih := turns_wp Inv step xs (done ++ [x])
    rw [List.append_assoc] at ih
    unfold fTurns
    cases eq : tg x env with
    | none => rw [eq] at z; exact z.elim
    | some e1 =>
      rw [eq] at z
      rw [Out.wp_eq]
      show Out.wp0 (match b e1 st with
        | .nx e s => fTurns tg b xs e s
        | .ct e s => fTurns tg b xs e s
        | .bk e s => .nx e s
        | r => r) k
      have z : (b e1 st).wp ⟨Inv (done ++ [x]) xs, k.rt, k.nx, Inv (done ++ [x]) xs, k.ex⟩ := z
      rw [Out.wp_eq] at z
      simp only [Out.wp_eq] at ih
      revert z
      cases b e1 st with
      | nx e s => exact fun z => ih e s z fin
      | ct e s => exact fun z => ih e s z fin
      | bk e s => exact fun z => z
      | rt e s => exact fun z => z
      | ex C fs e s => exact fun z => z
      | bad => exact fun z => z
theorem turnsL_wp {tg : D → Env' → Option Env'} {k : Ks} {l : Lv} (Inv : List D → List D → Env' → Store → Prop) (lv : ∀ done rest e s, Inv done rest e s → liv s l)
    (step : ∀ done x rest e s, Inv done (x :: rest) e s → match tg x e with | some e1 => (b e1 s).wp ⟨Inv (done ++ [x]) rest, k.rt, k.nx, Inv (done ++ [x]) rest, k.ex⟩ | none => False) :
    ∀ (xs done : List D) (env : Env') (st : Store), Inv done xs env st → (∀ e s, Inv (done ++ xs) [] e s → k.nx e s) → (fTurnsL tg b l xs env st).wp k
  | [], done, env, st, h, fin => by
    unfold fTurnsL
    rw [if_pos (lv _ _ _ _ h), Out.wp_eq]
    exact fin env st (by rw [List.append_nil]; exact h)
  | x :: xs, done, env, st, h, fin => by
    have z := step done x xs env st h
    have ih := turnsL_wp Inv lv step xs (done ++ [x])
    rw [List.append_assoc] at ih
    unfold fTurnsL
    rw [if_pos (lv _ _ _ _ h)]
    cases eq : tg x env with
    | none => rw [eq] at z; exact z.elim
    | some e1 =>
      rw [eq] at z
      rw [Out.wp_eq]
      show Out.wp0 (match b e1 st with
        | .nx e s => fTurnsL tg b l xs e s
        | .ct e s => fTurnsL tg b l xs e s
        | .bk e s => .nx e s
        | r => r) k
      have z : (b e1 st).wp ⟨Inv (done ++ [x]) xs, k.rt, k.nx, Inv (done ++ [x]) xs, k.ex⟩ := z
      rw [Out.wp_eq] at z
      simp only [Out.wp_eq] at ih
      revert z
      cases b e1 st with
      | nx e s => exact fun z => ih e s z fin
      | ct e s => exact fun z => ih e s z fin
      | bk e s => exact fun z => z
      | rt e s => exact fun z => z
      | ex C fs e s => exact fun z => z
      | bad => exact fun z => z
/-- a while: a measure goes down -/
theorem while_wp {c : Dt} {k : Ks} (Inv : Nat → Env' → Store → Prop) (step : ∀ n e s, Inv n e s → (c e s).wp (fun x s1 => if x = true then ∃ m, n = m + 1 ∧ (b e s1).wp ⟨Inv m, k.rt, k.nx, Inv m, k.ex⟩ else k.nx e s1) (fun C fs s => k.ex C fs e s)) :
    ∀ (n N : Nat) (env : Env') (st : Store), n < N → Inv n env st → (fWhile c b N env st).wp k
  | n, 0, _, _, hn, _ => by omega
  | n, N + 1, env, st, hn, h => by
    have z := step n env st h
    have ih := fun m e s h z => while_wp Inv step m N e s h z
    simp only [Out.wp_eq, R.wp_eq] at z ih ⊢
    unfold fWhile
    revert z
    cases c env st with
    | ok x s =>
      cases x with
      | true =>
        intro z
        obtain ⟨m, rfl, z⟩ : ∃ m, n = m + 1 ∧ (b env s).wp0 ⟨Inv m, k.rt, k.nx, Inv m, k.ex⟩ := z
        show Out.wp0 (match b env s with
          | .nx e s2 => fWhile c b N e s2
          | .ct e s2 => fWhile c b N e s2
          | .bk e s2 => .nx e s2
          | r => r) k
        revert z
        cases b env s with
        | nx e s => exact fun z => ih m e s (by omega) z
        | ct e s => exact fun z => ih m e s (by omega) z
        | bk e s => exact fun z => z
        | rt e s => exact fun z => z
        | ex C fs e s => exact fun z => z
        | bad => exact fun z => z
      | false => exact fun z => z
    | ex C fs s => exact fun z => z
    | bad => exact fun z => z
/-! comprehensions -/
theorem wp_comp {it : Da} {g : D → Env' → Option Env'} {c : Dt} {elt : Dn} {vs : List Nat} {Q : D → Store → Prop} : (fComp it g c elt vs env st).wp Q E = (it env st).wp (fun items s => if items.length < sizeLine then (fCompT g c elt (wipeE env vs) items s).wp (fun ys s2 => Q (.lst ys) s2) E else False) E := by
  unfold fComp
  rw [wp_bind]
  congr
  funext items s
  split
  · rw [wp_bind]
    simp only [wp_ok]
  · exact wp_bad
/-- each element by its own, nothing changes -/
theorem compT_map {g : D → Env' → Option Env'} {elt : Dn} {env : Env'} {s : Store} (f : D → D) : ∀ (xs : List D), (∀ x ∈ xs, ∃ e1, g x env = some e1 ∧ elt e1 s = .ok (f x) s) → fCompT g fYes elt env xs s = .ok (xs.map f) s
  | [], _ => rfl
  | x :: xs, h => by
    obtain ⟨e1, h1, h2⟩ := h x List.mem_cons_self
    unfold fCompT
    rw [h1]
    show (R.ok true s).quiet.bind _ = _
    show (if true = true then (elt e1 s).quiet.bind fun y s2 => (fCompT g fYes elt env xs s2).bind fun ys s3 => .ok (y :: ys) s3 else fCompT g fYes elt env xs s) = _
    rw [if_pos rfl, h2]
    show (fCompT g fYes elt env xs s).bind _ = _
    rw [compT_map f xs fun y hy => h y (List.mem_cons_of_mem _ hy)]
    rfl
/-- with a condition -/
theorem compT_filter {g : D → Env' → Option Env'} {c : Dt} {elt : Dn} {env : Env'} {s : Store} (p : D → Bool) (f : D → D) : ∀ (xs : List D), (∀ x ∈ xs, ∃ e1, g x env = some e1 ∧ c e1 s = .ok (p x) s ∧ (p x = true → elt e1 s = .ok (f x) s)) → fCompT g c elt env xs s = .ok ((xs.filter p).map f) s
  | [], _ => rfl
  | x :: xs, h => by
    obtain ⟨e1, h1, h2, h3⟩ := h x List.mem_cons_self
    have ih := compT_filter (g := g) (c := c) (elt := elt) (env := env) (s := s) p f xs fun y hy => h y (List.mem_cons_of_mem _ hy)
    unfold fCompT
    rw [h1]
    show (c e1 s).quiet.bind _ = _
    rw [h2]
    show (if p x = true then (elt e1 s).quiet.bind fun y s2 => (fCompT g c elt env xs s2).bind fun ys s3 => .ok (y :: ys) s3 else fCompT g c elt env xs s) = _
    split
    · rename_i hp
      rw [h3 hp]
      show (fCompT g c elt env xs s).bind _ = _
      rw [ih, List.filter_cons_of_pos hp]
      rfl
    · rename_i hp
      rw [ih, List.filter_cons_of_neg hp]
/-- drawn elements: a wish for each, the store as it may be; as many as there are items -/
theorem compT_draw {g : D → Env' → Option Env'} {elt : Dn} {env : Env'} (P : D → Prop) (Inv : Store → Prop) : ∀ (xs : List D), (∀ x ∈ xs, ∃ e1, g x env = some e1 ∧ ∀ s, Inv s → (elt e1 s).wp (fun y s2 => P y ∧ Inv s2) nE) →
    ∀ s Q, Inv s → (∀ ys s2, ys.length = xs.length → (∀ y ∈ ys, P y) → Inv s2 → Q ys s2) → (fCompT g fYes elt env xs s).wp Q E
  | [], _, s, Q, hs, fin => by
    rw [show fCompT g fYes elt env [] s = .ok [] s from rfl, wp_ok]
    exact fin [] s rfl (fun _ h => nomatch h) hs
  | x :: xs, h, s, Q, hs, fin => by
    obtain ⟨e1, h1, h2⟩ := h x List.mem_cons_self
    unfold fCompT
    rw [h1]
    show R.wp (if true = true then (elt e1 s).quiet.bind fun y s2 => (fCompT g fYes elt env xs s2).bind fun ys s3 => .ok (y :: ys) s3 else fCompT g fYes elt env xs s) Q E
    rw [if_pos rfl, wp_bind, wp_quiet]
    refine wp_mono (h2 s hs) (fun y s2 ⟨hp, hi⟩ => ?_) fun _ _ _ h => h.elim
    rw [wp_bind]
    simp only [wp_ok]
    exact compT_draw P Inv xs (fun y hy => h y (List.mem_cons_of_mem _ hy)) s2 _ hi fun ys s3 hl hys hi3 => fin (y :: ys) s3 (by rw [List.length_cons, List.length_cons, hl]) (fun z hz => (List.mem_cons.mp hz).elim (fun e => e ▸ hp) (hys z)) hi3
end
end Dv

/-! PvB: printed by pvgen.py: wishes of expressions and statements, the rest of the reckoning in named continuations. -/
namespace Dv
open PySem PySem.Spec PyProof.Rows L2 Cv

def kOp2 (f : D → D → Store → R D) (x : D) (Q : D → Store → Prop) (E : Str → List (Str × D) → Store → Prop) (y : D) (s : Store) : Prop := (f x y s).wp Q E
def kOp1 (f : D → D → Store → R D) (b : Dn) (env : Env') (Q : D → Store → Prop) (E : Str → List (Str × D) → Store → Prop) (x : D) (s : Store) : Prop := (b env s).wp (kOp2 f x Q E) E
theorem w_fOp {f : D → D → Store → R D} {a : Dn} {b : Dn} {env : Env'} {st : Store} {Q : D → Store → Prop} {E : Str → List (Str × D) → Store → Prop} : (fOp f a b env st).wp Q E = (a env st).wp (kOp1 f b env Q E) E := by
  unfold fOp
  simp only [wp_bind, wp_ite, wp_ok, wp_bad]
  rfl
def kUn1 (f : D → Store → R D) (Q : D → Store → Prop) (E : Str → List (Str × D) → Store → Prop) (x : D) (s : Store) : Prop := (f x s).wp Q E
theorem w_fUn {f : D → Store → R D} {a : Dn} {env : Env'} {st : Store} {Q : D → Store → Prop} {E : Str → List (Str × D) → Store → Prop} : (fUn f a env st).wp Q E = (a env st).wp (kUn1 f Q E) E := by
  unfold fUn
  simp only [wp_bind, wp_ite, wp_ok, wp_bad]
  rfl
def kT1  (Q : Bool → Store → Prop) (E : Str → List (Str × D) → Store → Prop) (x : D) (s : Store) : Prop := (asB x s).wp Q E
theorem w_fT {a : Dn} {env : Env'} {st : Store} {Q : Bool → Store → Prop} {E : Str → List (Str × D) → Store → Prop} : (fT a env st).wp Q E = (a env st).wp (kT1  Q E) E := by
  unfold fT
  simp only [wp_bind, wp_ite, wp_ok, wp_bad]
  rfl
def kAnd1 (b : Dt) (env : Env') (Q : Bool → Store → Prop) (E : Str → List (Str × D) → Store → Prop) (x : Bool) (s : Store) : Prop := if x = true then (b env s).wp Q E else Q false s
theorem w_fAnd {a : Dt} {b : Dt} {env : Env'} {st : Store} {Q : Bool → Store → Prop} {E : Str → List (Str × D) → Store → Prop} : (fAnd a b env st).wp Q E = (a env st).wp (kAnd1 b env Q E) E := by
  unfold fAnd
  simp only [wp_bind, wp_ite, wp_ok, wp_bad]
  rfl
def kOr1 (b : Dt) (env : Env') (Q : Bool → Store → Prop) (E : Str → List (Str × D) → Store → Prop) (x : Bool) (s : Store) : Prop := if x = true then Q true s else (b env s).wp Q E
theorem w_fOr {a : Dt} {b : Dt} {env : Env'} {st : Store} {Q : Bool → Store → Prop} {E : Str → List (Str × D) → Store → Prop} : (fOr a b env st).wp Q E = (a env st).wp (kOr1 b env Q E) E := by
  unfold fOr
  simp only [wp_bind, wp_ite, wp_ok, wp_bad]
  rfl
def kNot1  (Q : Bool → Store → Prop) (E : Str → List (Str × D) → Store → Prop) (x : Bool) (s : Store) : Prop := Q (!x) s
theorem w_fNot {a : Dt} {env : Env'} {st : Store} {Q : Bool → Store → Prop} {E : Str → List (Str × D) → Store → Prop} : (fNot a env st).wp Q E = (a env st).wp (kNot1  Q E) E := by
  unfold fNot
  simp only [wp_bind, wp_ite, wp_ok, wp_bad]
  rfl
def kAndV1 (b : Dn) (env : Env') (Q : D → Store → Prop) (E : Str → List (Str × D) → Store → Prop) (x : Bool) (s : Store) : Prop := if x = true then (b env s).wp Q E else Q (.bl false) s
theorem w_fAndV {a : Dn} {b : Dn} {env : Env'} {st : Store} {Q : D → Store → Prop} {E : Str → List (Str × D) → Store → Prop} : (fAndV a b env st).wp Q E = (fT a env st).wp (kAndV1 b env Q E) E := by
  unfold fAndV
  simp only [wp_bind, wp_ite, wp_ok, wp_bad]
  rfl
def kOrV1 (b : Dn) (env : Env') (Q : D → Store → Prop) (E : Str → List (Str × D) → Store → Prop) (x : Bool) (s : Store) : Prop := if x = true then Q (.bl true) s else (b env s).wp Q E
theorem w_fOrV {a : Dn} {b : Dn} {env : Env'} {st : Store} {Q : D → Store → Prop} {E : Str → List (Str × D) → Store → Prop} : (fOrV a b env st).wp Q E = (fT a env st).wp (kOrV1 b env Q E) E := by
  unfold fOrV
  simp only [wp_bind, wp_ite, wp_ok, wp_bad]
  rfl
def kNotV1  (Q : D → Store → Prop) (E : Str → List (Str × D) → Store → Prop) (x : Bool) (s : Store) : Prop := Q (.bl (!x)) s
theorem w_fNotV {a : Dn} {env : Env'} {st : Store} {Q : D → Store → Prop} {E : Str → List (Str × D) → Store → Prop} : (fNotV a env st).wp Q E = (fT a env st).wp (kNotV1  Q E) E := by
  unfold fNotV
  simp only [wp_bind, wp_ite, wp_ok, wp_bad]
  rfl
def kIte1 (a : Dn) (b : Dn) (env : Env') (Q : D → Store → Prop) (E : Str → List (Str × D) → Store → Prop) (x : Bool) (s : Store) : Prop := if x = true then (a env s).wp Q E else (b env s).wp Q E
theorem w_fIte {c : Dt} {a : Dn} {b : Dn} {env : Env'} {st : Store} {Q : D → Store → Prop} {E : Str → List (Str × D) → Store → Prop} : (fIte c a b env st).wp Q E = (c env st).wp (kIte1 a b env Q E) E := by
  unfold fIte
  simp only [wp_bind, wp_ite, wp_ok, wp_bad]
  rfl
def kCons2 (x : D) (Q : List D → Store → Prop) (E : Str → List (Str × D) → Store → Prop) (xs : List D) (s : Store) : Prop := Q (x :: xs) s
def kCons1 (r : Da) (env : Env') (Q : List D → Store → Prop) (E : Str → List (Str × D) → Store → Prop) (x : D) (s : Store) : Prop := (r env s).wp (kCons2 x Q E) E
theorem w_fCons {a : Dn} {r : Da} {env : Env'} {st : Store} {Q : List D → Store → Prop} {E : Str → List (Str × D) → Store → Prop} : (fCons a r env st).wp Q E = (a env st).wp (kCons1 r env Q E) E := by
  unfold fCons
  simp only [wp_bind, wp_ite, wp_ok, wp_bad]
  rfl
def kLst1  (Q : D → Store → Prop) (E : Str → List (Str × D) → Store → Prop) (xs : List D) (s : Store) : Prop := if xs.length ≤ sizeLine then Q (.lst xs) s else False
theorem w_fLst {a : Da} {env : Env'} {st : Store} {Q : D → Store → Prop} {E : Str → List (Str × D) → Store → Prop} : (fLst a env st).wp Q E = (a env st).wp (kLst1  Q E) E := by
  unfold fLst
  simp only [wp_bind, wp_ite, wp_ok, wp_bad]
  rfl
def kTup1  (Q : D → Store → Prop) (E : Str → List (Str × D) → Store → Prop) (xs : List D) (s : Store) : Prop := if xs.length ≤ sizeLine then Q (.tup xs) s else False
theorem w_fTup {a : Da} {env : Env'} {st : Store} {Q : D → Store → Prop} {E : Str → List (Str × D) → Store → Prop} : (fTup a env st).wp Q E = (a env st).wp (kTup1  Q E) E := by
  unfold fTup
  simp only [wp_bind, wp_ite, wp_ok, wp_bad]
  rfl
def kCall1 (f : Fn) (Q : D → Store → Prop) (E : Str → List (Str × D) → Store → Prop) (xs : List D) (s : Store) : Prop := (f xs s).wp Q E
theorem w_fCall {f : Fn} {a : Da} {env : Env'} {st : Store} {Q : D → Store → Prop} {E : Str → List (Str × D) → Store → Prop} : (fCall f a env st).wp Q E = (a env st).wp (kCall1 f Q E) E := by
  unfold fCall
  simp only [wp_bind, wp_ite, wp_ok, wp_bad]
  rfl
def kCallD1 (f : Fn) (dd : List D) (Q : D → Store → Prop) (E : Str → List (Str × D) → Store → Prop) (xs : List D) (s : Store) : Prop := (f (xs ++ dd) s).wp Q E
theorem w_fCallD {f : Fn} {dd : List D} {a : Da} {env : Env'} {st : Store} {Q : D → Store → Prop} {E : Str → List (Str × D) → Store → Prop} : (fCallD f dd a env st).wp Q E = (a env st).wp (kCallD1 f dd Q E) E := by
  unfold fCallD
  simp only [wp_bind, wp_ite, wp_ok, wp_bad]
  rfl
def kStrM2 (f : D → List D → Store → R D) (x : D) (Q : D → Store → Prop) (E : Str → List (Str × D) → Store → Prop) (ds : List D) (s : Store) : Prop := (f x ds s).wp Q E
def kStrM1 (f : D → List D → Store → R D) (a : Da) (env : Env') (Q : D → Store → Prop) (E : Str → List (Str × D) → Store → Prop) (x : D) (s : Store) : Prop := if isSt x = true then (a env s).wp (kStrM2 f x Q E) E else False
theorem w_fStrM {f : D → List D → Store → R D} {o : Dn} {a : Da} {env : Env'} {st : Store} {Q : D → Store → Prop} {E : Str → List (Str × D) → Store → Prop} : (fStrM f o a env st).wp Q E = (o env st).wp (kStrM1 f a env Q E) E := by
  unfold fStrM
  simp only [wp_bind, wp_ite, wp_ok, wp_bad]
  rfl
def kIt1  (Q : List D → Store → Prop) (E : Str → List (Str × D) → Store → Prop) (x : D) (s : Store) : Prop := (itemsOf x s).wp Q E
theorem w_fIt {a : Dn} {env : Env'} {st : Store} {Q : List D → Store → Prop} {E : Str → List (Str × D) → Store → Prop} : (fIt a env st).wp Q E = (a env st).wp (kIt1  Q E) E := by
  unfold fIt
  simp only [wp_bind, wp_ite, wp_ok, wp_bad]
  rfl
def kRng1 (f : List D → Store → R (List D)) (Q : List D → Store → Prop) (E : Str → List (Str × D) → Store → Prop) (x : List D) (s : Store) : Prop := (f x s).wp Q E
theorem w_fRng {f : List D → Store → R (List D)} {a : Da} {env : Env'} {st : Store} {Q : List D → Store → Prop} {E : Str → List (Str × D) → Store → Prop} : (fRng f a env st).wp Q E = (a env st).wp (kRng1 f Q E) E := by
  unfold fRng
  simp only [wp_bind, wp_ite, wp_ok, wp_bad]
  rfl
def kSome1  (Q : Option Int → Store → Prop) (E : Str → List (Str × D) → Store → Prop) (x : D) (s : Store) : Prop := (asI x s).wp Q E
theorem w_fSome {a : Dn} {env : Env'} {st : Store} {Q : Option Int → Store → Prop} {E : Str → List (Str × D) → Store → Prop} : (fSome a env st).wp Q E = (a env st).wp (kSome1  Q E) E := by
  unfold fSome
  simp only [wp_bind, wp_ite, wp_ok, wp_bad]
  rfl
def kSl3 (x : D) (l : Option Int) (Q : D → Store → Prop) (E : Str → List (Str × D) → Store → Prop) (h : Option Int) (s : Store) : Prop := (dSl x l h s).wp Q E
def kSl2 (hi : Do) (env : Env') (x : D) (Q : D → Store → Prop) (E : Str → List (Str × D) → Store → Prop) (l : Option Int) (s : Store) : Prop := (hi env s).wp (kSl3 x l Q E) E
def kSl1 (lo : Do) (hi : Do) (env : Env') (Q : D → Store → Prop) (E : Str → List (Str × D) → Store → Prop) (x : D) (s : Store) : Prop := (lo env s).wp (kSl2 hi env x Q E) E
theorem w_fSl {a : Dn} {lo : Do} {hi : Do} {env : Env'} {st : Store} {Q : D → Store → Prop} {E : Str → List (Str × D) → Store → Prop} : (fSl a lo hi env st).wp Q E = (a env st).wp (kSl1 lo hi env Q E) E := by
  unfold fSl
  simp only [wp_bind, wp_ite, wp_ok, wp_bad]
  rfl
def kFrz1  (Q : D → Store → Prop) (E : Str → List (Str × D) → Store → Prop) (so : SO) (s : Store) : Prop := Q (soD so) s
theorem w_fFrz {a : Df} {env : Env'} {st : Store} {Q : D → Store → Prop} {E : Str → List (Str × D) → Store → Prop} : (fFrz a env st).wp Q E = (a env st).wp (kFrz1  Q E) E := by
  unfold fFrz
  simp only [wp_bind, wp_ite, wp_ok, wp_bad]
  rfl
def kRef1  (Q : D → Store → Prop) (E : Str → List (Str × D) → Store → Prop) (so : SO) (s : Store) : Prop := Q (.ref s.length) (s ++ [so])
theorem w_fRef {a : Df} {env : Env'} {st : Store} {Q : D → Store → Prop} {E : Str → List (Str × D) → Store → Prop} : (fRef a env st).wp Q E = (a env st).wp (kRef1  Q E) E := by
  unfold fRef
  simp only [wp_bind, wp_ite, wp_ok, wp_bad]
  rfl
def kLstN1  (Q : SO → Store → Prop) (E : Str → List (Str × D) → Store → Prop) (xs : List D) (s : Store) : Prop := if xs.length ≤ sizeLine then Q (.lst xs) s else False
theorem w_fLstN {a : Da} {env : Env'} {st : Store} {Q : SO → Store → Prop} {E : Str → List (Str × D) → Store → Prop} : (fLstN a env st).wp Q E = (a env st).wp (kLstN1  Q E) E := by
  unfold fLstN
  simp only [wp_bind, wp_ite, wp_ok, wp_bad]
  rfl
def kPutE3 (d : D) (x : D) (Q : D → Store → Prop) (E : Str → List (Str × D) → Store → Prop) (z : D) (s : Store) : Prop := (putAt d x z s).wp Q E
def kPutE2 (i : Dn) (env : Env') (d : D) (Q : D → Store → Prop) (E : Str → List (Str × D) → Store → Prop) (x : D) (s : Store) : Prop := (i env s).wp (kPutE3 d x Q E) E
def kPutE1 (o : Dn) (i : Dn) (env : Env') (Q : D → Store → Prop) (E : Str → List (Str × D) → Store → Prop) (d : D) (s : Store) : Prop := (o env s).wp (kPutE2 i env d Q E) E
theorem w_fPutE {o : Dn} {i : Dn} {e : Dn} {env : Env'} {st : Store} {Q : D → Store → Prop} {E : Str → List (Str × D) → Store → Prop} : (fPutE o i e env st).wp Q E = (e env st).wp (kPutE1 o i env Q E) E := by
  unfold fPutE
  simp only [wp_bind, wp_ite, wp_ok, wp_bad]
  rfl
def kItL1  (Q : List D × Lv → Store → Prop) (E : Str → List (Str × D) → Store → Prop) (x : D) (s : Store) : Prop := (itemsL x s).wp Q E
theorem w_fItL {a : Dn} {env : Env'} {st : Store} {Q : List D × Lv → Store → Prop} {E : Str → List (Str × D) → Store → Prop} : (fItL a env st).wp Q E = (a env st).wp (kItL1  Q E) E := by
  unfold fItL
  simp only [wp_bind, wp_ite, wp_ok, wp_bad]
  rfl
def kEnumL1  (Q : List D × Lv → Store → Prop) (E : Str → List (Str × D) → Store → Prop) (x : D) (s : Store) : Prop := (enumL x s).wp Q E
theorem w_fEnumL {a : Dn} {env : Env'} {st : Store} {Q : List D × Lv → Store → Prop} {E : Str → List (Str × D) → Store → Prop} : (fEnumL a env st).wp Q E = (a env st).wp (kEnumL1  Q E) E := by
  unfold fEnumL
  simp only [wp_bind, wp_ite, wp_ok, wp_bad]
  rfl
def kMake1 (f : Fi) (dd : List D) (Q : SO → Store → Prop) (E : Str → List (Str × D) → Store → Prop) (xs : List D) (s : Store) : Prop := (f (xs ++ dd) s).wp Q E
theorem w_fMake {f : Fi} {dd : List D} {a : Da} {env : Env'} {st : Store} {Q : SO → Store → Prop} {E : Str → List (Str × D) → Store → Prop} : (fMake f dd a env st).wp Q E = (a env st).wp (kMake1 f dd Q E) E := by
  unfold fMake
  simp only [wp_bind, wp_ite, wp_ok, wp_bad]
  rfl
def kMakeK2 (f : Fi) (g : List D → List D → List D) (xs : List D) (Q : SO → Store → Prop) (E : Str → List (Str × D) → Store → Prop) (ys : List D) (s : Store) : Prop := (f (g xs ys) s).wp Q E
def kMakeK1 (f : Fi) (g : List D → List D → List D) (ak : Da) (env : Env') (Q : SO → Store → Prop) (E : Str → List (Str × D) → Store → Prop) (xs : List D) (s : Store) : Prop := (ak env s).wp (kMakeK2 f g xs Q E) E
theorem w_fMakeK {f : Fi} {g : List D → List D → List D} {a : Da} {ak : Da} {env : Env'} {st : Store} {Q : SO → Store → Prop} {E : Str → List (Str × D) → Store → Prop} : (fMakeK f g a ak env st).wp Q E = (a env st).wp (kMakeK1 f g ak env Q E) E := by
  unfold fMakeK
  simp only [wp_bind, wp_ite, wp_ok, wp_bad]
  rfl
/-! ### by hand -/
section
variable {k : Ks} {s st : Store} {env : Env'} {Q : D → Store → Prop} {E : Str → List (Str × D) → Store → Prop}
theorem w_fC {d : D} : (fC d env st).wp Q E = Q d st := wp_ok
theorem w_fYes {Q : Bool → Store → Prop} : (fYes env st).wp Q E = Q true st := wp_ok
theorem w_fNil {Q : List D → Store → Prop} : (fNil env st).wp Q E = Q [] st := wp_ok
theorem w_fNone {Q : Option Int → Store → Prop} : (fNone env st).wp Q E = Q none st := wp_ok
theorem w_fDctN {Q : SO → Store → Prop} : (fDctN env st).wp Q E = Q (.dct []) st := wp_ok
def kVar (o : Option Sl) (Q : D → Store → Prop) (s : Store) : Prop := match o with
  | some (.val d) => Q d s
  | _ => False
theorem kVar_val {d : D} : kVar (some (.val d)) Q s = Q d s := rfl
theorem w_fVar {i : Nat} : (fVar i env st).wp Q E = kVar (env[i]?) Q st := by
  unfold fVar kVar
  cases env[i]? with
  | none => (first | rfl | exact wp_bad | exact wp_ok | exact wp_ex)
  | some x => cases x <;> (first | rfl | exact wp_bad | exact wp_ok | exact wp_ex)
def kChain5 (g : D → D → Store → R D) (y : D) (Q : D → Store → Prop) (E : Str → List (Str × D) → Store → Prop) (u : D) (s : Store) : Prop := (g y u s).wp Q E
def kChain4 (g : D → D → Store → R D) (c : Dn) (env : Env') (y : D) (Q : D → Store → Prop) (E : Str → List (Str × D) → Store → Prop) (b : Bool) (s : Store) : Prop := if b = true then (c env s).wp (kChain5 g y Q E) E else Q (.bl false) s
def kChain3 (g : D → D → Store → R D) (c : Dn) (env : Env') (y : D) (Q : D → Store → Prop) (E : Str → List (Str × D) → Store → Prop) (z : D) (s : Store) : Prop := (asB z s).wp (kChain4 g c env y Q E) E
def kChain2 (f g : D → D → Store → R D) (c : Dn) (env : Env') (x : D) (Q : D → Store → Prop) (E : Str → List (Str × D) → Store → Prop) (y : D) (s : Store) : Prop := (f x y s).wp (kChain3 g c env y Q E) E
def kChain1 (f g : D → D → Store → R D) (b c : Dn) (env : Env') (Q : D → Store → Prop) (E : Str → List (Str × D) → Store → Prop) (x : D) (s : Store) : Prop := (b env s).wp (kChain2 f g c env x Q E) E
theorem w_fChain {f g : D → D → Store → R D} {a b c : Dn} : (fChain f g a b c env st).wp Q E = (a env st).wp (kChain1 f g b c env Q E) E := by
  unfold fChain
  simp only [wp_bind, wp_ite, wp_ok]
  rfl
theorem w_asB {b : Bool} {Q : Bool → Store → Prop} : (asB (.bl b) s).wp Q E = Q b s := wp_ok
def lstAt (s : Store) (n : Nat) : Bool := match s[n]? with
  | some (.lst _) => true
  | _ => false
theorem lstAt_of {n : Nat} {xs : List D} (h : s[n]? = some (.lst xs)) : lstAt s n = true := by
  unfold lstAt
  rw [h]
def kRefM2 (g : LM) (n : Nat) (Q : D → Store → Prop) (ds : List D) (s : Store) : Prop := match s[n]? with
  | some (.lst xs) => (match g xs ds with
    | some (d, ys) => Q d (s.set n (.lst ys))
    | none => False)
  | _ => False
theorem kRefM2_of {g : LM} {n : Nat} {ds : List D} {xs ys : List D} {d : D} (h : s[n]? = some (.lst xs)) (h2 : g xs ds = some (d, ys)) : kRefM2 g n Q ds s = Q d (s.set n (.lst ys)) := by
  unfold kRefM2
  rw [h]
  show (match g xs ds with
    | some (d, ys) => Q d (s.set n (.lst ys))
    | none => False) = _
  rw [h2]
def kRefM1 (g : LM) (a : Da) (env : Env') (Q : D → Store → Prop) (E : Str → List (Str × D) → Store → Prop) (x : D) (s : Store) : Prop := match x with
  | .ref n => if lstAt s n = true then (a env s).wp (kRefM2 g n Q) E else False
  | _ => False
theorem kRefM1_ref {g : LM} {a : Da} {n : Nat} : kRefM1 g a env Q E (.ref n) s = if lstAt s n = true then (a env s).wp (kRefM2 g n Q) E else False := rfl
theorem w_fRefM {g : LM} {o : Dn} {a : Da} : (fRefM g o a env st).wp Q E = (o env st).wp (kRefM1 g a env Q E) E := by
  unfold fRefM
  rw [wp_bind]
  congr
  funext x s
  unfold kRefM1
  cases x with
  | ref n =>
    show R.wp (match s[n]? with
      | some (.lst _) => (a env s).bind fun ds s2 => (match s2[n]? with
        | some (.lst xs) => (match g xs ds with
          | some (d, ys) => .ok d (s2.set n (.lst ys))
          | none => .bad)
        | _ => .bad)
      | _ => .bad) Q E = if lstAt s n = true then _ else _
    unfold lstAt
    cases s[n]? with
    | none => (first | rfl | exact wp_bad | exact wp_ok | exact wp_ex)
    | some o =>
      cases o with
      | lst xs =>
        show R.wp ((a env s).bind _) Q E = (a env s).wp _ E
        rw [wp_bind]
        congr
        funext ds s2
        unfold kRefM2
        cases s2[n]? with
        | none => (first | rfl | exact wp_bad | exact wp_ok | exact wp_ex)
        | some o => cases o with
          | lst xs =>
            show R.wp (match g xs ds with
              | some (d, ys) => .ok d (s2.set n (.lst ys))
              | none => .bad) Q E = match g xs ds with
              | some (d, ys) => Q d (s2.set n (.lst ys))
              | none => False
            cases g xs ds <;> (first | rfl | exact wp_bad | exact wp_ok | exact wp_ex)
          | _ => (first | rfl | exact wp_bad | exact wp_ok | exact wp_ex)
      | _ => (first | rfl | exact wp_bad | exact wp_ok | exact wp_ex)
  | _ => (first | rfl | exact wp_bad | exact wp_ok | exact wp_ex)
def kListN1 (Q : SO → Store → Prop) (x : D) (s : Store) : Prop := match x with
  | .lst xs => Q (.lst xs) s
  | .rol xs => Q (.lst xs) s
  | .tup xs => Q (.lst xs) s
  | .ref n => (match s[n]? with
    | some (.lst xs) => Q (.lst xs) s
    | _ => False)
  | _ => False
theorem kListN1_lst {Q : SO → Store → Prop} {xs : List D} : kListN1 Q (.lst xs) s = Q (.lst xs) s := rfl
theorem kListN1_tup {Q : SO → Store → Prop} {xs : List D} : kListN1 Q (.tup xs) s = Q (.lst xs) s := rfl
theorem kListN1_ref {Q : SO → Store → Prop} {xs : List D} {n : Nat} (h : s[n]? = some (.lst xs)) : kListN1 Q (.ref n) s = Q (.lst xs) s := by
  show (match s[n]? with
    | some (.lst xs) => Q (.lst xs) s
    | _ => False) = _
  rw [h]
theorem w_fListN {a : Dn} {Q : SO → Store → Prop} : (fListN a env st).wp Q E = (a env st).wp (kListN1 Q) E := by
  unfold fListN
  rw [wp_bind]
  congr
  funext x s
  unfold kListN1
  cases x with
  | ref n =>
    show R.wp (match s[n]? with
      | some (.lst xs) => .ok (.lst xs) s
      | _ => .bad) Q E = match s[n]? with
      | some (.lst xs) => Q (.lst xs) s
      | _ => False
    cases s[n]? with
    | none => (first | rfl | exact wp_bad | exact wp_ok | exact wp_ex)
    | some o => cases o <;> (first | rfl | exact wp_bad | exact wp_ok | exact wp_ex)
  | _ => (first | rfl | exact wp_bad | exact wp_ok | exact wp_ex)
def kMeth2 (f : Fn) (x : D) (dd : List D) (Q : D → Store → Prop) (E : Str → List (Str × D) → Store → Prop) (ds : List D) (s : Store) : Prop := (f (x :: (ds ++ dd)) s).wp Q E
def kMeth1 (C m : Str) (f : Fn) (dd : List D) (a : Da) (env : Env') (Q : D → Store → Prop) (E : Str → List (Str × D) → Store → Prop) (x : D) (s : Store) : Prop := match insOf x s with
  | some (C', fs) => if C' = C ∧ (fs.lookup m).isNone = true then (a env s).wp (kMeth2 f x dd Q E) E else False
  | none => False
theorem kMeth1_of {C m : Str} {f : Fn} {dd : List D} {a : Da} {x : D} {C' : Str} {fs : List (Str × D)} (h : insOf x s = some (C', fs)) : kMeth1 C m f dd a env Q E x s = if C' = C ∧ (fs.lookup m).isNone = true then (a env s).wp (kMeth2 f x dd Q E) E else False := by
  unfold kMeth1
  rw [h]
theorem w_fMeth {C m : Str} {f : Fn} {dd : List D} {o : Dn} {a : Da} : (fMeth C m f dd o a env st).wp Q E = (o env st).wp (kMeth1 C m f dd a env Q E) E := by
  unfold fMeth
  rw [wp_bind]
  congr
  funext x s
  unfold kMeth1
  cases insOf x s with
  | none => (first | rfl | exact wp_bad | exact wp_ok | exact wp_ex)
  | some p =>
    show R.wp (if p.1 = C ∧ (p.2.lookup m).isNone = true then (a env s).bind fun ds s2 => f (x :: (ds ++ dd)) s2 else .bad) Q E = if p.1 = C ∧ (p.2.lookup m).isNone = true then (a env s).wp (kMeth2 f x dd Q E) E else False
    rw [wp_ite, wp_bind, wp_bad]
    rfl
def kProp1 (C : Str) (f : Fn) (Q : D → Store → Prop) (x : D) (s : Store) : Prop := match insOf x s with
  | some (C', _) => if C' = C then (f [x] s).wp Q nE else False
  | none => False
theorem kProp1_of {C : Str} {f : Fn} {x : D} {C' : Str} {fs : List (Str × D)} (h : insOf x s = some (C', fs)) : kProp1 C f Q x s = if C' = C then (f [x] s).wp Q nE else False := by
  unfold kProp1
  rw [h]
theorem w_fProp {C : Str} {f : Fn} {o : Dn} : (fProp C f o env st).wp Q E = (o env st).wp (kProp1 C f Q) E := by
  unfold fProp
  rw [wp_bind]
  congr
  funext x s
  unfold kProp1
  cases insOf x s with
  | none => (first | rfl | exact wp_bad | exact wp_ok | exact wp_ex)
  | some p =>
    show R.wp (if p.1 = C then (f [x] s).quiet else .bad) Q E = if p.1 = C then (f [x] s).wp Q nE else False
    rw [wp_ite, wp_quiet, wp_bad]
def kLenO2 (Q : D → Store → Prop) (x : D) (s : Store) : Prop := match x with
  | .int n => if 0 ≤ n ∧ n < 2 ^ 63 then Q (.int n) s else False
  | _ => False
theorem kLenO2_int {n : Int} : kLenO2 Q (.int n) s = if 0 ≤ n ∧ n < 2 ^ 63 then Q (.int n) s else False := rfl
def kLenO1 (C : Str) (f : Fn) (Q : D → Store → Prop) (x : D) (s : Store) : Prop := match insOf x s with
  | some (C', _) => if C' = C then (f [x] s).wp (kLenO2 Q) nE else False
  | none => False
theorem kLenO1_of {C : Str} {f : Fn} {x : D} {C' : Str} {fs : List (Str × D)} (h : insOf x s = some (C', fs)) : kLenO1 C f Q x s = if C' = C then (f [x] s).wp (kLenO2 Q) nE else False := by
  unfold kLenO1
  rw [h]
theorem w_fLenO {C : Str} {f : Fn} {o : Dn} : (fLenO C f o env st).wp Q E = (o env st).wp (kLenO1 C f Q) E := by
  unfold fLenO
  rw [wp_bind]
  congr
  funext x s
  unfold kLenO1
  cases insOf x s with
  | none => (first | rfl | exact wp_bad | exact wp_ok | exact wp_ex)
  | some p =>
    show R.wp (if p.1 = C then (f [x] s).quiet.bind asLen else .bad) Q E = if p.1 = C then (f [x] s).wp (kLenO2 Q) nE else False
    rw [wp_ite, wp_bind, wp_bad]
    rw [wp_quiet]
    congr 1
    cases f [x] s with
    | ok d s1 =>
      rw [wp_ok, wp_ok]
      cases d with
      | int n =>
        show R.wp (if 0 ≤ n ∧ n < 2 ^ 63 then .ok (.int n) s1 else .bad) Q E = _
        rw [wp_ite]
        simp only [wp_ok, wp_bad]
        rfl
      | _ => exact wp_bad
    | ex C fs s1 => rw [wp_ex, wp_ex]
    | bad => rw [wp_bad, wp_bad]
def kFmt1 (Q : D → Store → Prop) (x : D) (s : Store) : Prop := match x with
  | .str y => if y.length ≤ sizeLine then Q (.str y) s else False
  | .int i => if i.natAbs.log2 < 1920 then Q (.str (toString i)) s else False
  | _ => False
theorem kFmt1_str {y : Str} : kFmt1 Q (.str y) s = if y.length ≤ sizeLine then Q (.str y) s else False := rfl
theorem kFmt1_int {y : Int} : kFmt1 Q (.int y) s = if y.natAbs.log2 < 1920 then Q (.str (toString y)) s else False := rfl
theorem w_fFmt {a : Dn} : (fFmt a env st).wp Q E = (a env st).wp (kFmt1 Q) E := by
  unfold fFmt
  rw [wp_bind]
  congr
  funext x s
  cases x with
  | str y =>
    show R.wp (if y.length ≤ sizeLine then .ok (.str y) s else .bad) Q E = _
    rw [wp_ite]
    simp only [wp_ok, wp_bad]
    rfl
  | int i =>
    show R.wp (if i.natAbs.log2 < 1920 then .ok (.str (toString i)) s else .bad) Q E = _
    rw [wp_ite]
    simp only [wp_ok, wp_bad]
    rfl
  | _ => (first | rfl | exact wp_bad | exact wp_ok | exact wp_ex)
def kJs1 (fs : List Dn) (acc : Str) (env : Env') (Q : D → Store → Prop) (E : Str → List (Str × D) → Store → Prop) (x : D) (s : Store) : Prop := match x with
  | .str y => if (acc ++ y).length ≤ sizeLine then (fJs fs (acc ++ y) env s).wp Q E else False
  | _ => False
theorem kJs1_str {fs : List Dn} {acc y : Str} : kJs1 fs acc env Q E (.str y) s = if (acc ++ y).length ≤ sizeLine then (fJs fs (acc ++ y) env s).wp Q E else False := rfl
theorem w_fJsN {acc : Str} : (fJs [] acc env st).wp Q E = Q (.str acc) st := wp_ok
theorem w_fJs {f : Dn} {fs : List Dn} {acc : Str} : (fJs (f :: fs) acc env st).wp Q E = (f env st).wp (kJs1 fs acc env Q E) E := by
  rw [show fJs (f :: fs) acc env st = (f env st).bind fun x s => match x with
    | .str y => if (acc ++ y).length ≤ sizeLine then fJs fs (acc ++ y) env s else .bad
    | _ => .bad from rfl, wp_bind]
  congr
  funext x s
  cases x with
  | str y =>
    show R.wp (if (acc ++ y).length ≤ sizeLine then fJs fs (acc ++ y) env s else .bad) Q E = _
    rw [wp_ite, wp_bad]
    rfl
  | _ => (first | rfl | exact wp_bad | exact wp_ok | exact wp_ex)
/-! statements, the rest named -/
def kThen (b : Ds) (k : Ks) (e : Env') (s : Store) : Prop := (b e s).wp k
theorem o_seq {a b : Ds} : (fSeq a b env st).wp k = (a env st).wp ⟨kThen b k, k.rt, k.bk, k.ct, k.ex⟩ := owp_seq
def kNx (k : Ks) (env : Env') (d : D) (s : Store) : Prop := k.nx env s
def kExE (k : Ks) (env : Env') (C : Str) (fs : List (Str × D)) (s : Store) : Prop := k.ex C fs env s
theorem o_expr {x : Dn} : (fExpr x env st).wp k = (x env st).wp (kNx k env) (kExE k env) := owp_expr
theorem o_ret {x : Dn} : (fRet x env st).wp k = (x env st).wp k.rt (kExE k env) := owp_ret
def kSet (i : Nat) (k : Ks) (env : Env') (d : D) (s : Store) : Prop := k.nx (env.set i (.val d)) s
theorem o_set {i : Nat} {x : Dn} : (fSet i x env st).wp k = (x env st).wp (kSet i k env) (kExE k env) := owp_set
def kIf (a b : Ds) (k : Ks) (env : Env') (c : Bool) (s : Store) : Prop := if c = true then (a env s).wp k else (b env s).wp k
theorem o_if {t : Dt} {a b : Ds} : (fIf t a b env st).wp k = (t env st).wp (kIf a b k env) (kExE k env) := owp_if
def kAsg' (k : Ks) (s : Store) (o : Option Env') : Prop := match o with
  | some e => k.nx e s
  | none => False
theorem kAsg'_some {e : Env'} : kAsg' k s (some e) = k.nx e s := rfl
def kAsg (g : D → Env' → Option Env') (k : Ks) (env : Env') (d : D) (s : Store) : Prop := kAsg' k s (g d env)
theorem o_asg {x : Dn} {g : D → Env' → Option Env'} : (fAsg x g env st).wp k = (x env st).wp (kAsg g k env) (kExE k env) := owp_asg
def kPar (i j : Nat) (k : Ks) (env : Env') (ds : List D) (s : Store) : Prop := match ds with
  | [x, y] => k.nx ((env.set i (.val x)).set j (.val y)) s
  | _ => False
theorem kPar_two {i j : Nat} {x y : D} : kPar i j k env [x, y] s = k.nx ((env.set i (.val x)).set j (.val y)) s := rfl
theorem o_par {i j : Nat} {f : Da} : (fPar i j f env st).wp k = (f env st).wp (kPar i j k env) (kExE k env) := owp_par
def kRaise (C : Str) (names : List Str) (k : Ks) (env : Env') (xs : List D) (s : Store) : Prop := xs.length = names.length ∧ k.ex C (names.zip xs).reverse env s
theorem o_raise {C : Str} {names : List Str} {f : Da} : (fRaise C names f env st).wp k = (f env st).wp (kRaise C names k env) (kExE k env) := owp_raise
def kSetN (i : Nat) (k : Ks) (env : Env') (d : SO) (s : Store) : Prop := k.nx (env.set i (.own d)) s
theorem o_setN {i : Nat} {f : Df} : (fSetN i f env st).wp k = (f env st).wp (kSetN i k env) (kExE k env) := owp_setN
def kOwnM' (i : Nat) (k : Ks) (env : Env') (s : Store) (o : Option (D × List D)) : Prop := match o with
  | some (_, ys) => k.nx (env.set i (.own (.lst ys))) s
  | none => False
theorem kOwnM'_some {i : Nat} {d : D} {ys : List D} : kOwnM' i k env s (some (d, ys)) = k.nx (env.set i (.own (.lst ys))) s := rfl
def kOwnM (i : Nat) (g : LM) (xs : List D) (k : Ks) (env : Env') (ds : List D) (s : Store) : Prop := kOwnM' i k env s (g xs ds)
theorem o_ownM {i : Nat} {g : LM} {f : Da} {xs : List D} (h : env[i]? = some (.own (.lst xs))) : (fOwnM i g f env st).wp k = (f env st).wp (kOwnM i g xs k env) (kExE k env) := owp_ownM h
def kTry (i : Nat) (hs : List Hd) (k : Ks) (C : Str) (fs : List (Str × D)) (env : Env') (s : Store) : Prop := (fHandle i hs C fs env s).wp k
theorem o_try {i : Nat} {a : Ds} {hs : List Hd} : (fTry i a hs env st).wp k = (a env st).wp ⟨k.nx, k.rt, k.bk, k.ct, kTry i hs k⟩ := owp_try
def kFor (tg : D → Env' → Option Env') (b : Ds) (k : Ks) (env : Env') (xs : List D) (s : Store) : Prop := (fTurns tg b xs env s).wp k
theorem o_for {b : Ds} {it : Da} {tg : D → Env' → Option Env'} : (fFor it tg b env st).wp k = (it env st).wp (kFor tg b k env) (kExE k env) := owp_for
def kForL (tg : D → Env' → Option Env') (b : Ds) (k : Ks) (env : Env') (p : List D × Lv) (s : Store) : Prop := (fTurnsL tg b p.2 p.1 env s).wp k
theorem o_forL {b : Ds} {it : Dl} {tg : D → Env' → Option Env'} : (fForL it tg b env st).wp k = (it env st).wp (kForL tg b k env) (kExE k env) := owp_forL
def kFnN (Q : D → Store → Prop) (e : Env') (s : Store) : Prop := Q .non s
def kF2 (e : Env') (s : Store) : Prop := False
def kFnE (E : Str → List (Str × D) → Store → Prop) (C : Str) (fs : List (Str × D)) (e : Env') (s : Store) : Prop := E C fs s
theorem o_fnB {n : Nat} {F : Ds} {ds : List D} : (fnB n F ds st).wp Q E = (F (startE n ds) st).wp ⟨kFnN Q, Q, kF2, kF2, kFnE E⟩ := wp_fnB
def kF3 (d : D) (s : Store) : Prop := False
def kSelf' (f : Str) (Cs : List Str) (k : Ks) (env : Env') (i : Nat) (C : Str) (fs : List (Str × D)) (d : D) (s : Store) : Prop := if C ∈ Cs ∧ fs.length < 1000 then k.nx (env.set i (.own (.ins C (putD f d fs)))) s else False
theorem o_selfPut {i : Nat} {x : Dn} {f : Str} {Cs : List Str} {C : Str} {fs : List (Str × D)} (h : env[i]? = some (.own (.ins C fs))) : (fSelfPut i f Cs x env st).wp k = (x env st).wp (kSelf' f Cs k env i C fs) (kExE k env) := owp_selfPut h
theorem o_fnI {C : Str} {n : Nat} {F : Ds} {ds : List D} {Q : SO → Store → Prop} : (fnI C n F ds st).wp Q E = (F (startI C n ds) st).wp ⟨ownK Q, kF3, kF2, kF2, kFnE E⟩ := wp_fnI
def kComp2 (Q : D → Store → Prop) (ys : List D) (s : Store) : Prop := Q (.lst ys) s
def kComp1 (g : D → Env' → Option Env') (c : Dt) (elt : Dn) (vs : List Nat) (env : Env') (Q : D → Store → Prop) (E : Str → List (Str × D) → Store → Prop) (items : List D) (s : Store) : Prop := if items.length < sizeLine then (fCompT g c elt (wipeE env vs) items s).wp (kComp2 Q) E else False
theorem w_fComp {it : Da} {g : D → Env' → Option Env'} {c : Dt} {elt : Dn} {vs : List Nat} : (fComp it g c elt vs env st).wp Q E = (it env st).wp (kComp1 g c elt vs env Q E) E := wp_comp
/-- a tuple's parts go to their slots -/
theorem gN_eq {i : Nat} {d : D} : gN i d env = some (env.set i (.val d)) := rfl
def oBind (o : Option Env') (f : Env' → Option Env') : Option Env' := match o with | some e => f e | none => none
theorem oBind_some {e : Env'} {f : Env' → Option Env'} : oBind (some e) f = f e := rfl
theorem gNil_eq : gNil [] env = some env := rfl
theorem gCons_eq {g : D → Env' → Option Env'} {r : List D → Env' → Option Env'} {d : D} {ds : List D} : gCons g r (d :: ds) env = oBind (g d env) (r ds) := by
  unfold gCons oBind
  show (match g d env with | some e => r ds e | none => none) = _
  cases g d env <;> rfl
theorem gTup_eq {n : Nat} {r : List D → Env' → Option Env'} {ds : List D} : gTup n r (.tup ds) env = if ds.length = n then r ds env else none := rfl
end
theorem natAbs_lit (n : Nat) : Int.natAbs (no_index (@OfNat.ofNat Int n instOfNat)) = n := rfl
section
variable {a c d : Env' → Store → Prop} {b : D → Store → Prop} {e : Str → List (Str × D) → Env' → Store → Prop}
theorem ks_nx : (Ks.mk a b c d e).nx = a := rfl
theorem ks_rt : (Ks.mk a b c d e).rt = b := rfl
theorem ks_bk : (Ks.mk a b c d e).bk = c := rfl
theorem ks_ct : (Ks.mk a b c d e).ct = d := rfl
theorem ks_ex : (Ks.mk a b c d e).ex = e := rfl
end
theorem le_size {n : Nat} (h : n ≤ 100000) : (n ≤ sizeLine) = True := eq_true (by rw [sizeLine_eq]; omega)
/-! slots that own something -/
section
variable {k : Ks} {s st : Store} {env : Env'} {Q : D → Store → Prop} {E : Str → List (Str × D) → Store → Prop}
def kOwnA (i : Nat) (g : LM) (f : Da) (k : Ks) (env : Env') (st : Store) (o : Option Sl) : Prop := match o with
  | some (.own (.lst xs)) => (f env st).wp (kOwnM i g xs k env) (kExE k env)
  | _ => False
theorem kOwnA_own {i : Nat} {g : LM} {f : Da} {xs : List D} : kOwnA i g f k env st (some (.own (.lst xs))) = (f env st).wp (kOwnM i g xs k env) (kExE k env) := rfl
theorem o_ownMA {i : Nat} {g : LM} {f : Da} : (fOwnM i g f env st).wp k = kOwnA i g f k env st (env[i]?) := by
  cases h : env[i]? with
  | none =>
    unfold fOwnM
    rw [h]
    exact owp_bad
  | some x =>
    cases x with
    | own o =>
      cases o with
      | lst xs => exact o_ownM h
      | _ =>
        unfold fOwnM
        rw [h]
        exact owp_bad
    | _ =>
      unfold fOwnM
      rw [h]
      exact owp_bad
def kPutO3 (n : Nat) (xs : List D) (d : D) (k : Ks) (env : Env') (s : Store) (o : Option Nat) : Prop := match o with
  | some m => k.nx (env.set n (.own (.lst (xs.set m d)))) s
  | none => False
theorem kPutO3_some {n m : Nat} {xs : List D} {d : D} : kPutO3 n xs d k env s (some m) = k.nx (env.set n (.own (.lst (xs.set m d)))) s := rfl
def kPutO2 (n : Nat) (xs : List D) (d : D) (k : Ks) (env : Env') (z : D) (s : Store) : Prop := match z with
  | .int j => kPutO3 n xs d k env s (ixN xs.length j)
  | _ => False
theorem kPutO2_int {n : Nat} {xs : List D} {d : D} {j : Int} : kPutO2 n xs d k env (.int j) s = kPutO3 n xs d k env s (ixN xs.length j) := rfl
def kPutO1 (n : Nat) (xs : List D) (i : Dn) (k : Ks) (env : Env') (d : D) (s : Store) : Prop := (i env s).wp (kPutO2 n xs d k env) (kExE k env)
def kPutO0 (n : Nat) (i x : Dn) (k : Ks) (env : Env') (st : Store) (o : Option Sl) : Prop := match o with
  | some (.own (.lst xs)) => (x env st).wp (kPutO1 n xs i k env) (kExE k env)
  | _ => False
theorem kPutO0_own {n : Nat} {i x : Dn} {xs : List D} : kPutO0 n i x k env st (some (.own (.lst xs))) = (x env st).wp (kPutO1 n xs i k env) (kExE k env) := rfl
theorem o_putOwnA {n : Nat} {i x : Dn} : (fPutOwn n i x env st).wp k = kPutO0 n i x k env st (env[n]?) := by
  cases h : env[n]? with
  | none =>
    unfold fPutOwn
    rw [h]
    exact owp_bad
  | some y =>
    cases y with
    | own o =>
      cases o with
      | lst xs =>
        rw [owp_putOwn h, kPutO0_own]
        congr
      | _ =>
        unfold fPutOwn
        rw [h]
        exact owp_bad
    | _ =>
      unfold fPutOwn
      rw [h]
      exact owp_bad
def kFrz0 (i : Nat) (f : Ds) (k : Ks) (env : Env') (st : Store) (o : Option Sl) : Prop := match o with
  | some (.own so) => (f (env.set i (.val (soD so))) st).wp k
  | _ => (f env st).wp k
theorem kFrz0_own {i : Nat} {f : Ds} {so : SO} : kFrz0 i f k env st (some (.own so)) = (f (env.set i (.val (soD so))) st).wp k := rfl
theorem kFrz0_val {i : Nat} {f : Ds} {d : D} : kFrz0 i f k env st (some (.val d)) = (f env st).wp k := rfl
theorem kFrz0_no {i : Nat} {f : Ds} : kFrz0 i f k env st (some .no) = (f env st).wp k := rfl
theorem o_frzSA {i : Nat} {f : Ds} : (fFrzS i f env st).wp k = kFrz0 i f k env st (env[i]?) := by
  unfold fFrzS kFrz0
  cases env[i]? with
  | none => rfl
  | some x => cases x <;> rfl
def kSelfA (f : Str) (Cs : List Str) (x : Dn) (k : Ks) (env : Env') (i : Nat) (st : Store) (o : Option Sl) : Prop := match o with
  | some (.own (.ins C fs)) => (x env st).wp (kSelf' f Cs k env i C fs) (kExE k env)
  | _ => False
theorem kSelfA_own {f : Str} {Cs : List Str} {x : Dn} {i : Nat} {C : Str} {fs : List (Str × D)} : kSelfA f Cs x k env i st (some (.own (.ins C fs))) = (x env st).wp (kSelf' f Cs k env i C fs) (kExE k env) := rfl
theorem o_selfPutA {i : Nat} {x : Dn} {f : Str} {Cs : List Str} : (fSelfPut i f Cs x env st).wp k = kSelfA f Cs x k env i st (env[i]?) := by
  cases h : env[i]? with
  | none =>
    unfold fSelfPut
    rw [h]
    exact owp_bad
  | some y =>
    cases y with
    | own o =>
      cases o with
      | ins C fs => exact o_selfPut h
      | _ =>
        unfold fSelfPut
        rw [h]
        exact owp_bad
    | _ =>
      unfold fSelfPut
      rw [h]
      exact owp_bad
def kLook (Q : D → Store → Prop) (s : Store) (o : Option D) : Prop := match o with
  | some d => Q d s
  | none => False
theorem kLook_some {d : D} : kLook Q s (some d) = Q d s := rfl
def kSelfG (f : Str) (Cs : List Str) (Q : D → Store → Prop) (s : Store) (o : Option Sl) : Prop := match o with
  | some (.own (.ins C fs)) => if C ∈ Cs then kLook Q s (fs.lookup f) else False
  | _ => False
theorem kSelfG_own {f : Str} {Cs : List Str} {C : Str} {fs : List (Str × D)} : kSelfG f Cs Q s (some (.own (.ins C fs))) = if C ∈ Cs then kLook Q s (fs.lookup f) else False := rfl
theorem w_fSelf {i : Nat} {f : Str} {Cs : List Str} : (fSelf i f Cs env st).wp Q E = kSelfG f Cs Q st (env[i]?) := by
  unfold fSelf kSelfG
  cases env[i]? with
  | none => exact wp_bad
  | some x =>
    cases x with
    | own o =>
      cases o with
      | ins C fs =>
        show R.wp (if C ∈ Cs then (match fs.lookup f with | some d => .ok d st | none => .bad) else .bad) Q E = if C ∈ Cs then kLook Q st (fs.lookup f) else False
        rw [wp_ite, wp_bad]
        congr 1
        unfold kLook
        cases fs.lookup f <;> first | exact wp_ok | exact wp_bad
      | _ => exact wp_bad
    | _ => exact wp_bad
def kLenOwn (Q : D → Store → Prop) (s : Store) (o : Option Sl) : Prop := match o with
  | some (.own (.lst ys)) => Q (.int ys.length) s
  | _ => False
theorem kLenOwn_own {ys : List D} : kLenOwn Q s (some (.own (.lst ys))) = Q (.int ys.length) s := rfl
theorem w_fLenOwn {i : Nat} : (fLenOwn i env st).wp Q E = kLenOwn Q st (env[i]?) := by
  unfold fLenOwn kLenOwn
  cases env[i]? with
  | none => exact wp_bad
  | some x =>
    cases x with
    | own o => cases o <;> first | exact wp_ok | exact wp_bad
    | _ => exact wp_bad
def inOwnD (k : Bool) (ys : List D) (x : D) (s : Store) : R D := match toPy x, toPys ys with
  | some p, some ps => if p.depth ≤ 60 then .ok (.bl ((ps.any fun z => PyData.eqv z p) != k)) s else .bad
  | _, _ => .bad
def kInOwn2 (k : Bool) (Q : D → Store → Prop) (E : Str → List (Str × D) → Store → Prop) (x : D) (s : Store) (o : Option Sl) : Prop := match o with
  | some (.own (.lst ys)) => (inOwnD k ys x s).wp Q E
  | _ => False
theorem kInOwn2_own {c : Bool} {ys : List D} {x : D} : kInOwn2 c Q E x s (some (.own (.lst ys))) = (inOwnD c ys x s).wp Q E := rfl
def kInOwn1 (c : Bool) (i : Nat) (env : Env') (Q : D → Store → Prop) (E : Str → List (Str × D) → Store → Prop) (x : D) (s : Store) : Prop := kInOwn2 c Q E x s (env[i]?)
theorem w_fInOwn {c : Bool} {i : Nat} {a : Dn} : (fInOwn c i a env st).wp Q E = (a env st).wp (kInOwn1 c i env Q E) E := by
  unfold fInOwn
  rw [wp_bind]
  congr
  funext x s
  unfold kInOwn1 kInOwn2
  cases env[i]? with
  | none => exact wp_bad
  | some y =>
    cases y with
    | own o => cases o <;> first | rfl | exact wp_bad
    | _ => exact wp_bad
def kErr1 (f : Str) (Cs : List Str) (Q : D → Store → Prop) (s : Store) (o : Option Sl) : Prop := match o with
  | some (.err C fs) => if C ∈ Cs then kLook Q s (fs.lookup f) else False
  | _ => False
theorem kErr1_err {f : Str} {Cs : List Str} {C : Str} {fs : List (Str × D)} : kErr1 f Cs Q s (some (.err C fs)) = if C ∈ Cs then kLook Q s (fs.lookup f) else False := rfl
theorem w_fErr {i : Nat} {f : Str} {Cs : List Str} : (fErr i f Cs env st).wp Q E = kErr1 f Cs Q st (env[i]?) := by
  unfold fErr kErr1
  cases env[i]? with
  | none => exact wp_bad
  | some x =>
    cases x with
    | err C fs =>
      show R.wp (if C ∈ Cs then (match fs.lookup f with | some d => .ok d st | none => .bad) else .bad) Q E = if C ∈ Cs then kLook Q st (fs.lookup f) else False
      rw [wp_ite, wp_bad]
      congr 1
      unfold kLook
      cases fs.lookup f <;> first | exact wp_ok | exact wp_bad
    | _ => exact wp_bad
def kOr3 (Q : D → Store → Prop) (s : Store) (o : Option Bool) : Prop := match o with
  | some b => Q (.bl b) s
  | none => False
theorem kOr3_some {b : Bool} : kOr3 Q s (some b) = Q (.bl b) s := rfl
def kErrIs1 (m : Str → Option Bool) (Q : D → Store → Prop) (s : Store) (o : Option Sl) : Prop := match o with
  | some (.err C fs) => if fs.isEmpty = true then False else kOr3 Q s (m C)
  | _ => False
theorem kErrIs1_err {m : Str → Option Bool} {C : Str} {fs : List (Str × D)} : kErrIs1 m Q s (some (.err C fs)) = if fs.isEmpty = true then False else kOr3 Q s (m C) := rfl
theorem w_fErrIs {i : Nat} {m : Str → Option Bool} : (fErrIs i m env st).wp Q E = kErrIs1 m Q st (env[i]?) := by
  unfold fErrIs kErrIs1
  cases env[i]? with
  | none => exact wp_bad
  | some x =>
    cases x with
    | err C fs =>
      show R.wp (if fs.isEmpty = true then .bad else (match m C with | some b => .ok (.bl b) st | none => .bad)) Q E = if fs.isEmpty = true then False else kOr3 Q st (m C)
      rw [wp_ite, wp_bad]
      congr 1
      unfold kOr3
      cases m C <;> first | exact wp_ok | exact wp_bad
    | _ => exact wp_bad
/-! a try's handlers -/
def kHd (i : Nat) (k : Ks) : Ks := ⟨fun e s => k.nx ((clrE e).set i .no) s, k.rt, fun e s => k.bk ((clrE e).set i .no) s, fun e s => k.ct ((clrE e).set i .no) s, fun _ _ _ _ => False⟩
def kHdN (i : Nat) (f : Env' → Store → Prop) (e : Env') (s : Store) : Prop := f ((clrE e).set i .no) s
def kF5 (C : Str) (fs : List (Str × D)) (e : Env') (s : Store) : Prop := False
def kHand (i : Nat) (h : Ds) (r : List Hd) (C : Str) (fs : List (Str × D)) (env : Env') (st : Store) (k : Ks) (o : Option Bool) : Prop := match o with
  | some true => (h ((clrE env).set i (.err C fs)) st).wp ⟨kHdN i k.nx, k.rt, kHdN i k.bk, kHdN i k.ct, kF5⟩
  | some false => (fHandle i r C fs env st).wp k
  | none => False
theorem kHand_true {i : Nat} {h : Ds} {r : List Hd} {C : Str} {fs : List (Str × D)} : kHand i h r C fs env st k (some true) = (h ((clrE env).set i (.err C fs)) st).wp ⟨kHdN i k.nx, k.rt, kHdN i k.bk, kHdN i k.ct, kF5⟩ := rfl
theorem kHand_false {i : Nat} {h : Ds} {r : List Hd} {C : Str} {fs : List (Str × D)} : kHand i h r C fs env st k (some false) = (fHandle i r C fs env st).wp k := rfl
theorem o_handN {i : Nat} {C : Str} {fs : List (Str × D)} : (fHandle i [] C fs env st).wp k = k.ex C fs env st := owp_ex
theorem o_hand {i : Nat} {m : Str → Option Bool} {h : Ds} {r : List Hd} {C : Str} {fs : List (Str × D)} : (fHandle i ((m, h) :: r) C fs env st).wp k = kHand i h r C fs env st k (m C) := by
  rw [show fHandle i ((m, h) :: r) C fs env st = (match m C with
    | some true => (match h ((clrE env).set i (.err C fs)) st with
      | .nx e s => .nx ((clrE e).set i .no) s
      | .rt d s => .rt d s
      | .bk e s => .bk ((clrE e).set i .no) s
      | .ct e s => .ct ((clrE e).set i .no) s
      | _ => .bad)
    | some false => fHandle i r C fs env st
    | none => .bad) from rfl]
  cases m C with
  | none => exact owp_bad
  | some b =>
    cases b with
    | false => rfl
    | true =>
      rw [kHand_true]
      show Out.wp (match h ((clrE env).set i (.err C fs)) st with
        | .nx e s => .nx ((clrE e).set i .no) s
        | .rt d s => .rt d s
        | .bk e s => .bk ((clrE e).set i .no) s
        | .ct e s => .ct ((clrE e).set i .no) s
        | _ => .bad) k = _
      cases h ((clrE env).set i (.err C fs)) st with
      | nx e s => rw [owp_nx, owp_nx]; rfl
      | rt d s => rw [owp_rt, owp_rt]
      | bk e s => rw [owp_bk, owp_bk]; rfl
      | ct e s => rw [owp_ct, owp_ct]; rfl
      | ex C fs e s => rw [owp_bad, owp_ex]; rfl
      | bad => rw [owp_bad, owp_bad]
end
theorem isNon_non : isNon .non = true := rfl
theorem isNon_bl {b : Bool} : isNon (.bl b) = false := rfl
theorem isNon_int {b : Int} : isNon (.int b) = false := rfl
theorem isNon_str {b : Str} : isNon (.str b) = false := rfl
theorem isNon_lst {b : List D} : isNon (.lst b) = false := rfl
theorem isNon_tup {b : List D} : isNon (.tup b) = false := rfl
theorem isNon_dct {b : List (D × D)} : isNon (.dct b) = false := rfl
theorem isNon_ref {b : Nat} : isNon (.ref b) = false := rfl
theorem isNon_ins {C : Str} {b : List (Str × D)} : isNon (.ins C b) = false := rfl

end Dv

/-! PvS: functions over data that many laws have in common (printed by dvgen.py). -/
namespace Dv.Sh
open PySem PySem.Spec PyProof.Rows L2 Cv Dv
noncomputable def F_is_integer : Ds :=
    (fRet (fAndV (fUn (dIs ["int"]) (fVar 0)) (fNotV (fUn (dIs ["bool"]) (fVar 0)))))
noncomputable def fn_is_integer : Fn := fnB 1 F_is_integer
noncomputable def F_is_name : Ds :=
    (fSeq (fIf (fOr (fNot (fT (fUn (dIs ["str"]) (fVar 0)))) (fOr (fNot (fT (fChain (dCmp fun i j => decide (i ≤ j)) (dCmp fun i j => decide (i ≤ j)) (fC (.int 1)) (fCall dLen (fCons (fVar 0) fNil)) (fC (.int 8))))) (fT (fOp (dIn false) (fVar 0) (fC (.tup [(.str "not"), (.str "by")]))))))
    (fRet (fC (.bl false)))
    fSkip)
    (fRet (fCall dAll (fCons (fComp (fIt (fVar 0)) (gN 1) fYes (fOp (dIn false) (fVar 1) (fC (.str "abcdefghijklmnopqrstuvwxyz"))) [1]) fNil))))
noncomputable def fn_is_name : Fn := fnB 2 F_is_name
noncomputable def F_is_term : Ds :=
    (fRet (fOrV (fCallD fn_is_name [] (fCons (fVar 0) fNil)) (fAndV (fCallD fn_is_integer [] (fCons (fVar 0) fNil)) (fChain (dCmp fun i j => decide (i ≤ j)) (dCmp fun i j => decide (i ≤ j)) (fC (.int 0)) (fVar 0) (fC (.int 1023))))))
noncomputable def fn_is_term : Fn := fnB 1 F_is_term
noncomputable def F_are_terms : Ds :=
    (fRet (fAndV (fUn (dIs ["tuple"]) (fVar 0)) (fAndV (fChain (dCmp fun i j => decide (i ≤ j)) (dCmp fun i j => decide (i ≤ j)) (fC (.int 1)) (fCall dLen (fCons (fVar 0) fNil)) (fC (.int 4))) (fCall dAll (fCons (fComp (fIt (fVar 0)) (gN 1) fYes (fCallD fn_is_term [] (fCons (fVar 1) fNil)) [1]) fNil)))))
noncomputable def fn_are_terms : Fn := fnB 2 F_are_terms
noncomputable def F_is_literal : Ds :=
    (fSeq (fIf (fOr (fNot (fT (fUn (dIs ["tuple"]) (fVar 0)))) (fOr (fT (fOp (dEq true) (fCall dLen (fCons (fVar 0) fNil)) (fC (.int 3)))) (fNot (fT (fUn (dIs ["str"]) (fOp dIx (fVar 0) (fC (.int 0))))))))
    (fRet (fC (.bl false)))
    fSkip)
    (fSeq (fAsg (fVar 0) (gTup 3 (gCons (gN 1) (gCons (gN 2) (gCons (gN 3) gNil)))))
    (fSeq (fIf (fT (fOp (dIn false) (fVar 1) (fTup (fCons (fC (.str "row")) (fCons (fC (.str "none")) fNil)))))
    (fRet (fAndV (fCallD fn_is_name [] (fCons (fVar 2) fNil)) (fCallD fn_are_terms [] (fCons (fVar 3) fNil))))
    fSkip)
    (fRet (fAndV (fOp (dIn false) (fVar 1) (fC (.tup [(.str "<"), (.str "<="), (.str "="), (.str "!=")]))) (fAndV (fCallD fn_is_term [] (fCons (fVar 2) fNil)) (fAndV (fCallD fn_is_term [] (fCons (fVar 3) fNil)) (fOrV (fUn (dIs ["str"]) (fVar 2)) (fUn (dIs ["str"]) (fVar 3))))))))))
noncomputable def fn_is_literal : Fn := fnB 4 F_is_literal
noncomputable def F_is_comparison : Ds :=
    (fRet (fOp (dIn false) (fOp dIx (fVar 0) (fC (.int 0))) (fC (.tup [(.str "<"), (.str "<="), (.str "="), (.str "!=")]))))
noncomputable def fn_is_comparison : Fn := fnB 1 F_is_comparison
noncomputable def F_terms_of : Ds :=
    (fRet (fIte (fT (fCallD fn_is_comparison [] (fCons (fVar 0) fNil))) (fSl (fVar 0) (fSome (fC (.int 1))) fNone) (fOp dIx (fVar 0) (fC (.int 2)))))
noncomputable def fn_terms_of : Fn := fnB 1 F_terms_of
noncomputable def F_variables_in : Ds :=
    (fSeq (fSetN 1 (fLstN fNil))
    (fSeq (fForL (fItL (fVar 0)) (gN 2)
    (fFor (fIt (fCallD fn_terms_of [] (fCons (fVar 2) fNil))) (gN 3)
    (fIf (fAnd (fT (fUn (dIs ["str"]) (fVar 3))) (fT (fInOwn true 1 (fVar 3))))
    (fOwnM 1 lAppend (fCons (fVar 3) fNil))
    fSkip)))
    (fFrzS 1 (fRet (fVar 1)))))
noncomputable def fn_variables_in : Fn := fnB 4 F_variables_in
noncomputable def F_require_literals : Ds :=
    (fSeq (fIf (fOr (fNot (fT (fUn (dIs ["list", "tuple"]) (fVar 0)))) (fNot (fT (fChain (dCmp fun i j => decide (i ≤ j)) (dCmp fun i j => decide (i ≤ j)) (fC (.int 1)) (fCall dLen (fCons (fVar 0) fNil)) (fC (.int 8))))))
    (fRaise "InvalidQuery" ["problem", "position"] (fCons (fC (.str "literals")) (fCons (fUn dNeg (fC (.int 1))) fNil)))
    fSkip)
    (fForL (fEnumL (fVar 0)) (gTup 2 (gCons (gN 1) (gCons (gN 2) gNil)))
    (fIf (fNot (fT (fCallD fn_is_literal [] (fCons (fVar 2) fNil))))
    (fRaise "InvalidQuery" ["problem", "position"] (fCons (fC (.str "literal")) (fCons (fVar 1) fNil)))
    fSkip)))
noncomputable def fn_require_literals : Fn := fnB 3 F_require_literals
noncomputable def F_is_order : Ds :=
    (fRet (fAndV (fUn (dIs ["tuple"]) (fVar 0)) (fAndV (fOp (dEq false) (fCall dLen (fCons (fVar 0) fNil)) (fCall dLen (fCons (fVar 1) fNil))) (fCall dAll (fCons (fComp (fIt (fVar 1)) (gN 2) fYes (fOp (dIn false) (fVar 2) (fVar 0)) [2]) fNil)))))
noncomputable def fn_is_order : Fn := fnB 3 F_is_order
noncomputable def F_literal_text : Ds :=
    (fSeq (fAsg (fVar 0) (gTup 3 (gCons (gN 1) (gCons (gN 2) (gCons (gN 3) gNil)))))
    (fSeq (fIf (fT (fCallD fn_is_comparison [] (fCons (fVar 0) fNil)))
    (fRet (fJs [(fFmt (fVar 2)), (fC (.str " ")), (fFmt (fVar 1)), (fC (.str " ")), (fFmt (fVar 3))] Str.empty))
    fSkip)
    (fSeq (fSet 4 (fOp dAdd (fOp dAdd (fOp dAdd (fVar 2) (fC (.str "("))) (fStrM dJoin (fC (.str ",")) (fCons (fComp (fIt (fVar 3)) (gN 5) fYes (fCall dStr (fCons (fVar 5) fNil)) [5]) fNil))) (fC (.str ")"))))
    (fRet (fIte (fT (fOp (dEq false) (fVar 1) (fC (.str "row")))) (fVar 4) (fOp dAdd (fOp dAdd (fC (.str "not")) (fC (.str " "))) (fVar 4)))))))
noncomputable def fn_literal_text : Fn := fnB 6 F_literal_text
noncomputable def F_query_text : Ds :=
    (fSeq (fSet 2 (fStrM dJoin (fC (.str ", ")) (fCons (fComp (fIt (fVar 0)) (gN 3) fYes (fCallD fn_literal_text [] (fCons (fVar 3) fNil)) [3]) fNil)))
    (fRet (fIte (fT (fOp (dEq false) (fCall dList (fCons (fVar 1) fNil)) (fCallD fn_variables_in [] (fCons (fVar 0) fNil)))) (fVar 2) (fOp dAdd (fOp dAdd (fVar 2) (fC (.str " by "))) (fStrM dJoin (fC (.str ",")) (fCons (fVar 1) fNil))))))
noncomputable def fn_query_text : Fn := fnB 4 F_query_text
noncomputable def F_Query___init__ : Ds :=
    (fSeq (fExpr (fCallD fn_require_literals [] (fCons (fVar 1) fNil)))
    (fSeq (fSet 3 (fCallD fn_variables_in [] (fCons (fVar 1) fNil)))
    (fSeq (fIf (fT (fOp (dCmp fun i j => decide (j < i)) (fCall dLen (fCons (fVar 3) fNil)) (fC (.int 5))))
    (fRaise "InvalidQuery" ["problem", "position"] (fCons (fC (.str "variables")) (fCons (fUn dNeg (fC (.int 1))) fNil)))
    fSkip)
    (fSeq (fIf (fAnd (fT (fOp (dIsN true) (fVar 2) (fC .non))) (fNot (fT (fCallD fn_is_order [] (fCons (fVar 2) (fCons (fVar 3) fNil))))))
    (fRaise "InvalidQuery" ["problem", "position"] (fCons (fC (.str "order")) (fCons (fUn dNeg (fC (.int 1))) fNil)))
    fSkip)
    (fSeq (fSelfPut 0 "own_literals" ["Query"] (fCall dList (fCons (fVar 1) fNil)))
    (fSeq (fSelfPut 0 "own_order" ["Query"] (fIte (fT (fOp (dIsN false) (fVar 2) (fC .non))) (fCall dTuple (fCons (fVar 3) fNil)) (fVar 2)))
    (fSelfPut 0 "own_text" ["Query"] (fCallD fn_query_text [] (fCons (fSelf 0 "own_literals" ["Query"]) (fCons (fSelf 0 "own_order" ["Query"]) fNil))))))))))
noncomputable def fi_Query : Fi := fnI "Query" 4 F_Query___init__
noncomputable def F_Query___len__ : Ds :=
    (fRet (fCall dLen (fCons (fUn (attrD "own_literals" ["Query"]) (fVar 0)) fNil)))
noncomputable def fn_Query___len__ : Fn := fnB 1 F_Query___len__
noncomputable def F_Query_literals : Ds :=
    (fRet (fCall dList (fCons (fUn (attrD "own_literals" ["Query"]) (fVar 0)) fNil)))
noncomputable def fn_Query_literals : Fn := fnB 1 F_Query_literals
noncomputable def F_Query_literals_r : Ds :=
    (fRet (fRef (fListN (fUn (attrD "own_literals" ["Query"]) (fVar 0)))))
noncomputable def fn_Query_literals_r : Fn := fnB 1 F_Query_literals_r
noncomputable def F_Query_variables : Ds :=
    (fRet (fUn (attrD "own_order" ["Query"]) (fVar 0)))
noncomputable def fn_Query_variables : Fn := fnB 1 F_Query_variables
noncomputable def F__law_pot : Ds :=
    (fSeq (fSet 2 (fIte (fT (fOp (dCmp fun i j => decide (i < j)) (fVar 1) (fCall dLen (fCons (fVar 0) fNil)))) (fCall dAbs (fCons (fOp dIx (fVar 0) (fVar 1)) fNil)) (fC (.int 0))))
    (fSeq (fSet 3 (fOp dAdd (fOp dMod (fCall dInt (fCons (fOp dPow (fOp dAdd (fOp dAdd (fOp dMod (fCall dInt (fCons (fVar 2) fNil)) (fC (.int 2147483587))) (fOp dMulT (fC (.int 6007)) (fVar 1))) (fC (.int 13))) (fC (.int 3))) fNil)) (fC (.int 2147483563))) (fC (.int 1))))
    (fRet (fRef (fLstN (fCons (fCall dMax2 (fCons (fC (.int 0)) (fCons (fOp dSub (fVar 2) (fOp dPow (fC (.int 10)) (fC (.int 18)))) fNil))) (fCons (fVar 3) fNil)))))))
noncomputable def fn__law_pot : Fn := fnB 4 F__law_pot
noncomputable def F__law_take : Ds :=
    (fSeq (fIf (fT (fOp (dCmp fun i j => decide (j < i)) (fOp dIx (fVar 0) (fC (.int 0))) (fC (.int 0))))
    (fSeq (fSet 2 (fOp dMod (fCall dInt (fCons (fOp dIx (fVar 0) (fC (.int 0))) fNil)) (fVar 1)))
    (fSeq (fPut (fVar 0) (fC (.int 0)) (fOp dFdiv (fOp dIx (fVar 0) (fC (.int 0))) (fVar 1)))
    (fRet (fVar 2))))
    fSkip)
    (fSeq (fPut (fVar 0) (fC (.int 1)) (fOp dMod (fCall dInt (fCons (fOp dAdd (fOp dMulT (fOp dIx (fVar 0) (fC (.int 1))) (fC (.int 48271))) (fC (.int 30011))) fNil)) (fC (.int 2147483629))))
    (fRet (fOp dMod (fCall dInt (fCons (fOp dFdiv (fOp dMod (fCall dInt (fCons (fOp dMulT (fOp dIx (fVar 0) (fC (.int 1))) (fOp dIx (fVar 0) (fC (.int 1)))) fNil)) (fC (.int 2147483587))) (fC (.int 7))) fNil)) (fVar 1)))))
noncomputable def fn__law_take : Fn := fnB 3 F__law_take
noncomputable def F__law_pick : Ds :=
    (fRet (fOp dIx (fVar 1) (fCallD fn__law_take [] (fCons (fVar 0) (fCons (fCall dLen (fCons (fVar 1) fNil)) fNil)))))
noncomputable def fn__law_pick : Fn := fnB 2 F__law_pick
noncomputable def F__law_word : Ds :=
    (fSeq (fSet 2 (fCallD fn__law_pick [] (fCons (fVar 0) (fCons (fLst (fCons (fC (.int 0)) (fCons (fC (.int 0)) (fCons (fC (.int 1)) (fCons (fC (.int 2)) (fCons (fC (.int 7)) fNil)))))) fNil))))
    (fRet (fOp dAdd (fVar 1) (fStrM dJoin (fC (.str "")) (fCons (fComp (fRng rng1Of (fCons (fVar 2) fNil)) (gN 3) fYes (fOp dIx (fC (.str "abcdefghijklmnopqrstuvwxyz")) (fCallD fn__law_take [] (fCons (fVar 0) (fCons (fC (.int 26)) fNil)))) [3]) fNil)))))
noncomputable def fn__law_word : Fn := fnB 4 F__law_word
noncomputable def F__law_mixed : Ds :=
    (fSeq (fPar 2 3 (fCons (fRef (fListN (fVar 1))) (fCons (fRef (fLstN fNil)) fNil)))
    (fSeq (fWhile (fT (fOp (dEq true) (fVar 2) (fLst fNil)))
    (fExpr (fRefM lAppend (fVar 3) (fCons (fRefM lPopAt (fVar 2) (fCons (fCallD fn__law_take [] (fCons (fVar 0) (fCons (fCall dLen (fCons (fVar 2) fNil)) fNil))) fNil)) fNil))) 100)
    (fRet (fVar 3))))
noncomputable def fn__law_mixed : Fn := fnB 4 F__law_mixed
end Dv.Sh

namespace D31
open PySem PySem.Spec PyProof.Rows L2 Cv Dv Dv.Sh
local macro_rules | `(tactic| walk_at "wp") => `(tactic| simp only [tSeq, tDrop, tVar, tC, tCons, tNil, tVeI, tOst, start_cc, start_cn, start_nn, List.set_cons_zero, List.set_cons_succ, List.map_cons, List.map_nil, List.getElem?_cons_zero, List.getElem?_cons_succ, Option.some.injEq, V.int.injEq, V.bl.injEq, V.str.injEq, V.ref.injEq, List.cons.injEq, and_true, true_and, exists_eq_left', exists_eq_left, exists_and_left, exists_and_right])
def topS (i : Nat) : Stmt := PySem.Challenge.pw_coverstore_k31_queries_judged.main.body.getD i (.Pass ⟨0, 0, 0, 0⟩)
abbrev s__law_first_order : Stmt := topS 56
abbrev N__law_first_order : List Str := ["_law_parts", "_law_found", "_law_word_here", "_law_first", "_law_second", "_law_term_here"]
theorem sc__law_first_order : FnScope N__law_first_order ["_law_parts"] (defScope s__law_first_order) := ⟨rfl, rfl, rfl, by decide +kernel, rfl, by decide +kernel, by decide +kernel⟩
abbrev s__law_take : Stmt := topS 44
abbrev N__law_take : List Str := ["_law_pot_here", "_law_many", "_law_digit"]
theorem sc__law_take : FnScope N__law_take ["_law_pot_here", "_law_many"] (defScope s__law_take) := ⟨rfl, rfl, rfl, by decide +kernel, rfl, by decide +kernel, by decide +kernel⟩
abbrev s__law_mixed : Stmt := topS 47
abbrev N__law_mixed : List Str := ["_law_pot_here", "_law_some", "_law_rest", "_law_found"]
theorem sc__law_mixed : FnScope N__law_mixed ["_law_pot_here", "_law_some"] (defScope s__law_mixed) := ⟨rfl, rfl, rfl, by decide +kernel, rfl, by decide +kernel, by decide +kernel⟩
abbrev s__law_pick : Stmt := topS 45
abbrev N__law_pick : List Str := ["_law_pot_here", "_law_some"]
theorem sc__law_pick : FnScope N__law_pick ["_law_pot_here", "_law_some"] (defScope s__law_pick) := ⟨rfl, rfl, rfl, by decide +kernel, rfl, by decide +kernel, by decide +kernel⟩
abbrev s__law_term : Stmt := topS 48
abbrev N__law_term : List Str := ["_law_pot_here", "_law_names"]
theorem sc__law_term : FnScope N__law_term ["_law_pot_here", "_law_names"] (defScope s__law_term) := ⟨rfl, rfl, rfl, by decide +kernel, rfl, by decide +kernel, by decide +kernel⟩
abbrev s__law_word : Stmt := topS 46
abbrev N__law_word : List Str := ["_law_pot_here", "_law_first", "_law_more", "_law_at"]
theorem sc__law_word : FnScope N__law_word ["_law_pot_here", "_law_first"] (defScope s__law_word) := ⟨rfl, rfl, rfl, by decide +kernel, rfl, by decide +kernel, by decide +kernel⟩
abbrev s__law_literal : Stmt := topS 49
abbrev N__law_literal : List Str := ["_law_pot_here", "_law_names", "_law_way", "_law_terms", "_law_at"]
theorem sc__law_literal : FnScope N__law_literal ["_law_pot_here", "_law_names"] (defScope s__law_literal) := ⟨rfl, rfl, rfl, by decide +kernel, rfl, by decide +kernel, by decide +kernel⟩
abbrev s__law_odd_comparison : Stmt := topS 51
abbrev N__law_odd_comparison : List Str := ["_law_pot_here", "_law_literal_here", "_law_word_here", "_law_one", "_law_other", "_law_odd_here"]
theorem sc__law_odd_comparison : FnScope N__law_odd_comparison ["_law_pot_here", "_law_literal_here"] (defScope s__law_odd_comparison) := ⟨rfl, rfl, rfl, by decide +kernel, rfl, by decide +kernel, by decide +kernel⟩
abbrev s__law_odd_row : Stmt := topS 50
abbrev N__law_odd_row : List Str := ["_law_pot_here", "_law_literal_here", "_law_word_here", "_law_table", "_law_terms", "_law_odds", "_law_odd_here", "_law_some", "_law_title"]
theorem sc__law_odd_row : FnScope N__law_odd_row ["_law_pot_here", "_law_literal_here"] (defScope s__law_odd_row) := ⟨rfl, rfl, rfl, by decide +kernel, rfl, by decide +kernel, by decide +kernel⟩
abbrev s__law_odd : Stmt := topS 52
abbrev N__law_odd : List Str := ["_law_pot_here", "_law_literal_here", "_law_word_here", "_law_first", "_law_second", "_law_some"]
theorem sc__law_odd : FnScope N__law_odd ["_law_pot_here", "_law_literal_here"] (defScope s__law_odd) := ⟨rfl, rfl, rfl, by decide +kernel, rfl, by decide +kernel, by decide +kernel⟩
abbrev s__law_is_title : Stmt := topS 53
abbrev N__law_is_title : List Str := ["_law_thing", "_law_sign"]
theorem sc__law_is_title : FnScope N__law_is_title ["_law_thing"] (defScope s__law_is_title) := ⟨rfl, rfl, rfl, by decide +kernel, rfl, by decide +kernel, by decide +kernel⟩
abbrev s__law_is_term : Stmt := topS 54
abbrev N__law_is_term : List Str := ["_law_thing"]
theorem sc__law_is_term : FnScope N__law_is_term ["_law_thing"] (defScope s__law_is_term) := ⟨rfl, rfl, rfl, by decide +kernel, rfl, by decide +kernel, by decide +kernel⟩
abbrev s__law_is_literal : Stmt := topS 55
abbrev N__law_is_literal : List Str := ["_law_thing", "_law_word_here", "_law_first", "_law_second", "_law_term_here"]
theorem sc__law_is_literal : FnScope N__law_is_literal ["_law_thing"] (defScope s__law_is_literal) := ⟨rfl, rfl, rfl, by decide +kernel, rfl, by decide +kernel, by decide +kernel⟩
abbrev s__law_problem : Stmt := topS 57
abbrev N__law_problem : List Str := ["_law_thing", "_law_lane", "_law_at", "_law_literal_here", "_law_names", "_law_good", "_law_name"]
theorem sc__law_problem : FnScope N__law_problem ["_law_thing", "_law_lane"] (defScope s__law_problem) := ⟨rfl, rfl, rfl, by decide +kernel, rfl, by decide +kernel, by decide +kernel⟩
abbrev s_InvalidQuery___init__ : Stmt := metS (topS 3) 0
abbrev N_InvalidQuery___init__ : List Str := ["self", "problem", "position"]
theorem sc_InvalidQuery___init__ : FnScope N_InvalidQuery___init__ ["self", "problem", "position"] (defScope s_InvalidQuery___init__) := ⟨rfl, rfl, rfl, by decide +kernel, rfl, by decide +kernel, by decide +kernel⟩
abbrev s_is_order : Stmt := topS 34
abbrev N_is_order : List Str := ["value", "variables", "name"]
theorem sc_is_order : FnScope N_is_order ["value", "variables"] (defScope s_is_order) := ⟨rfl, rfl, rfl, by decide +kernel, rfl, by decide +kernel, by decide +kernel⟩
abbrev s_is_comparison : Stmt := topS 30
abbrev N_is_comparison : List Str := ["literal"]
theorem sc_is_comparison : FnScope N_is_comparison ["literal"] (defScope s_is_comparison) := ⟨rfl, rfl, rfl, by decide +kernel, rfl, by decide +kernel, by decide +kernel⟩
abbrev s_literal_text : Stmt := topS 35
abbrev N_literal_text : List Str := ["literal", "word", "first", "second", "row", "term"]
theorem sc_literal_text : FnScope N_literal_text ["literal"] (defScope s_literal_text) := ⟨rfl, rfl, rfl, by decide +kernel, rfl, by decide +kernel, by decide +kernel⟩
abbrev s_terms_of : Stmt := topS 31
abbrev N_terms_of : List Str := ["literal"]
theorem sc_terms_of : FnScope N_terms_of ["literal"] (defScope s_terms_of) := ⟨rfl, rfl, rfl, by decide +kernel, rfl, by decide +kernel, by decide +kernel⟩
abbrev s_variables_in : Stmt := topS 32
abbrev N_variables_in : List Str := ["literals", "found", "literal", "term"]
theorem sc_variables_in : FnScope N_variables_in ["literals"] (defScope s_variables_in) := ⟨rfl, rfl, rfl, by decide +kernel, rfl, by decide +kernel, by decide +kernel⟩
abbrev s_query_text : Stmt := topS 36
abbrev N_query_text : List Str := ["literals", "order", "text", "literal"]
theorem sc_query_text : FnScope N_query_text ["literals", "order"] (defScope s_query_text) := ⟨rfl, rfl, rfl, by decide +kernel, rfl, by decide +kernel, by decide +kernel⟩
abbrev s_is_integer : Stmt := topS 6
abbrev N_is_integer : List Str := ["value"]
theorem sc_is_integer : FnScope N_is_integer ["value"] (defScope s_is_integer) := ⟨rfl, rfl, rfl, by decide +kernel, rfl, by decide +kernel, by decide +kernel⟩
abbrev s_is_name : Stmt := topS 11
abbrev N_is_name : List Str := ["value", "letter"]
theorem sc_is_name : FnScope N_is_name ["value"] (defScope s_is_name) := ⟨rfl, rfl, rfl, by decide +kernel, rfl, by decide +kernel, by decide +kernel⟩
abbrev s_is_term : Stmt := topS 27
abbrev N_is_term : List Str := ["value"]
theorem sc_is_term : FnScope N_is_term ["value"] (defScope s_is_term) := ⟨rfl, rfl, rfl, by decide +kernel, rfl, by decide +kernel, by decide +kernel⟩
abbrev s_are_terms : Stmt := topS 28
abbrev N_are_terms : List Str := ["value", "one"]
theorem sc_are_terms : FnScope N_are_terms ["value"] (defScope s_are_terms) := ⟨rfl, rfl, rfl, by decide +kernel, rfl, by decide +kernel, by decide +kernel⟩
abbrev s_is_literal : Stmt := topS 29
abbrev N_is_literal : List Str := ["value", "word", "first", "second"]
theorem sc_is_literal : FnScope N_is_literal ["value"] (defScope s_is_literal) := ⟨rfl, rfl, rfl, by decide +kernel, rfl, by decide +kernel, by decide +kernel⟩
abbrev s_require_literals : Stmt := topS 33
abbrev N_require_literals : List Str := ["literals", "position", "literal"]
theorem sc_require_literals : FnScope N_require_literals ["literals"] (defScope s_require_literals) := ⟨rfl, rfl, rfl, by decide +kernel, rfl, by decide +kernel, by decide +kernel⟩
abbrev s_Query___init__ : Stmt := metS (topS 41) 3
abbrev N_Query___init__ : List Str := ["self", "literals", "order", "variables"]
theorem sc_Query___init__ : FnScope N_Query___init__ ["self", "literals", "order"] (defScope s_Query___init__) := ⟨rfl, rfl, rfl, by decide +kernel, rfl, by decide +kernel, by decide +kernel⟩
abbrev s_Query___len__ : Stmt := metS (topS 41) 8
abbrev N_Query___len__ : List Str := ["self"]
theorem sc_Query___len__ : FnScope N_Query___len__ ["self"] (defScope s_Query___len__) := ⟨rfl, rfl, rfl, by decide +kernel, rfl, by decide +kernel, by decide +kernel⟩
abbrev s_Query_literals : Stmt := metS (topS 41) 6
abbrev N_Query_literals : List Str := ["self"]
theorem sc_Query_literals : FnScope N_Query_literals ["self"] (defScope s_Query_literals) := ⟨rfl, rfl, rfl, by decide +kernel, rfl, by decide +kernel, by decide +kernel⟩
abbrev s_Query_variables : Stmt := metS (topS 41) 5
abbrev N_Query_variables : List Str := ["self"]
theorem sc_Query_variables : FnScope N_Query_variables ["self"] (defScope s_Query_variables) := ⟨rfl, rfl, rfl, by decide +kernel, rfl, by decide +kernel, by decide +kernel⟩
abbrev s__law_stays : Stmt := topS 60
abbrev N__law_stays : List Str := ["_law_parts", "_law_lane", "_law_thing", "_law_made", "_law_names"]
theorem sc__law_stays : FnScope N__law_stays ["_law_parts", "_law_lane"] (defScope s__law_stays) := ⟨rfl, rfl, rfl, by decide +kernel, rfl, by decide +kernel, by decide +kernel⟩
abbrev s__law_told : Stmt := topS 59
abbrev N__law_told : List Str := ["_law_thing", "_law_lane", "_law_way", "_law_told_here", "_law_made", "e"]
theorem sc__law_told : FnScope N__law_told ["_law_thing", "_law_lane", "_law_way"] (defScope s__law_told) := ⟨rfl, rfl, rfl, by decide +kernel, rfl, by decide +kernel, by decide +kernel⟩
abbrev s__law_right : Stmt := topS 61
abbrev N__law_right : List Str := ["_law_pot_here", "_law_thing", "_law_lane", "_law_shown", "_law_problem_here", "_law_due", "_law_names"]
theorem sc__law_right : FnScope N__law_right ["_law_pot_here", "_law_thing", "_law_lane"] (defScope s__law_right) := ⟨rfl, rfl, rfl, by decide +kernel, rfl, by decide +kernel, by decide +kernel⟩
abbrev s__law_some_order : Stmt := topS 58
abbrev N__law_some_order : List Str := ["_law_pot_here", "_law_names", "_law_lane", "_law_way", "_law_some", "_law_name"]
theorem sc__law_some_order : FnScope N__law_some_order ["_law_pot_here", "_law_names"] (defScope s__law_some_order) := ⟨rfl, rfl, rfl, by decide +kernel, rfl, by decide +kernel, by decide +kernel⟩
abbrev s__law_cell_right : Stmt := topS 62
abbrev N__law_cell_right : List Str := ["_law_pot_here", "_law_names", "_law_at", "_law_parts", "_law_lane", "_law_spoilt", "_law_turn", "_law_some"]
theorem sc__law_cell_right : FnScope N__law_cell_right ["_law_pot_here"] (defScope s__law_cell_right) := ⟨rfl, rfl, rfl, by decide +kernel, rfl, by decide +kernel, by decide +kernel⟩
abbrev s__law_pot : Stmt := topS 43
abbrev N__law_pot : List Str := ["_law_script", "_law_k", "_law_cell", "_law_seed"]
theorem sc__law_pot : FnScope N__law_pot ["_law_script", "_law_k"] (defScope s__law_pot) := ⟨rfl, rfl, rfl, by decide +kernel, rfl, by decide +kernel, by decide +kernel⟩
abbrev s_law : Stmt := topS 63
abbrev N_law : List Str := ["_law_script", "_law_k"]
theorem sc_law : FnScope N_law ["_law_script"] (defScope s_law) := ⟨rfl, rfl, rfl, by decide +kernel, rfl, by decide +kernel, by decide +kernel⟩
/-- what the text has written -/
structure All (K : PySem.W.Frag) (mg : Str → Option Value) where
  f__law_first_order : Addr
  fd__law_first_order : FuncData
  F__law_first_order : Fun K "_law_first_order" "_law_first_order" s__law_first_order f__law_first_order fd__law_first_order
  b__law_first_order : Binds K fd__law_first_order ["_law_parts"] []
  g__law_first_order : mg "_law_first_order" = some (.ref f__law_first_order)
  f__law_take : Addr
  fd__law_take : FuncData
  F__law_take : Fun K "_law_take" "_law_take" s__law_take f__law_take fd__law_take
  b__law_take : Binds K fd__law_take ["_law_pot_here", "_law_many"] []
  g__law_take : mg "_law_take" = some (.ref f__law_take)
  f__law_mixed : Addr
  fd__law_mixed : FuncData
  F__law_mixed : Fun K "_law_mixed" "_law_mixed" s__law_mixed f__law_mixed fd__law_mixed
  b__law_mixed : Binds K fd__law_mixed ["_law_pot_here", "_law_some"] []
  g__law_mixed : mg "_law_mixed" = some (.ref f__law_mixed)
  f__law_pick : Addr
  fd__law_pick : FuncData
  F__law_pick : Fun K "_law_pick" "_law_pick" s__law_pick f__law_pick fd__law_pick
  b__law_pick : Binds K fd__law_pick ["_law_pot_here", "_law_some"] []
  g__law_pick : mg "_law_pick" = some (.ref f__law_pick)
  f__law_term : Addr
  fd__law_term : FuncData
  F__law_term : Fun K "_law_term" "_law_term" s__law_term f__law_term fd__law_term
  b__law_term : Binds K fd__law_term ["_law_pot_here", "_law_names"] []
  g__law_term : mg "_law_term" = some (.ref f__law_term)
  f__law_word : Addr
  fd__law_word : FuncData
  F__law_word : Fun K "_law_word" "_law_word" s__law_word f__law_word fd__law_word
  b__law_word : Binds K fd__law_word ["_law_pot_here", "_law_first"] []
  g__law_word : mg "_law_word" = some (.ref f__law_word)
  f__law_literal : Addr
  fd__law_literal : FuncData
  F__law_literal : Fun K "_law_literal" "_law_literal" s__law_literal f__law_literal fd__law_literal
  b__law_literal : Binds K fd__law_literal ["_law_pot_here", "_law_names"] []
  g__law_literal : mg "_law_literal" = some (.ref f__law_literal)
  f__law_odd_comparison : Addr
  fd__law_odd_comparison : FuncData
  F__law_odd_comparison : Fun K "_law_odd_comparison" "_law_odd_comparison" s__law_odd_comparison f__law_odd_comparison fd__law_odd_comparison
  b__law_odd_comparison : Binds K fd__law_odd_comparison ["_law_pot_here", "_law_literal_here"] []
  g__law_odd_comparison : mg "_law_odd_comparison" = some (.ref f__law_odd_comparison)
  f__law_odd_row : Addr
  fd__law_odd_row : FuncData
  F__law_odd_row : Fun K "_law_odd_row" "_law_odd_row" s__law_odd_row f__law_odd_row fd__law_odd_row
  b__law_odd_row : Binds K fd__law_odd_row ["_law_pot_here", "_law_literal_here"] []
  g__law_odd_row : mg "_law_odd_row" = some (.ref f__law_odd_row)
  f__law_odd : Addr
  fd__law_odd : FuncData
  F__law_odd : Fun K "_law_odd" "_law_odd" s__law_odd f__law_odd fd__law_odd
  b__law_odd : Binds K fd__law_odd ["_law_pot_here", "_law_literal_here"] []
  g__law_odd : mg "_law_odd" = some (.ref f__law_odd)
  f__law_is_title : Addr
  fd__law_is_title : FuncData
  F__law_is_title : Fun K "_law_is_title" "_law_is_title" s__law_is_title f__law_is_title fd__law_is_title
  b__law_is_title : Binds K fd__law_is_title ["_law_thing"] []
  g__law_is_title : mg "_law_is_title" = some (.ref f__law_is_title)
  f__law_is_term : Addr
  fd__law_is_term : FuncData
  F__law_is_term : Fun K "_law_is_term" "_law_is_term" s__law_is_term f__law_is_term fd__law_is_term
  b__law_is_term : Binds K fd__law_is_term ["_law_thing"] []
  g__law_is_term : mg "_law_is_term" = some (.ref f__law_is_term)
  f__law_is_literal : Addr
  fd__law_is_literal : FuncData
  F__law_is_literal : Fun K "_law_is_literal" "_law_is_literal" s__law_is_literal f__law_is_literal fd__law_is_literal
  b__law_is_literal : Binds K fd__law_is_literal ["_law_thing"] []
  g__law_is_literal : mg "_law_is_literal" = some (.ref f__law_is_literal)
  f__law_problem : Addr
  fd__law_problem : FuncData
  F__law_problem : Fun K "_law_problem" "_law_problem" s__law_problem f__law_problem fd__law_problem
  b__law_problem : Binds K fd__law_problem ["_law_thing", "_law_lane"] []
  g__law_problem : mg "_law_problem" = some (.ref f__law_problem)
  f_InvalidQuery___init__ : Addr
  fd_InvalidQuery___init__ : FuncData
  F_InvalidQuery___init__ : Fun K "__init__" "InvalidQuery.__init__" s_InvalidQuery___init__ f_InvalidQuery___init__ fd_InvalidQuery___init__
  b_InvalidQuery___init__ : Binds K fd_InvalidQuery___init__ ["self", "problem", "position"] []
  f_is_order : Addr
  fd_is_order : FuncData
  F_is_order : Fun K "is_order" "is_order" s_is_order f_is_order fd_is_order
  b_is_order : Binds K fd_is_order ["value", "variables"] []
  g_is_order : mg "is_order" = some (.ref f_is_order)
  f_is_comparison : Addr
  fd_is_comparison : FuncData
  F_is_comparison : Fun K "is_comparison" "is_comparison" s_is_comparison f_is_comparison fd_is_comparison
  b_is_comparison : Binds K fd_is_comparison ["literal"] []
  g_is_comparison : mg "is_comparison" = some (.ref f_is_comparison)
  f_literal_text : Addr
  fd_literal_text : FuncData
  F_literal_text : Fun K "literal_text" "literal_text" s_literal_text f_literal_text fd_literal_text
  b_literal_text : Binds K fd_literal_text ["literal"] []
  g_literal_text : mg "literal_text" = some (.ref f_literal_text)
  f_terms_of : Addr
  fd_terms_of : FuncData
  F_terms_of : Fun K "terms_of" "terms_of" s_terms_of f_terms_of fd_terms_of
  b_terms_of : Binds K fd_terms_of ["literal"] []
  g_terms_of : mg "terms_of" = some (.ref f_terms_of)
  f_variables_in : Addr
  fd_variables_in : FuncData
  F_variables_in : Fun K "variables_in" "variables_in" s_variables_in f_variables_in fd_variables_in
  b_variables_in : Binds K fd_variables_in ["literals"] []
  g_variables_in : mg "variables_in" = some (.ref f_variables_in)
  f_query_text : Addr
  fd_query_text : FuncData
  F_query_text : Fun K "query_text" "query_text" s_query_text f_query_text fd_query_text
  b_query_text : Binds K fd_query_text ["literals", "order"] []
  g_query_text : mg "query_text" = some (.ref f_query_text)
  f_is_integer : Addr
  fd_is_integer : FuncData
  F_is_integer : Fun K "is_integer" "is_integer" s_is_integer f_is_integer fd_is_integer
  b_is_integer : Binds K fd_is_integer ["value"] []
  g_is_integer : mg "is_integer" = some (.ref f_is_integer)
  f_is_name : Addr
  fd_is_name : FuncData
  F_is_name : Fun K "is_name" "is_name" s_is_name f_is_name fd_is_name
  b_is_name : Binds K fd_is_name ["value"] []
  g_is_name : mg "is_name" = some (.ref f_is_name)
  f_is_term : Addr
  fd_is_term : FuncData
  F_is_term : Fun K "is_term" "is_term" s_is_term f_is_term fd_is_term
  b_is_term : Binds K fd_is_term ["value"] []
  g_is_term : mg "is_term" = some (.ref f_is_term)
  f_are_terms : Addr
  fd_are_terms : FuncData
  F_are_terms : Fun K "are_terms" "are_terms" s_are_terms f_are_terms fd_are_terms
  b_are_terms : Binds K fd_are_terms ["value"] []
  g_are_terms : mg "are_terms" = some (.ref f_are_terms)
  f_is_literal : Addr
  fd_is_literal : FuncData
  F_is_literal : Fun K "is_literal" "is_literal" s_is_literal f_is_literal fd_is_literal
  b_is_literal : Binds K fd_is_literal ["value"] []
  g_is_literal : mg "is_literal" = some (.ref f_is_literal)
  f_require_literals : Addr
  fd_require_literals : FuncData
  F_require_literals : Fun K "require_literals" "require_literals" s_require_literals f_require_literals fd_require_literals
  b_require_literals : Binds K fd_require_literals ["literals"] []
  g_require_literals : mg "require_literals" = some (.ref f_require_literals)
  f_Query___init__ : Addr
  fd_Query___init__ : FuncData
  F_Query___init__ : FunD K "__init__" "Query.__init__" (defArgs s_Query___init__) (defBody s_Query___init__) (defScope s_Query___init__) [.non] [] f_Query___init__ fd_Query___init__
  b_Query___init__ : Binds K fd_Query___init__ ["self", "literals", "order"] []
  bd_Query___init__ : ∃ ds, Vals [.non] ds ∧ Binds K fd_Query___init__ ["self", "literals", "order"] ds
  f_Query___len__ : Addr
  fd_Query___len__ : FuncData
  F_Query___len__ : Fun K "__len__" "Query.__len__" s_Query___len__ f_Query___len__ fd_Query___len__
  b_Query___len__ : Binds K fd_Query___len__ ["self"] []
  f_Query_literals : Addr
  fd_Query_literals : FuncData
  F_Query_literals : Fun K "literals" "Query.literals" s_Query_literals f_Query_literals fd_Query_literals
  b_Query_literals : Binds K fd_Query_literals ["self"] []
  f_Query_variables : Addr
  fd_Query_variables : FuncData
  F_Query_variables : Fun K "variables" "Query.variables" s_Query_variables f_Query_variables fd_Query_variables
  b_Query_variables : Binds K fd_Query_variables ["self"] []
  f__law_stays : Addr
  fd__law_stays : FuncData
  F__law_stays : Fun K "_law_stays" "_law_stays" s__law_stays f__law_stays fd__law_stays
  b__law_stays : Binds K fd__law_stays ["_law_parts", "_law_lane"] []
  g__law_stays : mg "_law_stays" = some (.ref f__law_stays)
  f__law_told : Addr
  fd__law_told : FuncData
  F__law_told : Fun K "_law_told" "_law_told" s__law_told f__law_told fd__law_told
  b__law_told : Binds K fd__law_told ["_law_thing", "_law_lane", "_law_way"] []
  g__law_told : mg "_law_told" = some (.ref f__law_told)
  f__law_right : Addr
  fd__law_right : FuncData
  F__law_right : Fun K "_law_right" "_law_right" s__law_right f__law_right fd__law_right
  b__law_right : Binds K fd__law_right ["_law_pot_here", "_law_thing", "_law_lane"] []
  g__law_right : mg "_law_right" = some (.ref f__law_right)
  f__law_some_order : Addr
  fd__law_some_order : FuncData
  F__law_some_order : Fun K "_law_some_order" "_law_some_order" s__law_some_order f__law_some_order fd__law_some_order
  b__law_some_order : Binds K fd__law_some_order ["_law_pot_here", "_law_names"] []
  g__law_some_order : mg "_law_some_order" = some (.ref f__law_some_order)
  f__law_cell_right : Addr
  fd__law_cell_right : FuncData
  F__law_cell_right : Fun K "_law_cell_right" "_law_cell_right" s__law_cell_right f__law_cell_right fd__law_cell_right
  b__law_cell_right : Binds K fd__law_cell_right ["_law_pot_here"] []
  g__law_cell_right : mg "_law_cell_right" = some (.ref f__law_cell_right)
  f__law_pot : Addr
  fd__law_pot : FuncData
  F__law_pot : Fun K "_law_pot" "_law_pot" s__law_pot f__law_pot fd__law_pot
  b__law_pot : Binds K fd__law_pot ["_law_script", "_law_k"] []
  g__law_pot : mg "_law_pot" = some (.ref f__law_pot)
  f_law : Addr
  fd_law : FuncData
  F_law : Fun K "law" "law" s_law f_law fd_law
  b_law : Binds K fd_law ["_law_script"] []
  g_law : mg "law" = some (.ref f_law)
  sy : sysB K = true
  n_isinstance : mg "isinstance" = none
  n_int : mg "int" = none
  n_bool : mg "bool" = none
  n_str : mg "str" = none
  n_list : mg "list" = none
  n_tuple : mg "tuple" = none
  n_len : mg "len" = none
  n_all : mg "all" = none
  n_max : mg "max" = none
  n_min : mg "min" = none
  n_abs : mg "abs" = none
  n_repr : mg "repr" = none
  n_range : mg "range" = none
  n_enumerate : mg "enumerate" = none
  n_ValueError : mg "ValueError" = none
  c_InvalidQuery : Addr
  gc_InvalidQuery : mg "InvalidQuery" = some (.ref c_InvalidQuery)
  c_CoverError : Addr
  gc_CoverError : mg "CoverError" = some (.ref c_CoverError)
  c_InvalidText : Addr
  gc_InvalidText : mg "InvalidText" = some (.ref c_InvalidText)
  c_Query : Addr
  gc_Query : mg "Query" = some (.ref c_Query)
  e_InvalidQuery : OwnE K c_InvalidQuery
  ii_InvalidQuery : PySem.W.findIn K (.ref c_InvalidQuery) "__init__" = some (some (.ref f_InvalidQuery___init__))
  ti_InvalidQuery : PySem.W.typeIn K (.ref f_InvalidQuery___init__) = some (.type "function")
  na_InvalidQuery_problem : PySem.W.findIn K (.ref c_InvalidQuery) "problem" = some none
  na_InvalidQuery_position : PySem.W.findIn K (.ref c_InvalidQuery) "position" = some none
  hf_InvalidQuery : ∀ f ∈ (["problem", "position"] : List Str), PySem.W.findIn K (.ref c_InvalidQuery) f = some none
  b_CoverError : BaseE K c_CoverError
  k_InvalidQuery_InvalidQuery : PySem.W.kitOne K (.ref c_InvalidQuery) (.ref c_InvalidQuery) = some true
  k_InvalidQuery_CoverError : PySem.W.kitOne K (.ref c_InvalidQuery) (.ref c_CoverError) = some true
  k_InvalidQuery_InvalidText : PySem.W.kitOne K (.ref c_InvalidQuery) (.ref c_InvalidText) = some false
  k_InvalidQuery_ValueError : PySem.W.kitOne K (.ref c_InvalidQuery) (.type "ValueError") = some true
  x_InvalidQuery_InvalidQuery : PySem.W.exmOne K (.ref c_InvalidQuery) (.ref c_InvalidQuery) = some true
  cl_Query : Cls K c_Query
  mk_Query : Mk K c_Query f_Query___init__
  nf_Query_own_literals : NoAttr K c_Query "own_literals"
  nf_Query_own_order : NoAttr K c_Query "own_order"
  nf_Query_own_text : NoAttr K c_Query "own_text"
  cv_Query_MAX_LITERALS : ClX.CRead K c_Query (.type "type") ∧ ∃ u, ClX.CVal K c_Query (.type "type") "MAX_LITERALS" (.int 8) u
  cv_Query_MAX_VARIABLES : ClX.CRead K c_Query (.type "type") ∧ ∃ u, ClX.CVal K c_Query (.type "type") "MAX_VARIABLES" (.int 5) u
  cv_Query_MAX_INTEGER : ClX.CRead K c_Query (.type "type") ∧ ∃ u, ClX.CVal K c_Query (.type "type") "MAX_INTEGER" (.int 1023) u
  m_Query___len__ : Meth K c_Query "__len__" f_Query___len__
  m_Query_literals : Meth K c_Query "literals" f_Query_literals
  pr_Query_variables : PropOf K c_Query "variables" (pa K "Query" "variables") f_Query_variables
  u_LETTERS : Value
  g_LETTERS : mg "LETTERS" = some u_LETTERS
  v_LETTERS : RelV (V.str "abcdefghijklmnopqrstuvwxyz") u_LETTERS
  u_MOST_LETTERS : Value
  g_MOST_LETTERS : mg "MOST_LETTERS" = some u_MOST_LETTERS
  v_MOST_LETTERS : RelV (V.int 8) u_MOST_LETTERS
  u_RESERVED : Addr
  g_RESERVED : mg "RESERVED" = some (.ref u_RESERVED)
  t_RESERVED : CRepT K u_RESERVED ["not", "by"]
  u_POSITIVE : Value
  g_POSITIVE : mg "POSITIVE" = some u_POSITIVE
  v_POSITIVE : RelV (V.str "row") u_POSITIVE
  u_DENIED : Value
  g_DENIED : mg "DENIED" = some u_DENIED
  v_DENIED : RelV (V.str "none") u_DENIED
  u_SIGNS : Addr
  g_SIGNS : mg "SIGNS" = some (.ref u_SIGNS)
  t_SIGNS : CRepT K u_SIGNS ["<", "<=", "=", "!="]
  u_LITERAL_LENGTH : Value
  g_LITERAL_LENGTH : mg "LITERAL_LENGTH" = some u_LITERAL_LENGTH
  v_LITERAL_LENGTH : RelV (V.int 3) u_LITERAL_LENGTH
  u_MOST_TERMS : Value
  g_MOST_TERMS : mg "MOST_TERMS" = some u_MOST_TERMS
  v_MOST_TERMS : RelV (V.int 4) u_MOST_TERMS
  u_MOST_LITERALS : Value
  g_MOST_LITERALS : mg "MOST_LITERALS" = some u_MOST_LITERALS
  v_MOST_LITERALS : RelV (V.int 8) u_MOST_LITERALS
  u_MOST_VARIABLES : Value
  g_MOST_VARIABLES : mg "MOST_VARIABLES" = some u_MOST_VARIABLES
  v_MOST_VARIABLES : RelV (V.int 5) u_MOST_VARIABLES
  u_MOST_INTEGER : Value
  g_MOST_INTEGER : mg "MOST_INTEGER" = some u_MOST_INTEGER
  v_MOST_INTEGER : RelV (V.int 1023) u_MOST_INTEGER
  u_COMMA : Value
  g_COMMA : mg "COMMA" = some u_COMMA
  v_COMMA : RelV (V.str ",") u_COMMA
  u_BETWEEN : Value
  g_BETWEEN : mg "BETWEEN" = some u_BETWEEN
  v_BETWEEN : RelV (V.str ", ") u_BETWEEN
  u_BEFORE_ORDER : Value
  g_BEFORE_ORDER : mg "BEFORE_ORDER" = some u_BEFORE_ORDER
  v_BEFORE_ORDER : RelV (V.str " by ") u_BEFORE_ORDER
  u_NOT : Value
  g_NOT : mg "NOT" = some u_NOT
  v_NOT : RelV (V.str "not") u_NOT
section
variable {P : Program} {w : World} {K : PySem.W.Frag} {mg : Str → Option Value} {base : Heap}
theorem ok_InvalidQuery___init__ (A : All K mg) : FnOk P w K mg base CX0 1 A.f_InvalidQuery___init__ A.fd_InvalidQuery___init__ ["self", "problem", "position"] (spErr K ["problem", "position"]) := by
  refine A.F_InvalidQuery___init__.ok sc_InvalidQuery___init__ (len_spErr rfl) (fun cdv Ar outer s H vs Q E hr h => ?_)
  obtain ⟨a, C, ws, rfl, hl, T, nf, e, q⟩ := h
  obtain ⟨v0, v1, rfl⟩ := len2 hl
  refine ⟨_, (pss_cons (ps_expr (pe_binit (by rfl) A.gc_CoverError A.b_CoverError.rd A.b_CoverError.at_ (pa_cons (pv 0) (pa_cons pe_str pa_nil)))) (pss_cons (ps_ost (pv 0) (pv 1)) (pss_one (ps_ost (pv 0) (pv 2))))), ?_⟩
  simp only [tSeq, tDrop, tVar, tC, tCons, tNil, tVeI, tOst]
  exact ⟨.ref a, rfl, a, C, _, rfl, by decide, T, e, v0, rfl, .ref a, rfl, a, C, rfl, T, nf "problem" (by simp), .inl ⟨e, fun dx nd ne => ⟨v1, rfl, .ref a, rfl, a, C, rfl, T, nf "position" (by simp), .inr ⟨dx, _, upd_same, by rw [upd_ne ne, upd_same], by show (1 : Nat) ≤ 900; decide, q dx _ nd ne (fun b h1 h2 => by rw [upd_ne h2, upd_ne h1, upd_ne h2]) (by rw [upd_ne (fun z => ne z.symm), upd_same]) (by rw [upd_same]; rfl)⟩⟩⟩⟩
end
end D31

namespace D31
open PySem PySem.Spec PyProof.Rows L2 Cv Dv Dv.Sh
section
variable {P : Program} {w : World} {K : PySem.W.Frag} {mg : Str → Option Value} {base : Heap}
theorem ok_is_integer (A : All K mg) : FnOk P w K mg base (L2N.CX P w) 1 A.f_is_integer A.fd_is_integer ["value"] (spD K mg 1 fn_is_integer) :=
  okQ (N := N_is_integer) (F := F_is_integer) A.F_is_integer sc_is_integer (by decide) fun pn cdv Ar outer s H E hr tk hpo =>
    (qb_one (qs_ret (qe_and (qe_isi1 (n := "int") (by decide) (qe_v (pv 0)) (fun h => pe_callB call_isiA (by rfl) A.n_isinstance (by decide +kernel) (pa_cons h (pa_cons (pe_bltn (v := .ty "int") (u := .type "int") (by rfl) A.n_int (by decide +kernel) rfl) pa_nil)))) (qe_one (qe_not (qe_isi1 (n := "bool") (by decide) (qe_v (pv 0)) (fun h => pe_callB call_isiA (by rfl) A.n_isinstance (by decide +kernel) (pa_cons h (pa_cons (pe_bltn (v := .ty "bool") (u := .type "bool") (by rfl) A.n_bool (by decide +kernel) rfl) pa_nil)))))))))
theorem ok_is_name (A : All K mg) : FnOk P w K mg base (L2N.CX P w) 1 A.f_is_name A.fd_is_name ["value"] (spD K mg 1 fn_is_name) :=
  okQ (N := N_is_name) (F := F_is_name) A.F_is_name sc_is_name (by decide) fun pn cdv Ar outer s H E hr tk hpo =>
    (qb_cons (qs_if (qt_w (qw_or (qt_not (qt_val (qe_isi1 (n := "str") (by decide) (qe_v (pv 0)) (fun h => pe_callB call_isiA (by rfl) A.n_isinstance (by decide +kernel) (pa_cons h (pa_cons (pe_bltn (v := .ty "str") (u := .type "str") (by rfl) A.n_str (by decide +kernel) rfl) pa_nil)))))) (qw_or (qt_not (qt_chain op_le op_le (s_cmp (p := fun i j => decide (i ≤ j))) (s_cmp (p := fun i j => decide (i ≤ j))) qe_int (qe_callB s_len (qa_cons (qe_v (pv 0)) qa_nil) (fun h => pe_callB call_lenA (by rfl) A.n_len (by decide +kernel) h)) (qe_c (pe_glob (by rfl) A.g_MOST_LETTERS A.v_MOST_LETTERS) (fun _ => .int _)))) (qw_or1 (qt_cmp (op_inP (by have := hr.units; exact this)) s_inP (qe_v (pv 0)) (qe_c (v := .ref A.u_RESERVED) (pe_glob (by rfl) A.g_RESERVED rfl) A.t_RESERVED.rep) (by with_unfolding_all rfl))))))
    (qb_one (qs_ret qe_bl))
    qb_nil)
    (qb_one (qs_ret (qe_callB s_all (qa_cons (qe_lcQ (g := (gN 1)) (own := [("letter", 1)]) tg_name rfl (by decide) rfl sc_is_name.nd (qi_any (qe_v (pv 0))) (blkOk_by (N := N_is_name) (sc := defScope s_is_name) (by decide +kernel)) (fun _ _ _ _ _ => (pg_name (i := 1) sc_is_name.nd rfl (Or.inl rfl))) (fun _ _ _ _ _ => qtss_nil) (fun _ _ _ _ _ => (qe_cmp (op_inP (by have := hr.units; exact this)) s_inP (qe_v (pv 1)) (qe_c (pe_glob (by rfl) A.g_LETTERS A.v_LETTERS) (fun _ => .str _)) (by with_unfolding_all rfl)))) qa_nil) (fun h => pe_callB (cr_all rfl) (by rfl) A.n_all (by decide +kernel) h)))))
theorem ok_is_term (A : All K mg) : FnOk P w K mg base (L2N.CX P w) 2 A.f_is_term A.fd_is_term ["value"] (spD K mg 1 fn_is_term) :=
  okQ (N := N_is_term) (F := F_is_term) A.F_is_term sc_is_term (by decide) fun pn cdv Ar outer s H E hr tk hpo =>
    (qb_one (qs_ret (qe_or (qe_call (f := fn_is_name) (dvs := []) wdl_nil rfl (qn_cons (qe_v (pv 0)) qn_nil) (fun h => Cv.pe_callSD (ok_is_name A) (hr.mono (by first | decide | omega)) (by rfl) A.g_is_name A.F_is_name.kp A.b_is_name .nil (fun σ => L2N.passAt tk σ) h)) (qe_one (qe_and (qe_call (f := fn_is_integer) (dvs := []) wdl_nil rfl (qn_cons (qe_v (pv 0)) qn_nil) (fun h => Cv.pe_callSD (ok_is_integer A) (hr.mono (by first | decide | omega)) (by rfl) A.g_is_integer A.F_is_integer.kp A.b_is_integer .nil (fun σ => L2N.passAt tk σ) h)) (qe_one (qe_chain op_le op_le (s_cmp (p := fun i j => decide (i ≤ j))) (s_cmp (p := fun i j => decide (i ≤ j))) qe_int (qe_v (pv 0)) (qe_c (pe_glob (by rfl) A.g_MOST_INTEGER A.v_MOST_INTEGER) (fun _ => .int _)) (fun h1 h2 h3 => pe_chain op_le op_le h1 h2 h3))))))))
theorem ok_are_terms (A : All K mg) : FnOk P w K mg base (L2N.CX P w) 3 A.f_are_terms A.fd_are_terms ["value"] (spD K mg 1 fn_are_terms) :=
  okQ (N := N_are_terms) (F := F_are_terms) A.F_are_terms sc_are_terms (by decide) fun pn cdv Ar outer s H E hr tk hpo =>
    (qb_one (qs_ret (qe_and (qe_isi1 (n := "tuple") (by decide) (qe_v (pv 0)) (fun h => pe_callB call_isiA (by rfl) A.n_isinstance (by decide +kernel) (pa_cons h (pa_cons (pe_bltn (v := .ty "tuple") (u := .type "tuple") (by rfl) A.n_tuple (by decide +kernel) rfl) pa_nil)))) (qe_and (qe_chain op_le op_le (s_cmp (p := fun i j => decide (i ≤ j))) (s_cmp (p := fun i j => decide (i ≤ j))) qe_int (qe_callB s_len (qa_cons (qe_v (pv 0)) qa_nil) (fun h => pe_callB call_lenA (by rfl) A.n_len (by decide +kernel) h)) (qe_c (pe_glob (by rfl) A.g_MOST_TERMS A.v_MOST_TERMS) (fun _ => .int _)) (fun h1 h2 h3 => pe_chain op_le op_le h1 h2 h3)) (qe_one (qe_callB s_all (qa_cons (qe_lcQ (g := (gN 1)) (own := [("one", 1)]) tg_name rfl (by decide) rfl sc_are_terms.nd (qi_any (qe_v (pv 0))) (blkOk_by (N := N_are_terms) (sc := defScope s_are_terms) (by decide +kernel)) (fun _ _ _ _ _ => (pg_name (i := 1) sc_are_terms.nd rfl (Or.inl rfl))) (fun _ _ _ _ _ => qtss_nil) (fun _ _ _ _ _ => (qe_call (f := fn_is_term) (dvs := []) wdl_nil rfl (qn_cons (qe_v (pv 1)) qn_nil) (fun h => Cv.pe_callSD (ok_is_term A) (hr.mono (by first | decide | omega)) (by rfl) A.g_is_term A.F_is_term.kp A.b_is_term .nil (fun σ => L2N.passAt takesN0 σ) h)))) qa_nil) (fun h => pe_callB (cr_all rfl) (by rfl) A.n_all (by decide +kernel) h)))))))
end
end D31

namespace D31
open PySem PySem.Spec PyProof.Rows L2 Cv Dv Dv.Sh
section
variable {P : Program} {w : World} {K : PySem.W.Frag} {mg : Str → Option Value} {base : Heap}
theorem ok_is_literal (A : All K mg) : FnOk P w K mg base (L2N.CX P w) 4 A.f_is_literal A.fd_is_literal ["value"] (spD K mg 1 fn_is_literal) :=
  okQ (N := N_is_literal) (F := F_is_literal) A.F_is_literal sc_is_literal (by decide) fun pn cdv Ar outer s H E hr tk hpo =>
    (qb_cons (qs_if (qt_w (qw_or (qt_not (qt_val (qe_isi1 (n := "tuple") (by decide) (qe_v (pv 0)) (fun h => pe_callB call_isiA (by rfl) A.n_isinstance (by decide +kernel) (pa_cons h (pa_cons (pe_bltn (v := .ty "tuple") (u := .type "tuple") (by rfl) A.n_tuple (by decide +kernel) rfl) pa_nil)))))) (qw_or (qt_cmp (op_neP (by have := hr.units; exact this)) s_eqP (qe_callB s_len (qa_cons (qe_v (pv 0)) qa_nil) (fun h => pe_callB call_lenA (by rfl) A.n_len (by decide +kernel) h)) (qe_c (pe_glob (by rfl) A.g_LITERAL_LENGTH A.v_LITERAL_LENGTH) (fun _ => .int _)) (nomark _)) (qw_or1 (qt_not (qt_val (qe_isi1 (n := "str") (by decide) (qe_ix ix_seq s_ix (qe_v (pv 0)) qe_int (fun _ _ => rfl)) (fun h => pe_callB call_isiA (by rfl) A.n_isinstance (by decide +kernel) (pa_cons h (pa_cons (pe_bltn (v := .ty "str") (u := .type "str") (by rfl) A.n_str (by decide +kernel) rfl) pa_nil))))))))))
    (qb_one (qs_ret qe_bl))
    qb_nil)
    (qb_cons (qs_asg (g := (gTup 3 (gCons (gN 1) (gCons (gN 2) (gCons (gN 3) gNil))))) (tg_tup (tgs_cons tg_name (tgs_cons tg_name (tgs_cons tg_name tgs_nil)))) (fun h => ps_asg h (pg_tup rfl (pgs_cons (pg_name (i := 1) sc_is_literal.nd rfl (by first | exact Or.inl rfl | exact Or.inr rfl)) (pgs_cons (pg_name (i := 2) sc_is_literal.nd rfl (by first | exact Or.inl rfl | exact Or.inr rfl)) (pgs_cons (pg_name (i := 3) sc_is_literal.nd rfl (by first | exact Or.inl rfl | exact Or.inr rfl)) pgs_nil))))) (qe_v (pv 0)))
    (qb_cons (qs_if (qt_cmp (op_inP (by have := hr.units; exact this)) s_inP (qe_v (pv 1)) (qe_tup (qa_cons (qe_c (pe_glob (by rfl) A.g_POSITIVE A.v_POSITIVE) (fun _ => .str _)) (qa_cons (qe_c (pe_glob (by rfl) A.g_DENIED A.v_DENIED) (fun _ => .str _)) qa_nil))) (by with_unfolding_all rfl))
    (qb_one (qs_ret (qe_and (qe_call (f := fn_is_name) (dvs := []) wdl_nil rfl (qn_cons (qe_v (pv 2)) qn_nil) (fun h => Cv.pe_callSD (ok_is_name A) (hr.mono (by first | decide | omega)) (by rfl) A.g_is_name A.F_is_name.kp A.b_is_name .nil (fun σ => L2N.passAt tk σ) h)) (qe_one (qe_call (f := fn_are_terms) (dvs := []) wdl_nil rfl (qn_cons (qe_v (pv 3)) qn_nil) (fun h => Cv.pe_callSD (ok_are_terms A) (hr.mono (by first | decide | omega)) (by rfl) A.g_are_terms A.F_are_terms.kp A.b_are_terms .nil (fun σ => L2N.passAt tk σ) h))))))
    qb_nil)
    (qb_one (qs_ret (qe_and (qe_cmp (op_inP (by have := hr.units; exact this)) s_inP (qe_v (pv 1)) (qe_c (v := .ref A.u_SIGNS) (pe_glob (by rfl) A.g_SIGNS rfl) A.t_SIGNS.rep) (by with_unfolding_all rfl)) (qe_and (qe_call (f := fn_is_term) (dvs := []) wdl_nil rfl (qn_cons (qe_v (pv 2)) qn_nil) (fun h => Cv.pe_callSD (ok_is_term A) (hr.mono (by first | decide | omega)) (by rfl) A.g_is_term A.F_is_term.kp A.b_is_term .nil (fun σ => L2N.passAt tk σ) h)) (qe_and (qe_call (f := fn_is_term) (dvs := []) wdl_nil rfl (qn_cons (qe_v (pv 3)) qn_nil) (fun h => Cv.pe_callSD (ok_is_term A) (hr.mono (by first | decide | omega)) (by rfl) A.g_is_term A.F_is_term.kp A.b_is_term .nil (fun σ => L2N.passAt tk σ) h)) (qe_one (qe_or (qe_isi1 (n := "str") (by decide) (qe_v (pv 2)) (fun h => pe_callB call_isiA (by rfl) A.n_isinstance (by decide +kernel) (pa_cons h (pa_cons (pe_bltn (v := .ty "str") (u := .type "str") (by rfl) A.n_str (by decide +kernel) rfl) pa_nil)))) (qe_one (qe_isi1 (n := "str") (by decide) (qe_v (pv 3)) (fun h => pe_callB call_isiA (by rfl) A.n_isinstance (by decide +kernel) (pa_cons h (pa_cons (pe_bltn (v := .ty "str") (u := .type "str") (by rfl) A.n_str (by decide +kernel) rfl) pa_nil)))))))))))))))
theorem ok_is_comparison (A : All K mg) : FnOk P w K mg base (L2N.CX P w) 1 A.f_is_comparison A.fd_is_comparison ["literal"] (spD K mg 1 fn_is_comparison) :=
  okQ (N := N_is_comparison) (F := F_is_comparison) A.F_is_comparison sc_is_comparison (by decide) fun pn cdv Ar outer s H E hr tk hpo =>
    (qb_one (qs_ret (qe_cmp (op_inP (by have := hr.units; exact this)) s_inP (qe_ix ix_seq s_ix (qe_v (pv 0)) qe_int (fun _ _ => rfl)) (qe_c (v := .ref A.u_SIGNS) (pe_glob (by rfl) A.g_SIGNS rfl) A.t_SIGNS.rep) (by with_unfolding_all rfl))))
theorem ok_terms_of (A : All K mg) : FnOk P w K mg base (L2N.CX P w) 2 A.f_terms_of A.fd_terms_of ["literal"] (spD K mg 1 fn_terms_of) :=
  okQ (N := N_terms_of) (F := F_terms_of) A.F_terms_of sc_terms_of (by decide) fun pn cdv Ar outer s H E hr tk hpo =>
    (qb_one (qs_ret (qe_ite (qt_val (qe_call (f := fn_is_comparison) (dvs := []) wdl_nil rfl (qn_cons (qe_v (pv 0)) qn_nil) (fun h => Cv.pe_callSD (ok_is_comparison A) (hr.mono (by first | decide | omega)) (by rfl) A.g_is_comparison A.F_is_comparison.kp A.b_is_comparison .nil (fun σ => L2N.passAt tk σ) h))) (qe_sl (qe_v (pv 0)) (qo_some qe_int) qo_none) (qe_ix ix_seq s_ix (qe_v (pv 0)) qe_int (fun _ _ => rfl)))))
theorem ok_variables_in (A : All K mg) : FnOk P w K mg base (L2N.CX P w) 3 A.f_variables_in A.fd_variables_in ["literals"] (spD K mg 1 fn_variables_in) :=
  okQ (N := N_variables_in) (F := F_variables_in) A.F_variables_in sc_variables_in (by decide) fun pn cdv Ar outer s H E hr tk hpo =>
    (qb_cons (qs_setN (i := 1) (by decide) (fun h => ps_set (i := 1) sc_variables_in.nd rfl (by first | exact Or.inl rfl | exact Or.inr rfl) h) (qn_lst qa_nil))
    (qb_cons (qs_forL (g := (gN 2)) tg_name hpo rfl (qil_any (qe_v (pv 0))) (pg_name (i := 2) sc_variables_in.nd rfl (by first | exact Or.inl rfl | exact Or.inr rfl))
    (qb_one (qs_for (g := (gN 3)) tg_name hpo rfl (qi_any (qe_call (f := fn_terms_of) (dvs := []) wdl_nil rfl (qn_cons (qe_v (pv 2)) qn_nil) (fun h => Cv.pe_callSD (ok_terms_of A) (hr.mono (by first | decide | omega)) (by rfl) A.g_terms_of A.F_terms_of.kp A.b_terms_of .nil (fun σ => L2N.passAt tk σ) h))) (pg_name (i := 3) sc_variables_in.nd rfl (by first | exact Or.inl rfl | exact Or.inr rfl))
    (qb_one (qs_if (qt_w (qw_and (qt_val (qe_isi1 (n := "str") (by decide) (qe_v (pv 3)) (fun h => pe_callB call_isiA (by rfl) A.n_isinstance (by decide +kernel) (pa_cons h (pa_cons (pe_bltn (v := .ty "str") (u := .type "str") (by rfl) A.n_str (by decide +kernel) rfl) pa_nil))))) (qw_and1 (qt_inOwn (i := 1) (op_notInP (by have := hr.units; exact this)) (qe_v (pv 3)) (pv 1) (by with_unfolding_all rfl)))))
    (qb_one (qs_ownM (i := 1) l_append (qa_cons (qe_v (pv 3)) qa_nil) (fun h => ps_expr (pe_bm PySem.F.plainAttrs_list PySem.F.slot_list_append PySem.F.type_list_append mt_append (pv 1) h))))
    qb_nil)))))
    (qb_one (qs_frz (i := 1) (qs_ret (qe_v (pv 1)))))))
theorem ok_require_literals (A : All K mg) : FnOk P w K mg base (L2N.CX P w) 5 A.f_require_literals A.fd_require_literals ["literals"] (spD K mg 1 fn_require_literals) :=
  okQ (N := N_require_literals) (F := F_require_literals) A.F_require_literals sc_require_literals (by decide) fun pn cdv Ar outer s H E hr tk hpo =>
    (qb_cons (qs_if (qt_w (qw_or (qt_not (qt_val (qe_isiT (ns := ["list", "tuple"]) (by decide) (by decide) (qe_v (pv 0)) (fun h => pe_callB call_isiA (by rfl) A.n_isinstance (by decide +kernel) (pa_cons h (pa_cons (pe_tup (pa_cons (pe_bltn (v := .ty "list") (u := .type "list") (by rfl) A.n_list (by decide +kernel) rfl) (pa_cons (pe_bltn (v := .ty "tuple") (u := .type "tuple") (by rfl) A.n_tuple (by decide +kernel) rfl) pa_nil))) pa_nil)))))) (qw_or1 (qt_not (qt_chain op_le op_le (s_cmp (p := fun i j => decide (i ≤ j))) (s_cmp (p := fun i j => decide (i ≤ j))) qe_int (qe_callB s_len (qa_cons (qe_v (pv 0)) qa_nil) (fun h => pe_callB call_lenA (by rfl) A.n_len (by decide +kernel) h)) (qe_c (pe_glob (by rfl) A.g_MOST_LITERALS A.v_MOST_LITERALS) (fun _ => .int _)))))))
    (qb_one (qs_raise A.gc_InvalidQuery A.e_InvalidQuery.ox (A.hf_InvalidQuery) (by decide) (qa_cons qe_str (qa_cons (qe_un un_neg s_neg qe_int) qa_nil)) (fun h => L2N.ps_raise rfl tk (pmkN_own A.e_InvalidQuery.ox A.ii_InvalidQuery A.ti_InvalidQuery (ok_InvalidQuery___init__ A) (hr.mono (by first | decide | omega)) A.b_InvalidQuery___init__ pass0 (by rfl) A.gc_InvalidQuery h))))
    qb_nil)
    (qb_one (qs_forL (g := (gTup 2 (gCons (gN 1) (gCons (gN 2) gNil)))) (tg_tup (tgs_cons tg_name (tgs_cons tg_name tgs_nil))) hpo rfl (qil_enum (by rfl) A.n_enumerate (qe_v (pv 0))) (pg_tup rfl (pgs_cons (pg_name (i := 1) sc_require_literals.nd rfl (by first | exact Or.inl rfl | exact Or.inr rfl)) (pgs_cons (pg_name (i := 2) sc_require_literals.nd rfl (by first | exact Or.inl rfl | exact Or.inr rfl)) pgs_nil)))
    (qb_one (qs_if (qt_not (qt_val (qe_call (f := fn_is_literal) (dvs := []) wdl_nil rfl (qn_cons (qe_v (pv 2)) qn_nil) (fun h => Cv.pe_callSD (ok_is_literal A) (hr.mono (by first | decide | omega)) (by rfl) A.g_is_literal A.F_is_literal.kp A.b_is_literal .nil (fun σ => L2N.passAt tk σ) h))))
    (qb_one (qs_raise A.gc_InvalidQuery A.e_InvalidQuery.ox (A.hf_InvalidQuery) (by decide) (qa_cons qe_str (qa_cons (qe_v (pv 1)) qa_nil)) (fun h => L2N.ps_raise rfl tk (pmkN_own A.e_InvalidQuery.ox A.ii_InvalidQuery A.ti_InvalidQuery (ok_InvalidQuery___init__ A) (hr.mono (by first | decide | omega)) A.b_InvalidQuery___init__ pass0 (by rfl) A.gc_InvalidQuery h))))
    qb_nil)))))
theorem ok_is_order (A : All K mg) : FnOk P w K mg base (L2N.CX P w) 1 A.f_is_order A.fd_is_order ["value", "variables"] (spD K mg 2 fn_is_order) :=
  okQ (N := N_is_order) (F := F_is_order) A.F_is_order sc_is_order (by decide) fun pn cdv Ar outer s H E hr tk hpo =>
    (qb_one (qs_ret (qe_and (qe_isi1 (n := "tuple") (by decide) (qe_v (pv 0)) (fun h => pe_callB call_isiA (by rfl) A.n_isinstance (by decide +kernel) (pa_cons h (pa_cons (pe_bltn (v := .ty "tuple") (u := .type "tuple") (by rfl) A.n_tuple (by decide +kernel) rfl) pa_nil)))) (qe_and (qe_cmp (op_eqP (by have := hr.units; exact this)) s_eqP (qe_callB s_len (qa_cons (qe_v (pv 0)) qa_nil) (fun h => pe_callB call_lenA (by rfl) A.n_len (by decide +kernel) h)) (qe_callB s_len (qa_cons (qe_v (pv 1)) qa_nil) (fun h => pe_callB call_lenA (by rfl) A.n_len (by decide +kernel) h)) (nomark _)) (qe_one (qe_callB s_all (qa_cons (qe_lcQ (g := (gN 2)) (own := [("name", 2)]) tg_name rfl (by decide) rfl sc_is_order.nd (qi_any (qe_v (pv 1))) (blkOk_by (N := N_is_order) (sc := defScope s_is_order) (by decide +kernel)) (fun _ _ _ _ _ => (pg_name (i := 2) sc_is_order.nd rfl (Or.inl rfl))) (fun _ _ _ _ _ => qtss_nil) (fun _ _ _ _ _ => (qe_cmp (op_inP (by have := hr.units; exact this)) s_inP (qe_v (pv 2)) (qe_v (pv 0)) (by with_unfolding_all rfl)))) qa_nil) (fun h => pe_callB (cr_all rfl) (by rfl) A.n_all (by decide +kernel) h)))))))
theorem ok_literal_text (A : All K mg) : FnOk P w K mg base (L2N.CX P w) 2 A.f_literal_text A.fd_literal_text ["literal"] (spD K mg 1 fn_literal_text) :=
  okQ (N := N_literal_text) (F := F_literal_text) A.F_literal_text sc_literal_text (by decide) fun pn cdv Ar outer s H E hr tk hpo =>
    (qb_cons (qs_asg (g := (gTup 3 (gCons (gN 1) (gCons (gN 2) (gCons (gN 3) gNil))))) (tg_tup (tgs_cons tg_name (tgs_cons tg_name (tgs_cons tg_name tgs_nil)))) (fun h => ps_asg h (pg_tup rfl (pgs_cons (pg_name (i := 1) sc_literal_text.nd rfl (by first | exact Or.inl rfl | exact Or.inr rfl)) (pgs_cons (pg_name (i := 2) sc_literal_text.nd rfl (by first | exact Or.inl rfl | exact Or.inr rfl)) (pgs_cons (pg_name (i := 3) sc_literal_text.nd rfl (by first | exact Or.inl rfl | exact Or.inr rfl)) pgs_nil))))) (qe_v (pv 0)))
    (qb_cons (qs_if (qt_val (qe_call (f := fn_is_comparison) (dvs := []) wdl_nil rfl (qn_cons (qe_v (pv 0)) qn_nil) (fun h => Cv.pe_callSD (ok_is_comparison A) (hr.mono (by first | decide | omega)) (by rfl) A.g_is_comparison A.F_is_comparison.kp A.b_is_comparison .nil (fun σ => L2N.passAt tk σ) h)))
    (qb_one (qs_ret (qe_joined (QJ.cons (qe_fmt (qe_v (pv 2))) (QJ.cons qe_str (QJ.cons (qe_fmt (qe_v (pv 1))) (QJ.cons qe_str (QJ.cons (qe_fmt (qe_v (pv 3))) QJ.nil))))))))
    qb_nil)
    (qb_cons (qs_set (i := 4) (fun h => ps_set (i := 4) sc_literal_text.nd rfl (by first | exact Or.inl rfl | exact Or.inr rfl) h) (qe_op op_plus s_add (qe_op op_plus s_add (qe_op op_plus s_add (qe_v (pv 2)) qe_str) (qe_strM s_join (qe_c (pe_glob (by rfl) A.g_COMMA A.v_COMMA) (fun _ => .str _)) (qa_cons (qe_lcQ (g := (gN 5)) (own := [("term", 5)]) tg_name rfl (by decide) rfl sc_literal_text.nd (qi_any (qe_v (pv 3))) (blkOk_by (N := N_literal_text) (sc := defScope s_literal_text) (by decide +kernel)) (fun _ _ _ _ _ => (pg_name (i := 5) sc_literal_text.nd rfl (Or.inl rfl))) (fun _ _ _ _ _ => qtss_nil) (fun _ _ _ _ _ => (qe_callB s_str (qa_cons (qe_v (pv 5)) qa_nil) (fun h => pe_callTy call_strA (by rfl) A.n_str (by decide +kernel) h)))) qa_nil) (fun h1 h2 => pe_bm PySem.F.plainAttrs_str PySem.F.slot_str_join PySem.F.type_str_join mt_join h1 h2))) qe_str))
    (qb_one (qs_ret (qe_ite (qt_cmp (op_eqP (by have := hr.units; exact this)) s_eqP (qe_v (pv 1)) (qe_c (pe_glob (by rfl) A.g_POSITIVE A.v_POSITIVE) (fun _ => .str _)) (nomark _)) (qe_v (pv 4)) (qe_op op_plus s_add (qe_op op_plus s_add (qe_c (pe_glob (by rfl) A.g_NOT A.v_NOT) (fun _ => .str _)) qe_str) (qe_v (pv 4)))))))))
theorem ok_query_text (A : All K mg) : FnOk P w K mg base (L2N.CX P w) 4 A.f_query_text A.fd_query_text ["literals", "order"] (spD K mg 2 fn_query_text) :=
  okQ (N := N_query_text) (F := F_query_text) A.F_query_text sc_query_text (by decide) fun pn cdv Ar outer s H E hr tk hpo =>
    (qb_cons (qs_set (i := 2) (fun h => ps_set (i := 2) sc_query_text.nd rfl (by first | exact Or.inl rfl | exact Or.inr rfl) h) (qe_strM s_join (qe_c (pe_glob (by rfl) A.g_BETWEEN A.v_BETWEEN) (fun _ => .str _)) (qa_cons (qe_lcQ (g := (gN 3)) (own := [("literal", 3)]) tg_name rfl (by decide) rfl sc_query_text.nd (qi_any (qe_v (pv 0))) (blkOk_by (N := N_query_text) (sc := defScope s_query_text) (by decide +kernel)) (fun _ _ _ _ _ => (pg_name (i := 3) sc_query_text.nd rfl (Or.inl rfl))) (fun _ _ _ _ _ => qtss_nil) (fun _ _ _ _ _ => (qe_call (f := fn_literal_text) (dvs := []) wdl_nil rfl (qn_cons (qe_v (pv 3)) qn_nil) (fun h => Cv.pe_callSD (ok_literal_text A) (hr.mono (by first | decide | omega)) (by rfl) A.g_literal_text A.F_literal_text.kp A.b_literal_text .nil (fun σ => L2N.passAt takesN0 σ) h)))) qa_nil) (fun h1 h2 => pe_bm PySem.F.plainAttrs_str PySem.F.slot_str_join PySem.F.type_str_join mt_join h1 h2)))
    (qb_one (qs_ret (qe_ite (qt_cmp (op_eqP (by have := hr.units; exact this)) s_eqP (qe_callB s_list (qa_cons (qe_v (pv 1)) qa_nil) (fun h => pe_callTy call_list_of (by rfl) A.n_list (by decide +kernel) h)) (qe_call (f := fn_variables_in) (dvs := []) wdl_nil rfl (qn_cons (qe_v (pv 0)) qn_nil) (fun h => Cv.pe_callSD (ok_variables_in A) (hr.mono (by first | decide | omega)) (by rfl) A.g_variables_in A.F_variables_in.kp A.b_variables_in .nil (fun σ => L2N.passAt tk σ) h)) (nomark _)) (qe_v (pv 2)) (qe_op op_plus s_add (qe_op op_plus s_add (qe_v (pv 2)) (qe_c (pe_glob (by rfl) A.g_BEFORE_ORDER A.v_BEFORE_ORDER) (fun _ => .str _))) (qe_strM s_join (qe_c (pe_glob (by rfl) A.g_COMMA A.v_COMMA) (fun _ => .str _)) (qa_cons (qe_v (pv 1)) qa_nil) (fun h1 h2 => pe_bm PySem.F.plainAttrs_str PySem.F.slot_str_join PySem.F.type_str_join mt_join h1 h2)))))))
theorem ok_Query___init__ (A : All K mg) : FnOk P w K mg base (L2N.CX P w) 6 A.f_Query___init__ A.fd_Query___init__ ["self", "literals", "order"] (spI K mg "Query" 2 fi_Query) :=
  okID (C := "Query") (N := N_Query___init__) (F := F_Query___init__) A.F_Query___init__ sc_Query___init__ (by decide) fun pn cdv Ar outer s H E hr tk hpo =>
    (qb_cons (qs_expr (qe_call (f := fn_require_literals) (dvs := []) wdl_nil rfl (qn_cons (qe_v (pv 1)) qn_nil) (fun h => Cv.pe_callSD (ok_require_literals A) (hr.mono (by first | decide | omega)) (by rfl) A.g_require_literals A.F_require_literals.kp A.b_require_literals .nil (fun σ => L2N.passAt tk σ) h)))
    (qb_cons (qs_set (i := 3) (fun h => ps_set (i := 3) sc_Query___init__.nd rfl (by first | exact Or.inl rfl | exact Or.inr rfl) h) (qe_call (f := fn_variables_in) (dvs := []) wdl_nil rfl (qn_cons (qe_v (pv 1)) qn_nil) (fun h => Cv.pe_callSD (ok_variables_in A) (hr.mono (by first | decide | omega)) (by rfl) A.g_variables_in A.F_variables_in.kp A.b_variables_in .nil (fun σ => L2N.passAt tk σ) h)))
    (qb_cons (qs_if (qt_cmp op_gt (s_cmp (p := fun i j => decide (j < i))) (qe_callB s_len (qa_cons (qe_v (pv 3)) qa_nil) (fun h => pe_callB call_lenA (by rfl) A.n_len (by decide +kernel) h)) (qe_c (pe_glob (by rfl) A.g_MOST_VARIABLES A.v_MOST_VARIABLES) (fun _ => .int _)) (nomark _))
    (qb_one (qs_raise A.gc_InvalidQuery A.e_InvalidQuery.ox (A.hf_InvalidQuery) (by decide) (qa_cons qe_str (qa_cons (qe_un un_neg s_neg qe_int) qa_nil)) (fun h => L2N.ps_raise rfl tk (pmkN_own A.e_InvalidQuery.ox A.ii_InvalidQuery A.ti_InvalidQuery (ok_InvalidQuery___init__ A) (hr.mono (by first | decide | omega)) A.b_InvalidQuery___init__ pass0 (by rfl) A.gc_InvalidQuery h))))
    qb_nil)
    (qb_cons (qs_if (qt_w (qw_and (qt_cmp op_notN s_notN (qe_v (pv 2)) qe_non (nomark _)) (qw_and1 (qt_not (qt_val (qe_call (f := fn_is_order) (dvs := []) wdl_nil rfl (qn_cons (qe_v (pv 2)) (qn_cons (qe_v (pv 3)) qn_nil)) (fun h => Cv.pe_callSD (ok_is_order A) (hr.mono (by first | decide | omega)) (by rfl) A.g_is_order A.F_is_order.kp A.b_is_order .nil (fun σ => L2N.passAt tk σ) h)))))))
    (qb_one (qs_raise A.gc_InvalidQuery A.e_InvalidQuery.ox (A.hf_InvalidQuery) (by decide) (qa_cons qe_str (qa_cons (qe_un un_neg s_neg qe_int) qa_nil)) (fun h => L2N.ps_raise rfl tk (pmkN_own A.e_InvalidQuery.ox A.ii_InvalidQuery A.ti_InvalidQuery (ok_InvalidQuery___init__ A) (hr.mono (by first | decide | omega)) A.b_InvalidQuery___init__ pass0 (by rfl) A.gc_InvalidQuery h))))
    qb_nil)
    (qb_cons (qs_selfPut (i := 0) (fld1 A.gc_Query A.cl_Query A.nf_Query_own_literals) (qe_callB s_list (qa_cons (qe_v (pv 1)) qa_nil) (fun h => pe_callTy call_list_of (by rfl) A.n_list (by decide +kernel) h)) (fun h => ps_fld (pv 0) h rfl))
    (qb_cons (qs_selfPut (i := 0) (fld1 A.gc_Query A.cl_Query A.nf_Query_own_order) (qe_ite (qt_cmp op_isN s_isN (qe_v (pv 2)) qe_non (nomark _)) (qe_callB s_tuple (qa_cons (qe_v (pv 3)) qa_nil) (fun h => pe_callTy call_tuple_of (by rfl) A.n_tuple (by decide +kernel) h)) (qe_v (pv 2))) (fun h => ps_fld (pv 0) h rfl))
    (qb_one (qs_selfPut (i := 0) (fld1 A.gc_Query A.cl_Query A.nf_Query_own_text) (qe_call (f := fn_query_text) (dvs := []) wdl_nil rfl (qn_cons (qe_self (i := 0) (fld1 A.gc_Query A.cl_Query A.nf_Query_own_literals) (pe_fld (pv 0) rfl)) (qn_cons (qe_self (i := 0) (fld1 A.gc_Query A.cl_Query A.nf_Query_own_order) (pe_fld (pv 0) rfl)) qn_nil)) (fun h => Cv.pe_callSD (ok_query_text A) (hr.mono (by first | decide | omega)) (by rfl) A.g_query_text A.F_query_text.kp A.b_query_text .nil (fun σ => L2N.passAt tk σ) h)) (fun h => ps_fld (pv 0) h rfl)))))))))
theorem ok_Query___len__ (A : All K mg) : FnOk P w K mg base (L2N.CX P w) 1 A.f_Query___len__ A.fd_Query___len__ ["self"] (spD K mg 1 fn_Query___len__) :=
  okQ (N := N_Query___len__) (F := F_Query___len__) A.F_Query___len__ sc_Query___len__ (by decide) fun pn cdv Ar outer s H E hr tk hpo =>
    (qb_one (qs_ret (qe_callB s_len (qa_cons (qe_attr (fld1 A.gc_Query A.cl_Query A.nf_Query_own_literals) (qe_v (pv 0)) (fun h => pe_fld h rfl)) qa_nil) (fun h => pe_callB call_lenA (by rfl) A.n_len (by decide +kernel) h))))
theorem ok_Query_literals (A : All K mg) : FnOk P w K mg base (L2N.CX P w) 1 A.f_Query_literals A.fd_Query_literals ["self"] (spD K mg 1 fn_Query_literals) :=
  okQ (N := N_Query_literals) (F := F_Query_literals) A.F_Query_literals sc_Query_literals (by decide) fun pn cdv Ar outer s H E hr tk hpo =>
    (qb_one (qs_ret (qe_callB s_list (qa_cons (qe_attr (fld1 A.gc_Query A.cl_Query A.nf_Query_own_literals) (qe_v (pv 0)) (fun h => pe_fld h rfl)) qa_nil) (fun h => pe_callTy call_list_of (by rfl) A.n_list (by decide +kernel) h))))
theorem ok_Query_literals_r (A : All K mg) : FnOk P w K mg base (L2N.CX P w) 1 A.f_Query_literals A.fd_Query_literals ["self"] (spD K mg 1 fn_Query_literals_r) :=
  okQ (N := N_Query_literals) (F := F_Query_literals_r) A.F_Query_literals sc_Query_literals (by decide) fun pn cdv Ar outer s H E hr tk hpo =>
    (qb_one (qs_ret (qe_ref (qn_list (qe_attr (fld1 A.gc_Query A.cl_Query A.nf_Query_own_literals) (qe_v (pv 0)) (fun h => pe_fld h rfl)) (fun h => pe_callTy call_list_of (by rfl) A.n_list (by decide +kernel) (pa_cons h pa_nil))))))
theorem ok_Query_variables (A : All K mg) : FnOk P w K mg base (L2N.CX P w) 1 A.f_Query_variables A.fd_Query_variables ["self"] (spD K mg 1 fn_Query_variables) :=
  okQ (N := N_Query_variables) (F := F_Query_variables) A.F_Query_variables sc_Query_variables (by decide) fun pn cdv Ar outer s H E hr tk hpo =>
    (qb_one (qs_ret (qe_attr (fld1 A.gc_Query A.cl_Query A.nf_Query_own_order) (qe_v (pv 0)) (fun h => pe_fld h rfl))))
end
end D31

namespace D31
open PySem PySem.Spec PyProof.Rows L2 Cv Dv Dv.Sh
section
variable {P : Program} {w : World} {K : PySem.W.Frag} {mg : Str → Option Value} {base : Heap}
theorem ok__law_pot (A : All K mg) : FnOk P w K mg base (L2N.CX P w) 1 A.f__law_pot A.fd__law_pot ["_law_script", "_law_k"] (spD K mg 2 fn__law_pot) :=
  okQ (N := N__law_pot) (F := F__law_pot) A.F__law_pot sc__law_pot (by decide) fun pn cdv Ar outer s H E hr tk hpo =>
    (qb_cons (qs_set (i := 2) (fun h => ps_set (i := 2) sc__law_pot.nd rfl (by first | exact Or.inl rfl | exact Or.inr rfl) h) (qe_ite (qt_cmp op_lt (s_cmp (p := fun i j => decide (i < j))) (qe_v (pv 1)) (qe_callB s_len (qa_cons (qe_v (pv 0)) qa_nil) (fun h => pe_callB call_lenA (by rfl) A.n_len (by decide +kernel) h)) (nomark _)) (qe_callB s_abs (qa_cons (qe_ix ix_seq s_ix (qe_v (pv 0)) (qe_v (pv 1)) (fun _ _ => rfl)) qa_nil) (fun h => pe_callB call_abs (by rfl) A.n_abs (by decide +kernel) h)) qe_int))
    (qb_cons (qs_set (i := 3) (fun h => ps_set (i := 3) sc__law_pot.nd rfl (by first | exact Or.inl rfl | exact Or.inr rfl) h) (qe_op op_plus s_add (qe_op op_mod s_mod (qe_callB s_int (qa_cons (qe_op op_pow s_pow (qe_op op_plus s_add (qe_op op_plus s_add (qe_op op_mod s_mod (qe_callB s_int (qa_cons (qe_v (pv 2)) qa_nil) (fun h => pe_callTy call_intA (by rfl) A.n_int (by decide +kernel) h)) qe_int) (qe_op op_timesT s_mulT qe_int (qe_v (pv 1)))) qe_int) qe_int) qa_nil) (fun h => pe_callTy call_intA (by rfl) A.n_int (by decide +kernel) h)) qe_int) qe_int))
    (qb_one (qs_ret (qe_ref (qn_lst (qa_cons (qe_callB s_max2 (qa_cons qe_int (qa_cons (qe_op op_sub s_sub (qe_v (pv 2)) (qe_op op_pow s_pow qe_int qe_int)) qa_nil)) (fun h => pe_callB (call_max2 rfl) (by rfl) A.n_max (by decide +kernel) h)) (qa_cons (qe_v (pv 3)) qa_nil))))))))
theorem ok__law_take (A : All K mg) : FnOk P w K mg base (L2N.CX P w) 1 A.f__law_take A.fd__law_take ["_law_pot_here", "_law_many"] (spD K mg 2 fn__law_take) :=
  okQ (N := N__law_take) (F := F__law_take) A.F__law_take sc__law_take (by decide) fun pn cdv Ar outer s H E hr tk hpo =>
    (qb_cons (qs_if (qt_cmp op_gt (s_cmp (p := fun i j => decide (j < i))) (qe_ix ix_seq s_ix (qe_v (pv 0)) qe_int (fun _ _ => rfl)) qe_int (nomark _))
    (qb_cons (qs_set (i := 2) (fun h => ps_set (i := 2) sc__law_take.nd rfl (by first | exact Or.inl rfl | exact Or.inr rfl) h) (qe_op op_mod s_mod (qe_callB s_int (qa_cons (qe_ix ix_seq s_ix (qe_v (pv 0)) qe_int (fun _ _ => rfl)) qa_nil) (fun h => pe_callTy call_intA (by rfl) A.n_int (by decide +kernel) h)) (qe_v (pv 1))))
    (qb_cons (qs_put (qe_op op_fdivW s_fdiv (qe_ix ix_seq s_ix (qe_v (pv 0)) qe_int (fun _ _ => rfl)) (qe_v (pv 1))) (qe_v (pv 0)) qe_int (fun h1 h2 h3 => ps_asg h1 (pg_sub h2 h3 set_list)))
    (qb_one (qs_ret (qe_v (pv 2))))))
    qb_nil)
    (qb_cons (qs_put (qe_op op_mod s_mod (qe_callB s_int (qa_cons (qe_op op_plus s_add (qe_op op_timesT s_mulT (qe_ix ix_seq s_ix (qe_v (pv 0)) qe_int (fun _ _ => rfl)) qe_int) qe_int) qa_nil) (fun h => pe_callTy call_intA (by rfl) A.n_int (by decide +kernel) h)) qe_int) (qe_v (pv 0)) qe_int (fun h1 h2 h3 => ps_asg h1 (pg_sub h2 h3 set_list)))
    (qb_one (qs_ret (qe_op op_mod s_mod (qe_callB s_int (qa_cons (qe_op op_fdivW s_fdiv (qe_op op_mod s_mod (qe_callB s_int (qa_cons (qe_op op_timesT s_mulT (qe_ix ix_seq s_ix (qe_v (pv 0)) qe_int (fun _ _ => rfl)) (qe_ix ix_seq s_ix (qe_v (pv 0)) qe_int (fun _ _ => rfl))) qa_nil) (fun h => pe_callTy call_intA (by rfl) A.n_int (by decide +kernel) h)) qe_int) qe_int) qa_nil) (fun h => pe_callTy call_intA (by rfl) A.n_int (by decide +kernel) h)) (qe_v (pv 1)))))))
theorem ok__law_pick (A : All K mg) : FnOk P w K mg base (L2N.CX P w) 2 A.f__law_pick A.fd__law_pick ["_law_pot_here", "_law_some"] (spD K mg 2 fn__law_pick) :=
  okQ (N := N__law_pick) (F := F__law_pick) A.F__law_pick sc__law_pick (by decide) fun pn cdv Ar outer s H E hr tk hpo =>
    (qb_one (qs_ret (qe_ix ix_seq s_ix (qe_v (pv 1)) (qe_call (f := fn__law_take) (dvs := []) wdl_nil rfl (qn_cons (qe_v (pv 0)) (qn_cons (qe_callB s_len (qa_cons (qe_v (pv 1)) qa_nil) (fun h => pe_callB call_lenA (by rfl) A.n_len (by decide +kernel) h)) qn_nil)) (fun h => Cv.pe_callSD (ok__law_take A) (hr.mono (by first | decide | omega)) (by rfl) A.g__law_take A.F__law_take.kp A.b__law_take .nil (fun σ => L2N.passAt tk σ) h)) (fun _ _ => rfl))))
theorem ok__law_word (A : All K mg) : FnOk P w K mg base (L2N.CX P w) 3 A.f__law_word A.fd__law_word ["_law_pot_here", "_law_first"] (spD K mg 2 fn__law_word) :=
  okQ (N := N__law_word) (F := F__law_word) A.F__law_word sc__law_word (by decide) fun pn cdv Ar outer s H E hr tk hpo =>
    (qb_cons (qs_set (i := 2) (fun h => ps_set (i := 2) sc__law_word.nd rfl (by first | exact Or.inl rfl | exact Or.inr rfl) h) (qe_call (f := fn__law_pick) (dvs := []) wdl_nil rfl (qn_cons (qe_v (pv 0)) (qn_cons (qe_lst (qa_cons qe_int (qa_cons qe_int (qa_cons qe_int (qa_cons qe_int (qa_cons qe_int qa_nil)))))) qn_nil)) (fun h => Cv.pe_callSD (ok__law_pick A) (hr.mono (by first | decide | omega)) (by rfl) A.g__law_pick A.F__law_pick.kp A.b__law_pick .nil (fun σ => L2N.passAt tk σ) h)))
    (qb_one (qs_ret (qe_op op_plus s_add (qe_v (pv 1)) (qe_strM s_join qe_str (qa_cons (qe_lcQ (g := (gN 3)) (own := [("_law_at", 3)]) tg_name rfl (by decide) rfl sc__law_word.nd (qi_rng1 (fun h => pi_range1 (by rfl) A.n_range h) (qa_cons (qe_v (pv 2)) qa_nil)) (blkOk_by (N := N__law_word) (sc := defScope s__law_word) (by decide +kernel)) (fun _ _ _ _ _ => (pg_name (i := 3) sc__law_word.nd rfl (Or.inl rfl))) (fun _ _ _ _ _ => qtss_nil) (fun _ _ _ _ _ => (qe_ix ix_seq s_ix qe_str (qe_call (f := fn__law_take) (dvs := []) wdl_nil rfl (qn_cons (qe_v (pv 0)) (qn_cons qe_int qn_nil)) (fun h => Cv.pe_callSD (ok__law_take A) (hr.mono (by first | decide | omega)) (by rfl) A.g__law_take A.F__law_take.kp A.b__law_take .nil (fun σ => L2N.passAt takesN0 σ) h)) (fun _ _ => rfl)))) qa_nil) (fun h1 h2 => pe_bm PySem.F.plainAttrs_str PySem.F.slot_str_join PySem.F.type_str_join mt_join h1 h2))))))
theorem ok__law_mixed (A : All K mg) : FnOk P w K mg base (L2N.CX P w) 2 A.f__law_mixed A.fd__law_mixed ["_law_pot_here", "_law_some"] (spD K mg 2 fn__law_mixed) :=
  okQ (N := N__law_mixed) (F := F__law_mixed) A.F__law_mixed sc__law_mixed (by decide) fun pn cdv Ar outer s H E hr tk hpo =>
    (qb_cons (qs_par (i := 2) (j := 3) (qa_cons (qe_ref (qn_list (qe_v (pv 1)) (fun h => pe_callTy call_list_of (by rfl) A.n_list (by decide +kernel) (pa_cons h pa_nil)))) (qa_cons (qe_ref (qn_lst qa_nil)) qa_nil)) (fun h => ps_par (i := 2) (j := 3) rfl sc__law_mixed.nd rfl rfl (by decide) rfl rfl h (by rfl)))
    (qb_cons (qs_while 100 hpo (qt_cmp (op_neP (by have := hr.units; exact this)) s_eqP (qe_v (pv 2)) (qe_lst qa_nil) (nomark _))
    (qb_one (qs_expr (qe_refM l_append (qe_v (pv 3)) (qa_cons (qe_refM l_popAt (qe_v (pv 2)) (qa_cons (qe_call (f := fn__law_take) (dvs := []) wdl_nil rfl (qn_cons (qe_v (pv 0)) (qn_cons (qe_callB s_len (qa_cons (qe_v (pv 2)) qa_nil) (fun h => pe_callB call_lenA (by rfl) A.n_len (by decide +kernel) h)) qn_nil)) (fun h => Cv.pe_callSD (ok__law_take A) (hr.mono (by first | decide | omega)) (by rfl) A.g__law_take A.F__law_take.kp A.b__law_take .nil (fun σ => L2N.passAt tk σ) h)) qa_nil) (fun h1 h2 => pe_bm PySem.F.plainAttrs_list PySem.F.slot_list_pop PySem.F.type_list_pop mt_popAt h1 h2)) qa_nil) (fun h1 h2 => pe_bm PySem.F.plainAttrs_list PySem.F.slot_list_append PySem.F.type_list_append mt_append h1 h2)))))
    (qb_one (qs_ret (qe_v (pv 3))))))
noncomputable def F__law_term : Ds :=
    (fSeq (fIf (fT (fOp (dEq false) (fCallD fn__law_take [] (fCons (fVar 0) (fCons (fC (.int 3)) fNil))) (fC (.int 0))))
    (fRet (fCallD fn__law_pick [] (fCons (fVar 0) (fCons (fLst (fCons (fC (.int 0)) (fCons (fC (.int 1)) (fCons (fC (.int 1023)) (fCons (fCallD fn__law_take [] (fCons (fVar 0) (fCons (fC (.int 1024)) fNil))) fNil))))) fNil))))
    fSkip)
    (fRet (fCallD fn__law_pick [] (fCons (fVar 0) (fCons (fVar 1) fNil)))))
noncomputable def fn__law_term : Fn := fnB 2 F__law_term
theorem ok__law_term (A : All K mg) : FnOk P w K mg base (L2N.CX P w) 3 A.f__law_term A.fd__law_term ["_law_pot_here", "_law_names"] (spD K mg 2 fn__law_term) :=
  okQ (N := N__law_term) (F := F__law_term) A.F__law_term sc__law_term (by decide) fun pn cdv Ar outer s H E hr tk hpo =>
    (qb_cons (qs_if (qt_cmp (op_eqP (by have := hr.units; exact this)) s_eqP (qe_call (f := fn__law_take) (dvs := []) wdl_nil rfl (qn_cons (qe_v (pv 0)) (qn_cons qe_int qn_nil)) (fun h => Cv.pe_callSD (ok__law_take A) (hr.mono (by first | decide | omega)) (by rfl) A.g__law_take A.F__law_take.kp A.b__law_take .nil (fun σ => L2N.passAt tk σ) h)) qe_int (nomark _))
    (qb_one (qs_ret (qe_call (f := fn__law_pick) (dvs := []) wdl_nil rfl (qn_cons (qe_v (pv 0)) (qn_cons (qe_lst (qa_cons qe_int (qa_cons qe_int (qa_cons qe_int (qa_cons (qe_call (f := fn__law_take) (dvs := []) wdl_nil rfl (qn_cons (qe_v (pv 0)) (qn_cons qe_int qn_nil)) (fun h => Cv.pe_callSD (ok__law_take A) (hr.mono (by first | decide | omega)) (by rfl) A.g__law_take A.F__law_take.kp A.b__law_take .nil (fun σ => L2N.passAt tk σ) h)) qa_nil))))) qn_nil)) (fun h => Cv.pe_callSD (ok__law_pick A) (hr.mono (by first | decide | omega)) (by rfl) A.g__law_pick A.F__law_pick.kp A.b__law_pick .nil (fun σ => L2N.passAt tk σ) h))))
    qb_nil)
    (qb_one (qs_ret (qe_call (f := fn__law_pick) (dvs := []) wdl_nil rfl (qn_cons (qe_v (pv 0)) (qn_cons (qe_v (pv 1)) qn_nil)) (fun h => Cv.pe_callSD (ok__law_pick A) (hr.mono (by first | decide | omega)) (by rfl) A.g__law_pick A.F__law_pick.kp A.b__law_pick .nil (fun σ => L2N.passAt tk σ) h)))))
noncomputable def F__law_literal : Ds :=
    (fSeq (fSet 2 (fCallD fn__law_take [] (fCons (fVar 0) (fCons (fC (.int 8)) fNil))))
    (fSeq (fIf (fT (fOp (dCmp fun i j => decide (j < i)) (fVar 2) (fC (.int 5))))
    (fSeq (fSet 3 (fCallD fn__law_mixed [] (fCons (fVar 0) (fCons (fLst (fCons (fCallD fn__law_pick [] (fCons (fVar 0) (fCons (fVar 1) fNil))) (fCons (fCallD fn__law_term [] (fCons (fVar 0) (fCons (fVar 1) fNil))) fNil))) fNil))))
    (fRet (fTup (fCons (fCallD fn__law_pick [] (fCons (fVar 0) (fCons (fLst (fCons (fC (.str "<")) (fCons (fC (.str "<=")) (fCons (fC (.str "=")) (fCons (fC (.str "!=")) fNil))))) fNil))) (fCons (fOp dIx (fVar 3) (fC (.int 0))) (fCons (fOp dIx (fVar 3) (fC (.int 1))) fNil))))))
    fSkip)
    (fSeq (fSet 3 (fCall dTuple (fCons (fComp (fRng rng1Of (fCons (fOp dAdd (fC (.int 1)) (fCallD fn__law_take [] (fCons (fVar 0) (fCons (fC (.int 4)) fNil)))) fNil)) (gN 4) fYes (fCallD fn__law_term [] (fCons (fVar 0) (fCons (fVar 1) fNil))) [4]) fNil)))
    (fRet (fTup (fCons (fOp dIx (fLst (fCons (fC (.str "row")) (fCons (fC (.str "none")) fNil))) (fCall dInt (fCons (fOp (dCmp fun i j => decide (j < i)) (fVar 2) (fC (.int 3))) fNil))) (fCons (fCallD fn__law_word [] (fCons (fVar 0) (fCons (fCallD fn__law_pick [] (fCons (fVar 0) (fCons (fC (.str "acd")) fNil))) fNil))) (fCons (fVar 3) fNil))))))))
noncomputable def fn__law_literal : Fn := fnB 5 F__law_literal
theorem ok__law_literal (A : All K mg) : FnOk P w K mg base (L2N.CX P w) 4 A.f__law_literal A.fd__law_literal ["_law_pot_here", "_law_names"] (spD K mg 2 fn__law_literal) :=
  okQ (N := N__law_literal) (F := F__law_literal) A.F__law_literal sc__law_literal (by decide) fun pn cdv Ar outer s H E hr tk hpo =>
    (qb_cons (qs_set (i := 2) (fun h => ps_set (i := 2) sc__law_literal.nd rfl (by first | exact Or.inl rfl | exact Or.inr rfl) h) (qe_call (f := fn__law_take) (dvs := []) wdl_nil rfl (qn_cons (qe_v (pv 0)) (qn_cons qe_int qn_nil)) (fun h => Cv.pe_callSD (ok__law_take A) (hr.mono (by first | decide | omega)) (by rfl) A.g__law_take A.F__law_take.kp A.b__law_take .nil (fun σ => L2N.passAt tk σ) h)))
    (qb_cons (qs_if (qt_cmp op_gt (s_cmp (p := fun i j => decide (j < i))) (qe_v (pv 2)) qe_int (nomark _))
    (qb_cons (qs_set (i := 3) (fun h => ps_set (i := 3) sc__law_literal.nd rfl (by first | exact Or.inl rfl | exact Or.inr rfl) h) (qe_call (f := fn__law_mixed) (dvs := []) wdl_nil rfl (qn_cons (qe_v (pv 0)) (qn_cons (qe_lst (qa_cons (qe_call (f := fn__law_pick) (dvs := []) wdl_nil rfl (qn_cons (qe_v (pv 0)) (qn_cons (qe_v (pv 1)) qn_nil)) (fun h => Cv.pe_callSD (ok__law_pick A) (hr.mono (by first | decide | omega)) (by rfl) A.g__law_pick A.F__law_pick.kp A.b__law_pick .nil (fun σ => L2N.passAt tk σ) h)) (qa_cons (qe_call (f := fn__law_term) (dvs := []) wdl_nil rfl (qn_cons (qe_v (pv 0)) (qn_cons (qe_v (pv 1)) qn_nil)) (fun h => Cv.pe_callSD (ok__law_term A) (hr.mono (by first | decide | omega)) (by rfl) A.g__law_term A.F__law_term.kp A.b__law_term .nil (fun σ => L2N.passAt tk σ) h)) qa_nil))) qn_nil)) (fun h => Cv.pe_callSD (ok__law_mixed A) (hr.mono (by first | decide | omega)) (by rfl) A.g__law_mixed A.F__law_mixed.kp A.b__law_mixed .nil (fun σ => L2N.passAt tk σ) h)))
    (qb_one (qs_ret (qe_tup (qa_cons (qe_call (f := fn__law_pick) (dvs := []) wdl_nil rfl (qn_cons (qe_v (pv 0)) (qn_cons (qe_lst (qa_cons qe_str (qa_cons qe_str (qa_cons qe_str (qa_cons qe_str qa_nil))))) qn_nil)) (fun h => Cv.pe_callSD (ok__law_pick A) (hr.mono (by first | decide | omega)) (by rfl) A.g__law_pick A.F__law_pick.kp A.b__law_pick .nil (fun σ => L2N.passAt tk σ) h)) (qa_cons (qe_ix ix_seq s_ix (qe_v (pv 3)) qe_int (fun _ _ => rfl)) (qa_cons (qe_ix ix_seq s_ix (qe_v (pv 3)) qe_int (fun _ _ => rfl)) qa_nil)))))))
    qb_nil)
    (qb_cons (qs_set (i := 3) (fun h => ps_set (i := 3) sc__law_literal.nd rfl (by first | exact Or.inl rfl | exact Or.inr rfl) h) (qe_callB s_tuple (qa_cons (qe_lcQ (g := (gN 4)) (own := [("_law_at", 4)]) tg_name rfl (by decide) rfl sc__law_literal.nd (qi_rng1 (fun h => pi_range1 (by rfl) A.n_range h) (qa_cons (qe_op op_plus s_add qe_int (qe_call (f := fn__law_take) (dvs := []) wdl_nil rfl (qn_cons (qe_v (pv 0)) (qn_cons qe_int qn_nil)) (fun h => Cv.pe_callSD (ok__law_take A) (hr.mono (by first | decide | omega)) (by rfl) A.g__law_take A.F__law_take.kp A.b__law_take .nil (fun σ => L2N.passAt tk σ) h))) qa_nil)) (blkOk_by (N := N__law_literal) (sc := defScope s__law_literal) (by decide +kernel)) (fun _ _ _ _ _ => (pg_name (i := 4) sc__law_literal.nd rfl (Or.inl rfl))) (fun _ _ _ _ _ => qtss_nil) (fun _ _ _ _ _ => (qe_call (f := fn__law_term) (dvs := []) wdl_nil rfl (qn_cons (qe_v (pv 0)) (qn_cons (qe_v (pv 1)) qn_nil)) (fun h => Cv.pe_callSD (ok__law_term A) (hr.mono (by first | decide | omega)) (by rfl) A.g__law_term A.F__law_term.kp A.b__law_term .nil (fun σ => L2N.passAt takesN0 σ) h)))) qa_nil) (fun h => pe_callTy call_tuple_of (by rfl) A.n_tuple (by decide +kernel) h)))
    (qb_one (qs_ret (qe_tup (qa_cons (qe_ix ix_seq s_ix (qe_lst (qa_cons qe_str (qa_cons qe_str qa_nil))) (qe_callB s_int (qa_cons (qe_cmp op_gt (s_cmp (p := fun i j => decide (j < i))) (qe_v (pv 2)) qe_int (nomark _)) qa_nil) (fun h => pe_callTy call_intA (by rfl) A.n_int (by decide +kernel) h)) (fun _ _ => rfl)) (qa_cons (qe_call (f := fn__law_word) (dvs := []) wdl_nil rfl (qn_cons (qe_v (pv 0)) (qn_cons (qe_call (f := fn__law_pick) (dvs := []) wdl_nil rfl (qn_cons (qe_v (pv 0)) (qn_cons qe_str qn_nil)) (fun h => Cv.pe_callSD (ok__law_pick A) (hr.mono (by first | decide | omega)) (by rfl) A.g__law_pick A.F__law_pick.kp A.b__law_pick .nil (fun σ => L2N.passAt tk σ) h)) qn_nil)) (fun h => Cv.pe_callSD (ok__law_word A) (hr.mono (by first | decide | omega)) (by rfl) A.g__law_word A.F__law_word.kp A.b__law_word .nil (fun σ => L2N.passAt tk σ) h)) (qa_cons (qe_v (pv 3)) qa_nil)))))))))
noncomputable def F__law_odd_row : Ds :=
    (fSeq (fAsg (fVar 1) (gTup 3 (gCons (gN 2) (gCons (gN 3) (gCons (gN 4) gNil)))))
    (fSeq (fSet 5 (fLst (fCons (fC (.bl true)) (fCons (fC (.bl false)) (fCons (fC (.int 1024)) (fCons (fUn dNeg (fC (.int 1))) (fCons (fC .non) (fCons (fC (.str "")) (fCons (fC (.str "Z")) (fCons (fC (.str "not")) (fCons (fC (.str "by")) (fCons (fC (.str "ninechars")) (fCons (fLst (fCons (fOp dIx (fVar 4) (fC (.int 0))) fNil)) (fCons (fTup (fCons (fOp dIx (fVar 4) (fC (.int 0))) fNil)) (fCons (fC (.str "a1")) fNil)))))))))))))))
    (fSeq (fSet 6 (fCallD fn__law_pick [] (fCons (fVar 0) (fCons (fVar 5) fNil))))
    (fSeq (fSet 7 (fComp (fIt (fLst (fCons (fC (.str "not")) (fCons (fC (.str "by")) (fCons (fC (.str "")) (fCons (fC (.str "A")) (fCons (fC (.str "ninechars")) (fCons (fC (.str "a_")) (fCons (fC .non) (fCons (fC (.int 5)) (fCons (fTup (fCons (fC (.str "a")) fNil)) (fCons (fLst (fCons (fC (.str "a")) fNil)) fNil)))))))))))) (gN 8) fYes (fTup (fCons (fVar 2) (fCons (fVar 8) (fCons (fVar 4) fNil)))) [8]))
    (fSeq (fSet 7 (fOp dAdd (fVar 7) (fLst (fCons (fTup (fCons (fVar 2) (fCons (fVar 3) (fCons (fCall dList (fCons (fVar 4) fNil)) fNil)))) (fCons (fTup (fCons (fVar 2) (fCons (fVar 3) (fCons (fTup fNil) fNil)))) (fCons (fTup (fCons (fVar 2) (fCons (fVar 3) (fCons (fOp dMulT (fVar 4) (fC (.int 5))) fNil)))) (fCons (fTup (fCons (fVar 2) (fCons (fVar 3) (fCons (fOp dIx (fVar 4) (fC (.int 0))) fNil)))) fNil)))))))
    (fSeq (fSet 7 (fOp dAdd (fVar 7) (fLst (fCons (fTup (fCons (fVar 2) (fCons (fVar 3) (fCons (fOp dAdd (fSl (fVar 4) (fSome (fC (.int 1))) fNone) (fTup (fCons (fVar 6) fNil))) fNil)))) (fCons (fTup (fCons (fVar 2) (fCons (fVar 3) (fCons (fOp dAdd (fTup (fCons (fVar 6) fNil)) (fSl (fVar 4) (fSome (fC (.int 1))) fNone)) fNil)))) fNil)))))
    (fRet (fCallD fn__law_pick [] (fCons (fVar 0) (fCons (fVar 7) fNil))))))))))
noncomputable def fn__law_odd_row : Fn := fnB 9 F__law_odd_row
theorem ok__law_odd_row (A : All K mg) : FnOk P w K mg base (L2N.CX P w) 3 A.f__law_odd_row A.fd__law_odd_row ["_law_pot_here", "_law_literal_here"] (spD K mg 2 fn__law_odd_row) :=
  okQ (N := N__law_odd_row) (F := F__law_odd_row) A.F__law_odd_row sc__law_odd_row (by decide) fun pn cdv Ar outer s H E hr tk hpo =>
    (qb_cons (qs_asg (g := (gTup 3 (gCons (gN 2) (gCons (gN 3) (gCons (gN 4) gNil))))) (tg_tup (tgs_cons tg_name (tgs_cons tg_name (tgs_cons tg_name tgs_nil)))) (fun h => ps_asg h (pg_tup rfl (pgs_cons (pg_name (i := 2) sc__law_odd_row.nd rfl (by first | exact Or.inl rfl | exact Or.inr rfl)) (pgs_cons (pg_name (i := 3) sc__law_odd_row.nd rfl (by first | exact Or.inl rfl | exact Or.inr rfl)) (pgs_cons (pg_name (i := 4) sc__law_odd_row.nd rfl (by first | exact Or.inl rfl | exact Or.inr rfl)) pgs_nil))))) (qe_v (pv 1)))
    (qb_cons (qs_set (i := 5) (fun h => ps_set (i := 5) sc__law_odd_row.nd rfl (by first | exact Or.inl rfl | exact Or.inr rfl) h) (qe_lst (qa_cons qe_bl (qa_cons qe_bl (qa_cons qe_int (qa_cons (qe_un un_neg s_neg qe_int) (qa_cons qe_non (qa_cons qe_str (qa_cons qe_str (qa_cons qe_str (qa_cons qe_str (qa_cons qe_str (qa_cons (qe_lst (qa_cons (qe_ix ix_seq s_ix (qe_v (pv 4)) qe_int (fun _ _ => rfl)) qa_nil)) (qa_cons (qe_tup (qa_cons (qe_ix ix_seq s_ix (qe_v (pv 4)) qe_int (fun _ _ => rfl)) qa_nil)) (qa_cons qe_str qa_nil)))))))))))))))
    (qb_cons (qs_set (i := 6) (fun h => ps_set (i := 6) sc__law_odd_row.nd rfl (by first | exact Or.inl rfl | exact Or.inr rfl) h) (qe_call (f := fn__law_pick) (dvs := []) wdl_nil rfl (qn_cons (qe_v (pv 0)) (qn_cons (qe_v (pv 5)) qn_nil)) (fun h => Cv.pe_callSD (ok__law_pick A) (hr.mono (by first | decide | omega)) (by rfl) A.g__law_pick A.F__law_pick.kp A.b__law_pick .nil (fun σ => L2N.passAt tk σ) h)))
    (qb_cons (qs_setLcQ (i := 7) (g := (gN 8)) (own := [("_law_title", 8)]) tg_name rfl (by decide) rfl sc__law_odd_row.nd rfl rfl (sw_true rfl rfl rfl (by decide +kernel)) (qi_any (qe_lst (qa_cons qe_str (qa_cons qe_str (qa_cons qe_str (qa_cons qe_str (qa_cons qe_str (qa_cons qe_str (qa_cons qe_non (qa_cons qe_int (qa_cons (qe_tup (qa_cons qe_str qa_nil)) (qa_cons (qe_lst (qa_cons qe_str qa_nil)) qa_nil)))))))))))) (blkOk_by (N := N__law_odd_row) (sc := defScope s__law_odd_row) (by decide +kernel)) (fun _ _ _ _ _ => (pg_name (i := 8) sc__law_odd_row.nd rfl (Or.inl rfl))) (fun _ _ _ _ _ => qtss_nil) (fun _ _ _ _ _ => (qe_tup (qa_cons (qe_v (pv 2)) (qa_cons (qe_v (pv 8)) (qa_cons (qe_v (pv 4)) qa_nil))))))
    (qb_cons (qs_set (i := 7) (fun h => ps_set (i := 7) sc__law_odd_row.nd rfl (by first | exact Or.inl rfl | exact Or.inr rfl) h) (qe_op op_plus s_add (qe_v (pv 7)) (qe_lst (qa_cons (qe_tup (qa_cons (qe_v (pv 2)) (qa_cons (qe_v (pv 3)) (qa_cons (qe_callB s_list (qa_cons (qe_v (pv 4)) qa_nil) (fun h => pe_callTy call_list_of (by rfl) A.n_list (by decide +kernel) h)) qa_nil)))) (qa_cons (qe_tup (qa_cons (qe_v (pv 2)) (qa_cons (qe_v (pv 3)) (qa_cons (qe_tup qa_nil) qa_nil)))) (qa_cons (qe_tup (qa_cons (qe_v (pv 2)) (qa_cons (qe_v (pv 3)) (qa_cons (qe_op op_timesT s_mulT (qe_v (pv 4)) qe_int) qa_nil)))) (qa_cons (qe_tup (qa_cons (qe_v (pv 2)) (qa_cons (qe_v (pv 3)) (qa_cons (qe_ix ix_seq s_ix (qe_v (pv 4)) qe_int (fun _ _ => rfl)) qa_nil)))) qa_nil)))))))
    (qb_cons (qs_set (i := 7) (fun h => ps_set (i := 7) sc__law_odd_row.nd rfl (by first | exact Or.inl rfl | exact Or.inr rfl) h) (qe_op op_plus s_add (qe_v (pv 7)) (qe_lst (qa_cons (qe_tup (qa_cons (qe_v (pv 2)) (qa_cons (qe_v (pv 3)) (qa_cons (qe_op op_plus s_add (qe_sl (qe_v (pv 4)) (qo_some qe_int) qo_none) (qe_tup (qa_cons (qe_v (pv 6)) qa_nil))) qa_nil)))) (qa_cons (qe_tup (qa_cons (qe_v (pv 2)) (qa_cons (qe_v (pv 3)) (qa_cons (qe_op op_plus s_add (qe_tup (qa_cons (qe_v (pv 6)) qa_nil)) (qe_sl (qe_v (pv 4)) (qo_some qe_int) qo_none)) qa_nil)))) qa_nil)))))
    (qb_one (qs_ret (qe_call (f := fn__law_pick) (dvs := []) wdl_nil rfl (qn_cons (qe_v (pv 0)) (qn_cons (qe_v (pv 7)) qn_nil)) (fun h => Cv.pe_callSD (ok__law_pick A) (hr.mono (by first | decide | omega)) (by rfl) A.g__law_pick A.F__law_pick.kp A.b__law_pick .nil (fun σ => L2N.passAt tk σ) h))))))))))
noncomputable def F__law_odd_comparison : Ds :=
    (fSeq (fAsg (fVar 1) (gTup 3 (gCons (gN 2) (gCons (gN 3) (gCons (gN 4) gNil)))))
    (fSeq (fSet 5 (fCallD fn__law_pick [] (fCons (fVar 0) (fCons (fLst (fCons (fC (.bl true)) (fCons (fC (.bl false)) (fCons (fC (.int 1024)) (fCons (fUn dNeg (fC (.int 1))) (fCons (fC .non) (fCons (fC (.str "")) (fCons (fC (.str "Z")) (fCons (fC (.str "not")) (fCons (fC (.str "by")) (fCons (fC (.str "ninechars")) (fCons (fLst (fCons (fVar 3) fNil)) (fCons (fTup (fCons (fVar 3) (fCons (fVar 4) fNil))) fNil))))))))))))) fNil))))
    (fRet (fCallD fn__law_pick [] (fCons (fVar 0) (fCons (fLst (fCons (fTup (fCons (fVar 2) (fCons (fC (.int 3)) (fCons (fC (.int 4)) fNil)))) (fCons (fTup (fCons (fVar 2) (fCons (fC (.int 0)) (fCons (fC (.int 0)) fNil)))) (fCons (fTup (fCons (fVar 2) (fCons (fVar 5) (fCons (fVar 4) fNil)))) (fCons (fTup (fCons (fVar 2) (fCons (fVar 3) (fCons (fVar 5) fNil)))) (fCons (fTup (fCons (fVar 2) (fCons (fTup (fCons (fVar 3) (fCons (fVar 4) fNil))) (fCons (fTup fNil) fNil)))) fNil)))))) fNil))))))
noncomputable def fn__law_odd_comparison : Fn := fnB 6 F__law_odd_comparison
theorem ok__law_odd_comparison (A : All K mg) : FnOk P w K mg base (L2N.CX P w) 3 A.f__law_odd_comparison A.fd__law_odd_comparison ["_law_pot_here", "_law_literal_here"] (spD K mg 2 fn__law_odd_comparison) :=
  okQ (N := N__law_odd_comparison) (F := F__law_odd_comparison) A.F__law_odd_comparison sc__law_odd_comparison (by decide) fun pn cdv Ar outer s H E hr tk hpo =>
    (qb_cons (qs_asg (g := (gTup 3 (gCons (gN 2) (gCons (gN 3) (gCons (gN 4) gNil))))) (tg_tup (tgs_cons tg_name (tgs_cons tg_name (tgs_cons tg_name tgs_nil)))) (fun h => ps_asg h (pg_tup rfl (pgs_cons (pg_name (i := 2) sc__law_odd_comparison.nd rfl (by first | exact Or.inl rfl | exact Or.inr rfl)) (pgs_cons (pg_name (i := 3) sc__law_odd_comparison.nd rfl (by first | exact Or.inl rfl | exact Or.inr rfl)) (pgs_cons (pg_name (i := 4) sc__law_odd_comparison.nd rfl (by first | exact Or.inl rfl | exact Or.inr rfl)) pgs_nil))))) (qe_v (pv 1)))
    (qb_cons (qs_set (i := 5) (fun h => ps_set (i := 5) sc__law_odd_comparison.nd rfl (by first | exact Or.inl rfl | exact Or.inr rfl) h) (qe_call (f := fn__law_pick) (dvs := []) wdl_nil rfl (qn_cons (qe_v (pv 0)) (qn_cons (qe_lst (qa_cons qe_bl (qa_cons qe_bl (qa_cons qe_int (qa_cons (qe_un un_neg s_neg qe_int) (qa_cons qe_non (qa_cons qe_str (qa_cons qe_str (qa_cons qe_str (qa_cons qe_str (qa_cons qe_str (qa_cons (qe_lst (qa_cons (qe_v (pv 3)) qa_nil)) (qa_cons (qe_tup (qa_cons (qe_v (pv 3)) (qa_cons (qe_v (pv 4)) qa_nil))) qa_nil))))))))))))) qn_nil)) (fun h => Cv.pe_callSD (ok__law_pick A) (hr.mono (by first | decide | omega)) (by rfl) A.g__law_pick A.F__law_pick.kp A.b__law_pick .nil (fun σ => L2N.passAt tk σ) h)))
    (qb_one (qs_ret (qe_call (f := fn__law_pick) (dvs := []) wdl_nil rfl (qn_cons (qe_v (pv 0)) (qn_cons (qe_lst (qa_cons (qe_tup (qa_cons (qe_v (pv 2)) (qa_cons qe_int (qa_cons qe_int qa_nil)))) (qa_cons (qe_tup (qa_cons (qe_v (pv 2)) (qa_cons qe_int (qa_cons qe_int qa_nil)))) (qa_cons (qe_tup (qa_cons (qe_v (pv 2)) (qa_cons (qe_v (pv 5)) (qa_cons (qe_v (pv 4)) qa_nil)))) (qa_cons (qe_tup (qa_cons (qe_v (pv 2)) (qa_cons (qe_v (pv 3)) (qa_cons (qe_v (pv 5)) qa_nil)))) (qa_cons (qe_tup (qa_cons (qe_v (pv 2)) (qa_cons (qe_tup (qa_cons (qe_v (pv 3)) (qa_cons (qe_v (pv 4)) qa_nil))) (qa_cons (qe_tup qa_nil) qa_nil)))) qa_nil)))))) qn_nil)) (fun h => Cv.pe_callSD (ok__law_pick A) (hr.mono (by first | decide | omega)) (by rfl) A.g__law_pick A.F__law_pick.kp A.b__law_pick .nil (fun σ => L2N.passAt tk σ) h))))))
noncomputable def F__law_odd : Ds :=
    (fSeq (fAsg (fVar 1) (gTup 3 (gCons (gN 2) (gCons (gN 3) (gCons (gN 4) gNil)))))
    (fSeq (fSet 5 (fLst (fCons (fC .non) (fCons (fC (.int 5)) (fCons (fC (.str "row")) (fCons (fC (.bl true)) (fCons (fFrz fDctN) (fCons (fTup fNil) (fCons (fLst (fCons (fVar 2) (fCons (fVar 3) (fCons (fVar 4) fNil)))) (fCons (fTup (fCons (fVar 2) (fCons (fVar 3) fNil))) (fCons (fTup (fCons (fVar 2) (fCons (fVar 3) (fCons (fVar 4) (fCons (fVar 4) fNil))))) fNil)))))))))))
    (fSeq (fSet 5 (fOp dAdd (fVar 5) (fLst (fCons (fTup (fCons (fC (.str "rows")) (fCons (fVar 3) (fCons (fVar 4) fNil)))) (fCons (fTup (fCons (fC (.str "")) (fCons (fVar 3) (fCons (fVar 4) fNil)))) (fCons (fTup (fCons (fC .non) (fCons (fVar 3) (fCons (fVar 4) fNil)))) (fCons (fTup (fCons (fLst (fCons (fVar 2) fNil)) (fCons (fVar 3) (fCons (fVar 4) fNil)))) fNil)))))))
    (fSeq (fSet 5 (fOp dAdd (fVar 5) (fLst (fCons (fTup (fCons (fVar 3) (fCons (fVar 2) (fCons (fVar 4) fNil)))) (fCons (fTup (fCons (fC (.str "==")) (fCons (fVar 3) (fCons (fVar 4) fNil)))) (fCons (fTup (fCons (fC (.str ">")) (fCons (fVar 3) (fCons (fVar 4) fNil)))) fNil))))))
    (fSeq (fIf (fT (fOp (dEq false) (fCallD fn__law_take [] (fCons (fVar 0) (fCons (fC (.int 3)) fNil))) (fC (.int 0))))
    (fRet (fCallD fn__law_pick [] (fCons (fVar 0) (fCons (fVar 5) fNil))))
    fSkip)
    (fRet (fIte (fT (fOp (dIn false) (fVar 2) (fLst (fCons (fC (.str "row")) (fCons (fC (.str "none")) fNil))))) (fCallD fn__law_odd_row [] (fCons (fVar 0) (fCons (fVar 1) fNil))) (fCallD fn__law_odd_comparison [] (fCons (fVar 0) (fCons (fVar 1) fNil))))))))))
noncomputable def fn__law_odd : Fn := fnB 6 F__law_odd
theorem ok__law_odd (A : All K mg) : FnOk P w K mg base (L2N.CX P w) 4 A.f__law_odd A.fd__law_odd ["_law_pot_here", "_law_literal_here"] (spD K mg 2 fn__law_odd) :=
  okQ (N := N__law_odd) (F := F__law_odd) A.F__law_odd sc__law_odd (by decide) fun pn cdv Ar outer s H E hr tk hpo =>
    (qb_cons (qs_asg (g := (gTup 3 (gCons (gN 2) (gCons (gN 3) (gCons (gN 4) gNil))))) (tg_tup (tgs_cons tg_name (tgs_cons tg_name (tgs_cons tg_name tgs_nil)))) (fun h => ps_asg h (pg_tup rfl (pgs_cons (pg_name (i := 2) sc__law_odd.nd rfl (by first | exact Or.inl rfl | exact Or.inr rfl)) (pgs_cons (pg_name (i := 3) sc__law_odd.nd rfl (by first | exact Or.inl rfl | exact Or.inr rfl)) (pgs_cons (pg_name (i := 4) sc__law_odd.nd rfl (by first | exact Or.inl rfl | exact Or.inr rfl)) pgs_nil))))) (qe_v (pv 1)))
    (qb_cons (qs_set (i := 5) (fun h => ps_set (i := 5) sc__law_odd.nd rfl (by first | exact Or.inl rfl | exact Or.inr rfl) h) (qe_lst (qa_cons qe_non (qa_cons qe_int (qa_cons qe_str (qa_cons qe_bl (qa_cons (qe_frz qn_dct) (qa_cons (qe_tup qa_nil) (qa_cons (qe_lst (qa_cons (qe_v (pv 2)) (qa_cons (qe_v (pv 3)) (qa_cons (qe_v (pv 4)) qa_nil)))) (qa_cons (qe_tup (qa_cons (qe_v (pv 2)) (qa_cons (qe_v (pv 3)) qa_nil))) (qa_cons (qe_tup (qa_cons (qe_v (pv 2)) (qa_cons (qe_v (pv 3)) (qa_cons (qe_v (pv 4)) (qa_cons (qe_v (pv 4)) qa_nil))))) qa_nil)))))))))))
    (qb_cons (qs_set (i := 5) (fun h => ps_set (i := 5) sc__law_odd.nd rfl (by first | exact Or.inl rfl | exact Or.inr rfl) h) (qe_op op_plus s_add (qe_v (pv 5)) (qe_lst (qa_cons (qe_tup (qa_cons qe_str (qa_cons (qe_v (pv 3)) (qa_cons (qe_v (pv 4)) qa_nil)))) (qa_cons (qe_tup (qa_cons qe_str (qa_cons (qe_v (pv 3)) (qa_cons (qe_v (pv 4)) qa_nil)))) (qa_cons (qe_tup (qa_cons qe_non (qa_cons (qe_v (pv 3)) (qa_cons (qe_v (pv 4)) qa_nil)))) (qa_cons (qe_tup (qa_cons (qe_lst (qa_cons (qe_v (pv 2)) qa_nil)) (qa_cons (qe_v (pv 3)) (qa_cons (qe_v (pv 4)) qa_nil)))) qa_nil)))))))
    (qb_cons (qs_set (i := 5) (fun h => ps_set (i := 5) sc__law_odd.nd rfl (by first | exact Or.inl rfl | exact Or.inr rfl) h) (qe_op op_plus s_add (qe_v (pv 5)) (qe_lst (qa_cons (qe_tup (qa_cons (qe_v (pv 3)) (qa_cons (qe_v (pv 2)) (qa_cons (qe_v (pv 4)) qa_nil)))) (qa_cons (qe_tup (qa_cons qe_str (qa_cons (qe_v (pv 3)) (qa_cons (qe_v (pv 4)) qa_nil)))) (qa_cons (qe_tup (qa_cons qe_str (qa_cons (qe_v (pv 3)) (qa_cons (qe_v (pv 4)) qa_nil)))) qa_nil))))))
    (qb_cons (qs_if (qt_cmp (op_eqP (by have := hr.units; exact this)) s_eqP (qe_call (f := fn__law_take) (dvs := []) wdl_nil rfl (qn_cons (qe_v (pv 0)) (qn_cons qe_int qn_nil)) (fun h => Cv.pe_callSD (ok__law_take A) (hr.mono (by first | decide | omega)) (by rfl) A.g__law_take A.F__law_take.kp A.b__law_take .nil (fun σ => L2N.passAt tk σ) h)) qe_int (nomark _))
    (qb_one (qs_ret (qe_call (f := fn__law_pick) (dvs := []) wdl_nil rfl (qn_cons (qe_v (pv 0)) (qn_cons (qe_v (pv 5)) qn_nil)) (fun h => Cv.pe_callSD (ok__law_pick A) (hr.mono (by first | decide | omega)) (by rfl) A.g__law_pick A.F__law_pick.kp A.b__law_pick .nil (fun σ => L2N.passAt tk σ) h))))
    qb_nil)
    (qb_one (qs_ret (qe_ite (qt_cmp (op_inP (by have := hr.units; exact this)) s_inP (qe_v (pv 2)) (qe_lst (qa_cons qe_str (qa_cons qe_str qa_nil))) (by with_unfolding_all rfl)) (qe_call (f := fn__law_odd_row) (dvs := []) wdl_nil rfl (qn_cons (qe_v (pv 0)) (qn_cons (qe_v (pv 1)) qn_nil)) (fun h => Cv.pe_callSD (ok__law_odd_row A) (hr.mono (by first | decide | omega)) (by rfl) A.g__law_odd_row A.F__law_odd_row.kp A.b__law_odd_row .nil (fun σ => L2N.passAt tk σ) h)) (qe_call (f := fn__law_odd_comparison) (dvs := []) wdl_nil rfl (qn_cons (qe_v (pv 0)) (qn_cons (qe_v (pv 1)) qn_nil)) (fun h => Cv.pe_callSD (ok__law_odd_comparison A) (hr.mono (by first | decide | omega)) (by rfl) A.g__law_odd_comparison A.F__law_odd_comparison.kp A.b__law_odd_comparison .nil (fun σ => L2N.passAt tk σ) h))))))))))
noncomputable def F__law_is_title : Ds :=
    (fSeq (fIf (fOr (fNot (fT (fUn (dIs ["str"]) (fVar 0)))) (fOr (fT (fOp (dIn false) (fVar 0) (fLst (fCons (fC (.str "")) (fCons (fC (.str "not")) (fCons (fC (.str "by")) fNil)))))) (fT (fOp (dCmp fun i j => decide (j < i)) (fCall dLen (fCons (fVar 0) fNil)) (fC (.int 8))))))
    (fRet (fC (.bl false)))
    fSkip)
    (fRet (fCall dAll (fCons (fComp (fIt (fVar 0)) (gN 1) fYes (fOp (dIn false) (fVar 1) (fC (.str "abcdefghijklmnopqrstuvwxyz"))) [1]) fNil))))
noncomputable def fn__law_is_title : Fn := fnB 2 F__law_is_title
theorem ok__law_is_title (A : All K mg) : FnOk P w K mg base (L2N.CX P w) 1 A.f__law_is_title A.fd__law_is_title ["_law_thing"] (spD K mg 1 fn__law_is_title) :=
  okQ (N := N__law_is_title) (F := F__law_is_title) A.F__law_is_title sc__law_is_title (by decide) fun pn cdv Ar outer s H E hr tk hpo =>
    (qb_cons (qs_if (qt_w (qw_or (qt_not (qt_val (qe_isi1 (n := "str") (by decide) (qe_v (pv 0)) (fun h => pe_callB call_isiA (by rfl) A.n_isinstance (by decide +kernel) (pa_cons h (pa_cons (pe_bltn (v := .ty "str") (u := .type "str") (by rfl) A.n_str (by decide +kernel) rfl) pa_nil)))))) (qw_or (qt_cmp (op_inP (by have := hr.units; exact this)) s_inP (qe_v (pv 0)) (qe_lst (qa_cons qe_str (qa_cons qe_str (qa_cons qe_str qa_nil)))) (by with_unfolding_all rfl)) (qw_or1 (qt_cmp op_gt (s_cmp (p := fun i j => decide (j < i))) (qe_callB s_len (qa_cons (qe_v (pv 0)) qa_nil) (fun h => pe_callB call_lenA (by rfl) A.n_len (by decide +kernel) h)) qe_int (nomark _))))))
    (qb_one (qs_ret qe_bl))
    qb_nil)
    (qb_one (qs_ret (qe_callB s_all (qa_cons (qe_lcQ (g := (gN 1)) (own := [("_law_sign", 1)]) tg_name rfl (by decide) rfl sc__law_is_title.nd (qi_any (qe_v (pv 0))) (blkOk_by (N := N__law_is_title) (sc := defScope s__law_is_title) (by decide +kernel)) (fun _ _ _ _ _ => (pg_name (i := 1) sc__law_is_title.nd rfl (Or.inl rfl))) (fun _ _ _ _ _ => qtss_nil) (fun _ _ _ _ _ => (qe_cmp (op_inP (by have := hr.units; exact this)) s_inP (qe_v (pv 1)) qe_str (by with_unfolding_all rfl)))) qa_nil) (fun h => pe_callB (cr_all rfl) (by rfl) A.n_all (by decide +kernel) h)))))
noncomputable def F__law_is_term : Ds :=
    (fSeq (fIf (fAnd (fT (fUn (dIs ["int"]) (fVar 0))) (fNot (fT (fUn (dIs ["bool"]) (fVar 0)))))
    (fRet (fAndV (fOp (dCmp fun i j => decide (j ≤ i)) (fVar 0) (fC (.int 0))) (fOp (dCmp fun i j => decide (i < j)) (fVar 0) (fC (.int 1024)))))
    fSkip)
    (fRet (fCallD fn__law_is_title [] (fCons (fVar 0) fNil))))
noncomputable def fn__law_is_term : Fn := fnB 1 F__law_is_term
theorem ok__law_is_term (A : All K mg) : FnOk P w K mg base (L2N.CX P w) 2 A.f__law_is_term A.fd__law_is_term ["_law_thing"] (spD K mg 1 fn__law_is_term) :=
  okQ (N := N__law_is_term) (F := F__law_is_term) A.F__law_is_term sc__law_is_term (by decide) fun pn cdv Ar outer s H E hr tk hpo =>
    (qb_cons (qs_if (qt_w (qw_and (qt_val (qe_isi1 (n := "int") (by decide) (qe_v (pv 0)) (fun h => pe_callB call_isiA (by rfl) A.n_isinstance (by decide +kernel) (pa_cons h (pa_cons (pe_bltn (v := .ty "int") (u := .type "int") (by rfl) A.n_int (by decide +kernel) rfl) pa_nil))))) (qw_and1 (qt_not (qt_val (qe_isi1 (n := "bool") (by decide) (qe_v (pv 0)) (fun h => pe_callB call_isiA (by rfl) A.n_isinstance (by decide +kernel) (pa_cons h (pa_cons (pe_bltn (v := .ty "bool") (u := .type "bool") (by rfl) A.n_bool (by decide +kernel) rfl) pa_nil)))))))))
    (qb_one (qs_ret (qe_and (qe_cmp op_ge (s_cmp (p := fun i j => decide (j ≤ i))) (qe_v (pv 0)) qe_int (nomark _)) (qe_one (qe_cmp op_lt (s_cmp (p := fun i j => decide (i < j))) (qe_v (pv 0)) qe_int (nomark _))))))
    qb_nil)
    (qb_one (qs_ret (qe_call (f := fn__law_is_title) (dvs := []) wdl_nil rfl (qn_cons (qe_v (pv 0)) qn_nil) (fun h => Cv.pe_callSD (ok__law_is_title A) (hr.mono (by first | decide | omega)) (by rfl) A.g__law_is_title A.F__law_is_title.kp A.b__law_is_title .nil (fun σ => L2N.passAt tk σ) h)))))
noncomputable def F__law_is_literal : Ds :=
    (fSeq (fIf (fOr (fNot (fT (fUn (dIs ["tuple"]) (fVar 0)))) (fT (fOp (dEq true) (fCall dLen (fCons (fVar 0) fNil)) (fC (.int 3)))))
    (fRet (fC (.bl false)))
    fSkip)
    (fSeq (fAsg (fVar 0) (gTup 3 (gCons (gN 1) (gCons (gN 2) (gCons (gN 3) gNil)))))
    (fSeq (fIf (fT (fOp (dIn false) (fVar 1) (fLst (fCons (fC (.str "row")) (fCons (fC (.str "none")) fNil)))))
    (fSeq (fIf (fOr (fNot (fT (fCallD fn__law_is_title [] (fCons (fVar 2) fNil)))) (fOr (fNot (fT (fUn (dIs ["tuple"]) (fVar 3)))) (fT (fOp (dIn true) (fCall dLen (fCons (fVar 3) fNil)) (fLst (fCons (fC (.int 1)) (fCons (fC (.int 2)) (fCons (fC (.int 3)) (fCons (fC (.int 4)) fNil)))))))))
    (fRet (fC (.bl false)))
    fSkip)
    (fRet (fCall dAll (fCons (fComp (fIt (fVar 3)) (gN 4) fYes (fCallD fn__law_is_term [] (fCons (fVar 4) fNil)) [4]) fNil))))
    fSkip)
    (fSeq (fIf (fOr (fT (fOp (dIn true) (fVar 1) (fLst (fCons (fC (.str "<")) (fCons (fC (.str "<=")) (fCons (fC (.str "=")) (fCons (fC (.str "!=")) fNil))))))) (fOr (fNot (fT (fCallD fn__law_is_term [] (fCons (fVar 2) fNil)))) (fNot (fT (fCallD fn__law_is_term [] (fCons (fVar 3) fNil))))))
    (fRet (fC (.bl false)))
    fSkip)
    (fRet (fOrV (fUn (dIs ["str"]) (fVar 2)) (fUn (dIs ["str"]) (fVar 3))))))))
noncomputable def fn__law_is_literal : Fn := fnB 5 F__law_is_literal
theorem ok__law_is_literal (A : All K mg) : FnOk P w K mg base (L2N.CX P w) 3 A.f__law_is_literal A.fd__law_is_literal ["_law_thing"] (spD K mg 1 fn__law_is_literal) :=
  okQ (N := N__law_is_literal) (F := F__law_is_literal) A.F__law_is_literal sc__law_is_literal (by decide) fun pn cdv Ar outer s H E hr tk hpo =>
    (qb_cons (qs_if (qt_w (qw_or (qt_not (qt_val (qe_isi1 (n := "tuple") (by decide) (qe_v (pv 0)) (fun h => pe_callB call_isiA (by rfl) A.n_isinstance (by decide +kernel) (pa_cons h (pa_cons (pe_bltn (v := .ty "tuple") (u := .type "tuple") (by rfl) A.n_tuple (by decide +kernel) rfl) pa_nil)))))) (qw_or1 (qt_cmp (op_neP (by have := hr.units; exact this)) s_eqP (qe_callB s_len (qa_cons (qe_v (pv 0)) qa_nil) (fun h => pe_callB call_lenA (by rfl) A.n_len (by decide +kernel) h)) qe_int (nomark _)))))
    (qb_one (qs_ret qe_bl))
    qb_nil)
    (qb_cons (qs_asg (g := (gTup 3 (gCons (gN 1) (gCons (gN 2) (gCons (gN 3) gNil))))) (tg_tup (tgs_cons tg_name (tgs_cons tg_name (tgs_cons tg_name tgs_nil)))) (fun h => ps_asg h (pg_tup rfl (pgs_cons (pg_name (i := 1) sc__law_is_literal.nd rfl (by first | exact Or.inl rfl | exact Or.inr rfl)) (pgs_cons (pg_name (i := 2) sc__law_is_literal.nd rfl (by first | exact Or.inl rfl | exact Or.inr rfl)) (pgs_cons (pg_name (i := 3) sc__law_is_literal.nd rfl (by first | exact Or.inl rfl | exact Or.inr rfl)) pgs_nil))))) (qe_v (pv 0)))
    (qb_cons (qs_if (qt_cmp (op_inP (by have := hr.units; exact this)) s_inP (qe_v (pv 1)) (qe_lst (qa_cons qe_str (qa_cons qe_str qa_nil))) (by with_unfolding_all rfl))
    (qb_cons (qs_if (qt_w (qw_or (qt_not (qt_val (qe_call (f := fn__law_is_title) (dvs := []) wdl_nil rfl (qn_cons (qe_v (pv 2)) qn_nil) (fun h => Cv.pe_callSD (ok__law_is_title A) (hr.mono (by first | decide | omega)) (by rfl) A.g__law_is_title A.F__law_is_title.kp A.b__law_is_title .nil (fun σ => L2N.passAt tk σ) h)))) (qw_or (qt_not (qt_val (qe_isi1 (n := "tuple") (by decide) (qe_v (pv 3)) (fun h => pe_callB call_isiA (by rfl) A.n_isinstance (by decide +kernel) (pa_cons h (pa_cons (pe_bltn (v := .ty "tuple") (u := .type "tuple") (by rfl) A.n_tuple (by decide +kernel) rfl) pa_nil)))))) (qw_or1 (qt_cmp (op_notInP (by have := hr.units; exact this)) s_inP (qe_callB s_len (qa_cons (qe_v (pv 3)) qa_nil) (fun h => pe_callB call_lenA (by rfl) A.n_len (by decide +kernel) h)) (qe_lst (qa_cons qe_int (qa_cons qe_int (qa_cons qe_int (qa_cons qe_int qa_nil))))) (by with_unfolding_all rfl))))))
    (qb_one (qs_ret qe_bl))
    qb_nil)
    (qb_one (qs_ret (qe_callB s_all (qa_cons (qe_lcQ (g := (gN 4)) (own := [("_law_term_here", 4)]) tg_name rfl (by decide) rfl sc__law_is_literal.nd (qi_any (qe_v (pv 3))) (blkOk_by (N := N__law_is_literal) (sc := defScope s__law_is_literal) (by decide +kernel)) (fun _ _ _ _ _ => (pg_name (i := 4) sc__law_is_literal.nd rfl (Or.inl rfl))) (fun _ _ _ _ _ => qtss_nil) (fun _ _ _ _ _ => (qe_call (f := fn__law_is_term) (dvs := []) wdl_nil rfl (qn_cons (qe_v (pv 4)) qn_nil) (fun h => Cv.pe_callSD (ok__law_is_term A) (hr.mono (by first | decide | omega)) (by rfl) A.g__law_is_term A.F__law_is_term.kp A.b__law_is_term .nil (fun σ => L2N.passAt takesN0 σ) h)))) qa_nil) (fun h => pe_callB (cr_all rfl) (by rfl) A.n_all (by decide +kernel) h)))))
    qb_nil)
    (qb_cons (qs_if (qt_w (qw_or (qt_cmp (op_notInP (by have := hr.units; exact this)) s_inP (qe_v (pv 1)) (qe_lst (qa_cons qe_str (qa_cons qe_str (qa_cons qe_str (qa_cons qe_str qa_nil))))) (by with_unfolding_all rfl)) (qw_or (qt_not (qt_val (qe_call (f := fn__law_is_term) (dvs := []) wdl_nil rfl (qn_cons (qe_v (pv 2)) qn_nil) (fun h => Cv.pe_callSD (ok__law_is_term A) (hr.mono (by first | decide | omega)) (by rfl) A.g__law_is_term A.F__law_is_term.kp A.b__law_is_term .nil (fun σ => L2N.passAt tk σ) h)))) (qw_or1 (qt_not (qt_val (qe_call (f := fn__law_is_term) (dvs := []) wdl_nil rfl (qn_cons (qe_v (pv 3)) qn_nil) (fun h => Cv.pe_callSD (ok__law_is_term A) (hr.mono (by first | decide | omega)) (by rfl) A.g__law_is_term A.F__law_is_term.kp A.b__law_is_term .nil (fun σ => L2N.passAt tk σ) h))))))))
    (qb_one (qs_ret qe_bl))
    qb_nil)
    (qb_one (qs_ret (qe_or (qe_isi1 (n := "str") (by decide) (qe_v (pv 2)) (fun h => pe_callB call_isiA (by rfl) A.n_isinstance (by decide +kernel) (pa_cons h (pa_cons (pe_bltn (v := .ty "str") (u := .type "str") (by rfl) A.n_str (by decide +kernel) rfl) pa_nil)))) (qe_one (qe_isi1 (n := "str") (by decide) (qe_v (pv 3)) (fun h => pe_callB call_isiA (by rfl) A.n_isinstance (by decide +kernel) (pa_cons h (pa_cons (pe_bltn (v := .ty "str") (u := .type "str") (by rfl) A.n_str (by decide +kernel) rfl) pa_nil))))))))))))
noncomputable def F__law_first_order : Ds :=
    (fSeq (fSetN 1 (fLstN fNil))
    (fSeq (fForL (fItL (fVar 0)) (gTup 3 (gCons (gN 2) (gCons (gN 3) (gCons (gN 4) gNil))))
    (fFor (fIt (fIte (fT (fOp (dIn false) (fVar 2) (fLst (fCons (fC (.str "row")) (fCons (fC (.str "none")) fNil))))) (fCall dList (fCons (fVar 4) fNil)) (fLst (fCons (fVar 3) (fCons (fVar 4) fNil))))) (gN 5)
    (fIf (fAnd (fT (fUn (dIs ["str"]) (fVar 5))) (fT (fInOwn true 1 (fVar 5))))
    (fOwnM 1 lAppend (fCons (fVar 5) fNil))
    fSkip)))
    (fFrzS 1 (fRet (fVar 1)))))
noncomputable def fn__law_first_order : Fn := fnB 6 F__law_first_order
theorem ok__law_first_order (A : All K mg) : FnOk P w K mg base (L2N.CX P w) 1 A.f__law_first_order A.fd__law_first_order ["_law_parts"] (spD K mg 1 fn__law_first_order) :=
  okQ (N := N__law_first_order) (F := F__law_first_order) A.F__law_first_order sc__law_first_order (by decide) fun pn cdv Ar outer s H E hr tk hpo =>
    (qb_cons (qs_setN (i := 1) (by decide) (fun h => ps_set (i := 1) sc__law_first_order.nd rfl (by first | exact Or.inl rfl | exact Or.inr rfl) h) (qn_lst qa_nil))
    (qb_cons (qs_forL (g := (gTup 3 (gCons (gN 2) (gCons (gN 3) (gCons (gN 4) gNil))))) (tg_tup (tgs_cons tg_name (tgs_cons tg_name (tgs_cons tg_name tgs_nil)))) hpo rfl (qil_any (qe_v (pv 0))) (pg_tup rfl (pgs_cons (pg_name (i := 2) sc__law_first_order.nd rfl (by first | exact Or.inl rfl | exact Or.inr rfl)) (pgs_cons (pg_name (i := 3) sc__law_first_order.nd rfl (by first | exact Or.inl rfl | exact Or.inr rfl)) (pgs_cons (pg_name (i := 4) sc__law_first_order.nd rfl (by first | exact Or.inl rfl | exact Or.inr rfl)) pgs_nil))))
    (qb_one (qs_for (g := (gN 5)) tg_name hpo rfl (qi_any (qe_ite (qt_cmp (op_inP (by have := hr.units; exact this)) s_inP (qe_v (pv 2)) (qe_lst (qa_cons qe_str (qa_cons qe_str qa_nil))) (by with_unfolding_all rfl)) (qe_callB s_list (qa_cons (qe_v (pv 4)) qa_nil) (fun h => pe_callTy call_list_of (by rfl) A.n_list (by decide +kernel) h)) (qe_lst (qa_cons (qe_v (pv 3)) (qa_cons (qe_v (pv 4)) qa_nil))))) (pg_name (i := 5) sc__law_first_order.nd rfl (by first | exact Or.inl rfl | exact Or.inr rfl))
    (qb_one (qs_if (qt_w (qw_and (qt_val (qe_isi1 (n := "str") (by decide) (qe_v (pv 5)) (fun h => pe_callB call_isiA (by rfl) A.n_isinstance (by decide +kernel) (pa_cons h (pa_cons (pe_bltn (v := .ty "str") (u := .type "str") (by rfl) A.n_str (by decide +kernel) rfl) pa_nil))))) (qw_and1 (qt_inOwn (i := 1) (op_notInP (by have := hr.units; exact this)) (qe_v (pv 5)) (pv 1) (by with_unfolding_all rfl)))))
    (qb_one (qs_ownM (i := 1) l_append (qa_cons (qe_v (pv 5)) qa_nil) (fun h => ps_expr (pe_bm PySem.F.plainAttrs_list PySem.F.slot_list_append PySem.F.type_list_append mt_append (pv 1) h))))
    qb_nil)))))
    (qb_one (qs_frz (i := 1) (qs_ret (qe_v (pv 1)))))))
noncomputable def F__law_problem : Ds :=
    (fSeq (fIf (fOr (fNot (fT (fUn (dIs ["list", "tuple"]) (fVar 0)))) (fT (fOp (dIn true) (fCall dLen (fCons (fVar 0) fNil)) (fLst (fCons (fC (.int 1)) (fCons (fC (.int 2)) (fCons (fC (.int 3)) (fCons (fC (.int 4)) (fCons (fC (.int 5)) (fCons (fC (.int 6)) (fCons (fC (.int 7)) (fCons (fC (.int 8)) fNil))))))))))))
    (fRet (fLst (fCons (fC (.str "literals")) (fCons (fUn dNeg (fC (.int 1))) fNil))))
    fSkip)
    (fSeq (fForL (fEnumL (fVar 0)) (gTup 2 (gCons (gN 2) (gCons (gN 3) gNil)))
    (fIf (fNot (fT (fCallD fn__law_is_literal [] (fCons (fVar 3) fNil))))
    (fRet (fLst (fCons (fC (.str "literal")) (fCons (fVar 2) fNil))))
    fSkip))
    (fSeq (fSet 4 (fCallD fn__law_first_order [] (fCons (fVar 0) fNil)))
    (fSeq (fIf (fT (fOp (dCmp fun i j => decide (j < i)) (fCall dLen (fCons (fVar 4) fNil)) (fC (.int 5))))
    (fRet (fLst (fCons (fC (.str "variables")) (fCons (fUn dNeg (fC (.int 1))) fNil))))
    fSkip)
    (fSeq (fIf (fT (fOp (dIsN false) (fVar 1) (fC .non)))
    (fRet (fC .non))
    fSkip)
    (fSeq (fSet 5 (fAndV (fUn (dIs ["tuple"]) (fVar 1)) (fAndV (fOp (dEq false) (fCall dLen (fCons (fVar 1) fNil)) (fCall dLen (fCons (fVar 4) fNil))) (fCall dAll (fCons (fComp (fIt (fVar 4)) (gN 6) fYes (fOp (dIn false) (fVar 6) (fVar 1)) [6]) fNil)))))
    (fRet (fIte (fT (fVar 5)) (fC .non) (fLst (fCons (fC (.str "order")) (fCons (fUn dNeg (fC (.int 1))) fNil)))))))))))
noncomputable def fn__law_problem : Fn := fnB 7 F__law_problem
theorem ok__law_problem (A : All K mg) : FnOk P w K mg base (L2N.CX P w) 4 A.f__law_problem A.fd__law_problem ["_law_thing", "_law_lane"] (spD K mg 2 fn__law_problem) :=
  okQ (N := N__law_problem) (F := F__law_problem) A.F__law_problem sc__law_problem (by decide) fun pn cdv Ar outer s H E hr tk hpo =>
    (qb_cons (qs_if (qt_w (qw_or (qt_not (qt_val (qe_isiT (ns := ["list", "tuple"]) (by decide) (by decide) (qe_v (pv 0)) (fun h => pe_callB call_isiA (by rfl) A.n_isinstance (by decide +kernel) (pa_cons h (pa_cons (pe_tup (pa_cons (pe_bltn (v := .ty "list") (u := .type "list") (by rfl) A.n_list (by decide +kernel) rfl) (pa_cons (pe_bltn (v := .ty "tuple") (u := .type "tuple") (by rfl) A.n_tuple (by decide +kernel) rfl) pa_nil))) pa_nil)))))) (qw_or1 (qt_cmp (op_notInP (by have := hr.units; exact this)) s_inP (qe_callB s_len (qa_cons (qe_v (pv 0)) qa_nil) (fun h => pe_callB call_lenA (by rfl) A.n_len (by decide +kernel) h)) (qe_lst (qa_cons qe_int (qa_cons qe_int (qa_cons qe_int (qa_cons qe_int (qa_cons qe_int (qa_cons qe_int (qa_cons qe_int (qa_cons qe_int qa_nil))))))))) (by with_unfolding_all rfl)))))
    (qb_one (qs_ret (qe_lst (qa_cons qe_str (qa_cons (qe_un un_neg s_neg qe_int) qa_nil)))))
    qb_nil)
    (qb_cons (qs_forL (g := (gTup 2 (gCons (gN 2) (gCons (gN 3) gNil)))) (tg_tup (tgs_cons tg_name (tgs_cons tg_name tgs_nil))) hpo rfl (qil_enum (by rfl) A.n_enumerate (qe_v (pv 0))) (pg_tup rfl (pgs_cons (pg_name (i := 2) sc__law_problem.nd rfl (by first | exact Or.inl rfl | exact Or.inr rfl)) (pgs_cons (pg_name (i := 3) sc__law_problem.nd rfl (by first | exact Or.inl rfl | exact Or.inr rfl)) pgs_nil)))
    (qb_one (qs_if (qt_not (qt_val (qe_call (f := fn__law_is_literal) (dvs := []) wdl_nil rfl (qn_cons (qe_v (pv 3)) qn_nil) (fun h => Cv.pe_callSD (ok__law_is_literal A) (hr.mono (by first | decide | omega)) (by rfl) A.g__law_is_literal A.F__law_is_literal.kp A.b__law_is_literal .nil (fun σ => L2N.passAt tk σ) h))))
    (qb_one (qs_ret (qe_lst (qa_cons qe_str (qa_cons (qe_v (pv 2)) qa_nil)))))
    qb_nil)))
    (qb_cons (qs_set (i := 4) (fun h => ps_set (i := 4) sc__law_problem.nd rfl (by first | exact Or.inl rfl | exact Or.inr rfl) h) (qe_call (f := fn__law_first_order) (dvs := []) wdl_nil rfl (qn_cons (qe_v (pv 0)) qn_nil) (fun h => Cv.pe_callSD (ok__law_first_order A) (hr.mono (by first | decide | omega)) (by rfl) A.g__law_first_order A.F__law_first_order.kp A.b__law_first_order .nil (fun σ => L2N.passAt tk σ) h)))
    (qb_cons (qs_if (qt_cmp op_gt (s_cmp (p := fun i j => decide (j < i))) (qe_callB s_len (qa_cons (qe_v (pv 4)) qa_nil) (fun h => pe_callB call_lenA (by rfl) A.n_len (by decide +kernel) h)) qe_int (nomark _))
    (qb_one (qs_ret (qe_lst (qa_cons qe_str (qa_cons (qe_un un_neg s_neg qe_int) qa_nil)))))
    qb_nil)
    (qb_cons (qs_if (qt_cmp op_isN s_isN (qe_v (pv 1)) qe_non (nomark _))
    (qb_one (qs_ret qe_non))
    qb_nil)
    (qb_cons (qs_set (i := 5) (fun h => ps_set (i := 5) sc__law_problem.nd rfl (by first | exact Or.inl rfl | exact Or.inr rfl) h) (qe_and (qe_isi1 (n := "tuple") (by decide) (qe_v (pv 1)) (fun h => pe_callB call_isiA (by rfl) A.n_isinstance (by decide +kernel) (pa_cons h (pa_cons (pe_bltn (v := .ty "tuple") (u := .type "tuple") (by rfl) A.n_tuple (by decide +kernel) rfl) pa_nil)))) (qe_and (qe_cmp (op_eqP (by have := hr.units; exact this)) s_eqP (qe_callB s_len (qa_cons (qe_v (pv 1)) qa_nil) (fun h => pe_callB call_lenA (by rfl) A.n_len (by decide +kernel) h)) (qe_callB s_len (qa_cons (qe_v (pv 4)) qa_nil) (fun h => pe_callB call_lenA (by rfl) A.n_len (by decide +kernel) h)) (nomark _)) (qe_one (qe_callB s_all (qa_cons (qe_lcQ (g := (gN 6)) (own := [("_law_name", 6)]) tg_name rfl (by decide) rfl sc__law_problem.nd (qi_any (qe_v (pv 4))) (blkOk_by (N := N__law_problem) (sc := defScope s__law_problem) (by decide +kernel)) (fun _ _ _ _ _ => (pg_name (i := 6) sc__law_problem.nd rfl (Or.inl rfl))) (fun _ _ _ _ _ => qtss_nil) (fun _ _ _ _ _ => (qe_cmp (op_inP (by have := hr.units; exact this)) s_inP (qe_v (pv 6)) (qe_v (pv 1)) (by with_unfolding_all rfl)))) qa_nil) (fun h => pe_callB (cr_all rfl) (by rfl) A.n_all (by decide +kernel) h))))))
    (qb_one (qs_ret (qe_ite (qt_val (qe_v (pv 5))) qe_non (qe_lst (qa_cons qe_str (qa_cons (qe_un un_neg s_neg qe_int) qa_nil))))))))))))
noncomputable def F__law_some_order : Ds :=
    (fSeq (fSet 2 (fCall dTuple (fCons (fCallD fn__law_mixed [] (fCons (fVar 0) (fCons (fVar 1) fNil))) fNil)))
    (fSeq (fSet 3 (fCallD fn__law_take [] (fCons (fVar 0) (fCons (fC (.int 9)) fNil))))
    (fSeq (fIf (fT (fOp (dCmp fun i j => decide (i < j)) (fVar 3) (fC (.int 3))))
    (fRet (fC .non))
    fSkip)
    (fSeq (fIf (fT (fOp (dCmp fun i j => decide (i < j)) (fVar 3) (fC (.int 6))))
    (fRet (fVar 2))
    fSkip)
    (fSeq (fSet 4 (fLst (fCons (fCall dList (fCons (fVar 2) fNil)) (fCons (fOp dAdd (fVar 2) (fTup (fCons (fC (.str "zz")) fNil))) (fCons (fSl (fVar 2) (fSome (fC (.int 1))) fNone) (fCons (fOp dAdd (fVar 2) (fSl (fVar 2) fNone (fSome (fC (.int 1))))) (fCons (fOp dAdd (fTup (fCons (fC (.str "zz")) fNil)) (fSl (fVar 2) (fSome (fC (.int 1))) fNone)) (fCons (fStrM dJoin (fC (.str "")) (fCons (fVar 2) fNil)) (fCons (fTup fNil) (fCons (fC (.int 0)) fNil))))))))))
    (fRet (fCallD fn__law_pick [] (fCons (fVar 0) (fCons (fOp dAdd (fVar 4) (fLst (fCons (fC (.bl false)) (fCons (fCall dTuple (fCons (fComp (fIt (fVar 2)) (gN 5) fYes (fTup (fCons (fVar 5) fNil)) [5]) fNil)) (fCons (fCall dTuple (fCons (fComp (fIt (fVar 2)) (gN 5) fYes (fC .non) [5]) fNil)) (fCons (fFrz fDctN) fNil)))))) fNil)))))))))
noncomputable def fn__law_some_order : Fn := fnB 6 F__law_some_order
theorem ok__law_some_order (A : All K mg) : FnOk P w K mg base (L2N.CX P w) 3 A.f__law_some_order A.fd__law_some_order ["_law_pot_here", "_law_names"] (spD K mg 2 fn__law_some_order) :=
  okQ (N := N__law_some_order) (F := F__law_some_order) A.F__law_some_order sc__law_some_order (by decide) fun pn cdv Ar outer s H E hr tk hpo =>
    (qb_cons (qs_set (i := 2) (fun h => ps_set (i := 2) sc__law_some_order.nd rfl (by first | exact Or.inl rfl | exact Or.inr rfl) h) (qe_callB s_tuple (qa_cons (qe_call (f := fn__law_mixed) (dvs := []) wdl_nil rfl (qn_cons (qe_v (pv 0)) (qn_cons (qe_v (pv 1)) qn_nil)) (fun h => Cv.pe_callSD (ok__law_mixed A) (hr.mono (by first | decide | omega)) (by rfl) A.g__law_mixed A.F__law_mixed.kp A.b__law_mixed .nil (fun σ => L2N.passAt tk σ) h)) qa_nil) (fun h => pe_callTy call_tuple_of (by rfl) A.n_tuple (by decide +kernel) h)))
    (qb_cons (qs_set (i := 3) (fun h => ps_set (i := 3) sc__law_some_order.nd rfl (by first | exact Or.inl rfl | exact Or.inr rfl) h) (qe_call (f := fn__law_take) (dvs := []) wdl_nil rfl (qn_cons (qe_v (pv 0)) (qn_cons qe_int qn_nil)) (fun h => Cv.pe_callSD (ok__law_take A) (hr.mono (by first | decide | omega)) (by rfl) A.g__law_take A.F__law_take.kp A.b__law_take .nil (fun σ => L2N.passAt tk σ) h)))
    (qb_cons (qs_if (qt_cmp op_lt (s_cmp (p := fun i j => decide (i < j))) (qe_v (pv 3)) qe_int (nomark _))
    (qb_one (qs_ret qe_non))
    qb_nil)
    (qb_cons (qs_if (qt_cmp op_lt (s_cmp (p := fun i j => decide (i < j))) (qe_v (pv 3)) qe_int (nomark _))
    (qb_one (qs_ret (qe_v (pv 2))))
    qb_nil)
    (qb_cons (qs_set (i := 4) (fun h => ps_set (i := 4) sc__law_some_order.nd rfl (by first | exact Or.inl rfl | exact Or.inr rfl) h) (qe_lst (qa_cons (qe_callB s_list (qa_cons (qe_v (pv 2)) qa_nil) (fun h => pe_callTy call_list_of (by rfl) A.n_list (by decide +kernel) h)) (qa_cons (qe_op op_plus s_add (qe_v (pv 2)) (qe_tup (qa_cons qe_str qa_nil))) (qa_cons (qe_sl (qe_v (pv 2)) (qo_some qe_int) qo_none) (qa_cons (qe_op op_plus s_add (qe_v (pv 2)) (qe_sl (qe_v (pv 2)) qo_none (qo_some qe_int))) (qa_cons (qe_op op_plus s_add (qe_tup (qa_cons qe_str qa_nil)) (qe_sl (qe_v (pv 2)) (qo_some qe_int) qo_none)) (qa_cons (qe_strM s_join qe_str (qa_cons (qe_v (pv 2)) qa_nil) (fun h1 h2 => pe_bm PySem.F.plainAttrs_str PySem.F.slot_str_join PySem.F.type_str_join mt_join h1 h2)) (qa_cons (qe_tup qa_nil) (qa_cons qe_int qa_nil))))))))))
    (qb_one (qs_ret (qe_call (f := fn__law_pick) (dvs := []) wdl_nil rfl (qn_cons (qe_v (pv 0)) (qn_cons (qe_op op_plus s_add (qe_v (pv 4)) (qe_lst (qa_cons qe_bl (qa_cons (qe_callB s_tuple (qa_cons (qe_lcQ (g := (gN 5)) (own := [("_law_name", 5)]) tg_name rfl (by decide) rfl sc__law_some_order.nd (qi_any (qe_v (pv 2))) (blkOk_by (N := N__law_some_order) (sc := defScope s__law_some_order) (by decide +kernel)) (fun _ _ _ _ _ => (pg_name (i := 5) sc__law_some_order.nd rfl (Or.inl rfl))) (fun _ _ _ _ _ => qtss_nil) (fun _ _ _ _ _ => (qe_tup (qa_cons (qe_v (pv 5)) qa_nil)))) qa_nil) (fun h => pe_callTy call_tuple_of (by rfl) A.n_tuple (by decide +kernel) h)) (qa_cons (qe_callB s_tuple (qa_cons (qe_lcQ (g := (gN 5)) (own := [("_law_name", 5)]) tg_name rfl (by decide) rfl sc__law_some_order.nd (qi_any (qe_v (pv 2))) (blkOk_by (N := N__law_some_order) (sc := defScope s__law_some_order) (by decide +kernel)) (fun _ _ _ _ _ => (pg_name (i := 5) sc__law_some_order.nd rfl (Or.inl rfl))) (fun _ _ _ _ _ => qtss_nil) (fun _ _ _ _ _ => qe_non)) qa_nil) (fun h => pe_callTy call_tuple_of (by rfl) A.n_tuple (by decide +kernel) h)) (qa_cons (qe_frz qn_dct) qa_nil)))))) qn_nil)) (fun h => Cv.pe_callSD (ok__law_pick A) (hr.mono (by first | decide | omega)) (by rfl) A.g__law_pick A.F__law_pick.kp A.b__law_pick .nil (fun σ => L2N.passAt tk σ) h)))))))))
end
end D31

namespace D31
open PySem PySem.Spec PyProof.Rows L2 Cv Dv Dv.Sh
section
variable {P : Program} {w : World} {K : PySem.W.Frag} {mg : Str → Option Value} {base : Heap}
theorem kb_Query___init___0_order_literals (A : All K mg) : KBn K A.fd_Query___init__ ["self", "literals", "order"] 1 ["order", "literals"] (gP [0, 2, 1]) (gP [0, 2, 1]) :=
  funDK A.F_Query___init__ 1 ["order", "literals"] [0, 2, 1] (by simp) fun _ _ _ _ _ _ _ us ws its h1 h2 h3 => match us, ws, its, h1, h2, h3 with | [_], [_, _], [_], _, _, _ => ⟨_, rfl, rfl⟩
theorem hg0_kb_Query___init___0_order_literals (A : All K mg) {g : Gm} : ∀ (w : Wd) (a : Addr) (zs : List V) (es : List D), RepL K g w zs es → es.length = 2 → ∃ us, gP [0, 2, 1] [V.ref a] zs = .ref a :: us ∧ RepL K g w us (gP [1, 0] [] es) ∧ (gP [1, 0] ([] : List D) es).length = 2 :=
  fun w a zs es r2 h2 => ⟨gP [1, 0] [] zs, by rfl, repL_gP .nil r2 _, match es, h2 with | [_, _], _ => rfl⟩
theorem kb_Query___init___1_order (A : All K mg) : KBn K A.fd_Query___init__ ["self", "literals", "order"] 2 ["order"] (gP [0, 1, 2]) (gP [0, 1, 2]) :=
  funDK A.F_Query___init__ 2 ["order"] [0, 1, 2] (by simp) fun _ _ _ _ _ _ _ us ws its h1 h2 h3 => match us, ws, its, h1, h2, h3 with | [_, _], [_], [_], _, _, _ => ⟨_, rfl, rfl⟩
theorem hg_kb_Query___init___1_order (A : All K mg) {g : Gm} : ∀ (w : Wd) (a : Addr) (vs zs : List V) (ds es : List D), RepL K g w vs ds → RepL K g w zs es → ds.length = 1 → es.length = 1 → ∃ us, gP [0, 1, 2] (V.ref a :: vs) zs = .ref a :: us ∧ RepL K g w us (gP [0, 1] ds es) ∧ (gP [0, 1] ds es).length = 2 :=
  fun w a vs zs ds es r1 r2 h1 h2 => ⟨gP [0, 1] vs zs, by rfl, repL_gP r1 r2 _, match ds, es, h1, h2 with | [_], [_], _, _ => rfl⟩
noncomputable def F__law_told : Ds :=
    (fSeq (fSet 3 (fC (.str "other")))
    (fSeq (fTry 5 (fSeq (fIf (fT (fOp (dEq false) (fVar 2) (fC (.int 0))))
    (fSet 4 (fFrz (fMake fi_Query [] (fCons (fVar 0) (fCons (fVar 1) fNil)))))
    (fIf (fT (fOp (dEq false) (fVar 2) (fC (.int 1))))
    (fSet 4 (fFrz (fMakeK fi_Query (gP [1, 0]) fNil (fCons (fVar 1) (fCons (fVar 0) fNil)))))
    (fSet 4 (fIte (fT (fOp (dIsN false) (fVar 1) (fC .non))) (fFrz (fMake fi_Query [.non] (fCons (fVar 0) fNil))) (fFrz (fMakeK fi_Query (gP [0, 1]) (fCons (fVar 0) fNil) (fCons (fVar 1) fNil)))))))
    (fSet 3 (fLst (fCons (fC (.str "made")) (fCons (fMeth "Query" "literals" fn_Query_literals [] (fVar 4) fNil) (fCons (fProp "Query" fn_Query_variables (fVar 4)) (fCons (fLenO "Query" fn_Query___len__ (fVar 4)) fNil)))))))
    [(oL [("InvalidQuery", true)], (fIf (fAnd (fT (fErrIs 5 (oL [("InvalidQuery", true)]))) (fAnd (fT (fErrIs 5 (oL [("InvalidQuery", true)]))) (fNot (fT (fErrIs 5 (oL [("InvalidQuery", false)]))))))
    (fSet 3 (fLst (fCons (fC (.str "refused")) (fCons (fLst (fCons (fErr 5 "problem" ["InvalidQuery"]) (fCons (fErr 5 "position" ["InvalidQuery"]) fNil))) fNil))))
    fSkip))])
    (fRet (fVar 3))))
noncomputable def fn__law_told : Fn := fnB 6 F__law_told
theorem ok__law_told (A : All K mg) : FnOk P w K mg base (L2N.CX P w) 8 A.f__law_told A.fd__law_told ["_law_thing", "_law_lane", "_law_way"] (spD K mg 3 fn__law_told) :=
  okQ (N := N__law_told) (F := F__law_told) A.F__law_told sc__law_told (by decide) fun pn cdv Ar outer s H E hr tk hpo =>
    (qb_cons (qs_set (i := 3) (fun h => ps_set (i := 3) sc__law_told.nd rfl (by first | exact Or.inl rfl | exact Or.inr rfl) h) qe_str)
    (qb_cons (qs_try (X := (cxD P w K mg base N__law_told "_law_told" (defScope s__law_told) A.f__law_told cdv Ar outer s H E)) (i := 5) rfl rfl sc__law_told.nd rfl rfl tk (fun V pn xe tk2 hpo2 => (qb_cons (qs_if (qt_cmp (op_eqP (by have := hr.units; exact this)) s_eqP (qe_v (pv 2)) qe_int (nomark _))
    (qb_one (qs_set (i := 4) (fun h => ps_set (i := 4) sc__law_told.nd rfl (by first | exact Or.inl rfl | exact Or.inr rfl) h) (qe_frz (qn_mk (f := fi_Query) (dvs := []) A.gc_Query wdl_nil rfl (qn_cons (qe_v (pv 0)) (qn_cons (qe_v (pv 1)) qn_nil)) (fun h => pe_mkS A.mk_Query (ok_Query___init__ A) (hr.mono (by first | decide | omega)) (by rfl) A.gc_Query A.b_Query___init__ .nil (fun σ => L2N.passAt tk2 σ) h)))))
    (qb_one (qs_if (qt_cmp (op_eqP (by have := hr.units; exact this)) s_eqP (qe_v (pv 2)) qe_int (nomark _))
    (qb_one (qs_set (i := 4) (fun h => ps_set (i := 4) sc__law_told.nd rfl (by first | exact Or.inl rfl | exact Or.inr rfl) h) (qe_frz (qn_mkK0 (f := fi_Query) A.gc_Query (hg0_kb_Query___init___0_order_literals A) (qk_cons (qe_v (pv 1)) (qk_cons (qe_v (pv 0)) qk_nil)) (fun h => pe_mkKS0 A.mk_Query (ok_Query___init__ A) (hr.mono (by first | decide | omega)) (by rfl) A.gc_Query (kb_Query___init___0_order_literals A) (fun σ => L2N.passAt tk2 σ) h)))))
    (qb_one (qs_set (i := 4) (fun h => ps_set (i := 4) sc__law_told.nd rfl (by first | exact Or.inl rfl | exact Or.inr rfl) h) (qe_ite (qt_cmp op_isN s_isN (qe_v (pv 1)) qe_non (nomark _)) (qe_frz (qn_mk (f := fi_Query) (dvs := [.non]) A.gc_Query wdl_non rfl (qn_cons (qe_v (pv 0)) qn_nil) (fun h => pe_mkS A.mk_Query (ok_Query___init__ A) (hr.mono (by first | decide | omega)) (by rfl) A.gc_Query A.bd_Query___init__.choose_spec.2 A.bd_Query___init__.choose_spec.1 (fun σ => L2N.passAt tk2 σ) h))) (qe_frz (qn_mkK (f := fi_Query) A.gc_Query (hg_kb_Query___init___1_order A) (qn_cons (qe_v (pv 0)) qn_nil) (qk_cons (qe_v (pv 1)) qk_nil) (fun h1 h2 => pe_mkKS A.mk_Query (ok_Query___init__ A) (hr.mono (by first | decide | omega)) (by rfl) A.gc_Query (kb_Query___init___1_order A) (fun σ => L2N.passAt tk2 σ) h1 h2)))))))))
    (qb_one (qs_set (i := 3) (fun h => ps_set (i := 3) sc__law_told.nd rfl (by first | exact Or.inl rfl | exact Or.inr rfl) h) (qe_lst (qa_cons qe_str (qa_cons (qe_meth0 (f := fn_Query_literals) (dvs := []) A.gc_Query wdl_nil rfl (qe_v (pv 4)) (fun h1 => pe_methS0 h1 A.cl_Query A.m_Query_literals (ok_Query_literals A) (hr.mono (by first | decide | omega)) A.b_Query_literals .nil (fun σ => L2N.passAt tk2 σ))) (qa_cons (qe_prop (f := fn_Query_variables) A.gc_Query (qe_v (pv 4)) (fun h => pe_prop h A.cl_Query A.pr_Query_variables (ok_Query_variables A) (hr.mono (by first | decide | omega)) A.b_Query_variables .nil passN0 rfl)) (qa_cons (qe_lenO (f := fn_Query___len__) A.gc_Query (qe_v (pv 4)) (fun h => pe_callB (call_lenO A.m_Query___len__.at_ (eq_of_beq A.m_Query___len__.fn) (ok_Query___len__ A) (hr.mono (by first | decide | omega)) A.b_Query___len__ passN0) (by rfl) A.n_len (by decide +kernel) (pa_cons h pa_nil))) qa_nil)))))))))
    (QHd.cons ⟨by rfl, by decide, .inl A.gc_InvalidQuery⟩ (orc_cons A.gc_InvalidQuery A.x_InvalidQuery_InvalidQuery orc_nil) (fun a oe cls d pn z fl => (qb_one (qs_if (qt_w (qw_and (qt_val (qe_errIs (i := 5) (orck_cons A.gc_InvalidQuery A.e_InvalidQuery A.k_InvalidQuery_CoverError orck_nil) (.own A.c_CoverError) z fl (pe_callB (call_isP2 List.mem_cons_self fl) (by rfl) A.n_isinstance (by decide +kernel) (pa_cons (pv 5) (pa_cons (pe_glob (v := .ref A.c_CoverError) (by rfl) A.gc_CoverError rfl) pa_nil))))) (qw_and (qt_val (qe_errIs (i := 5) (orck_cons A.gc_InvalidQuery A.e_InvalidQuery A.k_InvalidQuery_ValueError orck_nil) (.ty "ValueError") z fl (pe_callB (call_isP2 List.mem_cons_self fl) (by rfl) A.n_isinstance (by decide +kernel) (pa_cons (pv 5) (pa_cons (pe_bltn (v := .ty "ValueError") (u := .type "ValueError") (by rfl) A.n_ValueError (by decide +kernel) rfl) pa_nil))))) (qw_and1 (qt_not (qt_val (qe_errIs (i := 5) (orck_cons A.gc_InvalidQuery A.e_InvalidQuery A.k_InvalidQuery_InvalidText orck_nil) (.own A.c_InvalidText) z fl (pe_callB (call_isP2 List.mem_cons_self fl) (by rfl) A.n_isinstance (by decide +kernel) (pa_cons (pv 5) (pa_cons (pe_glob (v := .ref A.c_InvalidText) (by rfl) A.gc_InvalidText rfl) pa_nil))))))))))
    (qb_one (qs_set (i := 3) (fun h => ps_set (i := 3) sc__law_told.nd rfl (by first | exact Or.inl rfl | exact Or.inr rfl) h) (qe_lst (qa_cons qe_str (qa_cons (qe_lst (qa_cons (qe_err (i := 5) (err1 A.gc_InvalidQuery A.e_InvalidQuery.xf A.na_InvalidQuery_problem) z fl (pv 5)) (qa_cons (qe_err (i := 5) (err1 A.gc_InvalidQuery A.e_InvalidQuery.xf A.na_InvalidQuery_position) z fl (pv 5)) qa_nil))) qa_nil)))))
    qb_nil))) QHd.nil))
    (qb_one (qs_ret (qe_v (pv 3))))))
noncomputable def F__law_stays : Ds :=
    (fSeq (fSet 2 (fRef (fListN (fVar 0))))
    (fSeq (fSet 3 (fFrz (fMake fi_Query [] (fCons (fVar 2) (fCons (fVar 1) fNil)))))
    (fSeq (fSet 4 (fIte (fT (fOp (dIsN false) (fVar 1) (fC .non))) (fCall dTuple (fCons (fCallD fn__law_first_order [] (fCons (fVar 0) fNil)) fNil)) (fVar 1)))
    (fSeq (fExpr (fRefM lAppend (fVar 2) (fCons (fTup (fCons (fC (.str "row")) (fCons (fC (.str "zz")) (fCons (fTup (fCons (fC (.int 1)) fNil)) fNil)))) fNil)))
    (fSeq (fPut (fVar 2) (fC (.int 0)) (fTup (fCons (fC (.str "=")) (fCons (fC (.str "zz")) (fCons (fC (.int 5)) fNil)))))
    (fSeq (fExpr (fRefM lClear (fMeth "Query" "literals" fn_Query_literals_r [] (fVar 3) fNil) fNil))
    (fSeq (fExpr (fRefM lAppend (fMeth "Query" "literals" fn_Query_literals_r [] (fVar 3) fNil) (fCons (fC .non) fNil)))
    (fRet (fOp (dEq false) (fLst (fCons (fMeth "Query" "literals" fn_Query_literals [] (fVar 3) fNil) (fCons (fProp "Query" fn_Query_variables (fVar 3)) (fCons (fLenO "Query" fn_Query___len__ (fVar 3)) fNil)))) (fLst (fCons (fVar 0) (fCons (fVar 4) (fCons (fCall dLen (fCons (fVar 0) fNil)) fNil)))))))))))))
noncomputable def fn__law_stays : Fn := fnB 5 F__law_stays
theorem ok__law_stays (A : All K mg) : FnOk P w K mg base (L2N.CX P w) 8 A.f__law_stays A.fd__law_stays ["_law_parts", "_law_lane"] (spD K mg 2 fn__law_stays) :=
  okQ (N := N__law_stays) (F := F__law_stays) A.F__law_stays sc__law_stays (by decide) fun pn cdv Ar outer s H E hr tk hpo =>
    (qb_cons (qs_set (i := 2) (fun h => ps_set (i := 2) sc__law_stays.nd rfl (by first | exact Or.inl rfl | exact Or.inr rfl) h) (qe_ref (qn_list (qe_v (pv 0)) (fun h => pe_callTy call_list_of (by rfl) A.n_list (by decide +kernel) (pa_cons h pa_nil)))))
    (qb_cons (qs_set (i := 3) (fun h => ps_set (i := 3) sc__law_stays.nd rfl (by first | exact Or.inl rfl | exact Or.inr rfl) h) (qe_frz (qn_mk (f := fi_Query) (dvs := []) A.gc_Query wdl_nil rfl (qn_cons (qe_v (pv 2)) (qn_cons (qe_v (pv 1)) qn_nil)) (fun h => pe_mkS A.mk_Query (ok_Query___init__ A) (hr.mono (by first | decide | omega)) (by rfl) A.gc_Query A.b_Query___init__ .nil (fun σ => L2N.passAt tk σ) h))))
    (qb_cons (qs_set (i := 4) (fun h => ps_set (i := 4) sc__law_stays.nd rfl (by first | exact Or.inl rfl | exact Or.inr rfl) h) (qe_ite (qt_cmp op_isN s_isN (qe_v (pv 1)) qe_non (nomark _)) (qe_callB s_tuple (qa_cons (qe_call (f := fn__law_first_order) (dvs := []) wdl_nil rfl (qn_cons (qe_v (pv 0)) qn_nil) (fun h => Cv.pe_callSD (ok__law_first_order A) (hr.mono (by first | decide | omega)) (by rfl) A.g__law_first_order A.F__law_first_order.kp A.b__law_first_order .nil (fun σ => L2N.passAt tk σ) h)) qa_nil) (fun h => pe_callTy call_tuple_of (by rfl) A.n_tuple (by decide +kernel) h)) (qe_v (pv 1))))
    (qb_cons (qs_expr (qe_refM l_append (qe_v (pv 2)) (qa_cons (qe_tup (qa_cons qe_str (qa_cons qe_str (qa_cons (qe_tup (qa_cons qe_int qa_nil)) qa_nil)))) qa_nil) (fun h1 h2 => pe_bm PySem.F.plainAttrs_list PySem.F.slot_list_append PySem.F.type_list_append mt_append h1 h2)))
    (qb_cons (qs_put (qe_tup (qa_cons qe_str (qa_cons qe_str (qa_cons qe_int qa_nil)))) (qe_v (pv 2)) qe_int (fun h1 h2 h3 => ps_asg h1 (pg_sub h2 h3 set_list)))
    (qb_cons (qs_expr (qe_refM0 l_clear (qe_meth0 (f := fn_Query_literals_r) (dvs := []) A.gc_Query wdl_nil rfl (qe_v (pv 3)) (fun h1 => pe_methS0 h1 A.cl_Query A.m_Query_literals (ok_Query_literals_r A) (hr.mono (by first | decide | omega)) A.b_Query_literals .nil (fun σ => L2N.passAt tk σ))) (fun h => pe_bm0 PySem.F.plainAttrs_list PySem.F.slot_list_clear PySem.F.type_list_clear mt_clear h)))
    (qb_cons (qs_expr (qe_refM l_append (qe_meth0 (f := fn_Query_literals_r) (dvs := []) A.gc_Query wdl_nil rfl (qe_v (pv 3)) (fun h1 => pe_methS0 h1 A.cl_Query A.m_Query_literals (ok_Query_literals_r A) (hr.mono (by first | decide | omega)) A.b_Query_literals .nil (fun σ => L2N.passAt tk σ))) (qa_cons qe_non qa_nil) (fun h1 h2 => pe_bm PySem.F.plainAttrs_list PySem.F.slot_list_append PySem.F.type_list_append mt_append h1 h2)))
    (qb_one (qs_ret (qe_cmp (op_eqP (by have := hr.units; exact this)) s_eqP (qe_lst (qa_cons (qe_meth0 (f := fn_Query_literals) (dvs := []) A.gc_Query wdl_nil rfl (qe_v (pv 3)) (fun h1 => pe_methS0 h1 A.cl_Query A.m_Query_literals (ok_Query_literals A) (hr.mono (by first | decide | omega)) A.b_Query_literals .nil (fun σ => L2N.passAt tk σ))) (qa_cons (qe_prop (f := fn_Query_variables) A.gc_Query (qe_v (pv 3)) (fun h => pe_prop h A.cl_Query A.pr_Query_variables (ok_Query_variables A) (hr.mono (by first | decide | omega)) A.b_Query_variables .nil passN0 rfl)) (qa_cons (qe_lenO (f := fn_Query___len__) A.gc_Query (qe_v (pv 3)) (fun h => pe_callB (call_lenO A.m_Query___len__.at_ (eq_of_beq A.m_Query___len__.fn) (ok_Query___len__ A) (hr.mono (by first | decide | omega)) A.b_Query___len__ passN0) (by rfl) A.n_len (by decide +kernel) (pa_cons h pa_nil))) qa_nil)))) (qe_lst (qa_cons (qe_v (pv 0)) (qa_cons (qe_v (pv 4)) (qa_cons (qe_callB s_len (qa_cons (qe_v (pv 0)) qa_nil) (fun h => pe_callB call_lenA (by rfl) A.n_len (by decide +kernel) h)) qa_nil)))) (nomark _)))))))))))
noncomputable def F__law_right : Ds :=
    (fSeq (fPar 3 4 (fCons (fCall dRepr (fCons (fLst (fCons (fVar 1) (fCons (fVar 2) fNil))) fNil)) (fCons (fCallD fn__law_problem [] (fCons (fVar 1) (fCons (fVar 2) fNil))) fNil)))
    (fSeq (fSet 5 (fLst (fCons (fC (.str "refused")) (fCons (fVar 4) fNil))))
    (fSeq (fIf (fT (fOp (dIsN false) (fVar 4) (fC .non)))
    (fSeq (fSet 6 (fIte (fT (fOp (dIsN false) (fVar 2) (fC .non))) (fCall dTuple (fCons (fCallD fn__law_first_order [] (fCons (fVar 1) fNil)) fNil)) (fVar 2)))
    (fSet 5 (fLst (fCons (fC (.str "made")) (fCons (fCall dList (fCons (fVar 1) fNil)) (fCons (fVar 6) (fCons (fCall dLen (fCons (fVar 1) fNil)) fNil)))))))
    fSkip)
    (fSeq (fIf (fOr (fT (fOp (dEq true) (fCall dRepr (fCons (fCallD fn__law_told [] (fCons (fVar 1) (fCons (fVar 2) (fCons (fCallD fn__law_take [] (fCons (fVar 0) (fCons (fC (.int 3)) fNil))) fNil)))) fNil)) (fCall dRepr (fCons (fVar 5) fNil)))) (fT (fOp (dEq true) (fCall dRepr (fCons (fLst (fCons (fVar 1) (fCons (fVar 2) fNil))) fNil)) (fVar 3))))
    (fRet (fC (.bl false)))
    fSkip)
    (fRet (fOrV (fOp (dIsN true) (fVar 4) (fC .non)) (fCallD fn__law_stays [] (fCons (fCall dList (fCons (fVar 1) fNil)) (fCons (fVar 2) fNil)))))))))
noncomputable def fn__law_right : Fn := fnB 7 F__law_right
theorem ok__law_right (A : All K mg) : FnG P w K mg base (L2N.CX P w) 9 A.f__law_right A.fd__law_right ["_law_pot_here", "_law_thing", "_law_lane"] (spD K mg 3 fn__law_right) :=
  okG (N := N__law_right) (F := F__law_right) A.F__law_right sc__law_right (by decide) fun pn cdv Ar outer s H E hr gd tk hpo =>
    (qb_cons (qs_par (i := 3) (j := 4) (qa_cons (qe_callB s_repr (qa_cons (qe_lst (qa_cons (qe_v (pv 1)) (qa_cons (qe_v (pv 2)) qa_nil))) qa_nil) (fun h => pe_callB (call_reprQ (K0 := K) rfl A.sy gd hr.units) (by rfl) A.n_repr (by decide +kernel) h)) (qa_cons (qe_call (f := fn__law_problem) (dvs := []) wdl_nil rfl (qn_cons (qe_v (pv 1)) (qn_cons (qe_v (pv 2)) qn_nil)) (fun h => Cv.pe_callSD (ok__law_problem A) (hr.mono (by first | decide | omega)) (by rfl) A.g__law_problem A.F__law_problem.kp A.b__law_problem .nil (fun σ => L2N.passAt tk σ) h)) qa_nil)) (fun h => ps_par (i := 3) (j := 4) rfl sc__law_right.nd rfl rfl (by decide) rfl rfl h (by rfl)))
    (qb_cons (qs_set (i := 5) (fun h => ps_set (i := 5) sc__law_right.nd rfl (by first | exact Or.inl rfl | exact Or.inr rfl) h) (qe_lst (qa_cons qe_str (qa_cons (qe_v (pv 4)) qa_nil))))
    (qb_cons (qs_if (qt_cmp op_isN s_isN (qe_v (pv 4)) qe_non (nomark _))
    (qb_cons (qs_set (i := 6) (fun h => ps_set (i := 6) sc__law_right.nd rfl (by first | exact Or.inl rfl | exact Or.inr rfl) h) (qe_ite (qt_cmp op_isN s_isN (qe_v (pv 2)) qe_non (nomark _)) (qe_callB s_tuple (qa_cons (qe_call (f := fn__law_first_order) (dvs := []) wdl_nil rfl (qn_cons (qe_v (pv 1)) qn_nil) (fun h => Cv.pe_callSD (ok__law_first_order A) (hr.mono (by first | decide | omega)) (by rfl) A.g__law_first_order A.F__law_first_order.kp A.b__law_first_order .nil (fun σ => L2N.passAt tk σ) h)) qa_nil) (fun h => pe_callTy call_tuple_of (by rfl) A.n_tuple (by decide +kernel) h)) (qe_v (pv 2))))
    (qb_one (qs_set (i := 5) (fun h => ps_set (i := 5) sc__law_right.nd rfl (by first | exact Or.inl rfl | exact Or.inr rfl) h) (qe_lst (qa_cons qe_str (qa_cons (qe_callB s_list (qa_cons (qe_v (pv 1)) qa_nil) (fun h => pe_callTy call_list_of (by rfl) A.n_list (by decide +kernel) h)) (qa_cons (qe_v (pv 6)) (qa_cons (qe_callB s_len (qa_cons (qe_v (pv 1)) qa_nil) (fun h => pe_callB call_lenA (by rfl) A.n_len (by decide +kernel) h)) qa_nil))))))))
    qb_nil)
    (qb_cons (qs_if (qt_w (qw_or (qt_cmp (op_neP (by have := hr.units; exact this)) s_eqP (qe_callB s_repr (qa_cons (qe_call (f := fn__law_told) (dvs := []) wdl_nil rfl (qn_cons (qe_v (pv 1)) (qn_cons (qe_v (pv 2)) (qn_cons (qe_call (f := fn__law_take) (dvs := []) wdl_nil rfl (qn_cons (qe_v (pv 0)) (qn_cons qe_int qn_nil)) (fun h => Cv.pe_callSD (ok__law_take A) (hr.mono (by first | decide | omega)) (by rfl) A.g__law_take A.F__law_take.kp A.b__law_take .nil (fun σ => L2N.passAt tk σ) h)) qn_nil))) (fun h => Cv.pe_callSD (ok__law_told A) (hr.mono (by first | decide | omega)) (by rfl) A.g__law_told A.F__law_told.kp A.b__law_told .nil (fun σ => L2N.passAt tk σ) h)) qa_nil) (fun h => pe_callB (call_reprQ (K0 := K) rfl A.sy gd hr.units) (by rfl) A.n_repr (by decide +kernel) h)) (qe_callB s_repr (qa_cons (qe_v (pv 5)) qa_nil) (fun h => pe_callB (call_reprQ (K0 := K) rfl A.sy gd hr.units) (by rfl) A.n_repr (by decide +kernel) h)) (nomark _)) (qw_or1 (qt_cmp (op_neP (by have := hr.units; exact this)) s_eqP (qe_callB s_repr (qa_cons (qe_lst (qa_cons (qe_v (pv 1)) (qa_cons (qe_v (pv 2)) qa_nil))) qa_nil) (fun h => pe_callB (call_reprQ (K0 := K) rfl A.sy gd hr.units) (by rfl) A.n_repr (by decide +kernel) h)) (qe_v (pv 3)) (nomark _)))))
    (qb_one (qs_ret qe_bl))
    qb_nil)
    (qb_one (qs_ret (qe_or (qe_cmp op_notN s_notN (qe_v (pv 4)) qe_non (nomark _)) (qe_one (qe_call (f := fn__law_stays) (dvs := []) wdl_nil rfl (qn_cons (qe_callB s_list (qa_cons (qe_v (pv 1)) qa_nil) (fun h => pe_callTy call_list_of (by rfl) A.n_list (by decide +kernel) h)) (qn_cons (qe_v (pv 2)) qn_nil)) (fun h => Cv.pe_callSD (ok__law_stays A) (hr.mono (by first | decide | omega)) (by rfl) A.g__law_stays A.F__law_stays.kp A.b__law_stays .nil (fun σ => L2N.passAt tk σ) h))))))))))
end
end D31

namespace D31
open PySem PySem.Spec PyProof.Rows L2 Cv Dv Dv.Sh
section
variable {P : Program} {w : World} {K : PySem.W.Frag} {mg : Str → Option Value} {base : Heap}
noncomputable def F__law_cell_right : Ds :=
    (fSeq (fSet 1 (fComp (fRng rng1Of (fCons (fOp dAdd (fC (.int 1)) (fCallD fn__law_take [] (fCons (fVar 0) (fCons (fC (.int 7)) fNil)))) fNil)) (gN 2) fYes (fCallD fn__law_word [] (fCons (fVar 0) (fCons (fOp dIx (fC (.str "pqrstuv")) (fVar 2)) fNil))) [2]))
    (fSeq (fSet 3 (fComp (fRng rng1Of (fCons (fOp dAdd (fC (.int 1)) (fCallD fn__law_take [] (fCons (fVar 0) (fCons (fC (.int 9)) fNil)))) fNil)) (gN 2) fYes (fCallD fn__law_literal [] (fCons (fVar 0) (fCons (fVar 1) fNil))) [2]))
    (fSeq (fSet 4 (fCallD fn__law_some_order [] (fCons (fVar 0) (fCons (fCallD fn__law_first_order [] (fCons (fVar 3) fNil)) fNil))))
    (fSeq (fIf (fNot (fT (fCallD fn__law_right [] (fCons (fVar 0) (fCons (fVar 3) (fCons (fVar 4) fNil))))))
    (fRet (fC (.bl false)))
    fSkip)
    (fSeq (fSetN 5 (fListN (fVar 3)))
    (fSeq (fFor (fRng rng1Of (fCons (fOp dAdd (fC (.int 1)) (fCallD fn__law_take [] (fCons (fVar 0) (fCons (fC (.int 2)) fNil)))) fNil)) (gN 6)
    (fSeq (fSet 2 (fCallD fn__law_take [] (fCons (fVar 0) (fCons (fLenOwn 5) fNil))))
    (fPutOwn 5 (fVar 2) (fCallD fn__law_odd [] (fCons (fVar 0) (fCons (fOp dIx (fVar 3) (fVar 2)) fNil))))))
    (fSeq (fFrzS 5 (fIf (fOr (fNot (fT (fCallD fn__law_right [] (fCons (fVar 0) (fCons (fVar 5) (fCons (fVar 4) fNil)))))) (fNot (fT (fCallD fn__law_right [] (fCons (fVar 0) (fCons (fCall dTuple (fCons (fSl (fVar 5) fNone (fSome (fC (.int 2)))) fNil)) (fCons (fC .non) fNil)))))))
    (fRet (fC (.bl false)))
    fSkip))
    (fSeq (fIf (fT (fOp (dCmp fun i j => decide (j < i)) (fCallD fn__law_take [] (fCons (fVar 0) (fCons (fC (.int 8)) fNil))) (fC (.int 0))))
    (fRet (fC (.bl true)))
    fSkip)
    (fSeq (fSet 7 (fLst (fCons (fC .non) (fCons (fC (.int 5)) (fCons (fC (.bl true)) (fCons (fC (.str "row")) (fCons (fFrz fDctN) (fCons (fLst fNil) (fCons (fTup fNil) (fCons (fOp dIx (fVar 3) (fC (.int 0))) (fCons (fOp dMulT (fVar 3) (fC (.int 9))) (fCons (fSl (fOp dMulT (fVar 3) (fC (.int 9))) fNone (fSome (fC (.int 9)))) (fCons (fDctIx 0 3 0) fNil)))))))))))))
    (fRet (fCallD fn__law_right [] (fCons (fVar 0) (fCons (fCallD fn__law_pick [] (fCons (fVar 0) (fCons (fVar 7) fNil))) (fCons (fVar 4) fNil))))))))))))))
noncomputable def fn__law_cell_right : Fn := fnB 8 F__law_cell_right
theorem ok__law_cell_right (A : All K mg) : FnG P w K mg base (L2N.CX P w) 10 A.f__law_cell_right A.fd__law_cell_right ["_law_pot_here"] (spD K mg 1 fn__law_cell_right) :=
  okG (N := N__law_cell_right) (F := F__law_cell_right) A.F__law_cell_right sc__law_cell_right (by decide) fun pn cdv Ar outer s H E hr gd tk hpo =>
    (qb_cons (qs_set (i := 1) (fun h => ps_set (i := 1) sc__law_cell_right.nd rfl (by first | exact Or.inl rfl | exact Or.inr rfl) h) (qe_lcQ (g := (gN 2)) (own := [("_law_at", 2)]) tg_name rfl (by decide) rfl sc__law_cell_right.nd (qi_rng1 (fun h => pi_range1 (by rfl) A.n_range h) (qa_cons (qe_op op_plus s_add qe_int (qe_call (f := fn__law_take) (dvs := []) wdl_nil rfl (qn_cons (qe_v (pv 0)) (qn_cons qe_int qn_nil)) (fun h => Cv.pe_callSD (ok__law_take A) (hr.mono (by first | decide | omega)) (by rfl) A.g__law_take A.F__law_take.kp A.b__law_take .nil (fun σ => L2N.passAt tk σ) h))) qa_nil)) (blkOk_by (N := N__law_cell_right) (sc := defScope s__law_cell_right) (by decide +kernel)) (fun _ _ _ _ _ => (pg_name (i := 2) sc__law_cell_right.nd rfl (Or.inl rfl))) (fun _ _ _ _ _ => qtss_nil) (fun _ _ _ _ _ => (qe_call (f := fn__law_word) (dvs := []) wdl_nil rfl (qn_cons (qe_v (pv 0)) (qn_cons (qe_ix ix_seq s_ix qe_str (qe_v (pv 2)) (fun _ _ => rfl)) qn_nil)) (fun h => Cv.pe_callSD (ok__law_word A) (hr.mono (by first | decide | omega)) (by rfl) A.g__law_word A.F__law_word.kp A.b__law_word .nil (fun σ => L2N.passAt takesN0 σ) h)))))
    (qb_cons (qs_setLcQ (i := 3) (g := (gN 2)) (own := [("_law_at", 2)]) tg_name rfl (by decide) rfl sc__law_cell_right.nd rfl rfl (sw_true rfl rfl rfl (by decide +kernel)) (qi_rng1 (fun h => pi_range1 (by rfl) A.n_range h) (qa_cons (qe_op op_plus s_add qe_int (qe_call (f := fn__law_take) (dvs := []) wdl_nil rfl (qn_cons (qe_v (pv 0)) (qn_cons qe_int qn_nil)) (fun h => Cv.pe_callSD (ok__law_take A) (hr.mono (by first | decide | omega)) (by rfl) A.g__law_take A.F__law_take.kp A.b__law_take .nil (fun σ => L2N.passAt tk σ) h))) qa_nil)) (blkOk_by (N := N__law_cell_right) (sc := defScope s__law_cell_right) (by decide +kernel)) (fun _ _ _ _ _ => (pg_name (i := 2) sc__law_cell_right.nd rfl (Or.inl rfl))) (fun _ _ _ _ _ => qtss_nil) (fun _ _ _ _ _ => (qe_call (f := fn__law_literal) (dvs := []) wdl_nil rfl (qn_cons (qe_v (pv 0)) (qn_cons (qe_v (pv 1)) qn_nil)) (fun h => Cv.pe_callSD (ok__law_literal A) (hr.mono (by first | decide | omega)) (by rfl) A.g__law_literal A.F__law_literal.kp A.b__law_literal .nil (fun σ => L2N.passAt takesN0 σ) h))))
    (qb_cons (qs_set (i := 4) (fun h => ps_set (i := 4) sc__law_cell_right.nd rfl (by first | exact Or.inl rfl | exact Or.inr rfl) h) (qe_call (f := fn__law_some_order) (dvs := []) wdl_nil rfl (qn_cons (qe_v (pv 0)) (qn_cons (qe_call (f := fn__law_first_order) (dvs := []) wdl_nil rfl (qn_cons (qe_v (pv 3)) qn_nil) (fun h => Cv.pe_callSD (ok__law_first_order A) (hr.mono (by first | decide | omega)) (by rfl) A.g__law_first_order A.F__law_first_order.kp A.b__law_first_order .nil (fun σ => L2N.passAt tk σ) h)) qn_nil)) (fun h => Cv.pe_callSD (ok__law_some_order A) (hr.mono (by first | decide | omega)) (by rfl) A.g__law_some_order A.F__law_some_order.kp A.b__law_some_order .nil (fun σ => L2N.passAt tk σ) h)))
    (qb_cons (qs_if (qt_not (qt_val (qe_call (f := fn__law_right) (dvs := []) wdl_nil rfl (qn_cons (qe_v (pv 0)) (qn_cons (qe_v (pv 3)) (qn_cons (qe_v (pv 4)) qn_nil))) (fun h => pe_callGS (ok__law_right A) (hr.mono (by first | decide | omega)) gd (by rfl) A.g__law_right A.F__law_right.kp A.b__law_right .nil (fun σ => L2N.passAt tk σ) h))))
    (qb_one (qs_ret qe_bl))
    qb_nil)
    (qb_cons (qs_setN (i := 5) (by decide) (fun h => ps_set (i := 5) sc__law_cell_right.nd rfl (by first | exact Or.inl rfl | exact Or.inr rfl) h) (qn_list (qe_v (pv 3)) (fun h => pe_callTy call_list_of (by rfl) A.n_list (by decide +kernel) (pa_cons h pa_nil))))
    (qb_cons (qs_for (g := (gN 6)) tg_name hpo rfl (qi_rng1 (fun h => pi_range1 (by rfl) A.n_range h) (qa_cons (qe_op op_plus s_add qe_int (qe_call (f := fn__law_take) (dvs := []) wdl_nil rfl (qn_cons (qe_v (pv 0)) (qn_cons qe_int qn_nil)) (fun h => Cv.pe_callSD (ok__law_take A) (hr.mono (by first | decide | omega)) (by rfl) A.g__law_take A.F__law_take.kp A.b__law_take .nil (fun σ => L2N.passAt tk σ) h))) qa_nil)) (pg_name (i := 6) sc__law_cell_right.nd rfl (by first | exact Or.inl rfl | exact Or.inr rfl))
    (qb_cons (qs_set (i := 2) (fun h => ps_set (i := 2) sc__law_cell_right.nd rfl (by first | exact Or.inl rfl | exact Or.inr rfl) h) (qe_call (f := fn__law_take) (dvs := []) wdl_nil rfl (qn_cons (qe_v (pv 0)) (qn_cons (qe_lenOwn (i := 5) (pe_callB call_lenA (by rfl) A.n_len (by decide +kernel) (pa_cons (pv 5) pa_nil))) qn_nil)) (fun h => Cv.pe_callSD (ok__law_take A) (hr.mono (by first | decide | omega)) (by rfl) A.g__law_take A.F__law_take.kp A.b__law_take .nil (fun σ => L2N.passAt tk σ) h)))
    (qb_one (qs_putOwn (n := 5) (qe_call (f := fn__law_odd) (dvs := []) wdl_nil rfl (qn_cons (qe_v (pv 0)) (qn_cons (qe_ix ix_seq s_ix (qe_v (pv 3)) (qe_v (pv 2)) (fun _ _ => rfl)) qn_nil)) (fun h => Cv.pe_callSD (ok__law_odd A) (hr.mono (by first | decide | omega)) (by rfl) A.g__law_odd A.F__law_odd.kp A.b__law_odd .nil (fun σ => L2N.passAt tk σ) h)) (qe_v (pv 2)) (fun h1 h2 => ps_asg h1 (pg_sub (pv 5) h2 set_list))))))
    (qb_cons (qs_frz (i := 5) (qs_if (qt_w (qw_or (qt_not (qt_val (qe_call (f := fn__law_right) (dvs := []) wdl_nil rfl (qn_cons (qe_v (pv 0)) (qn_cons (qe_v (pv 5)) (qn_cons (qe_v (pv 4)) qn_nil))) (fun h => pe_callGS (ok__law_right A) (hr.mono (by first | decide | omega)) gd (by rfl) A.g__law_right A.F__law_right.kp A.b__law_right .nil (fun σ => L2N.passAt tk σ) h)))) (qw_or1 (qt_not (qt_val (qe_call (f := fn__law_right) (dvs := []) wdl_nil rfl (qn_cons (qe_v (pv 0)) (qn_cons (qe_callB s_tuple (qa_cons (qe_sl (qe_v (pv 5)) qo_none (qo_some qe_int)) qa_nil) (fun h => pe_callTy call_tuple_of (by rfl) A.n_tuple (by decide +kernel) h)) (qn_cons qe_non qn_nil))) (fun h => pe_callGS (ok__law_right A) (hr.mono (by first | decide | omega)) gd (by rfl) A.g__law_right A.F__law_right.kp A.b__law_right .nil (fun σ => L2N.passAt tk σ) h)))))))
    (qb_one (qs_ret qe_bl))
    qb_nil))
    (qb_cons (qs_if (qt_cmp op_gt (s_cmp (p := fun i j => decide (j < i))) (qe_call (f := fn__law_take) (dvs := []) wdl_nil rfl (qn_cons (qe_v (pv 0)) (qn_cons qe_int qn_nil)) (fun h => Cv.pe_callSD (ok__law_take A) (hr.mono (by first | decide | omega)) (by rfl) A.g__law_take A.F__law_take.kp A.b__law_take .nil (fun σ => L2N.passAt tk σ) h)) qe_int (nomark _))
    (qb_one (qs_ret qe_bl))
    qb_nil)
    (qb_cons (qs_set (i := 7) (fun h => ps_set (i := 7) sc__law_cell_right.nd rfl (by first | exact Or.inl rfl | exact Or.inr rfl) h) (qe_lst (qa_cons qe_non (qa_cons qe_int (qa_cons qe_bl (qa_cons qe_str (qa_cons (qe_frz qn_dct) (qa_cons (qe_lst qa_nil) (qa_cons (qe_tup qa_nil) (qa_cons (qe_ix ix_seq s_ix (qe_v (pv 3)) qe_int (fun _ _ => rfl)) (qa_cons (qe_op op_timesT s_mulT (qe_v (pv 3)) qe_int) (qa_cons (qe_sl (qe_op op_timesT s_mulT (qe_v (pv 3)) qe_int) qo_none (qo_some qe_int)) (qa_cons (qe_dctIx (i := 3) (pe_disp (pps_cons pe_int (pe_ix ix_seq (pv 3) pe_int (fun _ _ => rfl)) pps_nil) rfl rfl (by simp) (by decide))) qa_nil)))))))))))))
    (qb_one (qs_ret (qe_call (f := fn__law_right) (dvs := []) wdl_nil rfl (qn_cons (qe_v (pv 0)) (qn_cons (qe_call (f := fn__law_pick) (dvs := []) wdl_nil rfl (qn_cons (qe_v (pv 0)) (qn_cons (qe_v (pv 7)) qn_nil)) (fun h => Cv.pe_callSD (ok__law_pick A) (hr.mono (by first | decide | omega)) (by rfl) A.g__law_pick A.F__law_pick.kp A.b__law_pick .nil (fun σ => L2N.passAt tk σ) h)) (qn_cons (qe_v (pv 4)) qn_nil))) (fun h => pe_callGS (ok__law_right A) (hr.mono (by first | decide | omega)) gd (by rfl) A.g__law_right A.F__law_right.kp A.b__law_right .nil (fun σ => L2N.passAt tk σ) h)))))))))))))
noncomputable def F_law : Ds :=
    (fSeq (fFor (fRng rng1Of (fCons (fCall dMax2 (fCons (fC (.int 1)) (fCons (fCall dMin2 (fCons (fC (.int 8)) (fCons (fCall dLen (fCons (fVar 0) fNil)) fNil))) fNil))) fNil)) (gN 1)
    (fIf (fNot (fT (fCallD fn__law_cell_right [] (fCons (fCallD fn__law_pot [] (fCons (fVar 0) (fCons (fVar 1) fNil))) fNil))))
    (fRet (fC (.bl false)))
    fSkip))
    (fRet (fOp (dEq false) (fLst (fCons (fC (.int 8)) (fCons (fC (.int 5)) (fCons (fC (.int 1023)) fNil)))) (fLst (fCons (fC (.int 8)) (fCons (fC (.int 5)) (fCons (fC (.int 1023)) fNil)))))))
noncomputable def fn_law : Fn := fnB 2 F_law
theorem ok_law (A : All K mg) : FnG P w K mg base (L2N.CX P w) 11 A.f_law A.fd_law ["_law_script"] (spD K mg 1 fn_law) :=
  okG (N := N_law) (F := F_law) A.F_law sc_law (by decide) fun pn cdv Ar outer s H E hr gd tk hpo =>
    (qb_cons (qs_for (g := (gN 1)) tg_name hpo rfl (qi_rng1 (fun h => pi_range1 (by rfl) A.n_range h) (qa_cons (qe_callB s_max2 (qa_cons qe_int (qa_cons (qe_callB s_min2 (qa_cons qe_int (qa_cons (qe_callB s_len (qa_cons (qe_v (pv 0)) qa_nil) (fun h => pe_callB call_lenA (by rfl) A.n_len (by decide +kernel) h)) qa_nil)) (fun h => pe_callB (call_min2 rfl) (by rfl) A.n_min (by decide +kernel) h)) qa_nil)) (fun h => pe_callB (call_max2 rfl) (by rfl) A.n_max (by decide +kernel) h)) qa_nil)) (pg_name (i := 1) sc_law.nd rfl (by first | exact Or.inl rfl | exact Or.inr rfl))
    (qb_one (qs_if (qt_not (qt_val (qe_call (f := fn__law_cell_right) (dvs := []) wdl_nil rfl (qn_cons (qe_call (f := fn__law_pot) (dvs := []) wdl_nil rfl (qn_cons (qe_v (pv 0)) (qn_cons (qe_v (pv 1)) qn_nil)) (fun h => Cv.pe_callSD (ok__law_pot A) (hr.mono (by first | decide | omega)) (by rfl) A.g__law_pot A.F__law_pot.kp A.b__law_pot .nil (fun σ => L2N.passAt tk σ) h)) qn_nil) (fun h => pe_callGS (ok__law_cell_right A) (hr.mono (by first | decide | omega)) gd (by rfl) A.g__law_cell_right A.F__law_cell_right.kp A.b__law_cell_right .nil (fun σ => L2N.passAt tk σ) h))))
    (qb_one (qs_ret qe_bl))
    qb_nil)))
    (qb_one (qs_ret (qe_cmp (op_eqP (by have := hr.units; exact this)) s_eqP (qe_lst (qa_cons (qe_cval (pe_glob (v := .ref A.c_Query) (by rfl) A.gc_Query rfl) A.cv_Query_MAX_LITERALS.1 A.cv_Query_MAX_LITERALS.2.choose_spec (fun _ => .int _)) (qa_cons (qe_cval (pe_glob (v := .ref A.c_Query) (by rfl) A.gc_Query rfl) A.cv_Query_MAX_VARIABLES.1 A.cv_Query_MAX_VARIABLES.2.choose_spec (fun _ => .int _)) (qa_cons (qe_cval (pe_glob (v := .ref A.c_Query) (by rfl) A.gc_Query rfl) A.cv_Query_MAX_INTEGER.1 A.cv_Query_MAX_INTEGER.2.choose_spec (fun _ => .int _)) qa_nil)))) (qe_lst (qa_cons qe_int (qa_cons qe_int (qa_cons qe_int qa_nil)))) (nomark _)))))
end
end D31

namespace D31
open PySem PySem.Spec PyProof.Rows L2 Cv Dv Dv.Sh
def d__law_first_order : DefP := ⟨fun K => He.ga K "_law_first_order", "_law_first_order", "_law_first_order", defArgs s__law_first_order, defBody s__law_first_order, defScope s__law_first_order, []⟩
def d__law_take : DefP := ⟨fun K => He.ga K "_law_take", "_law_take", "_law_take", defArgs s__law_take, defBody s__law_take, defScope s__law_take, []⟩
def d__law_mixed : DefP := ⟨fun K => He.ga K "_law_mixed", "_law_mixed", "_law_mixed", defArgs s__law_mixed, defBody s__law_mixed, defScope s__law_mixed, []⟩
def d__law_pick : DefP := ⟨fun K => He.ga K "_law_pick", "_law_pick", "_law_pick", defArgs s__law_pick, defBody s__law_pick, defScope s__law_pick, []⟩
def d__law_term : DefP := ⟨fun K => He.ga K "_law_term", "_law_term", "_law_term", defArgs s__law_term, defBody s__law_term, defScope s__law_term, []⟩
def d__law_word : DefP := ⟨fun K => He.ga K "_law_word", "_law_word", "_law_word", defArgs s__law_word, defBody s__law_word, defScope s__law_word, []⟩
def d__law_literal : DefP := ⟨fun K => He.ga K "_law_literal", "_law_literal", "_law_literal", defArgs s__law_literal, defBody s__law_literal, defScope s__law_literal, []⟩
def d__law_odd_comparison : DefP := ⟨fun K => He.ga K "_law_odd_comparison", "_law_odd_comparison", "_law_odd_comparison", defArgs s__law_odd_comparison, defBody s__law_odd_comparison, defScope s__law_odd_comparison, []⟩
def d__law_odd_row : DefP := ⟨fun K => He.ga K "_law_odd_row", "_law_odd_row", "_law_odd_row", defArgs s__law_odd_row, defBody s__law_odd_row, defScope s__law_odd_row, []⟩
def d__law_odd : DefP := ⟨fun K => He.ga K "_law_odd", "_law_odd", "_law_odd", defArgs s__law_odd, defBody s__law_odd, defScope s__law_odd, []⟩
def d__law_is_title : DefP := ⟨fun K => He.ga K "_law_is_title", "_law_is_title", "_law_is_title", defArgs s__law_is_title, defBody s__law_is_title, defScope s__law_is_title, []⟩
def d__law_is_term : DefP := ⟨fun K => He.ga K "_law_is_term", "_law_is_term", "_law_is_term", defArgs s__law_is_term, defBody s__law_is_term, defScope s__law_is_term, []⟩
def d__law_is_literal : DefP := ⟨fun K => He.ga K "_law_is_literal", "_law_is_literal", "_law_is_literal", defArgs s__law_is_literal, defBody s__law_is_literal, defScope s__law_is_literal, []⟩
def d__law_problem : DefP := ⟨fun K => He.ga K "_law_problem", "_law_problem", "_law_problem", defArgs s__law_problem, defBody s__law_problem, defScope s__law_problem, []⟩
def d_InvalidQuery___init__ : DefP := ⟨fun K => He.ma K (He.ga K "InvalidQuery") "__init__", "__init__", "InvalidQuery.__init__", defArgs s_InvalidQuery___init__, defBody s_InvalidQuery___init__, defScope s_InvalidQuery___init__, []⟩
def d_is_order : DefP := ⟨fun K => He.ga K "is_order", "is_order", "is_order", defArgs s_is_order, defBody s_is_order, defScope s_is_order, []⟩
def d_is_comparison : DefP := ⟨fun K => He.ga K "is_comparison", "is_comparison", "is_comparison", defArgs s_is_comparison, defBody s_is_comparison, defScope s_is_comparison, []⟩
def d_literal_text : DefP := ⟨fun K => He.ga K "literal_text", "literal_text", "literal_text", defArgs s_literal_text, defBody s_literal_text, defScope s_literal_text, []⟩
def d_terms_of : DefP := ⟨fun K => He.ga K "terms_of", "terms_of", "terms_of", defArgs s_terms_of, defBody s_terms_of, defScope s_terms_of, []⟩
def d_variables_in : DefP := ⟨fun K => He.ga K "variables_in", "variables_in", "variables_in", defArgs s_variables_in, defBody s_variables_in, defScope s_variables_in, []⟩
def d_query_text : DefP := ⟨fun K => He.ga K "query_text", "query_text", "query_text", defArgs s_query_text, defBody s_query_text, defScope s_query_text, []⟩
def d_is_integer : DefP := ⟨fun K => He.ga K "is_integer", "is_integer", "is_integer", defArgs s_is_integer, defBody s_is_integer, defScope s_is_integer, []⟩
def d_is_name : DefP := ⟨fun K => He.ga K "is_name", "is_name", "is_name", defArgs s_is_name, defBody s_is_name, defScope s_is_name, []⟩
def d_is_term : DefP := ⟨fun K => He.ga K "is_term", "is_term", "is_term", defArgs s_is_term, defBody s_is_term, defScope s_is_term, []⟩
def d_are_terms : DefP := ⟨fun K => He.ga K "are_terms", "are_terms", "are_terms", defArgs s_are_terms, defBody s_are_terms, defScope s_are_terms, []⟩
def d_is_literal : DefP := ⟨fun K => He.ga K "is_literal", "is_literal", "is_literal", defArgs s_is_literal, defBody s_is_literal, defScope s_is_literal, []⟩
def d_require_literals : DefP := ⟨fun K => He.ga K "require_literals", "require_literals", "require_literals", defArgs s_require_literals, defBody s_require_literals, defScope s_require_literals, []⟩
def d_Query___init__ : DefP := ⟨fun K => He.ma K (He.ga K "Query") "__init__", "__init__", "Query.__init__", defArgs s_Query___init__, defBody s_Query___init__, defScope s_Query___init__, [.non]⟩
def d_Query___len__ : DefP := ⟨fun K => He.ma K (He.ga K "Query") "__len__", "__len__", "Query.__len__", defArgs s_Query___len__, defBody s_Query___len__, defScope s_Query___len__, []⟩
def d_Query_literals : DefP := ⟨fun K => He.ma K (He.ga K "Query") "literals", "literals", "Query.literals", defArgs s_Query_literals, defBody s_Query_literals, defScope s_Query_literals, []⟩
def d_Query_variables : DefP := ⟨fun K => pg K "property" "Query" "variables", "variables", "Query.variables", defArgs s_Query_variables, defBody s_Query_variables, defScope s_Query_variables, []⟩
def d__law_stays : DefP := ⟨fun K => He.ga K "_law_stays", "_law_stays", "_law_stays", defArgs s__law_stays, defBody s__law_stays, defScope s__law_stays, []⟩
def d__law_told : DefP := ⟨fun K => He.ga K "_law_told", "_law_told", "_law_told", defArgs s__law_told, defBody s__law_told, defScope s__law_told, []⟩
def d__law_right : DefP := ⟨fun K => He.ga K "_law_right", "_law_right", "_law_right", defArgs s__law_right, defBody s__law_right, defScope s__law_right, []⟩
def d__law_some_order : DefP := ⟨fun K => He.ga K "_law_some_order", "_law_some_order", "_law_some_order", defArgs s__law_some_order, defBody s__law_some_order, defScope s__law_some_order, []⟩
def d__law_cell_right : DefP := ⟨fun K => He.ga K "_law_cell_right", "_law_cell_right", "_law_cell_right", defArgs s__law_cell_right, defBody s__law_cell_right, defScope s__law_cell_right, []⟩
def d__law_pot : DefP := ⟨fun K => He.ga K "_law_pot", "_law_pot", "_law_pot", defArgs s__law_pot, defBody s__law_pot, defScope s__law_pot, []⟩
def d_law : DefP := ⟨fun K => He.ga K "law", "law", "law", defArgs s_law, defBody s_law, defScope s_law, []⟩
def fnL : List DefP := [d__law_first_order, d__law_take, d__law_mixed, d__law_pick, d__law_term, d__law_word, d__law_literal, d__law_odd_comparison, d__law_odd_row, d__law_odd, d__law_is_title, d__law_is_term, d__law_is_literal, d__law_problem, d_InvalidQuery___init__, d_is_order, d_is_comparison, d_literal_text, d_terms_of, d_variables_in, d_query_text, d_is_integer, d_is_name, d_is_term, d_are_terms, d_is_literal, d_require_literals, d_Query___init__, d_Query___len__, d_Query_literals, d_Query_variables, d__law_stays, d__law_told, d__law_right, d__law_some_order, d__law_cell_right, d__law_pot, d_law]
def xsL : List (PySem.W.Frag → Bool) := [faF (.glo "_law_first_order"),
  faF (.glo "_law_take"),
  faF (.glo "_law_mixed"),
  faF (.glo "_law_pick"),
  faF (.glo "_law_term"),
  faF (.glo "_law_word"),
  faF (.glo "_law_literal"),
  faF (.glo "_law_odd_comparison"),
  faF (.glo "_law_odd_row"),
  faF (.glo "_law_odd"),
  faF (.glo "_law_is_title"),
  faF (.glo "_law_is_term"),
  faF (.glo "_law_is_literal"),
  faF (.glo "_law_problem"),
  faF (.glo "is_order"),
  faF (.glo "is_comparison"),
  faF (.glo "literal_text"),
  faF (.glo "terms_of"),
  faF (.glo "variables_in"),
  faF (.glo "query_text"),
  faF (.glo "is_integer"),
  faF (.glo "is_name"),
  faF (.glo "is_term"),
  faF (.glo "are_terms"),
  faF (.glo "is_literal"),
  faF (.glo "require_literals"),
  faF (.glo "_law_stays"),
  faF (.glo "_law_told"),
  faF (.glo "_law_right"),
  faF (.glo "_law_some_order"),
  faF (.glo "_law_cell_right"),
  faF (.glo "_law_pot"),
  faF (.glo "law"),
  sysB,
  faF (.free "isinstance"),
  faF (.free "int"),
  faF (.free "bool"),
  faF (.free "str"),
  faF (.free "list"),
  faF (.free "tuple"),
  faF (.free "len"),
  faF (.free "all"),
  faF (.free "max"),
  faF (.free "min"),
  faF (.free "abs"),
  faF (.free "repr"),
  faF (.free "range"),
  faF (.free "enumerate"),
  faF (.free "ValueError"),
  faF (.glo "InvalidQuery"),
  faF (.glo "CoverError"),
  faF (.glo "InvalidText"),
  faF (.glo "Query"),
  ownF "InvalidQuery",
  faF (.meth "InvalidQuery" "__init__"),
  faF (.noat "InvalidQuery" "problem"),
  faF (.noat "InvalidQuery" "position"),
  baseF "CoverError",
  kitF "InvalidQuery" "InvalidQuery" true,
  kitF "InvalidQuery" "CoverError" true,
  kitF "InvalidQuery" "InvalidText" false,
  kitT "InvalidQuery" "ValueError" true,
  exmF "InvalidQuery" "InvalidQuery" true,
  faF (.cls "Query"),
  faF (.mkr "Query"),
  faF (.noat "Query" "own_literals"),
  faF (.noat "Query" "own_order"),
  faF (.noat "Query" "own_text"),
  cvalB "Query" "MAX_LITERALS" (.int 8),
  cvalB "Query" "MAX_VARIABLES" (.int 5),
  cvalB "Query" "MAX_INTEGER" (.int 1023),
  faF (.meth "Query" "__len__"),
  faF (.meth "Query" "literals"),
  propB "Query" "variables",
  faF (.str "LETTERS" "abcdefghijklmnopqrstuvwxyz"),
  faF (.int "MOST_LETTERS" 8),
  faF (.glo "RESERVED"),
  fun K => He.tupB K "RESERVED" ((["not", "by"] : List Str).map He.Dv.str),
  faF (.str "POSITIVE" "row"),
  faF (.str "DENIED" "none"),
  faF (.glo "SIGNS"),
  fun K => He.tupB K "SIGNS" ((["<", "<=", "=", "!="] : List Str).map He.Dv.str),
  faF (.int "LITERAL_LENGTH" 3),
  faF (.int "MOST_TERMS" 4),
  faF (.int "MOST_LITERALS" 8),
  faF (.int "MOST_VARIABLES" 5),
  faF (.int "MOST_INTEGER" 1023),
  faF (.str "COMMA" ","),
  faF (.str "BETWEEN" ", "),
  faF (.str "BEFORE_ORDER" " by "),
  faF (.str "NOT" "not")]
abbrev Rw : PySem.W.OpenRow := PySem.W.OpenLaw.row PySem.Challenge.rw_coverstore_k31_queries_judged
abbrev hk : PySem.W.Hook := hookP 5 xsL fnL
def ob (s : PySem.W.SharedT) : AlP := obsP 5 xsL fnL (HandSHeadRun.getT s)
theorem ob_eq (s : PySem.W.SharedT) : ob s = hk.obs s.abs := obsP_eq (HandSHeadRun.getT_eq s)
def topNames : List Str := [("_wall" : Str), ("CoverError" : Str), ("InvalidQuery" : Str), ("InvalidText" : Str), ("is_integer" : Str), ("LETTERS" : Str), ("MOST_LETTERS" : Str), ("RESERVED" : Str), ("is_name" : Str), ("POSITIVE" : Str), ("DENIED" : Str), ("SIGNS" : Str), ("LITERAL_LENGTH" : Str), ("MOST_TERMS" : Str), ("MOST_LITERALS" : Str), ("MOST_VARIABLES" : Str), ("MOST_INTEGER" : Str), ("MOST_DIGITS" : Str), ("DIGITS" : Str), ("COMMA" : Str), ("BETWEEN" : Str), ("BEFORE_ORDER" : Str), ("NOT" : Str), ("is_term" : Str), ("are_terms" : Str), ("is_literal" : Str), ("is_comparison" : Str), ("terms_of" : Str), ("variables_in" : Str), ("require_literals" : Str), ("is_order" : Str), ("literal_text" : Str), ("query_text" : Str), ("term_in" : Str), ("row_literal_in" : Str), ("literal_in" : Str), ("query_in" : Str), ("Query" : Str), ("_law_pot" : Str), ("_law_take" : Str), ("_law_pick" : Str), ("_law_word" : Str), ("_law_mixed" : Str), ("_law_term" : Str), ("_law_literal" : Str), ("_law_odd_row" : Str), ("_law_odd_comparison" : Str), ("_law_odd" : Str), ("_law_is_title" : Str), ("_law_is_term" : Str), ("_law_is_literal" : Str), ("_law_first_order" : Str), ("_law_problem" : Str), ("_law_some_order" : Str), ("_law_told" : Str), ("_law_stays" : Str), ("_law_right" : Str), ("_law_cell_right" : Str)]
theorem run (w : World) : HandSHeadRun.RunEq Rw (PySem.W.view Rw.prog [63]) hk ob 4000 topNames w := by
  intro os
  kernel_rfl
theorem facts {K : PySem.W.Frag} {h : Heap} {mg : Str → Option Value} (X : K.In h) (G : h.Ns mainGlobals mg) (c : SaysP xsL fnL K) : Nonempty (All K mg) := by
  obtain ⟨fd0, D0⟩ := c.def_ 0 (d := d__law_first_order) rfl
  obtain ⟨fd1, D1⟩ := c.def_ 1 (d := d__law_take) rfl
  obtain ⟨fd2, D2⟩ := c.def_ 2 (d := d__law_mixed) rfl
  obtain ⟨fd3, D3⟩ := c.def_ 3 (d := d__law_pick) rfl
  obtain ⟨fd4, D4⟩ := c.def_ 4 (d := d__law_term) rfl
  obtain ⟨fd5, D5⟩ := c.def_ 5 (d := d__law_word) rfl
  obtain ⟨fd6, D6⟩ := c.def_ 6 (d := d__law_literal) rfl
  obtain ⟨fd7, D7⟩ := c.def_ 7 (d := d__law_odd_comparison) rfl
  obtain ⟨fd8, D8⟩ := c.def_ 8 (d := d__law_odd_row) rfl
  obtain ⟨fd9, D9⟩ := c.def_ 9 (d := d__law_odd) rfl
  obtain ⟨fd10, D10⟩ := c.def_ 10 (d := d__law_is_title) rfl
  obtain ⟨fd11, D11⟩ := c.def_ 11 (d := d__law_is_term) rfl
  obtain ⟨fd12, D12⟩ := c.def_ 12 (d := d__law_is_literal) rfl
  obtain ⟨fd13, D13⟩ := c.def_ 13 (d := d__law_problem) rfl
  obtain ⟨fd14, D14⟩ := c.def_ 14 (d := d_InvalidQuery___init__) rfl
  obtain ⟨fd15, D15⟩ := c.def_ 15 (d := d_is_order) rfl
  obtain ⟨fd16, D16⟩ := c.def_ 16 (d := d_is_comparison) rfl
  obtain ⟨fd17, D17⟩ := c.def_ 17 (d := d_literal_text) rfl
  obtain ⟨fd18, D18⟩ := c.def_ 18 (d := d_terms_of) rfl
  obtain ⟨fd19, D19⟩ := c.def_ 19 (d := d_variables_in) rfl
  obtain ⟨fd20, D20⟩ := c.def_ 20 (d := d_query_text) rfl
  obtain ⟨fd21, D21⟩ := c.def_ 21 (d := d_is_integer) rfl
  obtain ⟨fd22, D22⟩ := c.def_ 22 (d := d_is_name) rfl
  obtain ⟨fd23, D23⟩ := c.def_ 23 (d := d_is_term) rfl
  obtain ⟨fd24, D24⟩ := c.def_ 24 (d := d_are_terms) rfl
  obtain ⟨fd25, D25⟩ := c.def_ 25 (d := d_is_literal) rfl
  obtain ⟨fd26, D26⟩ := c.def_ 26 (d := d_require_literals) rfl
  obtain ⟨fd27, D27⟩ := c.def_ 27 (d := d_Query___init__) rfl
  obtain ⟨fd28, D28⟩ := c.def_ 28 (d := d_Query___len__) rfl
  obtain ⟨fd29, D29⟩ := c.def_ 29 (d := d_Query_literals) rfl
  obtain ⟨fd30, D30⟩ := c.def_ 30 (d := d_Query_variables) rfl
  obtain ⟨fd31, D31⟩ := c.def_ 31 (d := d__law_stays) rfl
  obtain ⟨fd32, D32⟩ := c.def_ 32 (d := d__law_told) rfl
  obtain ⟨fd33, D33⟩ := c.def_ 33 (d := d__law_right) rfl
  obtain ⟨fd34, D34⟩ := c.def_ 34 (d := d__law_some_order) rfl
  obtain ⟨fd35, D35⟩ := c.def_ 35 (d := d__law_cell_right) rfl
  obtain ⟨fd36, D36⟩ := c.def_ 36 (d := d__law_pot) rfl
  obtain ⟨fd37, D37⟩ := c.def_ 37 (d := d_law) rfl
  obtain ⟨t_LETTERS, e_LETTERS⟩ := He.str_ok X G (c.ext 74 (f := faF (.str "LETTERS" "abcdefghijklmnopqrstuvwxyz")) rfl)
  obtain ⟨t_MOST_LETTERS, e_MOST_LETTERS⟩ := He.int_ok X G (c.ext 75 (f := faF (.int "MOST_LETTERS" 8)) rfl)
  obtain ⟨t_POSITIVE, e_POSITIVE⟩ := He.str_ok X G (c.ext 78 (f := faF (.str "POSITIVE" "row")) rfl)
  obtain ⟨t_DENIED, e_DENIED⟩ := He.str_ok X G (c.ext 79 (f := faF (.str "DENIED" "none")) rfl)
  obtain ⟨t_LITERAL_LENGTH, e_LITERAL_LENGTH⟩ := He.int_ok X G (c.ext 82 (f := faF (.int "LITERAL_LENGTH" 3)) rfl)
  obtain ⟨t_MOST_TERMS, e_MOST_TERMS⟩ := He.int_ok X G (c.ext 83 (f := faF (.int "MOST_TERMS" 4)) rfl)
  obtain ⟨t_MOST_LITERALS, e_MOST_LITERALS⟩ := He.int_ok X G (c.ext 84 (f := faF (.int "MOST_LITERALS" 8)) rfl)
  obtain ⟨t_MOST_VARIABLES, e_MOST_VARIABLES⟩ := He.int_ok X G (c.ext 85 (f := faF (.int "MOST_VARIABLES" 5)) rfl)
  obtain ⟨t_MOST_INTEGER, e_MOST_INTEGER⟩ := He.int_ok X G (c.ext 86 (f := faF (.int "MOST_INTEGER" 1023)) rfl)
  obtain ⟨t_COMMA, e_COMMA⟩ := He.str_ok X G (c.ext 87 (f := faF (.str "COMMA" ",")) rfl)
  obtain ⟨t_BETWEEN, e_BETWEEN⟩ := He.str_ok X G (c.ext 88 (f := faF (.str "BETWEEN" ", ")) rfl)
  obtain ⟨t_BEFORE_ORDER, e_BEFORE_ORDER⟩ := He.str_ok X G (c.ext 89 (f := faF (.str "BEFORE_ORDER" " by ")) rfl)
  obtain ⟨t_NOT, e_NOT⟩ := He.str_ok X G (c.ext 90 (f := faF (.str "NOT" "not")) rfl)
  exact ⟨{
    f__law_first_order := _
    fd__law_first_order := fd0
    F__law_first_order := fun_of_D (st := s__law_first_order) D0
    b__law_first_order := (fun_of_D (st := s__law_first_order) D0).binds (ps := ["_law_parts"]) fun _ _ _ _ _ _ us hl => match us, hl with | [_], _ => rfl
    g__law_first_order := He.glo_ok X G (c.ext 0 (f := faF (.glo "_law_first_order")) rfl)
    f__law_take := _
    fd__law_take := fd1
    F__law_take := fun_of_D (st := s__law_take) D1
    b__law_take := (fun_of_D (st := s__law_take) D1).binds (ps := ["_law_pot_here", "_law_many"]) fun _ _ _ _ _ _ us hl => match us, hl with | [_, _], _ => rfl
    g__law_take := He.glo_ok X G (c.ext 1 (f := faF (.glo "_law_take")) rfl)
    f__law_mixed := _
    fd__law_mixed := fd2
    F__law_mixed := fun_of_D (st := s__law_mixed) D2
    b__law_mixed := (fun_of_D (st := s__law_mixed) D2).binds (ps := ["_law_pot_here", "_law_some"]) fun _ _ _ _ _ _ us hl => match us, hl with | [_, _], _ => rfl
    g__law_mixed := He.glo_ok X G (c.ext 2 (f := faF (.glo "_law_mixed")) rfl)
    f__law_pick := _
    fd__law_pick := fd3
    F__law_pick := fun_of_D (st := s__law_pick) D3
    b__law_pick := (fun_of_D (st := s__law_pick) D3).binds (ps := ["_law_pot_here", "_law_some"]) fun _ _ _ _ _ _ us hl => match us, hl with | [_, _], _ => rfl
    g__law_pick := He.glo_ok X G (c.ext 3 (f := faF (.glo "_law_pick")) rfl)
    f__law_term := _
    fd__law_term := fd4
    F__law_term := fun_of_D (st := s__law_term) D4
    b__law_term := (fun_of_D (st := s__law_term) D4).binds (ps := ["_law_pot_here", "_law_names"]) fun _ _ _ _ _ _ us hl => match us, hl with | [_, _], _ => rfl
    g__law_term := He.glo_ok X G (c.ext 4 (f := faF (.glo "_law_term")) rfl)
    f__law_word := _
    fd__law_word := fd5
    F__law_word := fun_of_D (st := s__law_word) D5
    b__law_word := (fun_of_D (st := s__law_word) D5).binds (ps := ["_law_pot_here", "_law_first"]) fun _ _ _ _ _ _ us hl => match us, hl with | [_, _], _ => rfl
    g__law_word := He.glo_ok X G (c.ext 5 (f := faF (.glo "_law_word")) rfl)
    f__law_literal := _
    fd__law_literal := fd6
    F__law_literal := fun_of_D (st := s__law_literal) D6
    b__law_literal := (fun_of_D (st := s__law_literal) D6).binds (ps := ["_law_pot_here", "_law_names"]) fun _ _ _ _ _ _ us hl => match us, hl with | [_, _], _ => rfl
    g__law_literal := He.glo_ok X G (c.ext 6 (f := faF (.glo "_law_literal")) rfl)
    f__law_odd_comparison := _
    fd__law_odd_comparison := fd7
    F__law_odd_comparison := fun_of_D (st := s__law_odd_comparison) D7
    b__law_odd_comparison := (fun_of_D (st := s__law_odd_comparison) D7).binds (ps := ["_law_pot_here", "_law_literal_here"]) fun _ _ _ _ _ _ us hl => match us, hl with | [_, _], _ => rfl
    g__law_odd_comparison := He.glo_ok X G (c.ext 7 (f := faF (.glo "_law_odd_comparison")) rfl)
    f__law_odd_row := _
    fd__law_odd_row := fd8
    F__law_odd_row := fun_of_D (st := s__law_odd_row) D8
    b__law_odd_row := (fun_of_D (st := s__law_odd_row) D8).binds (ps := ["_law_pot_here", "_law_literal_here"]) fun _ _ _ _ _ _ us hl => match us, hl with | [_, _], _ => rfl
    g__law_odd_row := He.glo_ok X G (c.ext 8 (f := faF (.glo "_law_odd_row")) rfl)
    f__law_odd := _
    fd__law_odd := fd9
    F__law_odd := fun_of_D (st := s__law_odd) D9
    b__law_odd := (fun_of_D (st := s__law_odd) D9).binds (ps := ["_law_pot_here", "_law_literal_here"]) fun _ _ _ _ _ _ us hl => match us, hl with | [_, _], _ => rfl
    g__law_odd := He.glo_ok X G (c.ext 9 (f := faF (.glo "_law_odd")) rfl)
    f__law_is_title := _
    fd__law_is_title := fd10
    F__law_is_title := fun_of_D (st := s__law_is_title) D10
    b__law_is_title := (fun_of_D (st := s__law_is_title) D10).binds (ps := ["_law_thing"]) fun _ _ _ _ _ _ us hl => match us, hl with | [_], _ => rfl
    g__law_is_title := He.glo_ok X G (c.ext 10 (f := faF (.glo "_law_is_title")) rfl)
    f__law_is_term := _
    fd__law_is_term := fd11
    F__law_is_term := fun_of_D (st := s__law_is_term) D11
    b__law_is_term := (fun_of_D (st := s__law_is_term) D11).binds (ps := ["_law_thing"]) fun _ _ _ _ _ _ us hl => match us, hl with | [_], _ => rfl
    g__law_is_term := He.glo_ok X G (c.ext 11 (f := faF (.glo "_law_is_term")) rfl)
    f__law_is_literal := _
    fd__law_is_literal := fd12
    F__law_is_literal := fun_of_D (st := s__law_is_literal) D12
    b__law_is_literal := (fun_of_D (st := s__law_is_literal) D12).binds (ps := ["_law_thing"]) fun _ _ _ _ _ _ us hl => match us, hl with | [_], _ => rfl
    g__law_is_literal := He.glo_ok X G (c.ext 12 (f := faF (.glo "_law_is_literal")) rfl)
    f__law_problem := _
    fd__law_problem := fd13
    F__law_problem := fun_of_D (st := s__law_problem) D13
    b__law_problem := (fun_of_D (st := s__law_problem) D13).binds (ps := ["_law_thing", "_law_lane"]) fun _ _ _ _ _ _ us hl => match us, hl with | [_, _], _ => rfl
    g__law_problem := He.glo_ok X G (c.ext 13 (f := faF (.glo "_law_problem")) rfl)
    f_InvalidQuery___init__ := _
    fd_InvalidQuery___init__ := fd14
    F_InvalidQuery___init__ := fun_of_D (st := s_InvalidQuery___init__) D14
    b_InvalidQuery___init__ := (fun_of_D (st := s_InvalidQuery___init__) D14).binds (ps := ["self", "problem", "position"]) fun _ _ _ _ _ _ us hl => match us, hl with | [_, _, _], _ => rfl
    f_is_order := _
    fd_is_order := fd15
    F_is_order := fun_of_D (st := s_is_order) D15
    b_is_order := (fun_of_D (st := s_is_order) D15).binds (ps := ["value", "variables"]) fun _ _ _ _ _ _ us hl => match us, hl with | [_, _], _ => rfl
    g_is_order := He.glo_ok X G (c.ext 14 (f := faF (.glo "is_order")) rfl)
    f_is_comparison := _
    fd_is_comparison := fd16
    F_is_comparison := fun_of_D (st := s_is_comparison) D16
    b_is_comparison := (fun_of_D (st := s_is_comparison) D16).binds (ps := ["literal"]) fun _ _ _ _ _ _ us hl => match us, hl with | [_], _ => rfl
    g_is_comparison := He.glo_ok X G (c.ext 15 (f := faF (.glo "is_comparison")) rfl)
    f_literal_text := _
    fd_literal_text := fd17
    F_literal_text := fun_of_D (st := s_literal_text) D17
    b_literal_text := (fun_of_D (st := s_literal_text) D17).binds (ps := ["literal"]) fun _ _ _ _ _ _ us hl => match us, hl with | [_], _ => rfl
    g_literal_text := He.glo_ok X G (c.ext 16 (f := faF (.glo "literal_text")) rfl)
    f_terms_of := _
    fd_terms_of := fd18
    F_terms_of := fun_of_D (st := s_terms_of) D18
    b_terms_of := (fun_of_D (st := s_terms_of) D18).binds (ps := ["literal"]) fun _ _ _ _ _ _ us hl => match us, hl with | [_], _ => rfl
    g_terms_of := He.glo_ok X G (c.ext 17 (f := faF (.glo "terms_of")) rfl)
    f_variables_in := _
    fd_variables_in := fd19
    F_variables_in := fun_of_D (st := s_variables_in) D19
    b_variables_in := (fun_of_D (st := s_variables_in) D19).binds (ps := ["literals"]) fun _ _ _ _ _ _ us hl => match us, hl with | [_], _ => rfl
    g_variables_in := He.glo_ok X G (c.ext 18 (f := faF (.glo "variables_in")) rfl)
    f_query_text := _
    fd_query_text := fd20
    F_query_text := fun_of_D (st := s_query_text) D20
    b_query_text := (fun_of_D (st := s_query_text) D20).binds (ps := ["literals", "order"]) fun _ _ _ _ _ _ us hl => match us, hl with | [_, _], _ => rfl
    g_query_text := He.glo_ok X G (c.ext 19 (f := faF (.glo "query_text")) rfl)
    f_is_integer := _
    fd_is_integer := fd21
    F_is_integer := fun_of_D (st := s_is_integer) D21
    b_is_integer := (fun_of_D (st := s_is_integer) D21).binds (ps := ["value"]) fun _ _ _ _ _ _ us hl => match us, hl with | [_], _ => rfl
    g_is_integer := He.glo_ok X G (c.ext 20 (f := faF (.glo "is_integer")) rfl)
    f_is_name := _
    fd_is_name := fd22
    F_is_name := fun_of_D (st := s_is_name) D22
    b_is_name := (fun_of_D (st := s_is_name) D22).binds (ps := ["value"]) fun _ _ _ _ _ _ us hl => match us, hl with | [_], _ => rfl
    g_is_name := He.glo_ok X G (c.ext 21 (f := faF (.glo "is_name")) rfl)
    f_is_term := _
    fd_is_term := fd23
    F_is_term := fun_of_D (st := s_is_term) D23
    b_is_term := (fun_of_D (st := s_is_term) D23).binds (ps := ["value"]) fun _ _ _ _ _ _ us hl => match us, hl with | [_], _ => rfl
    g_is_term := He.glo_ok X G (c.ext 22 (f := faF (.glo "is_term")) rfl)
    f_are_terms := _
    fd_are_terms := fd24
    F_are_terms := fun_of_D (st := s_are_terms) D24
    b_are_terms := (fun_of_D (st := s_are_terms) D24).binds (ps := ["value"]) fun _ _ _ _ _ _ us hl => match us, hl with | [_], _ => rfl
    g_are_terms := He.glo_ok X G (c.ext 23 (f := faF (.glo "are_terms")) rfl)
    f_is_literal := _
    fd_is_literal := fd25
    F_is_literal := fun_of_D (st := s_is_literal) D25
    b_is_literal := (fun_of_D (st := s_is_literal) D25).binds (ps := ["value"]) fun _ _ _ _ _ _ us hl => match us, hl with | [_], _ => rfl
    g_is_literal := He.glo_ok X G (c.ext 24 (f := faF (.glo "is_literal")) rfl)
    f_require_literals := _
    fd_require_literals := fd26
    F_require_literals := fun_of_D (st := s_require_literals) D26
    b_require_literals := (fun_of_D (st := s_require_literals) D26).binds (ps := ["literals"]) fun _ _ _ _ _ _ us hl => match us, hl with | [_], _ => rfl
    g_require_literals := He.glo_ok X G (c.ext 25 (f := faF (.glo "require_literals")) rfl)
    f_Query___init__ := _
    fd_Query___init__ := fd27
    F_Query___init__ := D27
    b_Query___init__ := funDA (ps := ["self", "literals", "order"]) D27 (by simp [DefP.dvs, d_Query___init__]) fun _ _ _ _ _ _ _ us its hl h3 => match us, its, hl, h3 with | [_, _, _], [_], _, _ => ⟨_, rfl, rfl⟩
    bd_Query___init__ := FunD.binds1 (ps := ["self", "literals", "order"]) D27 2 0 (by simp [DefP.dvs, d_Query___init__]) rfl fun _ _ _ _ _ _ _ us its hl h3 => match us, its, hl, h3 with | [_, _], [_], _, _ => ⟨_, rfl, rfl⟩
    f_Query___len__ := _
    fd_Query___len__ := fd28
    F_Query___len__ := fun_of_D (st := s_Query___len__) D28
    b_Query___len__ := (fun_of_D (st := s_Query___len__) D28).binds (ps := ["self"]) fun _ _ _ _ _ _ us hl => match us, hl with | [_], _ => rfl
    f_Query_literals := _
    fd_Query_literals := fd29
    F_Query_literals := fun_of_D (st := s_Query_literals) D29
    b_Query_literals := (fun_of_D (st := s_Query_literals) D29).binds (ps := ["self"]) fun _ _ _ _ _ _ us hl => match us, hl with | [_], _ => rfl
    f_Query_variables := _
    fd_Query_variables := fd30
    F_Query_variables := fun_of_D (st := s_Query_variables) D30
    b_Query_variables := (fun_of_D (st := s_Query_variables) D30).binds (ps := ["self"]) fun _ _ _ _ _ _ us hl => match us, hl with | [_], _ => rfl
    f__law_stays := _
    fd__law_stays := fd31
    F__law_stays := fun_of_D (st := s__law_stays) D31
    b__law_stays := (fun_of_D (st := s__law_stays) D31).binds (ps := ["_law_parts", "_law_lane"]) fun _ _ _ _ _ _ us hl => match us, hl with | [_, _], _ => rfl
    g__law_stays := He.glo_ok X G (c.ext 26 (f := faF (.glo "_law_stays")) rfl)
    f__law_told := _
    fd__law_told := fd32
    F__law_told := fun_of_D (st := s__law_told) D32
    b__law_told := (fun_of_D (st := s__law_told) D32).binds (ps := ["_law_thing", "_law_lane", "_law_way"]) fun _ _ _ _ _ _ us hl => match us, hl with | [_, _, _], _ => rfl
    g__law_told := He.glo_ok X G (c.ext 27 (f := faF (.glo "_law_told")) rfl)
    f__law_right := _
    fd__law_right := fd33
    F__law_right := fun_of_D (st := s__law_right) D33
    b__law_right := (fun_of_D (st := s__law_right) D33).binds (ps := ["_law_pot_here", "_law_thing", "_law_lane"]) fun _ _ _ _ _ _ us hl => match us, hl with | [_, _, _], _ => rfl
    g__law_right := He.glo_ok X G (c.ext 28 (f := faF (.glo "_law_right")) rfl)
    f__law_some_order := _
    fd__law_some_order := fd34
    F__law_some_order := fun_of_D (st := s__law_some_order) D34
    b__law_some_order := (fun_of_D (st := s__law_some_order) D34).binds (ps := ["_law_pot_here", "_law_names"]) fun _ _ _ _ _ _ us hl => match us, hl with | [_, _], _ => rfl
    g__law_some_order := He.glo_ok X G (c.ext 29 (f := faF (.glo "_law_some_order")) rfl)
    f__law_cell_right := _
    fd__law_cell_right := fd35
    F__law_cell_right := fun_of_D (st := s__law_cell_right) D35
    b__law_cell_right := (fun_of_D (st := s__law_cell_right) D35).binds (ps := ["_law_pot_here"]) fun _ _ _ _ _ _ us hl => match us, hl with | [_], _ => rfl
    g__law_cell_right := He.glo_ok X G (c.ext 30 (f := faF (.glo "_law_cell_right")) rfl)
    f__law_pot := _
    fd__law_pot := fd36
    F__law_pot := fun_of_D (st := s__law_pot) D36
    b__law_pot := (fun_of_D (st := s__law_pot) D36).binds (ps := ["_law_script", "_law_k"]) fun _ _ _ _ _ _ us hl => match us, hl with | [_, _], _ => rfl
    g__law_pot := He.glo_ok X G (c.ext 31 (f := faF (.glo "_law_pot")) rfl)
    f_law := _
    fd_law := fd37
    F_law := fun_of_D (st := s_law) D37
    b_law := (fun_of_D (st := s_law) D37).binds (ps := ["_law_script"]) fun _ _ _ _ _ _ us hl => match us, hl with | [_], _ => rfl
    g_law := He.glo_ok X G (c.ext 32 (f := faF (.glo "law")) rfl)
    sy := (c.ext 33 (f := sysB) rfl)
    n_isinstance := He.free_ok X G (c.ext 34 (f := faF (.free "isinstance")) rfl)
    n_int := He.free_ok X G (c.ext 35 (f := faF (.free "int")) rfl)
    n_bool := He.free_ok X G (c.ext 36 (f := faF (.free "bool")) rfl)
    n_str := He.free_ok X G (c.ext 37 (f := faF (.free "str")) rfl)
    n_list := He.free_ok X G (c.ext 38 (f := faF (.free "list")) rfl)
    n_tuple := He.free_ok X G (c.ext 39 (f := faF (.free "tuple")) rfl)
    n_len := He.free_ok X G (c.ext 40 (f := faF (.free "len")) rfl)
    n_all := He.free_ok X G (c.ext 41 (f := faF (.free "all")) rfl)
    n_max := He.free_ok X G (c.ext 42 (f := faF (.free "max")) rfl)
    n_min := He.free_ok X G (c.ext 43 (f := faF (.free "min")) rfl)
    n_abs := He.free_ok X G (c.ext 44 (f := faF (.free "abs")) rfl)
    n_repr := He.free_ok X G (c.ext 45 (f := faF (.free "repr")) rfl)
    n_range := He.free_ok X G (c.ext 46 (f := faF (.free "range")) rfl)
    n_enumerate := He.free_ok X G (c.ext 47 (f := faF (.free "enumerate")) rfl)
    n_ValueError := He.free_ok X G (c.ext 48 (f := faF (.free "ValueError")) rfl)
    c_InvalidQuery := _
    gc_InvalidQuery := He.glo_ok X G (c.ext 49 (f := faF (.glo "InvalidQuery")) rfl)
    c_CoverError := _
    gc_CoverError := He.glo_ok X G (c.ext 50 (f := faF (.glo "CoverError")) rfl)
    c_InvalidText := _
    gc_InvalidText := He.glo_ok X G (c.ext 51 (f := faF (.glo "InvalidText")) rfl)
    c_Query := _
    gc_Query := He.glo_ok X G (c.ext 52 (f := faF (.glo "Query")) rfl)
    e_InvalidQuery := ownB_ok (c.ext 53 (f := ownF "InvalidQuery") rfl)
    ii_InvalidQuery := (He.meth_ok (c.ext 54 (f := faF (.meth "InvalidQuery" "__init__")) rfl)).1
    ti_InvalidQuery := eq_of_beq (He.meth_ok (c.ext 54 (f := faF (.meth "InvalidQuery" "__init__")) rfl)).2
    na_InvalidQuery_problem := He.noat_ok (c.ext 55 (f := faF (.noat "InvalidQuery" "problem")) rfl)
    na_InvalidQuery_position := He.noat_ok (c.ext 56 (f := faF (.noat "InvalidQuery" "position")) rfl)
    hf_InvalidQuery := by
      intro f hf
      simp only [List.mem_cons, List.mem_nil_iff, or_false] at hf
      rcases hf with rfl | rfl
      · exact He.noat_ok (c.ext 55 (f := faF (.noat "InvalidQuery" "problem")) rfl)
      · exact He.noat_ok (c.ext 56 (f := faF (.noat "InvalidQuery" "position")) rfl)
    b_CoverError := baseB_ok (c.ext 57 (f := baseF "CoverError") rfl)
    k_InvalidQuery_InvalidQuery := of_decide_eq_true (c.ext 58 (f := kitF "InvalidQuery" "InvalidQuery" true) rfl)
    k_InvalidQuery_CoverError := of_decide_eq_true (c.ext 59 (f := kitF "InvalidQuery" "CoverError" true) rfl)
    k_InvalidQuery_InvalidText := of_decide_eq_true (c.ext 60 (f := kitF "InvalidQuery" "InvalidText" false) rfl)
    k_InvalidQuery_ValueError := of_decide_eq_true (c.ext 61 (f := kitT "InvalidQuery" "ValueError" true) rfl)
    x_InvalidQuery_InvalidQuery := of_decide_eq_true (c.ext 62 (f := exmF "InvalidQuery" "InvalidQuery" true) rfl)
    cl_Query := He.cls_ok (c.ext 63 (f := faF (.cls "Query")) rfl)
    mk_Query := He.mkr_ok (c.ext 64 (f := faF (.mkr "Query")) rfl)
    nf_Query_own_literals := He.noat_ok (c.ext 65 (f := faF (.noat "Query" "own_literals")) rfl)
    nf_Query_own_order := He.noat_ok (c.ext 66 (f := faF (.noat "Query" "own_order")) rfl)
    nf_Query_own_text := He.noat_ok (c.ext 67 (f := faF (.noat "Query" "own_text")) rfl)
    cv_Query_MAX_LITERALS := cvalB_ok (c.ext 68 (f := cvalB "Query" "MAX_LITERALS" (.int 8)) rfl)
    cv_Query_MAX_VARIABLES := cvalB_ok (c.ext 69 (f := cvalB "Query" "MAX_VARIABLES" (.int 5)) rfl)
    cv_Query_MAX_INTEGER := cvalB_ok (c.ext 70 (f := cvalB "Query" "MAX_INTEGER" (.int 1023)) rfl)
    m_Query___len__ := He.meth_ok (c.ext 71 (f := faF (.meth "Query" "__len__")) rfl)
    m_Query_literals := He.meth_ok (c.ext 72 (f := faF (.meth "Query" "literals")) rfl)
    pr_Query_variables := propB_ok (c.ext 73 (f := propB "Query" "variables") rfl)
    u_LETTERS := _
    g_LETTERS := e_LETTERS
    v_LETTERS := ⟨t_LETTERS, rfl⟩
    u_MOST_LETTERS := _
    g_MOST_LETTERS := e_MOST_LETTERS
    v_MOST_LETTERS := ⟨t_MOST_LETTERS, rfl⟩
    u_RESERVED := _
    g_RESERVED := He.glo_ok X G (c.ext 76 (f := faF (.glo "RESERVED")) rfl)
    t_RESERVED := ⟨tup_rep (c.ext 77 (f := fun K => He.tupB K "RESERVED" ((["not", "by"] : List Str).map He.Dv.str)) rfl)⟩
    u_POSITIVE := _
    g_POSITIVE := e_POSITIVE
    v_POSITIVE := ⟨t_POSITIVE, rfl⟩
    u_DENIED := _
    g_DENIED := e_DENIED
    v_DENIED := ⟨t_DENIED, rfl⟩
    u_SIGNS := _
    g_SIGNS := He.glo_ok X G (c.ext 80 (f := faF (.glo "SIGNS")) rfl)
    t_SIGNS := ⟨tup_rep (c.ext 81 (f := fun K => He.tupB K "SIGNS" ((["<", "<=", "=", "!="] : List Str).map He.Dv.str)) rfl)⟩
    u_LITERAL_LENGTH := _
    g_LITERAL_LENGTH := e_LITERAL_LENGTH
    v_LITERAL_LENGTH := ⟨t_LITERAL_LENGTH, rfl⟩
    u_MOST_TERMS := _
    g_MOST_TERMS := e_MOST_TERMS
    v_MOST_TERMS := ⟨t_MOST_TERMS, rfl⟩
    u_MOST_LITERALS := _
    g_MOST_LITERALS := e_MOST_LITERALS
    v_MOST_LITERALS := ⟨t_MOST_LITERALS, rfl⟩
    u_MOST_VARIABLES := _
    g_MOST_VARIABLES := e_MOST_VARIABLES
    v_MOST_VARIABLES := ⟨t_MOST_VARIABLES, rfl⟩
    u_MOST_INTEGER := _
    g_MOST_INTEGER := e_MOST_INTEGER
    v_MOST_INTEGER := ⟨t_MOST_INTEGER, rfl⟩
    u_COMMA := _
    g_COMMA := e_COMMA
    v_COMMA := ⟨t_COMMA, rfl⟩
    u_BETWEEN := _
    g_BETWEEN := e_BETWEEN
    v_BETWEEN := ⟨t_BETWEEN, rfl⟩
    u_BEFORE_ORDER := _
    g_BEFORE_ORDER := e_BEFORE_ORDER
    v_BEFORE_ORDER := ⟨t_BEFORE_ORDER, rfl⟩
    u_NOT := _
    g_NOT := e_NOT
    v_NOT := ⟨t_NOT, rfl⟩ }⟩
theorem bindLaw {K : PySem.W.Frag} {mg : Str → Option Value} (A : All K mg) (s : Shared) (u : Value) : BindsTo s A.fd_law ⟨[u], []⟩ [("_law_script", u)] :=
  fun_bindsA (ps := ["_law_script"]) A.F_law (fun _ _ _ _ _ _ us hl => match us, hl with | [_], _ => rfl) s [u] rfl
end D31

/-! PvC: what is drawn. -/
namespace Dv
open PySem PySem.Spec PyProof.Rows L2 Cv Dv.Sh
local macro_rules | `(tactic| simp! only [$a,*]) => `(tactic| simp -implicitDefEqProofs -proj only [wp_ok, wp_ex, wp_bad, wp_ite, nE, w_fC, w_fYes, w_fNil, w_fNone, w_fDctN, kVar_val, w_fVar, kChain1, kChain2, kChain3, kChain4, kChain5, w_fChain, w_asB, kRefM1_ref, w_fRefM, kListN1_lst, kListN1_tup, w_fListN, w_fMeth, kMeth2, w_fProp, w_fLenO, kLenO2_int, kFmt1_str, kFmt1_int, w_fFmt, kJs1_str, w_fJsN, w_fJs, o_seq, o_expr, o_ret, o_set, o_if, o_asg, o_par, o_raise, o_setN, o_try, o_for, o_forL, o_fnB, o_fnI, kThen, kNx, kExE, kSet, kIf, kAsg, kAsg'_some, kPar_two, kRaise, kSetN, kOwnM, kOwnM'_some, kTry, kFor, kForL, kFnN, kF2, kFnE, kF3, kSelf', kComp1, kComp2, w_fComp, owp_nx, owp_rt, owp_bk, owp_ct, owp_ex, owp_bad, owp_ite, owp_skip, owp_retN, owp_break, owp_continue, gN_eq, gNil_eq, gCons_eq, oBind_some, gTup_eq, dAdd, dSub, dMul, dMulT, dFdiv, dMod, dPow, dShl, dShr, dBand, dNeg, dCmp, dIsN, dAbs, dMax2, dMin2, dInt, isSt, itemsOf, asI, startE, startI, Sl.blk, wipeE, soD, fPut, List.set_cons_zero, List.set_cons_succ, List.getElem?_cons_zero, List.getElem?_cons_succ, List.map_cons, List.map_nil, List.length_cons, List.length_nil, List.nil_append, List.cons_append, List.append_nil, List.replicate, List.length_set, Nat.zero_add, Nat.succ_sub_succ_eq_sub, Nat.sub_zero, Nat.sub_self, Nat.reduceAdd, Nat.reduceSub, if_true, if_false, Bool.not_true, Bool.not_false, Bool.false_eq_true, eq_self, decide_true, decide_false, ite_true, ite_false, and_true, true_and, and_self, Int.reduceLT, Int.reduceLE, Int.reduceNeg, Int.reduceAdd, Int.reduceSub, Int.reduceMul, Int.reducePow, Int.reduceEq, Int.reduceNe, Int.reduceToNat, Nat.reduceLT, Nat.reducePow, Nat.reduceMul, Nat.reduceEqDiff, Nat.reduceLeDiff, natAbs_lit, Int.natAbs_neg, or_true, true_or, ks_nx, ks_rt, ks_bk, ks_ct, ks_ex, le_size, kOwnA_own, o_ownMA, kPutO3_some, kPutO2_int, kPutO1, kPutO0_own, o_putOwnA, kFrz0_own, kFrz0_val, kFrz0_no, o_frzSA, kSelfA_own, o_selfPutA, kLook_some, kSelfG_own, w_fSelf, kLenOwn_own, w_fLenOwn, kInOwn2_own, kInOwn1, w_fInOwn, kErr1_err, w_fErr, kOr3_some, kErrIs1_err, w_fErrIs, kHdN, kF5, kHand_true, kHand_false, o_handN, o_hand, Sl.clr, clrE, isNon_non, isNon_bl, isNon_int, isNon_str, isNon_lst, isNon_tup, isNon_dct, isNon_ref, isNon_ins, List.mem_cons, List.mem_nil_iff, or_false, false_or, kOp2, kOp1, w_fOp, kUn1, w_fUn, kT1, w_fT, kAnd1, w_fAnd, kOr1, w_fOr, kNot1, w_fNot, kAndV1, w_fAndV, kOrV1, w_fOrV, kNotV1, w_fNotV, kIte1, w_fIte, kCons2, kCons1, w_fCons, kLst1, w_fLst, kTup1, w_fTup, kCall1, w_fCall, kCallD1, w_fCallD, kStrM2, kStrM1, w_fStrM, kIt1, w_fIt, kRng1, w_fRng, kSome1, w_fSome, kSl3, kSl2, kSl1, w_fSl, kFrz1, w_fFrz, kRef1, w_fRef, kLstN1, w_fLstN, kPutE3, kPutE2, kPutE1, w_fPutE, kItL1, w_fItL, kEnumL1, w_fEnumL, kMake1, w_fMake, kMakeK2, kMakeK1, w_fMakeK, $a,*])
/-! ### the source of draws -/
def Pot (n : Nat) (st : Store) : Prop := ∃ a b : Int, st[n]? = some (.lst [.int a, .int b])
/-- only the source n changes; new things may stand behind -/
structure Kp (n : Nat) (st st' : Store) : Prop where
  len : st.length ≤ st'.length
  same : ∀ i, i ≠ n → i < st.length → st'[i]? = st[i]?
  pot : Pot n st'
theorem Pot.lt {n : Nat} {st : Store} (h : Pot n st) : n < st.length := by
  obtain ⟨a, b, e⟩ := h
  exact (List.getElem?_eq_some_iff.mp e).1
theorem Kp.refl {n : Nat} {st : Store} (h : Pot n st) : Kp n st st := ⟨Nat.le_refl _, fun _ _ _ => rfl, h⟩
theorem Kp.trans {n : Nat} {a b c : Store} (h : Kp n a b) (h2 : Kp n b c) : Kp n a c := ⟨Nat.le_trans h.len h2.len, fun i hi hl => (h2.same i hi (Nat.lt_of_lt_of_le hl h.len)).trans (h.same i hi hl), h2.pot⟩
theorem Kp.at_ {n : Nat} {a b : Store} (h : Kp n a b) {i : Nat} {o : SO} (e : a[i]? = some o) (hi : i ≠ n) : b[i]? = some o := by
  rw [h.same i hi (List.getElem?_eq_some_iff.mp e).1, e]
theorem atI_nat {α : Type} {xs : List α} {i : Int} (h0 : 0 ≤ i) (h1 : i < xs.length) : ∃ x, atI xs i = some x ∧ xs[i.toNat]? = some x := by
  unfold atI ixN
  rw [if_pos h0, if_pos h1]
  have : i.toNat < xs.length := by omega
  exact ⟨xs[i.toNat], by simp [List.getElem?_eq_getElem this], List.getElem?_eq_getElem this⟩
theorem atI_zero {α : Type} {x : α} {xs : List α} : atI (x :: xs) 0 = some x := by
  unfold atI ixN
  rw [if_pos (by omega), if_pos (by simp only [List.length_cons]; omega)]
  rfl
theorem atI_one {α : Type} {x y : α} {xs : List α} : atI (x :: y :: xs) 1 = some y := by
  unfold atI ixN
  rw [if_pos (by omega), if_pos (by simp only [List.length_cons]; omega)]
  rfl
theorem atI_two {α : Type} {x y z : α} {xs : List α} : atI (x :: y :: z :: xs) 2 = some z := by
  unfold atI ixN
  rw [if_pos (by omega), if_pos (by simp only [List.length_cons]; omega)]
  rfl
variable {n : Nat} {st : Store} {Q : D → Store → Prop} {E : Str → List (Str × D) → Store → Prop}
theorem ix_ref {xs : List D} {i : Int} {x : D} (e : st[n]? = some (.lst xs)) (h : atI xs i = some x) : dIx (.ref n) (.int i) st = .ok x st := by
  simp only [dIx, e, h]
theorem put_ref {xs : List D} {i : Int} {m : Nat} {d : D} (e : st[n]? = some (.lst xs)) (h : ixN xs.length i = some m) : putAt d (.ref n) (.int i) st = .ok .non (st.set n (.lst (xs.set m d))) := by
  simp only [putAt, e, h]
theorem log2_small {m : Int} (h0 : 0 < m) (h : m < 2 ^ 64) : m.natAbs.log2 < 9000 := by
  have h0' : m.natAbs ≠ 0 := by omega
  have : m.natAbs.log2 < 64 := (Nat.log2_lt h0').mpr (by omega)
  omega
theorem set_at {xs : List SO} {n : Nat} {o : SO} (h : n < xs.length) : (xs.set n o)[n]? = some o := by
  rw [List.getElem?_set_self h]
theorem take_wp {m : Int} (hp : Pot n st) (h0 : 0 < m) (h1 : m < 2 ^ 64) (fin : ∀ (i : Int) s, 0 ≤ i → i < m → Kp n st s → s.length = st.length → Q (.int i) s) : (fn__law_take [.ref n, .int m] st).wp Q E := by
  obtain ⟨a, b, e⟩ := hp
  have hn : n < st.length := (List.getElem?_eq_some_iff.mp e).1
  have e0 : dIx (.ref n) (.int 0) st = .ok (.int a) st := ix_ref e atI_zero
  have e1 : dIx (.ref n) (.int 1) st = .ok (.int b) st := ix_ref e atI_one
  have put0 : ∀ d, putAt d (.ref n) (.int 0) st = .ok .non (st.set n (.lst [d, .int b])) := fun d => put_ref (m := 0) e (by unfold ixN; simp)
  have put1 : ∀ d, putAt d (.ref n) (.int 1) st = .ok .non (st.set n (.lst [.int a, d])) := fun d => put_ref (m := 1) e (by unfold ixN; simp)
  unfold fn__law_take F__law_take
  by_cases ha : 0 < a
  · simp! only [e0, ha, h0, log2_small h0 h1, put0]
    refine fin _ _ (Int.emod_nonneg _ (by omega)) (Int.emod_lt_of_pos _ h0) ⟨by simp, fun i hi _ => ?_, ⟨a / m, b, by rw [set_at hn]⟩⟩ (by simp)
    rw [List.getElem?_set_ne (fun z => hi z.symm)]
  · simp! only [e0, e1, ha, h0, put1]
    have e2 : ∀ d, dIx (.ref n) (.int 1) (st.set n (.lst [.int a, d])) = .ok d (st.set n (.lst [.int a, d])) := fun d => ix_ref (set_at hn) atI_one
    have hb : ((b * 48271 + 30011) % 2147483629).natAbs < 18446744073709551616 := by omega
    simp! only [e2, hb, h0, log2_small (m := 7) (by omega) (by omega)]
    refine fin _ _ (Int.emod_nonneg _ (by omega)) (Int.emod_lt_of_pos _ h0) ⟨by simp, fun i hi _ => ?_, ⟨a, _, by rw [set_at hn]⟩⟩ (by simp)
    rw [List.getElem?_set_ne (fun z => hi z.symm)]
/-- one of a list -/
theorem pick_wp {xs : List D} (hp : Pot n st) (h0 : xs ≠ []) (h1 : xs.length < 2 ^ 64) (fin : ∀ x s, x ∈ xs → Kp n st s → s.length = st.length → Q x s) : (fn__law_pick [.ref n, .lst xs] st).wp Q E := by
  unfold fn__law_pick F__law_pick
  simp! only [dLen]
  refine take_wp hp (by have := List.length_pos_iff.mpr h0; omega) (by omega) fun i s i0 i1 k hl => ?_
  obtain ⟨x, e1, e2⟩ := atI_nat i0 i1
  simp! only [dIx, e1]
  exact fin x s (List.mem_of_getElem? e2) k hl
theorem pickT_wp {xs : List D} (hp : Pot n st) (h0 : xs ≠ []) (h1 : xs.length < 2 ^ 64) (fin : ∀ x s, x ∈ xs → Kp n st s → s.length = st.length → Q x s) : (fn__law_pick [.ref n, .tup xs] st).wp Q E := by
  unfold fn__law_pick F__law_pick
  simp! only [dLen]
  refine take_wp hp (by have := List.length_pos_iff.mpr h0; omega) (by omega) fun i s i0 i1 k hl => ?_
  obtain ⟨x, e1, e2⟩ := atI_nat i0 i1
  simp! only [dIx, e1]
  exact fin x s (List.mem_of_getElem? e2) k hl
/-- one sign of a text -/
theorem pickS_wp {z : Str} (hp : Pot n st) (h0 : 0 < z.length) (h1 : z.length ≤ sizeLine) (fin : ∀ c s, c ∈ z.cps.toList → Kp n st s → s.length = st.length → Q (.str ⟨#[c]⟩) s) : (fn__law_pick [.ref n, .str z] st).wp Q E := by
  unfold fn__law_pick F__law_pick
  simp! only [dLen, h1]
  refine take_wp hp (by omega) (by have := sizeLine_eq; omega) fun i s i0 i1 k hl => ?_
  have i2 : i < z.cps.toList.length := i1
  obtain ⟨x, e1, e2⟩ := atI_nat i0 i2
  simp! only [dIx, e1, h1]
  exact fin x s (List.mem_of_getElem? e2) k hl
/-! ### words -/
def az (c : Nat) : Prop := 97 ≤ c ∧ c ≤ 122
theorem az_of {c : Nat} (h : c ∈ ("abcdefghijklmnopqrstuvwxyz" : Str).cps.toList) : az c := by
  have e : ("abcdefghijklmnopqrstuvwxyz" : Str).cps.toList = [97, 98, 99, 100, 101, 102, 103, 104, 105, 106, 107, 108, 109, 110, 111, 112, 113, 114, 115, 116, 117, 118, 119, 120, 121, 122] := by decide +kernel
  rw [e] at h
  unfold az
  simp only [List.mem_cons, List.mem_nil_iff, or_false] at h
  omega
theorem strsOf_map {xs : List Str} : strsOf (xs.map D.str) = some xs := by
  induction xs with
  | nil => rfl
  | cons x xs ih => simp only [List.map_cons, strsOf, ih]
theorem join_empty : ∀ cs : List Nat, Txt.join ("" : Str) (cs.map fun c => (⟨#[c]⟩ : Str)) = ⟨cs.toArray⟩ := by
  intro cs
  show Builtin.Str.glued _ _ = _
  rw [StrLaws.glued_eq_join]
  induction cs with
  | nil => rfl
  | cons c cs ih =>
    cases cs with
    | nil => rfl
    | cons d ds =>
      have e : Str.join ("" : Str) (List.map (fun c => (⟨#[c]⟩ : Str)) (c :: d :: ds)) = ⟨#[c]⟩ ++ ("" : Str) ++ Str.join ("" : Str) (List.map (fun c => (⟨#[c]⟩ : Str)) (d :: ds)) := rfl
      rw [e, ih]
      show (⟨(#[c] ++ ("" : Str).cps) ++ (d :: ds).toArray⟩ : Str) = _
      congr 1
      have : ("" : Str).cps = #[] := by decide +kernel
      rw [this]
      simp
/-- the text of some signs -/
def txt (cs : List Nat) : Str := ⟨cs.toArray⟩
theorem txt_cps {cs : List Nat} : (txt cs).cps.toList = cs := rfl
theorem txt_len {cs : List Nat} : (txt cs).length = cs.length := rfl
theorem txt_app {a b : List Nat} : txt a ++ txt b = txt (a ++ b) := by
  show (⟨a.toArray ++ b.toArray⟩ : Str) = ⟨(a ++ b).toArray⟩
  simp
theorem txt_of (z : Str) : z = txt z.cps.toList := rfl
theorem txt_inj {a b : List Nat} : txt a = txt b ↔ a = b := by
  constructor
  · intro h
    have := congrArg (fun z : Str => z.cps.toList) h
    exact this
  · rintro rfl
    rfl
/-- range(m) -/
def upTo (m : Nat) : List D := (List.range m).map fun (i : Nat) => D.int (i : Int)
theorem rng1_nat {m : Nat} (h : m < 4611686018427387904) : rng1Of [.int (m : Int)] st = .ok ((List.range m).map fun (i : Nat) => D.int (i : Int)) st := by
  unfold rng1Of
  dsimp only
  rw [if_pos ⟨by omega, by omega⟩]
  unfold rngL
  rw [Int.toNat_natCast]
  congr 2
  funext i
  rw [Int.zero_add]
/-- a word that begins with the sign c -/
def Wrd (c : Nat) (y : Str) : Prop := ∃ t : List Nat, y = txt (c :: t) ∧ (∀ x ∈ t, az x) ∧ t.length ≤ 7
theorem word_wp {c : Nat} (hp : Pot n st) (fin : ∀ y s, Wrd c y → Kp n st s → s.length = st.length → Q (.str y) s) : (fn__law_word [.ref n, .str ⟨#[c]⟩] st).wp Q E := by
  unfold fn__law_word F__law_word
  simp! only []
  refine pick_wp hp (by simp) (by simp) fun x s hx k1 l1 => ?_
  obtain ⟨m, xe, m7⟩ : ∃ m : Nat, x = .int (m : Int) ∧ m ≤ 7 := by
    simp only [List.mem_cons, List.mem_nil_iff, or_false] at hx
    rcases hx with rfl | rfl | rfl | rfl | rfl
    · exact ⟨0, rfl, by omega⟩
    · exact ⟨0, rfl, by omega⟩
    · exact ⟨1, rfl, by omega⟩
    · exact ⟨2, rfl, by omega⟩
    · exact ⟨7, rfl, by omega⟩
  subst xe
  simp! only [rng1_nat (m := m) (by omega), List.length_map, List.length_range, show m < sizeLine by (rw [sizeLine_eq]; omega)]
  refine compT_draw (fun y => ∃ c, y = .str ⟨#[c]⟩ ∧ az c) (fun s2 => Kp n st s2 ∧ s2.length = st.length) _ (fun x _ => ?_) s _ ⟨k1, l1⟩ fun ys s2 hl hys ⟨k2, l2⟩ => ?_
  · refine ⟨_, rfl, fun s3 ⟨k3, l3⟩ => ?_⟩
    simp! only []
    refine take_wp k3.pot (by omega) (by omega) fun i s4 i0 i1 k4 l4 => ?_
    obtain ⟨x, e1, e2⟩ := atI_nat (xs := ("abcdefghijklmnopqrstuvwxyz" : Str).cps.toList) i0 (by rw [show ("abcdefghijklmnopqrstuvwxyz" : Str).cps.toList.length = 26 by decide +kernel]; omega)
    simp! only [dIx, e1, show ("abcdefghijklmnopqrstuvwxyz" : Str).length ≤ sizeLine by decide +kernel]
    exact ⟨⟨x, rfl, az_of (List.mem_of_getElem? e2)⟩, k3.trans k4, l4.trans l3⟩
  · obtain ⟨cs, rfl, hcs⟩ : ∃ cs : List Nat, ys = cs.map (fun c => D.str ⟨#[c]⟩) ∧ ∀ c ∈ cs, az c := by
      clear hl
      induction ys with
      | nil => exact ⟨[], rfl, fun _ h => nomatch h⟩
      | cons y ys ih =>
        obtain ⟨c, rfl, hc⟩ := hys y List.mem_cons_self
        obtain ⟨cs, e, h⟩ := ih fun z hz => hys z (List.mem_cons_of_mem _ hz)
        exact ⟨c :: cs, by rw [e]; rfl, fun z hz => (List.mem_cons.mp hz).elim (fun e => e ▸ hc) (h z)⟩
    simp only [List.length_map, List.length_range] at hl
    have es : strsOf (cs.map fun c => D.str ⟨#[c]⟩) = some (cs.map fun c => (⟨#[c]⟩ : Str)) := by
      have := strsOf_map (xs := cs.map fun c => (⟨#[c]⟩ : Str))
      rwa [List.map_map] at this
    have hs : ((cs.map fun c => (⟨#[c]⟩ : Str)).map (·.length)).sum = cs.length := by
      rw [List.map_map]
      have : ((fun x : Str => x.length) ∘ fun c : Nat => (⟨#[c]⟩ : Str)) = fun _ => 1 := rfl
      rw [this]
      clear es hcs hys hl
      induction cs with
      | nil => rfl
      | cons c cs ih => simp only [List.map_cons, List.sum_cons, ih, List.length_cons]; omega
    have he : ("" : Str).length = 0 := by decide +kernel
    simp! only [dJoin, es, hs, he, join_empty, List.length_map, show cs.length + cs.length * 0 ≤ 16777216 by omega]
    have e1 : (⟨#[c]⟩ : Str).length + (⟨cs.toArray⟩ : Str).length ≤ sizeLine := by
      show 1 + cs.length ≤ _
      rw [sizeLine_eq]
      omega
    simp! only [e1]
    refine fin _ _ ⟨cs, txt_app (a := [c]), hcs, by omega⟩ k2 l2
/-! ### mixed -/
theorem toPys_of : ∀ {xs : List D}, (∀ x ∈ xs, (toPy x).isSome = true) → ∃ ps, toPys xs = some ps
  | [], _ => ⟨[], rfl⟩
  | x :: xs, h => by
    obtain ⟨p, e⟩ := Option.isSome_iff_exists.mp (h x List.mem_cons_self)
    obtain ⟨ps, e2⟩ := toPys_of fun y hy => h y (List.mem_cons_of_mem _ hy)
    exact ⟨p :: ps, by simp only [toPys, e, e2]⟩
theorem toPys_len : ∀ {xs : List D} {ps : List PyData}, toPys xs = some ps → xs.length = ps.length
  | [], _, h => by cases h; rfl
  | x :: xs, ps, h => by
    simp only [toPys] at h
    split at h
    · rename_i p qs e1 e2
      cases h
      simp only [List.length_cons, toPys_len e2]
    · cases h
/-- is a list of the store empty? -/
theorem ne_nil {r : Nat} {xs : List D} {s : Store} (e : s[r]? = some (.lst xs)) (hx : ∀ x ∈ xs, (toPy x).isSome = true) : dEq true (.ref r) (.lst []) s = .ok (.bl (!xs.isEmpty)) s := by
  obtain ⟨ps, e2⟩ := toPys_of hx
  have hl := toPys_len e2
  have h1 : derL s (.ref r) = .lst xs := by simp only [derL, e]
  have h2 : derL s (.lst []) = .lst [] := rfl
  unfold dEq eqO
  rw [h1, h2]
  simp only [toPy, toPys, e2, Option.map_some]
  rw [if_pos (by simp only [PyData.depth, PyData.depthAll]; omega)]
  cases ps with
  | nil =>
    cases xs with
    | nil => rfl
    | cons _ _ => cases hl
  | cons p ps =>
    cases xs with
    | nil => cases hl
    | cons _ _ => rfl
theorem eraseIdx_perm {α : Type} : ∀ {xs : List α} {i : Nat} (h : i < xs.length), (xs[i] :: xs.eraseIdx i).Perm xs
  | x :: xs, 0, _ => List.Perm.refl _
  | x :: xs, i + 1, h => by
    have ih := eraseIdx_perm (xs := xs) (i := i) (by simpa using h)
    simp only [List.getElem_cons_succ, List.eraseIdx_cons_succ]
    exact (List.Perm.swap _ _ _).trans (ih.cons x)
theorem mixed_wp {xs : List D} (hp : Pot n st) (hl : xs.length < 100) (hx : ∀ x ∈ xs, (toPy x).isSome = true)
    (fin : ∀ m ys s, ys.Perm xs → st.length ≤ m → s[m]? = some (.lst ys) → Kp n st s → Q (.ref m) s) : (fn__law_mixed [.ref n, .lst xs] st).wp Q E := by
  have hn := hp.lt
  unfold fn__law_mixed F__law_mixed
  simp! only [show (0 : Nat) ≤ sizeLine from Nat.zero_le _]
  refine while_wp (fun k e s => ∃ r f, e = [Sl.val (.ref n), Sl.val (.lst xs), Sl.val (.ref st.length), Sl.val (.ref (st.length + 1))] ∧ s[st.length]? = some (.lst r) ∧ s[st.length + 1]? = some (.lst f) ∧ (r ++ f).Perm xs ∧ r.length = k ∧ Kp n st s ∧ s.length = st.length + 2) (fun k e s ⟨r, f, h1, h2, h3, h4, h5, h6, h7⟩ => ?_) xs.length _ _ _ hl ⟨xs, [], ?_, ?_, ?_, by simp, rfl, ?_, ?_⟩
  · subst h1
    simp! only []
    rw [ne_nil h2 (fun x hx2 => hx x (h4.mem_iff.mp (List.mem_append_left _ hx2)))]
    simp! only []
    cases r with
    | nil =>
      simp! only [List.isEmpty]
      exact fin _ f s h4 (by omega) h3 h6
    | cons r0 r =>
      simp! only [List.isEmpty]
      have ll := h4.length_eq
      simp only [List.length_append, List.length_cons] at ll
      refine ⟨r.length, h5.symm, ?_⟩
      simp! only [lstAt_of h3, lstAt_of h2, dLen, h2]
      refine take_wp h6.pot (by omega) (by omega) fun i s2 i0 i1 k2 l2 => ?_
      have n1 : st.length ≠ n := by omega
      have n2 : st.length + 1 ≠ n := by omega
      have g2 := k2.at_ h2 n1
      have g3 := k2.at_ h3 n2
      have ii : i.toNat < (r0 :: r).length := by simp only [List.length_cons]; omega
      have hpop : lPopAt (r0 :: r) [.int i] = some ((r0 :: r)[i.toNat], (r0 :: r).eraseIdx i.toNat) := by
        unfold lPopAt
        dsimp only
        rw [if_pos ⟨i0, by omega⟩, List.getElem?_eq_getElem ii]
      simp! only [kRefM2_of g2 hpop]
      have g4 : (s2.set st.length (.lst ((r0 :: r).eraseIdx i.toNat)))[st.length + 1]? = some (.lst f) := by rw [List.getElem?_set_ne (by omega)]; exact g3
      have happ : lAppend f [(r0 :: r)[i.toNat]] = some (.non, f ++ [(r0 :: r)[i.toNat]]) := by
        unfold lAppend
        dsimp only
        rw [if_pos (by rw [sizeLine_eq]; omega)]
      simp! only [kRefM2_of g4 happ]
      have hll : s2.length = st.length + 2 := l2.trans h7
      refine ⟨(r0 :: r).eraseIdx i.toNat, f ++ [(r0 :: r)[i.toNat]], ?_, ?_, ?_, ?_, ?_, hll⟩
      · rw [List.getElem?_set_ne (by omega), set_at (by omega)]
      · rw [set_at (by simp only [List.length_set]; omega)]
      · refine List.Perm.trans ?_ h4
        have z := eraseIdx_perm ii
        have z2 : ((r0 :: r).eraseIdx i.toNat ++ (f ++ [(r0 :: r)[i.toNat]])).Perm ((r0 :: r)[i.toNat] :: (r0 :: r).eraseIdx i.toNat ++ f) := by
          rw [← List.append_assoc]
          exact List.perm_append_singleton _ _
        exact z2.trans (z.append_right f)
      · rw [List.length_eraseIdx_of_lt ii]
        simp
      · have kk := h6.trans k2
        refine ⟨by simp only [List.length_set]; exact kk.len, fun j hj hjl => ?_, ?_⟩
        · rw [List.getElem?_set_ne (by omega), List.getElem?_set_ne (by omega)]
          exact kk.same j hj hjl
        · obtain ⟨a, b, e⟩ := kk.pot
          exact ⟨a, b, by rw [List.getElem?_set_ne (by omega), List.getElem?_set_ne (by omega)]; exact e⟩
  · simp
  · simp
  · simp
  · refine ⟨by simp, fun j hj hjl => ?_, ?_⟩
    · rw [List.append_assoc, List.getElem?_append_left hjl]
    · obtain ⟨a, b, e⟩ := hp
      exact ⟨a, b, by rw [List.append_assoc, List.getElem?_append_left hn]; exact e⟩
  · simp
/-! ### a new source -/
theorem pot_wp {ns : List Int} {k : Int} (h0 : 0 ≤ k) (h1 : k < 64) (fin : ∀ s, Pot st.length s → s.length = st.length + 1 → (∀ i, i < st.length → s[i]? = st[i]?) → Q (.ref st.length) s) : (fn__law_pot [.rol (ns.map D.int), .int k] st).wp Q E := by
  have hk : k.toNat < ns.length → atI (ns.map D.int) k = some (.int (ns[k.toNat]?.getD 0)) := fun h => by
    obtain ⟨x, e1, e2⟩ := atI_nat (xs := ns.map D.int) h0 (by simp only [List.length_map]; omega)
    rw [e1, ← e2, List.getElem?_map, List.getElem?_eq_getElem h]
    rfl
  have fin2 : ∀ a b : Int, Q (.ref st.length) (st ++ [.lst [.int a, .int b]]) := fun a b => fin _ ⟨a, b, by simp⟩ (by simp) fun i hi => List.getElem?_append_left hi
  have seed : ∀ c : Int, (c % 2147483587 + 6007 * k + 13).natAbs < 18446744073709551616 := fun c => by omega
  unfold fn__law_pot F__law_pot
  have dl : dLen [.rol (ns.map D.int)] st = .ok (.int ns.length) st := by simp only [dLen, List.length_map]
  by_cases hc : k < (ns.length : Int)
  · have e : dIx (.rol (ns.map D.int)) (.int k) st = .ok (.int (ns[k.toNat]?.getD 0)) st := by simp only [dIx, hk (by omega)]
    simp! only [dl, hc, e, seed]
    exact fin2 _ _
  · simp! only [dl, hc, seed]
    exact fin2 _ _
end Dv

/-! PvD: data: its text, equality, small laws of lists. -/
namespace Dv
open PySem PySem.Spec PyProof.Rows L2 Cv Dv.Sh
local macro_rules | `(tactic| simp! only [$a,*]) => `(tactic| simp -implicitDefEqProofs -proj only [wp_ok, wp_ex, wp_bad, wp_ite, nE, w_fC, w_fYes, w_fNil, w_fNone, w_fDctN, kVar_val, w_fVar, kChain1, kChain2, kChain3, kChain4, kChain5, w_fChain, w_asB, kRefM1_ref, w_fRefM, kListN1_lst, kListN1_tup, w_fListN, w_fMeth, kMeth2, w_fProp, w_fLenO, kLenO2_int, kFmt1_str, kFmt1_int, w_fFmt, kJs1_str, w_fJsN, w_fJs, o_seq, o_expr, o_ret, o_set, o_if, o_asg, o_par, o_raise, o_setN, o_try, o_for, o_forL, o_fnB, o_fnI, kThen, kNx, kExE, kSet, kIf, kAsg, kAsg'_some, kPar_two, kRaise, kSetN, kOwnM, kOwnM'_some, kTry, kFor, kForL, kFnN, kF2, kFnE, kF3, kSelf', kComp1, kComp2, w_fComp, owp_nx, owp_rt, owp_bk, owp_ct, owp_ex, owp_bad, owp_ite, owp_skip, owp_retN, owp_break, owp_continue, gN_eq, gNil_eq, gCons_eq, oBind_some, gTup_eq, dAdd, dSub, dMul, dMulT, dFdiv, dMod, dPow, dShl, dShr, dBand, dNeg, dCmp, dIsN, dAbs, dMax2, dMin2, dInt, isSt, itemsOf, asI, startE, startI, Sl.blk, wipeE, soD, fPut, List.set_cons_zero, List.set_cons_succ, List.getElem?_cons_zero, List.getElem?_cons_succ, List.map_cons, List.map_nil, List.length_cons, List.length_nil, List.nil_append, List.cons_append, List.append_nil, List.replicate, List.length_set, Nat.zero_add, Nat.succ_sub_succ_eq_sub, Nat.sub_zero, Nat.sub_self, Nat.reduceAdd, Nat.reduceSub, if_true, if_false, Bool.not_true, Bool.not_false, Bool.false_eq_true, eq_self, decide_true, decide_false, ite_true, ite_false, and_true, true_and, and_self, Int.reduceLT, Int.reduceLE, Int.reduceNeg, Int.reduceAdd, Int.reduceSub, Int.reduceMul, Int.reducePow, Int.reduceEq, Int.reduceNe, Int.reduceToNat, Nat.reduceLT, Nat.reducePow, Nat.reduceMul, Nat.reduceEqDiff, Nat.reduceLeDiff, natAbs_lit, Int.natAbs_neg, or_true, true_or, ks_nx, ks_rt, ks_bk, ks_ct, ks_ex, le_size, kOwnA_own, o_ownMA, kPutO3_some, kPutO2_int, kPutO1, kPutO0_own, o_putOwnA, kFrz0_own, kFrz0_val, kFrz0_no, o_frzSA, kSelfA_own, o_selfPutA, kLook_some, kSelfG_own, w_fSelf, kLenOwn_own, w_fLenOwn, kInOwn2_own, kInOwn1, w_fInOwn, kErr1_err, w_fErr, kOr3_some, kErrIs1_err, w_fErrIs, kHdN, kF5, kHand_true, kHand_false, o_handN, o_hand, Sl.clr, clrE, isNon_non, isNon_bl, isNon_int, isNon_str, isNon_lst, isNon_tup, isNon_dct, isNon_ref, isNon_ins, List.mem_cons, List.mem_nil_iff, or_false, false_or, kOp2, kOp1, w_fOp, kUn1, w_fUn, kT1, w_fT, kAnd1, w_fAnd, kOr1, w_fOr, kNot1, w_fNot, kAndV1, w_fAndV, kOrV1, w_fOrV, kNotV1, w_fNotV, kIte1, w_fIte, kCons2, kCons1, w_fCons, kLst1, w_fLst, kTup1, w_fTup, kCall1, w_fCall, kCallD1, w_fCallD, kStrM2, kStrM1, w_fStrM, kIt1, w_fIt, kRng1, w_fRng, kSome1, w_fSome, kSl3, kSl2, kSl1, w_fSl, kFrz1, w_fFrz, kRef1, w_fRef, kLstN1, w_fLstN, kPutE3, kPutE2, kPutE1, w_fPutE, kItL1, w_fItL, kEnumL1, w_fEnumL, kMake1, w_fMake, kMakeK2, kMakeK1, w_fMakeK, $a,*])
section
variable {α : Type} {s : Store} {Q : α → Store → Prop}
theorem eq_of_wp {r : R α} {v : α} {s : Store} (h : r.wp (fun a s' => a = v ∧ s' = s) nE) : r = .ok v s := by
  obtain ⟨a, s', e, rfl, rfl⟩ := wp_get h
  exact e
end
section
variable {s : Store}
/-! ### all, any -/
theorem bools_map {α : Type} {xs : List α} {p : α → Bool} : bools (xs.map fun x => D.bl (p x)) = some (xs.map p) := by
  induction xs with
  | nil => rfl
  | cons x xs ih => simp only [List.map_cons, bools, ih]
theorem all_map {α : Type} {xs : List α} {p : α → Bool} : dAll [.lst (xs.map fun x => D.bl (p x))] s = .ok (.bl (xs.all p)) s := by
  simp only [dAll, bools_map, List.all_map]
  rfl
theorem any_map {α : Type} {xs : List α} {p : α → Bool} : dAny [.lst (xs.map fun x => D.bl (p x))] s = .ok (.bl (xs.any p)) s := by
  simp only [dAny, bools_map, List.any_map]
  rfl
/-! ### == of simple things -/
theorem eq_int {k : Bool} {i j : Int} : dEq k (.int i) (.int j) s = .ok (.bl ((i == j) != k)) s := by
  simp only [dEq, eqO, derL, toPy, PyData.depth, Nat.min_self, Nat.zero_le, if_true, PyData.eqv]
theorem eq_str {k : Bool} {i j : Str} : dEq k (.str i) (.str j) s = .ok (.bl ((i == j) != k)) s := by
  simp only [dEq, eqO, derL, toPy, PyData.depth, Nat.min_self, Nat.zero_le, if_true, PyData.eqv]
theorem not_is_true {b : Bool} : (b != true) = !b := by cases b <;> rfl
theorem not_is_false {b : Bool} : (b != false) = b := by cases b <;> rfl
/-- is d the text a? -/
def isS (a : Str) (d : D) : Bool := match d with
  | .str b => a == b
  | _ => false
mutual
def dep : D → Nat
  | .lst xs => deps xs + 1
  | .tup xs => deps xs + 1
  | _ => 0
def deps : List D → Nat
  | [] => 0
  | x :: xs => max (dep x) (deps xs)
end
mutual
theorem depth_le : ∀ {d : D} {p : PyData}, toPy d = some p → p.depth ≤ dep d
  | .non, _, h => by simp only [toPy] at h; cases h; simp only [PyData.depth]; omega
  | .bl _, _, h => by simp only [toPy] at h; cases h; simp only [PyData.depth]; omega
  | .int _, _, h => by simp only [toPy] at h; cases h; simp only [PyData.depth]; omega
  | .str _, _, h => by simp only [toPy] at h; cases h; simp only [PyData.depth]; omega
  | .lst xs, _, h => by
    simp only [toPy] at h
    obtain ⟨ps, e, rfl⟩ := Option.map_eq_some_iff.mp h
    have := depths_le e
    simp only [PyData.depth, dep]
    omega
  | .tup xs, _, h => by
    simp only [toPy] at h
    obtain ⟨ps, e, rfl⟩ := Option.map_eq_some_iff.mp h
    have := depths_le e
    simp only [PyData.depth, dep]
    omega
  | .dct _, _, h => by simp [toPy] at h
  | .ins _ _, _, h => by simp [toPy] at h
  | .ref _, _, h => by simp [toPy] at h
  | .ty _, _, h => by simp [toPy] at h
  | .rol _, _, h => by simp [toPy] at h
theorem depths_le : ∀ {xs : List D} {ps : List PyData}, toPys xs = some ps → PyData.depthAll ps ≤ deps xs
  | [], _, h => by simp only [toPys] at h; cases h; simp only [PyData.depthAll]; omega
  | x :: xs, _, h => by
    simp only [toPys] at h
    split at h
    · rename_i p ps e1 e2
      cases h
      have := depth_le e1
      have := depths_le e2
      simp only [PyData.depthAll, deps]
      omega
    · cases h
end
/-- data that == knows, not deep -/
def Pl (d : D) : Prop := ∃ p, toPy d = some p ∧ p.depth ≤ 60
theorem pl_non : Pl .non := ⟨_, rfl, by simp only [PyData.depth]; omega⟩
theorem pl_bl {b : Bool} : Pl (.bl b) := ⟨_, rfl, by simp only [PyData.depth]; omega⟩
theorem pl_int {b : Int} : Pl (.int b) := ⟨_, rfl, by simp only [PyData.depth]; omega⟩
theorem pl_str {b : Str} : Pl (.str b) := ⟨_, rfl, by simp only [PyData.depth]; omega⟩
theorem in_strsT {k : Bool} {d : D} (h : Pl d) (ys : List Str) : dIn k d (.tup (ys.map D.str)) s = .ok (.bl ((ys.any fun a => isS a d) != k)) s := by
  obtain ⟨p, e, hd⟩ := h
  have e2 : toPys (ys.map D.str) = some (ys.map PyData.str) := by
    induction ys with
    | nil => rfl
    | cons y ys ih => simp only [List.map_cons, toPys, toPy, ih]
  have e3 : ((ys.map PyData.str).any fun z => PyData.eqv z p) = ys.any fun a => isS a d := by
    rw [List.any_map]
    congr 1
    funext a
    show PyData.eqv (.str a) p = isS a d
    cases d with
    | str b => simp only [toPy] at e; cases e; simp only [PyData.eqv, isS]
    | non => simp only [toPy] at e; cases e; simp only [PyData.eqv, isS]
    | bl b => simp only [toPy] at e; cases e; simp only [PyData.eqv, isS]
    | int b => simp only [toPy] at e; cases e; simp only [PyData.eqv, isS]
    | lst b => simp only [toPy] at e; obtain ⟨_, _, rfl⟩ := Option.map_eq_some_iff.mp e; simp only [PyData.eqv, isS]
    | tup b => simp only [toPy] at e; obtain ⟨_, _, rfl⟩ := Option.map_eq_some_iff.mp e; simp only [PyData.eqv, isS]
    | _ => simp [toPy] at e
  simp only [dIn, inO, derL, e, e2, hd, if_true, e3]
theorem in_strsL {k : Bool} {d : D} (h : Pl d) (ys : List Str) : dIn k d (.lst (ys.map D.str)) s = .ok (.bl ((ys.any fun a => isS a d) != k)) s := by
  have := in_strsT (s := s) (k := k) h ys
  simp only [dIn, inO, derL] at this ⊢
  exact this
/-! ### sizes of data -/
/-- data that repr knows: its depth, its weight -/
def Sm (k w : Nat) (d : D) : Prop := ∃ p, toPyQ d = some p ∧ Nq p k w
def SmL (k w : Nat) (ds : List D) : Prop := ∃ ps, toPyQs ds = some ps ∧ NqAll ps k w
theorem nq_mono {p : PyData} {k w k' w' : Nat} (h : Nq p k w) (hk : k ≤ k') (hw : w ≤ w') : Nq p k' w' := ⟨h.1, Nat.le_trans h.2.1 hk, Nat.le_trans h.2.2.1 hw, h.2.2.2⟩
theorem Sm.mono {k w k' w' : Nat} {d : D} (h : Sm k w d) (hk : k ≤ k') (hw : w ≤ w') : Sm k' w' d := by
  obtain ⟨p, e, n⟩ := h
  exact ⟨p, e, nq_mono n hk hw⟩
theorem sm_non : Sm 0 0 .non := ⟨_, rfl, nq_ni ni_non⟩
theorem sm_bl {b : Bool} : Sm 0 0 (.bl b) := ⟨_, rfl, nq_ni ni_bl⟩
theorem sm_int {i : Int} (h : i.natAbs < 2 ^ 39) : Sm 0 40 (.int i) := ⟨_, rfl, nq_ni (ni_int h)⟩
theorem sm_str {z : Str} {m : Nat} (h : z.length ≤ m) (ok : ∀ c ∈ z.cps.toList, c < 1114112) : Sm 0 m (.str z) := by
  refine ⟨_, rfl, ?_, by simp only [PyData.depth]; omega, ?_, by simp only [PyData.showable]⟩
  · simp only [PyData.leavesShort, List.all_eq_true, decide_eq_true_eq]
    intro c hc
    have := ok c hc
    omega
  · simp only [PyData.weight]
    exact h
theorem smL_nil : SmL 0 0 [] := ⟨_, rfl, nq_nil⟩
theorem smL_cons {k1 w1 k2 w2 : Nat} {d : D} {ds : List D} (h : Sm k1 w1 d) (r : SmL k2 w2 ds) : SmL (max k1 k2) (w1 + 1 + w2) (d :: ds) := by
  obtain ⟨p, e, n⟩ := h
  obtain ⟨ps, e2, n2⟩ := r
  exact ⟨p :: ps, by simp only [toPyQs, e, e2], nq_cons n n2⟩
theorem smL_all {k w : Nat} : ∀ {ds : List D}, (∀ d ∈ ds, Sm k w d) → SmL k (ds.length * (w + 1)) ds
  | [], _ => by
    obtain ⟨ps, e, n⟩ := smL_nil
    exact ⟨ps, e, n.1, Nat.le_trans n.2.1 (Nat.zero_le _), Nat.le_trans n.2.2.1 (Nat.zero_le _), n.2.2.2⟩
  | d :: ds, h => by
    obtain ⟨ps, e, n⟩ := smL_cons (h d List.mem_cons_self) (smL_all fun x hx => h x (List.mem_cons_of_mem _ hx))
    refine ⟨ps, e, n.1, by have := n.2.1; omega, ?_, n.2.2.2⟩
    have := n.2.2.1
    simp only [List.length_cons, Nat.add_mul, Nat.one_mul]
    omega
theorem sm_lst {k w : Nat} {ds : List D} (h : SmL k w ds) : Sm (k + 1) w (.lst ds) := by
  obtain ⟨ps, e, n⟩ := h
  exact ⟨.list ps, by simp only [toPyQ, e, Option.map_some], nq_list n⟩
theorem sm_tup {k w : Nat} {ds : List D} (h : SmL k w ds) : Sm (k + 1) w (.tup ds) := by
  obtain ⟨ps, e, n⟩ := h
  exact ⟨.tuple ps, by simp only [toPyQ, e, Option.map_some], nq_tup n⟩
theorem smL_get {k w : Nat} : ∀ {ds : List D}, SmL k w ds → ∀ d ∈ ds, Sm k w d
  | [], _, _, hd => nomatch hd
  | x :: ds, ⟨ps, e, n⟩, d, hd => by
    simp only [toPyQs] at e
    split at e
    · rename_i p qs e1 e2
      cases e
      obtain ⟨n1, n2, n3, n4⟩ := n
      simp only [PyData.leavesShortAll, Bool.and_eq_true] at n1
      simp only [PyData.depthAll] at n2
      simp only [PyData.weightAll] at n3
      simp only [PyData.showableAll, Bool.and_eq_true] at n4
      rcases List.mem_cons.mp hd with rfl | hd
      · exact ⟨p, e1, n1.1, by omega, by omega, n4.1⟩
      · exact smL_get ⟨qs, e2, n1.2, by omega, by omega, n4.2⟩ d hd
    · cases e
theorem Sm.lst {k w : Nat} {ds : List D} (h : Sm k w (.lst ds)) : SmL k w ds := by
  obtain ⟨p, e, n⟩ := h
  simp only [toPyQ] at e
  obtain ⟨ps, e2, rfl⟩ := Option.map_eq_some_iff.mp e
  obtain ⟨n1, n2, n3, n4⟩ := n
  exact ⟨ps, e2, by simpa only [PyData.leavesShort] using n1, by simp only [PyData.depth] at n2; omega, by simpa only [PyData.weight] using n3, by simpa only [PyData.showable] using n4⟩
theorem Sm.tup {k w : Nat} {ds : List D} (h : Sm k w (.tup ds)) : SmL k w ds := by
  obtain ⟨p, e, n⟩ := h
  simp only [toPyQ] at e
  obtain ⟨ps, e2, rfl⟩ := Option.map_eq_some_iff.mp e
  obtain ⟨n1, n2, n3, n4⟩ := n
  exact ⟨ps, e2, by simpa only [PyData.leavesShort] using n1, by simp only [PyData.depth] at n2; omega, by simpa only [PyData.weight] using n3, by simpa only [PyData.showable] using n4⟩
theorem Sm.str {k w : Nat} {z : Str} (h : Sm k w (.str z)) : z.length ≤ w := by
  obtain ⟨p, e, n⟩ := h
  simp only [toPyQ] at e
  cases e
  have := n.2.2.1
  simp only [PyData.weight] at this
  exact this
theorem sm_dct0 : Sm 1 0 (.dct []) := ⟨_, by simp only [toPyQ, toPyQk, Option.map_some], nq_dct⟩
theorem sm_dct1 {k w : Nat} {i : Int} {d : D} (hi : i.natAbs < 2 ^ 39) (h : Sm k w d) : Sm (k + 1) (w + 42) (.dct [(.int i, d)]) := by
  obtain ⟨p, e, n⟩ := h
  obtain ⟨i1, i2, i3, i4⟩ := nq_ni (ni_int hi)
  refine ⟨.dict [(.int i, p)], by simp only [toPyQ, toPyQk, e, Option.map_some], ?_, ?_, ?_, ?_⟩
  · simp only [PyData.leavesShort, PyData.leavesShortKv] at i1 ⊢
    rw [n.1, i1]
    rfl
  · have := n.2.1
    simp only [PyData.depth, PyData.depthKv] at i2 ⊢
    omega
  · have := n.2.2.1
    have e3 : (PyData.dict [(.int i, p)]).weight = (PyData.int i).weight + p.weight + 2 + 0 := by simp only [PyData.weight, PyData.weightKv]
    omega
  · simp only [PyData.showable, PyData.showableKv] at i4 ⊢
    rw [i4, n.2.2.2]
    rfl
/-- the text that repr writes -/
def rp (d : D) : Str := match toPyQ d with
  | some p => p.shown
  | none => ""
theorem repr_sm {d : D} {k w : Nat} (h : Sm k w d) (hk : k ≤ 45) (hw : w ≤ 200000) : dRepr [d] s = .ok (.str (rp d)) s := by
  obtain ⟨p, e, n1, n2, n3, n4⟩ := h
  have ok : okQ' p = true := by
    unfold okQ'
    rw [n1, n4, decide_eq_true (Nat.le_trans n2 hk), decide_eq_true (Nat.le_trans n3 hw)]
    rfl
  simp only [dRepr, e, ok, if_true, rp]
end
end Dv

/-! PvQ: what the package's defs about queries answer. -/
namespace Dv
open PySem PySem.Spec PyProof.Rows L2 Cv Dv.Sh
local macro_rules | `(tactic| simp! only [$a,*]) => `(tactic| simp -implicitDefEqProofs -proj only [wp_ok, wp_ex, wp_bad, wp_ite, nE, w_fC, w_fYes, w_fNil, w_fNone, w_fDctN, kVar_val, w_fVar, kChain1, kChain2, kChain3, kChain4, kChain5, w_fChain, w_asB, kRefM1_ref, w_fRefM, kListN1_lst, kListN1_tup, w_fListN, w_fMeth, kMeth2, w_fProp, w_fLenO, kLenO2_int, kFmt1_str, kFmt1_int, w_fFmt, kJs1_str, w_fJsN, w_fJs, o_seq, o_expr, o_ret, o_set, o_if, o_asg, o_par, o_raise, o_setN, o_try, o_for, o_forL, o_fnB, o_fnI, kThen, kNx, kExE, kSet, kIf, kAsg, kAsg'_some, kPar_two, kRaise, kSetN, kOwnM, kOwnM'_some, kTry, kFor, kForL, kFnN, kF2, kFnE, kF3, kSelf', kComp1, kComp2, w_fComp, owp_nx, owp_rt, owp_bk, owp_ct, owp_ex, owp_bad, owp_ite, owp_skip, owp_retN, owp_break, owp_continue, gN_eq, gNil_eq, gCons_eq, oBind_some, gTup_eq, dAdd, dSub, dMul, dMulT, dFdiv, dMod, dPow, dShl, dShr, dBand, dNeg, dCmp, dIsN, dAbs, dMax2, dMin2, dInt, isSt, itemsOf, asI, startE, startI, Sl.blk, wipeE, soD, fPut, List.set_cons_zero, List.set_cons_succ, List.getElem?_cons_zero, List.getElem?_cons_succ, List.map_cons, List.map_nil, List.length_cons, List.length_nil, List.nil_append, List.cons_append, List.append_nil, List.replicate, List.length_set, Nat.zero_add, Nat.succ_sub_succ_eq_sub, Nat.sub_zero, Nat.sub_self, Nat.reduceAdd, Nat.reduceSub, if_true, if_false, Bool.not_true, Bool.not_false, Bool.false_eq_true, eq_self, decide_true, decide_false, ite_true, ite_false, and_true, true_and, and_self, Int.reduceLT, Int.reduceLE, Int.reduceNeg, Int.reduceAdd, Int.reduceSub, Int.reduceMul, Int.reducePow, Int.reduceEq, Int.reduceNe, Int.reduceToNat, Nat.reduceLT, Nat.reducePow, Nat.reduceMul, Nat.reduceEqDiff, Nat.reduceLeDiff, natAbs_lit, Int.natAbs_neg, or_true, true_or, ks_nx, ks_rt, ks_bk, ks_ct, ks_ex, le_size, kOwnA_own, o_ownMA, kPutO3_some, kPutO2_int, kPutO1, kPutO0_own, o_putOwnA, kFrz0_own, kFrz0_val, kFrz0_no, o_frzSA, kSelfA_own, o_selfPutA, kLook_some, kSelfG_own, w_fSelf, kLenOwn_own, w_fLenOwn, kInOwn2_own, kInOwn1, w_fInOwn, kErr1_err, w_fErr, kOr3_some, kErrIs1_err, w_fErrIs, kHdN, kF5, kHand_true, kHand_false, o_handN, o_hand, Sl.clr, clrE, isNon_non, isNon_bl, isNon_int, isNon_str, isNon_lst, isNon_tup, isNon_dct, isNon_ref, isNon_ins, List.mem_cons, List.mem_nil_iff, or_false, false_or, kOp2, kOp1, w_fOp, kUn1, w_fUn, kT1, w_fT, kAnd1, w_fAnd, kOr1, w_fOr, kNot1, w_fNot, kAndV1, w_fAndV, kOrV1, w_fOrV, kNotV1, w_fNotV, kIte1, w_fIte, kCons2, kCons1, w_fCons, kLst1, w_fLst, kTup1, w_fTup, kCall1, w_fCall, kCallD1, w_fCallD, kStrM2, kStrM1, w_fStrM, kIt1, w_fIt, kRng1, w_fRng, kSome1, w_fSome, kSl3, kSl2, kSl1, w_fSl, kFrz1, w_fFrz, kRef1, w_fRef, kLstN1, w_fLstN, kPutE3, kPutE2, kPutE1, w_fPutE, kItL1, w_fItL, kEnumL1, w_fEnumL, kMake1, w_fMake, kMakeK2, kMakeK1, w_fMakeK, $a,*])
section
variable {s : Store}
def isStr : D → Bool
  | .str _ => true
  | _ => false
theorem isStr_str {z : Str} : isStr (.str z) = true := rfl
def isInt : D → Bool
  | .int _ => true
  | _ => false
/-- data: nothing that may change, no class -/
def Kn (d : D) : Prop := ∃ T, tyD d = some T ∧ T ∈ namesT
theorem kn_sm {k w : Nat} {d : D} (h : Sm k w d) : Kn d := by
  obtain ⟨p, e, _⟩ := h
  cases d <;> first | exact ⟨_, rfl, by decide⟩ | (simp [toPyQ] at e)
theorem is_str {d : D} (h : Kn d) : dIs ["str"] d s = .ok (.bl (isStr d)) s := by
  obtain ⟨T, e, _⟩ := h
  cases d <;> first | rfl | (simp [tyD] at e)
theorem is_int {d : D} (h : Kn d) : dIs ["int"] d s = .ok (.bl (match d with | .int _ => true | .bl _ => true | _ => false)) s := by
  obtain ⟨T, e, _⟩ := h
  cases d <;> first | rfl | (simp [tyD] at e)
theorem is_bool {d : D} (h : Kn d) : dIs ["bool"] d s = .ok (.bl (match d with | .bl _ => true | _ => false)) s := by
  obtain ⟨T, e, _⟩ := h
  cases d <;> first | rfl | (simp [tyD] at e)
def isTup : D → Bool
  | .tup _ => true
  | _ => false
theorem is_tup {d : D} (h : Kn d) : dIs ["tuple"] d s = .ok (.bl (isTup d)) s := by
  obtain ⟨T, e, _⟩ := h
  cases d <;> first | rfl | (simp [tyD] at e)
theorem fn_is_integer_eq {d : D} (h : Kn d) : fn_is_integer [d] s = .ok (.bl (isInt d)) s := by
  unfold fn_is_integer F_is_integer
  refine eq_of_wp ?_
  simp! only [is_int h, is_bool h]
  obtain ⟨T, e, _⟩ := h
  cases d <;> first | (simp! only [isInt]; done) | (simp [tyD] at e)
/-! ### names, terms -/
def azS : Str := "abcdefghijklmnopqrstuvwxyz"
def isNm (d : D) : Bool := match d with
  | .str z => decide (1 ≤ z.length ∧ z.length ≤ 8) && (!(isS "not" d || isS "by" d) && z.cps.toList.all fun c => decide (c ∈ azS.cps.toList))
  | _ => false
theorem in_sign {k : Bool} {c : Nat} {z : Str} : dIn k (.str ⟨#[c]⟩) (.str z) s = .ok (.bl (decide (c ∈ z.cps.toList) != k)) s := by
  simp only [dIn, inO, derL, signOf]
theorem fn_is_name_eq {d : D} (h : Kn d) (hl : ∀ z, d = .str z → z.length ≤ sizeLine) : fn_is_name [d] s = .ok (.bl (isNm d)) s := by
  unfold fn_is_name F_is_name
  refine eq_of_wp ?_
  cases d with
  | str z =>
    have hz := hl z rfl
    have e1 := in_strsT (s := s) (k := false) (pl_str (b := z)) ["not", "by"]
    simp only [List.map_cons, List.map_nil, List.any_cons, List.any_nil, Bool.or_false, not_is_false] at e1
    simp! only [is_str h, isStr, dLen, hz, e1]
    by_cases h1 : (1 : Int) ≤ z.length
    · by_cases h2 : (z.length : Int) ≤ 8
      · simp! only [h1, h2]
        cases h3 : (isS "not" (.str z) || isS "by" (.str z)) with
        | true => simp! only [isNm, h3, Bool.and_false, Bool.false_and]
        | false =>
          have hz2 : (z.cps.toList.map chD).length < sizeLine := by
            rw [List.length_map]
            have : z.length = z.cps.toList.length := rfl
            rw [sizeLine_eq]
            omega
          simp! only [hz2]
          rw [compT_map (fun x => match x with | .str y => D.bl (decide (y.cps.toList.headD 0 ∈ azS.cps.toList)) | _ => .non) _ (fun x hx => by
            obtain ⟨c, _, rfl⟩ := List.mem_map.mp hx
            refine ⟨_, rfl, eq_of_wp ?_⟩
            unfold chD
            simp! only [in_sign]
            rw [not_is_false]
            rfl)]
          have e4 : ((z.cps.toList.map chD).map fun x => match x with | .str y => D.bl (decide (y.cps.toList.headD 0 ∈ azS.cps.toList)) | _ => .non) = z.cps.toList.map fun c => D.bl (decide (c ∈ azS.cps.toList)) := by
            rw [List.map_map]
            rfl
          rw [e4]
          have e5 := all_map (s := s) (xs := z.cps.toList) (p := fun c => decide (c ∈ azS.cps.toList))
          simp! only [e5]
          have h4 : decide (1 ≤ z.length ∧ z.length ≤ 8) = true := decide_eq_true (by omega)
          simp only [isNm, h3, h4, Bool.not_false, Bool.true_and]
      · have h4 : decide (1 ≤ z.length ∧ z.length ≤ 8) = false := decide_eq_false (by omega)
        simp! only [h1, h2, isNm, h4, Bool.false_and]
    · have h4 : decide (1 ≤ z.length ∧ z.length ≤ 8) = false := decide_eq_false (by omega)
      simp! only [h1, isNm, h4, Bool.false_and]
  | _ => simp! only [is_str h, isStr, isNm]
def isTm (d : D) : Bool := isNm d || match d with
  | .int i => decide (0 ≤ i ∧ i ≤ 1023)
  | _ => false
theorem fn_is_term_eq {d : D} (h : Kn d) (hl : ∀ z, d = .str z → z.length ≤ sizeLine) : fn_is_term [d] s = .ok (.bl (isTm d)) s := by
  unfold fn_is_term F_is_term
  refine eq_of_wp ?_
  simp! only [fn_is_name_eq h hl, fn_is_integer_eq h]
  cases h1 : isNm d with
  | true => simp! only [isTm, h1, Bool.true_or]
  | false =>
    cases d with
    | int i =>
      simp! only [isInt]
      by_cases h2 : 0 ≤ i
      · simp! only [h2, isTm, h1, Bool.false_or]
      · simp! only [h2, isTm, h1, Bool.false_or, false_and]
    | _ => simp! only [isInt, isTm, h1, Bool.false_or]
/-! ### literals -/
def litTms (ts : List D) : Bool := decide (1 ≤ ts.length ∧ ts.length ≤ 4) && ts.all isTm
def isTms (d : D) : Bool := match d with
  | .tup ts => litTms ts
  | _ => false
/-- data whose texts are short -/
def Sh (d : D) : Prop := ∀ z, d = .str z → z.length ≤ sizeLine
theorem sh_sm {k w : Nat} {d : D} (h : Sm k w d) (hw : w ≤ 16777216) : Sh d := fun z e => by
  subst e
  have := h.str
  rw [sizeLine_eq]
  omega
/-- known, short -/
def Ok1 (d : D) : Prop := Kn d ∧ Sh d
theorem ok1_sm {k w : Nat} {d : D} (h : Sm k w d) (hw : w ≤ 16777216) : Ok1 d := ⟨kn_sm h, sh_sm h hw⟩
theorem fn_are_terms_eq {d : D} (h : Kn d) (hl : ∀ ts, d = .tup ts → ts.length < sizeLine ∧ ∀ t ∈ ts, Ok1 t) : fn_are_terms [d] s = .ok (.bl (isTms d)) s := by
  unfold fn_are_terms F_are_terms
  refine eq_of_wp ?_
  cases d with
  | tup ts =>
    obtain ⟨l1, l2⟩ := hl ts rfl
    simp! only [is_tup h, isTup, dLen]
    by_cases h1 : (1 : Int) ≤ ts.length
    · by_cases h2 : (ts.length : Int) ≤ 4
      · simp! only [h1, h2, l1]
        rw [compT_map (fun x => .bl (isTm x)) _ (fun x hx => by
            refine ⟨_, rfl, eq_of_wp ?_⟩
            simp! only [fn_is_term_eq (l2 x hx).1 (l2 x hx).2])]
        simp! only [all_map]
        have h4 : decide (1 ≤ ts.length ∧ ts.length ≤ 4) = true := decide_eq_true (by omega)
        simp only [isTms, litTms, h4, Bool.true_and]
      · have h4 : decide (1 ≤ ts.length ∧ ts.length ≤ 4) = false := decide_eq_false (by omega)
        simp! only [h1, h2, isTms, litTms, h4, Bool.false_and]
    · have h4 : decide (1 ≤ ts.length ∧ ts.length ≤ 4) = false := decide_eq_false (by omega)
      simp! only [h1, isTms, litTms, h4, Bool.false_and]
  | _ => simp! only [is_tup h, isTup, isTms]
def rowW (d : D) : Bool := isS "row" d || isS "none" d
def cmpW (d : D) : Bool := isS "<" d || (isS "<=" d || (isS "=" d || isS "!=" d))
def isLit (d : D) : Bool := match d with
  | .tup [a, b, c] => isStr a && if rowW a then isNm b && isTms c else cmpW a && (isTm b && (isTm c && (isStr b || isStr c)))
  | _ => false
/-- what is_literal can look at -/
def LitD (d : D) : Prop := Kn d ∧ ∀ xs, d = .tup xs → ∀ x ∈ xs, Ok1 x ∧ ∀ ts, x = .tup ts → ts.length < sizeLine ∧ ∀ t ∈ ts, Ok1 t
theorem fn_is_literal_eq {d : D} (h : LitD d) : fn_is_literal [d] s = .ok (.bl (isLit d)) s := by
  unfold fn_is_literal F_is_literal
  refine eq_of_wp ?_
  cases d with
  | tup xs =>
    obtain ⟨h, h2⟩ := h
    simp! only [is_tup h, isTup, dLen]
    by_cases hl : xs.length = 3
    · match xs, hl with
      | [a, b, c], _ =>
        have ha := (h2 _ rfl a (by simp)).1
        have hb := (h2 _ rfl b (by simp)).1
        have hc := h2 _ rfl c (by simp)
        simp! only [eq_int, dIx, atI_zero, is_str ha.1]
        cases a with
        | str w =>
          have e1 := in_strsT (s := s) (k := false) (pl_str (b := w)) ["row", "none"]
          have e2 := in_strsT (s := s) (k := false) (pl_str (b := w)) ["<", "<=", "=", "!="]
          simp only [List.map_cons, List.map_nil, List.any_cons, List.any_nil, Bool.or_false, not_is_false] at e1 e2
          have e1' : dIn false (.str w) (.tup [.str "row", .str "none"]) s = .ok (.bl (rowW (.str w))) s := e1
          have e2' : dIn false (.str w) (.tup [.str "<", .str "<=", .str "=", .str "!="]) s = .ok (.bl (cmpW (.str w))) s := e2
          simp! only [isStr_str, show ((((0 : Nat) + 1 + 1 + 1 : Nat) : Int) == 3) = true from rfl, not_is_true, e1', fn_is_name_eq hb.1 hb.2, fn_are_terms_eq hc.1.1 hc.2, e2', fn_is_term_eq hb.1 hb.2, fn_is_term_eq hc.1.1 hc.1.2, is_str hb.1, is_str hc.1.1]
          simp only [isLit, isStr_str, Bool.true_and]
          cases rowW (.str w) <;> cases isNm b <;> cases cmpW (.str w) <;> cases isTm b <;> cases isTm c <;> cases isStr b <;> cases isStr c <;> rfl
        | _ =>
          simp! only [isStr, show ((((0 : Nat) + 1 + 1 + 1 : Nat) : Int) == 3) = true from rfl, not_is_true]
          rfl
    · have e : ((xs.length : Int) == 3) = false := by
        rw [beq_eq_false_iff_ne]
        omega
      simp! only [eq_int, e, not_is_true]
      match xs, hl with
      | [], _ => rfl
      | [_], _ => rfl
      | [_, _], _ => rfl
      | [_, _, _], hl => exact absurd rfl hl
      | _ :: _ :: _ :: _ :: _, _ => rfl
  | _ => simp! only [is_tup h.1, isTup, isLit]
/-! ### the variables of literals -/
def litTerms (d : D) : List D := match d with
  | .tup [a, b, c] => if cmpW a then [b, c] else match c with | .tup ts => ts | _ => []
  | _ => []
def addV (f : List Str) (t : D) : List Str := match t with
  | .str z => if z ∈ f then f else f ++ [z]
  | _ => f
def varsOf (ls : List D) : List Str := (ls.flatMap litTerms).foldl addV []
/-- x is a list or a tuple of these -/
inductive Sq (s : Store) : D → List D → Prop
  | lst {xs : List D} : Sq s (.lst xs) xs
  | tup {xs : List D} : Sq s (.tup xs) xs
  | ref {n : Nat} {xs : List D} (h : s[n]? = some (.lst xs)) : Sq s (.ref n) xs
theorem items_sq {x : D} {xs : List D} (h : Sq s x xs) : ∃ l, itemsL x s = .ok (xs, l) s ∧ liv s l := by
  cases h with
  | lst => exact ⟨none, rfl, trivial⟩
  | tup => exact ⟨none, rfl, trivial⟩
  | ref h => exact ⟨some (_, xs), by simp only [itemsL, h], h⟩
theorem enum_sq {x : D} {xs : List D} (h : Sq s x xs) : ∃ l, enumL x s = .ok (enumF 0 xs, l) s ∧ liv s l := by
  cases h with
  | lst => exact ⟨none, rfl, trivial⟩
  | tup => exact ⟨none, rfl, trivial⟩
  | ref h => exact ⟨some (_, xs), by simp only [enumL, h], h⟩
theorem len_sq {x : D} {xs : List D} (h : Sq s x xs) : dLen [x] s = .ok (.int xs.length) s := by
  cases h with
  | lst => rfl
  | tup => rfl
  | ref h => simp only [dLen, h]
theorem list_sq {x : D} {xs : List D} (h : Sq s x xs) : dList [x] s = .ok (.lst xs) s := by
  cases h with
  | lst => rfl
  | tup => rfl
  | ref h => simp only [dList, h]
theorem isLT_sq {x : D} {xs : List D} (h : Sq s x xs) : dIs ["list", "tuple"] x s = .ok (.bl true) s := by
  cases h with
  | lst => rfl
  | tup => rfl
  | ref h => simp only [dIs, tyS, h]; rfl
theorem isLit_tup {d : D} (h : isLit d = true) : ∃ w b c, d = .tup [.str w, b, c] ∧ (if rowW (.str w) then isNm b && isTms c else cmpW (.str w) && (isTm b && (isTm c && (isStr b || isStr c)))) = true := by
  cases d with
  | tup xs =>
    match xs with
    | [] => simp [isLit] at h
    | [_] => simp [isLit] at h
    | [_, _] => simp [isLit] at h
    | [a, b, c] =>
      cases a with
      | str w => exact ⟨w, b, c, rfl, by simpa only [isLit, isStr_str, Bool.true_and] using h⟩
      | _ => simp [isLit, isStr] at h
    | _ :: _ :: _ :: _ :: _ => simp [isLit] at h
  | _ => simp [isLit] at h
theorem row_not_cmp {w : Str} (h : rowW (.str w) = true) : cmpW (.str w) = false := by
  simp only [rowW, isS, Bool.or_eq_true, beq_iff_eq] at h
  rcases h with rfl | rfl <;> decide +kernel
theorem fn_is_comparison_eq {w : Str} {b c : D} : fn_is_comparison [.tup [.str w, b, c]] s = .ok (.bl (cmpW (.str w))) s := by
  unfold fn_is_comparison F_is_comparison
  refine eq_of_wp ?_
  have e2 := in_strsT (s := s) (k := false) (pl_str (b := w)) ["<", "<=", "=", "!="]
  simp only [List.map_cons, List.map_nil, List.any_cons, List.any_nil, Bool.or_false, not_is_false] at e2
  have e2' : dIn false (.str w) (.tup [.str "<", .str "<=", .str "=", .str "!="]) s = .ok (.bl (cmpW (.str w))) s := e2
  simp! only [dIx, atI_zero, e2']
theorem fn_terms_of_eq {d : D} (h : isLit d = true) : fn_terms_of [d] s = .ok (.tup (litTerms d)) s := by
  obtain ⟨w, b, c, rfl, h'⟩ := isLit_tup h
  unfold fn_terms_of F_terms_of
  refine eq_of_wp ?_
  simp! only [fn_is_comparison_eq]
  cases h1 : cmpW (.str w) with
  | true =>
    simp! only [litTerms, h1, dSl, show cutD [D.str w, b, c] (some 1) none = [b, c] from rfl]
  | false =>
    cases h2 : rowW (.str w) with
    | false => simp [h1, h2] at h'
    | true =>
      simp only [h2, if_true, Bool.and_eq_true] at h'
      cases c with
      | tup ts => simp! only [litTerms, h1, dIx, atI_two]
      | _ => simp [isTms] at h'
theorem mem_strs {z : Str} {f : List Str} : inOwnD true (f.map D.str) (.str z) s = .ok (.bl (!decide (z ∈ f))) s := by
  have e2 : toPys (f.map D.str) = some (f.map PyData.str) := by
    induction f with
    | nil => rfl
    | cons y ys ih => simp only [List.map_cons, toPys, toPy, ih]
  have e3 : ((f.map PyData.str).any fun x => PyData.eqv x (.str z)) = decide (z ∈ f) := by
    rw [List.any_map, Bool.eq_iff_iff]
    simp only [List.any_eq_true, Function.comp, PyData.eqv, beq_iff_eq, decide_eq_true_eq]
    exact ⟨fun ⟨x, h, e⟩ => e ▸ h, fun h => ⟨z, h, rfl⟩⟩
  simp only [inOwnD, toPy, e2, e3, PyData.depth, Nat.zero_le, if_true, not_is_true]
theorem addV_len {f : List Str} {t : D} : (addV f t).length ≤ f.length + 1 := by
  unfold addV
  split
  · split
    · omega
    · simp
  · omega
theorem addVs_len : ∀ {ts : List D} {f : List Str}, (ts.foldl addV f).length ≤ f.length + ts.length
  | [], f => by simp
  | t :: ts, f => by
    have := addVs_len (ts := ts) (f := addV f t)
    have := addV_len (f := f) (t := t)
    simp only [List.foldl_cons, List.length_cons]
    omega
theorem litTerms_len {d : D} (h : isLit d = true) : (litTerms d).length ≤ 4 := by
  obtain ⟨w, b, c, rfl, h'⟩ := isLit_tup h
  unfold litTerms
  simp only
  split
  · simp
  · rename_i h1
    cases h2 : rowW (.str w) with
    | false => simp [h1, h2] at h'
    | true =>
      simp only [h2, if_true, Bool.and_eq_true] at h'
      cases c with
      | tup ts =>
        have := h'.2
        simp only [isTms, litTms, Bool.and_eq_true, decide_eq_true_eq] at this
        exact this.1.2
      | _ => simp
theorem flat_len : ∀ {xs : List D}, (∀ x ∈ xs, isLit x = true) → (xs.flatMap litTerms).length ≤ 4 * xs.length
  | [], _ => by simp
  | x :: xs, h => by
    have := flat_len fun y hy => h y (List.mem_cons_of_mem x hy)
    have := litTerms_len (h x List.mem_cons_self)
    simp only [List.flatMap_cons, List.length_append, List.length_cons]
    omega
theorem fn_variables_in_eq {x : D} {xs : List D} (h : Sq s x xs) (hl : ∀ y ∈ xs, isLit y = true) (hn : xs.length ≤ 1000) (hk : ∀ y ∈ xs, ∀ t ∈ litTerms y, Kn t) : fn_variables_in [x] s = .ok (.lst ((varsOf xs).map D.str)) s := by
  unfold fn_variables_in F_variables_in
  obtain ⟨l, e1, l1⟩ := items_sq h
  refine eq_of_wp ?_
  simp! only [e1]
  refine turnsL_wp (fun done rest e st => s = st ∧ done ++ rest = xs ∧ ∃ a b, e = [Sl.val x, Sl.own (.lst ((varsOf done).map D.str)), a, b]) (fun done rest e st ⟨h1, _⟩ => h1 ▸ l1) (fun done y rest e st ⟨h1, h2, a, b, h3⟩ => ?_) xs [] _ _ ⟨rfl, rfl, _, _, rfl⟩ fun e st ⟨h1, h2, a, b, h3⟩ => ?_
  · subst h1 h3
    have hy : y ∈ xs := by rw [← h2]; simp
    simp! only [fn_terms_of_eq (hl y hy)]
    refine turns_wp (fun done2 rest2 e st => s = st ∧ done2 ++ rest2 = litTerms y ∧ ∃ b, e = [Sl.val x, Sl.own (.lst (((varsOf done ++ []) |> (done2.foldl addV ·)).map D.str)), Sl.val y, b]) (fun done2 t rest2 e st ⟨g1, g2, b, g3⟩ => ?_) (litTerms y) [] _ _ ⟨rfl, rfl, b, by simp⟩ fun e st ⟨g1, g2, b, g3⟩ => ?_
    · subst g1 g3
      have ht : t ∈ litTerms y := by rw [← g2]; simp
      simp! only [is_str (hk y hy t ht)]
      cases t with
      | str z =>
        have lf : (done2.foldl addV (varsOf done)).length < sizeLine := by
          have q1 := addVs_len (ts := done2) (f := varsOf done)
          have q2 := addVs_len (ts := done.flatMap litTerms) (f := [])
          have q3 := flat_len fun z hz => hl z (h2 ▸ List.mem_append_left _ hz)
          have q4 := congrArg List.length h2
          have q5 := congrArg List.length g2
          have q6 := litTerms_len (hl y hy)
          simp only [List.length_append, List.length_cons, List.length_nil] at q2 q4 q5
          have q7 : (varsOf done).length ≤ 0 + (done.flatMap litTerms).length := q2
          rw [sizeLine_eq]
          omega
        simp! only [isStr_str, mem_strs]
        by_cases hz : z ∈ done2.foldl addV (varsOf done)
        · simp! only [hz]
          refine ⟨by rw [List.append_assoc]; exact g2, .val (.str z), ?_⟩
          simp only [List.foldl_append, List.foldl_cons, List.foldl_nil, addV, hz, if_true]
        · simp! only [hz, lAppend, List.length_map, lf]
          refine ⟨by rw [List.append_assoc]; exact g2, .val (.str z), ?_⟩
          simp only [List.foldl_append, List.foldl_cons, List.foldl_nil, addV, hz, if_false, List.map_append, List.map_cons, List.map_nil]
      | _ =>
        simp! only [isStr]
        exact ⟨by rw [List.append_assoc]; exact g2, _, by rw [List.foldl_append]; rfl⟩
    · subst g1 g3
      simp! only []
      refine ⟨by rw [List.append_assoc]; exact h2, .val y, b, ?_⟩
      simp only [varsOf, List.flatMap_append, List.flatMap_cons, List.flatMap_nil, List.append_nil, List.foldl_append, List.nil_append]
  · subst h1 h3
    simp! only []
/-! ### a list of literals -/
/-- the first that is no literal -/
def badLit : Nat → List D → Option Nat
  | _, [] => none
  | i, x :: xs => if isLit x then badLit (i + 1) xs else some i
theorem badLit_none : ∀ {xs : List D} {i : Nat}, badLit i xs = none → ∀ x ∈ xs, isLit x = true
  | [], _, _, _, h => nomatch h
  | y :: ys, i, e, x, h => by
    unfold badLit at e
    split at e
    · rename_i hy
      rcases List.mem_cons.mp h with rfl | h
      · exact hy
      · exact badLit_none e x h
    · cases e
theorem badLit_snoc : ∀ {xs : List D} {i : Nat} {y : D}, badLit i xs = none → badLit i (xs ++ [y]) = if isLit y then none else some (i + xs.length)
  | [], i, y, _ => by simp only [List.nil_append, badLit, List.length_nil, Nat.add_zero]
  | x :: xs, i, y, e => by
    unfold badLit at e
    split at e
    · rename_i hx
      have := badLit_snoc (y := y) e
      simp only [List.cons_append, badLit, hx, if_true, this, List.length_cons]
      congr 2
      omega
    · cases e
theorem enumF_snoc : ∀ {xs : List D} {i : Nat} {y : D}, enumF i (xs ++ [y]) = enumF i xs ++ [.tup [.int ((i + xs.length : Nat) : Int), y]]
  | [], i, y => by simp [enumF]
  | x :: xs, i, y => by
    simp only [List.cons_append, enumF, List.length_cons, enumF_snoc (xs := xs)]
    rw [show i + 1 + xs.length = i + (xs.length + 1) by omega]
theorem enumF_split : ∀ {xs : List D} {i : Nat} {done : List D} {x : D} {rest : List D}, enumF i xs = done ++ x :: rest → ∃ d y r, xs = d ++ y :: r ∧ x = .tup [.int ((i + d.length : Nat) : Int), y] ∧ done = enumF i d ∧ rest = enumF (i + d.length + 1) r
  | [], i, done, x, rest, h => by cases done <;> cases h
  | z :: zs, i, [], x, rest, h => by
    simp only [enumF, List.nil_append, List.cons.injEq] at h
    exact ⟨[], z, zs, rfl, h.1.symm, rfl, h.2.symm⟩
  | z :: zs, i, w :: done, x, rest, h => by
    simp only [enumF, List.cons_append, List.cons.injEq] at h
    obtain ⟨d, y, r, e1, e2, e3, e4⟩ := enumF_split h.2
    refine ⟨z :: d, y, r, by rw [e1]; rfl, ?_, ?_, ?_⟩
    · rw [e2]
      simp only [List.length_cons]
      congr 4
      omega
    · rw [e3, ← h.1]
      rfl
    · rw [e4]
      simp only [List.length_cons]
      congr 1
      omega
/-- InvalidQuery(problem, position) -/
def iqf (p : Str) (i : Int) : List (Str × D) := [("position", .int i), ("problem", .str p)]
/-- is x a list or a tuple, of which items -/
def seqD (s : Store) (x : D) : Option (List D) := match x with
  | .lst xs => some xs
  | .tup xs => some xs
  | .ref n => (match s[n]? with
    | some (.lst xs) => some xs
    | _ => none)
  | _ => none
/-- what is wrong with the literals -/
def litsBad (o : Option (List D)) : Option (Str × Int) := match o with
  | none => some ("literals", -1)
  | some xs => if 1 ≤ xs.length ∧ xs.length ≤ 8 then (match badLit 0 xs with
    | some i => some ("literal", (i : Int))
    | none => none) else some ("literals", -1)
variable {Q : D → Store → Prop} {E : Str → List (Str × D) → Store → Prop}
theorem require_seq_wp {x : D} {xs : List D} (h : Sq s x xs) (hx : ∀ y ∈ xs, LitD y) (ok : litsBad (some xs) = none → Q .non s) (no : ∀ p i, litsBad (some xs) = some (p, i) → E "InvalidQuery" (iqf p i) s) : (fn_require_literals [x] s).wp Q E := by
  unfold fn_require_literals F_require_literals
  obtain ⟨l, e1, l1⟩ := enum_sq h
  simp! only [isLT_sq h, len_sq h]
  have bad : ¬ (1 ≤ xs.length ∧ xs.length ≤ 8) → E "InvalidQuery" (iqf "literals" (-1)) s := fun z => no _ _ (by simp only [litsBad, z, if_false])
  by_cases h1 : (1 : Int) ≤ xs.length
  · by_cases h2 : (xs.length : Int) ≤ 8
    · have h3 : 1 ≤ xs.length ∧ xs.length ≤ 8 := by omega
      simp! only [h1, h2, e1]
      refine turnsL_wp (fun done rest e st => s = st ∧ done ++ rest = enumF 0 xs ∧ (∃ d, done = enumF 0 d ∧ badLit 0 d = none) ∧ ∃ a b, e = [Sl.val x, a, b]) (fun done rest e st ⟨h1, _⟩ => h1 ▸ l1) (fun done y rest e st ⟨g1, g2, ⟨d0, g4, g5⟩, a, b, g3⟩ => ?_) _ [] _ _ ⟨rfl, rfl, ⟨[], rfl, rfl⟩, _, _, rfl⟩ fun e st ⟨g1, g2, ⟨d0, g4, g5⟩, a, b, g3⟩ => ?_
      · subst g1 g3
        obtain ⟨d, z, r, q1, q2, q3, q4⟩ := enumF_split g2.symm
        rw [Nat.zero_add] at q2 q4
        subst q2
        have hd : d = d0 := by
          have : ∀ {a b : List D} {i : Nat}, enumF i a = enumF i b → a = b := by
            intro a
            induction a with
            | nil => intro b i h; cases b <;> first | rfl | cases h
            | cons x a ih =>
              intro b i h
              cases b with
              | nil => cases h
              | cons y b =>
                simp only [enumF, List.cons.injEq, D.tup.injEq, and_true, true_and] at h
                rw [h.1, ih h.2]
          exact this (q3.symm.trans g4)
        subst hd
        have hz := hx z (by rw [q1]; simp)
        simp! only [fn_is_literal_eq hz]
        cases hl : isLit z with
        | true =>
          simp! only []
          refine ⟨by rw [List.append_assoc]; exact g2, ⟨d ++ [z], by rw [enumF_snoc, g4, Nat.zero_add], by rw [badLit_snoc g5, if_pos hl]⟩, .val (.int (d.length : Int)), .val z, rfl⟩
        | false =>
          have nb : ∀ {d : List D} {z : D} {r : List D} {i : Nat}, badLit i d = none → isLit z = false → badLit i (d ++ z :: r) = some (i + d.length) := by
            intro d
            induction d with
            | nil => intro z r i _ h; simp only [List.nil_append, badLit, h, Bool.false_eq_true, if_false, List.length_nil, Nat.add_zero]
            | cons y d ih =>
              intro z r i h h2
              unfold badLit at h
              split at h
              · rename_i hy
                have := ih (r := r) h h2
                simp only [List.cons_append, badLit, hy, if_true, this, List.length_cons]
                congr 1
                omega
              · cases h
          simp! only []
          refine no "literal" _ ?_
          simp only [litsBad, h3, and_self, if_true]
          rw [q1, nb g5 hl, Nat.zero_add]
      · subst g1 g3
        simp! only []
        have hd : xs = d0 := by
          have g6 : enumF 0 xs = enumF 0 d0 := by rw [← g2, ← g4]; simp
          have : ∀ {a b : List D} {i : Nat}, enumF i a = enumF i b → a = b := by
            intro a
            induction a with
            | nil => intro b i h; cases b <;> first | rfl | cases h
            | cons x a ih =>
              intro b i h
              cases b with
              | nil => cases h
              | cons y b =>
                simp only [enumF, List.cons.injEq, D.tup.injEq, and_true, true_and] at h
                rw [h.1, ih h.2]
          exact this g6
        subst hd
        exact ok (by simp only [litsBad, h3, and_self, if_true, g5])
    · simp! only [h1, h2]
      exact bad (by omega)
  · simp! only [h1]
    exact bad (by omega)
theorem require_no_wp {x : D} (h : dIs ["list", "tuple"] x s = .ok (.bl false) s) (no : E "InvalidQuery" (iqf "literals" (-1)) s) : (fn_require_literals [x] s).wp Q E := by
  unfold fn_require_literals F_require_literals
  simp! only [h]
  exact no
/-! ### orders -/
theorem eqv_isS {a : Str} {d : D} {p : PyData} (e : toPy d = some p) : PyData.eqv p (.str a) = isS a d ∧ PyData.eqv (.str a) p = isS a d := by
  cases d with
  | str b => simp only [toPy] at e; cases e; simp only [PyData.eqv, isS, and_true]; exact Bool.beq_comm
  | non => simp only [toPy] at e; cases e; simp only [PyData.eqv, isS, and_self]
  | bl b => simp only [toPy] at e; cases e; simp only [PyData.eqv, isS, and_self]
  | int b => simp only [toPy] at e; cases e; simp only [PyData.eqv, isS, and_self]
  | lst b => simp only [toPy] at e; obtain ⟨_, _, rfl⟩ := Option.map_eq_some_iff.mp e; simp only [PyData.eqv, isS, and_self]
  | tup b => simp only [toPy] at e; obtain ⟨_, _, rfl⟩ := Option.map_eq_some_iff.mp e; simp only [PyData.eqv, isS, and_self]
  | _ => simp [toPy] at e
theorem any_isS {a : Str} : ∀ {ys : List D} {ps : List PyData}, toPys ys = some ps → (ps.any fun z => PyData.eqv z (.str a)) = ys.any (isS a)
  | [], ps, h => by simp only [toPys] at h; cases h; rfl
  | y :: ys, ps, h => by
    simp only [toPys] at h
    split at h
    · rename_i p qs e1 e2
      cases h
      simp only [List.any_cons, any_isS e2, (eqv_isS e1).1]
    · cases h
theorem str_in {k : Bool} {a : Str} {ys : List D} (h : ∀ y ∈ ys, (toPy y).isSome = true) : dIn k (.str a) (.tup ys) s = .ok (.bl ((ys.any (isS a)) != k)) s := by
  obtain ⟨ps, e⟩ := toPys_of h
  simp only [dIn, inO, derL, toPy, e, PyData.depth, Nat.zero_le, if_true, any_isS e]
def isOrd (d : D) (vs : List Str) : Bool := match d with
  | .tup ys => ((ys.length : Int) == (vs.length : Int)) && vs.all fun v => ys.any (isS v)
  | _ => false
/-- what is_order can look at -/
def OrdD (d : D) : Prop := Kn d ∧ ∀ ys, d = .tup ys → ∀ y ∈ ys, (toPy y).isSome = true
theorem fn_is_order_eq {d : D} {vs : List Str} (h : OrdD d) (hv : vs.length ≤ 1000) : fn_is_order [d, .lst (vs.map D.str)] s = .ok (.bl (isOrd d vs)) s := by
  unfold fn_is_order F_is_order
  refine eq_of_wp ?_
  cases d with
  | tup ys =>
    simp! only [is_tup h.1, isTup, dLen, List.length_map, eq_int, not_is_false]
    cases h1 : ((ys.length : Int) == (vs.length : Int)) with
    | true =>
      simp! only [List.length_map, show vs.length < sizeLine by (rw [sizeLine_eq]; omega)]
      rw [compT_map (fun x => .bl (match x with | .str a => ys.any (isS a) | _ => false)) _ (fun x hx => by
        obtain ⟨a, _, rfl⟩ := List.mem_map.mp hx
        refine ⟨_, rfl, eq_of_wp ?_⟩
        simp! only [str_in (h.2 _ rfl), not_is_false])]
      rw [List.map_map]
      have := all_map (s := s) (xs := vs) (p := fun a => ys.any (isS a))
      simp! only [show ((fun x : D => D.bl (match x with | .str a => ys.any (isS a) | _ => false)) ∘ D.str) = fun a => D.bl (ys.any (isS a)) from rfl, this, isOrd, h1, Bool.true_and]
    | false => simp! only [isOrd, h1, Bool.false_and]
  | _ => simp! only [is_tup h.1, isTup, isOrd]
theorem varsOf_nodup {ls : List D} : (varsOf ls).Nodup := by
  have : ∀ (ts : List D) (f : List Str), f.Nodup → (ts.foldl addV f).Nodup := by
    intro ts
    induction ts with
    | nil => exact fun f h => h
    | cons t ts ih =>
      intro f h
      refine ih _ ?_
      unfold addV
      split
      · split
        · exact h
        · rename_i hz
          rw [List.nodup_append]
          exact ⟨h, by simp, fun a ha b hb => by rintro rfl; simp only [List.mem_singleton] at hb; exact hz (hb ▸ ha)⟩
      · exact h
  exact this _ [] List.nodup_nil
/-- a tuple that holds each of so many texts once -/
theorem perm_of_in : ∀ {vs : List Str} {ys : List D}, vs.Nodup → ys.length = vs.length → (∀ v ∈ vs, D.str v ∈ ys) → (vs.map D.str).Perm ys
  | [], ys, _, hl, _ => by
    cases ys with
    | nil => exact List.Perm.refl _
    | cons y ys => cases hl
  | v :: vs, ys, nd, hl, h => by
    obtain ⟨a, b, rfl⟩ := List.append_of_mem (h v List.mem_cons_self)
    rw [List.nodup_cons] at nd
    have hl2 : (a ++ b).length = vs.length := by
      simp only [List.length_append, List.length_cons] at hl ⊢
      omega
    have ih := perm_of_in (vs := vs) (ys := a ++ b) nd.2 hl2 fun w hw => by
      have z := h w (List.mem_cons_of_mem _ hw)
      rcases List.mem_append.mp z with z | z
      · exact List.mem_append_left _ z
      · rcases List.mem_cons.mp z with z | z
        · injection z with z
          exact absurd (z ▸ hw) nd.1
        · exact List.mem_append_right _ z
    rw [List.map_cons]
    exact (ih.cons _).trans List.perm_middle.symm
theorem isS_eq {a : Str} {d : D} (h : isS a d = true) : d = .str a := by
  cases d with
  | str b =>
    simp only [isS, beq_iff_eq] at h
    rw [h]
  | _ => simp [isS] at h
/-- the texts of a tuple -/
def strL (ys : List D) : List Str := ys.filterMap fun y => match y with | .str z => some z | _ => none
theorem strL_map {zs : List Str} : strL (zs.map D.str) = zs := by
  induction zs with
  | nil => rfl
  | cons z zs ih =>
    unfold strL at ih ⊢
    rw [List.map_cons, List.filterMap_cons]
    simp only [ih]
theorem ord_strs {ys : List D} {ls : List D} (h : isOrd (.tup ys) (varsOf ls) = true) : ys = (strL ys).map D.str ∧ (varsOf ls).Perm (strL ys) := by
  simp only [isOrd, Bool.and_eq_true, beq_iff_eq, List.all_eq_true, List.any_eq_true] at h
  have hp := perm_of_in (vs := varsOf ls) (ys := ys) varsOf_nodup (by omega) fun v hv => by
    obtain ⟨y, hy, e⟩ := h.2 v hv
    rw [← isS_eq e]
    exact hy
  have all : ∀ y ∈ ys, ∃ z, y = D.str z := fun y hy => by
    obtain ⟨z, _, e⟩ := List.mem_map.mp (hp.mem_iff.mpr hy)
    exact ⟨z, e.symm⟩
  have e : ys = (strL ys).map D.str := by
    clear h hp
    induction ys with
    | nil => rfl
    | cons y ys ih =>
      obtain ⟨z, rfl⟩ := all y List.mem_cons_self
      have := ih fun y hy => all y (List.mem_cons_of_mem _ hy)
      unfold strL at this ⊢
      rw [List.filterMap_cons]
      simp only [List.map_cons]
      rw [← this]
  refine ⟨e, ?_⟩
  have := hp.filterMap (fun y => match y with | .str z => some z | _ => none)
  have e2 := strL_map (zs := varsOf ls)
  unfold strL at e2
  rw [e2] at this
  exact this
/-! ### texts -/
def tmT (d : D) : Str := match d with
  | .int i => toString i
  | .str z => z
  | _ => ""
theorem int_text_le {i : Int} (h0 : 0 ≤ i) (h : i ≤ 1023) : (toString i : Str).length ≤ 40 ∧ i.natAbs.log2 < 1920 := by
  have hl : i.natAbs.log2 < 39 := by
    by_cases h0 : i.natAbs = 0
    · rw [h0]
      decide
    · exact (Nat.log2_lt h0).mpr (by omega)
  refine ⟨?_, by omega⟩
  rw [PySem.ofString_length]
  exact int_text_length_le (k := 39) (by decide) hl
theorem isNm_str {d : D} (h : isNm d = true) : ∃ z, d = .str z ∧ 1 ≤ z.length ∧ z.length ≤ 8 := by
  cases d with
  | str z =>
    simp only [isNm, Bool.and_eq_true, decide_eq_true_eq] at h
    exact ⟨z, rfl, h.1⟩
  | _ => simp [isNm] at h
theorem isTm_cases {d : D} (h : isTm d = true) : (∃ z, d = .str z ∧ isNm d = true ∧ z.length ≤ 8) ∨ ∃ i : Int, d = .int i ∧ 0 ≤ i ∧ i ≤ 1023 := by
  unfold isTm at h
  rcases Bool.or_eq_true_iff.mp h with h | h
  · obtain ⟨z, e, _, hz⟩ := isNm_str h
    exact .inl ⟨z, e, h, hz⟩
  · cases d with
    | int i => exact .inr ⟨i, rfl, by simpa using h⟩
    | _ => simp at h
theorem tmT_len {d : D} (h : isTm d = true) : (tmT d).length ≤ 40 := by
  rcases isTm_cases h with ⟨z, rfl, _, hz⟩ | ⟨i, rfl, h0, h1⟩
  · exact Nat.le_trans hz (by omega)
  · exact (int_text_le h0 h1).1
theorem str_tm {d : D} (h : isTm d = true) : dStr [d] s = .ok (.str (tmT d)) s := by
  rcases isTm_cases h with ⟨z, rfl, _, hz⟩ | ⟨i, rfl, h0, h1⟩
  · rfl
  · simp only [dStr, (int_text_le h0 h1).2, if_true, tmT]
theorem fmt_tm {d : D} (h : isTm d = true) : kFmt1 Q d s = Q (.str (tmT d)) s := by
  rcases isTm_cases h with ⟨z, rfl, _, hz⟩ | ⟨i, rfl, h0, h1⟩
  · rw [kFmt1_str, if_pos (by rw [sizeLine_eq]; omega)]
    rfl
  · rw [kFmt1_int, if_pos (int_text_le h0 h1).2]
    rfl
def litT (d : D) : Str := match d with
  | .tup [.str w, b, c] => if cmpW (.str w) then Str.empty ++ tmT b ++ " " ++ w ++ " " ++ tmT c else
      let row : Str := tmT b ++ "(" ++ Txt.join "," ((litTerms d).map tmT) ++ ")"
      if isS "row" (.str w) then row else "not" ++ " " ++ row
  | _ => ""
theorem str_len_app {a b : Str} : (a ++ b).length = a.length + b.length := Str.length_append a b
theorem lit_words {w : Str} (h : rowW (.str w) = true ∨ cmpW (.str w) = true) : w.length ≤ 4 := by
  simp only [rowW, cmpW, isS, Bool.or_eq_true, beq_iff_eq] at h
  rcases h with (rfl | rfl) | rfl | rfl | rfl | rfl <;> decide +kernel
theorem row_tup {w : Str} {b c : D} (h : isLit (.tup [.str w, b, c]) = true) (hr : rowW (.str w) = true) : ∃ ts, c = .tup ts ∧ isNm b = true ∧ 1 ≤ ts.length ∧ ts.length ≤ 4 ∧ ∀ t ∈ ts, isTm t = true := by
  obtain ⟨w', b', c', e, h'⟩ := isLit_tup h
  cases e
  simp only [hr, if_true, Bool.and_eq_true] at h'
  cases c with
  | tup ts =>
    have := h'.2
    simp only [isTms, litTms, Bool.and_eq_true, decide_eq_true_eq, List.all_eq_true] at this
    exact ⟨ts, rfl, h'.1, this.1.1, this.1.2, this.2⟩
  | _ => simp [isTms] at h'
theorem cmp_terms {w : Str} {b c : D} (h : isLit (.tup [.str w, b, c]) = true) (hr : rowW (.str w) = false) : cmpW (.str w) = true ∧ isTm b = true ∧ isTm c = true := by
  obtain ⟨w', b', c', e, h'⟩ := isLit_tup h
  cases e
  simp only [hr, Bool.false_eq_true, if_false, Bool.and_eq_true] at h'
  exact ⟨h'.1, h'.2.1, h'.2.2.1⟩
theorem join_le {sep : Str} {ts : List Str} {m : Nat} (h : ∀ t ∈ ts, t.length ≤ m) : (ts.map (·.length)).sum + ts.length * sep.length ≤ ts.length * (m + sep.length) := by
  induction ts with
  | nil => simp
  | cons t ts ih =>
    have h1 := h t List.mem_cons_self
    have h2 := ih fun x hx => h x (List.mem_cons_of_mem _ hx)
    simp only [List.map_cons, List.sum_cons, List.length_cons, Nat.add_mul, Nat.one_mul]
    omega
theorem tjoin_le {sep : Str} {ts : List Str} {m : Nat} (h : ∀ t ∈ ts, t.length ≤ m) : (Txt.join sep ts).length ≤ ts.length * (m + sep.length) := by
  have h1 : (Txt.join sep ts).length ≤ (ts.map (·.length)).sum + ts.length * sep.length := by
    show (Builtin.Str.glued sep ts).length ≤ _
    rw [StrLaws.glued_eq_join]
    exact StrLaws.join_length_le sep ts
  exact Nat.le_trans h1 (join_le h)
theorem dJoin_tms {ts : List D} {n m : Nat} {f : D → Str} {sep : Str} (h : ∀ t ∈ ts, (f t).length ≤ m) (hn : ts.length * (m + sep.length) ≤ 16777216) : dJoin (.str sep) [.lst (ts.map fun t => .str (f t))] s = .ok (.str (Txt.join sep (ts.map f))) s := by
  have e := strsOf_map (xs := ts.map f)
  rw [List.map_map] at e
  have e2 : strsOf (ts.map fun t => D.str (f t)) = some (ts.map f) := e
  have := join_le (sep := sep) (ts := ts.map f) (m := m) (fun t ht => by
    obtain ⟨x, hx, rfl⟩ := List.mem_map.mp ht
    exact h x hx)
  rw [List.length_map] at this
  simp only [dJoin, e2, List.length_map]
  rw [if_pos (by omega)]
theorem fn_literal_text_eq {d : D} (h : isLit d = true) : fn_literal_text [d] s = .ok (.str (litT d)) s ∧ (litT d).length ≤ 400 := by
  obtain ⟨w, b, c, rfl, _⟩ := isLit_tup h
  have hsz : (2000 : Nat) ≤ sizeLine := by rw [sizeLine_eq]; omega
  have l1 : (" " : Str).length = 1 := by decide +kernel
  have l2 : ("(" : Str).length = 1 := by decide +kernel
  have l3 : (")" : Str).length = 1 := by decide +kernel
  have l4 : ("not" : Str).length = 3 := by decide +kernel
  have l5 : ("," : Str).length = 1 := by decide +kernel
  have l6 : Str.empty.length = 0 := rfl
  cases hr : rowW (.str w) with
  | true =>
    obtain ⟨ts, rfl, hb, t1, t4, ht⟩ := row_tup h hr
    have hc := row_not_cmp hr
    obtain ⟨z, rfl, z1, z8⟩ := isNm_str hb
    have tl := tjoin_le (sep := ",") (ts := ts.map tmT) (m := 40) (fun t h' => by
      obtain ⟨x, hx, rfl⟩ := List.mem_map.mp h'
      exact tmT_len (ht x hx))
    rw [List.length_map, l5] at tl
    have tl2 : (Txt.join "," (ts.map tmT)).length ≤ 164 := Nat.le_trans tl (by omega)
    constructor
    · unfold fn_literal_text F_literal_text
      refine eq_of_wp ?_
      simp! only [fn_is_comparison_eq, hc, l2, show z.length + 1 ≤ sizeLine by omega, show ts.length < sizeLine by omega]
      rw [compT_map (fun x => .str (tmT x)) _ (fun x hx => by
        refine ⟨_, rfl, eq_of_wp ?_⟩
        simp! only [str_tm (ht x hx)])]
      have ej := dJoin_tms (s := s) (ts := ts) (n := 0) (m := 40) (f := tmT) (sep := ",") (fun t h' => tmT_len (ht t h')) (by rw [l5]; omega)
      simp! only [ej, str_len_app, l2, l3, show z.length + 1 + (Txt.join "," (ts.map tmT)).length ≤ sizeLine by omega, show z.length + 1 + (Txt.join "," (ts.map tmT)).length + 1 ≤ sizeLine by omega]
      simp! only [eq_str, not_is_false]
      cases h1 : (w == ("row" : Str)) with
      | true =>
        have h2 : isS "row" (.str w) = true := by
          rw [eq_of_beq h1]
          decide +kernel
        simp! only [litT, hc, h2, litTerms, tmT]
      | false =>
        have h2 : isS "row" (.str w) = false := by
          show (("row" : Str) == w) = false
          rw [Bool.beq_comm]
          exact h1
        simp! only [l1, l4, show 3 + 1 ≤ sizeLine by omega, str_len_app, l2, l3, show 3 + 1 + (z.length + 1 + (Txt.join "," (ts.map tmT)).length + 1) ≤ sizeLine by omega, litT, hc, h2, litTerms, tmT]
    · simp only [litT, hc, litTerms, tmT]
      simp only [Bool.false_eq_true, if_false]
      split <;> simp only [str_len_app, l1, l2, l3, l4] <;> omega
  | false =>
    obtain ⟨hc, hb, hcc⟩ := cmp_terms h hr
    have b1 := tmT_len hb
    have c1 := tmT_len hcc
    have w1 := lit_words (.inr hc)
    constructor
    · unfold fn_literal_text F_literal_text
      refine eq_of_wp ?_
      simp! only [fn_is_comparison_eq, hc, fmt_tm hb, str_len_app, l1, l6, kFmt1_str, fmt_tm hcc, show 0 + (tmT b).length ≤ sizeLine by omega, show (tmT b).length ≤ sizeLine by omega, show (tmT b).length + 1 ≤ sizeLine by omega, show w.length ≤ sizeLine by omega, show (tmT b).length + 1 + w.length ≤ sizeLine by omega, show (tmT b).length + 1 + w.length + 1 ≤ sizeLine by omega, show (tmT b).length + 1 + w.length + 1 + (tmT c).length ≤ sizeLine by omega, litT]
    · simp only [litT, hc, if_true, str_len_app, l1, l6]
      omega
def qText (ls : List D) (os : List Str) : Str := if os == varsOf ls then Txt.join ", " (ls.map litT) else Txt.join ", " (ls.map litT) ++ " by " ++ Txt.join "," os
theorem eq_strs {a b : List Str} : dEq false (.lst (a.map D.str)) (.lst (b.map D.str)) s = .ok (.bl (a == b)) s := by
  have e2 : ∀ f : List Str, toPys (f.map D.str) = some (f.map PyData.str) := by
    intro f
    induction f with
    | nil => rfl
    | cons y ys ih => simp only [List.map_cons, toPys, toPy, ih]
  have d0 : ∀ f : List Str, PyData.depthAll (f.map PyData.str) = 0 := by
    intro f
    induction f with
    | nil => simp only [List.map_nil, PyData.depthAll]
    | cons y ys ih => simp only [List.map_cons, PyData.depthAll, ih, PyData.depth, Nat.max_self]
  have e3 : ∀ a b : List Str, PyData.eqvAll (a.map PyData.str) (b.map PyData.str) = (a == b) := by
    intro a
    induction a with
    | nil => intro b; cases b <;> simp only [List.map_nil, List.map_cons, PyData.eqvAll] <;> rfl
    | cons x a ih =>
      intro b
      cases b with
      | nil => simp only [List.map_nil, List.map_cons, PyData.eqvAll]; rfl
      | cons y b => simp only [List.map_cons, PyData.eqvAll, PyData.eqv, ih]; rfl
  simp only [dEq, eqO, derL, toPy, e2, Option.map_some, PyData.depth, d0]
  rw [if_pos (by omega)]
  simp only [PyData.eqv, e3, not_is_false]
/-- the variables are names -/
theorem vars_names {ls : List D} (h : ∀ x ∈ ls, isLit x = true) : ∀ v ∈ varsOf ls, isNm (.str v) = true := by
  have tms : ∀ x ∈ ls, ∀ t ∈ litTerms x, isTm t = true := by
    intro x hx t ht
    obtain ⟨w, b, c, rfl, _⟩ := isLit_tup (h x hx)
    cases hr : rowW (.str w) with
    | true =>
      obtain ⟨ts, rfl, _, _, _, h2⟩ := row_tup (h _ hx) hr
      simp only [litTerms, row_not_cmp hr, Bool.false_eq_true, if_false] at ht
      exact h2 t ht
    | false =>
      obtain ⟨hc, hb, hcc⟩ := cmp_terms (h _ hx) hr
      simp only [litTerms, hc, if_true, List.mem_cons, List.mem_nil_iff, or_false] at ht
      rcases ht with rfl | rfl
      · exact hb
      · exact hcc
  have : ∀ (ts : List D) (f : List Str), (∀ t ∈ ts, isTm t = true) → (∀ v ∈ f, isNm (.str v) = true) → ∀ v ∈ ts.foldl addV f, isNm (.str v) = true := by
    intro ts
    induction ts with
    | nil => exact fun f _ h => h
    | cons t ts ih =>
      intro f h1 h2
      refine ih _ (fun x hx => h1 x (List.mem_cons_of_mem _ hx)) fun v hv => ?_
      unfold addV at hv
      split at hv
      · rename_i z
        split at hv
        · exact h2 v hv
        · rcases List.mem_append.mp hv with hv | hv
          · exact h2 v hv
          · simp only [List.mem_singleton] at hv
            subst hv
            have := h1 _ List.mem_cons_self
            unfold isTm at this
            rcases Bool.or_eq_true_iff.mp this with q | q
            · exact q
            · simp at q
      · exact h2 v hv
  refine this _ [] (fun t ht => ?_) (fun _ h => nomatch h)
  obtain ⟨x, hx, ht⟩ := List.mem_flatMap.mp ht
  exact tms x hx t ht
theorem fn_query_text_eq {ls : List D} {os : List Str} (h : ∀ x ∈ ls, isLit x = true) (hn : ls.length ≤ 8) (ho : ∀ v ∈ os, v.length ≤ 8) (hon : os.length ≤ 100) (hk : ∀ y ∈ ls, ∀ t ∈ litTerms y, Kn t) : fn_query_text [.lst ls, .tup (os.map D.str)] s = .ok (.str (qText ls os)) s := by
  have hsz : (20000 : Nat) ≤ sizeLine := by rw [sizeLine_eq]; omega
  have l1 : (", " : Str).length = 2 := by decide +kernel
  have l2 : (" by " : Str).length = 4 := by decide +kernel
  have l5 : ("," : Str).length = 1 := by decide +kernel
  unfold fn_query_text F_query_text
  refine eq_of_wp ?_
  simp! only [show ls.length < sizeLine by omega]
  rw [compT_map (fun x => .str (litT x)) _ (fun x hx => by
    refine ⟨_, rfl, eq_of_wp ?_⟩
    simp! only [(fn_literal_text_eq (h x hx)).1])]
  have ej := dJoin_tms (s := s) (ts := ls) (n := 0) (m := 400) (f := litT) (sep := ", ") (fun t h' => (fn_literal_text_eq (s := s) (h t h')).2) (by rw [l1]; omega)
  have tl := tjoin_le (sep := ", ") (ts := ls.map litT) (m := 400) (fun t h' => by
      obtain ⟨x, hx, rfl⟩ := List.mem_map.mp h'
      exact (fn_literal_text_eq (s := s) (h x hx)).2)
  rw [List.length_map, l1] at tl
  have tl2 : (Txt.join ", " (ls.map litT)).length ≤ 3216 := Nat.le_trans tl (by omega)
  have to := tjoin_le (sep := ",") (ts := os) (m := 8) ho
  rw [l5] at to
  have to2 : (Txt.join "," os).length ≤ 900 := Nat.le_trans to (by omega)
  simp! only [ej, dList, fn_variables_in_eq .lst h (by omega) hk, eq_strs]
  cases h1 : (os == varsOf ls) with
  | true => simp! only [qText, h1]
  | false =>
    have eo := strsOf_map (xs := os)
    have jo := join_le (sep := ",") (ts := os) (m := 8) ho
    rw [l5] at jo
    simp! only [str_len_app, l2, show (Txt.join ", " (ls.map litT)).length + 4 ≤ sizeLine by omega, dJoin, eo, l5, show (os.map (·.length)).sum + os.length * 1 ≤ 16777216 by omega, show (Txt.join ", " (ls.map litT)).length + 4 + (Txt.join "," os).length ≤ sizeLine by omega, qText, h1]
/-! ### Query(..) -/
/-- what is wrong with a query's arguments -/
def qBad (o : Option (List D)) (d : D) : Option (Str × Int) := match litsBad o with
  | some e => some e
  | none => match o with
    | some ls => if 5 < (varsOf ls).length then some ("variables", -1) else if isNon d = false ∧ isOrd d (varsOf ls) = false then some ("order", -1) else none
    | none => none
/-- the order of a query -/
def ordL (ls : List D) (d : D) : List Str := match d with
  | .tup ys => strL ys
  | _ => varsOf ls
def qFs (ls : List D) (d : D) : List (Str × D) := [("own_literals", .lst ls), ("own_order", .tup ((ordL ls d).map D.str)), ("own_text", .str (qText ls (ordL ls d)))]
theorem isN_eq {k : Bool} {d : D} : dIsN k d .non s = .ok (.bl (isNon d != k)) s := by
  simp only [dIsN]
/-- a literal's terms are known -/
theorem tm_kn {x t : D} (h : LitD x) (hl : isLit x = true) (ht : t ∈ litTerms x) : Kn t := by
  obtain ⟨w, b, c, rfl, _⟩ := isLit_tup hl
  cases hr : rowW (.str w) with
  | true =>
    obtain ⟨ts, rfl, _⟩ := row_tup hl hr
    simp only [litTerms, row_not_cmp hr, Bool.false_eq_true, if_false] at ht
    exact (((h.2 _ rfl (.tup ts) (by simp)).2 ts rfl).2 t ht).1
  | false =>
    obtain ⟨hc, _, _⟩ := cmp_terms hl hr
    simp only [litTerms, hc, if_true, List.mem_cons, List.mem_nil_iff, or_false] at ht
    rcases ht with rfl | rfl
    · exact (h.2 _ rfl _ (by simp)).1.1
    · exact (h.2 _ rfl _ (by simp)).1.1
theorem litsBad_ok {xs : List D} (h : litsBad (some xs) = none) : (1 ≤ xs.length ∧ xs.length ≤ 8) ∧ ∀ x ∈ xs, isLit x = true := by
  unfold litsBad at h
  dsimp only at h
  split at h
  · rename_i hl
    split at h
    · cases h
    · rename_i hb
      exact ⟨hl, badLit_none hb⟩
  · cases h
theorem vars_len {xs : List D} (h : ∀ x ∈ xs, isLit x = true) (hn : xs.length ≤ 8) : (varsOf xs).length ≤ 32 := by
  have q2 := addVs_len (ts := xs.flatMap litTerms) (f := [])
  have q3 := flat_len h
  have q4 : (varsOf xs).length ≤ 0 + (xs.flatMap litTerms).length := q2
  omega
theorem ordL_ok {xs : List D} {d : D} (h : ∀ x ∈ xs, isLit x = true) (hd : isNon d = true ∨ isOrd d (varsOf xs) = true) :
    (if isNon d = true then D.tup ((varsOf xs).map D.str) else d) = .tup ((ordL xs d).map D.str) ∧ (∀ v ∈ ordL xs d, isNm (.str v) = true) ∧ (varsOf xs).Perm (ordL xs d) := by
  cases d with
  | non => exact ⟨rfl, vars_names h, List.Perm.refl _⟩
  | tup ys =>
    have ho : isOrd (.tup ys) (varsOf xs) = true := hd.elim (fun z => nomatch z) id
    obtain ⟨e, p⟩ := ord_strs ho
    refine ⟨?_, fun v hv => vars_names h v (p.mem_iff.mpr hv), p⟩
    show D.tup ys = .tup ((strL ys).map D.str)
    rw [← e]
  | _ => rcases hd with z | z <;> cases z
theorem nm_len {v : Str} (h : isNm (.str v) = true) : v.length ≤ 8 := by
  obtain ⟨z, e, _, hz⟩ := isNm_str h
  cases e
  exact hz
variable {Qs : SO → Store → Prop}
theorem query_wp {x d : D} {xs : List D} (h : Sq s x xs) (hx : ∀ y ∈ xs, LitD y) (hd : OrdD d) (ok : qBad (some xs) d = none → Qs (.ins "Query" (qFs xs d)) s) (no : ∀ p i, qBad (some xs) d = some (p, i) → E "InvalidQuery" (iqf p i) s) : (fi_Query [x, d] s).wp Qs E := by
  have f1 : (("own_literals" : Str) = "own_order") = False := by decide +kernel
  have f2 : (("own_literals" : Str) = "own_text") = False := by decide +kernel
  have f3 : (("own_order" : Str) = "own_text") = False := by decide +kernel
  have g1 : (("own_order" : Str) == "own_literals") = false := by decide +kernel
  have g2 : (("own_text" : Str) == "own_literals") = false := by decide +kernel
  unfold fi_Query F_Query___init__
  simp! only []
  refine require_seq_wp h hx (fun h1 => ?_) fun p i h1 => ?_
  · obtain ⟨⟨n1, n8⟩, hl⟩ := litsBad_ok h1
    have hk : ∀ y ∈ xs, ∀ t ∈ litTerms y, Kn t := fun y hy t ht => tm_kn (hx y hy) (hl y hy) ht
    have hv := vars_len hl n8
    simp! only [fn_variables_in_eq h hl (by omega) hk, dLen, List.length_map]
    by_cases h5 : (5 : Int) < ((varsOf xs).length : Int)
    · have h5' : 5 < (varsOf xs).length := by omega
      simp! only [h5]
      exact no _ _ (by simp only [qBad, h1, h5', if_true])
    · have h5' : ¬ 5 < (varsOf xs).length := by omega
      simp! only [h5, isN_eq, not_is_true]
      have bad : isNon d = false → isOrd d (varsOf xs) = false → E "InvalidQuery" (iqf "order" (-1)) s := fun a b => no _ _ (by simp only [qBad, h1, h5', if_false, a, b, and_self, if_true])
      have fine : isNon d = true ∨ isOrd d (varsOf xs) = true → Qs (.ins "Query" (qFs xs d)) s := fun z => ok (by
        simp only [qBad, h1, h5', if_false]
        rw [if_neg]
        rintro ⟨a, b⟩
        rw [a, b] at z
        exact z.elim (fun z => nomatch z) (fun z => nomatch z))
      have rest : isNon d = true ∨ isOrd d (varsOf xs) = true → fn_query_text [.lst xs, if isNon d = true then D.tup ((varsOf xs).map D.str) else d] s = .ok (.str (qText xs (ordL xs d))) s := fun z => by
        obtain ⟨e, hn, hp⟩ := ordL_ok hl z
        rw [e]
        exact fn_query_text_eq hl n8 (fun v hv => nm_len (hn v hv)) (by have := hp.length_eq; omega) hk
      cases hn : isNon d with
      | true =>
        obtain ⟨e, _, _⟩ := ordL_ok hl (.inl hn)
        have r := rest (.inl hn)
        rw [hn, if_pos rfl] at r e
        rw [e] at r
        simp! only [hn, list_sq h, isN_eq, not_is_false, not_is_true, dTuple, e, putD, f1, f2, f3, List.lookup_cons, g1, g2, r, beq_self_eq_true]
        exact fine (.inl hn)
      | false =>
        simp! only [fn_is_order_eq hd (by omega : (varsOf xs).length ≤ 1000), hn]
        cases ho : isOrd d (varsOf xs) with
        | true =>
          obtain ⟨e, _, _⟩ := ordL_ok hl (.inr ho)
          have r := rest (.inr ho)
          rw [hn, if_neg (by decide)] at r e
          simp! only [hn, list_sq h, isN_eq, not_is_false, not_is_true, dTuple, putD, f1, f2, f3, List.lookup_cons, g1, g2, beq_self_eq_true, r]
          have ff := fine (.inr ho)
          unfold qFs at ff
          rw [← e] at ff
          exact ff
        | false =>
          simp! only []
          exact bad hn ho
  · exact no p i (by simp only [qBad, h1])
end
end Dv

/-! P31a: what the law's own reading answers. -/
namespace Dv.P31
open PySem PySem.Spec PyProof.Rows L2 Cv Dv Dv.Sh D31
local macro_rules | `(tactic| simp! only [$a,*]) => `(tactic| simp -implicitDefEqProofs -proj only [wp_ok, wp_ex, wp_bad, wp_ite, nE, w_fC, w_fYes, w_fNil, w_fNone, w_fDctN, kVar_val, w_fVar, kChain1, kChain2, kChain3, kChain4, kChain5, w_fChain, w_asB, kRefM1_ref, w_fRefM, kListN1_lst, kListN1_tup, w_fListN, w_fMeth, kMeth2, w_fProp, w_fLenO, kLenO2_int, kFmt1_str, kFmt1_int, w_fFmt, kJs1_str, w_fJsN, w_fJs, o_seq, o_expr, o_ret, o_set, o_if, o_asg, o_par, o_raise, o_setN, o_try, o_for, o_forL, o_fnB, o_fnI, kThen, kNx, kExE, kSet, kIf, kAsg, kAsg'_some, kPar_two, kRaise, kSetN, kOwnM, kOwnM'_some, kTry, kFor, kForL, kFnN, kF2, kFnE, kF3, kSelf', kComp1, kComp2, w_fComp, owp_nx, owp_rt, owp_bk, owp_ct, owp_ex, owp_bad, owp_ite, owp_skip, owp_retN, owp_break, owp_continue, gN_eq, gNil_eq, gCons_eq, oBind_some, gTup_eq, dAdd, dSub, dMul, dMulT, dFdiv, dMod, dPow, dShl, dShr, dBand, dNeg, dCmp, dIsN, dAbs, dMax2, dMin2, dInt, isSt, itemsOf, asI, startE, startI, Sl.blk, wipeE, soD, fPut, List.set_cons_zero, List.set_cons_succ, List.getElem?_cons_zero, List.getElem?_cons_succ, List.map_cons, List.map_nil, List.length_cons, List.length_nil, List.nil_append, List.cons_append, List.append_nil, List.replicate, List.length_set, Nat.zero_add, Nat.succ_sub_succ_eq_sub, Nat.sub_zero, Nat.sub_self, Nat.reduceAdd, Nat.reduceSub, if_true, if_false, Bool.not_true, Bool.not_false, Bool.false_eq_true, eq_self, decide_true, decide_false, ite_true, ite_false, and_true, true_and, and_self, Int.reduceLT, Int.reduceLE, Int.reduceNeg, Int.reduceAdd, Int.reduceSub, Int.reduceMul, Int.reducePow, Int.reduceEq, Int.reduceNe, Int.reduceToNat, Nat.reduceLT, Nat.reducePow, Nat.reduceMul, Nat.reduceEqDiff, Nat.reduceLeDiff, natAbs_lit, Int.natAbs_neg, or_true, true_or, ks_nx, ks_rt, ks_bk, ks_ct, ks_ex, le_size, kOwnA_own, o_ownMA, kPutO3_some, kPutO2_int, kPutO1, kPutO0_own, o_putOwnA, kFrz0_own, kFrz0_val, kFrz0_no, o_frzSA, kSelfA_own, o_selfPutA, kLook_some, kSelfG_own, w_fSelf, kLenOwn_own, w_fLenOwn, kInOwn2_own, kInOwn1, w_fInOwn, kErr1_err, w_fErr, kOr3_some, kErrIs1_err, w_fErrIs, kHdN, kF5, kHand_true, kHand_false, o_handN, o_hand, Sl.clr, clrE, isNon_non, isNon_bl, isNon_int, isNon_str, isNon_lst, isNon_tup, isNon_dct, isNon_ref, isNon_ins, List.mem_cons, List.mem_nil_iff, or_false, false_or, kOp2, kOp1, w_fOp, kUn1, w_fUn, kT1, w_fT, kAnd1, w_fAnd, kOr1, w_fOr, kNot1, w_fNot, kAndV1, w_fAndV, kOrV1, w_fOrV, kNotV1, w_fNotV, kIte1, w_fIte, kCons2, kCons1, w_fCons, kLst1, w_fLst, kTup1, w_fTup, kCall1, w_fCall, kCallD1, w_fCallD, kStrM2, kStrM1, w_fStrM, kIt1, w_fIt, kRng1, w_fRng, kSome1, w_fSome, kSl3, kSl2, kSl1, w_fSl, kFrz1, w_fFrz, kRef1, w_fRef, kLstN1, w_fLstN, kPutE3, kPutE2, kPutE1, w_fPutE, kItL1, w_fItL, kEnumL1, w_fEnumL, kMake1, w_fMake, kMakeK2, kMakeK1, w_fMakeK, $a,*])
section
variable {s : Store} {Q : D → Store → Prop} {E : Str → List (Str × D) → Store → Prop}
theorem in_ints {k : Bool} {n : Int} (ys : List Int) : dIn k (.int n) (.lst (ys.map D.int)) s = .ok (.bl ((decide (n ∈ ys)) != k)) s := by
  have e2 : toPys (ys.map D.int) = some (ys.map PyData.int) := by
    induction ys with
    | nil => rfl
    | cons y ys ih => simp only [List.map_cons, toPys, toPy, ih]
  have e3 : ((ys.map PyData.int).any fun z => PyData.eqv z (.int n)) = decide (n ∈ ys) := by
    rw [List.any_map, Bool.eq_iff_iff]
    simp only [List.any_eq_true, Function.comp, PyData.eqv, beq_iff_eq, decide_eq_true_eq]
    exact ⟨fun ⟨x, h, e⟩ => e ▸ h, fun h => ⟨n, h, rfl⟩⟩
  simp only [dIn, inO, derL, toPy, e2, PyData.depth, Nat.zero_le, if_true, e3]
theorem title_eq {d : D} (h : Kn d) (hl : Dv.Sh d) : fn__law_is_title [d] s = .ok (.bl (isNm d)) s := by
  unfold fn__law_is_title F__law_is_title
  refine eq_of_wp ?_
  cases d with
  | str z =>
    have hz := hl z rfl
    have e1 := in_strsL (s := s) (k := false) (pl_str (b := z)) ["", "not", "by"]
    simp only [List.map_cons, List.map_nil, List.any_cons, List.any_nil, Bool.or_false, not_is_false] at e1
    have z0 : isS "" (.str z) = decide (z.length = 0) := by
      rw [Bool.eq_iff_iff]
      simp only [isS, beq_iff_eq, decide_eq_true_eq]
      constructor
      · rintro rfl
        decide +kernel
      · intro h
        have h2 : z.cps.toList.length = 0 := h
        rw [txt_of z, List.length_eq_zero_iff.mp h2]
        decide +kernel
    simp! only [is_str h, isStr_str, dLen, hz, e1]
    have hz2 : (z.cps.toList.map chD).length < sizeLine → z.length ≤ 8 → True := fun _ _ => trivial
    cases h3 : (isS "not" (.str z) || isS "by" (.str z)) with
    | true => simp! only [isNm, h3, Bool.or_true, Bool.and_false, Bool.false_and]
    | false =>
      simp! only [z0, Bool.or_false]
      by_cases h0 : z.length = 0
      · have h4 : decide (1 ≤ z.length ∧ z.length ≤ 8) = false := decide_eq_false (by omega)
        simp! only [h0, isNm, h4, Bool.false_and]
      · by_cases h8 : (8 : Int) < z.length
        · have h4 : decide (1 ≤ z.length ∧ z.length ≤ 8) = false := decide_eq_false (by omega)
          simp! only [h0, h8, isNm, h4, Bool.false_and]
        · have hz3 : (z.cps.toList.map chD).length < sizeLine := by
            rw [List.length_map]
            have : z.length = z.cps.toList.length := rfl
            rw [sizeLine_eq]
            omega
          simp! only [h0, h8, hz3]
          rw [compT_map (fun x => match x with | .str y => D.bl (decide (y.cps.toList.headD 0 ∈ azS.cps.toList)) | _ => .non) _ (fun x hx => by
            obtain ⟨c, _, rfl⟩ := List.mem_map.mp hx
            refine ⟨_, rfl, eq_of_wp ?_⟩
            unfold chD
            simp! only [in_sign]
            rw [not_is_false]
            rfl)]
          have e4 : ((z.cps.toList.map chD).map fun x => match x with | .str y => D.bl (decide (y.cps.toList.headD 0 ∈ azS.cps.toList)) | _ => .non) = z.cps.toList.map fun c => D.bl (decide (c ∈ azS.cps.toList)) := by
            rw [List.map_map]
            rfl
          rw [e4]
          have e5 := all_map (s := s) (xs := z.cps.toList) (p := fun c => decide (c ∈ azS.cps.toList))
          simp! only [e5]
          have h4 : decide (1 ≤ z.length ∧ z.length ≤ 8) = true := decide_eq_true (by omega)
          simp only [isNm, h3, h4, Bool.not_false, Bool.true_and]
  | _ => simp! only [is_str h, isStr, isNm]
theorem term_eq {d : D} (h : Ok1 d) : fn__law_is_term [d] s = .ok (.bl (isTm d)) s := by
  unfold fn__law_is_term F__law_is_term
  refine eq_of_wp ?_
  simp! only [is_int h.1, is_bool h.1, title_eq h.1 h.2]
  cases d with
  | int i =>
    simp! only [isTm, isNm, Bool.false_or]
    by_cases h0 : 0 ≤ i
    · by_cases h1 : i < 1024
      · simp! only [h0, h1, show i ≤ 1023 by omega]
      · simp! only [h0, h1, show ¬ i ≤ 1023 by omega]
    · simp! only [h0, false_and]
  | bl b => simp! only [isTm, isNm, Bool.false_or]
  | _ => simp! only [isTm, Bool.or_false]
/-- a literal, or nearly one -/
def LitP (d : D) : Prop := LitD d ∧ ∀ xs, d = .tup xs → ∀ x ∈ xs, Pl x
theorem lit_eq {d : D} (h : LitP d) : fn__law_is_literal [d] s = .ok (.bl (isLit d)) s := by
  unfold fn__law_is_literal F__law_is_literal
  refine eq_of_wp ?_
  obtain ⟨⟨h0, h2⟩, h3⟩ := h
  cases d with
  | tup xs =>
    simp! only [is_tup h0, isTup, dLen]
    by_cases hl : xs.length = 3
    · match xs, hl with
      | [a, b, c], _ =>
        have ha := (h2 _ rfl a (by simp)).1
        have hb := (h2 _ rfl b (by simp)).1
        have hc := h2 _ rfl c (by simp)
        have e1 := in_strsL (s := s) (k := false) (h3 _ rfl a (by simp)) ["row", "none"]
        have e2 := in_strsL (s := s) (k := true) (h3 _ rfl a (by simp)) ["<", "<=", "=", "!="]
        simp only [List.map_cons, List.map_nil, List.any_cons, List.any_nil, Bool.or_false, not_is_false, not_is_true] at e1 e2
        have e1' : dIn false a (.lst [.str "row", .str "none"]) s = .ok (.bl (rowW a)) s := e1
        have e2' : dIn true a (.lst [.str "<", .str "<=", .str "=", .str "!="]) s = .ok (.bl (!cmpW a)) s := e2
        simp! only [eq_int, show ((((0 : Nat) + 1 + 1 + 1 : Nat) : Int) == 3) = true from rfl, not_is_true, e1', e2', title_eq hb.1 hb.2, is_tup hc.1.1, term_eq hb, term_eq hc.1, is_str hb.1, is_str hc.1.1]
        have ra : rowW a = true → isStr a = true := fun h => by
          rcases Bool.or_eq_true_iff.mp h with h | h <;> rw [isS_eq h] <;> rfl
        have ca : cmpW a = true → isStr a = true := fun h => by
          rcases Bool.or_eq_true_iff.mp h with h | h
          · rw [isS_eq h]; rfl
          · rcases Bool.or_eq_true_iff.mp h with h | h
            · rw [isS_eq h]; rfl
            · rcases Bool.or_eq_true_iff.mp h with h | h <;> rw [isS_eq h] <;> rfl
        cases hr : rowW a with
        | true =>
          simp! only [isLit, ra hr, hr, Bool.true_and]
          cases hb1 : isNm b with
          | false => simp! only [Bool.false_and]
          | true =>
            cases c with
            | tup ts =>
              obtain ⟨c1, c2⟩ := hc.2 ts rfl
              have e3 := in_ints (s := s) (k := true) (n := (ts.length : Int)) [1, 2, 3, 4]
              simp only [List.map_cons, List.map_nil, not_is_true] at e3
              by_cases ht : 1 ≤ ts.length ∧ ts.length ≤ 4
              · have : decide ((ts.length : Int) ∈ [(1 : Int), 2, 3, 4]) = true := decide_eq_true (by simp only [List.mem_cons, List.mem_nil_iff, or_false]; omega)
                rw [this] at e3
                simp! only [isTup, dLen, e3, c1]
                rw [compT_map (fun x => .bl (isTm x)) _ (fun x hx => by
                  refine ⟨_, rfl, eq_of_wp ?_⟩
                  simp! only [term_eq (c2 x hx)])]
                simp! only [all_map]
                simp only [isTms, litTms, decide_eq_true ht, Bool.true_and]
              · have : decide ((ts.length : Int) ∈ [(1 : Int), 2, 3, 4]) = false := decide_eq_false (by simp only [List.mem_cons, List.mem_nil_iff, or_false]; omega)
                rw [this] at e3
                simp! only [isTup, dLen, e3]
                simp only [isTms, litTms, decide_eq_false ht, Bool.false_and, Bool.and_false]
            | _ => simp! only [isTup, isTms, Bool.and_false]
        | false =>
          simp only [isLit, hr]
          cases hc2 : cmpW a with
          | true =>
            simp only [ca hc2, Bool.true_and]
            cases isTm b <;> cases isTm c <;> cases isStr b <;> cases isStr c <;> rfl
          | false => cases isStr a <;> rfl
    · have e : ((xs.length : Int) == 3) = false := by
        rw [beq_eq_false_iff_ne]
        omega
      simp! only [eq_int, e, not_is_true]
      match xs, hl with
      | [], _ => rfl
      | [_], _ => rfl
      | [_, _], _ => rfl
      | [_, _, _], hl => exact absurd rfl hl
      | _ :: _ :: _ :: _ :: _, _ => rfl
  | _ => simp! only [is_tup h0, isTup, isLit]
theorem first_eq {x : D} {xs : List D} (h : Sq s x xs) (hl : ∀ y ∈ xs, isLit y = true) (hn : xs.length ≤ 1000) (hk : ∀ y ∈ xs, ∀ t ∈ litTerms y, Kn t) : fn__law_first_order [x] s = .ok (.lst ((varsOf xs).map D.str)) s := by
  unfold fn__law_first_order F__law_first_order
  obtain ⟨l, e1, l1⟩ := items_sq h
  refine eq_of_wp ?_
  simp! only [e1]
  refine turnsL_wp (fun done rest e st => s = st ∧ done ++ rest = xs ∧ ∃ a b c d, e = [Sl.val x, Sl.own (.lst ((varsOf done).map D.str)), a, b, c, d]) (fun done rest e st ⟨h1, _⟩ => h1 ▸ l1) (fun done y rest e st ⟨h1, h2, a, b, c, d, h3⟩ => ?_) xs [] _ _ ⟨rfl, rfl, _, _, _, _, rfl⟩ fun e st ⟨h1, h2, a, b, c, d, h3⟩ => ?_
  · subst h1 h3
    have hy : y ∈ xs := by rw [← h2]; simp
    obtain ⟨w, u, v, ey, h'⟩ := isLit_tup (hl y hy)
    have e2 := in_strsL (s := s) (k := false) (pl_str (b := w)) ["row", "none"]
    simp only [List.map_cons, List.map_nil, List.any_cons, List.any_nil, Bool.or_false, not_is_false] at e2
    have e2' : dIn false (.str w) (.lst [.str "row", .str "none"]) s = .ok (.bl (rowW (.str w))) s := e2
    have e3 : (fIte (fT (fOp (dIn false) (fVar 2) (fLst (fCons (fC (.str "row")) (fCons (fC (.str "none")) fNil))))) (fCall dList (fCons (fVar 4) fNil)) (fLst (fCons (fVar 3) (fCons (fVar 4) fNil)))) [Sl.val x, Sl.own (.lst ((varsOf done).map D.str)), .val (.str w), .val u, .val v, d] s = .ok (.lst (litTerms y)) s := by
      refine eq_of_wp ?_
      simp! only [e2']
      cases hr : rowW (.str w) with
      | true =>
        obtain ⟨ts, rfl, _⟩ := row_tup (ey ▸ hl y hy) hr
        simp! only [dList, ey, litTerms, row_not_cmp hr]
      | false =>
        obtain ⟨hc, _⟩ := cmp_terms (ey ▸ hl y hy) hr
        simp! only [ey, litTerms, hc]
    rw [ey]
    simp! only [w_fIt, e3]
    rw [← ey]
    refine turns_wp (fun done2 rest2 e st => s = st ∧ done2 ++ rest2 = litTerms y ∧ ∃ b, e = [Sl.val x, Sl.own (.lst ((done2.foldl addV (varsOf done)).map D.str)), .val (.str w), .val u, .val v, b]) (fun done2 t rest2 e st ⟨g1, g2, b, g3⟩ => ?_) (litTerms y) [] _ _ ⟨rfl, rfl, d, rfl⟩ fun e st ⟨g1, g2, b, g3⟩ => ?_
    · subst g1 g3
      have ht : t ∈ litTerms y := by rw [← g2]; simp
      simp! only [is_str (hk y hy t ht)]
      cases t with
      | str z =>
        have lf : (done2.foldl addV (varsOf done)).length < sizeLine := by
          have q1 := addVs_len (ts := done2) (f := varsOf done)
          have q2 := addVs_len (ts := done.flatMap litTerms) (f := [])
          have q3 := flat_len fun z hz => hl z (h2 ▸ List.mem_append_left _ hz)
          have q4 := congrArg List.length h2
          have q5 := congrArg List.length g2
          have q6 := litTerms_len (hl y hy)
          simp only [List.length_append, List.length_cons, List.length_nil] at q2 q4 q5
          have q7 : (varsOf done).length ≤ 0 + (done.flatMap litTerms).length := q2
          rw [sizeLine_eq]
          omega
        simp! only [isStr_str, mem_strs]
        by_cases hz : z ∈ done2.foldl addV (varsOf done)
        · simp! only [hz]
          refine ⟨by rw [List.append_assoc]; exact g2, .val (.str z), ?_⟩
          simp only [List.foldl_append, List.foldl_cons, List.foldl_nil, addV, hz, if_true]
        · simp! only [hz, lAppend, List.length_map, lf]
          refine ⟨by rw [List.append_assoc]; exact g2, .val (.str z), ?_⟩
          simp only [List.foldl_append, List.foldl_cons, List.foldl_nil, addV, hz, if_false, List.map_append, List.map_cons, List.map_nil]
      | _ =>
        simp! only [isStr]
        exact ⟨by rw [List.append_assoc]; exact g2, _, by rw [List.foldl_append]; rfl⟩
    · subst g1 g3
      simp! only []
      refine ⟨by rw [List.append_assoc]; exact h2, .val (.str w), .val u, .val v, b, ?_⟩
      simp only [varsOf, List.flatMap_append, List.flatMap_cons, List.flatMap_nil, List.append_nil, List.foldl_append, List.nil_append]
  · subst h1 h3
    simp! only []
/-- what is wrong, as data -/
def probD (o : Option (Str × Int)) : D := match o with
  | some (p, i) => .lst [.str p, .int i]
  | none => .non
theorem enumF_inj : ∀ {a b : List D} {i : Nat}, enumF i a = enumF i b → a = b
  | [], [], _, _ => rfl
  | [], _ :: _, _, h => nomatch h
  | _ :: _, [], _, h => nomatch h
  | x :: a, y :: b, i, h => by
    simp only [enumF, List.cons.injEq, D.tup.injEq, and_true, true_and] at h
    rw [h.1, enumF_inj h.2]
theorem badLit_at : ∀ {d : List D} {z : D} {r : List D} {i : Nat}, badLit i d = none → isLit z = false → badLit i (d ++ z :: r) = some (i + d.length)
  | [], z, r, i, _, h => by simp only [List.nil_append, badLit, h, Bool.false_eq_true, if_false, List.length_nil, Nat.add_zero]
  | y :: d, z, r, i, h, h2 => by
    unfold badLit at h
    split at h
    · rename_i hy
      have := badLit_at (r := r) h h2
      simp only [List.cons_append, badLit, hy, if_true, this, List.length_cons]
      congr 1
      omega
    · cases h
theorem problem_eq {x d : D} {xs : List D} (h : Sq s x xs) (hx : ∀ y ∈ xs, LitP y) (hd : OrdD d) : fn__law_problem [x, d] s = .ok (probD (qBad (some xs) d)) s := by
  unfold fn__law_problem F__law_problem
  obtain ⟨l, e1, l1⟩ := enum_sq h
  refine eq_of_wp ?_
  have e3 := in_ints (s := s) (k := true) (n := (xs.length : Int)) [1, 2, 3, 4, 5, 6, 7, 8]
  simp only [List.map_cons, List.map_nil, not_is_true] at e3
  by_cases h3 : 1 ≤ xs.length ∧ xs.length ≤ 8
  · have : decide ((xs.length : Int) ∈ [(1 : Int), 2, 3, 4, 5, 6, 7, 8]) = true := decide_eq_true (by simp only [List.mem_cons, List.mem_nil_iff, or_false]; omega)
    rw [this] at e3
    simp! only [isLT_sq h, len_sq h, e3, e1]
    refine turnsL_wp (fun done rest e st => s = st ∧ done ++ rest = enumF 0 xs ∧ (∃ d, done = enumF 0 d ∧ badLit 0 d = none) ∧ ∃ a b, e = [Sl.val x, Sl.val d, a, b, .no, .no, .no]) (fun done rest e st ⟨h1, _⟩ => h1 ▸ l1) (fun done y rest e st ⟨g1, g2, ⟨d0, g4, g5⟩, a, b, g3⟩ => ?_) _ [] _ _ ⟨rfl, rfl, ⟨[], rfl, rfl⟩, _, _, rfl⟩ fun e st ⟨g1, g2, ⟨d0, g4, g5⟩, a, b, g3⟩ => ?_
    · subst g1 g3
      obtain ⟨d1, z, r, q1, q2, q3, q4⟩ := enumF_split g2.symm
      rw [Nat.zero_add] at q2 q4
      subst q2
      have hd : d1 = d0 := enumF_inj (q3.symm.trans g4)
      subst hd
      have hz := hx z (by rw [q1]; simp)
      simp! only [lit_eq hz]
      cases hl : isLit z with
      | true =>
        simp! only []
        exact ⟨by rw [List.append_assoc]; exact g2, ⟨d1 ++ [z], by rw [enumF_snoc, g4, Nat.zero_add], by rw [badLit_snoc g5, if_pos hl]⟩, .val (.int (d1.length : Int)), .val z, rfl⟩
      | false =>
        simp! only []
        have e4 : litsBad (some xs) = some (("literal" : Str), (d1.length : Int)) := by
          simp only [litsBad, h3, and_self, if_true]
          rw [q1, badLit_at g5 hl, Nat.zero_add]
        simp only [qBad, e4, probD]
    · subst g1 g3
      have hd0 : xs = d0 := enumF_inj (by rw [← g4]; simpa using g2.symm)
      subst hd0
      have e4 : litsBad (some xs) = none := by simp only [litsBad, h3, and_self, if_true, g5]
      obtain ⟨⟨n1, n8⟩, hl⟩ := litsBad_ok e4
      have hk : ∀ y ∈ xs, ∀ t ∈ litTerms y, Kn t := fun y hy t ht => tm_kn (hx y hy).1 (hl y hy) ht
      have hv := vars_len hl n8
      simp! only [first_eq h hl (by omega) hk, dLen, List.length_map]
      by_cases h5 : (5 : Int) < ((varsOf xs).length : Int)
      · have h5' : 5 < (varsOf xs).length := by omega
        simp! only [h5, qBad, e4, h5', probD]
      · have h5' : ¬ 5 < (varsOf xs).length := by omega
        simp! only [h5, isN_eq, not_is_false]
        cases hn : isNon d with
        | true => simp! only [qBad, e4, h5', hn, probD, Bool.true_eq_false, false_and]
        | false =>
          simp! only [is_tup hd.1, eq_int, not_is_false]
          cases d with
          | tup ys =>
            simp! only [isTup]
            cases h1 : ((ys.length : Int) == (varsOf xs).length) with
            | true =>
              simp! only [dLen, h1, eq_int, not_is_false, List.length_map, show (varsOf xs).length < sizeLine by (rw [sizeLine_eq]; omega)]
              rw [compT_map (fun x => .bl (match x with | .str a => ys.any (isS a) | _ => false)) _ (fun x hx => by
                obtain ⟨a, _, rfl⟩ := List.mem_map.mp hx
                refine ⟨_, rfl, eq_of_wp ?_⟩
                simp! only [str_in (hd.2 ys rfl), not_is_false])]
              rw [List.map_map]
              have e5 := all_map (s := s) (xs := varsOf xs) (p := fun a => ys.any (isS a))
              simp! only [show ((fun x : D => D.bl (match x with | .str a => ys.any (isS a) | _ => false)) ∘ D.str) = fun a => D.bl (ys.any (isS a)) from rfl, e5]
              have e6 : isOrd (.tup ys) (varsOf xs) = (varsOf xs).all fun v => ys.any (isS v) := by simp only [isOrd, h1, Bool.true_and]
              cases h2 : ((varsOf xs).all fun v => ys.any (isS v)) with
              | true => simp! only [qBad, e4, h5', hn, e6, h2, probD, Bool.true_eq_false, and_false]
              | false => simp! only [qBad, e4, h5', hn, e6, h2, probD]
            | false =>
              have e6 : isOrd (.tup ys) (varsOf xs) = false := by simp only [isOrd, h1, Bool.false_and]
              simp! only [dLen, h1, eq_int, not_is_false, List.length_map, qBad, e4, h5', hn, e6, probD]
          | _ =>
            simp! only [isTup, qBad, e4, h5', hn, isOrd, probD]
  · have : decide ((xs.length : Int) ∈ [(1 : Int), 2, 3, 4, 5, 6, 7, 8]) = false := decide_eq_false (by simp only [List.mem_cons, List.mem_nil_iff, or_false]; omega)
    rw [this] at e3
    simp! only [isLT_sq h, len_sq h, e3]
    simp only [qBad, litsBad, h3, if_false, probD]
end
end Dv.P31

/-! P31b: a query is made as the law says. -/
namespace Dv.P31
open PySem PySem.Spec PyProof.Rows L2 Cv Dv Dv.Sh D31
local macro_rules | `(tactic| simp! only [$a,*]) => `(tactic| simp -implicitDefEqProofs -proj only [wp_ok, wp_ex, wp_bad, wp_ite, nE, w_fC, w_fYes, w_fNil, w_fNone, w_fDctN, kVar_val, w_fVar, kChain1, kChain2, kChain3, kChain4, kChain5, w_fChain, w_asB, kRefM1_ref, w_fRefM, kListN1_lst, kListN1_tup, w_fListN, w_fMeth, kMeth2, w_fProp, w_fLenO, kLenO2_int, kFmt1_str, kFmt1_int, w_fFmt, kJs1_str, w_fJsN, w_fJs, o_seq, o_expr, o_ret, o_set, o_if, o_asg, o_par, o_raise, o_setN, o_try, o_for, o_forL, o_fnB, o_fnI, kThen, kNx, kExE, kSet, kIf, kAsg, kAsg'_some, kPar_two, kRaise, kSetN, kOwnM, kOwnM'_some, kTry, kFor, kForL, kFnN, kF2, kFnE, kF3, kSelf', kComp1, kComp2, w_fComp, owp_nx, owp_rt, owp_bk, owp_ct, owp_ex, owp_bad, owp_ite, owp_skip, owp_retN, owp_break, owp_continue, gN_eq, gNil_eq, gCons_eq, oBind_some, gTup_eq, dAdd, dSub, dMul, dMulT, dFdiv, dMod, dPow, dShl, dShr, dBand, dNeg, dCmp, dIsN, dAbs, dMax2, dMin2, dInt, isSt, itemsOf, asI, startE, startI, Sl.blk, wipeE, soD, fPut, List.set_cons_zero, List.set_cons_succ, List.getElem?_cons_zero, List.getElem?_cons_succ, List.map_cons, List.map_nil, List.length_cons, List.length_nil, List.nil_append, List.cons_append, List.append_nil, List.replicate, List.length_set, Nat.zero_add, Nat.succ_sub_succ_eq_sub, Nat.sub_zero, Nat.sub_self, Nat.reduceAdd, Nat.reduceSub, if_true, if_false, Bool.not_true, Bool.not_false, Bool.false_eq_true, eq_self, decide_true, decide_false, ite_true, ite_false, and_true, true_and, and_self, Int.reduceLT, Int.reduceLE, Int.reduceNeg, Int.reduceAdd, Int.reduceSub, Int.reduceMul, Int.reducePow, Int.reduceEq, Int.reduceNe, Int.reduceToNat, Nat.reduceLT, Nat.reducePow, Nat.reduceMul, Nat.reduceEqDiff, Nat.reduceLeDiff, natAbs_lit, Int.natAbs_neg, or_true, true_or, ks_nx, ks_rt, ks_bk, ks_ct, ks_ex, le_size, kOwnA_own, o_ownMA, kPutO3_some, kPutO2_int, kPutO1, kPutO0_own, o_putOwnA, kFrz0_own, kFrz0_val, kFrz0_no, o_frzSA, kSelfA_own, o_selfPutA, kLook_some, kSelfG_own, w_fSelf, kLenOwn_own, w_fLenOwn, kInOwn2_own, kInOwn1, w_fInOwn, kErr1_err, w_fErr, kOr3_some, kErrIs1_err, w_fErrIs, kHdN, kF5, kHand_true, kHand_false, o_handN, o_hand, Sl.clr, clrE, isNon_non, isNon_bl, isNon_int, isNon_str, isNon_lst, isNon_tup, isNon_dct, isNon_ref, isNon_ins, List.mem_cons, List.mem_nil_iff, or_false, false_or, kOp2, kOp1, w_fOp, kUn1, w_fUn, kT1, w_fT, kAnd1, w_fAnd, kOr1, w_fOr, kNot1, w_fNot, kAndV1, w_fAndV, kOrV1, w_fOrV, kNotV1, w_fNotV, kIte1, w_fIte, kCons2, kCons1, w_fCons, kLst1, w_fLst, kTup1, w_fTup, kCall1, w_fCall, kCallD1, w_fCallD, kStrM2, kStrM1, w_fStrM, kIt1, w_fIt, kRng1, w_fRng, kSome1, w_fSome, kSl3, kSl2, kSl1, w_fSl, kFrz1, w_fFrz, kRef1, w_fRef, kLstN1, w_fLstN, kPutE3, kPutE2, kPutE1, w_fPutE, kItL1, w_fItL, kEnumL1, w_fEnumL, kMake1, w_fMake, kMakeK2, kMakeK1, w_fMakeK, $a,*])
section
variable {s : Store} {Q : D → Store → Prop} {E : Str → List (Str × D) → Store → Prop}
theorem seq_cases {x : D} {k w : Nat} (h : Sm k w x) : (∃ xs, Sq s x xs ∧ (x = .lst xs ∨ x = .tup xs)) ∨ (dIs ["list", "tuple"] x s = .ok (.bl false) s ∧ seqD s x = none) := by
  obtain ⟨p, e, _⟩ := h
  cases x <;> first | exact .inl ⟨_, .lst, .inl rfl⟩ | exact .inl ⟨_, .tup, .inr rfl⟩ | exact .inr ⟨rfl, rfl⟩ | (simp [toPyQ] at e; done)
theorem seqD_sq {x : D} {xs : List D} (h : Sq s x xs) : seqD s x = some xs := by
  cases h with
  | lst => rfl
  | tup => rfl
  | ref h => simp only [seqD, h]
/-- what is wrong with x and d -/
def bad (x d : D) : Option (Str × Int) := qBad (seqD [] x) d
/-- things that the law asks about -/
structure Th (x : D) (w : Nat) : Prop where
  sm : Sm 8 w x
  lit : ∀ xs, (x = .lst xs ∨ x = .tup xs) → ∀ y ∈ xs, LitP y
theorem bad_sq {x d : D} {xs : List D} (h : x = .lst xs ∨ x = .tup xs) : bad x d = qBad (some xs) d := by
  rcases h with rfl | rfl <;> rfl
theorem bad_no {x d : D} (h : seqD s x = none) (hr : ∀ n, x ≠ .ref n) : bad x d = some (("literals" : Str), -1) := by
  have : seqD [] x = none := by
    cases x <;> first | rfl | exact h | exact absurd rfl (hr _)
  simp only [bad, this, qBad, litsBad]
theorem sm_noref {x : D} {k w : Nat} (h : Sm k w x) : ∀ n, x ≠ .ref n := by
  rintro n rfl
  obtain ⟨p, e, _⟩ := h
  simp [toPyQ] at e
/-- Query(x, d) -/
theorem make_wp {x d : D} {w : Nat} {Qs : SO → Store → Prop} (h : Th x w) (hd : OrdD d) (ok : ∀ xs, (x = .lst xs ∨ x = .tup xs) → bad x d = none → Qs (.ins "Query" (qFs xs d)) s) (no : ∀ p i, bad x d = some (p, i) → E "InvalidQuery" (iqf p i) s) : (fi_Query [x, d] s).wp Qs E := by
  rcases seq_cases (s := s) h.sm with ⟨xs, h1, h2⟩ | ⟨h1, h2⟩
  · rw [bad_sq h2] at ok no
    exact query_wp h1 (fun y hy => (h.lit xs h2 y hy).1) hd (ok xs h2) no
  · unfold fi_Query F_Query___init__
    simp! only []
    exact require_no_wp h1 (no _ _ (bad_no h2 (sm_noref h.sm)))
theorem prob_eq {x d : D} {w : Nat} (h : Th x w) (hd : OrdD d) : fn__law_problem [x, d] s = .ok (probD (bad x d)) s := by
  rcases seq_cases (s := s) h.sm with ⟨xs, h1, h2⟩ | ⟨h1, h2⟩
  · rw [bad_sq h2]
    exact problem_eq h1 (h.lit xs h2) hd
  · unfold fn__law_problem F__law_problem
    refine eq_of_wp ?_
    simp! only [h1]
    rw [bad_no h2 (sm_noref h.sm)]
    rfl
/-- what is told of Query(x, d) -/
def told (x d : D) : D := match bad x d with
  | some (p, i) => .lst [.str "refused", .lst [.str p, .int i]]
  | none => match seqD [] x with
    | some xs => .lst [.str "made", .lst xs, .tup ((ordL xs d).map D.str), .int xs.length]
    | none => .non
theorem seqD_of {x : D} {xs : List D} (h : x = .lst xs ∨ x = .tup xs) : seqD s x = some xs := by
  rcases h with rfl | rfl <;> rfl
theorem told_made {x d : D} {xs : List D} (h : x = .lst xs ∨ x = .tup xs) (hb : bad x d = none) : told x d = .lst [.str "made", .lst xs, .tup ((ordL xs d).map D.str), .int xs.length] := by
  simp only [told, hb, seqD_of h]
theorem told_refused {x d : D} {p : Str} {i : Int} (hb : bad x d = some (p, i)) : told x d = .lst [.str "refused", .lst [.str p, .int i]] := by
  simp only [told, hb]
theorem lits_eq {xs : List D} {d : D} : fn_Query_literals [.ins "Query" (qFs xs d)] s = .ok (.lst xs) s := by
  unfold fn_Query_literals F_Query_literals
  refine eq_of_wp ?_
  simp! only [attrD, qFs, List.lookup_cons, beq_self_eq_true, dList]
theorem vars_eq {xs : List D} {d : D} : fn_Query_variables [.ins "Query" (qFs xs d)] s = .ok (.tup ((ordL xs d).map D.str)) s := by
  have g1 : (("own_order" : Str) == "own_literals") = false := by decide +kernel
  unfold fn_Query_variables F_Query_variables
  refine eq_of_wp ?_
  simp! only [attrD, qFs, List.lookup_cons, g1, beq_self_eq_true]
theorem len_eq {xs : List D} {d : D} : fn_Query___len__ [.ins "Query" (qFs xs d)] s = .ok (.int xs.length) s := by
  unfold fn_Query___len__ F_Query___len__
  refine eq_of_wp ?_
  simp! only [attrD, qFs, List.lookup_cons, beq_self_eq_true, dLen]
theorem ins_q {xs : List D} {d : D} : insOf (.ins "Query" (qFs xs d)) s = some (("Query" : Str), qFs xs d) := rfl
theorem no_meth {xs : List D} {d : D} : ((qFs xs d).lookup ("literals" : Str)).isNone = true := by
  have g1 : (("literals" : Str) == "own_literals") = false := by decide +kernel
  have g2 : (("literals" : Str) == "own_order") = false := by decide +kernel
  have g3 : (("literals" : Str) == "own_text") = false := by decide +kernel
  simp only [qFs, List.lookup_cons, g1, g2, g3, List.lookup_nil, Option.isNone_none]
theorem th_len {x : D} {w : Nat} {xs : List D} (h : Th x w) (hx : x = .lst xs ∨ x = .tup xs) (hb : bad x d = none) : xs.length ≤ 8 := by
  rw [bad_sq hx] at hb
  unfold qBad at hb
  split at hb
  · cases hb
  · rename_i h1
    exact (litsBad_ok h1).1.2
theorem told_eq {x d : D} {w : Nat} {i : Int} (h : Th x w) (hd : OrdD d) (h0 : 0 ≤ i) (h3 : i < 3) : fn__law_told [x, d, .int i] s = .ok (told x d) s := by
  have g1 : (("problem" : Str) == "position") = false := by decide +kernel
  have made : ∀ xs, (x = .lst xs ∨ x = .tup xs) → bad x d = none → (0 : Int) ≤ xs.length ∧ (xs.length : Int) < 9223372036854775808 := by
    intro xs hx hb
    have hl := th_len h hx hb
    omega
  unfold fn__law_told F__law_told
  refine eq_of_wp ?_
  obtain rfl | rfl | rfl : i = 0 ∨ i = 1 ∨ i = 2 := by omega
  · simp! only [eq_int, not_is_false, beq_self_eq_true]
    refine make_wp h hd (fun xs hx hb => ?_) fun p j hb => ?_
    · obtain ⟨n1, n2⟩ := made xs hx hb
      simp! only [kMeth1_of ins_q, no_meth, lits_eq, kProp1_of ins_q, vars_eq, kLenO1_of ins_q, len_eq, n1, n2, told_made hx hb]
    · simp! only [List.lookup_cons, beq_self_eq_true, iqf, List.isEmpty_cons, g1, told_refused hb]
  · simp! only [eq_int, not_is_false, beq_self_eq_true, show ((1 : Int) == 0) = false from rfl, gP, List.getElem?_cons_zero, List.getElem?_cons_succ, List.filterMap_cons, List.filterMap_nil]
    refine make_wp h hd (fun xs hx hb => ?_) fun p j hb => ?_
    · obtain ⟨n1, n2⟩ := made xs hx hb
      simp! only [kMeth1_of ins_q, no_meth, lits_eq, kProp1_of ins_q, vars_eq, kLenO1_of ins_q, len_eq, n1, n2, told_made hx hb]
    · simp! only [List.lookup_cons, beq_self_eq_true, iqf, List.isEmpty_cons, g1, told_refused hb]
  · simp! only [eq_int, not_is_false, isN_eq, show ((2 : Int) == 0) = false from rfl, show ((2 : Int) == 1) = false from rfl]
    cases hn : isNon d with
    | true =>
      obtain rfl : d = .non := by cases d <;> first | rfl | cases hn
      simp! only []
      refine make_wp h hd (fun xs hx hb => ?_) fun p j hb => ?_
      · obtain ⟨n1, n2⟩ := made xs hx hb
        simp! only [kMeth1_of ins_q, no_meth, lits_eq, kProp1_of ins_q, vars_eq, kLenO1_of ins_q, len_eq, n1, n2, told_made hx hb]
      · simp! only [List.lookup_cons, beq_self_eq_true, iqf, List.isEmpty_cons, g1, told_refused hb]
    | false =>
      simp! only [gP, List.getElem?_cons_zero, List.getElem?_cons_succ, List.filterMap_cons, List.filterMap_nil]
      refine make_wp h hd (fun xs hx hb => ?_) fun p j hb => ?_
      · obtain ⟨n1, n2⟩ := made xs hx hb
        simp! only [kMeth1_of ins_q, no_meth, lits_eq, kProp1_of ins_q, vars_eq, kLenO1_of ins_q, len_eq, n1, n2, told_made hx hb]
      · simp! only [List.lookup_cons, beq_self_eq_true, iqf, List.isEmpty_cons, g1, told_refused hb]
/-- new things only behind -/
structure Grw (s s' : Store) : Prop where
  len : s.length ≤ s'.length
  same : ∀ i, i < s.length → s'[i]? = s[i]?
theorem Grw.refl : Grw s s := ⟨Nat.le_refl _, fun _ _ => rfl⟩
theorem Grw.snoc {s' : Store} {o : SO} (h : Grw s s') : Grw s (s' ++ [o]) := ⟨by rw [List.length_append]; have := h.len; omega, fun i hi => by rw [List.getElem?_append_left (Nat.lt_of_lt_of_le hi h.len)]; exact h.same i hi⟩
theorem Grw.set {s' : Store} {o : SO} {n : Nat} (h : Grw s s') (hn : s.length ≤ n) : Grw s (s'.set n o) := ⟨by rw [List.length_set]; exact h.len, fun i hi => by rw [List.getElem?_set_ne (by omega)]; exact h.same i hi⟩
theorem snoc_at {s : Store} {o : SO} : (s ++ [o])[s.length]? = some o := by simp
theorem lits_r {xs : List D} {d : D} : fn_Query_literals_r [.ins "Query" (qFs xs d)] s = .ok (.ref s.length) (s ++ [.lst xs]) := by
  unfold fn_Query_literals_r F_Query_literals_r
  refine eq_of_wp ?_
  simp! only [attrD, qFs, List.lookup_cons, beq_self_eq_true]
mutual
theorem eqv_refl : ∀ {d : D} {p : PyData}, toPy d = some p → PyData.eqv p p = true
  | .non, _, h => by simp only [toPy] at h; cases h; simp only [PyData.eqv]
  | .bl _, _, h => by simp only [toPy] at h; cases h; simp only [PyData.eqv, beq_self_eq_true]
  | .int _, _, h => by simp only [toPy] at h; cases h; simp only [PyData.eqv, beq_self_eq_true]
  | .str _, _, h => by simp only [toPy] at h; cases h; simp only [PyData.eqv, beq_self_eq_true]
  | .lst xs, _, h => by
    simp only [toPy] at h
    obtain ⟨ps, e, rfl⟩ := Option.map_eq_some_iff.mp h
    simp only [PyData.eqv, eqvs_refl e]
  | .tup xs, _, h => by
    simp only [toPy] at h
    obtain ⟨ps, e, rfl⟩ := Option.map_eq_some_iff.mp h
    simp only [PyData.eqv, eqvs_refl e]
  | .dct _, _, h => by simp [toPy] at h
  | .ins _ _, _, h => by simp [toPy] at h
  | .ref _, _, h => by simp [toPy] at h
  | .ty _, _, h => by simp [toPy] at h
  | .rol _, _, h => by simp [toPy] at h
theorem eqvs_refl : ∀ {xs : List D} {ps : List PyData}, toPys xs = some ps → PyData.eqvAll ps ps = true
  | [], _, h => by simp only [toPys] at h; cases h; simp only [PyData.eqvAll]
  | x :: xs, _, h => by
    simp only [toPys] at h
    split at h
    · rename_i p ps e1 e2
      cases h
      simp only [PyData.eqvAll, eqv_refl e1, eqvs_refl e2, Bool.and_self]
    · cases h
end
theorem eq_same {d : D} {k : Bool} (h : Pl d) (hr : ∀ n, d ≠ .ref n) : dEq k d d s = .ok (.bl (!k)) s := by
  obtain ⟨p, e, hd⟩ := h
  have e1 : derL s d = d := by cases d <;> first | rfl | exact absurd rfl (hr _)
  simp only [dEq, eqO, e1, e, Nat.min_self, hd, if_true, eqv_refl e]
  cases k <;> rfl
/-- the depth of what == knows -/
theorem pl_of {d : D} {p : PyData} (h : toPy d = some p) (hd : p.depth ≤ 60) : Pl d := ⟨p, h, hd⟩
theorem tm_pl {t : D} (ht : isTm t = true) : ∃ p, toPy t = some p ∧ p.depth = 0 := by
  rcases isTm_cases ht with ⟨z, rfl, _, _⟩ | ⟨i, rfl, _, _⟩
  · exact ⟨_, rfl, by simp only [PyData.depth]⟩
  · exact ⟨_, rfl, by simp only [PyData.depth]⟩
theorem tms_pl : ∀ {ts : List D}, (∀ t ∈ ts, isTm t = true) → ∃ ps, toPys ts = some ps ∧ PyData.depthAll ps = 0
  | [], _ => ⟨[], rfl, by simp only [PyData.depthAll]⟩
  | t :: ts, ht => by
    obtain ⟨p, e, hp⟩ := tm_pl (ht t List.mem_cons_self)
    obtain ⟨ps, e2, hps⟩ := tms_pl fun x hx => ht x (List.mem_cons_of_mem _ hx)
    exact ⟨p :: ps, by simp only [toPys, e, e2], by simp only [PyData.depthAll, hp, hps, Nat.max_self]⟩
/-- a literal's parts are few: its depth -/
theorem lit_pl {d : D} (h : isLit d = true) : ∃ p, toPy d = some p ∧ p.depth ≤ 2 := by
  obtain ⟨w, b, c, rfl, _⟩ := isLit_tup h
  cases hr : rowW (.str w) with
  | true =>
    obtain ⟨ts, rfl, hb, _, _, ht⟩ := row_tup h hr
    obtain ⟨z, rfl, _⟩ := isNm_str hb
    obtain ⟨ps, e, hp⟩ := tms_pl ht
    exact ⟨.tuple [.str w, .str z, .tuple ps], by simp only [toPy, toPys, e, Option.map_some], by simp only [PyData.depth, PyData.depthAll, hp]; omega⟩
  | false =>
    obtain ⟨_, hb, hc⟩ := cmp_terms h hr
    obtain ⟨p, e, hp⟩ := tm_pl hb
    obtain ⟨q, e2, hq⟩ := tm_pl hc
    exact ⟨.tuple [.str w, p, q], by simp only [toPy, toPys, e, e2, Option.map_some], by simp only [PyData.depth, PyData.depthAll, hp, hq]; omega⟩
theorem lits_pl {xs : List D} (h : ∀ x ∈ xs, isLit x = true) : ∃ ps, toPys xs = some ps ∧ PyData.depthAll ps ≤ 2 := by
  induction xs with
  | nil => exact ⟨[], rfl, by simp only [PyData.depthAll]; omega⟩
  | cons t ts ih =>
    obtain ⟨p, e, hp⟩ := lit_pl (h t List.mem_cons_self)
    obtain ⟨ps, e2, hps⟩ := ih fun x hx => h x (List.mem_cons_of_mem _ hx)
    exact ⟨p :: ps, by simp only [toPys, e, e2], by simp only [PyData.depthAll]; omega⟩
theorem strs_pl {zs : List Str} : ∃ ps, toPys (zs.map D.str) = some ps ∧ PyData.depthAll ps = 0 := by
  induction zs with
  | nil => exact ⟨[], rfl, by simp only [PyData.depthAll]⟩
  | cons y ys ih =>
    obtain ⟨ps, e, hp⟩ := ih
    exact ⟨.str y :: ps, by simp only [List.map_cons, toPys, toPy, e], by simp only [PyData.depthAll, hp, PyData.depth, Nat.max_self]⟩
theorem stays_wp {xs : List D} {d : D} (hx : ∀ y ∈ xs, LitP y) (hd : OrdD d) (hb : qBad (some xs) d = none) (fin : ∀ s', Grw s s' → Q (.bl true) s') : (fn__law_stays [.lst xs, d] s).wp Q E := by
  have hb2 := hb
  unfold qBad at hb2
  split at hb2
  · cases hb2
  · rename_i h1
    obtain ⟨⟨n1, n8⟩, hl⟩ := litsBad_ok h1
    have hk : ∀ y ∈ xs, ∀ t ∈ litTerms y, Kn t := fun y hy t ht => tm_kn (hx y hy).1 (hl y hy) ht
    have hz : isNon d = true ∨ isOrd d (varsOf xs) = true := by
      dsimp only at hb2
      split at hb2
      · cases hb2
      · split at hb2
        · cases hb2
        · rename_i h2
          cases q1 : isNon d with
          | true => exact .inl rfl
          | false =>
            cases q2 : isOrd d (varsOf xs) with
            | true => exact .inr rfl
            | false => exact absurd ⟨q1, q2⟩ h2
    obtain ⟨eo, _, _⟩ := ordL_ok hl hz
    have lx : xs.length < sizeLine := by rw [sizeLine_eq]; omega
    have names : (fIte (fT (fOp (dIsN false) (fVar 1) (fC .non))) (fCall dTuple (fCons (fCallD fn__law_first_order [] (fCons (fVar 0) fNil)) fNil)) (fVar 1)) [Sl.val (.lst xs), Sl.val d, Sl.val (.ref s.length), Sl.val (.ins "Query" (qFs xs d)), Sl.no] (s ++ [.lst xs]) = .ok (.tup ((ordL xs d).map D.str)) (s ++ [.lst xs]) := by
      refine eq_of_wp ?_
      simp! only [isN_eq, not_is_false]
      cases hn : isNon d with
      | true =>
        rw [hn, if_pos rfl] at eo
        simp! only [first_eq .lst hl (by omega) hk, dTuple, eo]
      | false =>
        rw [hn, if_neg (by decide)] at eo
        simp! only []
        exact eo
    have nz : ∃ y ys, xs = y :: ys := by
      cases xs with
      | nil => simp at n1
      | cons y ys => exact ⟨y, ys, rfl⟩
    have b0 : (s ++ [SO.lst xs]).length = s.length + 1 := by simp
    have a1 : (s ++ [SO.lst xs])[s.length]? = some (.lst xs) := snoc_at
    have p1 : ∀ t, lAppend xs [t] = some (.non, xs ++ [t]) := fun t => by
      unfold lAppend
      dsimp only
      rw [if_pos lx]
    have a2 : ∀ t, ((s ++ [SO.lst xs]).set s.length (.lst (xs ++ [t])))[s.length]? = some (.lst (xs ++ [t])) := fun t => set_at (by rw [b0]; omega)
    have p2 : ∀ t, ixN (xs ++ [t]).length 0 = some 0 := fun t => by
      unfold ixN
      rw [if_pos (by omega), if_pos (by simp only [List.length_append, List.length_cons]; omega)]
      rfl
    have p3 : ∀ ys : List D, lClear ys [] = some (.non, []) := fun _ => rfl
    have p4 : ∀ t, lAppend xs [t] = some (.non, xs ++ [t]) := p1
    unfold fn__law_stays F__law_stays
    simp! only []
    refine query_wp (.ref snoc_at) (fun y hy => (hx y hy).1) hd (fun _ => ?_) fun p i h => by rw [hb] at h; cases h
    simp! only [names, lstAt_of a1, kRefM2_of a1 (p1 _), put_ref (a2 _) (p2 _)]
    generalize hs3 : List.set (List.set (s ++ [SO.lst xs]) s.length _) s.length _ = s3
    have g3 : Grw s s3 := hs3 ▸ (Grw.refl.snoc.set (Nat.le_refl _)).set (Nat.le_refl _)
    have a3 : ∀ (s : Store), (s ++ [SO.lst xs])[s.length]? = some (.lst xs) := fun s => snoc_at
    simp! only [kMeth1_of ins_q, no_meth, lits_r, lstAt_of (a3 _), kRefM2_of (a3 _) (p3 _)]
    generalize hs4 : List.set (s3 ++ [SO.lst xs]) s3.length _ = s4
    have g4 : Grw s s4 := hs4 ▸ g3.snoc.set g3.len
    have l4 : (s3 ++ [SO.lst xs]).length = s4.length := by rw [← hs4, List.length_set]
    rw [l4]
    simp! only [lstAt_of (a3 _), kRefM2_of (a3 _) (p1 _)]
    generalize hs5 : List.set (s4 ++ [SO.lst xs]) s4.length _ = s5
    have g5 : Grw s s5 := hs5 ▸ g4.snoc.set g4.len
    have m1 : (0 : Int) ≤ xs.length := by omega
    have m2 : (xs.length : Int) < 9223372036854775808 := by omega
    have pl : Pl (.lst [.lst xs, .tup ((ordL xs d).map D.str), .int xs.length]) := by
      obtain ⟨ps, e1, h1⟩ := lits_pl hl
      obtain ⟨qs, e2, h2⟩ := strs_pl (zs := ordL xs d)
      exact ⟨.list [.list ps, .tuple qs, .int xs.length], by simp only [toPy, toPys, e1, e2, Option.map_some], by simp only [PyData.depth, PyData.depthAll, h2]; omega⟩
    simp! only [kMeth1_of ins_q, no_meth, lits_eq, kProp1_of ins_q, vars_eq, kLenO1_of ins_q, len_eq, m1, m2, dLen, eq_same pl (fun _ h => nomatch h)]
    exact fin _ g5
/-! ### the law's judgement of one call -/
theorem badLit_lt : ∀ {xs : List D} {i j : Nat}, badLit i xs = some j → j < i + xs.length
  | [], _, _, h => nomatch h
  | x :: xs, i, j, h => by
    unfold badLit at h
    split at h
    · have := badLit_lt h
      simp only [List.length_cons]
      omega
    · cases h
      simp only [List.length_cons]
      omega
def words : List Str := ["literals", "literal", "variables", "order", "refused", "made"]
theorem words_sm : ∀ z ∈ words, Sm 0 9 (.str z) := by
  intro z hz
  have h : ∀ z ∈ words, z.length ≤ 9 ∧ ∀ c ∈ z.cps.toList, c < 1114112 := by decide +kernel
  exact sm_str (h z hz).1 (h z hz).2
theorem bad_cases {x d : D} {p : Str} {i : Int} (h : bad x d = some (p, i)) : p ∈ words ∧ i.natAbs < 2 ^ 39 := by
  have m : ("literals" : Str) ∈ words ∧ ("literal" : Str) ∈ words ∧ ("variables" : Str) ∈ words ∧ ("order" : Str) ∈ words := by decide +kernel
  unfold bad qBad at h
  split at h
  · rename_i e he
    cases h
    unfold litsBad at he
    split at he
    · cases he
      exact ⟨m.1, by decide⟩
    · split at he
      · rename_i hl
        split at he
        · rename_i j hj
          cases he
          have := badLit_lt hj
          exact ⟨m.2.1, by omega⟩
        · cases he
      · cases he
        exact ⟨m.1, by decide⟩
  · split at h
    · split at h
      · cases h
        exact ⟨m.2.2.1, by decide⟩
      · split at h
        · cases h
          exact ⟨m.2.2.2, by decide⟩
        · cases h
    · cases h
/-- what a good query shows -/
theorem bad_none {xs : List D} {d : D} (hb : qBad (some xs) d = none) : (1 ≤ xs.length ∧ xs.length ≤ 8) ∧ (∀ x ∈ xs, isLit x = true) ∧ (isNon d = true ∨ isOrd d (varsOf xs) = true) := by
  unfold qBad at hb
  split at hb
  · cases hb
  · rename_i h1
    obtain ⟨hn, hl⟩ := litsBad_ok h1
    refine ⟨hn, hl, ?_⟩
    dsimp only at hb
    split at hb
    · cases hb
    · split at hb
      · cases hb
      · rename_i h2
        cases q1 : isNon d with
        | true => exact .inl rfl
        | false =>
          cases q2 : isOrd d (varsOf xs) with
          | true => exact .inr rfl
          | false => exact absurd ⟨q1, q2⟩ h2
theorem az_sm {c : Nat} (h : c ∈ azS.cps.toList) : c < 1114112 := by
  have := az_of h
  unfold az at this
  omega
theorem nm_sm {z : Str} (h : isNm (.str z) = true) : Sm 0 8 (.str z) := by
  simp only [isNm, Bool.and_eq_true, decide_eq_true_eq, List.all_eq_true] at h
  exact sm_str h.1.2 fun c hc => az_sm (h.2.2 c hc)
theorem told_sm {x d : D} {w : Nat} (h : Th x w) (hd : OrdD d) : Sm 10 (w + 2000) (told x d) := by
  cases hb : bad x d with
  | some pi =>
    obtain ⟨p, i⟩ := pi
    obtain ⟨hp, hi⟩ := bad_cases hb
    rw [told_refused hb]
    refine (sm_lst (smL_cons (words_sm _ (by decide +kernel)) (smL_cons (sm_lst (smL_cons (words_sm _ hp) (smL_cons (sm_int hi) smL_nil))) smL_nil))).mono (by omega) (by omega)
  | none =>
    rcases seq_cases (s := []) h.sm with ⟨xs, h1, h2⟩ | ⟨h1, h2⟩
    · rw [told_made h2 hb]
      have hb2 := bad_sq (d := d) h2 ▸ hb
      obtain ⟨⟨n1, n8⟩, hl, hz⟩ := bad_none hb2
      obtain ⟨_, hn, hp⟩ := ordL_ok hl hz
      have hv := vars_len hl n8
      have ho := hp.length_eq
      have sx : SmL 8 w xs := by
        rcases h2 with rfl | rfl
        · exact h.sm.lst
        · exact h.sm.tup
      have so : SmL 0 (((ordL xs d).map D.str).length * (8 + 1)) ((ordL xs d).map D.str) := smL_all fun y hy => by
        obtain ⟨z, hz, rfl⟩ := List.mem_map.mp hy
        exact nm_sm (hn z hz)
      rw [List.length_map] at so
      refine (sm_lst (smL_cons (words_sm _ (by decide +kernel)) (smL_cons (sm_lst sx) (smL_cons (sm_tup so) (smL_cons (sm_int (i := xs.length) (by omega)) smL_nil))))).mono (by omega) (by omega)
    · rw [bad_no h2 (sm_noref h.sm)] at hb
      cases hb
/-- the arguments are shown -/
structure Fit (x d : D) : Prop where
  th : Th x 100000
  ord : OrdD d
  sm : Sm 8 20000 d
theorem right_wp {n : Nat} {x d : D} (hp : Pot n s) (f : Fit x d) (fin : ∀ s', Kp n s s' → Q (.bl true) s') : (fn__law_right [.ref n, x, d] s).wp Q E := by
  have r1 : ∀ s, dRepr [.lst [x, d]] s = .ok (.str (rp (.lst [x, d]))) s := fun s => by
    refine repr_sm (k := 9) (w := 130000) ?_ (by omega) (by omega)
    exact (sm_lst (smL_cons f.th.sm (smL_cons f.sm smL_nil))).mono (by omega) (by omega)
  have r2 : ∀ s, dRepr [told x d] s = .ok (.str (rp (told x d))) s := fun s => repr_sm (told_sm f.th f.ord) (by omega) (by omega)
  unfold fn__law_right F__law_right
  have pe := prob_eq (s := s) f.th f.ord
  cases hb : bad x d with
  | some pi =>
    obtain ⟨p, i⟩ := pi
    have ht := told_refused hb
    rw [hb] at pe
    simp! only [r1, pe, probD]
    refine take_wp hp (by omega) (by omega) fun i s1 i0 i1 k1 _ => ?_
    simp! only [told_eq f.th f.ord i0 i1, r2, ← ht, eq_str, not_is_true, beq_self_eq_true, r1]
    exact fin _ k1
  | none =>
    rcases seq_cases (s := s) f.th.sm with ⟨xs, h1, h2⟩ | ⟨h1, h2⟩
    · have hb2 := bad_sq (d := d) h2 ▸ hb
      obtain ⟨⟨n1, n8⟩, hl, hz⟩ := bad_none hb2
      obtain ⟨eo, hn, hp2⟩ := ordL_ok hl hz
      have hk : ∀ y ∈ xs, ∀ t ∈ litTerms y, Kn t := fun y hy t ht => tm_kn (f.th.lit xs h2 y hy).1 (hl y hy) ht
      have names : ∀ u v w, (fIte (fT (fOp (dIsN false) (fVar 2) (fC .non))) (fCall dTuple (fCons (fCallD fn__law_first_order [] (fCons (fVar 1) fNil)) fNil)) (fVar 2)) [Sl.val (.ref n), Sl.val x, Sl.val d, u, v, w, Sl.no] s = .ok (.tup ((ordL xs d).map D.str)) s := fun u v w => by
        refine eq_of_wp ?_
        simp! only [isN_eq, not_is_false]
        cases hn : isNon d with
        | true =>
          rw [hn, if_pos rfl] at eo
          simp! only [first_eq h1 hl (by omega) hk, dTuple, eo]
        | false =>
          rw [hn, if_neg (by decide)] at eo
          simp! only []
          exact eo
      have ht := told_made h2 hb
      rw [hb] at pe
      simp! only [r1, pe, show probD none = .non from rfl, not_is_false, names, list_sq h1, len_sq h1, ← ht]
      refine take_wp (m := 3) hp (by decide) (by decide) fun i s1 i0 i1 k1 _ => ?_
      simp! only [told_eq (s := s1) f.th f.ord i0 i1, r2, eq_str, not_is_true, beq_self_eq_true, r1]
      have l1 : dList [x] s1 = .ok (.lst xs) s1 := by rcases h2 with rfl | rfl <;> rfl
      simp! only [l1]
      exact stays_wp (f.th.lit xs h2) f.ord hb2 fun s2 g => fin _ ⟨Nat.le_trans k1.len g.len, fun i hi hl => (g.same i (Nat.lt_of_lt_of_le hl k1.len)).trans (k1.same i hi hl), by
        obtain ⟨a, b, e⟩ := k1.pot
        exact ⟨a, b, (g.same n (List.getElem?_eq_some_iff.mp e).1).trans e⟩⟩
    · rw [bad_no h2 (sm_noref f.th.sm)] at hb
      cases hb
end
end Dv.P31

/-! P31c: what the law draws. -/
namespace Dv.P31
open PySem PySem.Spec PyProof.Rows L2 Cv Dv Dv.Sh D31
local macro_rules | `(tactic| simp! only [$a,*]) => `(tactic| simp -implicitDefEqProofs -proj only [wp_ok, wp_ex, wp_bad, wp_ite, nE, w_fC, w_fYes, w_fNil, w_fNone, w_fDctN, kVar_val, w_fVar, kChain1, kChain2, kChain3, kChain4, kChain5, w_fChain, w_asB, kRefM1_ref, w_fRefM, kListN1_lst, kListN1_tup, w_fListN, w_fMeth, kMeth2, w_fProp, w_fLenO, kLenO2_int, kFmt1_str, kFmt1_int, w_fFmt, kJs1_str, w_fJsN, w_fJs, o_seq, o_expr, o_ret, o_set, o_if, o_asg, o_par, o_raise, o_setN, o_try, o_for, o_forL, o_fnB, o_fnI, kThen, kNx, kExE, kSet, kIf, kAsg, kAsg'_some, kPar_two, kRaise, kSetN, kOwnM, kOwnM'_some, kTry, kFor, kForL, kFnN, kF2, kFnE, kF3, kSelf', kComp1, kComp2, w_fComp, owp_nx, owp_rt, owp_bk, owp_ct, owp_ex, owp_bad, owp_ite, owp_skip, owp_retN, owp_break, owp_continue, gN_eq, gNil_eq, gCons_eq, oBind_some, gTup_eq, dAdd, dSub, dMul, dMulT, dFdiv, dMod, dPow, dShl, dShr, dBand, dNeg, dCmp, dIsN, dAbs, dMax2, dMin2, dInt, isSt, itemsOf, asI, startE, startI, Sl.blk, wipeE, soD, fPut, List.set_cons_zero, List.set_cons_succ, List.getElem?_cons_zero, List.getElem?_cons_succ, List.map_cons, List.map_nil, List.length_cons, List.length_nil, List.nil_append, List.cons_append, List.append_nil, List.replicate, List.length_set, Nat.zero_add, Nat.succ_sub_succ_eq_sub, Nat.sub_zero, Nat.sub_self, Nat.reduceAdd, Nat.reduceSub, if_true, if_false, Bool.not_true, Bool.not_false, Bool.false_eq_true, eq_self, decide_true, decide_false, ite_true, ite_false, and_true, true_and, and_self, Int.reduceLT, Int.reduceLE, Int.reduceNeg, Int.reduceAdd, Int.reduceSub, Int.reduceMul, Int.reducePow, Int.reduceEq, Int.reduceNe, Int.reduceToNat, Nat.reduceLT, Nat.reducePow, Nat.reduceMul, Nat.reduceEqDiff, Nat.reduceLeDiff, natAbs_lit, Int.natAbs_neg, or_true, true_or, ks_nx, ks_rt, ks_bk, ks_ct, ks_ex, le_size, kOwnA_own, o_ownMA, kPutO3_some, kPutO2_int, kPutO1, kPutO0_own, o_putOwnA, kFrz0_own, kFrz0_val, kFrz0_no, o_frzSA, kSelfA_own, o_selfPutA, kLook_some, kSelfG_own, w_fSelf, kLenOwn_own, w_fLenOwn, kInOwn2_own, kInOwn1, w_fInOwn, kErr1_err, w_fErr, kOr3_some, kErrIs1_err, w_fErrIs, kHdN, kF5, kHand_true, kHand_false, o_handN, o_hand, Sl.clr, clrE, isNon_non, isNon_bl, isNon_int, isNon_str, isNon_lst, isNon_tup, isNon_dct, isNon_ref, isNon_ins, List.mem_cons, List.mem_nil_iff, or_false, false_or, kOp2, kOp1, w_fOp, kUn1, w_fUn, kT1, w_fT, kAnd1, w_fAnd, kOr1, w_fOr, kNot1, w_fNot, kAndV1, w_fAndV, kOrV1, w_fOrV, kNotV1, w_fNotV, kIte1, w_fIte, kCons2, kCons1, w_fCons, kLst1, w_fLst, kTup1, w_fTup, kCall1, w_fCall, kCallD1, w_fCallD, kStrM2, kStrM1, w_fStrM, kIt1, w_fIt, kRng1, w_fRng, kSome1, w_fSome, kSl3, kSl2, kSl1, w_fSl, kFrz1, w_fFrz, kRef1, w_fRef, kLstN1, w_fLstN, kPutE3, kPutE2, kPutE1, w_fPutE, kItL1, w_fItL, kEnumL1, w_fEnumL, kMake1, w_fMake, kMakeK2, kMakeK1, w_fMakeK, $a,*])
/-! ### small plain data -/
def PS (k w : Nat) (d : D) : Prop := Sm k w d ∧ ∃ p, toPy d = some p ∧ p.depth ≤ k
def PSL (k w : Nat) (ds : List D) : Prop := SmL k w ds ∧ ∃ ps, toPys ds = some ps ∧ PyData.depthAll ps ≤ k
theorem PS.mono {k w k' w' : Nat} {d : D} (h : PS k w d) (hk : k ≤ k') (hw : w ≤ w') : PS k' w' d := by
  obtain ⟨h1, p, e, h2⟩ := h
  exact ⟨h1.mono hk hw, p, e, by omega⟩
theorem ps_non : PS 0 0 .non := ⟨sm_non, _, rfl, by simp only [PyData.depth]; omega⟩
theorem ps_bl {b : Bool} : PS 0 0 (.bl b) := ⟨sm_bl, _, rfl, by simp only [PyData.depth]; omega⟩
theorem ps_int {i : Int} (h : i.natAbs < 2 ^ 39) : PS 0 40 (.int i) := ⟨sm_int h, _, rfl, by simp only [PyData.depth]; omega⟩
theorem ps_str {z : Str} {m : Nat} (h : z.length ≤ m) (ok : ∀ c ∈ z.cps.toList, c < 1114112) : PS 0 m (.str z) := ⟨sm_str h ok, _, rfl, by simp only [PyData.depth]; omega⟩
theorem PSL.mono {k w k' w' : Nat} {d : List D} (h : PSL k w d) (hk : k ≤ k') (hw : w ≤ w') : PSL k' w' d := by
  obtain ⟨⟨p, e, n1, n2, n3, n4⟩, ps, e2, h2⟩ := h
  exact ⟨⟨p, e, n1, Nat.le_trans n2 hk, Nat.le_trans n3 hw, n4⟩, ps, e2, Nat.le_trans h2 hk⟩
theorem psL_nil : PSL 0 0 [] := ⟨smL_nil, [], rfl, by simp only [PyData.depthAll]; omega⟩
theorem psL_cons {k1 w1 k2 w2 : Nat} {d : D} {ds : List D} (h : PS k1 w1 d) (r : PSL k2 w2 ds) : PSL (max k1 k2) (w1 + 1 + w2) (d :: ds) := by
  obtain ⟨h1, p, e, h2⟩ := h
  obtain ⟨r1, ps, e2, r2⟩ := r
  exact ⟨smL_cons h1 r1, p :: ps, by simp only [toPys, e, e2], by simp only [PyData.depthAll]; omega⟩
theorem psL_all {k w : Nat} : ∀ {ds : List D}, (∀ d ∈ ds, PS k w d) → PSL k (ds.length * (w + 1)) ds := by
  intro ds h
  refine ⟨smL_all fun d hd => (h d hd).1, ?_⟩
  induction ds with
  | nil => exact ⟨[], rfl, by simp only [PyData.depthAll]; omega⟩
  | cons d ds ih =>
    obtain ⟨ps, e2, r2⟩ := ih fun x hx => h x (List.mem_cons_of_mem _ hx)
    obtain ⟨_, p, e, h2⟩ := h d List.mem_cons_self
    exact ⟨p :: ps, by simp only [toPys, e, e2], by simp only [PyData.depthAll]; omega⟩
theorem ps_lst {k w : Nat} {ds : List D} (h : PSL k w ds) : PS (k + 1) w (.lst ds) := by
  obtain ⟨h1, ps, e, h2⟩ := h
  exact ⟨sm_lst h1, .list ps, by simp only [toPy, e, Option.map_some], by simp only [PyData.depth]; omega⟩
theorem ps_tup {k w : Nat} {ds : List D} (h : PSL k w ds) : PS (k + 1) w (.tup ds) := by
  obtain ⟨h1, ps, e, h2⟩ := h
  exact ⟨sm_tup h1, .tuple ps, by simp only [toPy, e, Option.map_some], by simp only [PyData.depth]; omega⟩
theorem PS.pl {k w : Nat} {d : D} (h : PS k w d) (hk : k ≤ 60) : Pl d := by
  obtain ⟨_, p, e, h2⟩ := h
  exact ⟨p, e, by omega⟩
theorem PS.py {k w : Nat} {d : D} (h : PS k w d) : (toPy d).isSome = true := by
  obtain ⟨_, p, e, h2⟩ := h
  rw [e]
  rfl
theorem smL_len {k w : Nat} : ∀ {ds : List D}, SmL k w ds → ds.length ≤ w := by
  intro ds ⟨ps, e, n⟩
  have h1 : ∀ {ds : List D} {ps : List PyData}, toPyQs ds = some ps → ds.length ≤ PyData.weightAll ps := by
    intro ds
    induction ds with
    | nil => intro ps h; simp
    | cons d ds ih =>
      intro ps h
      simp only [toPyQs] at h
      split at h
      · rename_i p qs e1 e2
        cases h
        have := ih e2
        simp only [PyData.weightAll, List.length_cons]
        omega
      · cases h
  have := h1 e
  have := n.2.2.1
  omega
theorem litD_sm {k w : Nat} {d : D} (h : Sm k w d) (hw : w ≤ 100000) : LitD d := by
  refine ⟨kn_sm h, fun xs e x hx => ?_⟩
  subst e
  have h2 := smL_get h.tup x hx
  refine ⟨ok1_sm h2 (by omega), fun ts e => ?_⟩
  subst e
  have h3 := h2.tup
  have := smL_len h3
  exact ⟨by rw [sizeLine_eq]; omega, fun t ht => ok1_sm (smL_get h3 t ht) (by omega)⟩
/-- a thing among the literals -/
def OD (w : Nat) (d : D) : Prop := Sm 6 w d ∧ ∀ xs, d = .tup xs → ∀ x ∈ xs, Pl x
theorem OD.litP {w : Nat} {d : D} (h : OD w d) (hw : w ≤ 100000) : LitP d := ⟨litD_sm h.1 hw, h.2⟩
theorem OD.mono {w w' : Nat} {d : D} (h : OD w d) (hw : w ≤ w') : OD w' d := ⟨h.1.mono (Nat.le_refl _) hw, h.2⟩
theorem od_ps {k w : Nat} {d : D} (h : PS k w d) (hk : k ≤ 6) : OD w d := by
  refine ⟨h.1.mono hk (Nat.le_refl _), fun xs e x hx => ?_⟩
  subst e
  obtain ⟨_, p, e, hd⟩ := h
  simp only [toPy] at e
  obtain ⟨ps, e2, rfl⟩ := Option.map_eq_some_iff.mp e
  simp only [PyData.depth] at hd
  have : ∀ {ds : List D} {ps : List PyData} {k : Nat}, toPys ds = some ps → PyData.depthAll ps ≤ k → ∀ d ∈ ds, ∃ p, toPy d = some p ∧ p.depth ≤ k := by
    intro ds
    induction ds with
    | nil => intro ps k _ _ d hd; cases hd
    | cons y ys ih =>
      intro ps k h hk d hd
      simp only [toPys] at h
      split at h
      · rename_i p qs e1 e2
        cases h
        simp only [PyData.depthAll] at hk
        rcases List.mem_cons.mp hd with rfl | hd
        · exact ⟨p, e1, by omega⟩
        · exact ih e2 (by omega) d hd
      · cases h
  obtain ⟨p, e3, h3⟩ := this e2 (Nat.le_refl _) x hx
  exact ⟨p, e3, by omega⟩
theorem ps_tm {t : D} (h : isTm t = true) : PS 0 40 t := by
  rcases isTm_cases h with ⟨z, rfl, hn, hz⟩ | ⟨i, rfl, h0, h1⟩
  · simp only [isNm, Bool.and_eq_true, decide_eq_true_eq, List.all_eq_true] at hn
    exact ps_str (by omega) fun c hc => by
      have := az_of (hn.2.2 c hc)
      unfold az at this
      omega
  · exact ps_int (by omega)
theorem ps_word {w : Str} (h : rowW (.str w) = true ∨ cmpW (.str w) = true) : PS 0 4 (.str w) := by
  refine ps_str (lit_words h) ?_
  simp only [rowW, cmpW, isS, Bool.or_eq_true, beq_iff_eq] at h
  have : ∀ z ∈ (["row", "none", "<", "<=", "=", "!="] : List Str), ∀ c ∈ z.cps.toList, c < 1114112 := by decide +kernel
  refine this w ?_
  simp only [List.mem_cons, List.mem_nil_iff, or_false]
  rcases h with (h | h) | h | h | h | h <;> simp [← h]
theorem nm_tm {d : D} (h : isNm d = true) : isTm d = true := by
  unfold isTm
  rw [h]
  rfl
/-- a literal is small -/
theorem ps_lit {d : D} (h : isLit d = true) : PS 2 300 d := by
  obtain ⟨w, b, c, rfl, _⟩ := isLit_tup h
  cases hr : rowW (.str w) with
  | true =>
    obtain ⟨ts, rfl, hb, _, h4, ht⟩ := row_tup h hr
    have h1 := psL_all fun t h' => ps_tm (ht t h')
    exact (ps_tup (psL_cons (ps_word (.inl hr)) (psL_cons (ps_tm (nm_tm hb)) (psL_cons (ps_tup h1) psL_nil)))).mono (by omega) (by omega)
  | false =>
    obtain ⟨hc, hb, hcc⟩ := cmp_terms h hr
    exact (ps_tup (psL_cons (ps_word (.inr hc)) (psL_cons (ps_tm hb) (psL_cons (ps_tm hcc) psL_nil)))).mono (by omega) (by omega)
/-! ### draws -/
section
variable {n : Nat} {s : Store} {Q : D → Store → Prop} {E : Str → List (Str × D) → Store → Prop}
theorem wrd_nm {c : Nat} {y : Str} (h : Wrd c y) (hc : az c) (h1 : c ≠ 110) (h2 : c ≠ 98) : isNm (.str y) = true := by
  obtain ⟨t, rfl, ht, hl⟩ := h
  have e1 : isS "not" (.str (txt (c :: t))) = false := by
    simp only [isS, beq_eq_false_iff_ne]
    intro e
    have e2 : ("not" : Str) = txt [110, 111, 116] := by decide +kernel
    rw [e2, txt_inj] at e
    cases e
    exact h1 rfl
  have e2 : isS "by" (.str (txt (c :: t))) = false := by
    simp only [isS, beq_eq_false_iff_ne]
    intro e
    have e2 : ("by" : Str) = txt [98, 121] := by decide +kernel
    rw [e2, txt_inj] at e
    cases e
    exact h2 rfl
  have e3 : azS.cps.toList = [97, 98, 99, 100, 101, 102, 103, 104, 105, 106, 107, 108, 109, 110, 111, 112, 113, 114, 115, 116, 117, 118, 119, 120, 121, 122] := by decide +kernel
  have e4 : ∀ x, az x → x ∈ azS.cps.toList := by
    intro x hx
    rw [e3]
    unfold az at hx
    simp only [List.mem_cons, List.mem_nil_iff, or_false]
    omega
  simp only [isNm, e1, e2, Bool.or_self, Bool.not_false, Bool.true_and, Bool.and_eq_true, decide_eq_true_eq, List.all_eq_true, txt_len, txt_cps, List.length_cons]
  exact ⟨decide_eq_true (by omega), fun x hx => e4 x ((List.mem_cons.mp hx).elim (fun e => e ▸ hc) (ht x))⟩
/-- some names -/
structure Nms (vs : List Str) : Prop where
  ne : vs ≠ []
  len : vs.length ≤ 7
  nm : ∀ v ∈ vs, isNm (.str v) = true
theorem pickN_wp {vs : List Str} (hp : Pot n s) (hv : Nms vs) (fin : ∀ x s', isNm x = true → Kp n s s' → s'.length = s.length → Q x s') : (fn__law_pick [.ref n, .lst (vs.map D.str)] s).wp Q E :=
  pick_wp hp (by simpa using hv.ne) (by rw [List.length_map]; have := hv.len; omega) fun x s1 hx k l => by
    obtain ⟨v, hm, rfl⟩ := List.mem_map.mp hx
    exact fin _ _ (hv.nm v hm) k l
theorem term_wp {vs : List Str} (hp : Pot n s) (hv : Nms vs) (fin : ∀ x s', isTm x = true → Kp n s s' → s'.length = s.length → Q x s') : (fn__law_term [.ref n, .lst (vs.map D.str)] s).wp Q E := by
  unfold fn__law_term F__law_term
  simp! only []
  refine take_wp hp (by omega) (by omega) fun i s1 i0 i1 k1 l1 => ?_
  simp! only [eq_int, not_is_false]
  cases hi : (i == 0) with
  | true =>
    simp! only []
    refine take_wp k1.pot (by omega) (by omega) fun j s2 j0 j1 k2 l2 => ?_
    simp! only []
    refine pick_wp k2.pot (by simp) (by simp) fun x s3 hx k3 l3 => ?_
    refine fin x s3 ?_ ((k1.trans k2).trans k3) (by omega)
    have : ∀ i : Int, 0 ≤ i → i < 1024 → isTm (.int i) = true := fun i h0 h1 => by
      simp only [isTm, isNm, Bool.false_or, decide_eq_true_eq]
      omega
    simp only [List.mem_cons, List.mem_nil_iff, or_false] at hx
    rcases hx with rfl | rfl | rfl | rfl <;> exact this _ (by omega) (by omega)
  | false =>
    simp! only []
    exact pickN_wp k1.pot hv fun x s2 hx k2 l2 => fin x s2 (nm_tm hx) (k1.trans k2) (by omega)
theorem literal_wp {vs : List Str} (hp : Pot n s) (hv : Nms vs) (fin : ∀ x s', isLit x = true → Kp n s s' → Q x s') : (fn__law_literal [.ref n, .lst (vs.map D.str)] s).wp Q E := by
  unfold fn__law_literal F__law_literal
  simp! only []
  refine take_wp hp (by omega) (by omega) fun i s1 i0 i1 k1 l1 => ?_
  simp! only []
  by_cases h5 : 5 < i
  · simp! only [h5]
    refine pickN_wp k1.pot hv fun x s2 hx k2 l2 => ?_
    simp! only []
    refine term_wp k2.pot hv fun y s3 hy k3 l3 => ?_
    simp! only []
    have hpy : ∀ z ∈ [x, y], (toPy z).isSome = true := by
      intro z hz
      simp only [List.mem_cons, List.mem_nil_iff, or_false] at hz
      rcases hz with rfl | rfl
      · exact (ps_tm (nm_tm hx)).py
      · exact (ps_tm hy).py
    refine mixed_wp k3.pot (by simp) hpy fun m ys s4 hperm hm hat k4 => ?_
    simp! only []
    refine pick_wp k4.pot (by simp) (by simp) fun w s5 hw k5 l5 => ?_
    have hmn : m ≠ n := by have := k3.pot.lt; omega
    have hat5 := k5.at_ hat hmn
    obtain ⟨a, b, rfl⟩ : ∃ a b, ys = [a, b] := by
      have := hperm.length_eq
      match ys, this with
      | [a, b], _ => exact ⟨a, b, rfl⟩
    simp! only [ix_ref hat5 atI_zero, ix_ref hat5 atI_one]
    refine fin _ s5 ?_ ((((k1.trans k2).trans k3).trans k4).trans k5)
    have hw2 : ∃ z, w = .str z ∧ rowW (.str z) = false ∧ cmpW (.str z) = true := by
      simp only [List.mem_cons, List.mem_nil_iff, or_false] at hw
      rcases hw with rfl | rfl | rfl | rfl <;> exact ⟨_, rfl, by decide +kernel, by decide +kernel⟩
    obtain ⟨z, rfl, r1, r2⟩ := hw2
    have hmem : ∀ t ∈ [a, b], t = x ∨ t = y := fun t ht => by
      have := hperm.mem_iff.mp ht
      simpa using this
    have htm : ∀ t ∈ [a, b], isTm t = true := fun t ht => (hmem t ht).elim (fun e => e ▸ nm_tm hx) (fun e => e ▸ hy)
    have hst : isStr a = true ∨ isStr b = true := by
      have hxs : isStr x = true := by
        obtain ⟨z, rfl, _⟩ := isNm_str hx
        rfl
      have : x ∈ [a, b] := hperm.mem_iff.mpr (by simp)
      simp only [List.mem_cons, List.mem_nil_iff, or_false] at this
      rcases this with rfl | rfl
      · exact .inl hxs
      · exact .inr hxs
    simp only [isLit, isStr_str, Bool.true_and, r1, r2, htm a (by simp), htm b (by simp), Bool.false_eq_true, if_false]
    rcases hst with h | h <;> simp [h]
  · simp! only [h5]
    refine take_wp k1.pot (by omega) (by omega) fun j s2 j0 j1 k2 l2 => ?_
    obtain ⟨m, rfl⟩ : ∃ m : Nat, j = (m : Int) := ⟨j.toNat, by omega⟩
    simp! only [show (1 : Int) + (m : Int) = ((1 + m : Nat) : Int) by omega, rng1_nat (m := 1 + m) (by omega), List.length_map, List.length_range, show 1 + m < sizeLine by (rw [sizeLine_eq]; omega)]
    refine compT_draw (fun t => isTm t = true) (fun s' => Kp n s2 s' ∧ s'.length = s2.length) _ (fun x _ => ?_) s2 _ ⟨Kp.refl k2.pot, rfl⟩ fun ts s3 hl hts ⟨k3, l3⟩ => ?_
    · refine ⟨_, rfl, fun s' ⟨k', l'⟩ => ?_⟩
      simp! only []
      exact term_wp k'.pot hv fun x s'' hx k'' l'' => ⟨hx, k'.trans k'', l''.trans l'⟩
    · simp only [List.length_map, List.length_range] at hl
      have hb : ∃ w : Str, dIx (.lst [.str "row", .str "none"]) (.int (if decide (3 < i) = true then 1 else 0)) s3 = .ok (.str w) s3 ∧ rowW (.str w) = true := by
        by_cases h3 : 3 < i
        · exact ⟨"none", by simp only [h3, decide_true, if_true, dIx, atI_one], by decide +kernel⟩
        · exact ⟨"row", by simp only [h3, decide_false, Bool.false_eq_true, if_false, dIx, atI_zero], by decide +kernel⟩
      obtain ⟨w, hw, hr⟩ := hb
      simp! only [dTuple, hw]
      refine pickS_wp k3.pot (by decide +kernel) (by decide +kernel) fun c s4 hc k4 l4 => ?_
      simp! only []
      refine word_wp k4.pot fun y s5 hy k5 l5 => ?_
      simp! only []
      refine fin _ _ ?_ ((((k1.trans k2).trans k3).trans k4).trans k5)
      have hc2 : az c ∧ c ≠ 110 ∧ c ≠ 98 := by
        have e : ("acd" : Str).cps.toList = [97, 99, 100] := by decide +kernel
        rw [e] at hc
        unfold az
        simp only [List.mem_cons, List.mem_nil_iff, or_false] at hc
        omega
      have hy2 := wrd_nm hy hc2.1 hc2.2.1 hc2.2.2
      simp only [isLit, isStr_str, Bool.true_and, hr, if_true, hy2, isTms, litTms, Bool.and_eq_true, decide_eq_true_eq, List.all_eq_true]
      exact ⟨by omega, hts⟩
/-! ### odd things -/
theorem ps_lits {z : Str} (h : z ∈ (["", "Z", "not", "by", "ninechars", "a1", "A", "a_", "a", "zz", "row", "rows", "==", ">"] : List Str)) : PS 0 9 (.str z) := by
  have : ∀ z ∈ (["", "Z", "not", "by", "ninechars", "a1", "A", "a_", "a", "zz", "row", "rows", "==", ">"] : List Str), z.length ≤ 9 ∧ ∀ c ∈ z.cps.toList, c < 1114112 := by decide +kernel
  exact ps_str (this z h).1 (this z h).2
theorem od_tri {a b c : D} (ha : PS 1 100 a) (hb : PS 1 1000 b) (hc : PS 3 1500 c) : OD 3000 (.tup [a, b, c]) :=
  od_ps ((ps_tup (psL_cons ha (psL_cons hb (psL_cons hc psL_nil)))).mono (by omega) (by omega)) (by decide : 5 ≤ 6)
theorem psL_get {k w : Nat} {ds : List D} (h : PSL k w ds) : ∀ d ∈ ds, PS k w d := by
  intro d hd
  obtain ⟨h1, ps, e, h2⟩ := h
  refine ⟨smL_get h1 d hd, ?_⟩
  have : ∀ {ds : List D} {ps : List PyData}, toPys ds = some ps → PyData.depthAll ps ≤ k → ∀ d ∈ ds, ∃ p, toPy d = some p ∧ p.depth ≤ k := by
    intro ds
    induction ds with
    | nil => intro ps _ _ d hd; cases hd
    | cons y ys ih =>
      intro ps h hk d hd
      simp only [toPys] at h
      split at h
      · rename_i p qs e1 e2
        cases h
        simp only [PyData.depthAll] at hk
        rcases List.mem_cons.mp hd with rfl | hd
        · exact ⟨p, e1, by omega⟩
        · exact ih e2 (by omega) d hd
      · cases h
  exact this e h2 d hd
theorem cut_tail {x : D} {xs : List D} : cutD (x :: xs) (some 1) none = xs := by
  unfold cutD
  rw [show HT.sIx (x :: xs).length 0 (some 1) = 1 by
    have := HT.sIx_nat (x :: xs).length 0 1
    rw [show ((1 : Nat) : Int) = 1 from rfl] at this
    rw [this]
    simp only [List.length_cons]
    omega, HT.sIx_none]
  simp
theorem odd_row_wp {w : Str} {b : D} {ts : List D} (hp : Pot n s) (hl : isLit (.tup [.str w, b, .tup ts]) = true) (hr : rowW (.str w) = true) (fin : ∀ x s', OD 3000 x → Kp n s s' → Q x s') : (fn__law_odd_row [.ref n, .tup [.str w, b, .tup ts]] s).wp Q E := by
  obtain ⟨ts', e, hb, t1, t4, ht⟩ := row_tup hl hr
  cases e
  obtain ⟨t0, tr, rfl⟩ : ∃ a r, ts = a :: r := by
    cases ts with
    | nil => simp at t1
    | cons a r => exact ⟨a, r, rfl⟩
  have pw : PS 1 100 (.str w) := (ps_word (.inl hr)).mono (by omega) (by omega)
  have pb : PS 1 1000 b := (ps_tm (nm_tm hb)).mono (by omega) (by omega)
  have pts : PSL 0 164 (t0 :: tr) := (psL_all fun t h' => ps_tm (ht t h')).mono (Nat.le_refl _) (by have := t4; omega)
  have pt0 : PS 0 40 t0 := ps_tm (ht t0 (by simp))
  have ptr : PSL 0 164 tr := (psL_all (ds := tr) fun t h' => ps_tm (ht t (List.mem_cons_of_mem _ h'))).mono (Nat.le_refl _) (by simp only [List.length_cons] at t4; omega)
  have hcut : cutD (t0 :: tr) (some 1) none = tr := cut_tail
  have lt_size : ∀ n : Nat, n ≤ 1000 → n < sizeLine := fun n h => by rw [sizeLine_eq]; omega
  unfold fn__law_odd_row F__law_odd_row
  simp! only [dIx, atI_zero]
  refine pick_wp hp (by simp) (by simp) fun o s1 ho k1 l1 => ?_
  have po : PS 1 100 o := by
    simp only [List.mem_cons, List.mem_nil_iff, or_false] at ho
    rcases ho with rfl | rfl | rfl | rfl | rfl | rfl | rfl | rfl | rfl | rfl | rfl | rfl | rfl
    · exact ps_bl.mono (by omega) (by omega)
    · exact ps_bl.mono (by omega) (by omega)
    · exact (ps_int (by decide)).mono (by omega) (by omega)
    · exact (ps_int (by decide)).mono (by omega) (by omega)
    · exact ps_non.mono (by omega) (by omega)
    · exact (ps_lits (by decide +kernel)).mono (by omega) (by omega)
    · exact (ps_lits (by decide +kernel)).mono (by omega) (by omega)
    · exact (ps_lits (by decide +kernel)).mono (by omega) (by omega)
    · exact (ps_lits (by decide +kernel)).mono (by omega) (by omega)
    · exact (ps_lits (by decide +kernel)).mono (by omega) (by omega)
    · exact (ps_lst (psL_cons pt0 psL_nil)).mono (by omega) (by omega)
    · exact (ps_tup (psL_cons pt0 psL_nil)).mono (by omega) (by omega)
    · exact (ps_lits (by decide +kernel)).mono (by omega) (by omega)
  simp! only [lt_size 10 (by omega)]
  rw [compT_map (fun x => .tup [.str w, x, .tup (t0 :: tr)]) _ (fun x hx => by
    refine ⟨_, rfl, eq_of_wp ?_⟩
    simp! only [])]
  have lt : tr.length ≤ 3 := by simp only [List.length_cons] at t4; omega
  simp! only [dList, show tr.length ≤ 999 by omega, List.isEmpty_cons, dIx, atI_zero, dSl, hcut, show tr.length + 1 ≤ sizeLine by (rw [sizeLine_eq]; omega), show 1 + tr.length ≤ sizeLine by (rw [sizeLine_eq]; omega)]
  have pt : PS 3 1500 (.tup (t0 :: tr)) := (ps_tup pts).mono (by omega) (by omega)
  have one : PSL 1 101 [o] := (psL_cons po psL_nil).mono (by omega) (by omega)
  have p1 : PS 3 1500 (.tup (tr ++ [o])) := by
    have : PSL 1 (4 * 101) (tr ++ [o]) := (psL_all (k := 1) (w := 100) fun y hy => (List.mem_append.mp hy).elim (fun h => (ps_tm (ht y (List.mem_cons_of_mem _ h))).mono (by omega) (by omega)) (fun h => by
      simp only [List.mem_singleton] at h
      exact h ▸ po)).mono (by omega) (by simp only [List.length_append, List.length_cons, List.length_nil]; omega)
    exact (ps_tup this).mono (by omega) (by omega)
  have p2 : PS 3 1500 (.tup (o :: tr)) := (ps_tup (psL_cons po ptr)).mono (by omega) (by omega)
  have p5 : PS 3 1500 (.tup [t0 :: tr, t0 :: tr, t0 :: tr, t0 :: tr, t0 :: tr].flatten) := by
    have : PSL 0 (20 * 41) [t0 :: tr, t0 :: tr, t0 :: tr, t0 :: tr, t0 :: tr].flatten := (psL_all fun y hy => ps_tm (ht y (by
      obtain ⟨l, hl, hy⟩ := List.mem_flatten.mp hy
      simp only [List.mem_cons, List.mem_nil_iff, or_false, or_self] at hl
      rw [← hl]
      exact hy))).mono (by omega) (by simp only [List.flatten_cons, List.flatten_nil, List.length_append, List.length_cons, List.length_nil]; omega)
    exact (ps_tup this).mono (by omega) (by omega)
  have pl : PS 3 1500 (.lst (t0 :: tr)) := (ps_lst pts).mono (by omega) (by omega)
  have pz : ∀ z ∈ (["", "Z", "not", "by", "ninechars", "a1", "A", "a_", "a", "zz", "row", "rows", "==", ">"] : List Str), PS 1 1000 (.str z) := fun z hz => (ps_lits hz).mono (by omega) (by omega)
  have pa : PS 0 9 (.str "a") := ps_lits (by decide +kernel)
  refine pick_wp k1.pot (by simp) (by simp) fun x s2 hx k2 l2 => fin x s2 ?_ (k1.trans k2)
  simp only [List.mem_append, List.mem_cons, List.mem_nil_iff, or_false] at hx
  rcases hx with rfl | rfl | rfl | rfl | rfl | rfl | rfl | rfl | rfl | rfl | rfl | rfl | rfl | rfl | rfl | rfl
  · exact od_tri pw (pz _ (by decide +kernel)) pt
  · exact od_tri pw (pz _ (by decide +kernel)) pt
  · exact od_tri pw (pz _ (by decide +kernel)) pt
  · exact od_tri pw (pz _ (by decide +kernel)) pt
  · exact od_tri pw (pz _ (by decide +kernel)) pt
  · exact od_tri pw (pz _ (by decide +kernel)) pt
  · exact od_tri pw (ps_non.mono (by omega) (by omega)) pt
  · exact od_tri pw ((ps_int (by decide)).mono (by omega) (by omega)) pt
  · exact od_tri pw ((ps_tup (psL_cons pa psL_nil)).mono (by omega) (by omega)) pt
  · exact od_tri pw ((ps_lst (psL_cons pa psL_nil)).mono (by omega) (by omega)) pt
  · exact od_tri pw pb pl
  · exact od_tri pw pb ((ps_tup psL_nil).mono (by omega) (by omega))
  · exact od_tri pw pb p5
  · exact od_tri pw pb (pt0.mono (by omega) (by omega))
  · exact od_tri pw pb p1
  · exact od_tri pw pb p2
theorem odd_cmp_wp {w : Str} {a b : D} (hp : Pot n s) (hl : isLit (.tup [.str w, a, b]) = true) (hr : rowW (.str w) = false) (fin : ∀ x s', OD 3000 x → Kp n s s' → Q x s') : (fn__law_odd_comparison [.ref n, .tup [.str w, a, b]] s).wp Q E := by
  obtain ⟨hc, ha, hb⟩ := cmp_terms hl hr
  have pw : PS 1 100 (.str w) := (ps_word (.inr hc)).mono (by omega) (by omega)
  have pa : PS 0 40 a := ps_tm ha
  have pb : PS 0 40 b := ps_tm hb
  have pab : PSL 0 100 [a, b] := (psL_cons pa (psL_cons pb psL_nil)).mono (by omega) (by omega)
  unfold fn__law_odd_comparison F__law_odd_comparison
  simp! only []
  refine pick_wp hp (by simp) (by simp) fun o s1 ho k1 l1 => ?_
  have po : PS 1 100 o := by
    simp only [List.mem_cons, List.mem_nil_iff, or_false] at ho
    rcases ho with rfl | rfl | rfl | rfl | rfl | rfl | rfl | rfl | rfl | rfl | rfl | rfl
    · exact ps_bl.mono (by omega) (by omega)
    · exact ps_bl.mono (by omega) (by omega)
    · exact (ps_int (by decide)).mono (by omega) (by omega)
    · exact (ps_int (by decide)).mono (by omega) (by omega)
    · exact ps_non.mono (by omega) (by omega)
    · exact (ps_lits (by decide +kernel)).mono (by omega) (by omega)
    · exact (ps_lits (by decide +kernel)).mono (by omega) (by omega)
    · exact (ps_lits (by decide +kernel)).mono (by omega) (by omega)
    · exact (ps_lits (by decide +kernel)).mono (by omega) (by omega)
    · exact (ps_lits (by decide +kernel)).mono (by omega) (by omega)
    · exact (ps_lst (psL_cons pa psL_nil)).mono (by omega) (by omega)
    · exact (ps_tup pab).mono (by omega) (by omega)
  simp! only []
  refine pick_wp k1.pot (by simp) (by simp) fun x s2 hx k2 l2 => fin x s2 ?_ (k1.trans k2)
  simp only [List.mem_cons, List.mem_nil_iff, or_false] at hx
  rcases hx with rfl | rfl | rfl | rfl | rfl
  · exact od_tri pw ((ps_int (by decide)).mono (by omega) (by omega)) ((ps_int (by decide)).mono (by omega) (by omega))
  · exact od_tri pw ((ps_int (by decide)).mono (by omega) (by omega)) ((ps_int (by decide)).mono (by omega) (by omega))
  · exact od_tri pw (po.mono (by omega) (by omega)) (pb.mono (by omega) (by omega))
  · exact od_tri pw (pa.mono (by omega) (by omega)) (po.mono (by omega) (by omega))
  · exact od_tri pw ((ps_tup pab).mono (by omega) (by omega)) ((ps_tup psL_nil).mono (by omega) (by omega))
theorem odd_wp {d : D} (hp : Pot n s) (hl : isLit d = true) (fin : ∀ x s', OD 3000 x → Kp n s s' → Q x s') : (fn__law_odd [.ref n, d] s).wp Q E := by
  obtain ⟨w, b, c, rfl, _⟩ := isLit_tup hl
  have pw : PS 1 100 (.str w) := by
    cases hr : rowW (.str w) with
    | true => exact (ps_word (.inl hr)).mono (by omega) (by omega)
    | false => exact (ps_word (.inr (cmp_terms hl hr).1)).mono (by omega) (by omega)
  obtain ⟨pb, pc⟩ : PS 1 300 b ∧ PS 1 300 c := by
    cases hr : rowW (.str w) with
    | true =>
      obtain ⟨ts, rfl, hb, _, h4, ht⟩ := row_tup hl hr
      exact ⟨(ps_tm (nm_tm hb)).mono (by omega) (by omega), (ps_tup (psL_all fun t h' => ps_tm (ht t h'))).mono (by omega) (by omega)⟩
    | false =>
      obtain ⟨_, hb, hcc⟩ := cmp_terms hl hr
      exact ⟨(ps_tm hb).mono (by omega) (by omega), (ps_tm hcc).mono (by omega) (by omega)⟩
  unfold fn__law_odd F__law_odd
  simp! only []
  refine take_wp hp (by omega) (by omega) fun i s1 i0 i1 k1 l1 => ?_
  have e2 := in_strsL (s := s1) (k := false) (pl_str (b := w)) ["row", "none"]
  simp only [List.map_cons, List.map_nil, List.any_cons, List.any_nil, Bool.or_false, not_is_false] at e2
  have e2' : dIn false (.str w) (.lst [.str "row", .str "none"]) s1 = .ok (.bl (rowW (.str w))) s1 := e2
  simp! only [eq_int, not_is_false]
  cases hi : (i == 0) with
  | true =>
    simp! only []
    refine pick_wp k1.pot (by simp) (by simp) fun x s2 hx k2 l2 => fin x s2 ?_ (k1.trans k2)
    simp only [List.mem_append, List.mem_cons, List.mem_nil_iff, or_false] at hx
    have pz : ∀ z ∈ (["", "Z", "not", "by", "ninechars", "a1", "A", "a_", "a", "zz", "row", "rows", "==", ">"] : List Str), PS 0 9 (.str z) := fun z hz => ps_lits hz
    rcases hx with rfl | rfl | rfl | rfl | rfl | rfl | rfl | rfl | rfl | rfl | rfl | rfl | rfl | rfl | rfl | rfl
    · exact (od_ps ps_non (by omega)).mono (by omega)
    · exact (od_ps (ps_int (by decide)) (by omega)).mono (by omega)
    · exact (od_ps (pz _ (by decide +kernel)) (by omega)).mono (by omega)
    · exact (od_ps ps_bl (by omega)).mono (by omega)
    · exact ⟨sm_dct0.mono (by omega) (by omega), fun xs e => nomatch e⟩
    · exact (od_ps (ps_tup psL_nil) (by omega)).mono (by omega)
    · exact (od_ps (ps_lst (psL_cons pw (psL_cons pb (psL_cons pc psL_nil)))) (by omega)).mono (by omega)
    · exact (od_ps (ps_tup (psL_cons pw (psL_cons pb psL_nil))) (by omega)).mono (by omega)
    · exact (od_ps (ps_tup (psL_cons pw (psL_cons pb (psL_cons pc (psL_cons pc psL_nil))))) (by omega)).mono (by omega)
    · exact od_tri ((pz _ (by decide +kernel)).mono (by omega) (by omega)) (pb.mono (by omega) (by omega)) (pc.mono (by omega) (by omega))
    · exact od_tri ((pz _ (by decide +kernel)).mono (by omega) (by omega)) (pb.mono (by omega) (by omega)) (pc.mono (by omega) (by omega))
    · exact od_tri (ps_non.mono (by omega) (by omega)) (pb.mono (by omega) (by omega)) (pc.mono (by omega) (by omega))
    · exact (od_ps (ps_tup (psL_cons (ps_lst (psL_cons pw psL_nil)) (psL_cons pb (psL_cons pc psL_nil)))) (by omega)).mono (by omega)
    · exact (od_ps (ps_tup (psL_cons pb (psL_cons pw (psL_cons pc psL_nil)))) (by omega)).mono (by omega)
    · exact od_tri ((pz _ (by decide +kernel)).mono (by omega) (by omega)) (pb.mono (by omega) (by omega)) (pc.mono (by omega) (by omega))
    · exact od_tri ((pz _ (by decide +kernel)).mono (by omega) (by omega)) (pb.mono (by omega) (by omega)) (pc.mono (by omega) (by omega))
  | false =>
    simp! only [e2']
    cases hr : rowW (.str w) with
    | true =>
      simp! only []
      obtain ⟨ts, rfl, _⟩ := row_tup hl hr
      exact odd_row_wp k1.pot hl hr fun x s2 hx k2 => fin x s2 hx (k1.trans k2)
    | false =>
      simp! only []
      exact odd_cmp_wp k1.pot hl hr fun x s2 hx k2 => fin x s2 hx (k1.trans k2)
/-! ### orders -/
/-- an order, or something like it -/
def OO (d : D) : Prop := PS 3 2000 d ∨ d = .dct []
theorem OO.ord {d : D} (h : OO d) : OrdD d := by
  rcases h with h | rfl
  · refine ⟨kn_sm h.1, fun ys e y hy => ?_⟩
    subst e
    obtain ⟨_, p, e, _⟩ := h
    simp only [toPy] at e
    obtain ⟨ps, e2, _⟩ := Option.map_eq_some_iff.mp e
    have : ∀ {ds : List D} {ps : List PyData}, toPys ds = some ps → ∀ d ∈ ds, (toPy d).isSome = true := by
      intro ds
      induction ds with
      | nil => intro ps _ d hd; cases hd
      | cons y ys ih =>
        intro ps h d hd
        simp only [toPys] at h
        split at h
        · rename_i p qs e1 e2
          rcases List.mem_cons.mp hd with rfl | hd
          · rw [e1]; rfl
          · exact ih e2 d hd
        · cases h
    exact this e2 y hy
  · exact ⟨⟨"dict", rfl, by decide⟩, fun ys e => nomatch e⟩
theorem OO.sm {d : D} (h : OO d) : Sm 8 20000 d := by
  rcases h with h | rfl
  · exact h.1.mono (by omega) (by omega)
  · exact sm_dct0.mono (by omega) (by omega)
theorem perm_map {zs : List Str} : ∀ {ys : List D}, ys.Perm (zs.map D.str) → ∃ os : List Str, ys = os.map D.str ∧ os.Perm zs := by
  intro ys h
  have all : ∀ y ∈ ys, ∃ z, y = D.str z := fun y hy => by
    obtain ⟨z, _, e⟩ := List.mem_map.mp (h.mem_iff.mp hy)
    exact ⟨z, e.symm⟩
  have e : ys = (strL ys).map D.str := by
    clear h
    induction ys with
    | nil => rfl
    | cons y ys ih =>
      obtain ⟨z, rfl⟩ := all y List.mem_cons_self
      have := ih fun y hy => all y (List.mem_cons_of_mem _ hy)
      unfold strL at this ⊢
      rw [List.filterMap_cons]
      simp only [List.map_cons]
      rw [← this]
  refine ⟨strL ys, e, ?_⟩
  have h2 : (strL ys).Perm (strL (zs.map D.str)) := h.filterMap _
  rw [strL_map] at h2
  exact h2
theorem cut_from1 {xs : List D} : cutD xs (some 1) none = xs.drop 1 := by
  cases xs with
  | nil => rfl
  | cons x xs => exact cut_tail
theorem cut_to {xs : List D} {k : Nat} : cutD xs none (some (k : Int)) = xs.take k := by
  unfold cutD
  rw [HT.sIx_none, HT.sIx_nat, List.drop_zero, Nat.sub_zero, List.take_eq_take_iff]
  omega
theorem join_cps : ∀ os : List Str, (Txt.join ("" : Str) os).cps.toList = (os.map fun z => z.cps.toList).flatten := by
  intro os
  show (Builtin.Str.glued _ _).cps.toList = _
  rw [StrLaws.glued_eq_join]
  induction os with
  | nil => rfl
  | cons c cs ih =>
    cases cs with
    | nil => simp [Str.join]
    | cons d ds =>
      have e : Str.join ("" : Str) (c :: d :: ds) = c ++ ("" : Str) ++ Str.join ("" : Str) (d :: ds) := rfl
      have e2 : ("" : Str).cps = #[] := by decide +kernel
      rw [e]
      show ((c.cps ++ ("" : Str).cps) ++ (Str.join ("" : Str) (d :: ds)).cps).toList = _
      rw [e2, List.map_cons, List.flatten_cons, ← ih]
      simp
theorem psL_app {k1 w1 k2 w2 : Nat} {a b : List D} (h : PSL k1 w1 a) (h2 : PSL k2 w2 b) : PSL (max k1 k2) (w1 + w2) (a ++ b) := by
  obtain ⟨⟨ps, e, n1, n2, n3, n4⟩, qs, f, m⟩ := h
  obtain ⟨⟨ps', e', n1', n2', n3', n4'⟩, qs', f', m'⟩ := h2
  have aQ : ∀ {a : List D} {ps : List PyData}, toPyQs a = some ps → toPyQs (a ++ b) = some (ps ++ ps') := by
    intro a
    induction a with
    | nil => intro ps h; cases h; exact e'
    | cons x a ih =>
      intro ps h
      simp only [toPyQs] at h
      split at h
      · rename_i p q h1 h2
        cases h
        simp only [List.cons_append, toPyQs, h1, ih h2]
      · cases h
  have aP : ∀ {a : List D} {ps : List PyData}, toPys a = some ps → toPys (a ++ b) = some (ps ++ qs') := by
    intro a
    induction a with
    | nil => intro ps h; cases h; exact f'
    | cons x a ih =>
      intro ps h
      simp only [toPys] at h
      split at h
      · rename_i p q h1 h2
        cases h
        simp only [List.cons_append, toPys, h1, ih h2]
      · cases h
  have dA : ∀ (a b : List PyData), PyData.depthAll (a ++ b) = max (PyData.depthAll a) (PyData.depthAll b) := by
    intro a b
    induction a with
    | nil => simp only [List.nil_append, PyData.depthAll]; omega
    | cons x a ih => simp only [List.cons_append, PyData.depthAll, ih]; omega
  have wA : ∀ (a b : List PyData), PyData.weightAll (a ++ b) = PyData.weightAll a + PyData.weightAll b := by
    intro a b
    induction a with
    | nil => simp only [List.nil_append, PyData.weightAll]; omega
    | cons x a ih => simp only [List.cons_append, PyData.weightAll, ih]; omega
  have lA : ∀ (a b : List PyData), PyData.leavesShortAll 40 (a ++ b) = (PyData.leavesShortAll 40 a && PyData.leavesShortAll 40 b) := by
    intro a b
    induction a with
    | nil => simp only [List.nil_append, PyData.leavesShortAll, Bool.true_and]
    | cons x a ih => simp only [List.cons_append, PyData.leavesShortAll, ih, Bool.and_assoc]
  have sA : ∀ (a b : List PyData), PyData.showableAll (a ++ b) = (PyData.showableAll a && PyData.showableAll b) := by
    intro a b
    induction a with
    | nil => simp only [List.nil_append, PyData.showableAll, Bool.true_and]
    | cons x a ih => simp only [List.cons_append, PyData.showableAll, ih, Bool.and_assoc]
  refine ⟨⟨_, aQ e, ?_, ?_, ?_, ?_⟩, _, aP f, ?_⟩
  · rw [lA, n1, n1']; rfl
  · rw [dA]; omega
  · rw [wA]; omega
  · rw [sA, n4, n4']; rfl
  · rw [dA]; omega
theorem some_order_wp {vs : List Str} (hp : Pot n s) (hv : ∀ v ∈ vs, isNm (.str v) = true) (hl : vs.length ≤ 60) (fin : ∀ x s', OO x → Kp n s s' → Q x s') : (fn__law_some_order [.ref n, .lst (vs.map D.str)] s).wp Q E := by
  unfold fn__law_some_order F__law_some_order
  simp! only []
  refine mixed_wp hp (by rw [List.length_map]; omega) (fun x hx => by obtain ⟨v, _, rfl⟩ := List.mem_map.mp hx; rfl) fun m ys s1 hperm hm hat k1 => ?_
  obtain ⟨os, rfl, hpo⟩ := perm_map hperm
  have ho : ∀ v ∈ os, isNm (.str v) = true := fun v h => hv v (hpo.mem_iff.mp h)
  have hol : os.length ≤ 60 := by rw [hpo.length_eq]; exact hl
  have pv : ∀ v ∈ os, PS 0 40 (.str v) := fun v h => ps_tm (nm_tm (ho v h))
  have pL : ∀ {l : List Str}, (∀ v ∈ l, v ∈ os) → l.length ≤ 60 → PSL 0 1500 (l.map D.str) := fun {l} h hl2 => by
    have : PSL 0 ((l.map D.str).length * (8 + 1)) (l.map D.str) := psL_all fun y hy => by
      obtain ⟨v, hv, rfl⟩ := List.mem_map.mp hy
      have := ho v (h v hv)
      simp only [isNm, Bool.and_eq_true, decide_eq_true_eq, List.all_eq_true] at this
      exact ps_str this.1.2 fun c hc => by
        have := az_of (this.2.2 c hc)
        unfold az at this
        omega
    exact this.mono (Nat.le_refl _) (by rw [List.length_map]; omega)
  simp! only [dTuple, hat]
  refine take_wp k1.pot (by omega) (by omega) fun i s2 i0 i1 k2 l2 => ?_
  have zz : PS 0 9 (.str "zz") := ps_lits (by decide +kernel)
  have pO : PS 1 1500 (.tup (os.map D.str)) := ps_tup (pL (fun v h => h) hol)
  have lt_size : ∀ n : Nat, n ≤ 1000 → n < sizeLine := fun n h => by rw [sizeLine_eq]; omega
  have le_size' : ∀ n : Nat, n ≤ 1000 → n ≤ sizeLine := fun n h => by rw [sizeLine_eq]; omega
  by_cases h3 : i < 3
  · simp! only [h3]
    exact fin _ _ (.inl (ps_non.mono (by omega) (by omega))) (k1.trans k2)
  · by_cases h6 : i < 6
    · simp! only [h3, h6]
      exact fin _ _ (.inl (pO.mono (by omega) (by omega))) (k1.trans k2)
    · have ec : cutD (os.map D.str) (some 1) none = (os.drop 1).map D.str := by rw [cut_from1, List.map_drop]
      have ec2 : cutD (os.map D.str) none (some 1) = (os.take 1).map D.str := by
        have := cut_to (xs := os.map D.str) (k := 1)
        rw [List.map_take]
        exact this
      have ej : ∃ z, dJoin (.str "") [.tup (os.map D.str)] s2 = .ok (.str z) s2 ∧ PS 0 1500 (.str z) := by
        have h8 : ∀ v ∈ os, v.length ≤ 8 := fun v h => nm_len (ho v h)
        have hs := strsOf_map (xs := os)
        have hj := join_le (sep := ("" : Str)) h8
        have ht := tjoin_le (sep := ("" : Str)) h8
        have h0 : ("" : Str).length = 0 := by decide +kernel
        rw [h0] at hj ht
        refine ⟨Txt.join "" os, ?_, ps_str (by omega) fun c hc => ?_⟩
        · simp only [dJoin, hs, h0]
          rw [if_pos (by omega)]
        · rw [join_cps] at hc
          obtain ⟨l, hl, hc⟩ := List.mem_flatten.mp hc
          obtain ⟨v, hv, rfl⟩ := List.mem_map.mp hl
          have := ho v hv
          simp only [isNm, Bool.and_eq_true, decide_eq_true_eq, List.all_eq_true] at this
          have := az_of (this.2.2 c hc)
          unfold az at this
          omega
      obtain ⟨z, ej, pz⟩ := ej
      simp! only [h3, h6, dList, dSl, ec, ec2, ej, List.length_map, List.length_take, List.length_drop, show os.length + 1 ≤ sizeLine by (apply le_size'; omega), show os.length + min 1 os.length ≤ sizeLine by (apply le_size'; omega), show 1 + (os.length - 1) ≤ sizeLine by (apply le_size'; omega), show os.length < sizeLine by (apply lt_size; omega)]
      rw [compT_map (fun x => .tup [x]) _ (fun x hx => by
        refine ⟨_, rfl, eq_of_wp ?_⟩
        simp! only [])]
      simp! only [dTuple, List.length_map, show os.length < sizeLine by (apply lt_size; omega)]
      rw [compT_map (fun x => .non) _ (fun x hx => by
        refine ⟨_, rfl, eq_of_wp ?_⟩
        simp! only [])]
      simp! only [dTuple]
      refine pick_wp k2.pot (by simp) (by simp) fun x s3 hx k3 l3 => fin x s3 ?_ ((k1.trans k2).trans k3)
      have pO' : PSL 0 1500 (os.map D.str) := pL (fun v h => h) hol
      simp only [List.mem_append, List.mem_cons, List.mem_nil_iff, or_false] at hx
      rcases hx with rfl | rfl | rfl | rfl | rfl | rfl | rfl | rfl | rfl | rfl | rfl | rfl
      · exact .inl ((ps_lst pO').mono (by omega) (by omega))
      · exact .inl ((ps_tup (psL_app pO' (psL_cons zz psL_nil))).mono (by omega) (by omega))
      · exact .inl ((ps_tup (pL (fun v h => List.mem_of_mem_drop h) (by rw [List.length_drop]; omega))).mono (by omega) (by omega))
      · have p1 : PSL 0 9 ((os.take 1).map D.str) := by
          cases os with
          | nil => exact psL_nil.mono (by omega) (by omega)
          | cons v os =>
            refine (psL_cons ?_ psL_nil : PSL (max 0 0) (8 + 1 + 0) [D.str v]).mono (by omega) (by omega)
            have := ho v (by simp)
            simp only [isNm, Bool.and_eq_true, decide_eq_true_eq, List.all_eq_true] at this
            exact ps_str this.1.2 fun c hc => by
              have := az_of (this.2.2 c hc)
              unfold az at this
              omega
        exact .inl ((ps_tup (psL_app pO' p1)).mono (by omega) (by omega))
      · exact .inl ((ps_tup (psL_cons zz (pL (fun v h => List.mem_of_mem_drop h) (by rw [List.length_drop]; omega)))).mono (by omega) (by omega))
      · exact .inl (pz.mono (by omega) (by omega))
      · exact .inl ((ps_tup psL_nil).mono (by omega) (by omega))
      · exact .inl ((ps_int (by decide)).mono (by omega) (by omega))
      · exact .inl (ps_bl.mono (by omega) (by omega))
      · refine .inl ((ps_tup (psL_all (k := 1) (w := 9) fun y hy => ?_)).mono (by omega) (by rw [List.length_map, List.length_map]; omega))
        obtain ⟨u, hu, rfl⟩ := List.mem_map.mp hy
        obtain ⟨v, hv, rfl⟩ := List.mem_map.mp hu
        have := ho v hv
        simp only [isNm, Bool.and_eq_true, decide_eq_true_eq, List.all_eq_true] at this
        exact (ps_tup (psL_cons (ps_str this.1.2 fun c hc => by
              have := az_of (this.2.2 c hc)
              unfold az at this
              omega) psL_nil)).mono (by omega) (by omega)
      · refine .inl ((ps_tup (psL_all (k := 0) (w := 0) fun y hy => ?_)).mono (by omega) (by rw [List.length_map, List.length_map]; omega))
        obtain ⟨u, hu, rfl⟩ := List.mem_map.mp hy
        exact ps_non
      · exact .inr rfl
end
end Dv.P31

/-! P31d: the law holds. -/
namespace Dv.P31
open PySem PySem.Spec PyProof.Rows L2 Cv Dv Dv.Sh D31
local macro_rules | `(tactic| simp! only [$a,*]) => `(tactic| simp -implicitDefEqProofs -proj only [wp_ok, wp_ex, wp_bad, wp_ite, nE, w_fC, w_fYes, w_fNil, w_fNone, w_fDctN, kVar_val, w_fVar, kChain1, kChain2, kChain3, kChain4, kChain5, w_fChain, w_asB, kRefM1_ref, w_fRefM, kListN1_lst, kListN1_tup, w_fListN, w_fMeth, kMeth2, w_fProp, w_fLenO, kLenO2_int, kFmt1_str, kFmt1_int, w_fFmt, kJs1_str, w_fJsN, w_fJs, o_seq, o_expr, o_ret, o_set, o_if, o_asg, o_par, o_raise, o_setN, o_try, o_for, o_forL, o_fnB, o_fnI, kThen, kNx, kExE, kSet, kIf, kAsg, kAsg'_some, kPar_two, kRaise, kSetN, kOwnM, kOwnM'_some, kTry, kFor, kForL, kFnN, kF2, kFnE, kF3, kSelf', kComp1, kComp2, w_fComp, owp_nx, owp_rt, owp_bk, owp_ct, owp_ex, owp_bad, owp_ite, owp_skip, owp_retN, owp_break, owp_continue, gN_eq, gNil_eq, gCons_eq, oBind_some, gTup_eq, dAdd, dSub, dMul, dMulT, dFdiv, dMod, dPow, dShl, dShr, dBand, dNeg, dCmp, dIsN, dAbs, dMax2, dMin2, dInt, isSt, itemsOf, asI, startE, startI, Sl.blk, wipeE, soD, fPut, List.set_cons_zero, List.set_cons_succ, List.getElem?_cons_zero, List.getElem?_cons_succ, List.map_cons, List.map_nil, List.length_cons, List.length_nil, List.nil_append, List.cons_append, List.append_nil, List.replicate, List.length_set, Nat.zero_add, Nat.succ_sub_succ_eq_sub, Nat.sub_zero, Nat.sub_self, Nat.reduceAdd, Nat.reduceSub, if_true, if_false, Bool.not_true, Bool.not_false, Bool.false_eq_true, eq_self, decide_true, decide_false, ite_true, ite_false, and_true, true_and, and_self, Int.reduceLT, Int.reduceLE, Int.reduceNeg, Int.reduceAdd, Int.reduceSub, Int.reduceMul, Int.reducePow, Int.reduceEq, Int.reduceNe, Int.reduceToNat, Nat.reduceLT, Nat.reducePow, Nat.reduceMul, Nat.reduceEqDiff, Nat.reduceLeDiff, natAbs_lit, Int.natAbs_neg, or_true, true_or, ks_nx, ks_rt, ks_bk, ks_ct, ks_ex, le_size, kOwnA_own, o_ownMA, kPutO3_some, kPutO2_int, kPutO1, kPutO0_own, o_putOwnA, kFrz0_own, kFrz0_val, kFrz0_no, o_frzSA, kSelfA_own, o_selfPutA, kLook_some, kSelfG_own, w_fSelf, kLenOwn_own, w_fLenOwn, kInOwn2_own, kInOwn1, w_fInOwn, kErr1_err, w_fErr, kOr3_some, kErrIs1_err, w_fErrIs, kHdN, kF5, kHand_true, kHand_false, o_handN, o_hand, Sl.clr, clrE, isNon_non, isNon_bl, isNon_int, isNon_str, isNon_lst, isNon_tup, isNon_dct, isNon_ref, isNon_ins, List.mem_cons, List.mem_nil_iff, or_false, false_or, kOp2, kOp1, w_fOp, kUn1, w_fUn, kT1, w_fT, kAnd1, w_fAnd, kOr1, w_fOr, kNot1, w_fNot, kAndV1, w_fAndV, kOrV1, w_fOrV, kNotV1, w_fNotV, kIte1, w_fIte, kCons2, kCons1, w_fCons, kLst1, w_fLst, kTup1, w_fTup, kCall1, w_fCall, kCallD1, w_fCallD, kStrM2, kStrM1, w_fStrM, kIt1, w_fIt, kRng1, w_fRng, kSome1, w_fSome, kSl3, kSl2, kSl1, w_fSl, kFrz1, w_fFrz, kRef1, w_fRef, kLstN1, w_fLstN, kPutE3, kPutE2, kPutE1, w_fPutE, kItL1, w_fItL, kEnumL1, w_fEnumL, kMake1, w_fMake, kMakeK2, kMakeK1, w_fMakeK, $a,*])
section
variable {n : Nat} {s : Store} {Q : D → Store → Prop} {E : Str → List (Str × D) → Store → Prop}
theorem th_lst {xs : List D} {w : Nat} (h : ∀ x ∈ xs, OD w x) (hw : w ≤ 100000) (hl : xs.length * (w + 1) ≤ 100000) : Th (.lst xs) 100000 :=
  ⟨(sm_lst (smL_all fun x hx => (h x hx).1)).mono (by omega) hl, fun ys e y hy => by
    rcases e with e | e <;> cases e
    exact (h y hy).litP hw⟩
theorem th_tup {xs : List D} {w : Nat} (h : ∀ x ∈ xs, OD w x) (hw : w ≤ 100000) (hl : xs.length * (w + 1) ≤ 100000) : Th (.tup xs) 100000 :=
  ⟨(sm_tup (smL_all fun x hx => (h x hx).1)).mono (by omega) hl, fun ys e y hy => by
    rcases e with e | e <;> cases e
    exact (h y hy).litP hw⟩
theorem th_sm {x : D} {k w : Nat} (h : Sm k w x) (hk : k ≤ 8) (hw : w ≤ 100000) (h1 : ∀ xs, x ≠ .lst xs) (h2 : ∀ xs, x ≠ .tup xs) : Th x 100000 :=
  ⟨h.mono hk hw, fun ys e => by
    rcases e with e | e
    · exact absurd e (h1 ys)
    · exact absurd e (h2 ys)⟩
theorem od_lit {d : D} (h : isLit d = true) : OD 300 d := od_ps (ps_lit h) (by omega)
theorem names_of {ys : List D} (h : ∀ y ∈ ys, ∃ v, y = D.str v ∧ isNm (.str v) = true) : ∃ vs : List Str, ys = vs.map D.str ∧ ∀ v ∈ vs, isNm (.str v) = true := by
  induction ys with
  | nil => exact ⟨[], rfl, fun _ h => nomatch h⟩
  | cons y ys ih =>
    obtain ⟨v, rfl, hv⟩ := h y List.mem_cons_self
    obtain ⟨vs, rfl, hvs⟩ := ih fun z hz => h z (List.mem_cons_of_mem _ hz)
    exact ⟨v :: vs, rfl, fun z hz => (List.mem_cons.mp hz).elim (fun e => e ▸ hv) (hvs z)⟩
theorem lit_parts {w : Str} {b c : D} (hl : isLit (.tup [.str w, b, c]) = true) : PS 1 100 (.str w) ∧ PS 1 300 b ∧ PS 1 300 c := by
  cases hr : rowW (.str w) with
  | true =>
    obtain ⟨ts, rfl, hb, _, h4, ht⟩ := row_tup hl hr
    exact ⟨(ps_word (.inl hr)).mono (by omega) (by omega), (ps_tm (nm_tm hb)).mono (by omega) (by omega), (ps_tup (psL_all fun t h' => ps_tm (ht t h'))).mono (by omega) (by omega)⟩
  | false =>
    obtain ⟨hc, hb, hcc⟩ := cmp_terms hl hr
    exact ⟨(ps_word (.inr hc)).mono (by omega) (by omega), (ps_tm hb).mono (by omega) (by omega), (ps_tm hcc).mono (by omega) (by omega)⟩
theorem cell_wp (hp : Pot n s) (fin : ∀ s', Kp n s s' → Q (.bl true) s') : (fn__law_cell_right [.ref n] s).wp Q E := by
  have lt_size : ∀ n : Nat, n ≤ 1000 → n < sizeLine := fun n h => by rw [sizeLine_eq]; omega
  unfold fn__law_cell_right F__law_cell_right
  simp! only []
  refine take_wp hp (by omega) (by omega) fun i s1 i0 i1 k1 l1 => ?_
  obtain ⟨a, rfl⟩ : ∃ m : Nat, i = (m : Int) := ⟨i.toNat, by omega⟩
  simp! only [show (1 : Int) + (a : Int) = ((1 + a : Nat) : Int) by omega, rng1_nat (m := 1 + a) (by omega), List.length_map, List.length_range, lt_size (1 + a) (by omega)]
  refine compT_draw (fun y => ∃ v, y = D.str v ∧ isNm (.str v) = true) (fun s' => Kp n s1 s') _ (fun x hx => ?_) s1 _ (Kp.refl k1.pot) fun ys s2 hl hys k2 => ?_
  · obtain ⟨j, hj, rfl⟩ := List.mem_map.mp hx
    have hj := List.mem_range.mp hj
    refine ⟨_, rfl, fun s' k' => ?_⟩
    have e7 : ("pqrstuv" : Str).cps.toList = [112, 113, 114, 115, 116, 117, 118] := by decide +kernel
    obtain ⟨c, e1, e2⟩ := atI_nat (xs := ("pqrstuv" : Str).cps.toList) (i := (j : Int)) (by omega) (by rw [e7]; simp only [List.length_cons, List.length_nil]; omega)
    have hc : az c ∧ c ≠ 110 ∧ c ≠ 98 := by
      have := List.mem_of_getElem? e2
      rw [e7] at this
      unfold az
      simp only [List.mem_cons, List.mem_nil_iff, or_false] at this
      omega
    simp! only [dIx, e1, show ("pqrstuv" : Str).length ≤ sizeLine by decide +kernel]
    exact word_wp k'.pot fun y s'' hy k'' _ => ⟨⟨y, rfl, wrd_nm hy hc.1 hc.2.1 hc.2.2⟩, k'.trans k''⟩
  · obtain ⟨vs, rfl, hvs⟩ := names_of hys
    simp only [List.length_map, List.length_range] at hl
    have hv : Nms vs := ⟨by rintro rfl; simp at hl; omega, by omega, hvs⟩
    simp! only []
    refine take_wp k2.pot (by omega) (by omega) fun i s3 i0 i1 k3 l3 => ?_
    obtain ⟨b, rfl⟩ : ∃ m : Nat, i = (m : Int) := ⟨i.toNat, by omega⟩
    simp! only [show (1 : Int) + (b : Int) = ((1 + b : Nat) : Int) by omega, rng1_nat (m := 1 + b) (by omega), List.length_map, List.length_range, lt_size (1 + b) (by omega)]
    refine compT_draw (fun y => isLit y = true) (fun s' => Kp n s3 s') _ (fun x hx => ?_) s3 _ (Kp.refl k3.pot) fun ps s4 hl2 hps k4 => ?_
    · refine ⟨_, rfl, fun s' k' => ?_⟩
      simp! only []
      exact literal_wp k'.pot hv fun x s'' hx k'' => ⟨hx, k'.trans k''⟩
    · simp only [List.length_map, List.length_range] at hl2
      have hod : ∀ x ∈ ps, OD 300 x := fun x hx => od_lit (hps x hx)
      have hk : ∀ y ∈ ps, ∀ t ∈ litTerms y, Kn t := fun y hy t ht => tm_kn ((hod y hy).litP (by omega)).1 (hps y hy) ht
      have nv := vars_names hps
      have hvl : (varsOf ps).length ≤ 60 := by
        have q2 := addVs_len (ts := ps.flatMap litTerms) (f := [])
        have q3 := flat_len hps
        have q4 : (varsOf ps).length ≤ 0 + (ps.flatMap litTerms).length := q2
        omega
      simp! only [first_eq .lst hps (by omega) hk]
      refine some_order_wp k4.pot nv hvl fun d s5 hd k5 => ?_
      have kk := ((k1.trans k2).trans k3).trans (k4.trans k5)
      have fit : ∀ {x}, Th x 100000 → Fit x d := fun h => ⟨h, hd.ord, hd.sm⟩
      have tp : Th (.lst ps) 100000 := th_lst hod (by omega) (by omega)
      simp! only []
      refine right_wp k5.pot (fit tp) fun s6 k6 => ?_
      simp! only []
      refine take_wp k6.pot (by omega) (by omega) fun i s7 i0 i1 k7 l7 => ?_
      obtain ⟨c, rfl⟩ : ∃ m : Nat, i = (m : Int) := ⟨i.toNat, by omega⟩
      simp! only [show (1 : Int) + (c : Int) = ((1 + c : Nat) : Int) by omega, rng1_nat (m := 1 + c) (by omega)]
      refine turns_wp (fun _ _ e s' => Kp n s7 s' ∧ ∃ zs u v, e = [Sl.val (.ref n), Sl.val (.lst (vs.map D.str)), u, Sl.val (.lst ps), Sl.val d, Sl.own (.lst zs), v, .no] ∧ zs.length = ps.length ∧ ∀ z ∈ zs, OD 3000 z) (fun done x rest e s' ⟨k8, zs, u, v, he, hzl, hz⟩ => ?_) _ [] _ _ ⟨Kp.refl k7.pot, ps, _, _, rfl, rfl, fun z hz => (hod z hz).mono (by omega)⟩ fun e s' ⟨k8, zs, u, v, he, hzl, hz⟩ => ?_
      · subst he
        simp! only []
        refine take_wp k8.pot (by omega) (by omega) fun i s9 i0 i1 k9 l9 => ?_
        obtain ⟨y, e1, e2⟩ := atI_nat (xs := ps) i0 (by omega)
        simp! only [dIx, e1]
        refine odd_wp k9.pot (hps y (List.mem_of_getElem? e2)) fun o s10 ho k10 => ?_
        have ei : ixN zs.length i = some i.toNat := by
          unfold ixN
          rw [if_pos i0, if_pos i1]
        simp! only [ei]
        refine ⟨(k8.trans k9).trans k10, _, _, _, rfl, by simp only [List.length_set]; exact hzl, fun z hz2 => ?_⟩
        rcases List.mem_or_eq_of_mem_set hz2 with h | h
        · exact hz z h
        · exact h ▸ ho
      · subst he
        have kz : Th (.lst zs) 100000 := th_lst hz (by omega) (by omega)
        simp! only []
        refine right_wp k8.pot (fit kz) fun s9 k9 => ?_
        have ec := cut_to (xs := zs) (k := 2)
        simp! only [dSl, show cutD zs none (some 2) = zs.take 2 from ec, dTuple]
        have kt : Th (.tup (zs.take 2)) 100000 := th_tup (fun z hz2 => hz z (List.mem_of_mem_take hz2)) (by omega) (by rw [List.length_take]; omega)
        refine right_wp k9.pot ⟨kt, (OO.ord (.inl (ps_non.mono (by omega) (by omega)))), sm_non.mono (by omega) (by omega)⟩ fun s10 k10 => ?_
        simp! only []
        refine take_wp k10.pot (by omega) (by omega) fun i s11 i0 i1 k11 l11 => ?_
        have kall := (((kk.trans k6).trans (k7.trans k8)).trans (k9.trans k10)).trans k11
        by_cases h0 : 0 < i
        · simp! only [h0]
          exact fin _ kall
        · simp! only [h0]
          obtain ⟨q, qs, rfl⟩ : ∃ q qs, ps = q :: qs := by
            cases ps with
            | nil => simp only [List.length_nil] at hl2; omega
            | cons q qs => exact ⟨q, qs, rfl⟩
          have ed : ∀ e : Env', e[3]? = some (.val (.lst (q :: qs))) → fDctIx 0 3 0 e s11 = .ok (.dct [(.int 0, q)]) s11 := fun e he => by
            unfold fDctIx
            rw [he]
            simp only [atI_zero]
          have em : dMulT (.lst (q :: qs)) (.int 9) s11 = .ok (.lst (List.replicate 9 (q :: qs)).flatten) s11 := by
            unfold dMulT dMul
            dsimp only
            rw [if_pos ⟨by omega, by omega, by rw [sizeLine_eq, show Int.toNat 9 = 9 from rfl]; simp only [List.length_cons] at hl2 ⊢; omega⟩]
            rfl
          have ec9 := cut_to (xs := (List.replicate 9 (q :: qs)).flatten) (k := 9)
          have ec9' : cutD (List.replicate 9 (q :: qs)).flatten none (some 9) = (List.replicate 9 (q :: qs)).flatten.take 9 := ec9
          have e3 : (fOp dMulT (fVar 3) (fC (.int 9))) [Sl.val (.ref n), Sl.val (.lst (vs.map D.str)), u, Sl.val (.lst (q :: qs)), Sl.val d, Sl.val (.lst zs), v, .no] s11 = .ok (.lst (List.replicate 9 (q :: qs)).flatten) s11 := by
            rw [show (fOp dMulT (fVar 3) (fC (.int 9))) [Sl.val (.ref n), Sl.val (.lst (vs.map D.str)), u, Sl.val (.lst (q :: qs)), Sl.val d, Sl.val (.lst zs), v, .no] s11 = dMulT (.lst (q :: qs)) (.int 9) s11 from rfl, em]
          generalize hrep : (List.replicate 9 (q :: qs)).flatten = big at *
          have hbig : big.length ≤ 81 ∧ ∀ x ∈ big, OD 300 x := by
            rw [← hrep]
            constructor
            · simp only [List.length_cons] at hl2
              simp only [List.replicate, List.flatten_cons, List.flatten_nil, List.length_append, List.length_cons, List.length_nil]
              omega
            · intro x hx
              obtain ⟨l, hl, hx⟩ := List.mem_flatten.mp hx
              rw [(List.mem_replicate.mp hl).2] at hx
              exact hod x hx
          simp! only [dIx, atI_zero, e3, dSl, ec9', ed]
          refine pick_wp k11.pot (by simp) (by simp) fun x s12 hx k12 l12 => ?_
          have hq := hod q (by simp)
          have tx : Th x 100000 := by
            simp only [List.mem_cons, List.mem_nil_iff, or_false] at hx
            rcases hx with rfl | rfl | rfl | rfl | rfl | rfl | rfl | rfl | rfl | rfl | rfl
            · exact th_sm sm_non (by omega) (by omega) (fun _ h => nomatch h) (fun _ h => nomatch h)
            · exact th_sm (sm_int (by decide)) (by omega) (by omega) (fun _ h => nomatch h) (fun _ h => nomatch h)
            · exact th_sm sm_bl (by omega) (by omega) (fun _ h => nomatch h) (fun _ h => nomatch h)
            · exact th_sm (ps_lits (by decide +kernel)).1 (by omega) (by omega) (fun _ h => nomatch h) (fun _ h => nomatch h)
            · exact th_sm sm_dct0 (by omega) (by omega) (fun _ h => nomatch h) (fun _ h => nomatch h)
            · exact th_lst (w := 0) (fun _ h => nomatch h) (by omega) (by simp)
            · exact th_tup (w := 0) (fun _ h => nomatch h) (by omega) (by simp)
            · obtain ⟨w, b, c, rfl, _⟩ := isLit_tup (hps x (by simp))
              have hL := hps _ (List.mem_cons_self)
              obtain ⟨pw, pb, pc⟩ := lit_parts hL
              refine ⟨(ps_lit hL).1.mono (by omega) (by omega), fun ys e y hy => ?_⟩
              rcases e with e | e <;> cases e
              simp only [List.mem_cons, List.mem_nil_iff, or_false] at hy
              rcases hy with rfl | rfl | rfl
              · exact (od_ps pw (by omega)).litP (by omega)
              · exact (od_ps pb (by omega)).litP (by omega)
              · exact (od_ps pc (by omega)).litP (by omega)
            · exact th_lst hbig.2 (by omega) (by omega)
            · exact th_lst (fun z hz2 => hbig.2 z (List.mem_of_mem_take hz2)) (by omega) (by rw [List.length_take]; omega)
            · exact th_sm (sm_dct1 (by decide) (ps_lit (hps q (by simp))).1) (by omega) (by omega) (fun _ h => nomatch h) (fun _ h => nomatch h)
          simp! only []
          exact right_wp k12.pot (fit tx) fun s13 k13 => fin _ ((kall.trans k12).trans k13)
theorem law_ok' (ns : List Int) (hl : ns.length ≤ 63) : ∃ s, fn_law [.rol (ns.map D.int)] [] = .ok (.bl true) s := by
  have h : (fn_law [.rol (ns.map D.int)] []).wp (fun v _ => v = .bl true) nE := by
    unfold fn_law F_law
    have dl : dLen [.rol (ns.map D.int)] [] = .ok (.int ns.length) [] := by simp only [dLen, List.length_map]
    obtain ⟨m, hm, h64⟩ : ∃ m : Nat, (if (if (ns.length : Int) < 8 then (ns.length : Int) else 8) > 1 then (if (ns.length : Int) < 8 then (ns.length : Int) else 8) else 1) = (m : Int) ∧ m ≤ 8 := by
      refine ⟨max 1 (min 8 ns.length), ?_, by omega⟩
      split <;> split <;> omega
    simp! only [dl, hm, rng1_nat (m := m) (by omega)]
    refine turns_wp (fun done rest e s' => done ++ rest = (List.range m).map (fun i : Nat => D.int (i : Int)) ∧ ∃ u, e = [Sl.val (.rol (ns.map D.int)), u]) (fun done x rest e s' ⟨h1, u, he⟩ => ?_) _ [] _ _ ⟨rfl, _, rfl⟩ fun e s' ⟨h1, u, he⟩ => ?_
    · subst he
      have hx : x ∈ (List.range m).map (fun i : Nat => D.int (i : Int)) := by rw [← h1]; simp
      obtain ⟨i, hi, rfl⟩ := List.mem_map.mp hx
      have hi := List.mem_range.mp hi
      simp! only []
      refine pot_wp (by omega) (by omega) fun s2 hp hl2 hsame => ?_
      simp! only []
      refine cell_wp hp fun s3 k3 => ?_
      simp! only []
      exact ⟨by rw [List.append_assoc]; exact h1, _, rfl⟩
    · subst he
      have pl : Pl (.lst [.int 8, .int 5, .int 1023]) := ⟨.list [.int 8, .int 5, .int 1023], rfl, by simp only [PyData.depth, PyData.depthAll]; omega⟩
      simp! only [eq_same pl (fun _ h => nomatch h)]
  obtain ⟨a, s, e, rfl⟩ := wp_get h
  exact ⟨s, e⟩
end
end Dv.P31

namespace D31
open PySem PySem.Spec PyProof.Rows L2 Cv Dv Dv.Sh
theorem law_ok (ns : List Int) (hl : ns.length ≤ 63) (hb : ∀ z ∈ ns, Builtin.Int.intBits z ≤ 1048576) : ∃ s, fn_law [.rol (ns.map D.int)] [] = .ok (.bl true) s := Dv.P31.law_ok' ns hl
end D31
namespace D31
open PySem PySem.Spec PyProof.Rows L2 Cv Dv
theorem lawF {P : Program} {w : World} {mg : Str → Option Value} {fa : Addr} {h : Heap} (Y : ∃ K : PySem.W.Frag, K.In h ∧ SaysP xsL fnL K) (G : h.Ns mainGlobals mg) (hmg : mg ("law" : Str) = some (.ref fa)) :
    ∃ (K : PySem.W.Frag) (fd : FuncData) (sp : Sp), K.In h ∧ (∀ (s : Shared) (u : Value), BindsTo s fd ⟨[u], []⟩ [("_law_script", u)]) ∧
        (∀ (H : Hp) (a : Addr) (ns : List Int), ns.length ≤ 63 → (∀ z ∈ ns, Builtin.Int.intBits z ≤ 1048576) → Only H → NoDT H → SqL K H a (ns.map V.int) → sp [.ref a] H (fun v _ => v = .bl true) fun _ _ _ => False) ∧
        ∀ base : Heap, K.In base → base.Ns mainGlobals mg → FnG P w K mg base (L2N.CX P w) 11 fa fd ["_law_script"] sp := by
  obtain ⟨K, KX, c⟩ := Y
  obtain ⟨A⟩ := facts KX G c
  obtain rfl : fa = A.f_law := by
    have e := hmg.symm.trans A.g_law
    injection e with e
    injection e
  exact ⟨K, A.fd_law, Dv.spD K mg 1 fn_law, KX, bindLaw A, fun H a ns hl hb _ nd hS => Dv.law_sp hS (law_ok ns hl hb), fun base _ _ => ok_law A⟩
end D31
open PySem PySem.W PySem.Calls PyProof.Rows
theorem PySem.Challenge.cw_coverstore_k31_queries_judged_holds : PySem.Challenge.rw_coverstore_k31_queries_judged.Holds := by
  w_on; o_law
  refine HandSHeadRun.head_any (r := D31.Rw) (q := view D31.Rw.prog [63]) (H := D31.hk) (ob := D31.ob) (loose := D31.topNames) (d := HandSHeadRun.topDef D31.Rw.prog 63) (kwd := []) D31.ob_eq
    (by kernel_rfl) (fun s => by kernel_rfl) D31.run (by kernel_rfl) (by kernel_rfl) (by kernel_rfl) (by rfl) (by first | assumption | decide +kernel) (by decide +kernel) ⟨rfl, rfl, rfl, rfl, rfl, by decide +kernel⟩ ?hw ?hc
  case hw => w_witness2
  case hc =>
    refine Dv.walkGN (l := PySem.Challenge.rw_coverstore_k31_queries_judged) (n := 63) (k := 11) (x := "_law_script") rfl (by decide) (by kernel_rfl) ⟨rfl, by decide, by decide⟩ ?F
    intro w mg fa h Y G hmg0
    have hmg : mg ("law" : PySem.Str) = some (.ref fa) := by
      have e : (HandSHeadRun.topDef D31.Rw.prog 63).name = ("law" : PySem.Str) := by kernel_rfl
      rw [← e]
      exact hmg0
    exact D31.lawF Y G hmg

