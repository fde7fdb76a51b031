import PyProof.Rows.All
import Wide.All
import OpenK.AllK
import Wide.FinOn
import HandS.ForMost
import HandS.ForExc
import HandS.Defaults
import HandS.HeadHook1
import HandS.More
import HandS.Words
import HandS.WordsExc
import KE.KeyNested
import HandS.Comp
import HandS.DictComp
import HandS.ListItems
import KE.KDictCopyH
import HandS.TupAny
import HandS.Wide
import HandS.Deep
import HandS.Dict
import HandS.Text
import HandS.Codes
import HandS.Flow
import HandS.Star
import HandS.CallSlots
import HandS.HeadWalk
import HandS.IsInst
import HandS.WordsDict
import KE.SortData
import HandS.Finally
import HandS.Conv
import HandS.Iter
import KE.GoesEnum
import KE.GoesMore
import HandS.Small
import HandS.Style
import HandS.OwnEq
import HandS.ExcInit
import HandS.ExcSuper
import KE.KExcSuper
import KE.KSuper
import HandS.ExcField
import KE.KExcIs
import HandS.HotCalls
import HandS.HeadHook2
import HandS.HeadEnd
import HandS.EndBits
import KE.KStateDown
import Lean
import HandS.Ends
import HandS.Head0
import HandS.Head1
import HandS.Head2
import PySem.Challenge.RW_heapcode_k00_errors_made_from_their_fiel
set_option Elab.async false
set_option linter.all false
set_option maxRecDepth 100000
set_option maxHeartbeats 0
noncomputable section
namespace ZN
open PySem PySem.Spec PyProof.Rows L2
set_option autoImplicit false
abbrev En := NestedKey × Addr × Value
def entN (w : World) (x : En) : DictEntry := ⟨x.1.hash w, .ref x.2.1, x.2.2⟩
def NestO (w : World) (a : Addr) (xs : List En) : HO := .ext fun h => xs.length ≤ sizeLine ∧ (a == sysModules) = false ∧ ∃ o es ep, h.get? a = some o ∧ o.ExactDict ∧ o.data = .dict es ep ∧ es.toList = xs.map (entN w) ∧ (xs.map (·.1)).Nodup
mutual
inductive NK (K : PySem.W.Frag) (H : Hp) : NestedKey → V → Prop
  | non : NK K H .none .non
  | bl (b : Bool) : NK K H (.num (if b = true then 1 else 0)) (.bl b)
  | int (i : Int) : NK K H (.num i) (.int i)
  | str (x : Str) : NK K H (.text x) (.str x)
  | tup {a : Addr} {ks : List NestedKey} {vs : List V} : SqT K H a vs → NKs K H ks vs → NK K H (.tup ks) (.ref a)
inductive NKs (K : PySem.W.Frag) (H : Hp) : List NestedKey → List V → Prop
  | nil : NKs K H [] []
  | cons {k : NestedKey} {v : V} {ks : List NestedKey} {vs : List V} : NK K H k v → NKs K H ks vs → NKs K H (k :: ks) (v :: vs)
end
section
variable {P : Program} {w : World} {K : PySem.W.Frag} {H : Hp} {h : Heap}
theorem sqT_at (ok : HOk P w H h) (kin : K.In h) {a : Addr} {vs : List V} (q : SqT K H a vs) : ∃ (o : Obj) (its : Array Value) (n : Nat), h.get? a = some o ∧ o.cls = .type "tuple" ∧ o.data = .seq its n ∧ Vals vs its.toList := by
  rcases q with q | ⟨o, its, n, h1, h2, h3, _, h5⟩
  · obtain ⟨_, its, r, o, h1, h2, n, h3⟩ := (show ObjOk P w H h a (.tup vs) from q.ok ok)
    exact ⟨o, its.toArray, n, h1, h2, h3, by simpa using r⟩
  · exact ⟨o, its, n, kin a o h1, h2, h3, h5⟩
mutual
theorem nk_is (ok : HOk P w H h) (kin : K.In h) : ∀ {k : NestedKey} {v : V} {u : Value}, NK K H k v → RelV v u → NestedIs h k u
  | _, _, _, .non, r => by cases (show _ = Value.none from r); exact .none
  | _, _, _, .bl b, r => by cases (show _ = Value.bool b from r); exact .bool rfl
  | _, _, _, .int i, r => by obtain ⟨t, e⟩ := r; subst e; exact .int i t
  | _, _, _, .str x, r => by obtain ⟨t, e⟩ := r; subst e; exact .text x t
  | _, _, _, .tup (a := a) q n, r => by
    cases (show _ = Value.ref a from r)
    obtain ⟨o, its, m, h1, h2, h3, h4⟩ := sqT_at ok kin q
    exact .tup h1 h2 h3 (nks_is ok kin n h4)
theorem nks_is (ok : HOk P w H h) (kin : K.In h) : ∀ {ks : List NestedKey} {vs : List V} {us : List Value}, NKs K H ks vs → Vals vs us → NestedAll h ks us
  | _, _, _, .nil, .nil => .nil
  | _, _, _, .cons n t, .cons r rs => .cons (nk_is ok kin n r) (nks_is ok kin t rs)
end
def KeysN (K : PySem.W.Frag) (H : Hp) (xs : List En) : Prop := ∀ x ∈ xs, NK K H x.1 (.ref x.2.1) ∧ x.1.depth ≤ 8
theorem dn_of (ok : HOk P w H h) (kin : K.In h) {a : Addr} {xs : List En} (e : H a = some (NestO w a xs)) (ks : KeysN K H xs) : xs.length ≤ sizeLine ∧ (a == sysModules) = false ∧ h.DictOfH (nestedKind P w) a xs := by
  obtain ⟨⟨z, y, o, es, ep, h1, h2, h3, h4, h5⟩, _, _⟩ := (show ObjOk P w H h a (NestO w a xs) from ok a _ e)
  exact ⟨z, y, o, es, ep, h1, h2, h3, h4, fun x hx => ⟨nk_is ok kin (ks x hx).1 rfl, (ks x hx).2⟩, h5⟩
theorem no_ok {a : Addr} {xs : List En} (z : xs.length ≤ sizeLine) (y : (a == sysModules) = false) {o : Obj} {es : Array DictEntry} {ep : Nat} (h1 : h.get? a = some o) (h2 : o.ExactDict) (h3 : o.data = .dict es ep) (h4 : es.toList = xs.map (entN w)) (h5 : (xs.map (·.1)).Nodup) : ObjOk P w H h a (NestO w a xs) :=
  ⟨⟨z, y, o, es, ep, h1, h2, h3, h4, h5⟩, ⟨o, h1⟩, fun ha hb ⟨z, y, o, es, ep, h1, h2, h3, h4, h5⟩ st => ⟨z, y, o, es, ep, st o h1, h2, h3, h4, h5⟩⟩
end
section
variable {X : Cx} {pins : List (Addr × Obj)} {σ : L2.St} {H : Hp} {s : Shared} {a b : Addr} {k : NestedKey} {xs : List En} {A : Around} {E : Value → Shared → Prop}
theorem room8 (hu : A.units + 9 < cLine) : (nestedKind X.prog X.w).room A.in1 := by
  show A.in1.units + 8 < cLine
  have : A.in1.units = A.units + 1 := rfl
  omega
end
end ZN
end
noncomputable section
namespace ZN
open PySem PySem.Spec PyProof.Rows L2
set_option autoImplicit false
def DSet (X : Cx) (G : Hp) (D : Addr) (y z : V) (G' : Hp) : Prop := ∀ (Y : Cx), Y.prog = X.prog → Y.w = X.w → Y.K = X.K → ∀ (pins : List (Addr × Obj)) (σ : L2.St) (s : Shared) (E : Value → Shared → Prop) (Q : Unit → Shared → Prop) (u r : Value),
  Inv Y pins σ G s → RelV y u → RelV z r → (∀ s', Inv Y pins σ G' s' → Q () s') → wpAny (model X.prog X.w) X.A (dictSet D u r) Q E s
section
variable {X : Cx}
def tDcG (X : Cx) (wi : TI) (g : TG) (tt : TT) (tk tv : TE) (own : List Nat) : TE := fun σ G Q => wi σ G fun J G1 => ∀ D, G1 D = none → ∃ W : Nat → Nat → Hp → Prop, (∃ m, W 0 m (upd G1 D (.dK []))) ∧ ∀ i m G2, W i m G2 →
  (J.stop i G2 ∧ Q (.ref D) G2) ∨ (J.go i G2 ∧ ∃ Nx : Hp → Prop, (∀ G3, Nx G3 → ∃ j, j < m ∧ W (i + 1) j G3) ∧ ∀ x G3, J.yld i G2 x G3 → g x (wipe σ own) G3 fun τ G4 => wipe τ own = wipe σ own ∧ tt τ G4 fun b G5 =>
    if b = true then tk τ G5 fun y G6 => tv τ G6 fun z G7 => ∃ G8, DSet X G7 D y z G8 ∧ Nx G8 else Nx G5)
theorem dcG_core {pins : List (Addr × Obj)} {s : Shared} {σ : L2.St} {H : Hp} {Q : VK} {kx vx tg iter : Expr} {ifs : List Expr} {scope : Scope} {own : List (Str × Nat)} {pos pos' : Pos} {wi : TI} {g : TG} {tt : TT} {tk tv : TE} {use : Option (Value → Sem Unit)} {Qf : Value → Shared → Prop}
    (calm : X.calm = true) (nd : X.N.Nodup) (I : Inv X pins σ H s) (pi : PI X tg iter wi) (ok : BlkOk X.N X.env.scope scope own)
    (pg : ∀ (s : Shared) (G : Hp) (C : Addr) (cl : List (Str × Addr)) (fp : List Addr), PG (X.blk s G scope (compEnvC scope cl C X.env) fp) tg g)
    (pt : ∀ (s : Shared) (G : Hp) (C : Addr) (cl : List (Str × Addr)) (fp : List Addr), PTs (X.blk s G scope (compEnvC scope cl C X.env) fp) ifs tt)
    (pk : ∀ (s : Shared) (G : Hp) (C : Addr) (cl : List (Str × Addr)) (fp : List Addr), PE (X.blk s G scope (compEnvC scope cl C X.env) fp) kx tk)
    (pv : ∀ (s : Shared) (G : Hp) (C : Addr) (cl : List (Str × Addr)) (fp : List Addr), PE (X.blk s G scope (compEnvC scope cl C X.env) fp) vx tv) (fs : ∀ x, foldedSetIterable iter X.env x = pure x)
    (h : tDcG X wi g tt tk tv (own.map (·.2)) σ H Q)
    (out : ∀ D C s' m G, Inv X pins σ G s' → Q (.ref D) G → s'.heap.Ns C m → FpOk X pins G C → compPost (model X.prog X.w) X.A X.xe use Qf (.ref D) C (.ok .next) s') :
    wpAny (model X.prog X.w) X.A (comprehension (.DictComp kx vx [⟨tg, iter, ifs, 0⟩] scope pos) scope X.env pos' newDict false (eval iter X.env) use) Qf X.xe s := by
  have caps : ∀ y ∈ scope.names, y.2 = .free → ∃ c, X.env.cells.lookup y.1 = some c := fun y m e => (ok.free y m e).elim (fun k => I.ok.has _ (.inl k)) fun k => I.ok.has _ (.inr k)
  refine wpAny_comprehension_free (use := use) rfl fs (closure_ok caps) ok.kind (fun y m e => by rw [ok.uniq y m, e]) (thn (pi.run pins s σ H _ I h) fun v0 s1 a1 => thn a1 fun v1 s2 a2 => ?_)
  obtain ⟨it, fp, tn, J, G2, rfl, I2, T, w2, f2, q⟩ := a2
  refine wpAny_newObj_type (newEnv_comp ?_)
  generalize eD : s2.heap.objs.size = D
  obtain ⟨W, ⟨m0, w0⟩, turn⟩ := q D (I2.hok.fresh (Nat.le_of_eq eD))
  generalize e3 : ({ s2 with heap := s2.heap.push { cls := .type "dict", data := .dict #[] } } : Shared) = s3
  have I3 : Inv X pins σ (upd G2 D (.dK [])) s3 := by
    subst e3 eD
    exact I2.laid (t' := s2.toks) (fun b o e => Heap.get?_push_of_some _ e) (Nat.le_refl _) (dk_empty s2.heap I2.big)
  have h3 : s3.heap = s2.heap.push { cls := .type "dict", data := .dict #[] } := by subst e3; rfl
  have f3 : ∀ b ∈ fp, FpOk X pins (upd G2 D (.dK [])) b ∧ b < s3.heap.objs.size := fun b mb => by
    obtain ⟨o, e, _⟩ := T.obj _ _ w2 b mb
    have lt := Heap.lt_size e
    exact ⟨⟨by rw [upd_ne (by rw [← eD]; exact Nat.ne_of_lt lt)]; exact (f2 b mb).1, (f2 b mb).2⟩, by rw [h3, Heap.size_push]; exact Nat.lt_succ_of_lt lt⟩
  have t3 : tn 0 s3.heap := T.keep _ _ _ w2 fun b _ o e => by rw [h3]; exact Heap.get?_push_of_some _ e
  have I4 := block_start I3 ok nd f3
  have pg := pg s3 (upd G2 D (.dK [])) s3.heap.objs.size (cellsFrom (s3.heap.objs.size + 1) scope.names (cloFrom X.env.cells scope.names [])) fp
  have pt := pt s3 (upd G2 D (.dK [])) s3.heap.objs.size (cellsFrom (s3.heap.objs.size + 1) scope.names (cloFrom X.env.cells scope.names [])) fp
  have pk := pk s3 (upd G2 D (.dK [])) s3.heap.objs.size (cellsFrom (s3.heap.objs.size + 1) scope.names (cloFrom X.env.cells scope.names [])) fp
  have pv := pv s3 (upd G2 D (.dK [])) s3.heap.objs.size (cellsFrom (s3.heap.objs.size + 1) scope.names (cloFrom X.env.cells scope.names [])) fp
  show codeAny _ _ (.compStart (.DictComp kx vx [⟨tg, iter, ifs, 0⟩] scope pos) 0 (.ref it) (.ref D) (compEnvC scope (cellsFrom (s3.heap.objs.size + 1) scope.names (cloFrom X.env.cells scope.names [])) s3.heap.objs.size X.env)) (compPost (model X.prog X.w) X.A X.xe use Qf (.ref D) s3.heap.objs.size) _
  have n3 : ∀ b ∈ fp, (upd G2 D (.dK [])) b = none := fun b mb => (f3 b mb).1.1
  generalize ece : compEnvC scope (cellsFrom (s3.heap.objs.size + 1) scope.names (cloFrom X.env.cells scope.names [])) s3.heap.objs.size X.env = ce at I4 pg pt pk pv ⊢
  have cL : ce.locals = s3.heap.objs.size := by subst ece; rfl
  generalize eG3 : upd G2 D (.dK []) = G3 at I3 I4 pg pt pk pv w0 n3 f3
  generalize e4 : ({ s3 with heap := pushCells (s3.heap.push { cls := .type "dict", data := .dict #[] }) scope.names } : Shared) = s4 at I4 ⊢
  have t4 : tn 0 s4.heap := T.keep _ _ _ t3 fun b _ o e => by rw [← e4]; exact pushCells_keeps _ _ _ _ (Heap.get?_push_of_some _ e)
  have stat : ∀ {τ : L2.St} {G : Hp} {s' : Shared}, Inv (X.blk s3 G3 scope ce fp) [] τ G s' → (∀ b ∈ fp, G b = none) → ∀ b ∈ fp, FpOk (X.blk s3 G3 scope ce fp) [] G b := fun I' hn b mb =>
    ⟨hn b mb, (I'.ok.exf b mb).1, I'.ok.exfs b mb, .inl mb, fun x c e => (I'.ok.exf b mb).2 x c e, fun p hp => absurd (show p ∈ ([] : List (Addr × Obj)) ++ [] from hp) (by simp)⟩
  have loop : codeAny (model X.prog X.w) X.A (.compLoop (.DictComp kx vx [⟨tg, iter, ifs, 0⟩] scope pos) 0 (.ref it) (.ref D) ce) (compPost (model X.prog X.w) X.A X.xe use Qf (.ref D) s3.heap.objs.size) s4 := by
    refine compLoop_anyD (fun n s' => ∃ i G, Inv (X.blk s3 G3 scope ce fp) [] (wipe σ (own.map (·.2))) G s' ∧ tn i s'.heap ∧ (∀ b ∈ fp, G b = none) ∧ W i n G) ?_ m0 ⟨0, G3, I4, t4, n3, w0⟩
    rintro n s5 ⟨i, G5, I5, t5, n5, w5⟩
    rcases turn i n G5 w5 with ⟨stop, qq⟩ | ⟨go, Nx, hNx, step⟩
    · refine thnF (T.done (X.blk s3 G3 scope ce fp) rfl rfl rfl calm i [] s5 _ G5 (fun _ _ => False) I5 (stat I5 n5) t5 stop) fun r s6 ⟨hr, I6⟩ => ?_
      subst hr
      have I7 : Inv X pins σ G5 s6 := I3.call' (ch := fp) I6.os I6.base I6.hok I6.bare fun b mb => ⟨(f3 b mb).1.2.2.2.1, (f3 b mb).1.2.1, (f3 b mb).1.2.2.2.2.1, (f3 b mb).1.2.2.2.2.2⟩
      have fr : G5 s3.heap.objs.size = none := cL ▸ (show G5 ce.locals = none from I6.free)
      obtain ⟨m, hn, _⟩ := I6.loc
      have hn : s6.heap.Ns s3.heap.objs.size m := cL ▸ (show s6.heap.Ns ce.locals m from hn)
      exact out D s3.heap.objs.size s6 m G5 I7 qq hn (I3.fpOk (Nat.le_refl _) fr)
    · refine thnF (T.item (X.blk s3 G3 scope ce fp) rfl rfl rfl calm i [] s5 _ G5 (fun _ _ => False) I5 (stat I5 n5) t5 go) fun r s6 ⟨u, hr, a6⟩ => ?_
      subst hr
      refine thnF a6 fun _ s7 ⟨x, G7, I7, r7, y7, t7, n7⟩ => ?_
      refine thnF (pg.run _ s7 _ G7 x u _ (I7.pinned (stat I7 n7) (T.obj _ _ t7)) r7 (step x G7 y7)) fun _ s8 ⟨τ, G8, I8, ew, q8⟩ => ?_
      refine thnF (pt.run _ s8 τ G8 _ I8 q8) fun b s9 ⟨G9, I9, q9⟩ => ?_
      have fin : ∀ {s' : Shared} {G : Hp}, Inv (X.blk s3 G3 scope ce fp) ([] ++ pinsAt fp s7.heap) τ G s' → Nx G → ∃ m, m < n ∧ ∃ i G, Inv (X.blk s3 G3 scope ce fp) [] (wipe σ (own.map (·.2))) G s' ∧ tn i s'.heap ∧ (∀ b ∈ fp, G b = none) ∧ W i m G := fun {s' G} I' nx => by
        obtain ⟨j, hj, wj⟩ := hNx G nx
        have pin' : ∀ b ∈ fp, ∀ o, s7.heap.get? b = some o → s'.heap.get? b = some o ∧ G b = none := fun b mb o e =>
          have z := I'.pin (b, o) (List.mem_append_right _ (List.mem_append_right _ (mem_pinsAt mb e)))
          ⟨z.1, z.2.1⟩
        refine ⟨j, hj, i + 1, G, (I'.unpinned (pins := [])).weak (by rw [← ew, wipe_length]) (fun c v e => (wipe_some (ew ▸ e)).1), T.keep _ _ _ t7 fun b mb o e => (pin' b mb o e).1, fun b mb => ?_, wj⟩
        obtain ⟨o, e, _⟩ := T.obj _ _ t7 b mb
        exact (pin' b mb o e).2
      cases b with
      | false =>
        simp only [Bool.false_eq_true, if_false] at q9 ⊢
        exact fin I9 q9
      | true =>
        simp only [if_true] at q9 ⊢
        refine thnF (pk.run _ s9 τ G9 _ I9 q9) fun z1 s10 ⟨y, G10, I10, r10, q10⟩ => ?_
        refine thnF (pv.run _ s10 τ G10 _ I10 q10) fun z2 s11 ⟨z, G11, I11, r11, G12, ds, nx⟩ => ?_
        exact ds (X.blk s3 G3 scope ce fp) rfl rfl rfl _ τ s11 _ _ z1 z2 I11 r10 r11 fun s12 I12 => fin I12 nx
  exact codeAny_compStart_dict loop (T.self X.A 0 _ _ _ t4 loop)
theorem pe_dcG {kx vx tg iter : Expr} {ifs : List Expr} {scope : Scope} {own : List (Str × Nat)} {pos : Pos} {wi : TI} {g : TG} {tt : TT} {tk tv : TE} (calm : X.calm = true) (nd : X.N.Nodup) (pi : PI X tg iter wi) (ok : BlkOk X.N X.env.scope scope own)
    (pg : ∀ (s : Shared) (G : Hp) (C : Addr) (cl : List (Str × Addr)) (fp : List Addr), PG (X.blk s G scope (compEnvC scope cl C X.env) fp) tg g)
    (pt : ∀ (s : Shared) (G : Hp) (C : Addr) (cl : List (Str × Addr)) (fp : List Addr), PTs (X.blk s G scope (compEnvC scope cl C X.env) fp) ifs tt)
    (pk : ∀ (s : Shared) (G : Hp) (C : Addr) (cl : List (Str × Addr)) (fp : List Addr), PE (X.blk s G scope (compEnvC scope cl C X.env) fp) kx tk)
    (pv : ∀ (s : Shared) (G : Hp) (C : Addr) (cl : List (Str × Addr)) (fp : List Addr), PE (X.blk s G scope (compEnvC scope cl C X.env) fp) vx tv) (fs : ∀ x, foldedSetIterable iter X.env x = pure x := by intro _; rfl) :
    PE X (.DictComp kx vx [⟨tg, iter, ifs, 0⟩] scope pos) (tDcG X wi g tt tk tv (own.map (·.2))) := ⟨fun pins s σ G Q I h => by
  rw [arm_eval_DictComp]
  refine dcG_core calm nd I pi ok pg pt pk pv fs h fun D C s' m G' J q hn f => ⟨m, hn, fun h2 sb => ?_⟩
  obtain ⟨c0, c1, _, c3, c4, c5⟩ := f
  exact ⟨.ref D, G', J.turned (t' := s'.toks) (fun b o nb e => (sb.2 b nb).trans e) c0 c1 c3 c4 c5, rfl, q⟩⟩
end
end ZN
end
noncomputable section
namespace ZN
open PySem PySem.Spec PyProof.Rows L2
set_option autoImplicit false
section
variable {X : Cx} {e : Expr} {te : TE} {p apos cpos pos : Pos}
def rListN (X : Cx) : List V → Hp → VK → Prop := fun ys G Q => ∃ (a : Addr) (xs : List En), ys = [.ref a] ∧ G a = some (NestO X.w a xs) ∧ ∀ p, G p = none → Q (.ref p) (upd G p (.lst (xs.map fun x => .ref x.2.1)))
theorem vals_keys : ∀ xs : List En, Vals (xs.map fun x => V.ref x.2.1) (xs.map fun x => Value.ref x.2.1)
  | [] => .nil
  | _ :: xs => .cons rfl (vals_keys xs)
theorem call_listN (hc : X.calm = true) : CallR X (.type "list") (rListN X) := by
  intro pins s σ G ys us Q I rs h
  obtain ⟨d, xs, rfl, hd, q⟩ := h
  cases rs with
  | cons r t =>
  cases t
  rename_i u
  obtain rfl : u = Value.ref d := r
  obtain ⟨⟨hz, hn, o, es, ep, h1, h2, h3, h4, _⟩, _, _⟩ := (show ObjOk X.prog X.w G s.heap d (NestO X.w d xs) from I.hok d _ hd)
  have raw : s.heap.DictRaw d es ep := ⟨o, h1, h2, h3⟩
  have sz : es.size = xs.length := by rw [← Array.length_toList, h4, List.length_map]
  refine PySem.W.kdl_call (PySem.KdlSrc.rawDict (d := d) (es := es) (ep := ep) hn) (I.ok.hd hc) raw (by omega) fun h' tk acc c hk hS hacc => ?_
  have ra : Vals (xs.map fun x => V.ref x.2.1) acc.toList := by
    have ea : acc.toList = xs.map fun x => Value.ref x.2.1 := by
      apply List.ext_getElem?
      intro j
      by_cases hj : j < es.size
      · have hj2 : j < acc.size := by rw [hacc.1]; exact hj
        obtain ⟨hi, e1⟩ := hacc.2 j acc[j] (by simp [hj2])
        have e2 : es.toList[j]? = (xs.map (entN X.w))[j]? := by rw [h4]
        rw [List.getElem?_map] at e2 ⊢
        rw [Array.getElem?_toList, Array.getElem?_eq_getElem hj2, e1]
        rw [Array.getElem?_toList, Array.getElem?_eq_getElem hj] at e2
        cases qx : xs[j]? with
        | none => rw [qx] at e2; cases e2
        | some y =>
          rw [qx] at e2
          have e3 := Option.some.inj e2
          show some es[j].key = some (Value.ref y.2.1)
          rw [e3]; rfl
      · rw [List.getElem?_eq_none (by rw [Array.length_toList, hacc.1]; omega), List.getElem?_eq_none (by rw [List.length_map]; omega)]
    rw [ea]; exact vals_keys xs
  exact ⟨.ref _, _, I.laid (o := .lst (xs.map fun x => V.ref x.2.1)) (t' := tk) hk (Nat.le_refl _) ⟨by rw [List.length_map]; omega, acc.toList, c, ra, by rw [Array.toArray_toList]; exact hS⟩, rfl, q _ (I.hok.fresh (Nat.le_refl _))⟩
end
end ZN
end
noncomputable section
namespace ZN
open PySem PySem.Spec PyProof.Rows L2
set_option autoImplicit false
section
variable {P : Program} {w : World} {K : PySem.W.Frag} {H : Hp} {h : Heap}
theorem dk0_of (ok : HOk P w H h) {a : Addr} (e : H a = some (.dK [])) : (a == sysModules) = false ∧ h.DictOfH (nestedKind P w) a [] := by
  obtain ⟨z, y, vs, r, o, es, ep, h1, h2, h3, _, h5, _⟩ := (show ObjOk P w H h a (.dK []) from ok a _ e)
  cases r
  cases hs : es.toList with
  | cons x l => rw [hs] at h5; cases h5
  | nil => exact ⟨y, o, es, ep, h1, h2, h3, by rw [hs]; rfl, fun x hx => absurd hx (by simp), by simp⟩
def IsN (w : World) (H : Hp) (a : Addr) (xs : List En) : Prop := H a = some (NestO w a xs) ∨ (H a = some (.dK []) ∧ xs = [])
theorem isn_of (ok : HOk P w H h) (kin : K.In h) {a : Addr} {xs : List En} (e : IsN w H a xs) (ks : KeysN K H xs) : xs.length ≤ sizeLine ∧ (a == sysModules) = false ∧ h.DictOfH (nestedKind P w) a xs := by
  rcases e with e | ⟨e, rfl⟩
  · exact dn_of ok kin e ks
  · obtain ⟨y, dd⟩ := dk0_of ok e
    exact ⟨by simp, y, dd⟩
theorem isn_raw (ok : HOk P w H h) {a : Addr} {xs : List En} (e : IsN w H a xs) : xs.length ≤ sizeLine ∧ (a == sysModules) = false ∧ ∃ o es ep, h.get? a = some o ∧ o.ExactDict ∧ o.data = .dict es ep ∧ es.toList = xs.map (entN w) := by
  rcases e with e | ⟨e, rfl⟩
  · obtain ⟨⟨hz, hn, o, es, ep, h1, h2, h3, h4, _⟩, _, _⟩ := (show ObjOk P w H h a (NestO w a xs) from ok a _ e)
    exact ⟨hz, hn, o, es, ep, h1, h2, h3, h4⟩
  · obtain ⟨y, o, es, ep, h1, h2, h3, h4, _⟩ := dk0_of ok e
    exact ⟨by simp, y, o, es, ep, h1, h2, h3, h4⟩
theorem isn_mut {a : Addr} {xs : List En} (e : IsN w H a xs) : Mut (H a) := by
  rcases e with e | ⟨e, _⟩ <;> rw [e] <;> exact True.intro
end
section
variable {X : Cx} {pins : List (Addr × Obj)} {σ : L2.St} {H : Hp} {s : Shared} {a b : Addr} {k : NestedKey} {xs : List En} {A : Around} {E : Value → Shared → Prop}
theorem in_N {Q : Value → Shared → Prop} (hu : A.units + 9 < cLine) (I : Inv X pins σ H s) (e : IsN X.w H a xs) (ks : KeysN X.K H xs) (hk : NK X.K H k (.ref b)) (hd : k.depth ≤ 8) (h : ∀ s', Inv X pins σ H s' → Q (.bool (atKey xs k).isSome) s') :
    wpAny (model X.prog X.w) A (compareOp .In (.ref b) (.ref a)) Q E s := by
  obtain ⟨z, y, dd⟩ := isn_of I.hok I.kIn e ks
  exact wpAny_in_heap (room8 hu) ⟨nk_is I.hok I.kIn hk rfl, hd⟩ y dd (h _ (I.tok _))
theorem notIn_N {Q : Value → Shared → Prop} (hu : A.units + 9 < cLine) (I : Inv X pins σ H s) (e : IsN X.w H a xs) (ks : KeysN X.K H xs) (hk : NK X.K H k (.ref b)) (hd : k.depth ≤ 8) (h : ∀ s', Inv X pins σ H s' → Q (.bool (!(atKey xs k).isSome)) s') :
    wpAny (model X.prog X.w) A (compareOp .NotIn (.ref b) (.ref a)) Q E s := by
  obtain ⟨z, y, dd⟩ := isn_of I.hok I.kIn e ks
  exact wpAny_notIn_heap (room8 hu) ⟨nk_is I.hok I.kIn hk rfl, hd⟩ y dd (h _ (I.tok _))
theorem set_N {r : Value} {Q : Unit → Shared → Prop} (hu : A.units + 9 < cLine) (I : Inv X pins σ H s) (e : IsN X.w H a xs) (ks : KeysN X.K H xs) (hk : NK X.K H k (.ref b)) (hd : k.depth ≤ 8) (hl : xs.length < sizeLine)
    (h : ∀ s', Inv X pins σ (upd H a (NestO X.w a (storedH xs k b r))) s' → Q () s') :
    wpAny (model X.prog X.w) A (setItem (.ref a) (.ref b) r) Q E s := by
  obtain ⟨z, y, dd⟩ := isn_of I.hok I.kIn e ks
  have hz : (storedH xs k b r).length ≤ sizeLine := by
    unfold storedH
    split
    · simpa using z
    · simp; omega
  refine wpAny_setItem_heap (hsz := z) (room8 hu) ⟨nk_is I.hok I.kIn hk rfl, hd⟩ dd fun h' dd' hs => h _ ?_
  obtain ⟨q, es, ep, hq, h2, h3, h4, _, h5⟩ := dd'
  exact d_write I (isn_mut e) hs ⟨q, hq⟩ (no_ok hz y hq h2 h3 h4 h5)
end
section
variable {X : Cx} {e : Expr} {te : TE} {p apos cpos pos : Pos}
theorem ds_N {G : Hp} {D b : Addr} {k : NestedKey} {xs : List En} {z : V} {G' : Hp} (hu : X.A.units + 8 < cLine) (e : IsN X.w G D xs) (ks : KeysN X.K G xs) (hk : NK X.K G k (.ref b)) (hd : k.depth ≤ 8) (hl : xs.length < sizeLine)
    (he : ∀ r, RelV z r → upd G D (NestO X.w D (storedH xs k b r)) = G') : DSet X G D (.ref b) z G' := by
  intro Y e1 e2 e3 pins σ s E Q u r I ry rz h
  cases (show u = Value.ref b from ry)
  have ok := I.hok
  have kin := I.kIn
  rw [e1, e2] at ok
  rw [e3] at kin
  obtain ⟨z0, y0, dd⟩ := isn_of ok kin e ks
  have hz : (storedH xs k b r).length ≤ sizeLine := by
    unfold storedH
    split
    · simpa using z0
    · simp; omega
  refine wpAny_dictSet_heap (hsz := z0) (knd := nestedKind X.prog X.w) hu ⟨nk_is ok kin hk rfl, hd⟩ dd fun h' dd' hs => h _ ?_
  obtain ⟨q, es, ep, hq, h2, h3, h4, _, h5⟩ := dd'
  rw [← he r rz]
  refine d_write I (isn_mut e) hs ⟨q, hq⟩ ?_
  rw [e1, e2]
  exact no_ok hz y0 hq h2 h3 h4 h5
def tLVN (X : Cx) (te : TE) : TE := fun σ G Q => te σ G fun x G1 => ∃ (a : Addr) (xs : List En) (vs : List V), x = .ref a ∧ IsN X.w G1 a xs ∧ Vals vs (xs.map (·.2.2)) ∧ ∀ p, G1 p = none → Q (.ref p) (upd G1 p (.lst vs))
theorem pe_listVN (hc : X.calm = true) (he : PE X e te) (hg : Gl X "list") (hm : X.mg "list" = none) (hv : bootBuiltins "list" = some (.type "list")) (hbase : attributeBase e "values" X.env (eval e X.env) = eval e X.env := by rfl)
    (hline : (apos.endLine == cpos.line) = true := by rfl) (hs : starEach [.Call (.Attribute e "values" apos) [] [] cpos] X.env = (false, eval (.Call (.Attribute e "values" apos) [] [] cpos) X.env) :: starEach [] X.env := by rfl) :
    PE X (.Call (.Name "list" p) [.Call (.Attribute e "values" apos) [] [] cpos] [] pos) (tLVN X te) := ⟨fun pins s σ G Q I hq => by
  refine wpAny_Call_Name_kw (ld_blt I hg hm hv (PyProof.Rows.callWith_type1 ?_ hs rfl))
  rw [hs]
  show wpAny _ _ (spliced ((false, eval (.Call (.Attribute e "values" apos) [] [] cpos) X.env) :: backTo pos (starEach [] X.env))) _ _ s
  refine Calls.spliced_cons (wpAny_Call_method (T := "dict") (id := "dict.values") hbase rfl hline F.plainAttrs_dict F.slot_dict_values F.type_dict_values (thn (he.run pins s σ G _ I hq) fun u s1 ⟨x, G1, I1, rx, d, xs, vs, ex, hd, rv, q⟩ => ?_))
  subst ex
  obtain rfl : u = Value.ref d := rx
  obtain ⟨hz, hn, o, es, ep, h1, h2, h3, h4⟩ := isn_raw I1.hok hd
  have raw : s1.heap.DictRaw d es ep := ⟨o, h1, h2, h3⟩
  have sz : es.size = xs.length := by rw [← Array.length_toList, h4, List.length_map]
  have I2 : Inv X pins σ G1 { s1 with heap := s1.heap.push { cls := .type "dict_values", data := .fields #[.ref d] } } := I1.kept (t' := s1.toks) fun b ob q => Heap.get?_push_of_some _ q
  refine ⟨raw.typeIs, fun b eb => ⟨o, by cases eb; exact h1, h2.2.1⟩, ?_⟩
  show wpAny _ _ (callWith cpos (.builtin "dict.values") [.ref d] [] []) _ X.xe s1
  refine method_meetsIn F.slot_dict_values F.entry_dict_values rfl (PySem.evalArgs_none ⟨rfl, raw.typeIs, F.args_dict_values_1 _, _, meets_dict_values_raw d hn, ⟨⟨es, ep, raw⟩, ?_⟩⟩)
  refine Calls.spliced_nil ?_
  refine PySem.W.kdl_call (PySem.KdlSrc.rawValues (d := d) (es := es) (ep := ep)) (I1.ok.hd hc) ⟨⟨_, Heap.get?_push_size _ rfl, rfl, rfl⟩, raw.at fun o e => Heap.get?_push_of_some _ e⟩ (by omega) fun h' tk acc c hk hS hacc => ?_
  have lv : vs.length = xs.length := by have := rv.length; simpa using this
  have ra : Vals vs acc.toList := by
    have ea : acc.toList = xs.map (·.2.2) := by
      apply List.ext_getElem?
      intro j
      by_cases hj : j < es.size
      · have hj2 : j < acc.size := by rw [hacc.1]; exact hj
        obtain ⟨hi, e1⟩ := hacc.2 j acc[j] (by simp [hj2])
        have e2 : es.toList[j]? = (xs.map (entN X.w))[j]? := by rw [h4]
        rw [List.getElem?_map] at e2 ⊢
        rw [Array.getElem?_toList, Array.getElem?_eq_getElem hj2, e1]
        rw [Array.getElem?_toList, Array.getElem?_eq_getElem hj] at e2
        cases qx : xs[j]? with
        | none => rw [qx] at e2; cases e2
        | some y =>
          rw [qx] at e2
          have e3 := Option.some.inj e2
          show some es[j].val = some y.2.2
          rw [e3]; rfl
      · rw [List.getElem?_eq_none (by rw [Array.length_toList, hacc.1]; omega), List.getElem?_eq_none (by rw [List.length_map]; omega)]
    rw [ea]; exact rv
  refine ⟨.ref _, _, I2.laid (o := .lst vs) (t' := tk) hk (Nat.le_refl _) ⟨by omega, acc.toList, c, ra, by rw [Array.toArray_toList]; exact hS⟩, rfl, q _ (I2.hok.fresh (Nat.le_refl _))⟩⟩
end
end ZN
end
noncomputable section
namespace Z
open PySem PySem.Spec PyProof.Rows L2
set_option autoImplicit false

inductive PV where
  | non | bl (b : Bool) | int (i : Int) | str (s : Str) | tup (xs : List PV) | ref (n : Nat) | exc (c : Str) (fs : List (Str × PV)) | ty (n : String) | cls (c : Str)

inductive IO where
  | lst (xs : List PV)
  | flst (xs : List PV)
  | dK (kvs : List (Key × PV))
  | ins (c : Str) (fs : List (Str × PV))
  | dN (kvs : List (PV × PV))
  | fdK (x : Str) (kvs : List (Key × PV))
abbrev IH := List IO
abbrev Sl := List (Option PV)

inductive R (α : Type) where
  | ok (a : α) (h : IH)
  | exc (c : Str) (fs : List (Str × PV)) (h : IH)
  | fail
def R.bind {α β : Type} (r : R α) (f : α → IH → R β) : R β := match r with
  | .ok a h => f a h
  | .exc c fs h => .exc c fs h
  | .fail => .fail
abbrev EM (α : Type) := Sl → IH → R α

structure Rl where
  K : PySem.W.Frag
  w : World
  ex : Option (Addr × Str × Option Addr)

mutual
inductive RV (L : Rl) (ρ : List Addr) (H : Hp) : PV → V → Prop
  | non : RV L ρ H .non .non
  | bl (b : Bool) : RV L ρ H (.bl b) (.bl b)
  | int (i : Int) : RV L ρ H (.int i) (.int i)
  | str (z : Str) : RV L ρ H (.str z) (.str z)
  | ty (n : String) : RV L ρ H (.ty n) (.ty n)
  | cls (c : Str) : RV L ρ H (.cls c) (.ref (He.ga L.K c))
  | tup {xs : List PV} {vs : List V} {a : Addr} : SqT L.K H a vs → RVs L ρ H xs vs → RV L ρ H (.tup xs) (.ref a)
  | ref {n : Nat} {a : Addr} : ρ[n]? = some a → RV L ρ H (.ref n) (.ref a)
  | exc0 {c : Str} {a : Addr} : L.ex = some (a, c, none) → RV L ρ H (.exc c []) (.ref a)
  | exc {c : Str} {fs : List (Str × PV)} {fs' : List (Str × V)} {a d : Addr} : L.ex = some (a, c, some d) → H d = some (.xd fs') → RFs L ρ H fs fs' → RV L ρ H (.exc c fs) (.ref a)
inductive RVs (L : Rl) (ρ : List Addr) (H : Hp) : List PV → List V → Prop
  | nil : RVs L ρ H [] []
  | cons {x : PV} {xs : List PV} {v : V} {vs : List V} : RV L ρ H x v → RVs L ρ H xs vs → RVs L ρ H (x :: xs) (v :: vs)
inductive RFs (L : Rl) (ρ : List Addr) (H : Hp) : List (Str × PV) → List (Str × V) → Prop
  | nil : RFs L ρ H [] []
  | cons {f : Str} {x : PV} {xs : List (Str × PV)} {v : V} {vs : List (Str × V)} : RV L ρ H x v → RFs L ρ H xs vs → RFs L ρ H ((f, x) :: xs) ((f, v) :: vs)
end

structure Ext (ρ : List Addr) (H : Hp) (ρ' : List Addr) (H' : Hp) : Prop where
  pre : ∃ more, ρ' = ρ ++ more
  frame : ∀ a o, H a = some o → a ∉ ρ → H' a = some o
  fresh : ∀ a ∈ ρ', a ∉ ρ → H a = none
  tups : ∀ a xs, H a = some (.tup xs) → H' a = some (.tup xs)
  frzs : ∀ a o u, H a = some (.frz o u) → H' a = some (.frz o u)
  xds : ∀ a fs, H a = some (.xd fs) → H' a = some (.xd fs)

theorem Ext.refl (ρ : List Addr) (H : Hp) : Ext ρ H ρ H :=
  ⟨⟨[], by simp⟩, fun _ _ h _ => h, fun _ h n => absurd h n, fun _ _ h => h, fun _ _ _ h => h, fun _ _ h => h⟩
theorem Ext.trans {ρ ρ1 ρ2 : List Addr} {H H1 H2 : Hp} (a : Ext ρ H ρ1 H1) (b : Ext ρ1 H1 ρ2 H2) : Ext ρ H ρ2 H2 := by
  obtain ⟨m1, e1⟩ := a.pre
  obtain ⟨m2, e2⟩ := b.pre
  refine ⟨⟨m1 ++ m2, by rw [e2, e1, List.append_assoc]⟩, fun c o h n => ?_, fun c h n => ?_, fun c xs h => b.tups c xs (a.tups c xs h), fun c o u h => b.frzs c o u (a.frzs c o u h), fun c fs h => b.xds c fs (a.xds c fs h)⟩
  · by_cases hc : c ∈ ρ1
    · have z := a.fresh c hc n
      rw [z] at h; cases h
    · exact b.frame c o (a.frame c o h n) hc
  · by_cases hc : c ∈ ρ1
    · exact a.fresh c hc n
    · have z := b.fresh c h hc
      cases q : H c with
      | none => rfl
      | some o => rw [a.frame c o q n] at z; cases z
theorem Ext.get {ρ ρ' : List Addr} {H H' : Hp} (e : Ext ρ H ρ' H') {n : Nat} {a : Addr} (h : ρ[n]? = some a) : ρ'[n]? = some a := by
  obtain ⟨m, rfl⟩ := e.pre
  obtain ⟨hl, _⟩ := List.getElem?_eq_some_iff.mp h
  rw [List.getElem?_append_left hl]; exact h
theorem Ext.sqT {K : PySem.W.Frag} {ρ ρ' : List Addr} {H H' : Hp} (e : Ext ρ H ρ' H') {a : Addr} {vs : List V} (h : SqT K H a vs) : SqT K H' a vs := by
  rcases h with (h | ⟨o, h⟩) | h
  · exact .inl (.inl (e.tups _ _ h))
  · exact .inl (.inr ⟨o, e.frzs _ _ _ h⟩)
  · exact .inr h

structure Kp (ρ : List Addr) (H : Hp) (ρ' : List Addr) (H' : Hp) : Prop where
  get : ∀ (n : Nat) (a : Addr), ρ[n]? = some a → ρ'[n]? = some a
  tups : ∀ a xs, H a = some (.tup xs) → H' a = some (.tup xs)
  frzs : ∀ a o xs, H a = some (.frz o (.tup xs)) → H' a = some (.frz o (.tup xs))
  xds : ∀ a fs, H a = some (.xd fs) → H' a = some (.xd fs)
theorem Ext.kp {ρ ρ' : List Addr} {H H' : Hp} (e : Ext ρ H ρ' H') : Kp ρ H ρ' H' := ⟨fun _ _ h => e.get h, e.tups, fun _ _ _ h => e.frzs _ _ _ h, e.xds⟩
theorem Kp.sqT {K : PySem.W.Frag} {ρ ρ' : List Addr} {H H' : Hp} (e : Kp ρ H ρ' H') {a : Addr} {vs : List V} (h : SqT K H a vs) : SqT K H' a vs := by
  rcases h with (h | ⟨o, h⟩) | h
  · exact .inl (.inl (e.tups _ _ h))
  · exact .inl (.inr ⟨o, e.frzs _ _ _ h⟩)
  · exact .inr h
section
variable {L : Rl} {ρ ρ' : List Addr} {H H' : Hp}
mutual
theorem RV.keep (e : Kp ρ H ρ' H') : ∀ {x : PV} {v : V}, RV L ρ H x v → RV L ρ' H' x v
  | _, _, .non => .non
  | _, _, .bl b => .bl b
  | _, _, .int b => .int b
  | _, _, .str b => .str b
  | _, _, .ty b => .ty b
  | _, _, .cls b => .cls b
  | _, _, .tup h r => .tup (e.sqT h) (RVs.keep e r)
  | _, _, .ref h => .ref (e.get _ _ h)
  | _, _, .exc0 h => .exc0 h
  | _, _, .exc h h2 r => .exc h (e.xds _ _ h2) (RFs.keep e r)
theorem RVs.keep (e : Kp ρ H ρ' H') : ∀ {x : List PV} {v : List V}, RVs L ρ H x v → RVs L ρ' H' x v
  | _, _, .nil => .nil
  | _, _, .cons h r => .cons (RV.keep e h) (RVs.keep e r)
theorem RFs.keep (e : Kp ρ H ρ' H') : ∀ {x : List (Str × PV)} {v : List (Str × V)}, RFs L ρ H x v → RFs L ρ' H' x v
  | _, _, .nil => .nil
  | _, _, .cons h r => .cons (RV.keep e h) (RFs.keep e r)
end
theorem RV.mono (e : Ext ρ H ρ' H') {x : PV} {v : V} (h : RV L ρ H x v) : RV L ρ' H' x v := h.keep e.kp
theorem RVs.mono (e : Ext ρ H ρ' H') {x : List PV} {v : List V} (h : RVs L ρ H x v) : RVs L ρ' H' x v := h.keep e.kp
theorem RFs.mono (e : Ext ρ H ρ' H') {x : List (Str × PV)} {v : List (Str × V)} (h : RFs L ρ H x v) : RFs L ρ' H' x v := h.keep e.kp
inductive RKs (L : Rl) (ρ : List Addr) (H : Hp) : List (Key × PV) → List (Key × V) → Prop
  | nil : RKs L ρ H [] []
  | cons {f : Key} {x : PV} {xs : List (Key × PV)} {v : V} {vs : List (Key × V)} : RV L ρ H x v → RKs L ρ H xs vs → RKs L ρ H ((f, x) :: xs) ((f, v) :: vs)
theorem RKs.keep (e : Kp ρ H ρ' H') : ∀ {x : List (Key × PV)} {v : List (Key × V)}, RKs L ρ H x v → RKs L ρ' H' x v
  | _, _, .nil => .nil
  | _, _, .cons h r => .cons (RV.keep e h) (RKs.keep e r)
theorem RKs.mono (e : Ext ρ H ρ' H') {x : List (Key × PV)} {v : List (Key × V)} (h : RKs L ρ H x v) : RKs L ρ' H' x v := h.keep e.kp

mutual
def ckOf : PV → Option NestedKey
  | .non => some .none
  | .bl b => some (.num (if b = true then 1 else 0))
  | .int i => some (.num i)
  | .str z => some (.text z)
  | .tup xs => (cksOf xs).map .tup
  | _ => none
def cksOf : List PV → Option (List NestedKey)
  | [] => some []
  | x :: xs => match ckOf x, cksOf xs with
    | some k, some ks => some (k :: ks)
    | _, _ => none
end
inductive RNs (L : Rl) (ρ : List Addr) (H : Hp) : List (PV × PV) → List ZN.En → Prop
  | nil : RNs L ρ H [] []
  | cons {x y : PV} {k : NestedKey} {a : Addr} {u : Value} {v : V} {xs : List (PV × PV)} {es : List ZN.En} : ckOf x = some k → k.depth ≤ 8 → RV L ρ H x (.ref a) → RV L ρ H y v → RelV v u → RNs L ρ H xs es → RNs L ρ H ((x, y) :: xs) ((k, a, u) :: es)
theorem RNs.keep (e : Kp ρ H ρ' H') : ∀ {x : List (PV × PV)} {v : List ZN.En}, RNs L ρ H x v → RNs L ρ' H' x v
  | _, _, .nil => .nil
  | _, _, .cons h1 h2 h3 h4 h5 r => .cons h1 h2 (RV.keep e h3) (RV.keep e h4) h5 (RNs.keep e r)
def RO (L : Rl) (ρ : List Addr) (H : Hp) (a : Addr) : IO → Prop
  | .lst xs => ∃ vs, H a = some (.lst vs) ∧ RVs L ρ H xs vs
  | .flst xs => ∃ o vs, H a = some (.frz o (.lst vs)) ∧ RVs L ρ H xs vs
  | .dK kvs => ∃ kvs', H a = some (.dK kvs') ∧ RKs L ρ H kvs kvs'
  | .ins c fs => ∃ dx fs', H a = some (.ins (He.ga L.K c) dx fs') ∧ RFs L ρ H fs fs'
  | .dN kvs => ∃ es, H a = some (ZN.NestO L.w a es) ∧ RNs L ρ H kvs es
  | .fdK x kvs => (x = Str.ofString "__debug__" ∨ a = He.ga L.K x) ∧ ∃ o kvs', H a = some (.frz o (.dK kvs')) ∧ RKs L ρ H kvs kvs'
structure RH (L : Rl) (ρ : List Addr) (H : Hp) (ih : IH) : Prop where
  len : ρ.length = ih.length
  nd : ρ.Nodup
  ob : ∀ (n : Nat) (a : Addr) (o : IO), ρ[n]? = some a → ih[n]? = some o → RO L ρ H a o
structure RE (L : Rl) (ρ : List Addr) (H : Hp) (env : Sl) (σ : L2.St) : Prop where
  len : env.length = σ.length
  at_ : ∀ (i : Nat) (v : PV), env[i]? = some (some v) → ∃ u, σ[i]? = some (some u) ∧ RV L ρ H v u
theorem RE.mono (e : Ext ρ H ρ' H') {env : Sl} {σ : L2.St} (h : RE L ρ H env σ) : RE L ρ' H' env σ :=
  ⟨h.len, fun i v q => let ⟨u, a, b⟩ := h.at_ i v q; ⟨u, a, b.mono e⟩⟩
theorem RE.set {env : Sl} {σ : L2.St} (h : RE L ρ H env σ) {i : Nat} {v : PV} {u : V} (r : RV L ρ H v u) : RE L ρ H (env.set i (some v)) (σ.set i (some u)) := by
  refine ⟨by simp [h.len], fun j w q => ?_⟩
  by_cases hj : i = j
  · subst hj
    by_cases hl : i < env.length
    · rw [List.getElem?_set_self hl] at q
      cases q
      exact ⟨u, List.getElem?_set_self (by rw [← h.len]; exact hl), r⟩
    · rw [List.getElem?_eq_none (by simpa using hl)] at q; cases q
  · rw [List.getElem?_set_ne hj] at q ⊢
    exact h.at_ j w q
theorem RE.set1 {env : Sl} {σ : L2.St} (h : RE L ρ H env σ) {i : Nat} : RE L ρ H (env.set i none) (σ.set i none) := by
  refine ⟨by simp [h.len], fun j w q => ?_⟩
  by_cases hj : i = j
  · subst hj
    by_cases hl : i < env.length
    · rw [List.getElem?_set_self hl] at q; cases q
    · rw [List.getElem?_eq_none (by simpa using hl)] at q; cases q
  · rw [List.getElem?_set_ne hj] at q ⊢
    exact h.at_ j w q

theorem RH.get {ih : IH} (h : RH L ρ H ih) {n : Nat} {o : IO} (e : ih[n]? = some o) : ∃ a, ρ[n]? = some a ∧ RO L ρ H a o := by
  obtain ⟨hl, _⟩ := List.getElem?_eq_some_iff.mp e
  have hl' : n < ρ.length := by rw [h.len]; exact hl
  exact ⟨ρ[n], List.getElem?_eq_getElem hl', h.ob n _ o (List.getElem?_eq_getElem hl') e⟩
theorem RH.at_ {ih : IH} (h : RH L ρ H ih) {n : Nat} {a : Addr} (e : ρ[n]? = some a) : ∃ o, ih[n]? = some o ∧ RO L ρ H a o := by
  obtain ⟨hl, _⟩ := List.getElem?_eq_some_iff.mp e
  have hl' : n < ih.length := by rw [← h.len]; exact hl
  exact ⟨ih[n], List.getElem?_eq_getElem hl', h.ob n a _ e (List.getElem?_eq_getElem hl')⟩
theorem RO.tracked {a : Addr} {o : IO} (h : RO L ρ H a o) : ∃ u, H a = some u ∧ (∀ xs, u ≠ .tup xs) ∧ (∀ fs, u ≠ .xd fs) := by
  cases o with
  | lst xs => obtain ⟨vs, e, _⟩ := h; exact ⟨_, e, fun _ => by simp, fun _ => by simp⟩
  | flst xs => obtain ⟨o, vs, e, _⟩ := h; exact ⟨_, e, fun _ => by simp, fun _ => by simp⟩
  | dK xs => obtain ⟨vs, e, _⟩ := h; exact ⟨_, e, fun _ => by simp, fun _ => by simp⟩
  | ins c fs => obtain ⟨dx, fs', e, _⟩ := h; exact ⟨_, e, fun _ => by simp, fun _ => by simp⟩
  | dN kvs => obtain ⟨es, e, _⟩ := h; exact ⟨_, e, fun _ q => (by unfold ZN.NestO at q; cases q), fun _ q => (by unfold ZN.NestO at q; cases q)⟩
  | fdK x kvs => obtain ⟨_, o, vs, e, _⟩ := h; exact ⟨_, e, fun _ => by simp, fun _ => by simp⟩
theorem RH.tracked {ih : IH} (h : RH L ρ H ih) {a : Addr} (m : a ∈ ρ) : ∃ u, H a = some u ∧ (∀ xs, u ≠ .tup xs) ∧ (∀ fs, u ≠ .xd fs) := by
  obtain ⟨n, hn, e⟩ := List.mem_iff_getElem.mp m
  obtain ⟨o, _, r⟩ := h.at_ (n := n) (a := a) (by rw [← e]; exact List.getElem?_eq_getElem hn)
  exact r.tracked
theorem RO.keep (e : Kp ρ H ρ' H') {a : Addr} {o : IO} (h : RO L ρ H a o) (k : H' a = H a) : RO L ρ' H' a o := by
  cases o with
  | lst xs => obtain ⟨vs, q, r⟩ := h; exact ⟨vs, k.trans q, r.keep e⟩
  | flst xs => obtain ⟨o, vs, q, r⟩ := h; exact ⟨o, vs, k.trans q, r.keep e⟩
  | dK xs => obtain ⟨vs, q, r⟩ := h; exact ⟨vs, k.trans q, r.keep e⟩
  | ins c fs => obtain ⟨dx, fs', q, r⟩ := h; exact ⟨dx, fs', k.trans q, r.keep e⟩
  | dN kvs => obtain ⟨es, q, r⟩ := h; exact ⟨es, k.trans q, r.keep e⟩
  | fdK x kvs => obtain ⟨z, o, vs, q, r⟩ := h; exact ⟨z, o, vs, k.trans q, r.keep e⟩
theorem RO.mono (e : Ext ρ H ρ' H') {a : Addr} {o : IO} (h : RO L ρ H a o) (k : H' a = H a) : RO L ρ' H' a o := h.keep e.kp k

theorem ext_new {a : Addr} {u : HO} (hp : H a = none) : Ext ρ H ρ (upd H a u) := by
  have ne : ∀ b o, H b = some o → b ≠ a := fun b o q => ne_of_none q hp
  exact ⟨⟨[], by simp⟩, fun b o q _ => by rw [upd_ne (ne b o q)]; exact q, fun _ h n => absurd h n, fun b xs q => by rw [upd_ne (ne b _ q)]; exact q, fun b o v q => by rw [upd_ne (ne b _ q)]; exact q, fun b xs q => by rw [upd_ne (ne b _ q)]; exact q⟩
theorem RH.new {ih : IH} (h : RH L ρ H ih) {a : Addr} {u : HO} (hp : H a = none) : RH L ρ (upd H a u) ih := by
  refine ⟨h.len, h.nd, fun n b o e1 e2 => ?_⟩
  have r := h.ob n b o e1 e2
  obtain ⟨w, hw, _⟩ := r.tracked
  exact r.mono (ext_new hp) (upd_ne (ne_of_none hw hp))
theorem ext_lay {ih : IH} (h : RH L ρ H ih) {a : Addr} {u : HO} (hp : H a = none) : Ext ρ H (ρ ++ [a]) (upd H a u) := by
  have ne : ∀ b o, H b = some o → b ≠ a := fun b o q => ne_of_none q hp
  refine ⟨⟨[a], rfl⟩, fun b o q _ => by rw [upd_ne (ne b o q)]; exact q, fun b hb n => ?_, fun b xs q => by rw [upd_ne (ne b _ q)]; exact q, fun b o v q => by rw [upd_ne (ne b _ q)]; exact q, fun b xs q => by rw [upd_ne (ne b _ q)]; exact q⟩
  rcases List.mem_append.mp hb with hb | hb
  · exact absurd hb n
  · have : b = a := by simpa using hb
    rw [this]; exact hp
theorem RH.lay {ih : IH} (h : RH L ρ H ih) {a : Addr} {u : HO} {o : IO} (hp : H a = none) (r : RO L (ρ ++ [a]) (upd H a u) a o) : RH L (ρ ++ [a]) (upd H a u) (ih ++ [o]) := by
  have na : a ∉ ρ := fun m => by
    obtain ⟨w, hw, _⟩ := h.tracked m
    rw [hp] at hw; cases hw
  refine ⟨by simp [h.len], ?_, fun n b o' e1 e2 => ?_⟩
  · rw [List.nodup_append]
    refine ⟨h.nd, by simp, ?_⟩
    intro x hx y hy e
    have : y = a := by simpa using hy
    subst this; subst e; exact na hx
  · by_cases hn : n < ρ.length
    · rw [List.getElem?_append_left hn] at e1
      rw [List.getElem?_append_left (by rw [← h.len]; exact hn)] at e2
      have r' := h.ob n b o' e1 e2
      obtain ⟨w, hw, _⟩ := r'.tracked
      exact r'.mono (ext_lay h hp) (upd_ne (ne_of_none hw hp))
    · have hn' : ρ.length ≤ n := by omega
      rw [List.getElem?_append_right hn'] at e1
      rw [List.getElem?_append_right (by rw [← h.len]; exact hn')] at e2
      have hz : n - ρ.length = 0 := by
        cases q : n - ρ.length with
        | zero => rfl
        | succ m => rw [q] at e1; simp at e1
      rw [hz] at e1
      rw [← h.len, hz] at e2
      simp at e1 e2
      subst e1; subst e2; exact r
theorem ext_write {ih : IH} (h : RH L ρ H ih) {n : Nat} {a : Addr} {u : HO} (e : ρ[n]? = some a) (hf : ∀ o v, H a ≠ some (.frz o v)) : Ext ρ H ρ (upd H a u) := by
  have m : a ∈ ρ := List.mem_of_getElem? e
  obtain ⟨w, hw, n1, n2⟩ := h.tracked m
  refine ⟨⟨[], by simp⟩, fun b o q nb => ?_, fun _ hb nb => absurd hb nb, fun b xs q => ?_, fun b o v q => ?_, fun b fs q => ?_⟩
  · rw [upd_ne (fun z => nb (by rw [z]; exact m))]; exact q
  · rw [upd_ne (fun z => ?_)]; exact q
    subst z; rw [hw] at q; exact n1 _ (Option.some.inj q)
  · rw [upd_ne (fun z => ?_)]; exact q
    subst z; exact hf o v q
  · rw [upd_ne (fun z => ?_)]; exact q
    subst z; rw [hw] at q; exact n2 _ (Option.some.inj q)
theorem RH.write {ih : IH} (h : RH L ρ H ih) {n : Nat} {a : Addr} {u : HO} {o : IO} (e : ρ[n]? = some a) (hf : ∀ o v, H a ≠ some (.frz o v)) (r : RO L ρ (upd H a u) a o) : RH L ρ (upd H a u) (ih.set n o) := by
  refine ⟨by simp [h.len], h.nd, fun m b o' e1 e2 => ?_⟩
  by_cases hm : n = m
  · subst hm
    rw [e] at e1; cases e1
    have hl : n < ih.length := by rw [← h.len]; exact (List.getElem?_eq_some_iff.mp e).1
    rw [List.getElem?_set_self hl] at e2
    cases e2; exact r
  · rw [List.getElem?_set_ne hm] at e2
    have r' := h.ob m b o' e1 e2
    have hb : b ≠ a := fun z => by
      subst z
      obtain ⟨h1, q1⟩ := List.getElem?_eq_some_iff.mp e
      obtain ⟨h2, q2⟩ := List.getElem?_eq_some_iff.mp e1
      exact hm ((List.getElem_inj h.nd).mp (q1.trans q2.symm))
    exact r'.mono (ext_write h e hf) (upd_ne hb)
end
end Z
end
noncomputable section
namespace Z
open PySem PySem.Spec PyProof.Rows L2
set_option autoImplicit false

abbrev LINE : Nat := 16777216

def getL (ih : IH) (n : Nat) : Option (List PV) := match ih[n]? with
  | some (.lst xs) => some xs
  | some (.flst xs) => some xs
  | _ => none
def getM (ih : IH) (n : Nat) : Option (List PV) := match ih[n]? with
  | some (.lst xs) => some xs
  | _ => none
def getD (ih : IH) (n : Nat) : Option (List (Key × PV)) := match ih[n]? with
  | some (.dK xs) => some xs
  | _ => none
def getDR (ih : IH) (n : Nat) : Option (List (Key × PV)) := match ih[n]? with
  | some (.dK xs) => some xs
  | some (.fdK _ xs) => some xs
  | _ => none
def lookN : List (PV × PV) → NestedKey → Option PV
  | [], _ => none
  | (x, y) :: r, k => if ckOf x = some k then some y else lookN r k
def setN : List (PV × PV) → NestedKey → PV → List (PV × PV)
  | [], _, _ => []
  | (x, y) :: r, k, v => (if ckOf x = some k then (x, v) else (x, y)) :: setN r k v
def putN (kvs : List (PV × PV)) (x : PV) (k : NestedKey) (v : PV) : List (PV × PV) := if (lookN kvs k).isSome = true then setN kvs k v else kvs ++ [(x, v)]
def nkOf : PV → Option NestedKey
  | .tup xs => match ckOf (.tup xs) with
    | some k => if k.depth ≤ 8 then some k else none
    | none => none
  | _ => none
def getI (ih : IH) (n : Nat) : Option (Str × List (Str × PV)) := match ih[n]? with
  | some (.ins c fs) => some (c, fs)
  | _ => none
def items? (ih : IH) : PV → Option (List PV)
  | .tup xs => some xs
  | .ref n => getL ih n
  | _ => none
def newL (ih : IH) (xs : List PV) : R PV := if xs.length ≤ LINE then .ok (.ref ih.length) (ih ++ [.lst xs]) else .fail
def newT (ih : IH) (xs : List PV) : R PV := if xs.length ≤ LINE then .ok (.tup xs) ih else .fail

def mapO {α β : Type} (f : α → Option β) : List α → Option (List β)
  | [] => some []
  | x :: xs => match f x with
    | some y => (mapO f xs).map (y :: ·)
    | none => none
def scalD : PV → Option PyData
  | .non => some .none
  | .bl b => some (.bool b)
  | .int i => some (.int i)
  | .str s => some (.str s)
  | _ => none
def toD (ih : IH) : Nat → PV → Option PyData
  | 0, x => scalD x
  | d + 1, .tup xs => (mapO (toD ih d) xs).map .tuple
  | d + 1, .ref n => match getL ih n with
    | some xs => (mapO (toD ih d) xs).map .list
    | none => none
  | _, x => scalD x

def addP (x y : PV) (ih : IH) : R PV := match x, y with
  | .int i, .int j => .ok (.int (i + j)) ih
  | .str a, .str b => if a.length + b.length ≤ LINE then .ok (.str (a ++ b)) ih else .fail
  | .ref n, .ref m => match getM ih n, getM ih m with
    | some xs, some ys => newL ih (xs ++ ys)
    | _, _ => .fail
  | .tup xs, .tup ys => newT ih (xs ++ ys)
  | _, _ => .fail
def subP (x y : PV) (ih : IH) : R PV := match x, y with
  | .int i, .int j => .ok (.int (i - j)) ih
  | _, _ => .fail
def mulP (x y : PV) (ih : IH) : R PV := match x, y with
  | .int i, .int j => if i.natAbs.log2 + j.natAbs.log2 < 1000000 then .ok (.int (i * j)) ih else .fail
  | .ref n, .int k => match getM ih n with
    | some xs => if -(2 ^ 63) ≤ k ∧ k < 2 ^ 63 ∧ xs.length * k.toNat ≤ LINE then .ok (.ref ih.length) (ih ++ [.lst (List.replicate k.toNat xs).flatten]) else .fail
    | none => .fail
  | _, _ => .fail
def divP (x y : PV) (ih : IH) : R PV := match x, y with
  | .int i, .int j => if 0 < j ∧ j.natAbs.log2 < 9000 then .ok (.int (i / j)) ih else .fail
  | _, _ => .fail
def modP (x y : PV) (ih : IH) : R PV := match x, y with
  | .int i, .int j => if 0 < j then .ok (.int (i % j)) ih else .fail
  | _, _ => .fail
def powP (x y : PV) (ih : IH) : R PV := match x, y with
  | .int i, .int j => if 0 ≤ j ∧ j ≤ 1000000 ∧ i.natAbs < 2 ^ 64 then .ok (.int (i ^ j.toNat)) ih else .fail
  | _, _ => .fail
def failP (_ _ : PV) (_ : IH) : R PV := .fail
def binP : Operator → PV → PV → IH → R PV
  | .Add => addP
  | .Sub => subP
  | .Mult => mulP
  | .FloorDiv => divP
  | .Mod => modP
  | .Pow => powP
  | _ => failP

abbrev DEEP : Nat := 12
def eqP (x y : PV) (ih : IH) : R Bool := match toD ih DEEP x, toD ih DEEP y with
  | some d, some e => if SeqAt.shaped d = true ∧ SeqAt.shaped e = true then .ok (PyData.eqv d e) ih else .fail
  | _, _ => .fail
def inP (x y : PV) (ih : IH) : R Bool := match items? ih y with
  | some ys => match toD ih DEEP x, mapO (toD ih DEEP) ys with
    | some d, some ds => if SeqAt.shaped d = true ∧ SeqAt.shaped (.list ds) = true then .ok (ds.any fun z => PyData.eqv z d) ih else .fail
    | _, _ => .fail
  | none => .fail
def keyOf : PV → Option Key
  | .int i => some (.inl i)
  | .str s => some (.inr s)
  | _ => none
def lookK {κ : Type} [DecidableEq κ] (kvs : List (κ × PV)) (k : κ) : Option PV := match kvs with
  | [] => none
  | (j, v) :: r => if j = k then some v else lookK r k
def setK' {κ : Type} [DecidableEq κ] (kvs : List (κ × PV)) (k : κ) (v : PV) : List (κ × PV) := match kvs with
  | [] => []
  | (j, w) :: r => (if j = k then (j, v) else (j, w)) :: setK' r k v
def putK' {κ : Type} [DecidableEq κ] (kvs : List (κ × PV)) (k : κ) (v : PV) : List (κ × PV) := if (lookK kvs k).isSome = true then setK' kvs k v else kvs ++ [(k, v)]
def inD (x y : PV) (ih : IH) : R Bool := match y with
  | .ref n => match ih[n]? with
    | some (.dK kvs) => match keyOf x with
      | some k => .ok (lookK kvs k).isSome ih
      | none => match nkOf x with
        | some _ => if kvs.isEmpty = true then .ok false ih else .fail
        | none => .fail
    | some (.fdK _ kvs) => match keyOf x with
      | some k => .ok (lookK kvs k).isSome ih
      | none => .fail
    | some (.dN kvs) => match nkOf x with
      | some k => .ok (lookN kvs k).isSome ih
      | none => .fail
    | _ => inP x y ih
  | .str j => match x with
    | .str i => .ok (!(Builtin.Str.occurrences j i 0 j.length 1).isEmpty) ih
    | _ => .fail
  | _ => inP x y ih
def R.not (r : R Bool) : R Bool := match r with
  | .ok b h => .ok (!b) h
  | .exc c fs h => .exc c fs h
  | .fail => .fail
def R.val (r : R Bool) : R PV := match r with
  | .ok b h => .ok (.bl b) h
  | .exc c fs h => .exc c fs h
  | .fail => .fail
def isNon : PV → Bool
  | .non => true
  | _ => false
def ltP (f : Int → Int → Bool) (x y : PV) (ih : IH) : R Bool := match x, y with
  | .int i, .int j => .ok (f i j) ih
  | _, _ => .fail
def isP (x y : PV) (ih : IH) : R Bool := match y with
  | .non => .ok (isNon x) ih
  | _ => .fail
def cmpP : CmpOp → PV → PV → IH → R Bool
  | .Lt => ltP fun i j => decide (i < j)
  | .LtE => ltP fun i j => decide (i ≤ j)
  | .Gt => ltP fun i j => decide (j < i)
  | .GtE => ltP fun i j => decide (j ≤ i)
  | .Eq => eqP
  | .NotEq => fun x y ih => (eqP x y ih).not
  | .In => inD
  | .NotIn => fun x y ih => (inD x y ih).not
  | .Is => isP
  | .IsNot => fun x y ih => (isP x y ih).not

def truP (x : PV) (ih : IH) : R Bool := match x with
  | .non => .ok false ih
  | .bl b => .ok b ih
  | .int i => .ok (i != 0) ih
  | .str s => if s.length ≤ LINE then .ok ((s.length : Int) != 0) ih else .fail
  | .tup xs => .ok (!xs.isEmpty) ih
  | .ref n => match ih[n]? with
    | some (.lst xs) => .ok (!xs.isEmpty) ih
    | some (.flst xs) => .ok (!xs.isEmpty) ih
    | some (.dK xs) => .ok (!xs.isEmpty) ih
    | _ => .fail
  | _ => .fail

def ixP (o i : PV) (ih : IH) : R PV := match o, i with
  | .tup xs, .int k => match atI xs k with
    | some v => .ok v ih
    | none => .fail
  | .str z, .int k => if z.length ≤ LINE then (match atI z.cps.toList k with
    | some c => .ok (.str ⟨#[c]⟩) ih
    | none => .fail) else .fail
  | .ref n, i => match ih[n]? with
    | some (.dK kvs) => match keyOf i with
      | some k => match lookK kvs k with
        | some v => .ok v ih
        | none => .fail
      | none => .fail
    | some (.fdK _ kvs) => match keyOf i with
      | some k => match lookK kvs k with
        | some v => .ok v ih
        | none => .fail
      | none => .fail
    | _ => match getL ih n, i with
      | some xs, .int k => match atI xs k with
        | some v => .ok v ih
        | none => .fail
      | _, _ => .fail
  | _, _ => .fail
def cutP {α : Type} (xs : List α) (lo hi : Option Int) : List α := (xs.drop (HT.sIx xs.length 0 lo)).take (HT.sIx xs.length xs.length hi - HT.sIx xs.length 0 lo)
def slP (o : PV) (lo hi : Option Int) (ih : IH) : R PV := match o with
  | .tup xs => .ok (.tup (cutP xs lo hi)) ih
  | .ref n => match getL ih n with
    | some xs => .ok (.ref ih.length) (ih ++ [.lst (cutP xs lo hi)])
    | none => .fail
  | .str z => if z.length ≤ LINE then .ok (.str (Txt.slice z lo hi)) ih else .fail
  | _ => .fail
def setP (o i v : PV) (ih : IH) : Option IH := match o with
  | .ref n => match ih[n]? with
    | some (.lst xs) => match i with
      | .int k => match ixN xs.length k with
        | some j => some (ih.set n (.lst (xs.set j v)))
        | none => none
      | _ => none
    | some (.dK kvs) => match keyOf i with
      | some k => if kvs.length < LINE then some (ih.set n (.dK (putK' kvs k v))) else none
      | none => match nkOf i with
        | some k => if kvs.isEmpty = true then some (ih.set n (.dN [(i, v)])) else none
        | none => none
    | some (.dN kvs) => match nkOf i with
      | some k => if kvs.length < LINE then some (ih.set n (.dN (putN kvs i k v))) else none
      | none => none
    | _ => none
  | _ => none
def fldP (ok : Str → Str → Bool) (o : PV) (f : Str) (ih : IH) : R PV := match o with
  | .ref n => match getI ih n with
    | some (c, fs) => if ok c f = true then (match fs.lookup f with
      | some v => .ok v ih
      | none => .fail) else .fail
    | none => .fail
  | _ => .fail
def putF' (f : Str) (v : PV) : List (Str × PV) → List (Str × PV)
  | [] => [(f, v)]
  | (g, w) :: r => if g = f then (g, v) :: r else (g, w) :: putF' f v r
def sfldP (ok : Str → Str → Bool) (o : PV) (f : Str) (v : PV) (ih : IH) : Option IH := match o with
  | .ref n => match getI ih n with
    | some (c, fs) => if ok c f = true ∧ fs.length < 1000 then some (ih.set n (.ins c (putF' f v fs))) else none
    | none => none
  | _ => none

end Z
end
noncomputable section
namespace Z
open PySem PySem.Spec PyProof.Rows L2
set_option autoImplicit false

structure FDef where
  nm : Str
  args : Arguments
  qual : Str
  ps : List Str
  dfl : List PV
  N : List Str
  sc : Scope
  body : List Stmt
inductive FId where
  | fn (x : Str) | meth (c m : Str)
structure Prg where
  fns : List (Str × FDef)
  clss : List (Str × List (Str × FDef))
  excs : List (Str × List Str)
  cons : List (Str × PV)
  dcts : List (Str × Nat)
  flds : List (Str × List Str)
  blts : List Str
def Prg.isFld (P : Prg) (c f : Str) : Bool := match P.flds.lookup c with
  | some fs => fs.contains f
  | none => false
def Prg.fdef (P : Prg) : FId → Option FDef
  | .fn x => P.fns.lookup x
  | .meth c m => (P.clss.lookup c).bind fun ms => ms.lookup m
structure Cfg where
  P : Prg
  call : FId → List PV → IH → R PV
  F : Nat

def eBind {α β : Type} (m : EM α) (f : α → EM β) : EM β := fun env ih => (m env ih).bind fun a h => f a env h
def eFail {α : Type} : EM α := fun _ _ => .fail
def eC {α : Type} (v : α) : EM α := fun _ ih => .ok v ih
def eVar (i : Nat) : EM PV := fun env ih => match env[i]? with
  | some (some v) => .ok v ih
  | _ => .fail
def eOp (p : PV → PV → IH → R PV) (a b : EM PV) : EM PV := eBind a fun x => eBind b fun y => fun _ ih => p x y ih
def eUn (p : PV → IH → R PV) (a : EM PV) : EM PV := eBind a fun x => fun _ ih => p x ih
def eCmp (p : PV → PV → IH → R Bool) (a b : EM PV) : EM Bool := eBind a fun x => eBind b fun y => fun _ ih => p x y ih
def eVal (t : EM Bool) : EM PV := fun env ih => (t env ih).val
def eChain (p q : PV → PV → IH → R Bool) (a b c : EM PV) : EM Bool := eBind a fun x => eBind b fun y => eBind (fun _ ih => p x y ih) fun k => if k = true then eBind c fun z => fun _ ih => q y z ih else eC false
def eIf {α : Type} (t : EM Bool) (a b : EM α) : EM α := eBind t fun k => if k = true then a else b
def eNot (t : EM Bool) : EM Bool := fun env ih => (t env ih).not
def eTru (a : EM PV) : EM Bool := eBind a fun x => fun _ ih => truP x ih
def eAnd : List (EM Bool) → EM Bool
  | [] => eFail
  | [t] => t
  | t :: ts => eBind t fun k => if k = true then eAnd ts else eC false
def eOr : List (EM Bool) → EM Bool
  | [] => eFail
  | [t] => t
  | t :: ts => eBind t fun k => if k = true then eC true else eOr ts
def eAndV : List (EM PV) → EM PV
  | [] => eFail
  | [t] => t
  | t :: ts => eBind t fun x => eBind (fun _ ih => truP x ih) fun k => if k = true then eAndV ts else eC x
def eOrV : List (EM PV) → EM PV
  | [] => eFail
  | [t] => t
  | t :: ts => eBind t fun x => eBind (fun _ ih => truP x ih) fun k => if k = true then eC x else eOrV ts
def eArgs : List (EM PV) → EM (List PV)
  | [] => eC []
  | a :: as => eBind a fun x => eBind (eArgs as) fun xs => eC (x :: xs)
def eStars : List (Bool × EM PV) → EM (List PV)
  | [] => eC []
  | (s, a) :: as => eBind a fun x => eBind (if s = true then (fun _ ih => match items? ih x with
      | some ys => .ok ys ih
      | none => .fail) else eC [x]) fun ys => eBind (eStars as) fun xs => eC (ys ++ xs)
def eTup (as : EM (List PV)) : EM PV := eBind as fun xs => fun _ ih => newT ih xs
def eLst (as : EM (List PV)) : EM PV := eBind as fun xs => fun _ ih => newL ih xs
def eIx (a b : EM PV) : EM PV := eOp ixP a b
def eOptI : Option (EM PV) → EM (Option Int)
  | none => eC none
  | some m => eBind m fun x => match x with
    | .int i => eC (some i)
    | _ => eFail
def eSl (a : EM PV) (lo hi : Option (EM PV)) : EM PV := eBind a fun x => eBind (eOptI lo) fun l => eBind (eOptI hi) fun u => fun _ ih => slP x l u ih
def eFld (ok : Str → Str → Bool) (a : EM PV) (f : Str) : EM PV := eUn (fun x ih => fldP ok x f ih) a
def keysOf : List (PV × PV) → Option (List (Key × PV))
  | [] => some []
  | (x, y) :: r => match keyOf x with
    | some k => (keysOf r).map ((k, y) :: ·)
    | none => none
def ePairs : List (EM PV × EM PV) → EM (List (PV × PV))
  | [] => eC []
  | (k, v) :: r => eBind k fun x => eBind v fun y => eBind (ePairs r) fun ps => eC ((x, y) :: ps)
def mergeK' (acc more : List (Key × PV)) : List (Key × PV) := more.foldl (fun acc kv => putK' acc kv.1 kv.2) acc
def eDisp (ps : List (EM PV × EM PV)) : EM PV := if ps.length ≤ 15 then eBind (ePairs ps) fun kvs => fun _ ih => match keysOf kvs with
  | some ks => if ks.length ≤ 15 then .ok (.ref ih.length) (ih ++ [.dK (mergeK' [] ks)]) else .fail
  | none => .fail else eFail

def fillArgs (fd : FDef) (n : Nat) : Option (List PV) := if n ≤ fd.ps.length ∧ fd.ps.length ≤ n + fd.dfl.length then some (fd.dfl.drop (n + fd.dfl.length - fd.ps.length)) else none
def callP (C : Cfg) (id : FId) (n : Nat) (vs : List PV) (ih : IH) : R PV := match C.P.fdef id with
  | some fd => match fillArgs fd n with
    | some ds => if vs.length = n then C.call id (vs ++ ds) ih else .fail
    | none => .fail
  | none => .fail
def eCall (C : Cfg) (id : FId) (n : Nat) (as : EM (List PV)) : EM PV := eBind as fun vs => fun _ ih => callP C id n vs ih
def methGo (C : Cfg) (m : Str) (n : Nat) (as : EM (List PV)) (x : PV) : EM PV := fun env ih => match x with
  | .ref i => match getI ih i with
    | some (c, fs) => if (fs.lookup m).isNone = true ∧ (C.P.fdef (.meth c m)).isSome = true then eBind as (fun vs => fun _ h => callP C (.meth c m) (n + 1) (x :: vs) h) env ih else .fail
    | none => .fail
  | _ => .fail
def makeP (C : Cfg) (c : Str) (n : Nat) (vs : List PV) (ih : IH) : R PV := (callP C (.meth c (Str.ofString "__init__")) (n + 1) (.ref ih.length :: vs) (ih ++ [.ins c []])).bind fun v h => match v with
  | .non => .ok (.ref ih.length) h
  | _ => .fail
def eMake (C : Cfg) (c : Str) (n : Nat) (as : EM (List PV)) : EM PV := eBind as fun vs => fun _ ih => makeP C c n vs ih

inductive Src where
  | lst (n : Nat) | vals (xs : List PV) | rng (lo c : Int) (n : Nat) | enumL (n : Nat) | enumT (xs : List PV)
def Src.at_ (s : Src) (i : Nat) (ih : IH) : Option (Option PV) := match s with
  | .lst n => (getL ih n).map fun xs => xs[i]?
  | .vals xs => some xs[i]?
  | .rng lo c n => some (if i < n then some (.int (lo + (i : Int) * c)) else none)
  | .enumL n => (getL ih n).map fun xs => (xs[i]?).map fun x => .tup [.int i, x]
  | .enumT xs => some ((xs[i]?).map fun x => .tup [.int i, x])
inductive Tg where
  | nm (i : Nat) | tup (is : List Nat)
def setAll : List Nat → List PV → Sl → Sl
  | i :: is, x :: xs, env => setAll is xs (env.set i (some x))
  | _, _, env => env
def Tg.set (g : Tg) (v : PV) (env : Sl) : Option Sl := match g with
  | .nm i => some (env.set i (some v))
  | .tup is => match v with
    | .tup xs => if xs.length = is.length then some (setAll is xs env) else none
    | _ => none
def compGo (s : Src) (g : Tg) (t : EM Bool) (e : EM PV) : Nat → Nat → List PV → Sl → IH → R (List PV)
  | 0, _, _, _, _ => .fail
  | n + 1, i, acc, env, ih => match s.at_ i ih with
    | none => .fail
    | some none => .ok acc ih
    | some (some x) => match g.set x env with
      | none => .fail
      | some env1 => match t env1 ih with
        | .ok true h1 => match e env1 h1 with
          | .ok y h2 => if acc.length < LINE then compGo s g t e n (i + 1) (acc ++ [y]) env h2 else .fail
          | _ => .fail
        | .ok false h1 => compGo s g t e n (i + 1) acc env h1
        | _ => .fail
def wipeE (is : List Nat) (env : Sl) : Sl := match is with
  | [] => env
  | i :: r => (wipeE r env).set i none
inductive RS where
  | nx (env : Sl) (h : IH) | brk (env : Sl) (h : IH) | cnt (env : Sl) (h : IH) | ret (v : PV) (h : IH)
  | exc (c : Str) (fs : List (Str × PV)) (env : Sl) (h : IH) | fail
abbrev SM := Sl → IH → RS
def sFail : SM := fun _ _ => .fail
def sWith {α : Type} (m : EM α) (k : α → SM) : SM := fun env ih => match m env ih with
  | .ok a h => k a env h
  | .exc c fs h => .exc c fs env h
  | .fail => .fail
def sNext : SM := fun env ih => .nx env ih
def sSeq (a b : SM) : SM := fun env ih => match a env ih with
  | .nx e h => b e h
  | r => r
def sIf (t : EM Bool) (a b : SM) : SM := sWith t fun k => if k = true then a else b
def sRet (m : EM PV) : SM := sWith m fun v _ h => .ret v h
def sDrop (m : EM PV) : SM := sWith m fun _ env h => .nx env h
def sPar (is : List Nat) (m : EM (List PV)) : SM := sWith m fun xs env h => if xs.length = is.length then .nx (setAll is xs env) h else .fail
def sAug (p : PV → PV → IH → R PV) (i : Nat) (m : EM PV) : SM := sWith (eVar i) fun v => sWith m fun w => sWith (fun _ ih => p v w ih) fun z env h => .nx (env.set i (some z)) h
def sWhile (t : EM Bool) (b : SM) : Nat → SM
  | 0 => sFail
  | n + 1 => sWith t fun k => if k = true then (fun env ih => match b env ih with
      | .nx e h => sWhile t b n e h
      | .cnt e h => sWhile t b n e h
      | .brk e h => .nx e h
      | r => r) else sNext
def RS.res : RS → R PV
  | .nx _ h => .ok .non h
  | .ret v h => .ok v h
  | .exc c fs _ h => .exc c fs h
  | _ => .fail
def startE (N : List Str) (vs : List PV) : Sl := vs.map some ++ List.replicate (N.length - vs.length) none
end Z
end
noncomputable section
namespace Z
open PySem PySem.Spec PyProof.Rows L2
set_option autoImplicit false

def XD (L : Rl) (ρ : List Addr) (H : Hp) (d : Option Addr) (fs : List (Str × PV)) : Prop := match d with
  | none => fs = []
  | some d => ∃ fs', H d = some (.xd fs') ∧ RFs L ρ H fs fs'
theorem XD.mono {L : Rl} {ρ ρ' : List Addr} {H H' : Hp} (e : Ext ρ H ρ' H') {d : Option Addr} {fs : List (Str × PV)} (h : XD L ρ H d fs) : XD L ρ' H' d fs := by
  cases d with
  | none => exact h
  | some d => obtain ⟨fs', a, b⟩ := h; exact ⟨fs', e.xds _ _ a, b.mono e⟩

section
variable {α β γ δ : Type} (L : Rl) (W : WX) (σ : L2.St)
def Post (rel : List Addr → Hp → α → β → Prop) (Q : β → Hp → Prop) (ρ : List Addr) (H : Hp) : R α → Prop
  | .ok v ih => ∀ ρ' H' u, Ext ρ H ρ' H' → RH L ρ' H' ih → rel ρ' H' v u → Q u H'
  | .exc c fs ih => ∀ ρ' H' d, Ext ρ H ρ' H' → RH L ρ' H' ih → XD L ρ' H' d fs → W (.ref (He.ga L.K c)) d σ H'
  | .fail => False
end
section
variable {α β γ δ : Type} {L : Rl} {W : WX} {σ : L2.St} {rel : List Addr → Hp → α → β → Prop} {rel2 : List Addr → Hp → γ → δ → Prop} {Q : β → Hp → Prop} {Q2 : δ → Hp → Prop} {ρ ρ1 : List Addr} {H H1 : Hp}
theorem Post.ext {r : R α} (h : Post L W σ rel Q ρ H r) (e : Ext ρ H ρ1 H1) : Post L W σ rel Q ρ1 H1 r := by
  cases r with
  | ok v ih => exact fun ρ' H' u e' => h ρ' H' u (e.trans e')
  | exc c fs ih => exact fun ρ' H' d e' => h ρ' H' d (e.trans e')
  | fail => exact h
theorem Post.bind {r : R α} {f : α → IH → R γ} (h : Post L W σ rel2 Q2 ρ H (r.bind f)) :
    Post L W σ rel (fun u H1 => ∃ ρ1 ih1 x, Ext ρ H ρ1 H1 ∧ RH L ρ1 H1 ih1 ∧ rel ρ1 H1 x u ∧ Post L W σ rel2 Q2 ρ1 H1 (f x ih1)) ρ H r := by
  cases r with
  | ok v ih => exact fun ρ' H' u e h' r' => ⟨ρ', ih, v, e, h', r', h.ext e⟩
  | exc c fs ih => exact h
  | fail => exact h
theorem Post.here {v : α} {ih : IH} {u : β} (h : Post L W σ rel Q ρ H (.ok v ih)) (a : RH L ρ H ih) (b : rel ρ H v u) : Q u H := h ρ H u (Ext.refl _ _) a b
end

section
variable {α β γ δ : Type} (L : Rl) (W : WX)
def tG (rel : List Addr → Hp → α → β → Prop) (m : EM α) (σ : L2.St) (H : Hp) (Q : β → Hp → Prop) : Prop :=
  ∃ ρ env ih, RE L ρ H env σ ∧ RH L ρ H ih ∧ Post L W σ rel Q ρ H (m env ih)
abbrev tE (m : EM PV) : TE := tG L W (RV L) m
abbrev relB : List Addr → Hp → Bool → Bool → Prop := fun _ _ b c => b = c
abbrev tT (m : EM Bool) : TT := tG L W relB m
abbrev tA (m : EM (List PV)) : TA := tG L W (RVs L) m
end
section
variable {α β γ δ : Type} {L : Rl} {W : WX} {σ : L2.St} {rel : List Addr → Hp → α → β → Prop} {rel2 : List Addr → Hp → γ → δ → Prop} {Q : β → Hp → Prop} {Q2 : δ → Hp → Prop} {ρ ρ1 : List Addr} {H H1 : Hp}
theorem bindAt {m : EM α} {f : α → EM γ} {env : Sl} {ih : IH} (e1 : RE L ρ H env σ) (e2 : RH L ρ H ih) (h : Post L W σ rel2 Q2 ρ H (eBind m f env ih)) :
    tG L W rel m σ H fun u H1 => ∃ ρ1 ih1 x, Ext ρ H ρ1 H1 ∧ RH L ρ1 H1 ih1 ∧ rel ρ1 H1 x u ∧ Post L W σ rel2 Q2 ρ1 H1 (f x env ih1) :=
  ⟨ρ, env, ih, e1, e2, Post.bind (rel := rel) (r := m env ih) (f := fun a h => f a env h) h⟩
theorem bindFrom {m : EM α} {f : α → EM γ} {env : Sl} {ih : IH} (en : Ext ρ H ρ1 H1) (e1 : RE L ρ1 H1 env σ) (e2 : RH L ρ1 H1 ih) (h : Post L W σ rel2 Q2 ρ H (eBind m f env ih)) :
    tG L W rel m σ H1 fun u H2 => ∃ ρ2 ih2 x, Ext ρ1 H1 ρ2 H2 ∧ RH L ρ2 H2 ih2 ∧ rel ρ2 H2 x u ∧ Post L W σ rel2 Q2 ρ H (f x env ih2) := by
  refine ⟨ρ1, env, ih, e1, e2, ?_⟩
  unfold eBind at h
  revert h
  cases m env ih with
  | ok v ih' => exact fun h ρ' H' u e h' r' => ⟨ρ', ih', v, e, h', r', h⟩
  | exc c fs ih' => exact fun h => Post.ext (r := .exc c fs ih') (rel := rel2) h en
  | fail => exact fun h => h
theorem tG.of {m : EM α} {env : Sl} {ih : IH} (e1 : RE L ρ H env σ) (e2 : RH L ρ H ih) (p : Post L W σ rel Q ρ H (m env ih)) : tG L W rel m σ H Q := ⟨ρ, env, ih, e1, e2, p⟩
theorem Post.mono {r : R α} {Q' : β → Hp → Prop} (h : Post L W σ rel Q ρ H r) (k : ∀ u H, Q u H → Q' u H) : Post L W σ rel Q' ρ H r := by
  cases r with
  | ok v ih => exact fun ρ' H' u e a b => k _ _ (h ρ' H' u e a b)
  | exc c fs ih => exact h
  | fail => exact h
theorem tG.mono {m : EM α} {Q' : β → Hp → Prop} (h : tG L W rel m σ H Q) (k : ∀ u H, Q u H → Q' u H) : tG L W rel m σ H Q' :=
  let ⟨ρ, env, ih, e1, e2, p⟩ := h; ⟨ρ, env, ih, e1, e2, p.mono k⟩
end

theorem impE {X : Cx} {e : Expr} {t t' : TE} (h : PE X e t) (k : ∀ σ H Q, t' σ H Q → t σ H Q) : PE X e t' := ⟨fun pins s σ H Q I q => h.run pins s σ H Q I (k σ H Q q)⟩
theorem impT {X : Cx} {e : Expr} {t t' : TT} (h : PT X e t) (k : ∀ σ H Q, t' σ H Q → t σ H Q) : PT X e t' := ⟨fun pins s σ H Q I q => h.run pins s σ H Q I (k σ H Q q)⟩
theorem impW {X : Cx} {e : Expr} {t t' : TT} (h : PW X e t) (k : ∀ σ H Q, t' σ H Q → t σ H Q) : PW X e t' := ⟨fun w pins s σ H Q I q => h.run w pins s σ H Q I (k σ H Q q)⟩
theorem impA {X : Cx} {es : List Expr} {t t' : TA} (h : PA X es t) (k : ∀ σ H Q, t' σ H Q → t σ H Q) : PA X es t' := ⟨fun pos pins s σ H Q I q => h.run pos pins s σ H Q I (k σ H Q q)⟩
theorem impS {X : Cx} {st : Stmt} {t t' : TS} (h : PS X st t) (k : ∀ D σ H, t' D σ H → t D σ H) : PS X st t' := ⟨fun pins s σ H D I q => h.run pins s σ H D I (k D σ H q)⟩
theorem impSs {X : Cx} {st : List Stmt} {t t' : TS} (h : PSs X st t) (k : ∀ D σ H, t' D σ H → t D σ H) : PSs X st t' := ⟨fun pins s σ H D I q => h.run pins s σ H D I (k D σ H q)⟩
theorem noE {X : Cx} {e : Expr} {L : Rl} {W : WX} : PE X e (tE L W eFail) := ⟨fun _ _ _ _ _ _ ⟨_, _, _, _, _, z⟩ => z.elim⟩
theorem noT {X : Cx} {e : Expr} {L : Rl} {W : WX} : PT X e (tT L W eFail) := ⟨fun _ _ _ _ _ _ ⟨_, _, _, _, _, z⟩ => z.elim⟩

section
variable {X : Cx} {L : Rl} {W : WX} {a b c e : Expr} {pos : Pos} {ma mb mc : EM PV}

theorem se_var {i : Nat} {x : Str} (hN : X.N[i]? = some x) (hv : Vis X.env.scope x) (hd : (x == ("__debug__" : Str)) = false) (hcd : (x == ("__classdict__" : Str)) = false) : PE X (.Name x pos) (tE L W (eVar i)) :=
  impE (pe_var hN hv hd hcd) fun σ H Q h => by
    obtain ⟨ρ, env, ih, e1, e2, p⟩ := h
    unfold eVar at p
    split at p
    · rename_i v q
      obtain ⟨u, q2, r⟩ := e1.at_ i v q
      exact ⟨u, q2, p.here e2 r⟩
    · exact p.elim
theorem tE_c {v : PV} {u : V} (hr : ∀ ρ H, RV L ρ H v u) {σ : L2.St} {H : Hp} {Q : VK} (h : tE L W (eC v) σ H Q) : tC u σ H Q := by
  obtain ⟨ρ, env, ih, e1, e2, p⟩ := h
  exact p.here e2 (hr ρ H)
theorem se_int {i : Int} {j} : PE X (.Constant (.int i) j pos) (tE L W (eC (.int i))) := impE pe_int fun σ H Q h => tE_c (fun _ _ => .int i) h
theorem se_bl {i : Bool} {j} : PE X (.Constant (.bool i) j pos) (tE L W (eC (.bl i))) := impE pe_bl fun σ H Q h => tE_c (fun _ _ => .bl i) h
theorem se_str {i : Str} {j} : PE X (.Constant (.str i) j pos) (tE L W (eC (.str i))) := impE pe_str fun σ H Q h => tE_c (fun _ _ => .str i) h
theorem se_non {j} : PE X (.Constant .none j pos) (tE L W (eC .non)) := impE pe_non fun σ H Q h => tE_c (fun _ _ => .non) h

def P2 (L : Rl) (W : WX) (p : PV → PV → IH → R PV) (r : R2) : Prop := ∀ (σ : L2.St) (Q : VK) (ρ : List Addr) (H : Hp) (ih : IH) (x y : PV) (u v : V), RH L ρ H ih → RV L ρ H x u → RV L ρ H y v → Post L W σ (RV L) Q ρ H (p x y ih) → r u v H Q
def P2B (L : Rl) (W : WX) (p : PV → PV → IH → R Bool) (r : R2) : Prop := ∀ (σ : L2.St) (Q : VK) (ρ : List Addr) (H : Hp) (ih : IH) (x y : PV) (u v : V), RH L ρ H ih → RV L ρ H x u → RV L ρ H y v → Post L W σ relB (fun b => Q (.bl b)) ρ H (p x y ih) → r u v H Q
def P1 (L : Rl) (W : WX) (p : PV → IH → R PV) (r : V → Hp → VK → Prop) : Prop := ∀ (σ : L2.St) (Q : VK) (ρ : List Addr) (H : Hp) (ih : IH) (x : PV) (u : V), RH L ρ H ih → RV L ρ H x u → Post L W σ (RV L) Q ρ H (p x ih) → r u H Q
theorem tE_op {p : PV → PV → IH → R PV} {r : R2} (hp : P2 L W p r) {σ : L2.St} {H : Hp} {Q : VK} (h : tE L W (eOp p ma mb) σ H Q) : tOp r (tE L W ma) (tE L W mb) σ H Q := by
  obtain ⟨ρ, env, ih, e1, e2, h⟩ := h
  refine (bindAt (rel := RV L) e1 e2 h).mono fun u H1 ⟨ρ1, ih1, x, ex, h1, r1, p1⟩ => (bindAt (rel := RV L) (e1.mono ex) h1 p1).mono fun v H2 ⟨ρ2, ih2, y, ex2, h2, r2, p2⟩ => ?_
  exact hp σ Q ρ2 H2 ih2 x y u v h2 (r1.mono ex2) r2 p2
theorem tE_cmp {p : PV → PV → IH → R Bool} {r : R2} (hp : P2B L W p r) {σ : L2.St} {H : Hp} {Q : Bool → Hp → Prop} (h : tT L W (eCmp p ma mb) σ H Q) : tTest (tOp r (tE L W ma) (tE L W mb)) σ H Q := by
  obtain ⟨ρ, env, ih, e1, e2, h⟩ := h
  refine (bindAt (rel := RV L) e1 e2 h).mono fun u H1 ⟨ρ1, ih1, x, ex, h1, r1, p1⟩ => (bindAt (rel := RV L) (e1.mono ex) h1 p1).mono fun v H2 ⟨ρ2, ih2, y, ex2, h2, r2, p2⟩ => ?_
  exact hp σ (fun x H' => ∃ k, x = .bl k ∧ Q k H') ρ2 H2 ih2 x y u v h2 (r1.mono ex2) r2 (p2.mono fun b H q => ⟨b, rfl, q⟩)
theorem post_val {σ : L2.St} {ρ : List Addr} {H : Hp} {Q : VK} {r : R Bool} (h : Post L W σ (RV L) Q ρ H r.val) : Post L W σ relB (fun b => Q (.bl b)) ρ H r := by
  cases r with
  | ok b ih => exact fun ρ' H' u e a eq => eq ▸ h ρ' H' (.bl b) e a (.bl b)
  | exc c fs ih => exact h
  | fail => exact h
theorem tE_val {t : EM Bool} {σ : L2.St} {H : Hp} {Q : VK} (h : tE L W (eVal t) σ H Q) : tT L W t σ H fun b => Q (.bl b) := by
  obtain ⟨ρ, env, ih, e1, e2, h⟩ := h
  exact ⟨ρ, env, ih, e1, e2, post_val h⟩
theorem tE_cmpV {p : PV → PV → IH → R Bool} {r : R2} (hp : P2B L W p r) {σ : L2.St} {H : Hp} {Q : VK} (h : tE L W (eVal (eCmp p ma mb)) σ H Q) : tOp r (tE L W ma) (tE L W mb) σ H Q := by
  obtain ⟨ρ, env, ih, e1, e2, h⟩ := tE_val h
  refine (bindAt (rel := RV L) e1 e2 h).mono fun u H1 ⟨ρ1, ih1, x, ex, h1, r1, p1⟩ => (bindAt (rel := RV L) (e1.mono ex) h1 p1).mono fun v H2 ⟨ρ2, ih2, y, ex2, h2, r2, p2⟩ => ?_
  exact hp σ Q ρ2 H2 ih2 x y u v h2 (r1.mono ex2) r2 p2
theorem tE_un {p : PV → IH → R PV} {r : V → Hp → VK → Prop} (hp : P1 L W p r) {σ : L2.St} {H : Hp} {Q : VK} (h : tE L W (eUn p ma) σ H Q) : tUn r (tE L W ma) σ H Q := by
  obtain ⟨ρ, env, ih, e1, e2, h⟩ := h
  exact (bindAt (rel := RV L) e1 e2 h).mono fun u H1 ⟨ρ1, ih1, x, ex, h1, r1, p1⟩ => hp σ Q ρ1 H1 ih1 x u h1 r1 p1

theorem rv_int {ρ : List Addr} {H : Hp} {i : Int} {u : V} (h : RV L ρ H (.int i) u) : u = .int i := by cases h; rfl
theorem rv_str {ρ : List Addr} {H : Hp} {i : Str} {u : V} (h : RV L ρ H (.str i) u) : u = .str i := by cases h; rfl
theorem rv_bl {ρ : List Addr} {H : Hp} {i : Bool} {u : V} (h : RV L ρ H (.bl i) u) : u = .bl i := by cases h; rfl
theorem rv_tup {ρ : List Addr} {H : Hp} {xs : List PV} {u : V} (h : RV L ρ H (.tup xs) u) : ∃ a vs, u = .ref a ∧ SqT L.K H a vs ∧ RVs L ρ H xs vs := by
  cases h with
  | tup a b => exact ⟨_, _, rfl, a, b⟩
theorem rv_ref {ρ : List Addr} {H : Hp} {n : Nat} {u : V} (h : RV L ρ H (.ref n) u) : ∃ a, u = .ref a ∧ ρ[n]? = some a := by
  cases h with
  | ref a => exact ⟨_, rfl, a⟩
theorem RVs.length {ρ : List Addr} {H : Hp} : ∀ {xs : List PV} {vs : List V}, RVs L ρ H xs vs → xs.length = vs.length
  | _, _, .nil => rfl
  | _, _, .cons _ r => congrArg Nat.succ r.length
theorem RVs.append {ρ : List Addr} {H : Hp} : ∀ {xs ys : List PV} {vs ws : List V}, RVs L ρ H xs vs → RVs L ρ H ys ws → RVs L ρ H (xs ++ ys) (vs ++ ws)
  | _, _, _, _, .nil, s => s
  | _, _, _, _, .cons r t, s => .cons r (RVs.append t s)
theorem RVs.get {ρ : List Addr} {H : Hp} : ∀ {xs : List PV} {vs : List V} {i : Nat} {x : PV}, RVs L ρ H xs vs → xs[i]? = some x → ∃ v, vs[i]? = some v ∧ RV L ρ H x v
  | _, _, _, _, .nil, e => by simp at e
  | _, _, 0, _, .cons r _, e => by simp at e; subst e; exact ⟨_, rfl, r⟩
  | _, _, i + 1, x, .cons _ t, e => by
    obtain ⟨u, h1, h2⟩ := RVs.get (i := i) (x := x) t (by simpa using e)
    exact ⟨u, by simpa using h1, h2⟩
theorem RVs.set {ρ : List Addr} {H : Hp} {x : PV} {v : V} (r : RV L ρ H x v) : ∀ {xs : List PV} {vs : List V} (i : Nat), RVs L ρ H xs vs → RVs L ρ H (xs.set i x) (vs.set i v)
  | _, _, _, .nil => .nil
  | _, _, 0, .cons _ t => .cons r t
  | _, _, i + 1, .cons q t => .cons q (RVs.set r i t)
theorem RVs.take {ρ : List Addr} {H : Hp} : ∀ {xs : List PV} {vs : List V} (n : Nat), RVs L ρ H xs vs → RVs L ρ H (xs.take n) (vs.take n)
  | _, _, 0, _ => .nil
  | _, _, _ + 1, .nil => .nil
  | _, _, n + 1, .cons r t => .cons r (RVs.take n t)
theorem RVs.drop {ρ : List Addr} {H : Hp} : ∀ {xs : List PV} {vs : List V} (n : Nat), RVs L ρ H xs vs → RVs L ρ H (xs.drop n) (vs.drop n)
  | _, _, 0, r => r
  | _, _, _ + 1, .nil => .nil
  | _, _, n + 1, .cons _ t => RVs.drop n t
theorem RVs.isEmpty {ρ : List Addr} {H : Hp} {xs : List PV} {vs : List V} (r : RVs L ρ H xs vs) : vs.isEmpty = xs.isEmpty := by cases r <;> rfl
theorem RVs.flat {ρ : List Addr} {H : Hp} {xs : List PV} {vs : List V} (r : RVs L ρ H xs vs) : ∀ k : Nat, RVs L ρ H (List.replicate k xs).flatten (List.replicate k vs).flatten
  | 0 => .nil
  | k + 1 => by
    rw [List.replicate_succ, List.replicate_succ, List.flatten_cons, List.flatten_cons]
    exact r.append (RVs.flat r k)
theorem getL_at {ρ : List Addr} {H : Hp} {ih : IH} {n : Nat} {xs : List PV} (h : RH L ρ H ih) (e : getL ih n = some xs) {a : Addr} (ea : ρ[n]? = some a) : ∃ vs, SqL L.K H a vs ∧ RVs L ρ H xs vs := by
  unfold getL at e
  split at e
  · rename_i q
    cases e
    obtain ⟨vs, h1, h2⟩ := h.ob n a _ ea q
    exact ⟨vs, SqL.of h1, h2⟩
  · rename_i q
    cases e
    obtain ⟨o, vs, h1, h2⟩ := h.ob n a _ ea q
    exact ⟨vs, .inl (.inr ⟨o, h1⟩), h2⟩
  · cases e
theorem getM_at {ρ : List Addr} {H : Hp} {ih : IH} {n : Nat} {xs : List PV} (h : RH L ρ H ih) (e : getM ih n = some xs) {a : Addr} (ea : ρ[n]? = some a) : ∃ vs, H a = some (.lst vs) ∧ RVs L ρ H xs vs := by
  unfold getM at e
  split at e
  · rename_i q
    cases e
    exact h.ob n a _ ea q
  · cases e
theorem at_dK {ρ : List Addr} {H : Hp} {ih : IH} {n : Nat} {xs : List (Key × PV)} (h : RH L ρ H ih) (e : ih[n]? = some (.dK xs)) {a : Addr} (ea : ρ[n]? = some a) : ∃ vs, H a = some (.dK vs) ∧ RKs L ρ H xs vs := h.ob n a _ ea e
theorem getI_at {ρ : List Addr} {H : Hp} {ih : IH} {n : Nat} {c : Str} {fs : List (Str × PV)} (h : RH L ρ H ih) (e : getI ih n = some (c, fs)) {a : Addr} (ea : ρ[n]? = some a) : ∃ dx fs', H a = some (.ins (He.ga L.K c) dx fs') ∧ RFs L ρ H fs fs' := by
  unfold getI at e
  split at e
  · rename_i q
    cases e
    exact h.ob n a _ ea q
  · cases e

theorem lay_lst {ρ : List Addr} {H : Hp} {ih : IH} (h : RH L ρ H ih) {xs : List PV} {vs : List V} (r : RVs L ρ H xs vs) {a : Addr} (hp : H a = none) :
    RH L (ρ ++ [a]) (upd H a (.lst vs)) (ih ++ [.lst xs]) ∧ RV L (ρ ++ [a]) (upd H a (.lst vs)) (.ref ih.length) (.ref a) ∧ Ext ρ H (ρ ++ [a]) (upd H a (.lst vs)) := by
  have ex := ext_lay (u := .lst vs) h hp
  refine ⟨h.lay hp ⟨vs, upd_same, r.mono ex⟩, .ref ?_, ex⟩
  rw [← h.len, List.getElem?_append_right (Nat.le_refl _), Nat.sub_self]; rfl
theorem lay_dK {ρ : List Addr} {H : Hp} {ih : IH} (h : RH L ρ H ih) {xs : List (Key × PV)} {vs : List (Key × V)} (r : RKs L ρ H xs vs) {a : Addr} (hp : H a = none) :
    RH L (ρ ++ [a]) (upd H a (.dK vs)) (ih ++ [.dK xs]) ∧ RV L (ρ ++ [a]) (upd H a (.dK vs)) (.ref ih.length) (.ref a) ∧ Ext ρ H (ρ ++ [a]) (upd H a (.dK vs)) := by
  have ex := ext_lay (u := .dK vs) h hp
  refine ⟨h.lay hp ⟨vs, upd_same, r.mono ex⟩, .ref ?_, ex⟩
  rw [← h.len, List.getElem?_append_right (Nat.le_refl _), Nat.sub_self]; rfl
theorem post_newL {σ : L2.St} {Q : VK} {ρ : List Addr} {H : Hp} {ih : IH} {xs : List PV} {vs : List V} (h : RH L ρ H ih) (r : RVs L ρ H xs vs) (p : Post L W σ (RV L) Q ρ H (newL ih xs)) :
    vs.length ≤ sizeLine ∧ ∀ a, H a = none → Q (.ref a) (upd H a (.lst vs)) := by
  unfold newL at p
  split at p
  · rename_i hl
    refine ⟨by rw [← r.length, sizeLine_eq]; exact hl, fun a ha => ?_⟩
    obtain ⟨k1, k2, k3⟩ := lay_lst h r ha
    exact p _ _ _ k3 k1 k2
  · exact p.elim
theorem post_lay {σ : L2.St} {Q : VK} {ρ : List Addr} {H : Hp} {ih : IH} {xs : List PV} {vs : List V} (h : RH L ρ H ih) (r : RVs L ρ H xs vs) (p : Post L W σ (RV L) Q ρ H (.ok (.ref ih.length) (ih ++ [.lst xs]))) {a : Addr} (ha : H a = none) : Q (.ref a) (upd H a (.lst vs)) := by
  obtain ⟨k1, k2, k3⟩ := lay_lst h r ha
  exact p _ _ _ k3 k1 k2
theorem post_tup {σ : L2.St} {Q : VK} {ρ : List Addr} {H : Hp} {ih : IH} {xs : List PV} {vs : List V} (h : RH L ρ H ih) (r : RVs L ρ H xs vs) (p : Post L W σ (RV L) Q ρ H (.ok (.tup xs) ih)) {a : Addr} (ha : H a = none) : Q (.ref a) (upd H a (.tup vs)) := by
  have ex := ext_new (ρ := ρ) (u := .tup vs) ha
  exact p _ _ _ ex (h.new ha) (.tup (SqT.of upd_same) (r.mono ex))
theorem post_newT {σ : L2.St} {Q : VK} {ρ : List Addr} {H : Hp} {ih : IH} {xs : List PV} {vs : List V} (h : RH L ρ H ih) (r : RVs L ρ H xs vs) (p : Post L W σ (RV L) Q ρ H (newT ih xs)) :
    vs.length ≤ sizeLine ∧ ∀ a, H a = none → Q (.ref a) (upd H a (.tup vs)) := by
  unfold newT at p
  split at p
  · rename_i hl
    exact ⟨by rw [← r.length, sizeLine_eq]; exact hl, fun a ha => post_tup h r p ha⟩
  · exact p.elim
end
end Z
end
noncomputable section
namespace Z
open PySem PySem.Spec PyProof.Rows L2
set_option autoImplicit false
abbrev lr (X : Cx) (ex : Option (Addr × Str × Option Addr)) : Rl := ⟨X.K, X.w, ex⟩
abbrev rFalse : R2 := fun _ _ _ _ => False
theorem op_false {X : Cx} {f : Value → Value → Sem Value} : OpR X f rFalse := fun _ _ _ _ _ _ _ _ _ _ _ _ h => h.elim
section
variable {X : Cx} {ex : Option (Addr × Str × Option Addr)} {W : WX}
def rAddA (K : PySem.W.Frag) : R2 := fun x y H Q => (∃ i j, x = .int i ∧ y = .int j ∧ Q (.int (i + j)) H) ∨ (∃ i j, x = .str i ∧ y = .str j ∧ i.length + j.length ≤ sizeLine ∧ Q (.str (i ++ j)) H) ∨ rCat x y H Q ∨ rCatA K x y H Q
theorem op_addA : OpR X (binaryOp .Add) (rAddA X.K) := OpR.or op_add (OpR.or op_add_str (OpR.or op_cat op_catA))
theorem rvs_ne {L : Rl} {ρ : List Addr} {H : Hp} {xs : List PV} (r : RVs L ρ H xs []) : xs = [] := by cases r; rfl
theorem p2_add : P2 (lr X ex) W addP (rAddA X.K) := by
  intro σ Q ρ H ih x y u v h r1 r2 p
  unfold addP at p
  split at p
  · cases r1; cases r2
    exact .inl ⟨_, _, rfl, rfl, p.here h (.int _)⟩
  · cases r1; cases r2
    split at p
    · rename_i hl
      exact .inr (.inl ⟨_, _, rfl, rfl, by rw [sizeLine_eq]; exact hl, p.here h (.str _)⟩)
    · exact p.elim
  · obtain ⟨a, rfl, ea⟩ := rv_ref r1
    obtain ⟨b, rfl, eb⟩ := rv_ref r2
    split at p
    · rename_i q1 q2
      obtain ⟨vs, h1, s1⟩ := getM_at h q1 ea
      obtain ⟨ws, h2, s2⟩ := getM_at h q2 eb
      obtain ⟨z, k⟩ := post_newL h (s1.append s2) p
      exact .inr (.inr (.inl ⟨a, b, vs, ws, rfl, rfl, h1, h2, by rw [← List.length_append]; exact z, k⟩))
    · exact p.elim
  · obtain ⟨a, vs, rfl, h1, s1⟩ := rv_tup r1
    obtain ⟨b, ws, rfl, h2, s2⟩ := rv_tup r2
    have p0 := p
    obtain ⟨z, k⟩ := post_newT h (s1.append s2) p
    unfold newT at p0
    split at p0
    · refine .inr (.inr (.inr ⟨a, b, vs, ws, rfl, rfl, h1, h2, by rw [← List.length_append]; exact z, fun e => ?_, fun e1 e2 => ?_, fun _ _ => k⟩))
      · subst e
        have e' := rvs_ne s1
        subst e'
        exact p0.here h (.tup h2 (by simpa using s2))
      · subst e2
        have e' := rvs_ne s2
        subst e'
        exact p0.here h (.tup h1 (by simpa using s1))
    · exact p0.elim
  · exact p.elim
theorem p2_int {f : Int → Int → Int} {C : Int → Int → Prop} {p : PV → PV → IH → R PV}
    (hp : ∀ x y ih, (∃ i j, x = PV.int i ∧ y = PV.int j ∧ C i j ∧ p x y ih = .ok (.int (f i j)) ih) ∨ p x y ih = .fail) : P2 (lr X ex) W p (rI C fun i j => .int (f i j)) := by
  intro σ Q ρ H ih x y u v h r1 r2 q
  rcases hp x y ih with ⟨i, j, rfl, rfl, c, e⟩ | e
  · rw [e] at q
    exact ⟨i, j, rv_int r1, rv_int r2, c, q.here h (.int _)⟩
  · rw [e] at q; exact q.elim
theorem p2_sub : P2 (lr X ex) W subP (rI (fun _ _ => True) fun i j => .int (i - j)) := p2_int fun x y ih => by
  unfold subP; split
  · exact .inl ⟨_, _, rfl, rfl, trivial, rfl⟩
  · exact .inr rfl
theorem op_subA : OpR X (binaryOp .Sub) (rI (fun _ _ => True) fun i j => .int (i - j)) := fun pins s σ H x y v u Q I r1 r2 ⟨i, j, e1, e2, _, q⟩ => op_sub pins s σ H x y v u Q I r1 r2 ⟨i, j, e1, e2, q⟩
theorem p2_div : P2 (lr X ex) W divP (rI CDivW fun i j => .int (i / j)) := p2_int fun x y ih => by
  unfold divP; split
  · split
    · rename_i h; exact .inl ⟨_, _, rfl, rfl, h, rfl⟩
    · exact .inr rfl
  · exact .inr rfl
theorem p2_mod : P2 (lr X ex) W modP (rI (fun _ j => 0 < j) fun i j => .int (i % j)) := p2_int fun x y ih => by
  unfold modP; split
  · split
    · rename_i h; exact .inl ⟨_, _, rfl, rfl, h, rfl⟩
    · exact .inr rfl
  · exact .inr rfl
theorem p2_pow : P2 (lr X ex) W powP (rI CPow fun i j => .int (i ^ j.toNat)) := p2_int fun x y ih => by
  unfold powP; split
  · split
    · rename_i h; exact .inl ⟨_, _, rfl, rfl, h, rfl⟩
    · exact .inr rfl
  · exact .inr rfl
def rMulA : R2 := fun x y H Q => rI CMulW (fun i j => .int (i * j)) x y H Q ∨ rRep x y H Q
theorem op_mulA : OpR X (binaryOp .Mult) rMulA := OpR.or op_mulW op_rep
theorem p2_mul : P2 (lr X ex) W mulP rMulA := by
  intro σ Q ρ H ih x y u v h r1 r2 p
  unfold mulP at p
  split at p
  · cases r1; cases r2
    split at p
    · rename_i hl
      exact .inl ⟨_, _, rfl, rfl, hl, p.here h (.int _)⟩
    · exact p.elim
  · obtain ⟨a, rfl, ea⟩ := rv_ref r1
    cases r2
    split at p
    · rename_i q1
      obtain ⟨vs, h1, s1⟩ := getM_at h q1 ea
      split at p
      · rename_i hl
        exact .inr ⟨a, _, vs, rfl, rfl, h1, hl.1, hl.2.1, by rw [← s1.length, sizeLine_eq]; exact hl.2.2, fun l hn => post_lay h (s1.flat _) p hn⟩
      · exact p.elim
    · exact p.elim
  · exact p.elim
theorem p2_fail : P2 (lr X ex) W failP rFalse := fun _ _ _ _ _ _ _ _ _ _ _ _ p => p.elim
theorem se_bin {a b : Expr} {pos : Pos} {ma mb : EM PV} (op : Operator) (ha : PE X a (tE (lr X ex) W ma)) (hb : PE X b (tE (lr X ex) W mb)) : PE X (.BinOp a op b pos) (tE (lr X ex) W (eOp (binP op) ma mb)) := by
  have go : ∀ {p : PV → PV → IH → R PV} {r : R2}, OpR X (binaryOp op) r → P2 (lr X ex) W p r → PE X (.BinOp a op b pos) (tE (lr X ex) W (eOp p ma mb)) := fun ho hp => impE (pe_op ho ha hb) fun σ H Q h => tE_op hp h
  cases op
  case Add => exact go op_addA p2_add
  case Sub => exact go op_subA p2_sub
  case Mult => exact go op_mulA p2_mul
  case FloorDiv => exact go op_fdivW p2_div
  case Mod => exact go op_mod p2_mod
  case Pow => exact go op_pow p2_pow
  all_goals exact go op_false p2_fail
end
end Z
end
noncomputable section
namespace Z
open PySem PySem.Spec PyProof.Rows L2
set_option autoImplicit false

section
variable {L : Rl} {ρ : List Addr} {H : Hp} {ih : IH}
theorem rv_scal {x : PV} {u : V} {d : PyData} (h : RV L ρ H x u) (e : scalD x = some d) : Dp L.K H u d := by
  cases h <;> simp only [scalD] at e <;> cases e
  · exact .non
  · exact .bl _
  · exact .int _
  · exact .str _
theorem mapO_dp {f : PV → Option PyData} (hf : ∀ x u d, RV L ρ H x u → f x = some d → Dp L.K H u d) : ∀ {xs : List PV} {vs : List V} {ds : List PyData}, RVs L ρ H xs vs → mapO f xs = some ds → DpAll L.K H vs ds
  | _, _, _, .nil, e => by simp only [mapO] at e; cases e; exact .nil
  | _, _, _, .cons (x := x) (xs := xs) r t, e => by
    simp only [mapO] at e
    split at e
    · rename_i y q
      cases q2 : mapO f xs with
      | none => rw [q2] at e; cases e
      | some ys =>
        rw [q2] at e
        cases e
        exact .cons (hf _ _ _ r q) (mapO_dp hf t q2)
    · cases e
theorem toD_dp (h : RH L ρ H ih) : ∀ (n : Nat) (x : PV) (u : V) (d : PyData), RV L ρ H x u → toD ih n x = some d → Dp L.K H u d
  | 0, x, u, d, r, e => rv_scal r (by simpa only [toD] using e)
  | n + 1, x, u, d, r, e => by
    cases r with
    | tup h1 h2 =>
      simp only [toD] at e
      cases q : mapO (toD ih n) _ with
      | none => rw [q] at e; cases e
      | some ds =>
        rw [q] at e; cases e
        exact .tup h1 (mapO_dp (fun x u d => toD_dp h n x u d) h2 q)
    | ref h1 =>
      simp only [toD] at e
      split at e
      · rename_i xs q0
        obtain ⟨vs, k1, k2⟩ := getL_at h q0 h1
        cases q : mapO (toD ih n) xs with
        | none => rw [q] at e; cases e
        | some ds =>
          rw [q] at e; cases e
          exact .lst k1 (mapO_dp (fun x u d => toD_dp h n x u d) k2 q)
      · cases e
    | non => exact rv_scal (ρ := ρ) .non (by simpa only [toD] using e)
    | bl b => exact rv_scal (ρ := ρ) (.bl b) (by simpa only [toD] using e)
    | int b => exact rv_scal (ρ := ρ) (.int b) (by simpa only [toD] using e)
    | str b => exact rv_scal (ρ := ρ) (.str b) (by simpa only [toD] using e)
    | ty b => exact rv_scal (ρ := ρ) (.ty b) (by simpa only [toD] using e)
    | cls b => exact rv_scal (ρ := ρ) (.cls b) (by simpa only [toD] using e)
    | exc0 k => exact rv_scal (ρ := ρ) (.exc0 k) (by simpa only [toD] using e)
    | exc k1 k2 k3 => exact rv_scal (ρ := ρ) (.exc k1 k2 k3) (by simpa only [toD] using e)

theorem rks_look {kvs : List (Key × PV)} {vs : List (Key × V)} (r : RKs L ρ H kvs vs) (k : Key) : match lookK kvs k with
    | some x => ∃ v, valV vs k = some v ∧ RV L ρ H x v
    | none => valV vs k = none := by
  induction r with
  | nil => simp only [lookK]; rfl
  | cons h t ih =>
    rename_i f x xs v ws
    simp only [lookK]
    by_cases hk : f = k
    · rw [if_pos hk]; exact ⟨v, valV_pos hk, h⟩
    · rw [if_neg hk, valV_neg hk]; exact ih
theorem rks_some {kvs : List (Key × PV)} {vs : List (Key × V)} (r : RKs L ρ H kvs vs) (k : Key) : (valV vs k).isSome = (lookK kvs k).isSome := by
  have q := rks_look r k
  cases e : lookK kvs k with
  | none => rw [e] at q; simp only at q; rw [q]; rfl
  | some x => rw [e] at q; simp only at q; obtain ⟨v, e2, _⟩ := q; rw [e2]; rfl
theorem rks_len {kvs : List (Key × PV)} {vs : List (Key × V)} (r : RKs L ρ H kvs vs) : kvs.length = vs.length := by
  induction r with
  | nil => rfl
  | cons _ _ ih => exact congrArg Nat.succ ih
theorem rks_app {kvs more : List (Key × PV)} {vs ws : List (Key × V)} (r : RKs L ρ H kvs vs) (s : RKs L ρ H more ws) : RKs L ρ H (kvs ++ more) (vs ++ ws) := by
  induction r with
  | nil => exact s
  | cons h _ ih => exact .cons h ih
theorem rks_set {kvs : List (Key × PV)} {vs : List (Key × V)} (r : RKs L ρ H kvs vs) (k : Key) {x : PV} {v : V} (rx : RV L ρ H x v) : RKs L ρ H (setK' kvs k x) (vs.map fun kv => if kv.1 = k then (kv.1, v) else kv) := by
  induction r with
  | nil => exact .nil
  | cons h t ih =>
    rename_i f y xs w ws
    show RKs L ρ H ((if f = k then (f, x) else (f, y)) :: setK' xs k x) ((if f = k then (f, v) else (f, w)) :: ws.map fun kv => if kv.1 = k then (kv.1, v) else kv)
    by_cases hk : f = k
    · rw [if_pos hk, if_pos hk]; exact .cons rx ih
    · rw [if_neg hk, if_neg hk]; exact .cons h ih
theorem rks_put {kvs : List (Key × PV)} {vs : List (Key × V)} (r : RKs L ρ H kvs vs) (k : Key) {x : PV} {v : V} (rx : RV L ρ H x v) : RKs L ρ H (putK' kvs k x) (putK vs k v) := by
  unfold putK' putK
  rw [valV_any, rks_some r k]
  by_cases hk : (lookK kvs k).isSome = true
  · rw [if_pos hk, if_pos hk]; exact rks_set r k rx
  · rw [if_neg hk, if_neg hk]; exact rks_app r (.cons rx .nil)
theorem keyOf_v {x : PV} {k : Key} {u : V} (e : keyOf x = some k) (r : RV L ρ H x u) : u = kV k := by
  cases r <;> simp only [keyOf] at e <;> cases e <;> rfl
end

section
variable {X : Cx} {ex : Option (Addr × Str × Option Addr)} {W : WX}
theorem p2b_eq : P2B (lr X ex) W eqP (rEqD X.K) := by
  intro σ Q ρ H ih x y u v h r1 r2 p
  unfold eqP at p
  split at p
  · rename_i d e q1 q2
    split at p
    · rename_i hs
      exact ⟨d, e, toD_dp h _ x u d r1 q1, toD_dp h _ y v e r2 q2, hs.1, hs.2, p.here h rfl⟩
    · exact p.elim
  · exact p.elim
theorem post_not {L : Rl} {σ : L2.St} {Q : Bool → Hp → Prop} {ρ : List Addr} {H : Hp} {r : R Bool} (h : Post L W σ relB Q ρ H r.not) : Post L W σ relB (fun b => Q (!b)) ρ H r := by
  cases r with
  | ok b ih => exact fun ρ' H' u e a eq => h ρ' H' (!u) e a (by rw [eq])
  | exc c fs ih => exact h
  | fail => exact h
theorem p2b_not {p : PV → PV → IH → R Bool} {r r' : R2} (h : P2B (lr X ex) W p r) (k : ∀ x y H Q, r x y H (fun v H1 => ∃ b, v = .bl b ∧ Q (.bl (!b)) H1) → r' x y H Q) : P2B (lr X ex) W (fun x y ih => (p x y ih).not) r' := by
  intro σ Q ρ H ih x y u v hh r1 r2 q
  refine k u v H Q (h σ _ ρ H ih x y u v hh r1 r2 ((post_not q).mono fun b H1 z => ⟨b, rfl, z⟩))
theorem p2b_ne : P2B (lr X ex) W (fun x y ih => (eqP x y ih).not) (rNeD X.K) := p2b_not p2b_eq fun x y H Q ⟨d, e, h1, h2, h3, h4, b, hb, q⟩ => ⟨d, e, h1, h2, h3, h4, by cases hb; exact q⟩

def rLtI (f : Int → Int → Bool) : R2 := rI0 fun i j => .bl (f i j)
theorem p2b_lt {f : Int → Int → Bool} : P2B (lr X ex) W (ltP f) (rLtI f) := by
  intro σ Q ρ H ih x y u v h r1 r2 p
  unfold ltP at p
  split at p
  · exact ⟨_, _, rv_int r1, rv_int r2, p.here h rfl⟩
  · exact p.elim

def rIsA : R2 := fun x y H Q => y = .non ∧ Q (.bl (decide (x = .non))) H
def rIsNotA : R2 := fun x y H Q => y = .non ∧ Q (.bl (!decide (x = .non))) H
theorem isNon_v {L : Rl} {ρ : List Addr} {H : Hp} {x : PV} {u : V} (r : RV L ρ H x u) : decide (u = .non) = isNon x := by
  cases r <;> rfl
theorem p2b_is : P2B (lr X ex) W isP rIsA := by
  intro σ Q ρ H ih x y u v h r1 r2 p
  unfold isP at p
  split at p
  · cases r2
    exact ⟨rfl, by rw [isNon_v r1]; exact p.here h rfl⟩
  · exact p.elim
theorem p2b_isnot : P2B (lr X ex) W (fun x y ih => (isP x y ih).not) rIsNotA := p2b_not p2b_is fun x y H Q ⟨h, b, hb, q⟩ => ⟨h, by cases hb; exact q⟩

def rInT (K : PySem.W.Frag) : R2 := fun x y H Q => ∃ d ds, Dp K H x d ∧ Dp K H y (.tuple ds) ∧ SeqAt.shaped d = true ∧ SeqAt.shaped (.list ds) = true ∧ Q (.bl (ds.any fun z => PyData.eqv z d)) H
def rNotInT (K : PySem.W.Frag) : R2 := fun x y H Q => ∃ d ds, Dp K H x d ∧ Dp K H y (.tuple ds) ∧ SeqAt.shaped d = true ∧ SeqAt.shaped (.list ds) = true ∧ Q (.bl (!ds.any fun z => PyData.eqv z d)) H
theorem op_inT (hu : X.A.units + 65 < cLine) : OpR X (compareOp .In) (rInT X.K) := by
  intro pins s σ H x y v u Q I rx ry h
  obtain ⟨d, ds, hd, he, sd, se, q⟩ := h
  obtain ⟨as, r1⟩ := Dp.reads I d x v hd rx
  obtain ⟨bs, r2⟩ := Dp.reads I (.tuple ds) y u he ry
  exact SeqAt.in_tuple_reads r2 r1 (SeqAt.canLay_of_shaped se) (SeqAt.canLay_of_shaped sd) (room_in_shaped sd hu) ⟨.bl _, H, I, rfl, q⟩
theorem op_notInT (hu : X.A.units + 65 < cLine) : OpR X (compareOp .NotIn) (rNotInT X.K) := by
  intro pins s σ H x y v u Q I rx ry h
  obtain ⟨d, ds, hd, he, sd, se, q⟩ := h
  obtain ⟨as, r1⟩ := Dp.reads I d x v hd rx
  obtain ⟨bs, r2⟩ := Dp.reads I (.tuple ds) y u he ry
  exact SeqAt.notIn_tuple_reads r2 r1 (SeqAt.canLay_of_shaped se) (SeqAt.canLay_of_shaped sd) (room_in_shaped sd hu) ⟨.bl _, H, I, rfl, q⟩
def rInDk : R2 := fun y x H Q => ∃ a o, x = .ref a ∧ DGet H a y o ∧ Q (.bl o.isSome) H
def rNotInDk : R2 := fun y x H Q => ∃ a o, x = .ref a ∧ DGet H a y o ∧ Q (.bl (!o.isSome)) H
theorem op_inDk (hu : X.A.units + 1 < cLine) : OpR X (compareOp .In) rInDk := by
  intro pins s σ H x y v u Q I rx ry h
  obtain ⟨a, o, rfl, g, q⟩ := h
  cases ry
  exact d_in hu I g rx fun s3 I3 => ⟨.bl o.isSome, H, I3, rfl, q⟩
theorem op_notInDk (hu : X.A.units + 1 < cLine) : OpR X (compareOp .NotIn) rNotInDk := by
  intro pins s σ H x y v u Q I rx ry h
  obtain ⟨a, o, rfl, g, q⟩ := h
  cases ry
  exact d_notIn hu I g rx fun s3 I3 => ⟨.bl (!o.isSome), H, I3, rfl, q⟩
section
variable {L : Rl} {ρ : List Addr} {H : Hp}
mutual
theorem nk_rv : ∀ {x : PV} {v : V} {k : NestedKey}, RV L ρ H x v → ckOf x = some k → ZN.NK L.K H k v
  | _, _, _, .non, e => by simp only [ckOf, Option.some.injEq] at e; subst e; exact .non
  | _, _, _, .bl b, e => by simp only [ckOf, Option.some.injEq] at e; subst e; exact .bl b
  | _, _, _, .int b, e => by simp only [ckOf, Option.some.injEq] at e; subst e; exact .int b
  | _, _, _, .str b, e => by simp only [ckOf, Option.some.injEq] at e; subst e; exact .str b
  | _, _, _, .tup (xs := xs) h r, e => by
    simp only [ckOf] at e
    cases q : cksOf xs with
    | none => rw [q] at e; cases e
    | some ks => rw [q] at e; cases e; exact .tup h (nks_rv r q)
  | _, _, _, .ref _, e => by simp only [ckOf] at e; cases e
  | _, _, _, .ty _, e => by simp only [ckOf] at e; cases e
  | _, _, _, .cls _, e => by simp only [ckOf] at e; cases e
  | _, _, _, .exc0 _, e => by simp only [ckOf] at e; cases e
  | _, _, _, .exc _ _ _, e => by simp only [ckOf] at e; cases e
theorem nks_rv : ∀ {xs : List PV} {vs : List V} {ks : List NestedKey}, RVs L ρ H xs vs → cksOf xs = some ks → ZN.NKs L.K H ks vs
  | _, _, _, .nil, e => by simp only [cksOf, Option.some.injEq] at e; subst e; exact .nil
  | _, _, _, .cons (x := x) (xs := xs) h r, e => by
    simp only [cksOf] at e
    split at e
    · rename_i k ks q1 q2
      cases e
      exact .cons (nk_rv h q1) (nks_rv r q2)
    · cases e
end
theorem nkOf_ck {x : PV} {k : NestedKey} (e : nkOf x = some k) : ckOf x = some k ∧ k.depth ≤ 8 ∧ ∃ xs, x = .tup xs := by
  unfold nkOf at e
  split at e
  · rename_i xs
    split at e
    · rename_i q
      split at e
      · rename_i hd
        cases e
        exact ⟨q, hd, xs, rfl⟩
      · cases e
    · cases e
  · cases e
theorem nkOf_rv {x : PV} {u : V} {k : NestedKey} (e : nkOf x = some k) (r : RV L ρ H x u) : ∃ b, u = .ref b ∧ ZN.NK L.K H k (.ref b) ∧ k.depth ≤ 8 := by
  obtain ⟨h1, h2, xs, rfl⟩ := nkOf_ck e
  have z := nk_rv r h1
  obtain ⟨a, vs, rfl, _⟩ := rv_tup r
  exact ⟨a, rfl, z, h2⟩
theorem rns_keys {kvs : List (PV × PV)} {es : List ZN.En} (r : RNs L ρ H kvs es) : ZN.KeysN L.K H es := by
  induction r with
  | nil => exact fun x hx => absurd hx (by simp)
  | cons h1 h2 h3 h4 h5 r ih =>
    intro y hy
    rcases List.mem_cons.mp hy with rfl | hy
    · exact ⟨nk_rv h3 h1, h2⟩
    · exact ih y hy
theorem rns_len {kvs : List (PV × PV)} {es : List ZN.En} (r : RNs L ρ H kvs es) : kvs.length = es.length := by
  induction r with
  | nil => rfl
  | cons h1 h2 h3 h4 h5 r ih => simp [ih]
theorem atKey_cons {x : ZN.En} {es : List ZN.En} {k : NestedKey} : atKey (x :: es) k = if x.1 = k then some x.2 else atKey es k := by
  unfold atKey
  rw [List.find?_cons]
  by_cases e : x.1 = k
  · rw [if_pos e, show decide (x.1 = k) = true from decide_eq_true e]; rfl
  · rw [if_neg e, show decide (x.1 = k) = false from decide_eq_false e]
theorem rns_look {kvs : List (PV × PV)} {es : List ZN.En} (r : RNs L ρ H kvs es) (k : NestedKey) : (atKey es k).isSome = (lookN kvs k).isSome := by
  induction r with
  | nil => rfl
  | cons h1 h2 h3 h4 h5 r ih =>
    rename_i x y k' a u v xs es
    rw [atKey_cons]
    unfold lookN
    rw [h1]
    by_cases e : k' = k
    · rw [if_pos e, if_pos (by rw [e])]; rfl
    · rw [if_neg e, if_neg (fun q => e (Option.some.inj q))]; exact ih
theorem rns_app {kvs kvs2 : List (PV × PV)} {es es2 : List ZN.En} (r : RNs L ρ H kvs es) (r2 : RNs L ρ H kvs2 es2) : RNs L ρ H (kvs ++ kvs2) (es ++ es2) := by
  induction r with
  | nil => exact r2
  | cons h1 h2 h3 h4 h5 r ih => exact .cons h1 h2 h3 h4 h5 ih
theorem rns_set {kvs : List (PV × PV)} {es : List ZN.En} (r : RNs L ρ H kvs es) {k : NestedKey} {y : PV} {v : V} {u : Value} (hy : RV L ρ H y v) (hu : RelV v u) : RNs L ρ H (setN kvs k y) (es.map (putAt k u)) := by
  induction r with
  | nil => exact .nil
  | cons h1 h2 h3 h4 h5 r ih =>
    rename_i x y' k' a u' v' xs es
    unfold setN
    rw [h1, List.map_cons]
    by_cases e : k' = k
    · rw [if_pos (by rw [e])]
      have : putAt k u (k', a, u') = (k', a, u) := by unfold putAt; rw [if_pos e]
      rw [this]
      exact .cons h1 h2 h3 hy hu ih
    · rw [if_neg (fun q => e (Option.some.inj q))]
      have : putAt k u (k', a, u') = (k', a, u') := by unfold putAt; rw [if_neg e]
      rw [this]
      exact .cons h1 h2 h3 h4 h5 ih
theorem rns_put {kvs : List (PV × PV)} {es : List ZN.En} (r : RNs L ρ H kvs es) {k : NestedKey} {x y : PV} {b : Addr} {v : V} {u : Value} (hx : RV L ρ H x (.ref b)) (hk : ckOf x = some k) (hd : k.depth ≤ 8) (hy : RV L ρ H y v) (hu : RelV v u) : RNs L ρ H (putN kvs x k y) (storedH es k b u) := by
  unfold putN storedH
  rw [rns_look r k]
  split
  · exact rns_set r hy hu
  · exact rns_app r (.cons hk hd hx hy hu .nil)
end
def rInN (w : World) (K : PySem.W.Frag) : R2 := fun y x H Q => ∃ a b k xs, x = .ref a ∧ y = .ref b ∧ ZN.IsN w H a xs ∧ ZN.KeysN K H xs ∧ ZN.NK K H k (.ref b) ∧ k.depth ≤ 8 ∧ Q (.bl (atKey xs k).isSome) H
def rNotInN (w : World) (K : PySem.W.Frag) : R2 := fun y x H Q => ∃ a b k xs, x = .ref a ∧ y = .ref b ∧ ZN.IsN w H a xs ∧ ZN.KeysN K H xs ∧ ZN.NK K H k (.ref b) ∧ k.depth ≤ 8 ∧ Q (.bl (!(atKey xs k).isSome)) H
theorem op_inN (hu : X.A.units + 9 < cLine) : OpR X (compareOp .In) (rInN X.w X.K) := by
  intro pins s σ H x y v u Q I rx ry h
  obtain ⟨a, b, k, xs, rfl, rfl, e, ks, hk, hd, q⟩ := h
  cases rx; cases ry
  exact ZN.in_N hu I e ks hk hd fun s3 I3 => ⟨.bl _, H, I3, rfl, q⟩
theorem op_notInN (hu : X.A.units + 9 < cLine) : OpR X (compareOp .NotIn) (rNotInN X.w X.K) := by
  intro pins s σ H x y v u Q I rx ry h
  obtain ⟨a, b, k, xs, rfl, rfl, e, ks, hk, hd, q⟩ := h
  cases rx; cases ry
  exact ZN.notIn_N hu I e ks hk hd fun s3 I3 => ⟨.bl _, H, I3, rfl, q⟩
theorem at_fK {L : Rl} {ρ : List Addr} {H : Hp} {ih : IH} {n : Nat} {y : Str} {xs : List (Key × PV)} (h : RH L ρ H ih) (e : ih[n]? = some (.fdK y xs)) {a : Addr} (ea : ρ[n]? = some a) : ∃ o vs, H a = some (.frz o (.dK vs)) ∧ RKs L ρ H xs vs := (h.ob n a _ ea e).2
theorem dget_frz {H : Hp} {a : Addr} {o : Obj} {kvs : List (Key × V)} {k : Key} (e : H a = some (.frz o (.dK kvs))) : DGet H a (kV k) (valV kvs k) := .inl ⟨kvs, k, .inr ⟨o, e⟩, rfl, rfl⟩
def rInA (w : World) (K : PySem.W.Frag) : R2 := fun x y H Q => rInD K x y H Q ∨ rInT K x y H Q ∨ rInDk x y H Q ∨ rInN w K x y H Q
def rNotInA (w : World) (K : PySem.W.Frag) : R2 := fun x y H Q => rNotInD K x y H Q ∨ rNotInT K x y H Q ∨ rNotInDk x y H Q ∨ rNotInN w K x y H Q
theorem op_inA (hu : X.A.units + 65 < cLine) : OpR X (compareOp .In) (rInA X.w X.K) := OpR.or (op_inD hu) (OpR.or (op_inT hu) (OpR.or (op_inDk (Nat.lt_of_le_of_lt (by omega) hu)) (op_inN (Nat.lt_of_le_of_lt (by omega) hu))))
theorem op_notInA (hu : X.A.units + 65 < cLine) : OpR X (compareOp .NotIn) (rNotInA X.w X.K) := OpR.or (op_notInD hu) (OpR.or (op_notInT hu) (OpR.or (op_notInDk (Nat.lt_of_le_of_lt (by omega) hu)) (op_notInN (Nat.lt_of_le_of_lt (by omega) hu))))
theorem p2b_inP {σ : L2.St} {Q : VK} {ρ : List Addr} {H : Hp} {ih : IH} {x y : PV} {u v : V} (h : RH (lr X ex) ρ H ih) (r1 : RV (lr X ex) ρ H x u) (r2 : RV (lr X ex) ρ H y v) (p : Post (lr X ex) W σ relB (fun b => Q (.bl b)) ρ H (inP x y ih)) : rInD X.K u v H Q ∨ rInT X.K u v H Q := by
  unfold inP at p
  split at p
  · rename_i ys q0
    split at p
    · rename_i d ds q1 q2
      split at p
      · rename_i hs
        have hd := toD_dp h _ x u d r1 q1
        cases y with
        | tup xs =>
          cases q0
          obtain ⟨a, vs, rfl, k1, k2⟩ := rv_tup r2
          exact .inr ⟨d, ds, hd, .tup k1 (mapO_dp (fun x u d => toD_dp h _ x u d) k2 q2), hs.1, hs.2, p.here h rfl⟩
        | ref n =>
          obtain ⟨a, rfl, ea⟩ := rv_ref r2
          obtain ⟨vs, k1, k2⟩ := getL_at h q0 ea
          exact .inl ⟨d, ds, hd, .lst k1 (mapO_dp (fun x u d => toD_dp h _ x u d) k2 q2), hs.1, hs.2, p.here h rfl⟩
        | non => cases q0
        | bl b => cases q0
        | int b => cases q0
        | str b => cases q0
        | exc c fs => cases q0
        | ty c => cases q0
        | cls c => cases q0
      · exact p.elim
    · exact p.elim
  · exact p.elim
def rInTx : R2 := fun x y H Q => ∃ i j : Str, x = .str i ∧ y = .str j ∧ Q (.bl (!(Builtin.Str.occurrences j i 0 j.length 1).isEmpty)) H
def rNotInTx : R2 := fun x y H Q => ∃ i j : Str, x = .str i ∧ y = .str j ∧ Q (.bl (!(!(Builtin.Str.occurrences j i 0 j.length 1).isEmpty))) H
theorem p2b_inO {σ : L2.St} {Q : VK} {ρ : List Addr} {H : Hp} {ih : IH} {x y : PV} {u v : V} (h : RH (lr X ex) ρ H ih) (r1 : RV (lr X ex) ρ H x u) (r2 : RV (lr X ex) ρ H y v) (hy : ∀ j, y ≠ .str j) (p : Post (lr X ex) W σ relB (fun b => Q (.bl b)) ρ H (inD x y ih)) : rInA X.w X.K u v H Q := by
  have old : Post (lr X ex) W σ relB (fun b => Q (.bl b)) ρ H (inP x y ih) → rInA X.w X.K u v H Q := fun p => by
    rcases p2b_inP h r1 r2 p with z | z
    · exact .inl z
    · exact .inr (.inl z)
  unfold inD at p
  split at p
  · rename_i n
    split at p
    · rename_i kvs q
      obtain ⟨a, rfl, ea⟩ := rv_ref r2
      obtain ⟨vs, k1, k2⟩ := at_dK h q ea
      split at p
      · rename_i k ek
        have eu := keyOf_v ek r1
        subst eu
        exact .inr (.inr (.inl ⟨a, _, rfl, DGet.k k1, by rw [rks_some k2]; exact p.here h rfl⟩))
      · split at p
        · rename_i k ek
          split at p
          · rename_i hemp
            obtain ⟨b, rfl, hk, hd⟩ := nkOf_rv ek r1
            have hn : kvs = [] := by simpa using hemp
            subst hn
            cases k2
            exact .inr (.inr (.inr ⟨a, b, k, [], rfl, rfl, .inr ⟨k1, rfl⟩, fun x hx => absurd hx (by simp), hk, hd, p.here h rfl⟩))
          · exact p.elim
        · exact p.elim
    · rename_i y kvs q
      obtain ⟨a, rfl, ea⟩ := rv_ref r2
      obtain ⟨o, vs, k1, k2⟩ := at_fK h q ea
      split at p
      · rename_i k ek
        have eu := keyOf_v ek r1
        subst eu
        exact .inr (.inr (.inl ⟨a, _, rfl, dget_frz k1, by rw [rks_some k2]; exact p.here h rfl⟩))
      · exact p.elim
    · rename_i kvs q
      obtain ⟨a, rfl, ea⟩ := rv_ref r2
      obtain ⟨es, k1, k2⟩ := h.ob n a _ ea q
      split at p
      · rename_i k ek
        obtain ⟨b, rfl, hk, hd⟩ := nkOf_rv ek r1
        exact .inr (.inr (.inr ⟨a, b, k, es, rfl, rfl, .inl k1, rns_keys k2, hk, hd, by rw [rns_look k2]; exact p.here h rfl⟩))
      · exact p.elim
    · exact old p
  · rename_i j
    exact absurd rfl (hy j)
  · exact old p
theorem p2b_in : P2B (lr X ex) W inD (fun x y H Q => rInA X.w X.K x y H Q ∨ rInTx x y H Q) := by
  intro σ Q ρ H ih x y u v h r1 r2 p
  by_cases hy : ∃ j, y = .str j
  · obtain ⟨j, rfl⟩ := hy
    by_cases hx : ∃ i, x = .str i
    · obtain ⟨i, rfl⟩ := hx
      obtain rfl := rv_str r1
      obtain rfl := rv_str r2
      exact .inr ⟨i, j, rfl, rfl, p.here h rfl⟩
    · have e : inD x (.str j) ih = .fail := by
        cases x with
        | str i => exact absurd ⟨i, rfl⟩ hx
        | _ => rfl
      rw [e] at p
      exact p.elim
  · exact .inl (p2b_inO h r1 r2 (fun j z => hy ⟨j, z⟩) p)
theorem p2b_notin : P2B (lr X ex) W (fun x y ih => (inD x y ih).not) (fun x y H Q => rNotInA X.w X.K x y H Q ∨ rNotInTx x y H Q) := p2b_not p2b_in fun x y H Q h => by
  rcases h with h | ⟨i, j, h1, h2, b, hb, q⟩
  rotate_left
  · exact .inr ⟨i, j, h1, h2, by cases hb; exact q⟩
  refine .inl ?_
  rcases h with ⟨d, ds, h1, h2, h3, h4, b, hb, q⟩ | ⟨d, ds, h1, h2, h3, h4, b, hb, q⟩ | ⟨a, o, h1, h2, b, hb, q⟩ | ⟨a, b0, k, xs, h1, h2, h3, h4, h5, h6, b, hb, q⟩
  · exact .inl ⟨d, ds, h1, h2, h3, h4, by cases hb; exact q⟩
  · exact .inr (.inl ⟨d, ds, h1, h2, h3, h4, by cases hb; exact q⟩)
  · exact .inr (.inr (.inl ⟨a, o, h1, h2, by cases hb; exact q⟩))
  · exact .inr (.inr (.inr ⟨a, b0, k, xs, h1, h2, h3, h4, h5, h6, by cases hb; exact q⟩))

theorem cmp_rule (op : CmpOp) (hu : X.A.units + 65 < cLine) : ∃ r, OpR X (compareOp op) r ∧ P2B (lr X ex) W (cmpP op) r := by
  have h64 : X.A.units + 64 < cLine := Nat.lt_of_le_of_lt (by omega) hu
  cases op
  case Eq => exact ⟨_, op_eqD h64, p2b_eq⟩
  case NotEq => exact ⟨_, op_neD h64, p2b_ne⟩
  case Lt => exact ⟨_, op_lt, p2b_lt⟩
  case LtE => exact ⟨_, op_le, p2b_lt⟩
  case Gt => exact ⟨_, op_gt, p2b_lt⟩
  case GtE => exact ⟨_, op_ge, p2b_lt⟩
  case Is => exact ⟨_, op_isN, p2b_is⟩
  case IsNot => exact ⟨_, op_notN, p2b_isnot⟩
  case In => exact ⟨_, OpR.or (op_inA hu) op_in_str, p2b_in⟩
  case NotIn => exact ⟨_, OpR.or (op_notInA hu) op_notin_str, p2b_notin⟩
end
end Z
end
noncomputable section
namespace Z
open PySem PySem.Spec PyProof.Rows L2
set_option autoImplicit false
section
variable {X : Cx} {ex : Option (Addr × Str × Option Addr)} {W : WX} {a b c e : Expr} {pos : Pos} {ma mb mc : EM PV} {ta tb : EM Bool} {α : Type}
theorem se_cmp (op : CmpOp) (hu : X.A.units + 65 < cLine) (ha : PE X a (tE (lr X ex) W ma)) (hb : PE X b (tE (lr X ex) W mb)) (hm : behindInMarks op b = false) : PE X (.Compare a [op] [b] pos) (tE (lr X ex) W (eVal (eCmp (cmpP op) ma mb))) := by
  obtain ⟨r, ho, hp⟩ := cmp_rule (ex := ex) (W := W) op hu
  exact impE (pe_cmpR ho ha hb hm) fun σ H Q h => tE_cmpV hp h
theorem st_cmp (op : CmpOp) (hu : X.A.units + 65 < cLine) (ha : PE X a (tE (lr X ex) W ma)) (hb : PE X b (tE (lr X ex) W mb)) (hm : behindInMarks op b = false) : PT X (.Compare a [op] [b] pos) (tT (lr X ex) W (eCmp (cmpP op) ma mb)) := by
  obtain ⟨r, ho, hp⟩ := cmp_rule (ex := ex) (W := W) op hu
  exact impT (pt_cmpR ho ha hb hm) fun σ H Q h => tE_cmp hp h
theorem tE_chain {p q : PV → PV → IH → R Bool} {r r' : R2} (hp : P2B (lr X ex) W p r) (hq : P2B (lr X ex) W q r') {σ : L2.St} {H : Hp} {Q : VK} (h : tE (lr X ex) W (eVal (eChain p q ma mb mc)) σ H Q) :
    tChain r r' (tE (lr X ex) W ma) (tE (lr X ex) W mb) (tE (lr X ex) W mc) σ H Q := by
  obtain ⟨ρ, env, ih, e1, e2, h⟩ := tE_val h
  refine (bindAt (rel := RV (lr X ex)) e1 e2 h).mono fun u H1 ⟨ρ1, ih1, x, ex1, h1, r1, p1⟩ => (bindAt (rel := RV (lr X ex)) (e1.mono ex1) h1 p1).mono fun v H2 ⟨ρ2, ih2, y, ex2, h2, r2, p2⟩ => ?_
  have p2' := Post.bind (rel := relB) (r := p x y ih2) (f := fun k => (if k = true then eBind mc fun z => fun _ ih => q y z ih else eC false) env) p2
  refine hp σ _ ρ2 H2 ih2 x y u v h2 (r1.mono ex2) r2 (p2'.mono fun k H3 ⟨ρ3, ih3, k', ex3, h3, rk, p3⟩ => ⟨k, rfl, ?_⟩)
  have rk : k' = k := rk
  subst rk
  cases k' with
  | false =>
    rw [if_neg Bool.false_ne_true]
    have z := Post.here (u := false) p3 h3 rfl
    exact z
  | true =>
    rw [if_pos rfl]
    have p3 : Post (lr X ex) W σ relB (fun b => Q (V.bl b)) ρ3 H3 (eBind mc (fun z _ ih => q y z ih) env ih3) := p3
    refine (bindAt (rel := RV (lr X ex)) ((e1.mono ex1).mono (ex2.trans ex3)) h3 p3).mono fun w H4 ⟨ρ4, ih4, z, ex4, h4, r4, p4⟩ => ?_
    exact hq σ Q ρ4 H4 ih4 y z v w h4 (r2.mono (ex3.trans ex4)) r4 p4
theorem se_chain (op op' : CmpOp) (hu : X.A.units + 65 < cLine) (ha : PE X a (tE (lr X ex) W ma)) (hb : PE X b (tE (lr X ex) W mb)) (hc : PE X c (tE (lr X ex) W mc)) (hm : lastMarks [op, op'] [b, c] = false) :
    PE X (.Compare a [op, op'] [b, c] pos) (tE (lr X ex) W (eVal (eChain (cmpP op) (cmpP op') ma mb mc))) := by
  obtain ⟨r, ho, hp⟩ := cmp_rule (ex := ex) (W := W) op hu
  obtain ⟨r', ho', hp'⟩ := cmp_rule (ex := ex) (W := W) op' hu
  exact impE (pe_chain ho ho' ha hb hc hm) fun σ H Q h => tE_chain hp hp' h
theorem tT_of {t : EM Bool} {σ : L2.St} {H : Hp} {Q : Bool → Hp → Prop} (h : tT (lr X ex) W t σ H Q) : tE (lr X ex) W (eVal t) σ H fun x H1 => ∃ k, x = .bl k ∧ Q k H1 := by
  obtain ⟨ρ, env, ih, e1, e2, p⟩ := h
  refine ⟨ρ, env, ih, e1, e2, ?_⟩
  unfold eVal
  revert p
  cases t env ih with
  | ok k ih' => exact fun p ρ' H' u a b r => by cases r; exact ⟨k, rfl, p ρ' H' k a b rfl⟩
  | exc c fs ih' => exact fun p => p
  | fail => exact fun p => p
theorem st_chain (op op' : CmpOp) (hu : X.A.units + 65 < cLine) (ha : PE X a (tE (lr X ex) W ma)) (hb : PE X b (tE (lr X ex) W mb)) (hc : PE X c (tE (lr X ex) W mc)) (hm : lastMarks [op, op'] [b, c] = false) :
    PT X (.Compare a [op, op'] [b, c] pos) (tT (lr X ex) W (eChain (cmpP op) (cmpP op') ma mb mc)) := by
  obtain ⟨r, ho, hp⟩ := cmp_rule (ex := ex) (W := W) op hu
  obtain ⟨r', ho', hp'⟩ := cmp_rule (ex := ex) (W := W) op' hu
  exact impT (pt_chain ho ho' ha hb hc hm) fun σ H Q h => tE_chain hp hp' (tT_of h)

theorem post_tru {σ : L2.St} {Q : Bool → Hp → Prop} {ρ : List Addr} {H : Hp} {ih : IH} {x : PV} {u : V} (h : RH (lr X ex) ρ H ih) (r : RV (lr X ex) ρ H x u) (p : Post (lr X ex) W σ relB Q ρ H (truP x ih)) : ∃ k, TruV X.K u H k ∧ Q k H := by
  cases x with
  | non => cases r; exact ⟨false, rfl, p.here h rfl⟩
  | bl b => cases r; exact ⟨b, rfl, p.here h rfl⟩
  | int i => cases r; exact ⟨_, rfl, p.here h rfl⟩
  | str z =>
    cases r
    simp only [truP] at p
    split at p
    · rename_i hl
      exact ⟨_, ⟨by rw [sizeLine_eq]; exact hl, rfl⟩, p.here h rfl⟩
    · exact p.elim
  | tup xs =>
    obtain ⟨a, vs, rfl, k1, k2⟩ := rv_tup r
    exact ⟨_, .inr (.inl ⟨vs, k1, rfl⟩), by rw [k2.isEmpty]; exact p.here h rfl⟩
  | ref n =>
    obtain ⟨a, rfl, ea⟩ := rv_ref r
    simp only [truP] at p
    split at p
    · rename_i q
      obtain ⟨vs, k1, k2⟩ := h.ob n a _ ea q
      exact ⟨_, .inl ⟨vs, SqL.of k1, rfl⟩, by rw [k2.isEmpty]; exact p.here h rfl⟩
    · rename_i q
      obtain ⟨o, vs, k1, k2⟩ := h.ob n a _ ea q
      exact ⟨_, .inl ⟨vs, .inl (.inr ⟨o, k1⟩), rfl⟩, by rw [k2.isEmpty]; exact p.here h rfl⟩
    · rename_i xs q
      obtain ⟨vs, k1, k2⟩ := h.ob n a _ ea q
      refine ⟨_, .inr (.inr ⟨vs, k1, rfl⟩), ?_⟩
      have e : vs.isEmpty = xs.isEmpty := by cases k2 <;> rfl
      rw [e]; exact p.here h rfl
    · exact p.elim
  | exc c fs => exact p.elim
  | ty c => exact p.elim
  | cls c => exact p.elim
theorem st_tru (ha : PE X a (tE (lr X ex) W ma)) (he : ∀ whole, isTrue a X.env whole = (do let v ← whole; standAt a.pos; holding [v] (truthy v))) : PT X a (tT (lr X ex) W (eTru ma)) :=
  impT (pt_truth ha he) fun σ H Q ⟨ρ, env, ih, e1, e2, h⟩ => (bindAt (rel := RV (lr X ex)) e1 e2 h).mono fun u H1 ⟨ρ1, ih1, x, ex1, h1, r1, p1⟩ => post_tru h1 r1 p1
theorem st_not (ha : PT X a (tT (lr X ex) W ta)) : PT X (.UnaryOp .Not a pos) (tT (lr X ex) W (eNot ta)) :=
  impT (pt_not ha) fun σ H Q ⟨ρ, env, ih, e1, e2, h⟩ => ⟨ρ, env, ih, e1, e2, post_not h⟩
theorem se_notV (ha : PE X a (tE (lr X ex) W ma)) : PE X (.UnaryOp .Not a pos) (tE (lr X ex) W (eVal (eNot (eTru ma)))) :=
  impE (pe_notT ha) fun σ H Q h => by
    obtain ⟨ρ, env, ih, e1, e2, h⟩ := tE_val h
    exact (bindAt (rel := RV (lr X ex)) e1 e2 (post_not h)).mono fun u H1 ⟨ρ1, ih1, x, ex1, h1, r1, p1⟩ => post_tru h1 r1 p1
theorem se_if {t : EM Bool} (hc : PT X c (tT (lr X ex) W t)) (ha : PE X a (tE (lr X ex) W ma)) (hb : PE X b (tE (lr X ex) W mb)) : PE X (.IfExp c a b pos) (tE (lr X ex) W (eIf t ma mb)) :=
  impE (pe_ifExp hc ha hb) fun σ H Q ⟨ρ, env, ih, e1, e2, h⟩ => (bindAt (rel := relB) e1 e2 h).mono fun k H1 ⟨ρ1, ih1, x, ex1, h1, r1, p1⟩ => by
    have r1 : x = k := r1
    subst r1
    cases x with
    | true => exact ⟨ρ1, env, ih1, e1.mono ex1, h1, p1⟩
    | false => exact ⟨ρ1, env, ih1, e1.mono ex1, h1, p1⟩

variable {f : Expr → EM PV} {g : Expr → EM Bool}
theorem se_and (f : Expr → EM PV) : ∀ es : List Expr, (∀ e ∈ es, PE X e (tE (lr X ex) W (f e))) → PE X (.BoolOp .And es pos) (tE (lr X ex) W (eAndV (es.map f)))
  | [], _ => noE
  | [a], h => pe_one (h a (List.mem_singleton_self _))
  | a :: b :: es, h => by
    have r := se_and f (b :: es) fun e he => h e (List.mem_cons_of_mem _ he)
    refine impE (pe_andT (h a List.mem_cons_self) r) fun σ H Q ⟨ρ, env, ih, e1, e2, p⟩ => ?_
    refine (bindAt (rel := RV (lr X ex)) e1 e2 p).mono fun u H1 ⟨ρ1, ih1, x, ex1, h1, r1, p1⟩ => ?_
    have p1' := Post.bind (rel := relB) (r := truP x ih1) (f := fun k => (if k = true then eAndV ((b :: es).map f) else eC x) env) p1
    obtain ⟨k, t, ρ2, ih2, k', ex2, h2, rk, p2⟩ := post_tru h1 r1 p1'
    have rk : k' = k := rk
    subst rk
    refine ⟨k', t, ?_⟩
    cases k' with
    | true => rw [if_pos rfl]; exact ⟨ρ2, env, ih2, e1.mono (ex1.trans ex2), h2, p2⟩
    | false => rw [if_neg Bool.false_ne_true]; exact Post.here p2 h2 (r1.mono ex2)
theorem se_or (f : Expr → EM PV) : ∀ es : List Expr, (∀ e ∈ es, PE X e (tE (lr X ex) W (f e))) → PE X (.BoolOp .Or es pos) (tE (lr X ex) W (eOrV (es.map f)))
  | [], _ => noE
  | [a], h => pe_one (h a (List.mem_singleton_self _))
  | a :: b :: es, h => by
    have r := se_or f (b :: es) fun e he => h e (List.mem_cons_of_mem _ he)
    refine impE (pe_orT (h a List.mem_cons_self) r) fun σ H Q ⟨ρ, env, ih, e1, e2, p⟩ => ?_
    refine (bindAt (rel := RV (lr X ex)) e1 e2 p).mono fun u H1 ⟨ρ1, ih1, x, ex1, h1, r1, p1⟩ => ?_
    have p1' := Post.bind (rel := relB) (r := truP x ih1) (f := fun k => (if k = true then eC x else eOrV ((b :: es).map f)) env) p1
    obtain ⟨k, t, ρ2, ih2, k', ex2, h2, rk, p2⟩ := post_tru h1 r1 p1'
    have rk : k' = k := rk
    subst rk
    refine ⟨k', t, ?_⟩
    cases k' with
    | true => rw [if_pos rfl]; exact Post.here p2 h2 (r1.mono ex2)
    | false => rw [if_neg Bool.false_ne_true]; exact ⟨ρ2, env, ih2, e1.mono (ex1.trans ex2), h2, p2⟩
theorem noW {op : BoolOp} : PW X (.BoolOp op [] pos) (tT (lr X ex) W eFail) := ⟨fun _ _ _ _ _ _ _ ⟨_, _, _, _, _, z⟩ => z.elim⟩
theorem st_and (g : Expr → EM Bool) : ∀ es : List Expr, (∀ e ∈ es, PT X e (tT (lr X ex) W (g e))) → PW X (.BoolOp .And es pos) (tT (lr X ex) W (eAnd (es.map g)))
  | [], _ => noW
  | [a], h => pw_and1 (h a (List.mem_singleton_self _))
  | a :: b :: es, h => by
    have r := st_and g (b :: es) fun e he => h e (List.mem_cons_of_mem _ he)
    refine impW (pw_and (h a List.mem_cons_self) r) fun σ H Q ⟨ρ, env, ih, e1, e2, p⟩ => ?_
    refine (bindAt (rel := relB) e1 e2 p).mono fun k H1 ⟨ρ1, ih1, x, ex1, h1, r1, p1⟩ => ?_
    have r1 : x = k := r1
    subst r1
    cases x with
    | true => rw [if_pos rfl]; exact ⟨ρ1, env, ih1, e1.mono ex1, h1, p1⟩
    | false => rw [if_neg Bool.false_ne_true]; exact Post.here p1 h1 rfl
theorem st_or (g : Expr → EM Bool) : ∀ es : List Expr, (∀ e ∈ es, PT X e (tT (lr X ex) W (g e))) → PW X (.BoolOp .Or es pos) (tT (lr X ex) W (eOr (es.map g)))
  | [], _ => noW
  | [a], h => pw_or1 (h a (List.mem_singleton_self _))
  | a :: b :: es, h => by
    have r := st_or g (b :: es) fun e he => h e (List.mem_cons_of_mem _ he)
    refine impW (pw_or (h a List.mem_cons_self) r) fun σ H Q ⟨ρ, env, ih, e1, e2, p⟩ => ?_
    refine (bindAt (rel := relB) e1 e2 p).mono fun k H1 ⟨ρ1, ih1, x, ex1, h1, r1, p1⟩ => ?_
    have r1 : x = k := r1
    subst r1
    cases x with
    | true => rw [if_pos rfl]; exact Post.here p1 h1 rfl
    | false => rw [if_neg Bool.false_ne_true]; exact ⟨ρ1, env, ih1, e1.mono ex1, h1, p1⟩

def isStar : Expr → Bool
  | .Starred .. => true
  | _ => false
theorem star_no {env : Env} {es : List Expr} (h : isStar e = false) : starEach (e :: es) env = (false, eval e env) :: starEach es env := by
  cases e <;> first | rfl | cases h
theorem sa_args (f : Expr → EM PV) : ∀ es : List Expr, (∀ e ∈ es, PE X e (tE (lr X ex) W (f e))) → es.any isStar = false → PA X es (tA (lr X ex) W (eArgs (es.map f)))
  | [], _, _ => impA pa_nil fun σ H Q ⟨ρ, env, ih, e1, e2, p⟩ => Post.here p e2 .nil
  | a :: es, h, hs => by
    have hs' : isStar a = false ∧ es.any isStar = false := by simpa using hs
    have r := sa_args f es (fun e he => h e (List.mem_cons_of_mem _ he)) hs'.2
    refine impA (pa_cons (h a List.mem_cons_self) r (star_no hs'.1)) fun σ H Q ⟨ρ, env, ih, e1, e2, p⟩ => ?_
    refine (bindAt (rel := RV (lr X ex)) e1 e2 p).mono fun u H1 ⟨ρ1, ih1, x, ex1, h1, r1, p1⟩ => (bindAt (rel := RVs (lr X ex)) (e1.mono ex1) h1 p1).mono fun us H2 ⟨ρ2, ih2, xs, ex2, h2, r2, p2⟩ => ?_
    exact Post.here p2 h2 (.cons (r1.mono ex2) r2)
def starOf (f : Expr → EM PV) : Expr → Bool × EM PV
  | .Starred e _ => (true, f e)
  | e => (false, f e)
theorem starOf_no {f : Expr → EM PV} (h : isStar e = false) : starOf f e = (false, f e) := by
  cases e <;> first | rfl | cases h
def unStar : Expr → Expr
  | .Starred e _ => e
  | e => e
theorem sa_stars (f : Expr → EM PV) : ∀ es : List Expr, (∀ e ∈ es, PE X (unStar e) (tE (lr X ex) W (f (unStar e)))) → PA X es (tA (lr X ex) W (eStars (es.map (starOf f))))
  | [], _ => impA pa_nil fun σ H Q ⟨ρ, env, ih, e1, e2, p⟩ => Post.here p e2 .nil
  | a :: es, h => by
    have r := sa_stars f es (fun e he => h e (List.mem_cons_of_mem _ he))
    have ha := h a List.mem_cons_self
    by_cases hs : isStar a = true
    · cases a with
      | Starred e p0 =>
        have ha : PE X e (tE (lr X ex) W (f e)) := ha
        refine impA (StX.pa_star ha r) fun σ H Q ⟨ρ, env, ih, e1, e2, p⟩ => ?_
        refine (bindAt (rel := RV (lr X ex)) e1 e2 p).mono fun u H1 ⟨ρ1, ih1, x, ex1, h1, r1, p1⟩ => ?_
        rw [if_pos rfl] at p1
        unfold eBind at p1
        dsimp only at p1
        have fin : ∀ {ys : List PV} {vs : List V}, RVs (lr X ex) ρ1 H1 ys vs → Post (lr X ex) W σ (RVs (lr X ex)) Q ρ1 H1 (eBind (eStars (es.map (starOf f))) (fun xs => eC (ys ++ xs)) env ih1) →
            tG (lr X ex) W (RVs (lr X ex)) (eStars (es.map (starOf f))) σ H1 fun ws H2 => Q (vs ++ ws) H2 := fun {ys vs} ry p1 =>
          (bindAt (rel := RVs (lr X ex)) (e1.mono ex1) h1 p1).mono fun ws H2 ⟨ρ2, ih2, xs, ex2, h2, r2, p2⟩ => Post.here p2 h2 ((ry.mono ex2).append r2)
        cases x with
        | tup ys =>
          obtain ⟨a', vs, rfl, k1, k2⟩ := rv_tup r1
          exact ⟨a', vs, rfl, .inl k1, fin k2 p1⟩
        | ref n =>
          obtain ⟨a', rfl, ea⟩ := rv_ref r1
          simp only [items?] at p1
          cases q : getL ih1 n with
          | none => rw [q] at p1; exact p1.elim
          | some ys =>
            rw [q] at p1
            obtain ⟨vs, k1, k2⟩ := getL_at h1 q ea
            exact ⟨a', vs, rfl, .inr k1, fin k2 p1⟩
        | non => exact p1.elim
        | bl b => exact p1.elim
        | int b => exact p1.elim
        | str b => exact p1.elim
        | exc c fs => exact p1.elim
        | ty c => exact p1.elim
        | cls c => exact p1.elim
      | _ => cases hs
    · have hs : isStar a = false := by simpa using hs
      have hu : unStar a = a := by cases a <;> first | rfl | cases hs
      rw [hu] at ha
      rw [List.map_cons, starOf_no hs]
      refine impA (pa_cons ha r (star_no hs)) fun σ H Q ⟨ρ, env, ih, e1, e2, p⟩ => ?_
      refine (bindAt (rel := RV (lr X ex)) e1 e2 p).mono fun u H1 ⟨ρ1, ih1, x, ex1, h1, r1, p1⟩ => ?_
      rw [if_neg Bool.false_ne_true] at p1
      have p1 : Post (lr X ex) W σ (RVs (lr X ex)) Q ρ1 H1 (eBind (eStars (es.map (starOf f))) (fun xs => eC ([x] ++ xs)) env ih1) := p1
      refine (bindAt (rel := RVs (lr X ex)) (e1.mono ex1) h1 p1).mono fun us H2 ⟨ρ2, ih2, xs, ex2, h2, r2, p2⟩ => ?_
      exact Post.here p2 h2 (.cons (r1.mono ex2) r2)
theorem se_tup {es : List Expr} {k : Nat} {m : EM (List PV)} (h : PA X es (tA (lr X ex) W m)) : PE X (.Tuple es k pos) (tE (lr X ex) W (eTup m)) :=
  impE (pe_tup h) fun σ H Q ⟨ρ, env, ih, e1, e2, p⟩ => (bindAt (rel := RVs (lr X ex)) e1 e2 p).mono fun us H1 ⟨ρ1, ih1, xs, ex1, h1, r1, p1⟩ => post_newT h1 r1 p1
theorem se_lst {es : List Expr} {m : EM (List PV)} (h : PA X es (tA (lr X ex) W m)) : PE X (.List es pos) (tE (lr X ex) W (eLst m)) :=
  impE (pe_lst h) fun σ H Q ⟨ρ, env, ih, e1, e2, p⟩ => (bindAt (rel := RVs (lr X ex)) e1 e2 p).mono fun us H1 ⟨ρ1, ih1, xs, ex1, h1, r1, p1⟩ => post_newL h1 r1 p1
end
end Z
end
noncomputable section
namespace Z
open PySem PySem.Spec PyProof.Rows L2
set_option autoImplicit false
section
variable {X : Cx} {ex : Option (Addr × Str × Option Addr)} {W : WX} {a b c e : Expr} {pos : Pos} {ma mb mc : EM PV} {ta tb : EM Bool} {α : Type}
def rIxDk : R2 := fun x y H Q => ∃ p v, x = .ref p ∧ DGet H p y (some v) ∧ Q v H
theorem ix_dk (hu : X.A.units + 1 < cLine) : IxR X rIxDk := by
  intro value slice pins s σ H x y v u Q I rx ry h hs
  obtain ⟨p, w, rfl, g, q⟩ := h
  obtain rfl : v = Value.ref p := rx
  exact tail_any (dict_typeIs I g) PySem.F.slot_dict_getitem.lookup (d_getItem hu I g ry fun w' s3 I3 rw' => ⟨w, H, I3, rw', q⟩) hs
def rIxA (K : PySem.W.Frag) : R2 := fun x y H Q => rIxL K x y H Q ∨ rIxT K x y H Q ∨ rIxS x y H Q ∨ rIxDk x y H Q
theorem ix_all (hu : X.A.units + 1 < cLine) : IxR X (rIxA X.K) := IxR.or ix_list (IxR.or ix_tup (IxR.or ix_str (ix_dk hu)))
theorem rvs_at {L : Rl} {ρ : List Addr} {H : Hp} {xs : List PV} {vs : List V} (r : RVs L ρ H xs vs) {k : Int} {x : PV} (e : atI xs k = some x) : ∃ v, atI vs k = some v ∧ RV L ρ H x v := by
  unfold atI at e ⊢
  rw [← r.length]
  cases q : ixN xs.length k with
  | none => rw [q] at e; cases e
  | some j =>
    rw [q] at e
    exact r.get e
theorem p2_ix : P2 (lr X ex) W ixP (rIxA X.K) := by
  intro σ Q ρ H ih x y u v h r1 r2 p
  unfold ixP at p
  split at p
  · obtain ⟨a, vs, rfl, k1, k2⟩ := rv_tup r1
    cases r2
    split at p
    · rename_i q
      obtain ⟨w, e, rw'⟩ := rvs_at k2 q
      exact .inr (.inl ⟨a, vs, _, w, rfl, rfl, k1, e, p.here h rw'⟩)
    · exact p.elim
  · cases r1; cases r2
    split at p
    · rename_i hl
      split at p
      · rename_i q
        exact .inr (.inr (.inl ⟨_, _, _, rfl, rfl, by rw [sizeLine_eq]; exact hl, q, p.here h (.str _)⟩))
      · exact p.elim
    · exact p.elim
  · obtain ⟨a, rfl, ea⟩ := rv_ref r1
    split at p
    · rename_i kvs q
      obtain ⟨vs, k1, k2⟩ := at_dK h q ea
      split at p
      · rename_i k ek
        have eu := keyOf_v ek r2
        subst eu
        have lk := rks_look k2 k
        split at p
        · rename_i w ew
          rw [ew] at lk
          obtain ⟨w', e1, e2⟩ := lk
          refine .inr (.inr (.inr ⟨a, w', rfl, ?_, p.here h e2⟩))
          have g := DGet.k (k := k) k1
          rw [e1] at g; exact g
        · exact p.elim
      · exact p.elim
    · rename_i y kvs q
      obtain ⟨o, vs, k1, k2⟩ := at_fK h q ea
      split at p
      · rename_i k ek
        have eu := keyOf_v ek r2
        subst eu
        have lk := rks_look k2 k
        split at p
        · rename_i w ew
          rw [ew] at lk
          obtain ⟨w', e1, e2⟩ := lk
          refine .inr (.inr (.inr ⟨a, w', rfl, ?_, p.here h e2⟩))
          have g := dget_frz (k := k) k1
          rw [e1] at g; exact g
        · exact p.elim
      · exact p.elim
    · split at p
      · rename_i q1
        cases r2
        obtain ⟨vs, k1, k2⟩ := getL_at h q1 ea
        split at p
        · rename_i q
          obtain ⟨w, e, rw'⟩ := rvs_at k2 q
          exact .inl ⟨a, vs, _, w, rfl, rfl, k1, e, p.here h rw'⟩
        · exact p.elim
      · exact p.elim
  · exact p.elim
def isSl3 : Expr → Bool
  | .Slice _ _ none _ => true
  | _ => false
theorem plainIx_of (h : isSl3 b = false) : PlainIx b := by
  intro o i
  cases b with
  | Slice lo hi st p =>
    cases st with
    | none => cases h
    | some s => rfl
  | _ => rfl
theorem se_ix (hu : X.A.units + 1 < cLine) (ha : PE X a (tE (lr X ex) W ma)) (hb : PE X b (tE (lr X ex) W mb)) (hs : isSl3 b = false) : PE X (.Subscript a b pos) (tE (lr X ex) W (eIx ma mb)) :=
  impE (pe_ix (ix_all hu) ha hb (plainIx_of hs)) fun σ H Q h => tE_op p2_ix h

def rSlAll (K : PySem.W.Frag) : V → Option Int → Option Int → Hp → VK → Prop := fun x lo hi H Q => rSlL K x lo hi H Q ∨ rSlA K x lo hi H Q ∨ C8.rSlX x lo hi H Q
theorem sl_all : SlR X (rSlAll X.K) := SlR.or sl_list (SlR.or sl_tupA C8.sl_txt)
theorem rvs_cut {L : Rl} {ρ : List Addr} {H : Hp} {xs : List PV} {vs : List V} (r : RVs L ρ H xs vs) (lo hi : Option Int) : RVs L ρ H (cutP xs lo hi) (cutV vs lo hi) := by
  unfold cutP cutV
  rw [← r.length]
  exact (r.drop _).take _
theorem post_sl {σ : L2.St} {Q : VK} {ρ : List Addr} {H : Hp} {ih : IH} {x : PV} {u : V} {lo hi : Option Int} (h : RH (lr X ex) ρ H ih) (r : RV (lr X ex) ρ H x u) (p : Post (lr X ex) W σ (RV (lr X ex)) Q ρ H (slP x lo hi ih)) : rSlAll X.K u lo hi H Q := by
  unfold slP at p
  split at p
  · rename_i xs
    obtain ⟨a, vs, rfl, k1, k2⟩ := rv_tup r
    have rc := rvs_cut k2 lo hi
    refine .inr (.inl ⟨a, vs, rfl, k1, fun hw => ?_, fun hw q hq => post_tup h rc p hq⟩)
    have e : cutP xs lo hi = xs := by
      unfold cutP
      rw [k2.length, hw.1, hw.2, ← k2.length]
      simp
    rw [e] at p
    exact p.here h (.tup k1 k2)
  · obtain ⟨a, rfl, ea⟩ := rv_ref r
    split at p
    · rename_i q
      obtain ⟨vs, k1, k2⟩ := getL_at h q ea
      exact .inl ⟨a, vs, rfl, k1, fun l hl => post_lay h (rvs_cut k2 lo hi) p hl⟩
    · exact p.elim
  · cases r
    split at p
    · rename_i hl
      exact .inr (.inr ⟨_, rfl, by rw [sizeLine_eq]; exact hl, p.here h (.str _)⟩)
    · exact p.elim
  · exact p.elim
def tOpt (L : Rl) (W : WX) (m : EM (Option Int)) : L2.St → Hp → (Option Int → Hp → Prop) → Prop := tG L W (fun _ _ a b => a = b) m
theorem so_none : PO X none (tOpt (lr X ex) W (eOptI none)) := ⟨fun pins s σ H Q I ⟨ρ, env, ih, e1, e2, p⟩ => po_none.run pins s σ H Q I (by have z := Post.here (u := (none : Option Int)) p e2 rfl; exact z)⟩
theorem so_some (h : PE X e (tE (lr X ex) W ma)) : PO X (some e) (tOpt (lr X ex) W (eOptI (some ma))) := by
  refine ⟨fun pins s σ H Q I ⟨ρ, env, ih, e1, e2, p⟩ => (po_some h).run pins s σ H Q I ?_⟩
  refine (bindAt (rel := RV (lr X ex)) e1 e2 p).mono fun u H1 ⟨ρ1, ih1, x, ex1, h1, r1, p1⟩ => ?_
  cases x with
  | int i =>
    have z := Post.here (u := some i) p1 h1 rfl
    exact ⟨i, rv_int r1, z⟩
  | non => exact p1.elim
  | bl b => exact p1.elim
  | str b => exact p1.elim
  | tup b => exact p1.elim
  | ref b => exact p1.elim
  | exc c fs => exact p1.elim
  | ty c => exact p1.elim
  | cls c => exact p1.elim
theorem se_sl {lo hi : Option Expr} {ml mh : Option (EM PV)} {p2 : Pos} (ha : PE X a (tE (lr X ex) W ma)) (hl : PO X lo (tOpt (lr X ex) W (eOptI ml))) (hh : PO X hi (tOpt (lr X ex) W (eOptI mh))) :
    PE X (.Subscript a (.Slice lo hi none p2) pos) (tE (lr X ex) W (eSl ma ml mh)) := by
  refine impE (pe_slice sl_all ha hl hh) fun σ H Q ⟨ρ, env, ih, e1, e2, p⟩ => ?_
  refine (bindAt (rel := RV (lr X ex)) e1 e2 p).mono fun u H1 ⟨ρ1, ih1, x, ex1, h1, r1, p1⟩ => ?_
  refine (bindAt (rel := fun _ _ a b => a = b) (e1.mono ex1) h1 p1).mono fun l H2 ⟨ρ2, ih2, l', ex2, h2, r2, p2⟩ => ?_
  have r2 : l' = l := r2
  subst r2
  refine (bindAt (rel := fun _ _ a b => a = b) ((e1.mono ex1).mono ex2) h2 p2).mono fun k H3 ⟨ρ3, ih3, k', ex3, h3, r3, p3⟩ => ?_
  have r3 : k' = k := r3
  subst r3
  exact post_sl h3 (r1.mono (ex2.trans ex3)) p3

def isCall0 : Expr → Bool
  | .Call (.Name _ _) [] [] _ => true
  | _ => false
theorem base_of {f : Str} {env : Env} {w : Sem Value} (h : isCall0 e = false) : attributeBase e f env w = w := by
  unfold attributeBase
  split
  · cases h
  · rfl
theorem rfs_look {L : Rl} {ρ : List Addr} {H : Hp} {fs : List (Str × PV)} {vs : List (Str × V)} (r : RFs L ρ H fs vs) (f : Str) : match fs.lookup f with
    | some x => ∃ v, vs.lookup f = some v ∧ RV L ρ H x v
    | none => vs.lookup f = none := by
  match fs, vs, r with
  | _, _, .nil => simp only [List.lookup]
  | _, _, .cons (f := g) (x := x) (xs := xs) (v := v) (vs := ws) h t =>
    by_cases hk : f = g
    · have e : (f == g) = true := beq_iff_eq.mpr hk
      simp only [List.lookup, e]
      exact ⟨v, rfl, h⟩
    · have e : (f == g) = false := beq_eq_false_iff_ne.mpr hk
      simp only [List.lookup, e]
      exact rfs_look t f
theorem rfs_len {L : Rl} {ρ : List Addr} {H : Hp} : ∀ {fs : List (Str × PV)} {vs : List (Str × V)}, RFs L ρ H fs vs → fs.length = vs.length
  | _, _, .nil => rfl
  | _, _, .cons _ t => congrArg Nat.succ (rfs_len t)
theorem rfs_put {L : Rl} {ρ : List Addr} {H : Hp} (f : Str) {x : PV} {v : V} (rx : RV L ρ H x v) : ∀ {fs : List (Str × PV)} {vs : List (Str × V)}, RFs L ρ H fs vs → RFs L ρ H (putF' f x fs) (putF f v vs)
  | _, _, .nil => .cons rx .nil
  | _, _, .cons (f := g) (x := y) (xs := xs) (v := w) (vs := ws) h t => by
    show RFs L ρ H (if g = f then (g, x) :: xs else (g, y) :: putF' f x xs) (if g = f then (g, v) :: ws else (g, w) :: putF f v ws)
    by_cases hk : g = f
    · rw [if_pos hk, if_pos hk]; exact .cons rx t
    · rw [if_neg hk, if_neg hk]; exact .cons h (rfs_put f rx t)
def FldOk (K : PySem.W.Frag) (ok : Str → Str → Bool) : Prop := ∀ c f, ok c f = true → Cls K (He.ga K c) ∧ NoAttr K (He.ga K c) f
theorem p1_fld {ok : Str → Str → Bool} (F : FldOk X.K ok) {f : Str} : P1 (lr X ex) W (fun x ih => fldP ok x f ih) (fun x H1 Q => ∃ a C dx fs v, x = .ref a ∧ H1 a = some (.ins C dx fs) ∧ Cls X.K C ∧ NoAttr X.K C f ∧ fs.lookup f = some v ∧ Q v H1) := by
  intro σ Q ρ H ih x u h r p
  cases x with
  | ref n =>
    obtain ⟨a, rfl, ea⟩ := rv_ref r
    simp only [fldP] at p
    split at p
    · rename_i c fs q
      obtain ⟨dx, fs', k1, k2⟩ := getI_at h q ea
      split at p
      · rename_i hok
        obtain ⟨c1, c2⟩ := F c f hok
        have lk := rfs_look k2 f
        split at p
        · rename_i v ev
          rw [ev] at lk
          obtain ⟨v', e1, e2⟩ := lk
          exact ⟨a, _, dx, fs', v', rfl, k1, c1, c2, e1, p.here h e2⟩
        · exact p.elim
      · exact p.elim
    · exact p.elim
  | _ => exact p.elim
theorem se_fld {ok : Str → Str → Bool} (F : FldOk X.K ok) {f : Str} (ha : PE X a (tE (lr X ex) W ma)) (hc : isCall0 a = false) : PE X (.Attribute a f pos) (tE (lr X ex) W (eFld ok ma f)) :=
  impE (pe_fld ha (base_of hc)) fun σ H Q h => tE_un (p1_fld F) h

theorem ext_adopt {ρ0 ρ : List Addr} {H0 H : Hp} {a : Addr} {w u : HO} (hp : H0 a = none) (e : Ext ρ0 (upd H0 a w) ρ H) : Ext ρ0 H0 (ρ ++ [a]) (upd H a u) := by
  have up : ∀ b o, H0 b = some o → b ≠ a ∧ (upd H0 a w) b = some o := fun b o q => ⟨ne_of_none q hp, by rw [upd_ne (ne_of_none q hp)]; exact q⟩
  obtain ⟨more, em⟩ := e.pre
  refine ⟨⟨more ++ [a], by rw [em, List.append_assoc]⟩, fun b o q n => ?_, fun b hb n => ?_, fun b xs q => ?_, fun b o v q => ?_, fun b fs q => ?_⟩
  · obtain ⟨h1, h2⟩ := up b o q
    rw [upd_ne h1]; exact e.frame b o h2 n
  · by_cases hba : b = a
    · rw [hba]; exact hp
    · rcases List.mem_append.mp hb with hb | hb
      · have z := e.fresh b hb n
        rw [upd_ne hba] at z; exact z
      · exact absurd (by simpa using hb) hba
  · obtain ⟨h1, h2⟩ := up b _ q
    rw [upd_ne h1]; exact e.tups b xs h2
  · obtain ⟨h1, h2⟩ := up b _ q
    rw [upd_ne h1]; exact e.frzs b o v h2
  · obtain ⟨h1, h2⟩ := up b _ q
    rw [upd_ne h1]; exact e.xds b fs h2
theorem not_in {ρ0 ρ : List Addr} {H0 H : Hp} {a : Addr} {w : HO} {ih : IH} {L : Rl} (h0 : RH L ρ0 H0 ih) (hp : H0 a = none) (e : Ext ρ0 (upd H0 a w) ρ H) : a ∉ ρ := fun m => by
  have n0 : a ∉ ρ0 := fun m => by
    obtain ⟨z, hz, _⟩ := h0.tracked m
    rw [hp] at hz; cases hz
  have z := e.fresh a m n0
  rw [upd_same] at z; cases z
theorem kp_adopt {ρ : List Addr} {H : Hp} {a : Addr} {w u : HO} (hw : H a = some w) (n1 : ∀ xs, w ≠ .tup xs) (n2 : ∀ fs, w ≠ .xd fs) (n3 : ∀ o v, w ≠ .frz o v) : Kp ρ H (ρ ++ [a]) (upd H a u) := by
  refine ⟨fun n b h => ?_, fun b xs h => ?_, fun b o v h => ?_, fun b fs h => ?_⟩
  · obtain ⟨hl, _⟩ := List.getElem?_eq_some_iff.mp h
    rw [List.getElem?_append_left hl]; exact h
  · rw [upd_ne (fun z => by subst z; rw [hw] at h; exact n1 _ (Option.some.inj h))]; exact h
  · rw [upd_ne (fun z => by subst z; rw [hw] at h; exact n3 _ _ (Option.some.inj h))]; exact h
  · rw [upd_ne (fun z => by subst z; rw [hw] at h; exact n2 _ (Option.some.inj h))]; exact h
theorem RH.adopt {L : Rl} {ρ : List Addr} {H : Hp} {ih : IH} {a : Addr} {u : HO} {o : IO} (h : RH L ρ H ih) (na : a ∉ ρ) (k : Kp ρ H (ρ ++ [a]) (upd H a u)) (r : RO L (ρ ++ [a]) (upd H a u) a o) : RH L (ρ ++ [a]) (upd H a u) (ih ++ [o]) := by
  refine ⟨by simp [h.len], ?_, fun n b o' e1 e2 => ?_⟩
  · rw [List.nodup_append]
    refine ⟨h.nd, by simp, ?_⟩
    intro x hx y hy e
    have : y = a := by simpa using hy
    subst this; subst e; exact na hx
  · by_cases hn : n < ρ.length
    · rw [List.getElem?_append_left hn] at e1
      rw [List.getElem?_append_left (by rw [← h.len]; exact hn)] at e2
      exact (h.ob n b o' e1 e2).keep k (upd_ne fun z => na (z ▸ List.mem_of_getElem? e1))
    · have hn' : ρ.length ≤ n := by omega
      rw [List.getElem?_append_right hn'] at e1
      rw [List.getElem?_append_right (by rw [← h.len]; exact hn')] at e2
      have hz : n - ρ.length = 0 := by
        cases q : n - ρ.length with
        | zero => rfl
        | succ m => rw [q] at e1; simp at e1
      rw [hz] at e1
      rw [← h.len, hz] at e2
      simp at e1 e2
      subst e1; subst e2; exact r
theorem keysOf_v {L : Rl} {ρ : List Addr} {H : Hp} : ∀ {ps : List (PV × PV)} {ks : List (Key × PV)} {vs : List (V × V)}, keysOf ps = some ks → Paired (fun (p : PV × PV) (q : V × V) => RV L ρ H p.1 q.1 ∧ RV L ρ H p.2 q.2) ps vs →
    ∃ kvs : List (Key × V), vs = kvs.map (fun kv => (kV kv.1, kv.2)) ∧ RKs L ρ H ks kvs := by
  intro ps ks vs e r
  induction r generalizing ks with
  | nil => simp only [keysOf] at e; cases e; exact ⟨[], rfl, .nil⟩
  | @cons p q ps qs r t ih =>
    obtain ⟨x, y⟩ := p
    obtain ⟨u, v⟩ := q
    simp only [keysOf] at e
    split at e
    · rename_i k ek
      cases q : keysOf ps with
      | none => rw [q] at e; cases e
      | some ks =>
        rw [q] at e; cases e
        obtain ⟨kvs, e1, e2⟩ := ih q
        have eu : u = kV k := keyOf_v ek r.1
        exact ⟨(k, v) :: kvs, by rw [e1, eu]; rfl, .cons r.2 e2⟩
    · cases e
abbrev relPs (L : Rl) : List Addr → Hp → List (PV × PV) → List (V × V) → Prop := fun ρ H ps vs => Paired (fun (p : PV × PV) (q : V × V) => RV L ρ H p.1 q.1 ∧ RV L ρ H p.2 q.2) ps vs
theorem tPairs_of : ∀ {ps : List (EM PV × EM PV)} {σ : L2.St} {H : Hp} {Q : List (V × V) → Hp → Prop}, tG (lr X ex) W (relPs (lr X ex)) (ePairs ps) σ H Q → tPairs (ps.map fun p => (tE (lr X ex) W p.1, tE (lr X ex) W p.2)) σ H Q
  | [], σ, H, Q, ⟨ρ, env, ih, e1, e2, p⟩ => Post.here p e2 .nil
  | (k, v) :: r, σ, H, Q, ⟨ρ, env, ih, e1, e2, p⟩ => by
    refine (bindAt (rel := RV (lr X ex)) e1 e2 p).mono fun u H1 ⟨ρ1, ih1, x, ex1, h1, r1, p1⟩ => (bindAt (rel := RV (lr X ex)) (e1.mono ex1) h1 p1).mono fun w H2 ⟨ρ2, ih2, y, ex2, h2, r2, p2⟩ => ?_
    refine tPairs_of ((bindAt (rel := relPs (lr X ex)) ((e1.mono ex1).mono ex2) h2 p2).mono fun ps H3 ⟨ρ3, ih3, zs, ex3, h3, r3, p3⟩ => ?_)
    exact Post.here p3 h3 (.cons ⟨r1.mono (ex2.trans ex3), r2.mono ex3⟩ r3)
theorem pps_of (f : Expr → EM PV) {pos : Pos} : ∀ (ks : List (Option Expr)) (vs : List Expr), ks.length = vs.length → (∀ k ∈ ks, ∃ e, k = some e) → (∀ k e, k ∈ ks → k = some e → PE X e (tE (lr X ex) W (f e))) → (∀ e ∈ vs, PE X e (tE (lr X ex) W (f e))) →
    PPs X pos ks vs (((ks.zip vs).map fun p => ((match p.1 with | some e => f e | none => eFail), f p.2)).map fun p => (tE (lr X ex) W p.1, tE (lr X ex) W p.2))
  | [], [], _, _, _, _ => pps_nil
  | k :: ks, v :: vs, hl, hk, h1, h2 => by
    obtain ⟨e, rfl⟩ := hk k List.mem_cons_self
    exact pps_cons (h1 _ e List.mem_cons_self rfl) (h2 v List.mem_cons_self) (pps_of f ks vs (Nat.succ.inj hl) (fun k q => hk k (List.mem_cons_of_mem _ q)) (fun k e q => h1 k e (List.mem_cons_of_mem _ q)) fun e q => h2 e (List.mem_cons_of_mem _ q))
  | [], _ :: _, hl, _, _, _ => by cases hl
  | _ :: _, [], hl, _, _, _ => by cases hl
theorem tE_disp {ps : List (EM PV × EM PV)} {σ : L2.St} {H : Hp} {Q : VK} (h : tE (lr X ex) W (eDisp ps) σ H Q) : tDisp (ps.map fun p => (tE (lr X ex) W p.1, tE (lr X ex) W p.2)) σ H Q := by
  obtain ⟨ρ, env, ih, e1, e2, p⟩ := h
  unfold eDisp at p
  split at p
  · intro a ha
    have en := ext_new (ρ := ρ) (u := .dK []) ha
    refine tPairs_of ((bindFrom (rel := relPs (lr X ex)) en (e1.mono en) (e2.new ha) p).mono fun vs H1 ⟨ρ1, ih1, zs, ex1, h1, r1, p1⟩ => ?_)
    split at p1
    · rename_i ks q
      split at p1
      · rename_i h15
        obtain ⟨kvs, ev, rk⟩ := keysOf_v q r1
        have na := not_in e2 ha ex1
        have n0 : a ∉ ρ := fun m => by
          obtain ⟨z, hz, _⟩ := e2.tracked m
          rw [ha] at hz; cases hz
        have hw : H1 a = some (.dK []) := ex1.frame a _ upd_same n0
        have kp := kp_adopt (ρ := ρ1) (u := .dK (mergeK [] kvs)) hw (fun _ => by simp) (fun _ => by simp) (fun _ _ => by simp)
        have rm : ∀ {acc : List (Key × PV)} {acc' : List (Key × V)} {more : List (Key × PV)} {more' : List (Key × V)}, RKs (lr X ex) ρ1 H1 more more' → RKs (lr X ex) ρ1 H1 acc acc' → RKs (lr X ex) ρ1 H1 (mergeK' acc more) (mergeK acc' more') := by
          intro acc acc' more more' r
          induction r generalizing acc acc' with
          | nil => exact fun q => q
          | cons hx _ ih => exact fun q => ih (rks_put q _ hx)
        have rr := rm rk .nil
        refine ⟨hw, kvs, ev, by rw [← rks_len rk]; exact h15, ?_⟩
        refine p1 _ _ _ (ext_adopt ha ex1) (h1.adopt na kp ⟨_, upd_same, rr.keep kp⟩) (.ref ?_)
        rw [← h1.len, List.getElem?_append_right (Nat.le_refl _), Nat.sub_self]; rfl
      · exact p1.elim
    · exact p1.elim
  · exact p.elim
theorem se_disp (f : Expr → EM PV) {ks : List (Option Expr)} {vs : List Expr} (hl : ks.length = vs.length) (hk : ∀ k ∈ ks, ∃ e, k = some e) (h1 : ∀ k e, k ∈ ks → k = some e → PE X e (tE (lr X ex) W (f e))) (h2 : ∀ e ∈ vs, PE X e (tE (lr X ex) W (f e))) (h0 : ks ≠ []) (h15 : ks.length ≤ 15) :
    PE X (.Dict ks vs pos) (tE (lr X ex) W (eDisp ((ks.zip vs).map fun p => ((match p.1 with | some e => f e | none => eFail), f p.2)))) :=
  impE (pe_disp (pps_of f ks vs hl hk h1 h2) (by rw [List.all_eq_true]; intro k q; obtain ⟨e, rfl⟩ := hk k q; rfl) hl h0 h15) fun σ H Q h => tE_disp h
def eDNew : EM PV := fun _ ih => .ok (.ref ih.length) (ih ++ [.dK []])
theorem se_dnew : PE X (.Dict [] [] pos) (tE (lr X ex) W eDNew) :=
  impE pe_dnewK fun σ H Q ⟨ρ, env, ih, e1, e2, p⟩ a ha => by
    obtain ⟨k1, k2, k3⟩ := lay_dK e2 .nil ha
    exact p _ _ _ k3 k1 k2
end
end Z
end
noncomputable section
namespace Z
open PySem PySem.Spec PyProof.Rows L2
set_option autoImplicit false
def kwSlots {α : Type} (ps : List Str) (us : List α) (ks : List Str) (ws its : List α) : List (Str × α) := ps.zip us ++ (ks.zip ws ++ (ps.drop (ps.length - its.length)).zip its)
def kwFill {α : Type} (ps : List Str) (us : List α) (ks : List Str) (ws its : List α) : List α := ps.filterMap fun p => (kwSlots ps us ks ws its).lookup p
structure KwOk (ps : List Str) (nd n : Nat) (ks : List Str) : Prop where
  le : n ≤ ps.length
  ld : nd ≤ ps.length
  kn : ks.Nodup
  kin : ∀ q ∈ ks, q ∈ ps.drop n
  all : ∀ p ∈ ps.take (ps.length - nd), p ∈ ps.take n ∨ p ∈ ks
def kwOkB (ps : List Str) (nd n : Nat) (ks : List Str) : Bool := decide (n ≤ ps.length) && decide (nd ≤ ps.length) && decide ks.Nodup && (ks.all fun q => decide (q ∈ ps.drop n)) && (ps.take (ps.length - nd)).all fun p => decide (p ∈ ps.take n) || decide (p ∈ ks)
theorem kwOk_of {ps ks : List Str} {nd n : Nat} (h : kwOkB ps nd n ks = true) : KwOk ps nd n ks := by
  unfold kwOkB at h
  simp only [Bool.and_eq_true, Bool.or_eq_true, decide_eq_true_eq, List.all_eq_true] at h
  obtain ⟨⟨⟨⟨h1, h2⟩, h3⟩, h4⟩, h5⟩ := h
  exact ⟨h1, h2, h3, h4, h5⟩
section
variable {α : Type}
theorem lk_some {l : List (Str × α)} {y : Str} (h : y ∈ l.map (·.1)) : (l.lookup y).isSome = true := by
  induction l with
  | nil => cases h
  | cons p l ih =>
    rw [List.lookup_cons]
    by_cases e : y = p.1
    · subst e; simp
    · have hb : (y == p.1) = false := beq_eq_false_iff_ne.mpr e
      rw [hb]
      rw [List.map_cons] at h
      rcases List.mem_cons.mp h with z | z
      · exact absurd z e
      · exact ih z
theorem zkeys : ∀ (ps : List Str) (us : List α), (ps.zip us).map (·.1) = ps.take us.length
  | [], us => by simp
  | p :: ps, [] => rfl
  | p :: ps, u :: us => by
    show p :: ((ps.zip us).map (·.1)) = _
    rw [zkeys ps us]; rfl
theorem fill_all {ps ks : List Str} {us ws its : List α} (O : KwOk ps its.length us.length ks) (hw : ws.length = ks.length) : ∀ p ∈ ps, ((kwSlots ps us ks ws its).lookup p).isSome = true := fun p hp => by
  apply lk_some
  unfold kwSlots
  rw [List.map_append, List.map_append, zkeys, zkeys, zkeys, hw, List.take_length]
  rw [← List.take_append_drop (ps.length - its.length) ps] at hp
  rcases List.mem_append.mp hp with z | z
  · rcases O.all p z with z | z
    · exact List.mem_append_left _ z
    · exact List.mem_append_right _ (List.mem_append_left _ z)
  · refine List.mem_append_right _ (List.mem_append_right _ ?_)
    rw [List.take_of_length_le (by have := O.ld; simp; omega)]
    exact z
theorem fm_len {L : Str → Option α} : ∀ {qs : List Str}, (∀ q ∈ qs, (L q).isSome = true) → (qs.filterMap L).length = qs.length
  | [], _ => rfl
  | q :: qs, h => by
    have h1 := h q List.mem_cons_self
    cases e : L q with
    | none => rw [e] at h1; cases h1
    | some w =>
      rw [List.filterMap_cons, e]
      show (qs.filterMap L).length + 1 = _
      rw [fm_len fun x hx => h x (List.mem_cons_of_mem _ hx)]; rfl
theorem fill_len {ps ks : List Str} {us ws its : List α} (O : KwOk ps its.length us.length ks) (hw : ws.length = ks.length) : (kwFill ps us ks ws its).length = ps.length := fm_len (fill_all O hw)
end
section
variable {α β : Type} {R : α → β → Prop}
def PR (R : α → β → Prop) : List (Str × α) → List (Str × β) → Prop := Paired fun p q => p.1 = q.1 ∧ R p.2 q.2
theorem pr_zip : ∀ {ps : List Str} {us : List α} {vs : List β}, Paired R us vs → PR R (ps.zip us) (ps.zip vs)
  | [], _, _, _ => .nil
  | _ :: _, _, _, .nil => .nil
  | p :: ps, _, _, .cons h r => .cons ⟨rfl, h⟩ (pr_zip r)
theorem pr_app : ∀ {a c : List (Str × α)} {b d : List (Str × β)}, PR R a b → PR R c d → PR R (a ++ c) (b ++ d)
  | _, _, _, _, .nil, r => r
  | _, _, _, _, .cons h r, r2 => .cons h (pr_app r r2)
theorem pr_look (p : Str) : ∀ {a : List (Str × α)} {b : List (Str × β)}, PR R a b → (a.lookup p = none ∧ b.lookup p = none) ∨ ∃ x y, a.lookup p = some x ∧ b.lookup p = some y ∧ R x y
  | _, _, .nil => .inl ⟨rfl, rfl⟩
  | (k, x) :: _, (k', y) :: _, .cons ⟨h1, h2⟩ r => by
    have h1 : k = k' := h1
    subst h1
    rw [List.lookup_cons, List.lookup_cons]
    by_cases e : (p == k) = true
    · rw [e]; exact .inr ⟨x, y, rfl, rfl, h2⟩
    · have e : (p == k) = false := by simpa using e
      rw [e]; exact pr_look p r
theorem pr_fm {a : List (Str × α)} {b : List (Str × β)} (h : PR R a b) : ∀ ps : List Str, Paired R (ps.filterMap fun p => a.lookup p) (ps.filterMap fun p => b.lookup p)
  | [] => .nil
  | p :: ps => by
    rw [List.filterMap_cons, List.filterMap_cons]
    rcases pr_look p h with ⟨e1, e2⟩ | ⟨x, y, e1, e2, r⟩
    · rw [e1, e2]; exact pr_fm h ps
    · rw [e1, e2]; exact .cons r (pr_fm h ps)
theorem fill_rel {ps ks : List Str} {us ws its : List α} {vs zs dvs : List β} (r1 : Paired R us vs) (r2 : Paired R ws zs) (r3 : Paired R its dvs) : Paired R (kwFill ps us ks ws its) (kwFill ps vs ks zs dvs) := by
  unfold kwFill kwSlots
  have e : its.length = dvs.length := Paired.length r3
  rw [e]
  exact pr_fm (pr_app (pr_zip r1) (pr_app (pr_zip r2) (pr_zip r3))) ps
end
section
variable {L : Rl} {ρ : List Addr} {H : Hp}
theorem rvs_paired : ∀ {xs : List PV} {vs : List V}, RVs L ρ H xs vs → Paired (RV L ρ H) xs vs
  | _, _, .nil => .nil
  | _, _, .cons h r => .cons h (rvs_paired r)
theorem paired_rvs : ∀ {xs : List PV} {vs : List V}, Paired (RV L ρ H) xs vs → RVs L ρ H xs vs
  | _, _, .nil => .nil
  | _, _, .cons h r => .cons h (paired_rvs r)
end
end Z
end
noncomputable section
namespace Z
open PySem PySem.Spec PyProof.Rows L2
set_option autoImplicit false

def adr (K : PySem.W.Frag) : FId → Addr
  | .fn x => He.ga K x
  | .meth c m => He.ma K (He.ga K c) m
def spOf (K : PySem.W.Frag) (w : World) (n : Nat) (m : List PV → IH → R PV) : Sp := fun vs H Q E => vs.length = n ∧ ∃ ρ ih pvs, RH ⟨K, w, none⟩ ρ H ih ∧ RVs ⟨K, w, none⟩ ρ H pvs vs ∧ Post ⟨K, w, none⟩ (fun cls d _ H' => E cls d H') [] (RV ⟨K, w, none⟩) Q ρ H (m pvs ih)
def BindF (K : PySem.W.Frag) (w : World) (fdat : FuncData) (fd : FDef) : Prop :=
  (∀ j, j ≤ fd.dfl.length → ∃ ds dvs, Vals dvs ds ∧ (∀ ρ H, RVs ⟨K, w, none⟩ ρ H (fd.dfl.drop j) dvs) ∧ Binds K fdat fd.ps ds) ∧
  ∀ n ks, kwOkB fd.ps fd.dfl.length n ks = true → ∃ its dvs, Vals dvs its ∧ (∀ ρ H, RVs ⟨K, w, none⟩ ρ H fd.dfl dvs) ∧ KBn K fdat fd.ps n ks (fun us ws => kwFill fd.ps us ks ws its) (fun vs zs => kwFill fd.ps vs ks zs dvs)
def TxtF (K : PySem.W.Frag) (w : World) (x : Str) (fd : FDef) : Prop := ∃ (oc : Value) (od : Option Addr) (name : Str) (params : Arguments) (dV kV doc pm : Value) (an : Option Addr) (cdv ct : Value) (osl : Array (Option Value)),
    K.lookup (He.ga K x) = some ⟨oc, od, .func (PySem.W.fnOf name fd.qual params fd.body fd.sc dV kV doc pm an cdv ct), osl⟩ ∧ PySem.W.codeIn K cdv fd.qual = true ∧ FnScope fd.N fd.ps fd.sc ∧
    BindF K w (PySem.W.fnOf name fd.qual params fd.body fd.sc dV kV doc pm an cdv ct) fd
structure Facts (C : Cfg) (prog : Program) (w : World) (K : PySem.W.Frag) (mg : Str → Option Value) (base : Heap) (k : Nat) : Prop where
  callee : ∀ id fd, C.P.fdef id = some fd → ∃ fdat, FnOk prog w K mg base (L2.CX prog w) k (adr K id) fdat fd.ps (spOf K w fd.ps.length (C.call id)) ∧
    BindF K w fdat fd
  glo : ∀ x fd, C.P.fns.lookup x = some fd → mg x = some (.ref (He.ga K x)) ∧ PySem.W.keepIn K (.ref (He.ga K x)) = true
  cls : ∀ c ms, C.P.clss.lookup c = some ms → mg c = some (.ref (He.ga K c)) ∧ Cls K (He.ga K c) ∧ Mk K (He.ga K c) (He.ma K (He.ga K c) "__init__")
  meth : ∀ c m fd, C.P.fdef (.meth c m) = some fd → Cls K (He.ga K c) ∧ Meth K (He.ga K c) m (He.ma K (He.ga K c) m)
  fnI : ∀ c m fd, C.P.fdef (.meth c m) = some fd → PySem.W.fnIn K (He.ma K (He.ga K c) m) = true
  ne : ∀ c fd, C.P.fdef (.meth c "__eq__") = some fd → PySem.W.findIn K (.ref (He.ga K c)) "__ne__" = some (some (.builtin "object.__ne__")) ∧ PySem.W.mroIn K (He.ga K c) (.type "object") = some true
  fld : FldOk K C.P.isFld
  con : ∀ x v, C.P.cons.lookup x = some v → ∃ u v', mg x = some u ∧ RelV v' u ∧ ∀ ex ρ H, RV ⟨K, w, ex⟩ ρ H v v'
  blt : ∀ x, C.P.blts.contains x = true → mg x = none
  dct : ∀ x i, C.P.dcts.lookup x = some i → mg x = some (.ref (He.ga K x))
  txt : ∀ x fd, C.P.fns.lookup x = some fd → TxtF K w x fd
abbrev FX (C : Cfg) (X : Cx) (k : Nat) : Prop := Facts C X.prog X.w X.K X.mg X.base k

section
variable {X : Cx} {W : WX} {a b c e o : Expr} {pos apos : Pos} {ma mb mc mo : EM PV} {C : Cfg} {k : Nat}
theorem back_plain {env : Env} : ∀ {es : List Expr}, es.any isStar = false → (backTo pos (starEach es env)).any (·.1) = false
  | [], _ => rfl
  | e :: es, h => by
    have h' : isStar e = false ∧ es.any isStar = false := by simpa using h
    rw [star_no h'.1]
    show (false || (backTo pos (starEach es env)).any (·.1)) = false
    rw [back_plain h'.2]; rfl
theorem back_all {env : Env} : ∀ {es : List Expr}, es.any isStar = false → (backTo pos (starEach es env)).all (fun x => !x.1) = true
  | [], _ => rfl
  | e :: es, h => by
    have h' : isStar e = false ∧ es.any isStar = false := by simpa using h
    rw [star_no h'.1]
    show (true && (backTo pos (starEach es env)).all (fun x => !x.1)) = true
    rw [back_all h'.2]; rfl
theorem post_swap {K : PySem.W.Frag} {w : World} {σ : L2.St} {Q : VK} {ρ : List Addr} {H : Hp} {r : R PV} (h : Post ⟨K, w, none⟩ W σ (RV ⟨K, w, none⟩) Q ρ H r) : Post ⟨K, w, none⟩ (fun cls d _ H' => WE W σ cls d H') [] (RV ⟨K, w, none⟩) Q ρ H r := by
  cases r with
  | ok v ih => exact h
  | exc c fs ih => exact h
  | fail => exact h
theorem call_wish (F : FX C X k) {id : FId} {n : Nat} {σ : L2.St} {Q : VK} {ρ : List Addr} {H : Hp} {ih : IH} {vs : List PV} {us : List V} (h : RH (lr X none) ρ H ih) (r : RVs (lr X none) ρ H vs us) (p : Post (lr X none) W σ (RV (lr X none)) Q ρ H (callP C id n vs ih)) :
    ∃ fd fdat ds dvs, C.P.fdef id = some fd ∧ FnOk X.prog X.w X.K X.mg X.base (L2.CX X.prog X.w) k (adr X.K id) fdat fd.ps (spOf X.K X.w fd.ps.length (C.call id)) ∧ Vals dvs ds ∧ Binds X.K fdat fd.ps ds ∧ spOf X.K X.w fd.ps.length (C.call id) (us ++ dvs) H Q (WE W σ) := by
  unfold callP at p
  split at p
  · rename_i fd ef
    split at p
    · rename_i ds0 ed
      split at p
      · rename_i hn
        unfold fillArgs at ed
        split at ed
        · rename_i hj
          cases ed
          obtain ⟨fdat, hF, hb⟩ := F.callee id fd ef
          obtain ⟨ds, dvs, h1, h2, h3⟩ := hb.1 (n + fd.dfl.length - fd.ps.length) (by omega)
          refine ⟨fd, fdat, ds, dvs, ef, hF, h1, h3, ?_, ρ, ih, _, h, r.append (h2 ρ H), post_swap p⟩
          have l1 := r.length
          have l2 := (h2 ρ H).length
          rw [List.length_drop] at l2
          rw [List.length_append]
          omega
        · cases ed
      · exact p.elim
    · exact p.elim
  · exact p.elim
theorem run_call (F : FX C X k) (tk : Takes X W) (hr : Room k X.A) {id : FId} {n : Nat} {pins : List (Addr × Obj)} {σ : L2.St} {Q : VK} {s1 : Shared} {us : List Value} {vs : List V} {H1 : Hp} (I1 : Inv X pins σ H1 s1) (r : Vals vs us)
    {ρ1 : List Addr} {ih1 : IH} {xs : List PV} (h1 : RH (lr X none) ρ1 H1 ih1) (r1 : RVs (lr X none) ρ1 H1 xs vs) (p1 : Post (lr X none) W σ (RV (lr X none)) Q ρ1 H1 (callP C id n xs ih1)) :
    wpAny (model X.prog X.w) X.A (call (.ref (adr X.K id)) us) (EP X pins σ Q) X.xe s1 := by
  obtain ⟨fd, fdat, ds, dvs, ef, hF, h1', h3, hsp⟩ := call_wish F h1 r1 p1
  exact run_fnSD hF hr h3 h1' (passAt tk σ) I1 r hsp
theorem se_call {x : Str} {f : Expr → EM PV} {es : List Expr} {pp : Pos} (F : FX C X k) (tk : Takes X W) (hr : Room k X.A) (hg : Gl X x) {fd0 : FDef} (hx : C.P.fns.lookup x = some fd0) (hf : ∀ e ∈ es, PE X e (tE (lr X none) W (f e))) (hs : es.any isStar = false) (hdb : (x == ("__debug__" : Str)) = false) :
    PE X (.Call (.Name x pp) es [] pos) (tE (lr X none) W (eCall C (.fn x) es.length (eArgs (es.map f)))) := by
  obtain ⟨hm, hk⟩ := F.glo x fd0 hx
  have ha := sa_args f es hf hs
  refine ⟨fun pins s σ H Q I ⟨ρ, env, ih, e1, e2, p⟩ => ?_⟩
  have h := bindAt (rel := RVs (lr X none)) e1 e2 p
  refine wpAny_Call_Name_kw (ld_glob I hg hm ?_ hdb)
  cases es with
  | nil => exact PySem.W.callWith_K0 I.kIn hk (run_call (id := .fn x) F tk hr I .nil e2 .nil p)
  | cons e es =>
    have hs' : isStar e = false ∧ es.any isStar = false := by simpa using hs
    exact PySem.W.callWith_K (h₀ := X.base) I.ok.mod.kin hk (thn (ha.run pos pins s σ H _ I h) fun us s1 ⟨vs, H1, I1, r, ρ1, ih1, xs, ex1, h1, r1, p1⟩ => ⟨I1.kIn, run_call (id := .fn x) F tk hr I1 r h1 r1 p1⟩) (star_no hs'.1) (back_plain hs'.2)

theorem meth_tree {es : List Expr} {m : Str} {env : Env} (hb : isCall0 o = false) (hl : (apos.endLine == pos.line) = true) (hs : es.any isStar = false) (hn : es.length < 30) : eval (.Call (.Attribute o m apos) es [] pos) env = (do
      let ov ← eval o env
      standAt apos.atName
      let (f, first) ← holding [ov] (getMethod ov m (plainOf o env))
      callWith pos f first (backTo pos (starEach es env)) (backToKw pos (keywordEach [] env))) := by
  show (do
      let ov ← attributeBase o m env (eval o env)
      standAt apos.atName
      methodCall o m apos pos env ov (es.length + 0) (backTo pos (starEach es env)) (backToKw pos (keywordEach [] env))) = _
  rw [base_of hb]
  have hf : methodCallForm (es.length + 0) (backTo pos (starEach es env)) (backToKw pos (keywordEach [] env)) = true := by
    unfold methodCallForm
    rw [back_all hs]
    show (true && true && decide (es.length + 0 + 0 < 30)) = true
    simpa using hn
  congr 1
  funext ov
  congr 1
  funext _
  rw [mcall_line hf hl]
theorem lk_none {L : Rl} {ρ : List Addr} {H : Hp} {fs : List (Str × PV)} {vs : List (Str × V)} (r : RFs L ρ H fs vs) {f : Str} (h : (fs.lookup f).isNone = true) : vs.lookup f = none := by
  have lk := rfs_look r f
  cases q : fs.lookup f with
  | none => rw [q] at lk; exact lk
  | some v => rw [q] at h; cases h
theorem run_makeS {CX : CXT} {kk : Nat} {fd : FuncData} {ps : List Str} {sp : Sp} {ds : List Value} {dvs : List V} {E : L2.St → XK} {Ca f : Addr} {pins : List (Addr × Obj)} {σ : L2.St} {H : Hp} {s : Shared} {Q : VK} {us : List Value} {vs : List V} (M : Mk X.K Ca f) (F : FnOk X.prog X.w X.K X.mg X.base CX kk f fd ps sp) (hr : Room (kk + 1) X.A) (hb : Binds X.K fd ps ds) (hd : Vals dvs ds)
    (hx : PassesAt CX X σ (E σ)) (I : Inv X pins σ H s) (r : Vals vs us)
    (h : ∀ x dx, H x = none → H dx = none → dx ≠ x → sp (.ref x :: (vs ++ dvs)) (upd (upd H dx (.own x)) x (.ins Ca dx [])) (fun v H2 => v = .non ∧ Q (.ref x) H2) (E σ)) :
    wpAny (model X.prog X.w) X.A (call (.ref Ca) us) (EP X pins σ Q) X.xe s := by
  have hq := h (s.heap.objs.size + 1) s.heap.objs.size (I.hok.fresh (Nat.le_succ _)) (I.hok.fresh (Nat.le_refl _)) (Nat.ne_of_lt (Nat.lt_succ_self _))
  have I2 := Inv.made (C := Ca) I
  have r2 : Vals (V.ref (s.heap.objs.size + 1) :: (vs ++ dvs)) (Value.ref (s.heap.objs.size + 1) :: (us ++ ds)) := .cons rfl (r.append hd)
  have hl : (Value.ref (s.heap.objs.size + 1) :: us ++ ds).length = ps.length := by
    have e := r2.length
    rw [F.len _ _ _ _ hq] at e
    exact e.symm
  refine wpAny_call (make_map (f := f) I.kIn M.makes M.init (beq_iff_eq.mp M.fn) (codeAny_mono (F.run _ X.stack _ _ ⟨Value.ref (s.heap.objs.size + 1) :: us, []⟩ (Value.ref (s.heap.objs.size + 1) :: (us ++ ds)) _ _ (E σ) (hr.make Ca us [])
    (I2.env0.make Ca us []) (hb _ (Value.ref (s.heap.objs.size + 1) :: us) I2.kIn hl) r2 hq) fun r s' hq' => ?_))
  cases r with
  | error e => exact hx pins _ _ e s' I2 hq'
  | ok fl =>
    cases fl with
    | ret u =>
      obtain ⟨v, H', I3, rv, ev, q3⟩ := I2.after hq'
      subst ev
      exact ⟨rv, ⟨V.ref (s.heap.objs.size + 1), H', I3, rfl, q3⟩⟩
    | next => exact False.elim hq'
    | brk => exact False.elim hq'
    | cont => exact False.elim hq'
theorem lay_ins {L : Rl} {ρ : List Addr} {H : Hp} {ih : IH} (h : RH L ρ H ih) (c : Str) {x dx : Addr} (hx : H x = none) (hdx : H dx = none) (hne : dx ≠ x) :
    RH L (ρ ++ [x]) (upd (upd H dx (.own x)) x (.ins (He.ga L.K c) dx [])) (ih ++ [.ins c []]) ∧ RV L (ρ ++ [x]) (upd (upd H dx (.own x)) x (.ins (He.ga L.K c) dx [])) (.ref ih.length) (.ref x) ∧ Ext ρ H (ρ ++ [x]) (upd (upd H dx (.own x)) x (.ins (He.ga L.K c) dx [])) := by
  have e1 := ext_new (ρ := ρ) (u := .own x) hdx
  have h1 := h.new (u := .own x) hdx
  have hx1 : (upd H dx (.own x)) x = none := by rw [upd_ne (Ne.symm hne)]; exact hx
  have e2 := ext_lay (u := .ins (He.ga L.K c) dx []) h1 hx1
  refine ⟨h1.lay hx1 ⟨dx, [], upd_same, .nil⟩, .ref ?_, e1.trans e2⟩
  rw [← h.len, List.getElem?_append_right (Nat.le_refl _), Nat.sub_self]; rfl
theorem run_makeC (F : FX C X k) (tk : Takes X W) (hr : Room (k + 1) X.A) {c : Str} {ms : List (Str × FDef)} (hc : C.P.clss.lookup c = some ms) {n : Nat} {pins : List (Addr × Obj)} {σ : L2.St} {Q : VK} {s1 : Shared} {us : List Value} {vs : List V} {H1 : Hp} (I1 : Inv X pins σ H1 s1) (r : Vals vs us)
    {ρ1 : List Addr} {ih1 : IH} {xs : List PV} (h1 : RH (lr X none) ρ1 H1 ih1) (r1 : RVs (lr X none) ρ1 H1 xs vs) (p1 : Post (lr X none) W σ (RV (lr X none)) Q ρ1 H1 (makeP C c n xs ih1)) :
    wpAny (model X.prog X.w) X.A (call (.ref (He.ga X.K c)) us) (EP X pins σ Q) X.xe s1 := by
  obtain ⟨_, _, M⟩ := F.cls c ms hc
  have key : ∀ x dx, H1 x = none → H1 dx = none → dx ≠ x → Post (lr X none) W σ (RV (lr X none)) (fun v H2 => v = .non ∧ Q (.ref x) H2) (ρ1 ++ [x]) (upd (upd H1 dx (.own x)) x (.ins (He.ga X.K c) dx [])) (callP C (.meth c (Str.ofString "__init__")) (n + 1) (.ref ih1.length :: xs) (ih1 ++ [.ins c []])) := fun x dx hx hdx hne => by
    obtain ⟨k1, k2, k3⟩ := lay_ins (L := lr X none) h1 c hx hdx hne
    have p2 := p1.ext k3
    unfold makeP at p2
    revert p2
    cases callP C (.meth c (Str.ofString "__init__")) (n + 1) (.ref ih1.length :: xs) (ih1 ++ [.ins c []]) with
    | fail => exact fun p2 => p2
    | exc c fs ih' => exact fun p2 => p2
    | ok v ih' =>
      intro p2 ρ' H' u ex hh rr
      cases v with
      | non =>
        cases rr
        refine ⟨rfl, p2 ρ' H' (.ref x) ex hh ?_⟩
        exact RV.mono ex k2
      | _ => exact p2.elim
  cases hd : C.P.fdef (.meth c (Str.ofString "__init__")) with
  | none =>
    have z := key s1.heap.objs.size (s1.heap.objs.size + 1) (I1.hok.fresh (Nat.le_refl _)) (I1.hok.fresh (Nat.le_succ _)) (Nat.ne_of_gt (Nat.lt_succ_self _))
    unfold callP at z
    rw [hd] at z
    exact z.elim
  | some fd =>
    obtain ⟨fdat, hF, hb⟩ := F.callee _ fd hd
    have z := key s1.heap.objs.size (s1.heap.objs.size + 1) (I1.hok.fresh (Nat.le_refl _)) (I1.hok.fresh (Nat.le_succ _)) (Nat.ne_of_gt (Nat.lt_succ_self _))
    unfold callP at z
    rw [hd] at z
    dsimp only at z
    cases ef : fillArgs fd (n + 1) with
    | none => rw [ef] at z; exact z.elim
    | some ds0 =>
      have ef0 := ef
      unfold fillArgs at ef0
      split at ef0
      · rename_i hj
        cases ef0
        obtain ⟨ds, dvs, d1, d2, d3⟩ := hb.1 (n + 1 + fd.dfl.length - fd.ps.length) (by omega)
        refine run_makeS (E := WE W) M hF hr d3 d1 (passAt tk σ) I1 r fun x dx hx hdx hne => ?_
        obtain ⟨k1, k2, k3⟩ := lay_ins (L := lr X none) h1 c hx hdx hne
        have p2 := key x dx hx hdx hne
        obtain ⟨fd', fdat', ds', dvs', q1, q2, q3, q4, q5⟩ := call_wish F k1 (.cons k2 (r1.mono k3)) p2
        unfold callP at p2
        rw [hd] at p2
        dsimp only at p2
        rw [ef] at p2
        dsimp only at p2
        split at p2
        · rename_i hn
          refine ⟨?_, _, _, _, k1, (RVs.cons k2 (r1.mono k3)).append (d2 _ _), post_swap p2⟩
          have l1 := r1.length
          have l2 := (d2 ρ1 H1).length
          rw [List.length_drop] at l2
          rw [List.length_cons] at hn
          rw [List.length_cons, List.length_append]
          omega
        · exact p2.elim
      · cases ef0
theorem se_make {x : Str} {f : Expr → EM PV} {es : List Expr} {pp : Pos} (F : FX C X k) (tk : Takes X W) (hr : Room (k + 1) X.A) (hg : Gl X x) {ms : List (Str × FDef)} (hx : C.P.clss.lookup x = some ms) (hf : ∀ e ∈ es, PE X e (tE (lr X none) W (f e))) (hs : es.any isStar = false) (hdb : (x == ("__debug__" : Str)) = false) :
    PE X (.Call (.Name x pp) es [] pos) (tE (lr X none) W (eMake C x es.length (eArgs (es.map f)))) := by
  obtain ⟨hm, _, M⟩ := F.cls x ms hx
  have ha := sa_args f es hf hs
  refine ⟨fun pins s σ H Q I ⟨ρ, env, ih, e1, e2, p⟩ => ?_⟩
  have h := bindAt (rel := RVs (lr X none)) e1 e2 p
  refine wpAny_Call_Name_kw (ld_glob I hg hm ?_ hdb)
  cases es with
  | nil => exact PySem.W.callWith_K0 I.kIn M.kp (run_makeC F tk hr hx I .nil e2 .nil p)
  | cons e es =>
    have hs' : isStar e = false ∧ es.any isStar = false := by simpa using hs
    exact PySem.W.callWith_K (h₀ := X.base) I.ok.mod.kin M.kp (thn (ha.run pos pins s σ H _ I h) fun us s1 ⟨vs, H1, I1, r, ρ1, ih1, xs, ex1, h1, r1, p1⟩ => ⟨I1.kIn, run_makeC F tk hr hx I1 r h1 r1 p1⟩) (star_no hs'.1) (back_plain hs'.2)
end
end Z
end
noncomputable section
namespace Z
open PySem PySem.Spec PyProof.Rows L2
set_option autoImplicit false

abbrev BP := List PV → IH → R PV
def lenP : BP := fun vs ih => match vs with
  | [.str z] => if z.length ≤ LINE then .ok (.int z.length) ih else .fail
  | [.tup xs] => .ok (.int xs.length) ih
  | [.ref n] => match ih[n]? with
    | some (.lst xs) => .ok (.int xs.length) ih
    | some (.flst xs) => .ok (.int xs.length) ih
    | some (.dK xs) => .ok (.int xs.length) ih
    | _ => .fail
  | _ => .fail
def keyPV : Key → PV
  | .inl i => .int i
  | .inr z => .str z
def listP : BP := fun vs ih => match vs with
  | [.tup xs] => .ok (.ref ih.length) (ih ++ [.lst xs])
  | [.ref n] => match ih[n]? with
    | some (.lst xs) => .ok (.ref ih.length) (ih ++ [.lst xs])
    | some (.flst xs) => .ok (.ref ih.length) (ih ++ [.lst xs])
    | some (.dK kvs) => .ok (.ref ih.length) (ih ++ [.lst (kvs.map fun kv => keyPV kv.1)])
    | some (.dN kvs) => .ok (.ref ih.length) (ih ++ [.lst (kvs.map (·.1))])
    | _ => .fail
  | _ => .fail
def tupleP : BP := fun vs ih => match vs with
  | [.tup xs] => .ok (.tup xs) ih
  | [.ref n] => match getL ih n with
    | some xs => .ok (.tup xs) ih
    | none => .fail
  | _ => .fail
def intP : BP := fun vs ih => match vs with
  | [.int i] => .ok (.int i) ih
  | [.bl b] => .ok (.int (if b = true then 1 else 0)) ih
  | [.str z] => match PySem.intText? z with
    | some n => if z.length ≤ 640 then .ok (.int n) ih else .fail
    | none => .fail
  | _ => .fail
def absP : BP := fun vs ih => match vs with
  | [.int i] => .ok (.int (if i < 0 then -i else i)) ih
  | _ => .fail
def strP : BP := fun vs ih => match vs with
  | [.int i] => if i.natAbs.log2 < 1920 then .ok (.str (toString i)) ih else .fail
  | _ => .fail
def dictP : BP := fun vs ih => match vs with
  | [.ref n] => match getD ih n with
    | some kvs => .ok (.ref ih.length) (ih ++ [.dK kvs])
    | none => .fail
  | _ => .fail
def asInt : PV → Option Int
  | .int i => some i
  | _ => none
def asBl : PV → Option Bool
  | .bl b => some b
  | _ => none
def maxI : List Int → Int
  | [] => 0
  | [a] => a
  | a :: r => if a < maxI r then maxI r else a
def minI : List Int → Int
  | [] => 0
  | [a] => a
  | a :: r => if minI r < a then minI r else a
def maxP : BP := fun vs ih => match vs with
  | [.int i, .int j] => .ok (.int (if j > i then j else i)) ih
  | [.ref n] => match getL ih n with
    | some xs => match mapO asInt xs with
      | some ns => if 0 < ns.length then .ok (.int (maxI ns)) ih else .fail
      | none => .fail
    | none => .fail
  | _ => .fail
def minP : BP := fun vs ih => match vs with
  | [.int i, .int j] => .ok (.int (if j < i then j else i)) ih
  | [.ref n] => match getL ih n with
    | some xs => match mapO asInt xs with
      | some ns => if 0 < ns.length then .ok (.int (minI ns)) ih else .fail
      | none => .fail
    | none => .fail
  | _ => .fail
def anyP : BP := fun vs ih => match vs with
  | [.ref n] => match getL ih n with
    | some xs => match mapO asBl xs with
      | some bs => .ok (.bl (bs.any id)) ih
      | none => .fail
    | none => .fail
  | _ => .fail
def allP : BP := fun vs ih => match vs with
  | [.ref n] => match getL ih n with
    | some xs => match mapO asBl xs with
      | some bs => .ok (.bl (bs.all id)) ih
      | none => .fail
    | none => .fail
  | _ => .fail

inductive TyN where
  | b (n : String) | c (x : Str)
def tyOf (ih : IH) : PV → Option TyN
  | .non => some (.b "NoneType")
  | .bl _ => some (.b "bool")
  | .int _ => some (.b "int")
  | .str _ => some (.b "str")
  | .tup _ => some (.b "tuple")
  | .ref n => match ih[n]? with
    | some (.lst _) => some (.b "list")
    | some (.flst _) => some (.b "list")
    | some (.dK _) => some (.b "dict")
    | some (.ins c _) => some (.c c)
    | some (.dN _) => none
    | some (.fdK _ _) => none
    | none => none
  | _ => none
def isaTy (a b : String) : Bool := a == b || (a == "bool" && b == "int")
def askTys : List String := ["int", "str", "bool", "tuple", "list", "dict"]
def hasTys : List String := ["NoneType", "bool", "int", "str", "tuple", "list", "dict"]
def isOne (ok : Str → Bool) (t : TyN) (c : PV) : Option Bool := match t, c with
  | .b a, .ty b => if askTys.contains b = true then some (isaTy a b) else none
  | .b _, .cls c => if ok c = true then some false else none
  | .c x, .ty b => if ok x = true ∧ askTys.contains b = true then some false else none
  | .c x, .cls c => if ok x = true ∧ ok c = true then some (decide (x = c)) else none
  | _, _ => none
def isAll (ok : Str → Bool) (t : TyN) (cs : List PV) : Option Bool := match cs with
  | [] => none
  | _ => (mapO (isOne ok t) cs).map fun bs => bs.any id
def isaP (ok : Str → Bool) : BP := fun vs ih => match vs with
  | [x, .tup cs] => match tyOf ih x with
    | some t => match isAll ok t cs with
      | some b => .ok (.bl b) ih
      | none => .fail
    | none => .fail
  | [x, c] => match tyOf ih x with
    | some t => match isOne ok t c with
      | some b => .ok (.bl b) ih
      | none => .fail
    | none => .fail
  | _ => .fail
structure IsaOk (K : PySem.W.Frag) (ok : Str → Bool) : Prop where
  ins : ∀ c, ok c = true → Cls K (He.ga K c) ∧ PySem.W.findIn K (.ref (He.ga K c)) "__class__" = some (some (.builtin "object.__class__")) ∧ PySem.W.mroIn K (He.ga K c) (.type "object") = some true
  hn : (∃ c, ok c = true) → PySem.W.specialIn K (.builtin "object.__class__") "__get__" = some (some (.builtin "getset_descriptor.__get__")) ∧ PySem.W.takesIn K (.builtin "object.__class__") = some true
  bc : ∀ a c, hasTys.contains a = true → ok c = true → PySem.W.kitOne K (.type a) (.ref (He.ga K c)) = some false
  cb : ∀ x b, ok x = true → askTys.contains b = true → PySem.W.kitOne K (.ref (He.ga K x)) (.type b) = some false
  cc : ∀ x c, ok x = true → ok c = true → PySem.W.kitOne K (.ref (He.ga K x)) (.ref (He.ga K c)) = some (decide (x = c))

def insr {α : Type} (le : α → α → Bool) (a : α) : List α → List α
  | [] => [a]
  | b :: r => if le a b = true then a :: b :: r else b :: insr le a r
def isort {α : Type} (le : α → α → Bool) : List α → List α
  | [] => []
  | a :: r => insr le a (isort le r)
def alikes (ds : List PyData) : Bool := ds.all fun d => ds.all fun e => PySem.W.alike d e
def isTupD : PyData → Bool
  | .tuple (_ :: _) => true
  | _ => false
def isOthD : PyData → Bool
  | .tuple _ => false
  | .none => false
  | _ => true
def sortable (ds : List PyData) : Bool := ds.all isTupD || ds.all isOthD
def sortXs (xs : List PV) (ih : IH) : R PV := match mapO (toD ih DEEP) xs with
  | some ds => if alikes ds = true ∧ sortable ds = true ∧ ds.all (fun d => decide (d.depth ≤ 50)) = true then .ok (.ref ih.length) (ih ++ [.lst ((isort (PySem.W.dataLe false (·.2)) (xs.zip ds)).map (·.1))]) else .fail
  | none => .fail
def sortedP : BP := fun vs ih => match vs with
  | [.ref n] => match getL ih n with
    | some xs => sortXs xs ih
    | none => .fail
  | [.tup xs] => sortXs xs ih
  | _ => .fail

section
variable {X : Cx} {W : WX} {ex : Option (Addr × Str × Option Addr)}
def PCall (L : Rl) (W : WX) (p : BP) (r : List V → Hp → VK → Prop) : Prop := ∀ (σ : L2.St) (Q : VK) (ρ : List Addr) (H : Hp) (ih : IH) (xs : List PV) (us : List V), RH L ρ H ih → RVs L ρ H xs us → Post L W σ (RV L) Q ρ H (p xs ih) → r us H Q
theorem CallR.or {f : Value} {r r' : List V → Hp → VK → Prop} (h : CallR X f r) (h' : CallR X f r') : CallR X f (fun xs H Q => r xs H Q ∨ r' xs H Q) := fun pins s σ H xs us Q I rx q => q.elim (h pins s σ H xs us Q I rx) (h' pins s σ H xs us Q I rx)
theorem rvs1 {L : Rl} {ρ : List Addr} {H : Hp} {x : PV} {us : List V} (r : RVs L ρ H [x] us) : ∃ u, us = [u] ∧ RV L ρ H x u := by
  cases r with
  | cons h t => cases t; exact ⟨_, rfl, h⟩
theorem rvs2 {L : Rl} {ρ : List Addr} {H : Hp} {x y : PV} {us : List V} (r : RVs L ρ H [x, y] us) : ∃ u v, us = [u, v] ∧ RV L ρ H x u ∧ RV L ρ H y v := by
  cases r with
  | cons h t => obtain ⟨v, rfl, q⟩ := rvs1 t; exact ⟨_, _, rfl, h, q⟩
def rLenA (K : PySem.W.Frag) : List V → Hp → VK → Prop := fun xs H Q => (∃ x n, xs = [x] ∧ LenV K x H n ∧ Q (.int n) H) ∨ (∃ a kvs, xs = [V.ref a] ∧ H a = some (.dK kvs) ∧ Q (.int kvs.length) H)
theorem call_lenA : CallR X (.builtin "len") (rLenA X.K) := CallR.or call_len call_lenD
theorem pc_len : PCall (lr X ex) W lenP (rLenA X.K) := by
  intro σ Q ρ H ih xs us h r p
  unfold lenP at p
  split at p
  · obtain ⟨u, rfl, q⟩ := rvs1 r
    cases q
    split at p
    · rename_i hl
      exact .inl ⟨_, _, rfl, ⟨by rw [sizeLine_eq]; exact hl, rfl⟩, p.here h (.int _)⟩
    · exact p.elim
  · obtain ⟨u, rfl, q⟩ := rvs1 r
    obtain ⟨a, vs, rfl, k1, k2⟩ := rv_tup q
    exact .inl ⟨_, _, rfl, .inr ⟨vs, k1, rfl⟩, by rw [← k2.length]; exact p.here h (.int _)⟩
  · obtain ⟨u, rfl, q⟩ := rvs1 r
    obtain ⟨a, rfl, ea⟩ := rv_ref q
    split at p
    · rename_i e
      obtain ⟨vs, k1, k2⟩ := h.ob _ a _ ea e
      exact .inl ⟨_, _, rfl, .inl ⟨vs, SqL.of k1, rfl⟩, by rw [← k2.length]; exact p.here h (.int _)⟩
    · rename_i e
      obtain ⟨o, vs, k1, k2⟩ := h.ob _ a _ ea e
      exact .inl ⟨_, _, rfl, .inl ⟨vs, .inl (.inr ⟨o, k1⟩), rfl⟩, by rw [← k2.length]; exact p.here h (.int _)⟩
    · rename_i e
      obtain ⟨vs, k1, k2⟩ := h.ob _ a _ ea e
      exact .inr ⟨a, vs, rfl, k1, by rw [← rks_len k2]; exact p.here h (.int _)⟩
    · exact p.elim
  · exact p.elim
theorem rks_keys {L : Rl} {ρ : List Addr} {H : Hp} {kvs : List (Key × PV)} {vs : List (Key × V)} (r : RKs L ρ H kvs vs) : RVs L ρ H (kvs.map fun kv => keyPV kv.1) (vs.map fun kv => kV kv.1) := by
  induction r with
  | nil => exact .nil
  | cons h t ih =>
    rename_i f x xs v ws
    refine .cons ?_ ih
    cases f with
    | inl i => exact .int i
    | inr z => exact .str z
def rListA (w : World) (K : PySem.W.Frag) : List V → Hp → VK → Prop := fun xs H Q => ((∃ p ys, xs = [.ref p] ∧ (SqL K H p ys ∨ SqT K H p ys) ∧ ∀ l, H l = none → Q (.ref l) (upd H l (.lst ys))) ∨ (∃ (a : Addr) (kvs : List (Key × V)), xs = [.ref a] ∧ Rd H a (.dK kvs) ∧ ∀ p, H p = none → Q (.ref p) (upd H p (.lst (kvs.map fun kv => kV kv.1))))) ∨ (∃ (a : Addr) (xs2 : List ZN.En), xs = [.ref a] ∧ H a = some (ZN.NestO w a xs2) ∧ ∀ p, H p = none → Q (.ref p) (upd H p (.lst (xs2.map fun x => .ref x.2.1))))
theorem call_listA (hc : X.calm = true) : CallR X (.type "list") (rListA X.w X.K) := CallR.or (CallR.or call_list_of (call_listD hc)) (ZN.call_listN hc)
theorem rns_fst {L : Rl} {ρ : List Addr} {H : Hp} {kvs : List (PV × PV)} {es : List ZN.En} (r : RNs L ρ H kvs es) : RVs L ρ H (kvs.map (·.1)) (es.map fun x => .ref x.2.1) := by
  induction r with
  | nil => exact .nil
  | cons h1 h2 h3 h4 h5 r ih => exact .cons h3 ih
theorem pc_list : PCall (lr X ex) W listP (rListA X.w X.K) := by
  intro σ Q ρ H ih xs us h r p
  unfold listP at p
  split at p
  · obtain ⟨u, rfl, q⟩ := rvs1 r
    obtain ⟨a, vs, rfl, k1, k2⟩ := rv_tup q
    exact .inl (.inl ⟨a, vs, rfl, .inr k1, fun l hl => post_lay h k2 p hl⟩)
  · obtain ⟨u, rfl, q⟩ := rvs1 r
    obtain ⟨a, rfl, ea⟩ := rv_ref q
    split at p
    · rename_i e
      obtain ⟨vs, k1, k2⟩ := h.ob _ a _ ea e
      exact .inl (.inl ⟨a, vs, rfl, .inl (SqL.of k1), fun l hl => post_lay h k2 p hl⟩)
    · rename_i e
      obtain ⟨o, vs, k1, k2⟩ := h.ob _ a _ ea e
      exact .inl (.inl ⟨a, vs, rfl, .inl (.inl (.inr ⟨o, k1⟩)), fun l hl => post_lay h k2 p hl⟩)
    · rename_i e
      obtain ⟨vs, k1, k2⟩ := h.ob _ a _ ea e
      exact .inl (.inr ⟨a, vs, rfl, .inl k1, fun l hl => post_lay h (rks_keys k2) p hl⟩)
    · rename_i e
      obtain ⟨es, k1, k2⟩ := h.ob _ a _ ea e
      exact .inr ⟨a, es, rfl, k1, fun l hl => post_lay h (rns_fst k2) p hl⟩
    · exact p.elim
  · exact p.elim
theorem pc_tuple : PCall (lr X ex) W tupleP (fun xs H Q => (∃ p ys, xs = [.ref p] ∧ ((SqL X.K H p ys ∧ ∀ l, H l = none → Q (.ref l) (upd H l (.tup ys))) ∨ (SqT X.K H p ys ∧ Q (.ref p) H)))) := by
  intro σ Q ρ H ih xs us h r p
  unfold tupleP at p
  split at p
  · obtain ⟨u, rfl, q⟩ := rvs1 r
    obtain ⟨a, vs, rfl, k1, k2⟩ := rv_tup q
    exact ⟨a, vs, rfl, .inr ⟨k1, p.here h (.tup k1 k2)⟩⟩
  · obtain ⟨u, rfl, q⟩ := rvs1 r
    obtain ⟨a, rfl, ea⟩ := rv_ref q
    split at p
    · rename_i e
      obtain ⟨vs, k1, k2⟩ := getL_at h e ea
      exact ⟨a, vs, rfl, .inl ⟨k1, fun l hl => post_tup h k2 p hl⟩⟩
    · exact p.elim
  · exact p.elim
def rIntA : List V → Hp → VK → Prop := fun xs H Q => ((∃ i, xs = [.int i] ∧ Q (.int i) H) ∨ ∃ k, xs = [.bl k] ∧ Q (.int (if k then 1 else 0)) H) ∨ (∃ a n, xs = [.str a] ∧ PySem.intText? a = some n ∧ a.length ≤ 640 ∧ Q (.int n) H)
theorem call_intA : CallR X (.type "int") rIntA := CallR.or call_int1 call_int_str
theorem pc_int : PCall (lr X ex) W intP rIntA := by
  intro σ Q ρ H ih xs us h r p
  unfold intP at p
  split at p
  · obtain ⟨u, rfl, q⟩ := rvs1 r
    cases q
    exact .inl (.inl ⟨_, rfl, p.here h (.int _)⟩)
  · obtain ⟨u, rfl, q⟩ := rvs1 r
    cases q
    exact .inl (.inr ⟨_, rfl, p.here h (.int _)⟩)
  · obtain ⟨u, rfl, q⟩ := rvs1 r
    cases q
    split at p
    · rename_i e
      split at p
      · rename_i hl
        exact .inr ⟨_, _, rfl, e, hl, p.here h (.int _)⟩
      · exact p.elim
    · exact p.elim
  · exact p.elim
theorem pc_abs : PCall (lr X ex) W absP (fun xs H Q => ∃ i, xs = [.int i] ∧ Q (.int (if i < 0 then -i else i)) H) := by
  intro σ Q ρ H ih xs us h r p
  unfold absP at p
  split at p
  · obtain ⟨u, rfl, q⟩ := rvs1 r
    cases q
    exact ⟨_, rfl, p.here h (.int _)⟩
  · exact p.elim
theorem pc_str : PCall (lr X ex) W strP (fun xs H Q => ∃ i, xs = [.int i] ∧ i.natAbs.log2 < 1920 ∧ Q (.str (toString i)) H) := by
  intro σ Q ρ H ih xs us h r p
  unfold strP at p
  split at p
  · obtain ⟨u, rfl, q⟩ := rvs1 r
    cases q
    split at p
    · rename_i hl
      exact ⟨_, rfl, hl, p.here h (.str _)⟩
    · exact p.elim
  · exact p.elim
theorem pc_dict : PCall (lr X ex) W dictP (fun xs H Q => ∃ (a : Addr) (kvs : List (Key × V)), xs = [.ref a] ∧ Rd H a (.dK kvs) ∧ ∀ p, H p = none → Q (.ref p) (upd H p (.dK kvs))) := by
  intro σ Q ρ H ih xs us h r p
  unfold dictP at p
  split at p
  · obtain ⟨u, rfl, q⟩ := rvs1 r
    obtain ⟨a, rfl, ea⟩ := rv_ref q
    split at p
    · rename_i kvs e
      unfold getD at e
      split at e
      · rename_i e'
        cases e
        obtain ⟨vs, k1, k2⟩ := h.ob _ a _ ea e'
        refine ⟨a, vs, rfl, .inl k1, fun l hl => ?_⟩
        obtain ⟨z1, z2, z3⟩ := lay_dK h k2 hl
        exact p _ _ _ z3 z1 z2
      · cases e
    · exact p.elim
  · exact p.elim
theorem asInt_map {L : Rl} {ρ : List Addr} {H : Hp} : ∀ {xs : List PV} {ns : List Int} {vs : List V}, mapO asInt xs = some ns → RVs L ρ H xs vs → vs = ns.map V.int := by
  intro xs
  induction xs with
  | nil => intro ns vs e r; cases r; simp only [mapO] at e; cases e; rfl
  | cons x xs ih =>
    intro ns vs e r
    cases r with
    | cons r t =>
      simp only [mapO] at e
      split at e
      · rename_i i ei
        cases q : mapO asInt xs with
        | none => rw [q] at e; cases e
        | some ms =>
          rw [q] at e; cases e
          cases r <;> simp only [asInt] at ei <;> cases ei
          rw [ih q t]; rfl
      · cases e
theorem asBl_map {L : Rl} {ρ : List Addr} {H : Hp} : ∀ {xs : List PV} {ns : List Bool} {vs : List V}, mapO asBl xs = some ns → RVs L ρ H xs vs → vs = ns.map V.bl := by
  intro xs
  induction xs with
  | nil => intro ns vs e r; cases r; simp only [mapO] at e; cases e; rfl
  | cons x xs ih =>
    intro ns vs e r
    cases r with
    | cons r t =>
      simp only [mapO] at e
      split at e
      · rename_i i ei
        cases q : mapO asBl xs with
        | none => rw [q] at e; cases e
        | some ms =>
          rw [q] at e; cases e
          cases r <;> simp only [asBl] at ei <;> cases ei
          rw [ih q t]; rfl
      · cases e
theorem maxI_of : ∀ {ns : List Int} {m : Int}, m ∈ ns → (∀ y, y ∈ ns → y ≤ m) → maxI ns = m
  | [a], m, h, _ => by simpa [maxI] using (List.mem_singleton.mp h).symm
  | a :: b :: r, m, h, hm => by
    have hmx : ∀ ns : List Int, ns ≠ [] → maxI ns ∈ ns ∧ ∀ y ∈ ns, y ≤ maxI ns := by
      intro ns
      induction ns with
      | nil => intro q; exact absurd rfl q
      | cons a r ih =>
        intro _
        cases r with
        | nil => simp [maxI]
        | cons b r =>
          obtain ⟨h1, h2⟩ := ih (by simp)
          show (if a < maxI (b :: r) then maxI (b :: r) else a) ∈ _ ∧ ∀ y ∈ a :: b :: r, y ≤ (if a < maxI (b :: r) then maxI (b :: r) else a)
          split
          · rename_i hlt
            refine ⟨List.mem_cons_of_mem _ h1, fun y hy => ?_⟩
            rcases List.mem_cons.mp hy with e | hy
            · omega
            · exact h2 y hy
          · rename_i hlt
            refine ⟨List.mem_cons_self, fun y hy => ?_⟩
            rcases List.mem_cons.mp hy with e | hy
            · omega
            · have := h2 y hy; omega
    obtain ⟨h1, h2⟩ := hmx (a :: b :: r) (by simp)
    have a1 := h2 m h
    have a2 := hm _ h1
    omega
theorem minI_of : ∀ {ns : List Int} {m : Int}, m ∈ ns → (∀ y, y ∈ ns → m ≤ y) → minI ns = m
  | [a], m, h, _ => by simpa [minI] using (List.mem_singleton.mp h).symm
  | a :: b :: r, m, h, hm => by
    have hmx : ∀ ns : List Int, ns ≠ [] → minI ns ∈ ns ∧ ∀ y ∈ ns, minI ns ≤ y := by
      intro ns
      induction ns with
      | nil => intro q; exact absurd rfl q
      | cons a r ih =>
        intro _
        cases r with
        | nil => simp [minI]
        | cons b r =>
          obtain ⟨h1, h2⟩ := ih (by simp)
          show (if minI (b :: r) < a then minI (b :: r) else a) ∈ _ ∧ ∀ y ∈ a :: b :: r, (if minI (b :: r) < a then minI (b :: r) else a) ≤ y
          split
          · rename_i hlt
            refine ⟨List.mem_cons_of_mem _ h1, fun y hy => ?_⟩
            rcases List.mem_cons.mp hy with e | hy
            · omega
            · exact h2 y hy
          · rename_i hlt
            refine ⟨List.mem_cons_self, fun y hy => ?_⟩
            rcases List.mem_cons.mp hy with e | hy
            · omega
            · have := h2 y hy; omega
    obtain ⟨h1, h2⟩ := hmx (a :: b :: r) (by simp)
    have a1 := h2 m h
    have a2 := hm _ h1
    omega
def rMaxA (K : PySem.W.Frag) : List V → Hp → VK → Prop := fun xs H Q => (∃ i j, xs = [.int i, .int j] ∧ Q (.int (if j > i then j else i)) H) ∨ rMax K xs H Q
theorem call_maxA (hc : X.calm = true) : CallR X (.builtin "max") (rMaxA X.K) := CallR.or (call_max2 hc) (cr_max hc)
def rMinA (K : PySem.W.Frag) : List V → Hp → VK → Prop := fun xs H Q => (∃ i j, xs = [.int i, .int j] ∧ Q (.int (if j < i then j else i)) H) ∨ rMin K xs H Q
theorem call_minA (hc : X.calm = true) : CallR X (.builtin "min") (rMinA X.K) := CallR.or (call_min2 hc) (cr_min hc)
theorem pc_max : PCall (lr X ex) W maxP (rMaxA X.K) := by
  intro σ Q ρ H ih xs us h r p
  unfold maxP at p
  split at p
  · obtain ⟨u, v, rfl, q1, q2⟩ := rvs2 r
    cases q1; cases q2
    exact .inl ⟨_, _, rfl, p.here h (.int _)⟩
  · obtain ⟨u, rfl, q⟩ := rvs1 r
    obtain ⟨a, rfl, ea⟩ := rv_ref q
    split at p
    · rename_i e
      obtain ⟨vs, k1, k2⟩ := getL_at h e ea
      split at p
      · rename_i ns en
        have ev := asInt_map en k2
        subst ev
        split at p
        · rename_i hl
          exact .inr ⟨a, ns, rfl, k1, hl, fun m hm hy => by rw [← maxI_of hm hy]; exact p.here h (.int _)⟩
        · exact p.elim
      · exact p.elim
    · exact p.elim
  · exact p.elim
theorem pc_min : PCall (lr X ex) W minP (rMinA X.K) := by
  intro σ Q ρ H ih xs us h r p
  unfold minP at p
  split at p
  · obtain ⟨u, v, rfl, q1, q2⟩ := rvs2 r
    cases q1; cases q2
    exact .inl ⟨_, _, rfl, p.here h (.int _)⟩
  · obtain ⟨u, rfl, q⟩ := rvs1 r
    obtain ⟨a, rfl, ea⟩ := rv_ref q
    split at p
    · rename_i e
      obtain ⟨vs, k1, k2⟩ := getL_at h e ea
      split at p
      · rename_i ns en
        have ev := asInt_map en k2
        subst ev
        split at p
        · rename_i hl
          exact .inr ⟨a, ns, rfl, k1, hl, fun m hm hy => by rw [← minI_of hm hy]; exact p.here h (.int _)⟩
        · exact p.elim
      · exact p.elim
    · exact p.elim
  · exact p.elim
theorem pc_any : PCall (lr X ex) W anyP (rAny X.K) := by
  intro σ Q ρ H ih xs us h r p
  unfold anyP at p
  split at p
  · obtain ⟨u, rfl, q⟩ := rvs1 r
    obtain ⟨a, rfl, ea⟩ := rv_ref q
    split at p
    · rename_i e
      obtain ⟨vs, k1, k2⟩ := getL_at h e ea
      split at p
      · rename_i ns en
        have ev := asBl_map en k2
        subst ev
        exact ⟨a, ns, rfl, k1, p.here h (.bl _)⟩
      · exact p.elim
    · exact p.elim
  · exact p.elim
theorem pc_all : PCall (lr X ex) W allP (rAll X.K) := by
  intro σ Q ρ H ih xs us h r p
  unfold allP at p
  split at p
  · obtain ⟨u, rfl, q⟩ := rvs1 r
    obtain ⟨a, rfl, ea⟩ := rv_ref q
    split at p
    · rename_i e
      obtain ⟨vs, k1, k2⟩ := getL_at h e ea
      split at p
      · rename_i ns en
        have ev := asBl_map en k2
        subst ev
        exact ⟨a, ns, rfl, k1, p.here h (.bl _)⟩
      · exact p.elim
    · exact p.elim
  · exact p.elim
end
end Z
end
noncomputable section
namespace PySem.W
open PySem PySem.Calls PyProof PyProof.Rows
section
variable {prog : Program} {w : World} {A : Around} {E : Value → Shared → Prop} {s : Shared}
def zuH (h : Heap) (vs : List Value) : Heap := (h.push (seqObj "list" #[] 0)).update h.objs.size (Obj.mapSeq (· ++ vs.toArray))
theorem zu_collect {l : Addr} {vs : List Value} {Q : List Value → Shared → Prop} (hl : IsTup s.heap l vs.toArray) (hL : vs.length ≤ sizeLine) (h : Q vs { s with heap := zuH s.heap vs }) : wpAny (model prog w) A (collect (.ref l)) Q E s := by
  obtain ⟨o, ho, hc, m, hd⟩ := hl
  have ho2 : (s.heap.push (seqObj "list" #[] 0)).get? l = some o := Heap.get?_push_of_some _ ho
  have hn : (s.heap.push (seqObj "list" #[] 0)).get? s.heap.objs.size = some (seqObj "list" #[] 0) := Heap.get?_push_size _ rfl
  have hs2 : ((#[] : Array Value) ++ vs.toArray).size ≤ sizeLine + 1 := by
    rw [Array.size_append, List.size_toArray]; simp; omega
  have he : ((#[] : Array Value) ++ vs.toArray).toList = vs := by simp
  unfold collect
  refine wpAny_bind (wpAny_runValue (codeAny_builtin entry_proto_collect' ?_))
  show wpAny _ _ (newList [] >>= fun x => again (.builtin "list.__iadd__" ⟨[x, .ref l], []⟩)) _ _ s
  refine wpAny_bind (wpAny_newList ?_)
  refine wpAny_pure ⟨Code.quiet_builtin _ (by decide +kernel), codeAny_builtin entry_list_iadd' ?_⟩
  show wpAny _ _ (Builtin.List.listExtendWith (.ref s.heap.objs.size) (.ref l) (.ref s.heap.objs.size)) _ _ { s with heap := s.heap.push (seqObj "list" #[] 0) }
  unfold Builtin.List.listExtendWith
  refine wpAny_bind (wpAny_typeOf (T := "tuple") ⟨o, ho2, hc⟩ ?_)
  have ht : (Value.type "tuple" == Value.type "tuple") = true := by rfl
  rw [if_pos (by rw [ht]; simp)]
  refine wpAny_bind (listItems_at ho2 hd ?_)
  refine wpAny_bind (listItems_at hn rfl ?_)
  rw [if_neg (by simp)]
  refine wpAny_bind (listUpdate_at hn rfl ?_ (Nat.zero_le _) hs2)
  refine wpAny_pure ?_
  refine wpAny_bind (wpAny_load (get?_update_seq hn _) ?_)
  show wpAny _ _ (pure ((#[] : Array Value) ++ vs.toArray).toList) Q E _
  rw [he]
  exact wpAny_pure h
theorem zu_sorted {l : Addr} {vs : List Value} {Q : Value → Shared → Prop} (hl : IsTup s.heap l vs.toArray) (hL : vs.length ≤ sizeLine)
    (go : wpAny (model prog w) A.in1 (call (.builtin "list.sort") [.ref (s.heap.objs.size + 1)]) (fun _ s' => Q (.ref (s.heap.objs.size + 1)) s') E { s with heap := copyHeap s.heap vs }) :
    wpAny (model prog w) A (call (.builtin "sorted") [.ref l]) Q E s := by
  refine call_function_entry kind_sorted plain_sorted entry_sorted (args_sorted1 _) ?_
  unfold Builtin.«sorted»
  refine wpAny_bind (m := checkCount "sorted" 1 1 _) (wpAny_pure ?_)
  refine wpAny_bind (zu_collect hl hL ?_)
  refine wpAny_bind (wpAny_newList ?_ (by simpa using hL))
  have hz : (zuH s.heap vs).objs.size = s.heap.objs.size + 1 := by
    unfold zuH; rw [Heap.size_update, size_push']
  show wpAny _ _ _ _ _ { s with heap := copyHeap s.heap vs }
  rw [hz]
  refine wpAny_bind (wpAny_holding (wpAny_mono go (fun _ s' x => ?_) fun _ _ e => e))
  exact wpAny_pure ⟨_, rfl, x⟩
theorem zu_sorted_data {β : Type} {bs : List β} {enc : β → PyData} {R : Value → β → Prop} {l : Addr} {vs : List Value} {Q : Value → Shared → Prop} (hl : IsTup s.heap l vs.toArray) (e : EachIs R vs bs) (er : EachIs (fun v b => ∃ as, Reads s.heap v (enc b) as) vs bs) (hal : AllAlike (bs.map enc)) (hk : Sortable (bs.map enc)) (hL : bs.length ≤ sizeLine)
    (hu : ∀ b, b ∈ bs → A.units + 2 + (enc b).depth < cLine) (h : ∀ out, out.length = bs.length → EachIs R out (bs.mergeSort (dataLe false enc)) → Q (.ref (s.heap.objs.size + 1)) { s with heap := sortedAll s.heap vs (List.toArray out) }) :
    wpAny (model prog w) A (call (.builtin "sorted") [.ref l]) Q E s := by
  have hv : vs.length ≤ sizeLine := by rw [e.length]; exact hL
  have er2 : EachIs (fun v b => ∃ as, Reads (sortingHeap (copyHeap s.heap vs) (s.heap.objs.size + 1) vs) v (enc b) as) vs bs := er.mono fun _ _ x => x.elim fun as r => ⟨as, PyProof.Rows.Reads.keeps (fun _ _ => sorting_copy_old) r⟩
  refine zu_sorted hl hv ?_
  have S := SortsAt.data (prog := prog) (w := w) (A := A.in1.in1) (s := { s with heap := sortingHeap (copyHeap s.heap vs) (s.heap.objs.size + 1) vs }) (each_map (R := fun v d => ∃ as, Reads (sortingHeap (copyHeap s.heap vs) (s.heap.objs.size + 1) vs) v d as) enc er2) hal hk (bound_map hu)
  refine wpAny_call_entry slot_list_sort ⟨_, copyHeap_at s.heap vs, rfl⟩ entry_list_sort (list_sort_vals (s := { s with heap := copyHeap s.heap vs }) (copyHeap_at s.heap vs) S hv ⟨.none, rfl, ?_⟩) (args_list_sort _)
  exact h _ (by rw [sortVals_length false rfl]; exact e.length) (sortVals_data false e er2 hal)
end
end PySem.W
end
noncomputable section
namespace Z
open PySem PySem.Spec PyProof.Rows L2
set_option autoImplicit false
section
variable {X : Cx} {W : WX}
def tyV' (K : PySem.W.Frag) : TyN → Value
  | .b n => .type n
  | .c x => .ref (He.ga K x)
theorem tyOf_ty {ok : Str → Bool} (F : IsaOk X.K ok) {ρ : List Addr} {H : Hp} {ih : IH} {x : PV} {u : V} {t : TyN} (h : RH (lr X none) ρ H ih) (r : RV (lr X none) ρ H x u) (e : tyOf ih x = some t) (hok : ∀ c, t = .c c → ok c = true) : TyX X.K H u (tyV' X.K t) := by
  cases r with
  | non => cases e; exact .base .non
  | bl b => cases e; exact .base (.bl b)
  | int b => cases e; exact .base (.int b)
  | str b => cases e; exact .base (.str b)
  | tup h1 h2 =>
    cases e
    rcases h1 with (h1 | ⟨o, h1⟩) | ⟨o, its, n, k1, k2, _⟩
    · exact .base (.tup h1)
    · exact .fTuple h1
    · exact .kTuple k1 k2
  | ref ea =>
    simp only [tyOf] at e
    split at e
    · rename_i q
      cases e
      obtain ⟨vs, k1, k2⟩ := h.ob _ _ _ ea q
      exact .base (.lst k1)
    · rename_i q
      cases e
      obtain ⟨o, vs, k1, k2⟩ := h.ob _ _ _ ea q
      exact .base (.frz k1)
    · rename_i q
      cases e
      obtain ⟨vs, k1, k2⟩ := h.ob _ _ _ ea q
      exact .base (.dK k1)
    · rename_i c fs q
      cases e
      obtain ⟨dx, fs', k1, k2⟩ := h.ob _ _ _ ea q
      have hc := hok c rfl
      obtain ⟨c1, c2, c3⟩ := F.ins c hc
      obtain ⟨c4, c5⟩ := F.hn ⟨c, hc⟩
      exact .base (.ins k1 c1 c2 c4 c5 c3)
    · cases e
    · cases e
    · cases e
  | exc0 k => cases e
  | exc k1 k2 k3 => cases e
  | ty n => cases e
  | cls c => cases e
theorem hasTys_of {ih : IH} {x : PV} {n : String} (e : tyOf ih x = some (.b n)) : hasTys.contains n = true := by
  cases x <;> simp only [tyOf] at e
  case ref k => split at e <;> cases e <;> decide
  all_goals (first | (cases e; decide) | cases e)
theorem isaTy_ok : ∀ a ∈ hasTys, ∀ b ∈ askTys, kitB a b = some (isaTy a b) := by decide +kernel
theorem isOne_ok {ok : Str → Bool} (F : IsaOk X.K ok) {ρ : List Addr} {H : Hp} {ih : IH} {x c : PV} {t : TyN} {b : Bool} (e : tyOf ih x = some t) (o : isOne ok t c = some b) {v : V} (r : RV (lr X none) ρ H c v) : (∃ u, ClsV v u ∧ PySem.W.kitOne X.K (tyV' X.K t) u = some b) ∧ ∀ c', t = .c c' → ok c' = true := by
  cases t with
  | b a =>
    have ha := hasTys_of e
    cases c <;> simp only [isOne] at o
    case ty n =>
      split at o
      · rename_i hb
        cases o
        cases r
        exact ⟨⟨_, .ty n, kit_ty (isaTy_ok a (by simpa using ha) n (by simpa using hb))⟩, fun _ z => nomatch z⟩
      · cases o
    case cls n =>
      split at o
      · rename_i hb
        cases o
        cases r
        exact ⟨⟨_, .own _, F.bc a n ha hb⟩, fun _ z => nomatch z⟩
      · cases o
    all_goals cases o
  | c a =>
    cases c <;> simp only [isOne] at o
    case ty n =>
      split at o
      · rename_i hb
        cases o
        cases r
        exact ⟨⟨_, .ty n, F.cb a n hb.1 hb.2⟩, fun _ z => by cases z; exact hb.1⟩
      · cases o
    case cls n =>
      split at o
      · rename_i hb
        cases o
        cases r
        exact ⟨⟨_, .own _, F.cc a n hb.1 hb.2⟩, fun _ z => by cases z; exact hb.1⟩
      · cases o
    all_goals cases o
theorem isAll_ok {ok : Str → Bool} (F : IsaOk X.K ok) {ρ : List Addr} {H : Hp} {ih : IH} {x : PV} {t : TyN} (e : tyOf ih x = some t) : ∀ {cs : List PV} {vs : List V} {bs : List Bool}, RVs (lr X none) ρ H cs vs → mapO (isOne ok t) cs = some bs →
    ∃ us, Paired ClsV vs us ∧ PySem.W.kitAny X.K (tyV' X.K t) us = some (bs.any id) := by
  intro cs
  induction cs with
  | nil => intro vs bs r o; cases r; simp only [mapO] at o; cases o; exact ⟨[], .nil, rfl⟩
  | cons c cs ih =>
    intro vs bs r o
    cases r with
    | cons r t' =>
      simp only [mapO] at o
      split at o
      · rename_i b eb
        cases q : mapO (isOne ok t) cs with
        | none => rw [q] at o; cases o
        | some bs' =>
          rw [q] at o; cases o
          obtain ⟨⟨u, k1, k2⟩, _⟩ := isOne_ok F e eb r
          obtain ⟨us, k3, k4⟩ := ih t' q
          refine ⟨u :: us, .cons k1 k3, ?_⟩
          show PySem.W.kitAny X.K (tyV' X.K t) (u :: us) = some (id b || bs'.any id)
          unfold PySem.W.kitAny
          rw [k2]
          cases b with
          | true => rfl
          | false => exact k4
      · cases o
def rIsiA (K : PySem.W.Frag) : List V → Hp → VK → Prop := fun xs H Q => ∃ (x : V) (tp : Addr) (cs : List V) (t : Value) (us : List Value) (b : Bool), xs = [x, .ref tp] ∧ SqT K H tp cs ∧ Paired ClsV cs us ∧ TyX K H x t ∧ PySem.W.kitAny K t us = some b ∧ Q (.bl b) H
theorem call_isiA : CallR X (.builtin "isinstance") (rIsiA X.K) := by
  intro pins s σ H xs us Q I r h
  obtain ⟨x, tp, cs, t, ws, b, rfl, hT, k, ty, e, q⟩ := h
  obtain ⟨u1, u2, rfl, r1, r2⟩ := vals2 r
  cases (show u2 = Value.ref tp from r2)
  obtain ⟨P, Z, p, hx⟩ := kit_of I r1 ty
  obtain ⟨its, rv, ⟨o, h1, h2, n, h3⟩, _⟩ := I.tuple hT
  have e3 := ClsV.all k rv
  subst e3
  obtain ⟨oc, od, dt, sl⟩ := o
  simp only at h2 h3
  subst h2 h3
  exact PySem.W.kia_tup Z I.kIn p h1 e hx fun tk => ⟨.bl b, H, I.tok tk, rfl, q⟩
def rIsaA (K : PySem.W.Frag) : List V → Hp → VK → Prop := fun xs H Q => rIsiA K xs H Q ∨ rIsi K xs H Q
theorem call_isa : CallR X (.builtin "isinstance") (rIsaA X.K) := CallR.or call_isiA call_isi
theorem isOne_c {ok : Str → Bool} {t : TyN} {cs : List PV} {bs : List Bool} (o : mapO (isOne ok t) cs = some bs) (hne : cs ≠ []) : ∀ c', t = .c c' → ok c' = true := by
  intro c' et
  subst et
  cases cs with
  | nil => exact absurd rfl hne
  | cons c cs =>
    simp only [mapO] at o
    split at o
    · rename_i b eb
      cases c <;> simp only [isOne] at eb
      case ty n => split at eb; rename_i h; exact h.1; cases eb
      case cls n => split at eb; rename_i h; exact h.1; cases eb
      all_goals cases eb
    · cases o
theorem pc_isa {ok : Str → Bool} (F : IsaOk X.K ok) : PCall (lr X none) W (isaP ok) (rIsaA X.K) := by
  intro σ Q ρ H ih xs us h r p
  unfold isaP at p
  split at p
  · rename_i x cs
    obtain ⟨u, v, rfl, q1, q2⟩ := rvs2 r
    obtain ⟨a, vs, rfl, k1, k2⟩ := rv_tup q2
    split at p
    · rename_i t et
      split at p
      · rename_i b eb
        have hcs : cs ≠ [] := fun z => by subst z; cases eb
        have eb : (mapO (isOne ok t) cs).map (fun bs => bs.any id) = some b := by
          cases cs with
          | nil => exact absurd rfl hcs
          | cons c cs => exact eb
        cases q : mapO (isOne ok t) cs with
        | none => rw [q] at eb; cases eb
        | some bs =>
          rw [q] at eb; cases eb
          obtain ⟨ws, w1, w2⟩ := isAll_ok F et k2 q
          exact .inl ⟨u, a, vs, _, ws, _, rfl, k1, w1, tyOf_ty F h q1 et (isOne_c q hcs), w2, p.here h (.bl _)⟩
      · exact p.elim
    · exact p.elim
  · rename_i x c hnt
    obtain ⟨u, v, rfl, q1, q2⟩ := rvs2 r
    split at p
    · rename_i t et
      split at p
      · rename_i b eb
        obtain ⟨⟨w, w1, w2⟩, w3⟩ := isOne_ok F et eb q2
        exact .inr ⟨u, v, _, w, b, rfl, w1, tyOf_ty F h q1 et w3, w2, p.here h (.bl _)⟩
      · exact p.elim
    · exact p.elim
  · exact p.elim

section
variable {α : Type} {le : α → α → Bool}
theorem insr_perm (a : α) : ∀ l : List α, (insr le a l).Perm (a :: l)
  | [] => .refl _
  | b :: r => by
    unfold insr
    split
    · exact .refl _
    · exact ((insr_perm a r).cons b).trans (.swap a b r)
theorem insr_sorted (h : PySem.W.TotalLe le) (a : α) : ∀ {l : List α}, l.Pairwise (fun a b => le a b = true) → (insr le a l).Pairwise (fun a b => le a b = true)
  | [], _ => by unfold insr; simp
  | b :: r, p => by
    unfold insr
    obtain ⟨p1, p2⟩ := List.pairwise_cons.mp p
    split
    · rename_i hle
      refine List.pairwise_cons.mpr ⟨fun c hc => ?_, p⟩
      rcases List.mem_cons.mp hc with e | hc
      · rw [e]; exact hle
      · exact h.trans _ _ _ hle (p1 c hc)
    · rename_i hle
      refine List.pairwise_cons.mpr ⟨fun c hc => ?_, insr_sorted h a p2⟩
      rcases List.mem_cons.mp ((insr_perm a r).mem_iff.mp hc) with e | hc
      · rw [e]
        rcases h.total a b with z | z
        · exact absurd z hle
        · exact z
      · exact p1 c hc
theorem isort_sorted (h : PySem.W.TotalLe le) : ∀ l : List α, (isort le l).Pairwise (fun a b => le a b = true)
  | [] => .nil
  | a :: r => insr_sorted h a (isort_sorted h r)
theorem insr_filter (h : PySem.W.TotalLe le) (a : α) (c : α) : ∀ {l : List α}, l.Pairwise (fun a b => le a b = true) → (insr le a l).filter (PySem.W.sameRank le c) = (a :: l).filter (PySem.W.sameRank le c)
  | [], _ => rfl
  | b :: r, p => by
    unfold insr
    split
    · rfl
    · rename_i hle
      have p2 := (List.pairwise_cons.mp p).2
      rw [List.filter_cons, insr_filter h a c p2, List.filter_cons, List.filter_cons]
      by_cases ha : PySem.W.sameRank le c a = true
      · have hb : ¬ PySem.W.sameRank le c b = true := fun hb => hle ?_
        · rw [if_pos ha, if_neg hb]
          simp only [List.filter_cons, if_pos ha, if_neg hb]
        · -- both of c's rank: le a b
          unfold PySem.W.sameRank at ha hb
          simp only [Bool.and_eq_true] at ha hb
          exact h.trans _ _ _ ha.2 hb.1
      · by_cases hb : PySem.W.sameRank le c b = true
        · simp only [List.filter_cons, if_neg ha, if_pos hb]
        · simp only [List.filter_cons, if_neg ha, if_neg hb]
theorem isort_filter (h : PySem.W.TotalLe le) (c : α) : ∀ l : List α, (isort le l).filter (PySem.W.sameRank le c) = l.filter (PySem.W.sameRank le c)
  | [] => rfl
  | a :: r => by
    show (insr le a (isort le r)).filter _ = _
    rw [insr_filter h a c (isort_sorted h r), List.filter_cons, List.filter_cons, isort_filter h c r]
theorem isort_eq (h : PySem.W.TotalLe le) (l : List α) : isort le l = l.mergeSort le := PySem.W.sort_unique h (isort_sorted h l) fun c => isort_filter h c l
end
def rSortZ (X : Cx) : List V → Hp → VK → Prop := fun vs H Q => ∃ (a : Addr) (us : List V) (bs : List (V × PyData)), vs = [V.ref a] ∧ (SqL X.K H a us ∨ SqT X.K H a us) ∧ us = bs.map (·.1) ∧ (∀ b ∈ bs, Dp X.K H b.1 b.2) ∧ PySem.W.AllAlike (bs.map (·.2)) ∧ PySem.W.Sortable (bs.map (·.2)) ∧ (∀ b ∈ bs, b.2.depth ≤ 50) ∧
  ∀ p, H p = none → Q (.ref p) (upd H p (.lst ((bs.mergeSort (PySem.W.dataLe false (·.2))).map (·.1))))
theorem each_of {R : Value → V × PyData → Prop} : ∀ {bs : List (V × PyData)} {its : List Value}, Vals (bs.map (·.1)) its → (∀ b ∈ bs, ∀ u, L2.RelV b.1 u → R u b) → PySem.W.EachIs R its bs := by
  intro bs
  induction bs with
  | nil => intro its r _; cases r; exact .nil
  | cons b bs ih =>
    intro its r h
    cases r with
    | cons r t => exact .cons (h b List.mem_cons_self _ r) (ih t fun b hb => h b (List.mem_cons_of_mem _ hb))
theorem vals_of_each : ∀ {bs : List (V × PyData)} {its : List Value}, PySem.W.EachIs (fun u (b : V × PyData) => L2.RelV b.1 u) its bs → Vals (bs.map (·.1)) its
  | _, _, .nil => .nil
  | _, _, .cons r t => .cons r (vals_of_each t)
theorem cr_sortZ (hu : X.A.units + 100 < cLine) : CallR X (.builtin "sorted") (rSortZ X) := by
  intro pins s σ H vs us Q I r h
  obtain ⟨a, xs, bs, rfl, hs, rfl, hd, h1, h2, h3, q⟩ := h
  rw [Vals.ref1 r]
  have done : ∀ its : List Value, Vals (bs.map (·.1)) its → bs.length ≤ sizeLine → ∀ out : List Value, out.length = bs.length → PySem.W.EachIs (fun u (b : V × PyData) => L2.RelV b.1 u) out (bs.mergeSort (PySem.W.dataLe false (·.2))) → EP X pins σ Q (.ref (s.heap.objs.size + 1)) { s with heap := PyProof.Rows.sortedAll s.heap its out.toArray } := fun its rv hz out ho he => by
    obtain ⟨ep, he'⟩ := PyProof.Rows.sortedAll_at s.heap its out.toArray
    have rv2 := vals_of_each he
    have hlen : ((bs.mergeSort (PySem.W.dataLe false (·.2))).map (·.1)).length ≤ sizeLine := by
      rw [List.length_map, List.length_mergeSort]; exact hz
    exact ⟨.ref _, upd H (s.heap.objs.size + 1) (.lst ((bs.mergeSort (PySem.W.dataLe false (·.2))).map (·.1))), I.laid (t' := s.toks) (fun _ _ => PyProof.Rows.sortedAll_old) (Nat.le_succ _) ⟨hlen, out, ep, rv2, he'⟩, rfl, q _ (I.hok.fresh (Nat.le_succ _))⟩
  rcases hs with hs | hs
  · obtain ⟨its, rv, hl, hz⟩ := I.list hs
    rw [List.length_map] at hz
    exact PySem.W.sorted_data (R := fun u (b : V × PyData) => L2.RelV b.1 u) (enc := (·.2)) (bs := bs) hl.isList (each_of rv fun b _ u ru => ru) (each_of rv fun b hb u ru => Dp.reads I b.2 b.1 u (hd b hb) ru) h1 h2 hz (fun b hb => by have := h3 b hb; omega) fun out ho he => done its rv hz out ho he
  · obtain ⟨its, rv, hl, hz⟩ := I.tuple hs
    rw [List.length_map] at hz
    exact PySem.W.zu_sorted_data (R := fun u (b : V × PyData) => L2.RelV b.1 u) (enc := (·.2)) (bs := bs) hl (each_of rv fun b _ u ru => ru) (each_of rv fun b hb u ru => Dp.reads I b.2 b.1 u (hd b hb) ru) h1 h2 hz (fun b hb => by have := h3 b hb; omega) fun out ho he => done its rv hz out ho he
theorem zip_vals {L : Rl} {ρ : List Addr} {H : Hp} : ∀ {xs : List PV} {vs : List V} {f : PV → Option PyData} {ds : List PyData}, RVs L ρ H xs vs → mapO f xs = some ds → xs.length = ds.length ∧ vs = (vs.zip ds).map (·.1) ∧ ds = (vs.zip ds).map (·.2) ∧ ds = (xs.zip ds).map (·.2)
  | [], _, f, ds, .nil, e => by simp only [mapO] at e; cases e; exact ⟨rfl, rfl, rfl, rfl⟩
  | x :: xs, _, f, ds, .cons r t, e => by
    simp only [mapO] at e
    split at e
    · rename_i d ed
      cases q : mapO f xs with
      | none => rw [q] at e; cases e
      | some ds' =>
        rw [q] at e; cases e
        obtain ⟨h1, h2, h3, h4⟩ := zip_vals t q
        refine ⟨congrArg Nat.succ h1, ?_, ?_, ?_⟩
        · rw [List.zip_cons_cons, List.map_cons, ← h2]
        · rw [List.zip_cons_cons, List.map_cons, ← h3]
        · rw [List.zip_cons_cons, List.map_cons, ← h4]
    · cases e
theorem dpAll_zip {K : PySem.W.Frag} {H : Hp} : ∀ {vs : List V} {ds : List PyData}, DpAll K H vs ds → ∀ b ∈ vs.zip ds, Dp K H b.1 b.2
  | _, _, .nil, b, hb => by cases hb
  | _, _, .cons (v := v) (vs := vs) (d := d) (ds := ds) g t, b, hb => by
    rw [List.zip_cons_cons] at hb
    rcases List.mem_cons.mp hb with e | hb
    · rw [e]; exact g
    · exact dpAll_zip t b hb
theorem triples {L : Rl} {ρ : List Addr} {H : Hp} : ∀ {xs : List PV} {vs : List V} {ds : List PyData}, RVs L ρ H xs vs → xs.length = ds.length →
    ∃ ts : List (PV × V × PyData), xs.zip ds = ts.map (fun x => (x.1, x.2.2)) ∧ vs.zip ds = ts.map (fun x => x.2) ∧ ∀ x ∈ ts, RV L ρ H x.1 x.2.1
  | [], _, _, .nil, _ => ⟨[], rfl, rfl, fun _ h => by cases h⟩
  | x :: xs, _, [], .cons _ _, h => by cases h
  | x :: xs, _, d :: ds, .cons (v := v) (vs := vs) r t, h => by
    obtain ⟨ts, h1, h2, h3⟩ := triples t (Nat.succ.inj h)
    refine ⟨(x, v, d) :: ts, ?_, ?_, fun y hy => ?_⟩
    · rw [List.zip_cons_cons, h1]; rfl
    · rw [List.zip_cons_cons, h2]; rfl
    · rcases List.mem_cons.mp hy with e | hy
      · rw [e]; exact r
      · exact h3 y hy
theorem rvs_map {L : Rl} {ρ : List Addr} {H : Hp} {α : Type} {f : α → PV} {g : α → V} : ∀ {ts : List α}, (∀ x ∈ ts, RV L ρ H (f x) (g x)) → RVs L ρ H (ts.map f) (ts.map g)
  | [], _ => .nil
  | t :: ts, h => .cons (h t List.mem_cons_self) (rvs_map fun x hx => h x (List.mem_cons_of_mem _ hx))
theorem sort_post {σ : L2.St} {Q : VK} {ρ : List Addr} {H : Hp} {ih : IH} {ys : List PV} {a : Addr} {vs : List V} (h : RH (lr X none) ρ H ih) (k1 : SqL X.K H a vs ∨ SqT X.K H a vs) (k2 : RVs (lr X none) ρ H ys vs) (p : Post (lr X none) W σ (RV (lr X none)) Q ρ H (sortXs ys ih)) : rSortZ X [V.ref a] H Q := by
  unfold sortXs at p
  split at p
  · rename_i ds ed
    split at p
    · rename_i hc
      obtain ⟨c1, c2, c3⟩ := hc
      obtain ⟨z1, z2, z3, z4⟩ := zip_vals k2 ed
      have hdp : ∀ b ∈ vs.zip ds, Dp X.K H b.1 b.2 := dpAll_zip (mapO_dp (fun x u d => toD_dp h DEEP x u d) k2 ed)
      have mem2 : ∀ b ∈ vs.zip ds, b.2 ∈ ds := fun b hb => by rw [z3]; exact List.mem_map.mpr ⟨b, hb, rfl⟩
      refine ⟨a, vs, vs.zip ds, rfl, k1, z2, hdp, ?_, ?_, fun b hb => ?_, fun l hl => ?_⟩
      · rw [← z3]
        intro d hd d' hd'
        have := (List.all_eq_true.mp c1) d hd
        exact (List.all_eq_true.mp this) d' hd'
      · rw [← z3]
        unfold sortable at c2
        rcases Bool.or_eq_true_iff.mp c2 with c2 | c2
        · refine .inl fun d hd => ?_
          have := (List.all_eq_true.mp c2) d hd
          unfold isTupD at this
          split at this
          · exact ⟨_, _, rfl⟩
          · cases this
        · refine .inr fun d hd => ?_
          have := (List.all_eq_true.mp c2) d hd
          unfold isOthD at this
          split at this
          · cases this
          · cases this
          · rename_i n1 n2
            exact ⟨n2, n1⟩
      · have := (List.all_eq_true.mp c3) b.2 (mem2 b hb)
        exact of_decide_eq_true this
      · -- the sorted values go with the sorted own values
        have tot : PySem.W.TotalLe (PySem.W.dataLe false fun (x : PV × PyData) => x.2) := PySem.W.sortLe_total _ false _
        rw [isort_eq tot] at p
        obtain ⟨ts, t1, t2, t3⟩ := triples k2 z1
        have s1 : ((ts.mergeSort (PySem.W.dataLe false fun (x : PV × V × PyData) => x.2.2)).map fun x => (x.1, x.2.2)) = (ys.zip ds).mergeSort (PySem.W.dataLe false fun (x : PV × PyData) => x.2) := by
          rw [t1]; exact PySem.W.sort_maps _ fun _ _ _ _ => rfl
        have s2 : ((ts.mergeSort (PySem.W.dataLe false fun (x : PV × V × PyData) => x.2.2)).map fun x => x.2) = (vs.zip ds).mergeSort (PySem.W.dataLe false fun (x : V × PyData) => x.2) := by
          rw [t2]; exact PySem.W.sort_maps _ fun _ _ _ _ => rfl
        rw [← s2]
        rw [← s1] at p
        have rr : RVs (lr X none) ρ H (((ts.mergeSort (PySem.W.dataLe false fun (x : PV × V × PyData) => x.2.2)).map fun x => (x.1, x.2.2)).map (·.1)) (((ts.mergeSort (PySem.W.dataLe false fun (x : PV × V × PyData) => x.2.2)).map fun x => x.2).map (·.1)) := by
          rw [List.map_map, List.map_map]
          refine rvs_map fun x hx => t3 x ?_
          exact (List.mergeSort_perm ts _).mem_iff.mp hx
        exact post_lay h rr p hl
    · exact p.elim
  · exact p.elim
theorem pc_sorted : PCall (lr X none) W sortedP (rSortZ X) := by
  intro σ Q ρ H ih xs us h r p
  unfold sortedP at p
  split at p
  · obtain ⟨u, rfl, q⟩ := rvs1 r
    obtain ⟨a, rfl, ea⟩ := rv_ref q
    split at p
    · rename_i ys e
      obtain ⟨vs, k1, k2⟩ := getL_at h e ea
      exact sort_post h (.inl k1) k2 p
    · exact p.elim
  · obtain ⟨u, rfl, q⟩ := rvs1 r
    obtain ⟨a, vs, rfl, k1, k2⟩ := rv_tup q
    exact sort_post h (.inr k1) k2 p
  · exact p.elim
end
end Z
end
noncomputable section
namespace Z
open PySem PySem.Spec PyProof.Rows L2
set_option autoImplicit false

abbrev MP := PV → BP
def appendM : MP := fun x vs ih => match x, vs with
  | .ref n, [y] => match getM ih n with
    | some xs => if xs.length < LINE then .ok .non (ih.set n (.lst (xs ++ [y]))) else .fail
    | none => .fail
  | _, _ => .fail
def extendM : MP := fun x vs ih => match x, vs with
  | .ref n, [.ref m] => match getM ih n, getM ih m with
    | some xs, some ys => if xs.length + ys.length ≤ LINE then .ok .non (ih.set n (.lst (xs ++ ys))) else .fail
    | _, _ => .fail
  | _, _ => .fail
def popM : MP := fun x vs ih => match x, vs with
  | .ref n, [] => match getM ih n with
    | some xs => match xs[xs.length - 1]? with
      | some y => .ok y (ih.set n (.lst xs.dropLast))
      | none => .fail
    | none => .fail
  | _, _ => .fail
def splitM : MP := fun x vs ih => match x, vs with
  | .str a, [.str b] => if (b.length == 0) = false ∧ a.length + 2 ≤ LINE then .ok (.ref ih.length) (ih ++ [.lst ((Txt.split a b).map PV.str)]) else .fail
  | _, _ => .fail
def asStr : PV → Option Str
  | .str i => some i
  | _ => none
def joinM : MP := fun x vs ih => match x, vs with
  | .str a, [y] => match items? ih y with
    | some xs => match mapO asStr xs with
      | some ys => if (ys.map (·.length)).sum + ys.length * a.length ≤ 16777216 then .ok (.str (Txt.join a ys)) ih else .fail
      | none => .fail
    | none => .fail
  | _, _ => .fail
def getDM : MP := fun x vs ih => match x, vs with
  | .ref n, [y] => match getDR ih n, keyOf y with
    | some kvs, some k => .ok ((lookK kvs k).getD .non) ih
    | _, _ => .fail
  | .ref n, [y, d] => match getDR ih n, keyOf y with
    | some kvs, some k => .ok ((lookK kvs k).getD d) ih
    | _, _ => .fail
  | _, _ => .fail
def clearM : MP := fun x vs ih => match x, vs with
  | .ref n, [] => match getD ih n with
    | some kvs => .ok .non (ih.set n (.dK []))
    | none => .fail
  | _, _ => .fail
inductive BT where
  | str | list | dict
def BT.nm : BT → String
  | .str => "str"
  | .list => "list"
  | .dict => "dict"
def bmOf : BT → Str → Option MP
  | .str, m => if m = Str.ofString "split" then some splitM else if m = Str.ofString "join" then some joinM else none
  | .list, m => if m = Str.ofString "append" then some appendM else if m = Str.ofString "extend" then some extendM else if m = Str.ofString "pop" then some popM else none
  | .dict, m => if m = Str.ofString "get" then some getDM else if m = Str.ofString "clear" then some clearM else none

section
variable {X : Cx} {W : WX} {ex : Option (Addr × Str × Option Addr)}
def PM (L : Rl) (W : WX) (p : MP) (r : V → List V → Hp → VK → Prop) : Prop := ∀ (σ : L2.St) (Q : VK) (ρ : List Addr) (H : Hp) (ih : IH) (x : PV) (u : V) (xs : List PV) (us : List V), RH L ρ H ih → RV L ρ H x u → RVs L ρ H xs us → Post L W σ (RV L) Q ρ H (p x xs ih) → r u us H Q
theorem rvs0 {L : Rl} {ρ : List Addr} {H : Hp} {us : List V} (r : RVs L ρ H [] us) : us = [] := by cases r; rfl
theorem wr_lst {L : Rl} {ρ : List Addr} {H : Hp} {ih : IH} (h : RH L ρ H ih) {n : Nat} {a : Addr} (ea : ρ[n]? = some a) {xs0 : List V} (e0 : H a = some (.lst xs0)) {xs : List PV} {vs : List V} (r : RVs L ρ H xs vs) :
    RH L ρ (upd H a (.lst vs)) (ih.set n (.lst xs)) ∧ Ext ρ H ρ (upd H a (.lst vs)) := by
  have ex := ext_write (u := .lst vs) h ea (by intro o v q; rw [e0] at q; cases q)
  exact ⟨h.write ea (by intro o v q; rw [e0] at q; cases q) ⟨vs, upd_same, r.mono ex⟩, ex⟩
theorem wr_dK {L : Rl} {ρ : List Addr} {H : Hp} {ih : IH} (h : RH L ρ H ih) {n : Nat} {a : Addr} (ea : ρ[n]? = some a) {xs0 : List (Key × V)} (e0 : H a = some (.dK xs0)) {xs : List (Key × PV)} {vs : List (Key × V)} (r : RKs L ρ H xs vs) :
    RH L ρ (upd H a (.dK vs)) (ih.set n (.dK xs)) ∧ Ext ρ H ρ (upd H a (.dK vs)) := by
  have ex := ext_write (u := .dK vs) h ea (by intro o v q; rw [e0] at q; cases q)
  exact ⟨h.write ea (by intro o v q; rw [e0] at q; cases q) ⟨vs, upd_same, r.mono ex⟩, ex⟩
theorem rvs_dropLast {L : Rl} {ρ : List Addr} {H : Hp} : ∀ {xs : List PV} {vs : List V}, RVs L ρ H xs vs → RVs L ρ H xs.dropLast vs.dropLast
  | _, _, .nil => .nil
  | _, _, .cons _ .nil => .nil
  | _, _, .cons r (.cons q t) => .cons r (rvs_dropLast (.cons q t))
theorem pm_append : PM (lr X ex) W appendM rAppend := by
  intro σ Q ρ H ih x u xs us h rx r p
  unfold appendM at p
  split at p
  · obtain ⟨a, rfl, ea⟩ := rv_ref rx
    obtain ⟨w, rfl, rw'⟩ := rvs1 r
    split at p
    · rename_i e
      obtain ⟨vs, k1, k2⟩ := getM_at h e ea
      split at p
      · rename_i hl
        refine ⟨a, vs, w, rfl, rfl, k1, by rw [← k2.length, sizeLine_eq]; exact hl, ?_⟩
        obtain ⟨z1, z2⟩ := wr_lst h ea k1 (k2.append (.cons rw' .nil))
        exact p _ _ _ z2 z1 .non
      · exact p.elim
    · exact p.elim
  · exact p.elim
theorem pm_extend : PM (lr X ex) W extendM rExtend := by
  intro σ Q ρ H ih x u xs us h rx r p
  unfold extendM at p
  split at p
  · obtain ⟨a, rfl, ea⟩ := rv_ref rx
    obtain ⟨w, rfl, rw'⟩ := rvs1 r
    obtain ⟨b, rfl, eb⟩ := rv_ref rw'
    split at p
    · rename_i e e'
      obtain ⟨vs, k1, k2⟩ := getM_at h e ea
      obtain ⟨ws, k3, k4⟩ := getM_at h e' eb
      split at p
      · rename_i hl
        refine ⟨a, b, vs, ws, rfl, rfl, k1, k3, by rw [← k2.length, ← k4.length, sizeLine_eq]; exact hl, ?_⟩
        obtain ⟨z1, z2⟩ := wr_lst h ea k1 (k2.append k4)
        exact p _ _ _ z2 z1 .non
      · exact p.elim
    · exact p.elim
  · exact p.elim
theorem pm_pop : PM (lr X ex) W popM rPop := by
  intro σ Q ρ H ih x u xs us h rx r p
  unfold popM at p
  split at p
  · obtain ⟨a, rfl, ea⟩ := rv_ref rx
    obtain rfl := rvs0 r
    split at p
    · rename_i e
      obtain ⟨vs, k1, k2⟩ := getM_at h e ea
      split at p
      · rename_i y ey
        obtain ⟨w, e1, e2⟩ := k2.get ey
        refine ⟨a, vs, w, rfl, rfl, k1, by rw [← k2.length]; exact e1, ?_⟩
        obtain ⟨z1, z2⟩ := wr_lst h ea k1 (rvs_dropLast k2)
        exact p _ _ _ z2 z1 (e2.mono z2)
      · exact p.elim
    · exact p.elim
  · exact p.elim
theorem rvs_strs {L : Rl} {ρ : List Addr} {H : Hp} : ∀ ys : List Str, RVs L ρ H (ys.map PV.str) (ys.map V.str)
  | [] => .nil
  | y :: ys => .cons (.str y) (rvs_strs ys)
theorem pm_split : PM (lr X ex) W splitM (fun x xs H Q => ∃ a b, x = .str a ∧ xs = [.str b] ∧ (b.length == 0) = false ∧ a.length + 2 ≤ sizeLine ∧ rNewStrs (Txt.split a b) H Q) := by
  intro σ Q ρ H ih x u xs us h rx r p
  unfold splitM at p
  split at p
  · cases rx
    obtain ⟨w, rfl, rw'⟩ := rvs1 r
    cases rw'
    split at p
    · rename_i hl
      refine ⟨_, _, rfl, rfl, hl.1, by rw [sizeLine_eq]; exact hl.2, fun l hl => ?_⟩
      exact post_lay h (rvs_strs _) p hl
    · exact p.elim
  · exact p.elim
theorem asStr_map {L : Rl} {ρ : List Addr} {H : Hp} : ∀ {xs : List PV} {ns : List Str} {vs : List V}, mapO asStr xs = some ns → RVs L ρ H xs vs → vs = ns.map V.str := by
  intro xs
  induction xs with
  | nil => intro ns vs e r; cases r; simp only [mapO] at e; cases e; rfl
  | cons x xs ih =>
    intro ns vs e r
    cases r with
    | cons r t =>
      simp only [mapO] at e
      split at e
      · rename_i i ei
        cases q : mapO asStr xs with
        | none => rw [q] at e; cases e
        | some ms =>
          rw [q] at e; cases e
          cases r <;> simp only [asStr] at ei <;> cases ei
          rw [ih q t]; rfl
      · cases e
theorem pm_join : PM (lr X ex) W joinM (fun x xs H Q => ∃ a p, ∃ ys : List Str, x = .str a ∧ xs = [.ref p] ∧ (SqL X.K H p (ys.map V.str) ∨ SqT X.K H p (ys.map V.str)) ∧
    (ys.map (·.length)).sum + ys.length * a.length ≤ 16777216 ∧ Q (.str (Txt.join a ys)) H) := by
  intro σ Q ρ H ih x u xs us h rx r p
  unfold joinM at p
  split at p
  · cases rx
    rename_i y
    obtain ⟨w, rfl, rw'⟩ := rvs1 r
    split at p
    · rename_i zs ez
      split at p
      · rename_i ys ey
        split at p
        · rename_i hl
          cases y with
          | tup zs' =>
            simp only [items?] at ez
            cases ez
            obtain ⟨a, vs, rfl, k1, k2⟩ := rv_tup rw'
            have e := asStr_map ey k2
            subst e
            exact ⟨_, a, ys, rfl, rfl, .inr k1, hl, p.here h (.str _)⟩
          | ref n =>
            obtain ⟨a, rfl, ea⟩ := rv_ref rw'
            obtain ⟨vs, k1, k2⟩ := getL_at h ez ea
            have e := asStr_map ey k2
            subst e
            exact ⟨_, a, ys, rfl, rfl, .inl k1, hl, p.here h (.str _)⟩
          | _ => cases ez
        · exact p.elim
      · exact p.elim
    · exact p.elim
  · exact p.elim
def rGetA : V → List V → Hp → VK → Prop := fun x vs H Q => ∃ a y o, x = .ref a ∧ DGet H a y o ∧ ((vs = [y] ∧ Q (o.getD .non) H) ∨ ∃ d, vs = [y, d] ∧ Q (o.getD d) H)
theorem mt_getA (hu : X.A.units + 1 < cLine) : MtR X "dict.get" rGetA := by
  intro pins s σ H x xs v us Q I rx rs h
  obtain ⟨a, y, o, rfl, g, h⟩ := h
  obtain rfl : v = Value.ref a := rx
  rcases h with ⟨rfl, q⟩ | ⟨d, rfl, q⟩
  · obtain ⟨u, rfl, ru⟩ := rs.one
    exact d_get1 hu I g ru fun w' s3 I3 rw' => ⟨_, H, I3, rw', q⟩
  · obtain ⟨u, w, rfl, ru, rw⟩ := rs.two
    exact d_get2 hu I g ru rw fun w' s3 I3 rw' => ⟨_, H, I3, rw', q⟩
theorem dget_at {L : Rl} {ρ : List Addr} {H : Hp} {ih : IH} {n : Nat} {a : Addr} {kvs : List (Key × PV)} {k : Key} {y : PV} {u : V} (h : RH L ρ H ih) (ea : ρ[n]? = some a) (e : getDR ih n = some kvs) (ek : keyOf y = some k) (r : RV L ρ H y u) :
    ∃ o, DGet H a u o ∧ ∀ (d : PV) (w : V), RV L ρ H d w → RV L ρ H ((lookK kvs k).getD d) (o.getD w) := by
  unfold getDR at e
  split at e
  · rename_i e'
    cases e
    obtain ⟨vs, k1, k2⟩ := at_dK h e' ea
    have eu := keyOf_v ek r
    subst eu
    have lk := rks_look k2 k
    refine ⟨_, DGet.k (k := k) k1, fun d w rd => ?_⟩
    split at lk
    · rename_i x ex
      obtain ⟨v, e1, e2⟩ := lk
      rw [ex, e1]; exact e2
    · rename_i ex
      rw [ex, lk]; exact rd
  · rename_i e'
    cases e
    obtain ⟨o, vs, k1, k2⟩ := at_fK h e' ea
    have eu := keyOf_v ek r
    subst eu
    have lk := rks_look k2 k
    refine ⟨_, dget_frz (k := k) k1, fun d w rd => ?_⟩
    split at lk
    · rename_i x ex
      obtain ⟨v, e1, e2⟩ := lk
      rw [ex, e1]; exact e2
    · rename_i ex
      rw [ex, lk]; exact rd
  · cases e
theorem pm_get : PM (lr X ex) W getDM rGetA := by
  intro σ Q ρ H ih x u xs us h rx r p
  unfold getDM at p
  split at p
  · obtain ⟨a, rfl, ea⟩ := rv_ref rx
    obtain ⟨w, rfl, rw'⟩ := rvs1 r
    split at p
    · rename_i e ek
      obtain ⟨o, g, f⟩ := dget_at h ea e ek rw'
      exact ⟨a, w, o, rfl, g, .inl ⟨rfl, p.here h (f _ _ .non)⟩⟩
    · exact p.elim
  · obtain ⟨a, rfl, ea⟩ := rv_ref rx
    obtain ⟨w, z, rfl, rw', rz⟩ := rvs2 r
    split at p
    · rename_i e ek
      obtain ⟨o, g, f⟩ := dget_at h ea e ek rw'
      exact ⟨a, w, o, rfl, g, .inr ⟨z, rfl, p.here h (f _ _ rz)⟩⟩
    · exact p.elim
  · exact p.elim
theorem pm_clear : PM (lr X ex) W clearM rDClear := by
  intro σ Q ρ H ih x u xs us h rx r p
  unfold clearM at p
  split at p
  · obtain ⟨a, rfl, ea⟩ := rv_ref rx
    obtain rfl := rvs0 r
    split at p
    · rename_i kvs e
      unfold getD at e
      split at e
      · rename_i e'
        cases e
        obtain ⟨vs, k1, k2⟩ := at_dK h e' ea
        obtain ⟨z1, z2⟩ := wr_dK (xs := []) (vs := []) h ea k1 .nil
        exact ⟨a, vs, rfl, rfl, k1, p _ _ _ z2 z1 .non⟩
      · cases e
    · exact p.elim
  · exact p.elim

def BmOk (X : Cx) (L : Rl) (W : WX) (T : BT) (m : Str) (p : MP) : Prop := ∃ id r, PlainAttrs T.nm ∧ Slot T.nm m id ∧ typeOf (.builtin id) = pure (.type "method_descriptor") ∧ MtR X id r ∧ PM L W p r
theorem bm_ok (hu : X.A.units + 1 < cLine) (T : BT) (m : Str) : match bmOf T m with | none => True | some p => BmOk X (lr X ex) W T m p := by
  cases T with
  | str =>
    unfold bmOf
    dsimp only
    by_cases h_split : m = Str.ofString "split"
    · rw [if_pos h_split]; subst h_split
      exact ⟨_, _, PySem.F.plainAttrs_str, PySem.F.slot_str_split, PySem.F.type_str_split, mt_split, pm_split⟩
    rw [if_neg h_split]
    by_cases h_join : m = Str.ofString "join"
    · rw [if_pos h_join]; subst h_join
      exact ⟨_, _, PySem.F.plainAttrs_str, PySem.F.slot_str_join, PySem.F.type_str_join, mt_join, pm_join⟩
    rw [if_neg h_join]
    trivial
  | list =>
    unfold bmOf
    dsimp only
    by_cases h_append : m = Str.ofString "append"
    · rw [if_pos h_append]; subst h_append
      exact ⟨_, _, PySem.F.plainAttrs_list, PySem.F.slot_list_append, PySem.F.type_list_append, mt_append, pm_append⟩
    rw [if_neg h_append]
    by_cases h_extend : m = Str.ofString "extend"
    · rw [if_pos h_extend]; subst h_extend
      exact ⟨_, _, PySem.F.plainAttrs_list, PySem.F.slot_list_extend, PySem.F.type_list_extend, mt_extend, pm_extend⟩
    rw [if_neg h_extend]
    by_cases h_pop : m = Str.ofString "pop"
    · rw [if_pos h_pop]; subst h_pop
      exact ⟨_, _, PySem.F.plainAttrs_list, PySem.F.slot_list_pop, PySem.F.type_list_pop, mt_pop, pm_pop⟩
    rw [if_neg h_pop]
    trivial
  | dict =>
    unfold bmOf
    dsimp only
    by_cases h_get : m = Str.ofString "get"
    · rw [if_pos h_get]; subst h_get
      exact ⟨_, _, PySem.F.plainAttrs_dict, PySem.F.slot_dict_get, PySem.F.type_dict_get, mt_getA hu, pm_get⟩
    rw [if_neg h_get]
    by_cases h_clear : m = Str.ofString "clear"
    · rw [if_pos h_clear]; subst h_clear
      exact ⟨_, _, PySem.F.plainAttrs_dict, PySem.F.slot_dict_clear, PySem.F.type_dict_clear, mtd_clear, pm_clear⟩
    rw [if_neg h_clear]
    trivial

def btOf (ih : IH) : PV → Option BT
  | .str _ => some .str
  | .ref n => match ih[n]? with
    | some (.lst _) => some .list
    | some (.dK _) => some .dict
    | some (.fdK _ _) => some .dict
    | _ => none
  | _ => none
variable {a b c e o : Expr} {pos apos : Pos} {ma mb mc mo : EM PV} {C : Cfg} {k : Nat}
def methAny (C : Cfg) (m : Str) (n : Nat) (as : EM (List PV)) (x : PV) : EM PV := fun env ih => match btOf ih x with
  | some T => match bmOf T m with
    | some p => eBind as (fun vs => fun _ h => p x vs h) env ih
    | none => .fail
  | none => methGo C m n as x env ih
def eMethD (C : Cfg) (o : EM PV) (m : Str) (n : Nat) (as : EM (List PV)) : EM PV := eBind o (methAny C m n as)
theorem bt_tyV {ρ : List Addr} {H : Hp} {ih : IH} {x : PV} {u : V} {T : BT} {pins : List (Addr × Obj)} {σ : L2.St} {s : Shared} {v : Value} (I : Inv X pins σ H s) (rx : L2.RelV u v) (h : RH (lr X ex) ρ H ih) (r : RV (lr X ex) ρ H x u) (e : btOf ih x = some T) :
    s.TypeIs v T.nm ∧ ∀ a, v = .ref a → ∃ ob, s.heap.get? a = some ob ∧ ob.dict = none := by
  cases x with
  | str z => cases e; cases r; exact tyV_is I rx rfl
  | ref n =>
    obtain ⟨a, rfl, ea⟩ := rv_ref r
    simp only [btOf] at e
    split at e
    · rename_i q
      cases e
      obtain ⟨vs, k1, k2⟩ := h.ob n a _ ea q
      exact tyV_is I rx (.inl ⟨rfl, vs, SqL.of k1⟩)
    · rename_i q
      cases e
      obtain ⟨vs, k1, k2⟩ := h.ob n a _ ea q
      exact tyV_is I rx (.inr (.inr (.inl ⟨rfl, .inl ⟨vs, k1⟩⟩)))
    · rename_i q
      cases e
      cases rx
      obtain ⟨o, vs, k1, k2⟩ := at_fK h q ea
      have g := dget_frz (k := Sum.inl 0) k1
      exact ⟨dict_typeIs I g, dict_noDict I g⟩
    · cases e
  | _ => cases e
theorem se_methD {m : Str} {f : Expr → EM PV} {es : List Expr} (F : FX C X k) (tk : Takes X W) (hu : X.A.units + 1 < cLine) (hr : Room k X.A) (ho : PE X o (tE (lr X none) W mo)) (hf : ∀ e ∈ es, PE X e (tE (lr X none) W (f e))) (hs : es.any isStar = false) (hb : isCall0 o = false) (hl : (apos.endLine == pos.line) = true) (hn : es.length < 30) :
    PE X (.Call (.Attribute o m apos) es [] pos) (tE (lr X none) W (eMethD C mo m es.length (eArgs (es.map f)))) := by
  have ha := sa_args f es hf hs
  refine ⟨fun pins s σ H Q I ⟨ρ, env, ih, e1, e2, p⟩ => ?_⟩
  have h := bindAt (rel := RV (lr X none)) e1 e2 p
  refine PySem.W.methodCall_KW (pl := plainOf o X.env) (thn (ho.run pins s σ H _ I h) fun u s1 ⟨x, H1, I1, rx, ρ1, ih1, x', ex1, h1, r1, p1⟩ => ?_) (meth_tree hb hl hs hn)
  unfold methAny at p1
  cases q : btOf ih1 x' with
  | none =>
    rw [q] at p1
    dsimp only at p1
    cases x' with
    | ref i =>
      obtain ⟨a, rfl, ea⟩ := rv_ref r1
      obtain rfl : u = Value.ref a := rx
      simp only [methGo] at p1
      split at p1
      · rename_i c fs q
        obtain ⟨dx, fs', k1, k2⟩ := getI_at h1 q ea
        split at p1
        · rename_i hnone
          cases hd : C.P.fdef (.meth c m) with
          | none =>
            rw [hd] at hnone
            exact absurd hnone.2 (by simp)
          | some fd =>
            obtain ⟨cl, me⟩ := F.meth c m fd hd
            refine getmeth_ok I1 k1 cl me (lk_none k2 hnone.1) ?_
            cases es with
            | nil => exact PySem.W.callWith_K0 (first := [.ref a]) I1.kIn me.kp (run_call (id := .meth c m) F tk hr I1 (us := [.ref a]) (vs := [.ref a]) (.cons rfl .nil) h1 (.cons (.ref ea) .nil) p1)
            | cons e es =>
              have hs' : isStar e = false ∧ es.any isStar = false := by simpa using hs
              have h2 := bindAt (rel := RVs (lr X none)) (e1.mono ex1) h1 p1
              exact PySem.W.callWith_K (first := [.ref a]) (h₀ := X.base) I1.ok.mod.kin me.kp (thn (ha.run pos pins s1 σ H1 _ I1 h2) fun us s2 ⟨vs, H2, I2, r, ρ2, ih2, xs, ex2, h2, r2, p2⟩ => ⟨I2.kIn, run_call (id := .meth c m) F tk hr I2 (us := .ref a :: us) (vs := .ref a :: vs) (.cons rfl r) h2 (.cons (.ref (ex2.get ea)) r2) p2⟩) (star_no hs'.1) (back_plain hs'.2)
        · exact p1.elim
      · exact p1.elim
    | _ => exact p1.elim
  | some T =>
    rw [q] at p1
    dsimp only at p1
    obtain ⟨t1, t2⟩ := bt_tyV I1 rx h1 r1 q
    have ok := bm_ok (X := X) (ex := none) (W := W) hu T m
    cases q2 : bmOf T m with
    | none => rw [q2] at p1; exact p1.elim
    | some p' =>
      rw [q2] at p1 ok
      dsimp only at p1 ok
      have h2 := bindAt (rel := RVs (lr X none)) (e1.mono ex1) h1 p1
      obtain ⟨id, r, pa, slot, hty, hm, hp⟩ := ok
      refine getMethod_builtin t1 pa slot hty t2 ?_
      cases es with
      | nil =>
        obtain ⟨ρ2, env2, ih2, k1, k2, p2⟩ := h2
        obtain ⟨ρ3, ih3, xs, ex3, h3, r3, p3⟩ := Post.here (u := []) p2 k2 .nil
        exact Calls.callWith_builtin rfl (PySem.evalArgs_none (hm pins s1 σ H1 x [] u [] Q I1 rx .nil (hp σ Q ρ3 H1 ih3 x' x xs [] h3 (r1.mono ex3) r3 p3)))
      | cons e es =>
        have hs' : isStar e = false ∧ es.any isStar = false := by simpa using hs
        have hA := ha.run pos pins s1 σ H1 _ I1 h2
        rw [star_no hs'.1] at hA ⊢
        refine Calls.callWith_builtin (by show (false || (backTo pos (starEach es X.env)).any (·.1)) = false; rw [back_plain hs'.2]; rfl) (Calls.evalArgs_plain ?_)
        exact thn hA fun us s2 ⟨vs, H2, I2, r2, ρ3, ih3, xs, ex3, h3, r3, p3⟩ => hm pins s2 σ H2 x vs u us Q I2 rx r2 (hp σ Q ρ3 H2 ih3 x' x xs vs h3 (r1.mono ex3) r3 p3)
end
end Z
end
noncomputable section
namespace Z
open PySem PySem.Spec PyProof.Rows L2
set_option autoImplicit false
def kwCall (C : Cfg) (id : FId) (vs : List PV) (ks : List Str) (ws : List PV) (ih : IH) : R PV := match C.P.fdef id with
  | some fd => if kwOkB fd.ps fd.dfl.length vs.length ks = true ∧ ws.length = ks.length then C.call id (kwFill fd.ps vs ks ws fd.dfl) ih else .fail
  | none => .fail
def methKw (C : Cfg) (m : Str) (ks : List Str) (as zs : EM (List PV)) (x : PV) : EM PV := fun env ih => match x with
  | .ref i => match getI ih i with
    | some (c, fs) => if (fs.lookup m).isNone = true ∧ (C.P.fdef (.meth c m)).isSome = true then (eBind as fun vs => eBind zs fun ws => fun _ ih => kwCall C (.meth c m) (.ref i :: vs) ks ws ih) env ih else .fail
    | none => .fail
  | _ => .fail
def eMethKw (C : Cfg) (o : EM PV) (m : Str) (ks : List Str) (as zs : EM (List PV)) : EM PV := eBind o (methKw C m ks as zs)
section
variable {X : Cx} {W : WX} {o e : Expr} {pos apos : Pos} {mo : EM PV} {C : Cfg} {k : Nat}
theorem kw_names {env : Env} : ∀ {kws : List Keyword} {ks : List Str}, kws.map (·.arg) = ks.map some → (backToKw pos (keywordEach kws env)).map (·.1) = ks.map some
  | [], [], _ => rfl
  | [], _ :: _, h => by cases h
  | _ :: _, [], h => by cases h
  | ⟨a, v, p⟩ :: kws, q :: ks, h => by
    rw [List.map_cons, List.map_cons] at h
    injection h with h1 h2
    show a :: (backToKw pos (keywordEach kws env)).map (·.1) = _
    rw [kw_names h2]
    have h1 : a = some q := h1
    rw [h1]; rfl
theorem kw_all {l : List (Option Str × Sem Value)} {ks : List Str} (h : l.map (·.1) = ks.map some) : l.all (·.1.isSome) = true ∧ l.filterMap (·.1) = ks ∧ l.any (·.1.isNone) = false := by
  induction l generalizing ks with
  | nil => cases ks with
    | nil => exact ⟨rfl, rfl, rfl⟩
    | cons q ks => cases h
  | cons p l ih =>
    cases ks with
    | nil => cases h
    | cons q ks =>
      rw [List.map_cons, List.map_cons] at h
      injection h with h1 h2
      obtain ⟨a, b, c⟩ := ih h2
      refine ⟨?_, ?_, ?_⟩
      · rw [List.all_cons, h1, a]; rfl
      · rw [List.filterMap_cons, h1, b]
      · rw [List.any_cons, h1, c]; rfl
theorem meth_treeK {es : List Expr} {kws : List Keyword} {ks : List Str} {m : Str} {env : Env} (hb : isCall0 o = false) (hl : (apos.endLine == pos.line) = true) (hs : es.any isStar = false) (hn : es.length + kws.length < 28) (hk : kws.map (·.arg) = ks.map some) : eval (.Call (.Attribute o m apos) es kws pos) env = (do
      let ov ← eval o env
      standAt apos.atName
      let (f, first) ← holding [ov] (getMethod ov m (plainOf o env))
      callWith pos f first (backTo pos (starEach es env)) (backToKw pos (keywordEach kws env))) := by
  show (do
      let ov ← attributeBase o m env (eval o env)
      standAt apos.atName
      methodCall o m apos pos env ov (es.length + kws.length) (backTo pos (starEach es env)) (backToKw pos (keywordEach kws env))) = _
  rw [base_of hb]
  have hf : methodCallForm (es.length + kws.length) (backTo pos (starEach es env)) (backToKw pos (keywordEach kws env)) = true := by
    unfold methodCallForm
    rw [back_all hs, (kw_all (kw_names (env := env) hk)).1]
    simp only [Bool.true_and, decide_eq_true_eq]
    split <;> omega
  congr 1
  funext ov
  congr 1
  funext _
  rw [mcall_line hf hl]
theorem sk_args (f : Expr → EM PV) : ∀ kws : List Keyword, (∀ q ∈ kws, PE X q.value (tE (lr X none) W (f q.value))) → PK X kws (tA (lr X none) W (eArgs (kws.map fun q => f q.value)))
  | [], _ => ⟨fun pos pins s σ H Q I h => pk_nil.run pos pins s σ H Q I (by
      obtain ⟨ρ, env, ih, e1, e2, p⟩ := h
      exact Post.here p e2 .nil)⟩
  | ⟨a, v, p⟩ :: kws, h => by
    have r := sk_args f kws (fun q hq => h q (List.mem_cons_of_mem _ hq))
    refine ⟨fun pos pins s σ H Q I hh => (pk_cons (h _ List.mem_cons_self) r).run pos pins s σ H Q I ?_⟩
    obtain ⟨ρ, env, ih, e1, e2, p⟩ := hh
    refine (bindAt (rel := RV (lr X none)) e1 e2 p).mono fun u H1 ⟨ρ1, ih1, x, ex1, h1, r1, p1⟩ => (bindAt (rel := RVs (lr X none)) (e1.mono ex1) h1 p1).mono fun us H2 ⟨ρ2, ih2, xs, ex2, h2, r2, p2⟩ => ?_
    exact Post.here p2 h2 (.cons (r1.mono ex2) r2)
theorem run_kw {CX : CXT} {kk n : Nat} {fd : FuncData} {ps ks : List Str} {sp : Sp} {E : L2.St → XK} {f : Addr} {g : List Value → List Value → List Value} {gV : List V → List V → List V} {pins : List (Addr × Obj)} {σ : L2.St} {H : Hp} {s : Shared} {Q : VK} {us ws : List Value} {vs zs : List V} (Fo : FnOk X.prog X.w X.K X.mg X.base CX kk f fd ps sp) (hr : Room kk X.A) (hbk : KBn X.K fd ps n ks g gV) (hx : PassesAt CX X σ (E σ))
    (I : Inv X pins σ H s) (ru : Vals vs us) (rz : Vals zs ws) (lu : vs.length = n) (lz : zs.length = ks.length) (hsp : sp (gV vs zs) H Q (E σ)) : wpAny (model X.prog X.w) X.A (call (.ref f) us (ks.zip ws)) (EP X pins σ Q) X.xe s := by
  have run := Fo.run X.A X.stack s H ⟨us, ks.zip ws⟩ (g us ws) (gV vs zs) Q (E σ) hr I.env0 (hbk.to s us ws I.kIn (ru.length.symm.trans lu) (rz.length.symm.trans lz)) (hbk.rel ru rz) hsp
  refine wpAny_call (codeAny_mono run fun res t hres => ?_)
  match res, hres with
  | .error er, hres => exact hx pins H s er t I hres
  | .ok (.ret u), hres => exact I.after hres
  | .ok .next, hres => exact hres.elim
  | .ok .brk, hres => exact hres.elim
  | .ok .cont, hres => exact hres.elim
theorem se_methKw {m : Str} {f : Expr → EM PV} {es : List Expr} {kws : List Keyword} {ks : List Str} (F : FX C X k) (tk : Takes X W) (hr : Room k X.A) (ho : PE X o (tE (lr X none) W mo)) (hf : ∀ e' ∈ e :: es, PE X e' (tE (lr X none) W (f e'))) (hkf : ∀ q ∈ kws, PE X q.value (tE (lr X none) W (f q.value))) (hs : (e :: es).any isStar = false) (hb : isCall0 o = false) (hl : (apos.endLine == pos.line) = true) (hn : (e :: es).length + kws.length < 28) (hk : kws.map (·.arg) = ks.map some) :
    PE X (.Call (.Attribute o m apos) (e :: es) kws pos) (tE (lr X none) W (eMethKw C mo m ks (eArgs ((e :: es).map f)) (eArgs (kws.map fun q => f q.value)))) := by
  have ha := sa_args f (e :: es) hf hs
  have hkw := sk_args f kws hkf
  have hs' : isStar e = false ∧ es.any isStar = false := by simpa using hs
  obtain ⟨k1, k2, k3⟩ := kw_all (kw_names (pos := pos) (env := X.env) hk)
  refine ⟨fun pins s σ H Q I ⟨ρ, env, ih, e1, e2, p⟩ => ?_⟩
  have h := bindAt (rel := RV (lr X none)) e1 e2 p
  refine PySem.W.methodCall_KW (pl := plainOf o X.env) (thn (ho.run pins s σ H _ I h) fun u s1 ⟨x, H1, I1, rx, ρ1, ih1, x', ex1, h1, r1, p1⟩ => ?_) (meth_treeK hb hl hs hn hk)
  cases x' with
  | ref i =>
    obtain ⟨a, rfl, ea⟩ := rv_ref r1
    obtain rfl : u = Value.ref a := rx
    simp only [methKw] at p1
    split at p1
    · rename_i c fs q
      obtain ⟨dx, fs', q1, q2⟩ := getI_at h1 q ea
      split at p1
      · rename_i hnone
        cases hd : C.P.fdef (.meth c m) with
        | none =>
          rw [hd] at hnone
          exact absurd hnone.2 (by simp)
        | some fd =>
          obtain ⟨cl, me⟩ := F.meth c m fd hd
          refine getmeth_ok I1 q1 cl me (lk_none q2 hnone.1) ?_
          have h2 := bindAt (rel := RVs (lr X none)) (e1.mono ex1) h1 p1
          refine PySem.W.callWith_KW (first := [.ref a]) (h₀ := X.base) I1.ok.mod.kin me.kp k1 (thn (ha.run pos pins s1 σ H1 _ I1 h2) fun us s2 ⟨vs, H2, I2, r, ρ2, ih2, xs, ex2, h2, r2, p2⟩ => ?_) (by rw [k3, Bool.or_false]; exact back_plain hs) (star_no hs'.1)
          have h3 := bindAt (rel := RVs (lr X none)) ((e1.mono ex1).mono ex2) h2 p2
          refine thn (hkw.run pos pins s2 σ H2 _ I2 h3) fun ws s3 ⟨zs, H3, I3, rz, ρ3, ih3, ys, ex3, h3, r3, p3⟩ => ⟨I3.kIn, ?_⟩
          rw [k2]
          unfold kwCall at p3
          rw [hd] at p3
          dsimp only at p3
          split at p3
          · rename_i hok
            obtain ⟨fdat, hF, hbd⟩ := F.callee _ fd hd
            have lv : (PV.ref i :: xs).length = (V.ref a :: vs).length := by simp [r2.length]
            obtain ⟨its, dvs, d1, d2, d3⟩ := hbd.2 _ ks hok.1
            have lz : zs.length = ks.length := r3.length.symm.trans hok.2
            have rr : RVs (lr X none) ρ3 H3 (kwFill fd.ps (PV.ref i :: xs) ks ys fd.dfl) (kwFill fd.ps (V.ref a :: vs) ks zs dvs) := paired_rvs (fill_rel (rvs_paired (RVs.cons (.ref ((ex2.get ea) |> ex3.get)) (r2.mono ex3))) (rvs_paired r3) (rvs_paired (d2 ρ3 H3)))
            have ld : fd.dfl.length = dvs.length := (d2 ρ3 H3).length
            have lo : (kwFill fd.ps (V.ref a :: vs) ks zs dvs).length = fd.ps.length := fill_len (by rw [← ld, ← lv]; exact kwOk_of hok.1) lz
            exact run_kw hF hr d3 (passAt tk σ) I3 (us := .ref a :: us) (vs := .ref a :: vs) (.cons rfl r) rz lv.symm lz ⟨lo, ρ3, ih3, _, h3, rr, post_swap p3⟩
          · exact p3.elim
      · exact p1.elim
    · exact p1.elim
  | _ => exact p1.elim
end
end Z
end
noncomputable section
namespace Z
open PySem PySem.Spec PyProof.Rows L2
set_option autoImplicit false

def Prg.isCls (P : Prg) (c : Str) : Bool := (P.clss.lookup c).isSome
def bltOf (P : Prg) (x : Str) : Option BP :=
  if x = Str.ofString "len" then some lenP else if x = Str.ofString "list" then some listP else if x = Str.ofString "tuple" then some tupleP
  else if x = Str.ofString "int" then some intP else if x = Str.ofString "abs" then some absP else if x = Str.ofString "str" then some strP
  else if x = Str.ofString "dict" then some dictP else if x = Str.ofString "max" then some maxP else if x = Str.ofString "min" then some minP
  else if x = Str.ofString "any" then some anyP else if x = Str.ofString "all" then some allP else if x = Str.ofString "isinstance" then some (isaP P.isCls)
  else if x = Str.ofString "sorted" then some sortedP else none
def tyNames : List String := ["int", "str", "bool", "tuple", "list", "dict"]
def tyVal (x : Str) : Option String := tyNames.find? fun n => x = Str.ofString n
def eB (p : BP) (as : EM (List PV)) : EM PV := eBind as fun vs => fun _ ih => p vs ih
def gloV (P : Prg) (x : Str) : Option PV := match P.cons.lookup x with
  | some v => some v
  | none => if P.isCls x = true then some (.cls x) else if P.blts.contains x = true then (tyVal x).map .ty else none

section
variable {X : Cx} {W : WX} {ex : Option (Addr × Str × Option Addr)} {a b c e o : Expr} {pos pp : Pos} {C : Cfg} {k : Nat}
def BltOk (X : Cx) (L : Rl) (W : WX) (x : Str) (p : BP) : Prop := ∃ r, (∃ id, CallR X (.builtin id) r ∧ bootBuiltins x = some (.builtin id)) ∧ PCall L W p r ∨ (∃ T, CallR X (.type T) r ∧ bootBuiltins x = some (.type T)) ∧ PCall L W p r
theorem blt_ok (P : Prg) (hc : X.calm = true) (hu : X.A.units + 100 < cLine) (isa : IsaOk X.K P.isCls) (x : Str) : match bltOf P x with | none => True | some p => BltOk X (lr X none) W x p := by
  unfold bltOf
  by_cases h1 : x = Str.ofString "len"
  · rw [if_pos h1]; subst h1; exact ⟨_, .inl ⟨⟨_, call_lenA, rfl⟩, pc_len⟩⟩
  rw [if_neg h1]
  by_cases h2 : x = Str.ofString "list"
  · rw [if_pos h2]; subst h2; exact ⟨_, .inr ⟨⟨_, call_listA hc, rfl⟩, pc_list⟩⟩
  rw [if_neg h2]
  by_cases h3 : x = Str.ofString "tuple"
  · rw [if_pos h3]; subst h3; exact ⟨_, .inr ⟨⟨_, call_tuple_of, rfl⟩, pc_tuple⟩⟩
  rw [if_neg h3]
  by_cases h4 : x = Str.ofString "int"
  · rw [if_pos h4]; subst h4; exact ⟨_, .inr ⟨⟨_, call_intA, rfl⟩, pc_int⟩⟩
  rw [if_neg h4]
  by_cases h5 : x = Str.ofString "abs"
  · rw [if_pos h5]; subst h5; exact ⟨_, .inl ⟨⟨_, call_abs, rfl⟩, pc_abs⟩⟩
  rw [if_neg h5]
  by_cases h6 : x = Str.ofString "str"
  · rw [if_pos h6]; subst h6; exact ⟨_, .inr ⟨⟨_, call_str_int, rfl⟩, pc_str⟩⟩
  rw [if_neg h6]
  by_cases h7 : x = Str.ofString "dict"
  · rw [if_pos h7]; subst h7; exact ⟨_, .inr ⟨⟨_, call_dictD, rfl⟩, pc_dict⟩⟩
  rw [if_neg h7]
  by_cases h8 : x = Str.ofString "max"
  · rw [if_pos h8]; subst h8; exact ⟨_, .inl ⟨⟨_, call_maxA hc, rfl⟩, pc_max⟩⟩
  rw [if_neg h8]
  by_cases h9 : x = Str.ofString "min"
  · rw [if_pos h9]; subst h9; exact ⟨_, .inl ⟨⟨_, call_minA hc, rfl⟩, pc_min⟩⟩
  rw [if_neg h9]
  by_cases h10 : x = Str.ofString "any"
  · rw [if_pos h10]; subst h10; exact ⟨_, .inl ⟨⟨_, cr_any hc, rfl⟩, pc_any⟩⟩
  rw [if_neg h10]
  by_cases h11 : x = Str.ofString "all"
  · rw [if_pos h11]; subst h11; exact ⟨_, .inl ⟨⟨_, cr_all hc, rfl⟩, pc_all⟩⟩
  rw [if_neg h11]
  by_cases h12 : x = Str.ofString "isinstance"
  · rw [if_pos h12]; subst h12; exact ⟨_, .inl ⟨⟨_, call_isa, rfl⟩, pc_isa isa⟩⟩
  rw [if_neg h12]
  by_cases h13 : x = Str.ofString "sorted"
  · rw [if_pos h13]; subst h13; exact ⟨_, .inl ⟨⟨_, cr_sortZ hu, rfl⟩, pc_sorted⟩⟩
  rw [if_neg h13]
  trivial
theorem tyVal_ok {x : Str} {n : String} (h : tyVal x = some n) : bootBuiltins x = some (.type n) ∧ x ≠ "__name__" := by
  unfold tyVal at h
  have h1 := List.find?_some h
  have h2 := List.mem_of_find?_eq_some h
  have h1 : x = Str.ofString n := by simpa using h1
  subst h1
  simp only [tyNames, List.mem_cons, List.not_mem_nil, or_false] at h2
  rcases h2 with rfl | rfl | rfl | rfl | rfl | rfl <;> exact ⟨by rfl, by decide⟩
theorem se_glo {x : Str} (F : FX C X k) (hg : Gl X x) {v : PV} (hv : gloV C.P x = some v) (hdb : (x == ("__debug__" : Str)) = false) : PE X (.Name x pp) (tE (lr X ex) W (eC v)) := by
  unfold gloV at hv
  split at hv
  · rename_i q
    cases hv
    obtain ⟨u, v', h1, h2, h3⟩ := F.con x v q
    exact impE (pe_glob hg h1 h2 hdb) fun σ H Q h => tE_c (fun ρ H => h3 ex ρ H) h
  · split at hv
    · rename_i q
      cases hv
      unfold Prg.isCls at q
      cases q2 : C.P.clss.lookup x with
      | none => rw [q2] at q; cases q
      | some ms =>
        obtain ⟨m, _⟩ := F.cls x ms q2
        exact impE (pe_glob (v := .ref (He.ga X.K x)) hg m rfl hdb) fun σ H Q h => tE_c (fun ρ H => .cls x) h
    · split at hv
      · rename_i q
        cases q2 : tyVal x with
        | none => rw [q2] at hv; cases hv
        | some n =>
          rw [q2] at hv
          cases hv
          obtain ⟨h1, h2⟩ := tyVal_ok q2
          exact impE (pe_bltn (v := .ty n) hg (F.blt x q) h1 rfl h2 hdb) fun σ H Q h => tE_c (fun ρ H => .ty n) h
      · cases hv
theorem se_blt {x : Str} {f : Expr → EM PV} {es : List Expr} {p : BP} (F : FX C X k) (hc : X.calm = true) (hu : X.A.units + 100 < cLine) (isa : IsaOk X.K C.P.isCls) (hg : Gl X x) (hb : C.P.blts.contains x = true) (hp : bltOf C.P x = some p) (hf : ∀ e ∈ es, PE X e (tE (lr X none) W (f e))) (hs : es.any isStar = false) (h0 : es.isEmpty = false) (hn : (x == ("__name__" : Str)) = false) (hdb : (x == ("__debug__" : Str)) = false) :
    PE X (.Call (.Name x pp) es [] pos) (tE (lr X none) W (eB p (eArgs (es.map f)))) := by
  have ok := blt_ok (X := X) (W := W) C.P hc hu isa x
  rw [hp] at ok
  dsimp only at ok
  cases es with
  | nil => cases h0
  | cons e es =>
    have ha := sa_args f (e :: es) hf hs
    have hs' : isStar e = false ∧ es.any isStar = false := by simpa using hs
    have hn' : x ≠ "__name__" := fun z => by subst z; simp at hn
    have fin : ∀ {r : List V → Hp → VK → Prop}, PCall (lr X none) W p r → ∀ σ H Q, tE (lr X none) W (eB p (eArgs ((e :: es).map f))) σ H Q → tCB r (tA (lr X none) W (eArgs ((e :: es).map f))) σ H Q := fun {r} hp σ H Q ⟨ρ, env, ih, e1, e2, q⟩ =>
      (bindAt (rel := RVs (lr X none)) e1 e2 q).mono fun us H1 ⟨ρ1, ih1, xs, ex1, h1, r1, p1⟩ => hp σ Q ρ1 H1 ih1 xs us h1 r1 p1
    obtain ⟨r, h⟩ := ok
    rcases h with ⟨⟨id, h1, h2⟩, h3⟩ | ⟨⟨T, h1, h2⟩, h3⟩
    · exact impE (pe_callB h1 hg (F.blt x hb) h2 ha hn' hdb (star_no hs'.1) (back_plain hs'.2)) (fin h3)
    · exact impE (pe_callTy h1 hg (F.blt x hb) h2 ha hn' hdb (star_no hs'.1) (back_plain hs'.2)) (fin h3)
def eDct (x : Str) (i : Nat) : EM PV := fun _ ih => match ih[i]? with
  | some (.fdK y _) => if y = x then .ok (.ref i) ih else .fail
  | _ => .fail
theorem se_dct {x : Str} {i : Nat} (F : FX C X k) (hg : Gl X x) (hv : C.P.dcts.lookup x = some i) (hdb : (x == ("__debug__" : Str)) = false) : PE X (.Name x pp) (tE (lr X ex) W (eDct x i)) := by
  refine impE (pe_glob (v := .ref (He.ga X.K x)) hg (F.dct x i hv) rfl hdb) fun σ H Q h => ?_
  obtain ⟨ρ, env, ih, e1, e2, p⟩ := h
  unfold eDct at p
  split at p
  · rename_i y kvs q
    split at p
    · rename_i hy
      subst hy
      obtain ⟨a, ea, r⟩ := e2.get q
      have ha : a = He.ga X.K y := r.1.elim (fun z => by rw [z] at hdb; cases hdb) id
      rw [← ha]
      exact p.here e2 (.ref ea)
    · exact p.elim
  · exact p.elim
def lvalsP (x : PV) (ih : IH) : R PV := match x with
  | .ref n => match ih[n]? with
    | some (.dN kvs) => .ok (.ref ih.length) (ih ++ [.lst (kvs.map (·.2))])
    | some (.dK kvs) => if kvs.isEmpty = true then .ok (.ref ih.length) (ih ++ [.lst []]) else .fail
    | _ => .fail
  | _ => .fail
theorem rns_snd {L : Rl} {ρ : List Addr} {H : Hp} {kvs : List (PV × PV)} {es : List ZN.En} (r : RNs L ρ H kvs es) : ∃ vs, RVs L ρ H (kvs.map (·.2)) vs ∧ Vals vs (es.map (·.2.2)) := by
  induction r with
  | nil => exact ⟨[], .nil, .nil⟩
  | cons h1 h2 h3 h4 h5 r ih =>
    obtain ⟨vs, z1, z2⟩ := ih
    exact ⟨_ :: vs, .cons h4 z1, .cons h5 z2⟩
theorem se_lvals {m : EM PV} {apos cpos : Pos} (F : FX C X k) (hc : X.calm = true) (hg : Gl X (Str.ofString "list")) (hb : C.P.blts.contains (Str.ofString "list") = true) (he : PE X e (tE (lr X none) W m)) (h0 : isCall0 e = false) (hline : (apos.endLine == cpos.line) = true) :
    PE X (.Call (.Name (Str.ofString "list") pp) [.Call (.Attribute e (Str.ofString "values") apos) [] [] cpos] [] pos) (tE (lr X none) W (eUn lvalsP m)) := by
  refine impE (ZN.pe_listVN hc he hg (F.blt _ hb) (by rfl) (base_of h0) hline) fun σ H Q h => ?_
  obtain ⟨ρ, env, ih, e1, e2, p⟩ := h
  refine (bindAt (rel := RV (lr X none)) e1 e2 p).mono fun u H1 ⟨ρ1, ih1, x, ex1, h1, r1, p1⟩ => ?_
  unfold lvalsP at p1
  split at p1
  · obtain ⟨a, rfl, ea⟩ := rv_ref r1
    split at p1
    · rename_i kvs q
      obtain ⟨es, k1, k2⟩ := h1.ob _ a _ ea q
      obtain ⟨vs, z1, z2⟩ := rns_snd k2
      exact ⟨a, es, vs, rfl, .inl k1, z2, fun l hl => post_lay h1 z1 p1 hl⟩
    · rename_i kvs q
      obtain ⟨es, k1, k2⟩ := h1.ob _ a _ ea q
      split at p1
      · rename_i hemp
        have hn : kvs = [] := by simpa using hemp
        subst hn
        cases k2
        exact ⟨a, [], [], rfl, .inr ⟨k1, rfl⟩, .nil, fun l hl => post_lay h1 .nil p1 hl⟩
      · exact p1.elim
    · exact p1.elim
  · exact p1.elim
def lrgP (x : PV) (ih : IH) : R PV := match x with
  | .int j => if 0 ≤ j ∧ j.natAbs ≤ 16777216 then .ok (.ref ih.length) (ih ++ [.lst ((List.range j.toNat).map fun (i : Nat) => .int (i : Int))]) else .fail
  | _ => .fail
theorem rvs_rg {L : Rl} {ρ : List Addr} {H : Hp} (l : List Nat) : RVs L ρ H (l.map fun (i : Nat) => PV.int (i : Int)) (l.map fun (i : Nat) => V.int (0 + (i : Nat))) := by
  induction l with
  | nil => exact .nil
  | cons a l ih => exact .cons (by show RV L ρ H (PV.int (a : Int)) (V.int (0 + (a : Int))); rw [Int.zero_add]; exact .int _) ih
theorem se_lrg {m : EM PV} {p2 pos2 : Pos} (F : FX C X k) (hc : X.calm = true) (hg : Gl X (Str.ofString "list")) (hb : C.P.blts.contains (Str.ofString "list") = true) (hg2 : Gl X (Str.ofString "range")) (hb2 : C.P.blts.contains (Str.ofString "range") = true) (he : PE X a (tE (lr X none) W m)) (hs : isStar a = false) :
    PE X (.Call (.Name (Str.ofString "list") pp) [.Call (.Name (Str.ofString "range") p2) [a] [] pos2] [] pos) (tE (lr X none) W (eUn lrgP m)) := by
  refine impE (pe_listRg hc hg (F.blt _ hb) (prg_1 hg2 (F.blt _ hb2) he (star_no hs))) fun σ H Q h => ?_
  obtain ⟨ρ, env, ih, e1, e2, p⟩ := h
  refine (bindAt (rel := RV (lr X none)) e1 e2 p).mono fun u H1 ⟨ρ1, ih1, x, ex1, h1, r1, p1⟩ => ?_
  unfold lrgP at p1
  split at p1
  · rename_i j
    cases r1
    split at p1
    · rename_i hj
      refine ⟨j, rfl, RgOk.of_le (by decide) (by have := hj.2; omega) (by decide) hj.1, fun l hl => post_lay h1 ?_ p1 hl⟩
      unfold rgV
      rw [Int.sub_zero]
      exact rvs_rg _
    · exact p1.elim
  · exact p1.elim
end
end Z
end
noncomputable section
namespace PySem
theorem meets_enumerate_new1B {v : Value} {o : Obj} {H : Heap → Prop} (B : Begins v o H) :
    Meets (Builtin.«enumerate.__new__» ⟨[.type "enumerate", v], []⟩) (fun _ R s => H s.heap ∧
      R (.ok (.ret (.ref (s.heap.push o).objs.size))) { s with heap := (s.heap.push o).push { cls := .type "enumerate", data := .fields #[.none, .bool false, .ref s.heap.objs.size, rawInt 0, .none, .none] } }) :=
  .of_wp fun prog w A R s h => by
    obtain ⟨hp, g, d, tk, os⟩ := s; obtain ⟨h1, h⟩ := h
    have hsub := sub_enumerate
    have q1 : ∀ {A' : Around} {E : Value → Shared → Prop} {Q : Value → Shared → Prop}, Q (.ref hp.objs.size) ⟨hp.push o, g, d, tk, os⟩ → wpAny (model prog w) A' (pyIter v) Q E ⟨hp, g, d, tk, os⟩ :=
      fun q => B.iter prog w _ _ ⟨hp, g, d, tk, os⟩ _ h1 q
    wp_walk using q1
    refine wpAny_stack_any fun st => wpAny_pure ?_
    split
    · rename_i c _ _ _ _ _
      cases (c == Value.type "enumerate")
      · wp_walk using q1
        exact ⟨_, rfl, h⟩
      · wp_walk using q1
        exact ⟨_, rfl, h⟩
    · wp_walk using q1
      exact ⟨_, rfl, h⟩
section
variable {prog : Program} {w : World} {A : Around} {E : Value → Shared → Prop} {s : Shared}
theorem enum_begins1 {v : Value} {o : Obj} {H : Heap → Prop} {Q : Value → Shared → Prop} (B : Begins v o H) (h1 : H s.heap)
    (h : ∀ h', IsEnum h' (s.heap.objs.size + 1) s.heap.objs.size 0 .none → h'.get? s.heap.objs.size = some o → h'.objs.size = s.heap.objs.size + 2 →
      (∀ b o, s.heap.get? b = some o → h'.get? b = some o) → Q (.ref (s.heap.objs.size + 1)) { s with heap := h' }) :
    wpAny (model prog w) A (call (.type "enumerate") [v]) Q E s := by
  refine callType_new F.called_enumerate (by decide) (F.typeCall_enumerate_1 _) (F.newCall_enumerate_1 _) (fun obj => F.args_object_init_2 obj _) F.entry_enumerate_new
    (meets_enumerate_new1B B) ⟨h1, ?_⟩
  have hz : (s.heap.push o).objs.size = s.heap.objs.size + 1 := Heap.size_push ..
  show _ ∧ _
  rw [hz]
  have he : IsEnum ((s.heap.push o).push { cls := .type "enumerate", data := .fields #[.none, .bool false, .ref s.heap.objs.size, rawInt 0, .none, .none] }) (s.heap.objs.size + 1) s.heap.objs.size 0 .none := by
    have := Heap.get?_push_size (s.heap.push o) (o := { cls := .type "enumerate", data := .fields #[.none, .bool false, .ref s.heap.objs.size, rawInt 0, .none, .none] }) rfl
    rw [hz] at this; exact this
  refine ⟨⟨_, he, rfl⟩, h _ he (Heap.get?_push_of_some _ (Heap.get?_push_size _ B.free)) (by rw [Heap.size_push, hz]) fun b o x => Heap.get?_push_of_some _ (Heap.get?_push_of_some _ x)⟩
theorem pyNext_enumT_end {e it l : Addr} {i : Nat} {items : Array Value} {old : Value} {Q : Option Value → Shared → Prop} (hh : A.handled = none)
    (he : IsEnum s.heap e it i old) (hit : s.heap.IsTupleIter it l i) (hl : s.heap.IsTuple l items) (hx : items[i]? = none)
    (hQ : ∀ h', Heap.ExtBut it s.heap h' → Q none { s with heap := h' }) : wpAny (model prog w) A (pyNext (.ref e)) Q E s := by
  have hT : s.TypeIs (.ref e) "enumerate" := ⟨_, he, rfl⟩
  unfold pyNext
  refine wpAny_bind (wpAny_attempt (wpAny_callSpecial?_slot (name := Str.ofString "__next__") hT F.slot_enumerate_next
    (wpAny_call_entry F.slot_enumerate_next hT F.entry_enumerate_next ?_ (F.args_enumerate_next_1 _))))
  show wpAny _ _ (field (.ref e) 2 >>= _) _ _ _
  refine wpAny_bind (wpAny_field he rfl (x := .ref it) rfl ?_)
  refine wpAny_bind (wpAny_nextOf_tuple_end hh hit hl hx fun h' x he' hx' => ?_)
  obtain ⟨o, ho, hc⟩ := hx'
  refine wpAny_bind (wpAny_isInstance (T := "StopIteration") (b := true) ⟨o, ho, hc⟩ isSubtype_stop ?_)
  exact wpAny_pure (hQ _ he')
end
end PySem
namespace Z
open PySem PySem.Spec PyProof.Rows L2
set_option autoImplicit false
def IteT (K : PySem.W.Frag) (a : Addr) : It :=
  ⟨fun i H => ∃ (xs : List V) (x : V), SqT K H a xs ∧ xs[i]? = some x, fun i H v H' => ∃ T x, v = .ref T ∧ H T = none ∧ H' = upd H T (.tup [.int (i : Nat), x]) ∧ ∀ xs, SqT K H a xs → xs[i]? = some x, fun i H => ∃ xs : List V, SqT K H a xs ∧ xs.length ≤ i⟩
theorem turn_enumT {P : Program} {w : World} {K : PySem.W.Frag} {elts : List Expr} {kk : Nat} {tpos : Pos} (a e it : Addr) :
    Turn P w K (.Tuple elts kk tpos) (IteT K a) [e, it] e (fun i h => (∃ old, IsEnum h e it ((i : Nat) : Int) old) ∧ h.IsTupleIter it a i ∧ e ≠ it ∧ e ≠ a ∧ a ≠ it) where
  mem := by simp
  obj := fun i h st b hb => by
    obtain ⟨⟨old, he⟩, ⟨o, ho, hc, hd⟩, _⟩ := st
    have e' : b = e ∨ b = it := by simpa using hb
    rcases e' with z | z
    · rw [z]; exact ⟨_, he, fun v q => nomatch q⟩
    · rw [z]; exact ⟨o, ho, fun v q => by rw [hd] at q; cases q⟩
  keep := fun i h h' st k => let ⟨⟨old, he⟩, hi, hne⟩ := st; ⟨⟨old, k e (by simp) _ he⟩, hi.at fun o q => k it (by simp) o q, hne⟩
  item := by
    intro X hP hw hK hc i pins s σ H E I hf st hg
    subst hP hw hK
    obtain ⟨⟨old, he⟩, hit, hne, hea, hai⟩ := st
    obtain ⟨xs, x, hq, hx⟩ := hg
    obtain ⟨its, rv, p, hz⟩ := I.tuple hq
    obtain ⟨u, hu, ru⟩ := rv.get hx
    have hel : e < s.heap.objs.size := Heap.lt_size he
    have hil : it < s.heap.objs.size := by obtain ⟨_, q, _⟩ := hit; exact Heap.lt_size q
    have hh : X.A.in1.handled = none := I.ok.hd hc
    have hlt : i < its.toArray.size := by
      rw [List.size_toArray]
      obtain ⟨q, _⟩ := List.getElem?_eq_some_iff.mp hu
      exact q
    refine wpAny_pyNext_enum_itemD (Draws.tuple (prog := X.prog) (w := X.w) hh it a hai its.toArray) he ⟨hit, p⟩ hlt hne (by simp [hne, hea]) fun y h' tk hy ho hst' hT hsz hk => ?_
    have hy : y = u := by
      have hu' : its.toArray[i]? = some u := by simpa using hu
      rw [hu'] at hy; exact (Option.some.inj hy).symm
    subst hy
    obtain ⟨hit', _⟩ := hst'
    refine ⟨_, rfl, wpAny_letOwnedTupleGo_enum (s := { s with heap := h', toks := tk + 1 }) ho fun h'' he' sb => ?_⟩
    have hT2 : h''.get? s.heap.objs.size = some { cls := .type "tuple", data := .seq #[.int i tk, y] } := (sb.2 _ (Nat.ne_of_gt hel)).trans hT
    have new : ObjOk X.prog X.w (upd H s.heap.objs.size (.tup [.int (i : Nat), x])) h'' s.heap.objs.size (.tup [.int (i : Nat), x]) :=
      ⟨by show 2 ≤ sizeLine; decide, [.int i tk, y], .cons ⟨_, rfl⟩ (.cons ru .nil), ⟨_, hT2, rfl, _, rfl⟩⟩
    have I1 : Inv X pins σ (upd H s.heap.objs.size (.tup [.int (i : Nat), x])) { s with heap := h'', toks := tk + 1 } :=
      I.turnedNew (ch := [e, it]) (fun b ob hb q => (sb.2 b (fun z => hb (by simp [z]))).trans (hk b ob (fun z => hb (by simp [z])) (fun z => hb (by simp [z])) q)) hf (Nat.le_refl _) new
    refine ⟨.ref s.heap.objs.size, _, I1, rfl, ⟨_, x, rfl, I.hok.fresh (Nat.le_refl _), rfl, fun ys hy => by rw [I.tuple_inj hy hq]; exact hx⟩, ⟨⟨y, ?_⟩, hit'.at fun o q => (sb.2 it (Ne.symm hne)).trans q, hne, hea, hai⟩, fun b hb => ?_⟩
    · have e1 : ((i + 1 : Nat) : Int) = (i : Int) + 1 := by omega
      rw [e1]; exact he'
    · have hb' : b < s.heap.objs.size := by
        have e' : b = e ∨ b = it := by simpa using hb
        rcases e' with z | z
        · rw [z]; exact hel
        · rw [z]; exact hil
      rw [upd_ne (Nat.ne_of_lt hb')]
      exact (hf b hb).1
  done := by
    intro X hP hw hK hc i pins s σ H E I hf st hg
    subst hP hw hK
    obtain ⟨⟨old, he⟩, hit, hne, hea, hai⟩ := st
    obtain ⟨xs, hq, hx⟩ := hg
    obtain ⟨its, rv, p, hz⟩ := I.tuple hq
    obtain ⟨f0, f1, f2, f3, f4, f5⟩ := hf it (by simp)
    have hl := rv.length
    exact pyNext_enumT_end (I.ok.hd hc) he hit p (by simp; omega) fun h' eb => ⟨rfl, I.turned (t' := s.toks) (fun b o hb q => eb b o hb q) f0 f1 f3 f4 f5⟩
  self := fun A i s Q E st h => let ⟨⟨_, he⟩, _⟩ := st; wpAny_pyIter_enum he h
def iEnumA (K : PySem.W.Frag) (ta : TA) : TI := fun σ H R => ta σ H fun vs H1 => ∃ a, vs = [.ref a] ∧ ((∃ xs, SqL K H1 a xs ∧ R (Ite K a) H1) ∨ ∃ xs, SqT K H1 a xs ∧ R (IteT K a) H1)
theorem pi_enumA {X : Cx} {e : Expr} {ta : TA} {p pos tpos : Pos} {elts : List Expr} {kk : Nat} (hg : Gl X "enumerate") (hm : X.mg "enumerate" = none) (ha : PA X [e] ta) (hs : starEach [e] X.env = [(false, eval e X.env)]) :
    PI X (.Tuple elts kk tpos) (.Call (.Name "enumerate" p) [e] [] pos) (iEnumA X.K ta) := by
  refine ⟨fun pins s σ H R I h => ?_⟩
  refine Call_ (ld_blt I hg hm boot_enumerate (PyProof.Rows.callWith_type1 (thn (ha.run pos pins s σ H _ I h) fun us s1 ⟨vs, H1, I1, r1, q1⟩ => ?_) hs rfl))
  obtain ⟨a, ex, q1⟩ := q1
  subst ex
  cases r1 with
  | cons r rr =>
    cases rr
    cases r
    rcases q1 with ⟨xs, hq, q⟩ | ⟨xs, hq, q⟩
    · obtain ⟨its, rv, p', hz⟩ := I1.list hq
      refine call_enumerate_list p'.isList fun h' he hit hsz hk => wpAny_pyIter_enum he ?_
      have I2 : Inv X pins σ H1 { s1 with heap := h' } := I1.kept (t' := s1.toks) hk
      refine ⟨s1.heap.objs.size + 1, [s1.heap.objs.size + 1, s1.heap.objs.size], _, _, H1, rfl, I2, turn_enum a (s1.heap.objs.size + 1) s1.heap.objs.size, ⟨⟨.none, he⟩, hit, Nat.succ_ne_self _⟩, fun b hb => ?_, q⟩
      have e' : b = s1.heap.objs.size + 1 ∨ b = s1.heap.objs.size := by simpa using hb
      have hle : s1.heap.objs.size ≤ b := by
        rcases e' with z | z
        · rw [z]; exact Nat.le_add_right _ _
        · rw [z]; exact Nat.le_refl _
      exact I1.fpOk hle (I1.hok.fresh hle)
    · obtain ⟨its, rv, p', hz⟩ := I1.tuple hq
      have hal : a < s1.heap.objs.size := by obtain ⟨o, e1, _⟩ := p'; exact Heap.lt_size e1
      refine enum_begins1 (begins_tuple a its.toArray) (show s1.heap.IsTuple a its.toArray from p') fun h' he hit hsz hk => wpAny_pyIter_enum he ?_
      have I2 : Inv X pins σ H1 { s1 with heap := h' } := I1.kept (t' := s1.toks) hk
      refine ⟨s1.heap.objs.size + 1, [s1.heap.objs.size + 1, s1.heap.objs.size], _, _, H1, rfl, I2, turn_enumT a (s1.heap.objs.size + 1) s1.heap.objs.size, ⟨⟨.none, he⟩, ⟨_, hit, rfl, rfl⟩, Nat.succ_ne_self _, Nat.ne_of_gt (Nat.lt_succ_of_lt hal), Nat.ne_of_lt hal⟩, fun b hb => ?_, q⟩
      have e' : b = s1.heap.objs.size + 1 ∨ b = s1.heap.objs.size := by simpa using hb
      have hle : s1.heap.objs.size ≤ b := by
        rcases e' with z | z
        · rw [z]; exact Nat.le_add_right _ _
        · rw [z]; exact Nat.le_refl _
      exact I1.fpOk hle (I1.hok.fresh hle)
def iSeqA (K : PySem.W.Frag) (tl : TE) : TI := fun σ H R => tl σ H fun x H1 => ∃ a, x = .ref a ∧ ((∃ xs, SqL K H1 a xs ∧ R (Itl K a) H1) ∨ ∃ xs, SqT K H1 a xs ∧ R (Itt K a) H1)
theorem pi_seqA {X : Cx} {tg l : Expr} {tl : TE} (hl : PE X l tl) : PI X tg l (iSeqA X.K tl) := by
  refine ⟨fun pins s σ H R I h => ?_⟩
  refine thn (hl.run pins s σ H _ I h) fun v s1 ⟨x, H1, I1, r1, q1⟩ => ?_
  obtain ⟨a, e, q1⟩ := q1
  subst e
  cases r1
  rcases q1 with ⟨xs, hq, q⟩ | ⟨xs, hq, q⟩
  · obtain ⟨its, rv, p, hz⟩ := I1.list hq
    refine wpAny_pyIter_list p.isList ?_
    refine ⟨s1.heap.objs.size, [s1.heap.objs.size], _, _, H1, rfl, I1.kept (t' := s1.toks) fun b o e => Heap.get?_push_of_some _ e, turn_list a _, ⟨_, Heap.get?_push_size _ rfl, rfl, rfl⟩, fun b hb => ?_, q⟩
    have e : b = s1.heap.objs.size := by simpa using hb
    subst e
    exact I1.fpOk (Nat.le_refl _) (I1.hok.fresh (Nat.le_refl _))
  · obtain ⟨its, rv, p, hz⟩ := I1.tuple hq
    refine wpAny_pyIter_tuple (show s1.heap.IsTuple a its.toArray from p) ?_
    refine ⟨s1.heap.objs.size, [s1.heap.objs.size], _, _, H1, rfl, I1.kept (t' := s1.toks) fun b o e => Heap.get?_push_of_some _ e, turn_tuple a _, ⟨_, Heap.get?_push_size _ rfl, rfl, rfl⟩, fun b hb => ?_, q⟩
    have e : b = s1.heap.objs.size := by simpa using hb
    subst e
    exact I1.fpOk (Nat.le_refl _) (I1.hok.fresh (Nat.le_refl _))
end Z
end
noncomputable section
namespace Z
open PySem PySem.Spec PyProof.Rows L2
set_option autoImplicit false

abbrev GM := PV → Sl → IH → R Sl
def gFail : GM := fun _ _ _ => .fail
def gNm (i : Nat) : GM := fun x env ih => .ok (env.set i (some x)) ih
def gFldM (ok : Str → Str → Bool) (o : EM PV) (f : Str) : GM := fun v env ih => match o env ih with
  | .ok x h => match sfldP ok x f v h with
    | some h' => .ok env h'
    | none => .fail
  | _ => .fail
def gIxM (o i : EM PV) : GM := fun v env ih => match o env ih with
  | .ok x h => match i env h with
    | .ok y h2 => match setP x y v h2 with
      | some h' => .ok env h'
      | none => .fail
    | _ => .fail
  | _ => .fail
def goG : List GM → List PV → Sl → IH → R Sl
  | [], [], env, ih => .ok env ih
  | g :: gs, x :: xs, env, ih => match g x env ih with
    | .ok e h => goG gs xs e h
    | _ => .fail
  | _, _, _, _ => .fail
def gTupM (gs : List GM) : GM := fun v env ih => match v with
  | .tup xs => if xs.length = gs.length then goG gs xs env ih else .fail
  | _ => .fail
def sAsg (m : EM PV) (g : GM) : SM := sWith m fun x env ih => match g x env ih with
  | .ok e h => .nx e h
  | _ => .fail
def augP : Operator → PV → PV → IH → R PV
  | .Add, .int i, .int j, ih => .ok (.int (i + j)) ih
  | .Sub, .int i, .int j, ih => .ok (.int (i - j)) ih
  | _, _, _, _ => .fail
def fldC (ok : Str → Str → Bool) (x : PV) (f : Str) : EM (Str × PV) := fun _ ih => match x with
  | .ref n => match getI ih n with
    | some (c, fs) => if ok c f = true then (match fs.lookup f with
      | some v => .ok (c, v) ih
      | none => .fail) else .fail
    | none => .fail
  | _ => .fail
def clsAt (ih : IH) : PV → Option Str
  | .ref n => (getI ih n).map (·.1)
  | _ => none
def sAugF (ok : Str → Str → Bool) (p : PV → PV → IH → R PV) (o : EM PV) (f : Str) (m : EM PV) : SM := sWith o fun x => sWith (fldC ok x f) fun cv => sWith m fun w => sWith (fun _ ih => p cv.2 w ih) fun z env h =>
  if clsAt h x = some cv.1 then (match sfldP ok x f z h with
    | some h' => .nx env h'
    | none => .fail) else .fail
def loopGo (s : Src) (g : GM) (b : SM) : Nat → Nat → SM
  | 0, _ => sFail
  | n + 1, i => fun env ih => match s.at_ i ih with
    | none => .fail
    | some none => .nx env ih
    | some (some x) => match g x env ih with
      | .ok e1 h1 => match b e1 h1 with
        | .nx e h => loopGo s g b n (i + 1) e h
        | .cnt e h => loopGo s g b n (i + 1) e h
        | .brk e h => .nx e h
        | r => r
      | _ => .fail
def sLoop (F : Nat) (src : EM Src) (g : GM) (b : SM) : SM := sWith src fun s => loopGo s g b F 0
def dkeys (kvs : List (Key × PV)) : List PV := kvs.map fun kv => keyPV kv.1
def unlk (n : Nat) (kvs : List (Key × PV)) : RS → RS
  | .nx e h => .nx e (h.set n (.dK kvs))
  | .brk e h => .brk e (h.set n (.dK kvs))
  | .cnt e h => .cnt e (h.set n (.dK kvs))
  | .ret v h => .ret v (h.set n (.dK kvs))
  | .exc c fs e h => .exc c fs e h
  | .fail => .fail
def sLoopK (F i : Nat) (g : GM) (b : SM) : SM := fun env ih => match env[i]? with
  | some (some (.ref n)) => match ih[n]? with
    | some (.dK kvs) => unlk n kvs (loopGo (.vals (dkeys kvs)) g b F 0 env (ih.set n (.fdK "__debug__" kvs)))
    | some (.fdK _ kvs) => loopGo (.vals (dkeys kvs)) g b F 0 env ih
    | _ => .fail
  | _ => .fail

section
variable (L : Rl) (W : WX)
def PostS (D : Ends) (ρ : List Addr) (H : Hp) : RS → Prop
  | .nx env ih => ∀ ρ' H' σ', Ext ρ H ρ' H' → RH L ρ' H' ih → RE L ρ' H' env σ' → D.nx σ' H'
  | .brk env ih => ∀ ρ' H' σ', Ext ρ H ρ' H' → RH L ρ' H' ih → RE L ρ' H' env σ' → D.bk σ' H'
  | .cnt env ih => ∀ ρ' H' σ', Ext ρ H ρ' H' → RH L ρ' H' ih → RE L ρ' H' env σ' → D.ct σ' H'
  | .ret v ih => ∀ ρ' H' u, Ext ρ H ρ' H' → RH L ρ' H' ih → RV L ρ' H' v u → D.rt u H'
  | .exc c fs env ih => ∀ ρ' H' σ' d, Ext ρ H ρ' H' → RH L ρ' H' ih → RE L ρ' H' env σ' → XD L ρ' H' d fs → W (.ref (He.ga L.K c)) d σ' H'
  | .fail => False
def tS (m : SM) : TS := fun D σ H => ∃ ρ env ih, RE L ρ H env σ ∧ RH L ρ H ih ∧ PostS L W D ρ H (m env ih)
def PostG (Q : L2.St → Hp → Prop) (ρ : List Addr) (H : Hp) : R Sl → Prop
  | .ok env ih => ∀ ρ' H' σ', Ext ρ H ρ' H' → RH L ρ' H' ih → RE L ρ' H' env σ' → Q σ' H'
  | _ => False
def tM (g : GM) : TG := fun v σ H Q => ∃ ρ env ih x, RE L ρ H env σ ∧ RH L ρ H ih ∧ RV L ρ H x v ∧ PostG L Q ρ H (g x env ih)
def tMs (gs : List GM) : TGs := fun vs σ H Q => ∃ ρ env ih xs, RE L ρ H env σ ∧ RH L ρ H ih ∧ RVs L ρ H xs vs ∧ PostG L Q ρ H (goG gs xs env ih)
end
section
variable {α β : Type} {L : Rl} {W : WX} {σ : L2.St} {rel : List Addr → Hp → α → β → Prop} {D : Ends} {ρ ρ1 : List Addr} {H H1 : Hp}
theorem PostS.ext {r : RS} (h : PostS L W D ρ H r) (e : Ext ρ H ρ1 H1) : PostS L W D ρ1 H1 r := by
  cases r with
  | nx env ih => exact fun ρ' H' u e' => h ρ' H' u (e.trans e')
  | brk env ih => exact fun ρ' H' u e' => h ρ' H' u (e.trans e')
  | cnt env ih => exact fun ρ' H' u e' => h ρ' H' u (e.trans e')
  | ret v ih => exact fun ρ' H' u e' => h ρ' H' u (e.trans e')
  | exc c fs env ih => exact fun ρ' H' σ' d e' => h ρ' H' σ' d (e.trans e')
  | fail => exact h
theorem PostG.ext {Q : L2.St → Hp → Prop} {r : R Sl} (h : PostG L Q ρ H r) (e : Ext ρ H ρ1 H1) : PostG L Q ρ1 H1 r := by
  cases r with
  | ok env ih => exact fun ρ' H' u e' => h ρ' H' u (e.trans e')
  | exc c fs ih => exact h
  | fail => exact h
theorem withAt {m : EM α} {k : α → SM} {env : Sl} {ih : IH} (e1 : RE L ρ H env σ) (e2 : RH L ρ H ih) (h : PostS L W D ρ H (sWith m k env ih)) :
    tG L W rel m σ H fun u H1 => ∃ ρ1 ih1 x, Ext ρ H ρ1 H1 ∧ RH L ρ1 H1 ih1 ∧ rel ρ1 H1 x u ∧ PostS L W D ρ1 H1 (k x env ih1) := by
  refine ⟨ρ, env, ih, e1, e2, ?_⟩
  unfold sWith at h
  revert h
  cases m env ih with
  | ok v ih' => exact fun h ρ' H' u e h' r' => ⟨ρ', ih', v, e, h', r', h.ext e⟩
  | exc c fs ih' => exact fun h ρ' H' d e h' x => h ρ' H' σ d e h' (e1.mono e) x
  | fail => exact fun h => h
theorem PostG.here {Q : L2.St → Hp → Prop} {env : Sl} {ih : IH} (h : PostG L Q ρ H (.ok env ih)) (a : RH L ρ H ih) (b : RE L ρ H env σ) : Q σ H := h ρ H σ (Ext.refl _ _) a b
theorem PostS.next {env : Sl} {ih : IH} (h : PostS L W D ρ H (.nx env ih)) (a : RH L ρ H ih) (b : RE L ρ H env σ) : D.nx σ H := h ρ H σ (Ext.refl _ _) a b
end
section
variable {X : Cx} {L : Rl} {W : WX} {e a b c o i : Expr} {pos pp pos' : Pos} {me ma mo mi : EM PV} {st st2 : Stmt} {rest body : List Stmt} {ms mt : SM} {C : Cfg}
theorem noS : PS X st (tS L W sFail) := ⟨fun _ _ _ _ _ _ ⟨_, _, _, _, _, z⟩ => z.elim⟩
theorem noSs : PSs X rest (tS L W sFail) := ⟨fun _ _ _ _ _ _ ⟨_, _, _, _, _, z⟩ => z.elim⟩
theorem noG : PG X e (tM L gFail) := ⟨fun _ _ _ _ _ _ _ _ _ ⟨_, _, _, _, _, _, _, z⟩ => z.elim⟩
theorem ss_nil : PSs X [] (tS L W sNext) := impSs pss_nil fun D σ H ⟨ρ, env, ih, e1, e2, p⟩ => PostS.next p e2 e1
theorem ss_cons (h1 : PS X st (tS L W ms)) (h2 : PSs X rest (tS L W mt)) : PSs X (st :: rest) (tS L W (sSeq ms mt)) := by
  refine impSs (pss_cons h1 h2) fun D σ H ⟨ρ, env, ih, e1, e2, p⟩ => ⟨ρ, env, ih, e1, e2, ?_⟩
  unfold sSeq at p
  revert p
  cases ms env ih with
  | nx env' ih' => exact fun p ρ' H' σ' ex h' re => ⟨ρ', env', ih', re, h', p.ext ex⟩
  | brk env' ih' => exact fun p => p
  | cnt env' ih' => exact fun p => p
  | ret v ih' => exact fun p => p
  | exc c fs env' ih' => exact fun p => p
  | fail => exact fun p => p
theorem s_pass : PS X (.Pass pos) (tS L W sNext) := impS ps_pass fun D σ H ⟨ρ, env, ih, e1, e2, p⟩ => PostS.next p e2 e1
def sBrk : SM := fun env ih => .brk env ih
def sCnt : SM := fun env ih => .cnt env ih
theorem s_brk : PS X (.Break pos) (tS L W sBrk) := impS ps_break fun D σ H ⟨ρ, env, ih, e1, e2, p⟩ => p ρ H σ (Ext.refl _ _) e2 e1
theorem s_cnt : PS X (.Continue pos) (tS L W sCnt) := impS ps_continue fun D σ H ⟨ρ, env, ih, e1, e2, p⟩ => p ρ H σ (Ext.refl _ _) e2 e1
theorem s_expr (he : PE X e (tE L W me)) (hs : swapsWith e none pos.line X.env = pure false) : PS X (.Expr e pos) (tS L W (sDrop me)) :=
  impS (ps_expr he hs) fun D σ H ⟨ρ, env, ih, e1, e2, p⟩ => (withAt (rel := RV L) e1 e2 p).mono fun u H1 ⟨ρ1, ih1, x, ex, h1, r1, p1⟩ => PostS.next p1 h1 (e1.mono ex)
theorem s_ret (he : PE X e (tE L W me)) : PS X (.Return (some e) pos) (tS L W (sRet me)) :=
  impS (ps_ret he) fun D σ H ⟨ρ, env, ih, e1, e2, p⟩ => (withAt (rel := RV L) e1 e2 p).mono fun u H1 ⟨ρ1, ih1, x, ex, h1, r1, p1⟩ => p1 ρ1 H1 u (Ext.refl _ _) h1 r1
theorem s_retN : PS X (.Return none pos) (tS L W (sRet (eC .non))) :=
  impS ps_retN fun D σ H ⟨ρ, env, ih, e1, e2, p⟩ => p ρ H .non (Ext.refl _ _) e2 .non
theorem s_if {t : EM Bool} {p q : List Stmt} (hc : PT X c (tT L W t)) (ha : PSs X p (tS L W ms)) (hb : PSs X q (tS L W mt)) : PS X (.If c p q pos) (tS L W (sIf t ms mt)) :=
  impS (ps_if hc ha hb) fun D σ H ⟨ρ, env, ih, e1, e2, p⟩ => (withAt (rel := relB) e1 e2 p).mono fun k H1 ⟨ρ1, ih1, x, ex, h1, r1, p1⟩ => by
    have r1 : x = k := r1
    subst r1
    cases x with
    | true => rw [if_pos rfl] at p1 ⊢; exact ⟨ρ1, env, ih1, e1.mono ex, h1, p1⟩
    | false => rw [if_neg Bool.false_ne_true] at p1 ⊢; exact ⟨ρ1, env, ih1, e1.mono ex, h1, p1⟩

theorem impG {e : Expr} {t t' : TG} (h : PG X e t) (k : ∀ v σ H Q, t' v σ H Q → t v σ H Q) : PG X e t' := ⟨fun pins s σ H v u Q I r q => h.run pins s σ H v u Q I r (k v σ H Q q)⟩
theorem impGs {e : List Expr} {t t' : TGs} (h : PGs X e t) (k : ∀ v σ H Q, t' v σ H Q → t v σ H Q) : PGs X e t' := ⟨fun pins s σ H v u Q I r q => h.run pins s σ H v u Q I r (k v σ H Q q)⟩
theorem g_nm {i : Nat} {x : Str} (hN : X.N.Nodup) (hi : X.N[i]? = some x) (hx : Loc X.env.scope x) (hf : X.fn x = true ∨ X.env.scope.names.lookup x = some .local) : PG X (.Name x pos) (tM L (gNm i)) :=
  impG (pg_name hN hi hx hf) fun v σ H Q ⟨ρ, env, ih, x, e1, e2, r, p⟩ => PostG.here (σ := σ.set i (some v)) p e2 (e1.set r)
theorem gs_nil : PGs X [] (tMs L []) := impGs pgs_nil fun vs σ H Q ⟨ρ, env, ih, xs, e1, e2, r, p⟩ => by
  cases xs with
  | nil => cases r; exact ⟨rfl, PostG.here p e2 e1⟩
  | cons x xs => exact p.elim
theorem gs_cons {es : List Expr} {g : GM} {gs : List GM} (h1 : PG X e (tM L g)) (h2 : PGs X es (tMs L gs)) (hs : (assignEach (e :: es) X.env).map (·.2) = assign e X.env :: (assignEach es X.env).map (·.2)) : PGs X (e :: es) (tMs L (g :: gs)) :=
  impGs (pgs_cons h1 h2 hs) fun vs σ H Q ⟨ρ, env, ih, xs, e1, e2, r, p⟩ => by
    cases xs with
    | nil => exact p.elim
    | cons x xs =>
      cases r with
      | cons r t =>
        refine ⟨_, _, rfl, ρ, env, ih, x, e1, e2, r, ?_⟩
        unfold goG at p
        revert p
        cases g x env ih with
        | ok env' ih' => exact fun p ρ' H' σ' ex h' re => ⟨ρ', env', ih', xs, re, h', t.mono ex, p.ext ex⟩
        | exc c fs ih' => exact fun p => p.elim
        | fail => exact fun p => p.elim
theorem g_tup {ex : Option (Addr × Str × Option Addr)} {es : List Expr} {kk : Nat} {gs : List GM} (hc : X.calm = true) (h : PGs X es (tMs (lr X ex) gs)) (hn : (assignEach es X.env).length = gs.length) (hst : (assignEach es X.env).findIdx? (·.1) = none) : PG X (.Tuple es kk pos) (tM (lr X ex) (gTupM gs)) := by
  refine impG (pg_tup hc h hn hst) fun v σ H Q ⟨ρ, env, ih, x, e1, e2, r, p⟩ => ?_
  cases x with
  | tup xs =>
    obtain ⟨a, vs, rfl, k1, k2⟩ := rv_tup r
    simp only [gTupM] at p
    split at p
    · rename_i hl
      exact ⟨a, vs, rfl, k1, by rw [← k2.length]; exact hl, ρ, env, ih, xs, e1, e2, k2, p⟩
    · exact p.elim
  | _ => exact p.elim
theorem pg_fld {f : Str} {to : TE} (ho : PE X o to) : PG X (.Attribute o f pos) (fun v σ H Q => to σ H fun x H1 => ∃ a C dx fs, x = .ref a ∧ H1 a = some (.ins C dx fs) ∧ Cls X.K C ∧ NoAttr X.K C f ∧ fs.length < 1000 ∧ Q σ (upd H1 a (.ins C dx (putF f v fs)))) := by
  refine ⟨fun pins s σ H v u Q I r h => ?_⟩
  show wpAny _ _ (do
    let ov ← holding [u] (eval o X.env)
    standAt pos.atName
    holding [u, ov] (setAttr ov f u)
    release [u, ov] []) _ _ _
  refine wpAny_bind (wpAny_holding (thn (ho.run pins s σ H _ I h) fun ov s1 ⟨x, H1, I1, r1, a, C, dx, fs, ex, ea, c, n, l, q⟩ => ?_))
  subst ex
  obtain rfl : ov = Value.ref a := r1
  refine wpAny_bind (wpAny_standAt (wpAny_bind (wpAny_holding (setattr_ok I1 ea c n l r fun s3 I3 => ?_))))
  exact wpAny_release ⟨σ, _, I3, q⟩
theorem sfld_at {ex : Option (Addr × Str × Option Addr)} {ok : Str → Str → Bool} (F : FldOk X.K ok) {f : Str} {ρ : List Addr} {H : Hp} {ih ih' : IH} {x v : PV} {u w : V} (h : RH (lr X ex) ρ H ih) (rx : RV (lr X ex) ρ H x u) (rv : RV (lr X ex) ρ H v w) (e : sfldP ok x f v ih = some ih') :
    ∃ a C dx fs, u = .ref a ∧ H a = some (.ins C dx fs) ∧ Cls X.K C ∧ NoAttr X.K C f ∧ fs.length < 1000 ∧ RH (lr X ex) ρ (upd H a (.ins C dx (putF f w fs))) ih' ∧ Ext ρ H ρ (upd H a (.ins C dx (putF f w fs))) := by
  cases x with
  | ref n =>
    obtain ⟨a, rfl, ea⟩ := rv_ref rx
    simp only [sfldP] at e
    split at e
    · rename_i c fs q
      obtain ⟨dx, fs', k1, k2⟩ := getI_at h q ea
      split at e
      · rename_i hok
        cases e
        obtain ⟨c1, c2⟩ := F c f hok.1
        have nf : ∀ o v, H a ≠ some (.frz o v) := by intro o v z; rw [k1] at z; cases z
        have ex1 := ext_write (u := .ins (He.ga X.K c) dx (putF f w fs')) h ea nf
        exact ⟨a, _, dx, fs', rfl, k1, c1, c2, by rw [← rfs_len k2]; exact hok.2, h.write ea nf ⟨dx, _, upd_same, (rfs_put f rv k2).mono ex1⟩, ex1⟩
      · cases e
    · cases e
  | _ => cases e
theorem g_fld {ex : Option (Addr × Str × Option Addr)} {ok : Str → Str → Bool} (F : FldOk X.K ok) {f : Str} (ho : PE X o (tE (lr X ex) (fun _ _ _ _ => False) mo)) : PG X (.Attribute o f pos) (tM (lr X ex) (gFldM ok mo f)) := by
  refine impG (pg_fld ho) fun v σ H Q ⟨ρ, env, ih, x, e1, e2, r, p⟩ => ⟨ρ, env, ih, e1, e2, ?_⟩
  unfold gFldM at p
  revert p
  cases mo env ih with
  | ok y ih' =>
    intro p ρ' H' u ex h' ru
    dsimp only at p
    split at p
    · rename_i ih2 e
      obtain ⟨a, Cc, dx, fs, rfl, k1, k2, k3, k4, k5, k6⟩ := sfld_at F h' ru (r.mono ex) e
      exact ⟨a, Cc, dx, fs, rfl, k1, k2, k3, k4, p _ _ _ (ex.trans k6) k5 ((e1.mono ex).mono k6)⟩
    · exact p.elim
  | exc c fs ih' => exact fun p => p.elim
  | fail => exact fun p => p.elim
def rSetN (w : World) (K : PySem.W.Frag) : TSet := fun o i v H Q => ∃ a b k xs, o = .ref a ∧ i = .ref b ∧ ZN.IsN w H a xs ∧ ZN.KeysN K H xs ∧ ZN.NK K H k (.ref b) ∧ k.depth ≤ 8 ∧ xs.length < sizeLine ∧ ∀ r, RelV v r → Q (upd H a (ZN.NestO w a (storedH xs k b r)))
theorem set_nest (hu : X.A.units + 9 < cLine) : PSet X (rSetN X.w X.K) := fun pins s σ H o i v ov iv u Q I ro ri rv h => by
  obtain ⟨a, b, k, xs, rfl, rfl, e, ks, hk, hd, hl, q⟩ := h
  cases ro; cases ri
  exact ZN.set_N hu I e ks hk hd hl fun s' I' => ⟨_, I', q _ rv⟩
def rSetA (w : World) (K : PySem.W.Frag) : TSet := fun o i v H Q => rSetL o i v H Q ∨ rSetD o i v H Q ∨ rSetN w K o i v H Q
theorem set_any (hu : X.A.units + 9 < cLine) : PSet X (rSetA X.w X.K) := fun pins s σ H o i v ov iv u Q I ro ri rv h => h.elim (fun h => set_list pins s σ H o i v ov iv u Q I ro ri rv h) fun h => h.elim (fun h => set_dict (Nat.lt_of_le_of_lt (by omega) hu) pins s σ H o i v ov iv u Q I ro ri rv h) fun h => set_nest hu pins s σ H o i v ov iv u Q I ro ri rv h
theorem wr_dN {L : Rl} {ρ : List Addr} {H : Hp} {ih : IH} {n : Nat} {a : Addr} {kvs : List (PV × PV)} {es : List ZN.En} (h : RH L ρ H ih) (ea : ρ[n]? = some a) (hf : ∀ o v, H a ≠ some (.frz o v)) (r : RNs L ρ H kvs es) : RH L ρ (upd H a (ZN.NestO L.w a es)) (ih.set n (.dN kvs)) ∧ Ext ρ H ρ (upd H a (ZN.NestO L.w a es)) := by
  have x := ext_write (u := ZN.NestO L.w a es) h ea hf
  exact ⟨h.write ea hf ⟨es, upd_same, r.keep x.kp⟩, x⟩
theorem post_set {ex : Option (Addr × Str × Option Addr)} {ρ : List Addr} {H : Hp} {ih ih' : IH} {x y v : PV} {u w z : V} {Q : Hp → Prop} (h : RH (lr X ex) ρ H ih) (rx : RV (lr X ex) ρ H x u) (ry : RV (lr X ex) ρ H y w) (rv : RV (lr X ex) ρ H v z) (e : setP x y v ih = some ih')
    (k : ∀ H', Ext ρ H ρ H' → RH (lr X ex) ρ H' ih' → Q H') : rSetA X.w X.K u w z H Q := by
  cases x with
  | ref n =>
    obtain ⟨a, rfl, ea⟩ := rv_ref rx
    simp only [setP] at e
    split at e
    · rename_i xs q
      obtain ⟨vs, k1, k2⟩ := h.ob n a _ ea q
      split at e
      · rename_i kk
        cases ry
        split at e
        · rename_i j ej
          cases e
          obtain ⟨z1, z2⟩ := wr_lst h ea k1 (RVs.set rv j k2)
          exact .inl ⟨a, vs, kk, j, rfl, rfl, k1, by rw [← k2.length]; exact ej, k _ z2 z1⟩
        · cases e
      · cases e
    · rename_i kvs q
      obtain ⟨vs, k1, k2⟩ := h.ob n a _ ea q
      split at e
      · rename_i kk ek
        have eu := keyOf_v ek ry
        subst eu
        split at e
        · rename_i hl
          cases e
          obtain ⟨z1, z2⟩ := wr_dK h ea k1 (rks_put k2 kk rv)
          exact .inr (.inl ⟨a, _, rfl, DPut.k k1 (by rw [← rks_len k2, sizeLine_eq]; exact hl), k _ z2 z1⟩)
        · cases e
      · split at e
        · rename_i kk ek
          split at e
          · rename_i hemp
            cases e
            obtain ⟨b, rfl, hk, hd⟩ := nkOf_rv ek ry
            obtain ⟨hc, _, _⟩ := nkOf_ck ek
            have hn : kvs = [] := by simpa using hemp
            subst hn
            cases k2
            refine .inr (.inr ⟨a, b, kk, [], rfl, rfl, .inr ⟨k1, rfl⟩, fun x hx => absurd hx (by simp), hk, hd, by rw [sizeLine_eq]; simp, fun r rr => ?_⟩)
            obtain ⟨z1, z2⟩ := wr_dN (L := lr X ex) h ea (fun o v q => by rw [k1] at q; cases q) (.cons hc hd ry rv rr .nil)
            exact k _ z2 z1
          · cases e
        · cases e
    · rename_i kvs q
      obtain ⟨es, k1, k2⟩ := h.ob n a _ ea q
      split at e
      · rename_i kk ek
        split at e
        · rename_i hl
          cases e
          obtain ⟨b, rfl, hk, hd⟩ := nkOf_rv ek ry
          obtain ⟨hc, _, _⟩ := nkOf_ck ek
          refine .inr (.inr ⟨a, b, kk, es, rfl, rfl, .inl k1, rns_keys k2, hk, hd, by rw [← rns_len k2, sizeLine_eq]; exact hl, fun r rr => ?_⟩)
          obtain ⟨z1, z2⟩ := wr_dN (L := lr X ex) h ea (fun o v q => by rw [k1] at q; unfold ZN.NestO at q; cases q) (rns_put k2 ry hc hd rv rr)
          exact k _ z2 z1
        · cases e
      · cases e
    · cases e
  | _ => cases e
def isSl : Expr → Bool
  | .Slice .. => true
  | _ => false
theorem g_ix {ex : Option (Addr × Str × Option Addr)} (hu : X.A.units + 9 < cLine) (ho : PE X o (tE (lr X ex) (fun _ _ _ _ => False) mo)) (hi : PE X i (tE (lr X ex) (fun _ _ _ _ => False) mi)) (hs : isSl i = false) : PG X (.Subscript o i pos) (tM (lr X ex) (gIxM mo mi)) := by
  refine impG (pg_sub ho hi (set_any hu) ?_) fun v σ H Q ⟨ρ, env, ih, x, e1, e2, r, p⟩ => ⟨ρ, env, ih, e1, e2, ?_⟩
  · intro v
    cases i with
    | Slice lo hi st p => cases hs
    | _ => rfl
  unfold gIxM at p
  revert p
  cases mo env ih with
  | ok y ih' =>
    intro p ρ' H' u ex h' ru
    refine ⟨ρ', env, ih', e1.mono ex, h', ?_⟩
    dsimp only at p
    revert p
    cases mi env ih' with
    | ok y2 ih2 =>
      intro p ρ2 H2 u2 ex2 h2 ru2
      dsimp only at p
      split at p
      · rename_i ih3 e
        exact post_set h2 (ru.mono ex2) ru2 (r.mono (ex.trans ex2)) e fun H3 ex3 h3 => p _ _ _ ((ex.trans ex2).trans ex3) h3 ((e1.mono (ex.trans ex2)).mono ex3)
      · exact p.elim
    | exc c fs ih' => exact fun p => p.elim
    | fail => exact fun p => p.elim
  | exc c fs ih' => exact fun p => p.elim
  | fail => exact fun p => p.elim

theorem tS_asg {g : GM} {D : Ends} {σ : L2.St} {H : Hp} (h : tS L W (sAsg me g) D σ H) : tAsg (tE L W me) (tM L g) D σ H := by
  obtain ⟨ρ, env, ih, e1, e2, p⟩ := h
  refine (withAt (rel := RV L) e1 e2 p).mono fun u H1 ⟨ρ1, ih1, x, ex, h1, r1, p1⟩ => ⟨ρ1, env, ih1, x, e1.mono ex, h1, r1, ?_⟩
  revert p1
  cases g x env ih1 with
  | ok e h => exact fun p => p
  | exc c fs h => exact fun p => p.elim
  | fail => exact fun p => p.elim
theorem s_asg {g : GM} (he : PE X e (tE L W me)) (hg : PG X a (tM L g)) (hs : swapsWithSole [a] e pos.line X.env = pure false) (hw : swappedStores [a] e X.env = pure none) (h1 : (assignEach [a] X.env).map (·.2) = [assign a X.env]) :
    PS X (.Assign [a] e pos) (tS L W (sAsg me g)) := impS (ps_asg he hg hs hw h1) fun D σ H h => tS_asg h
theorem s_set {i : Nat} {x : Str} (hN : X.N.Nodup) (hi : X.N[i]? = some x) (hx : Loc X.env.scope x) (he : PE X e (tE L W me)) (hs : swapsWith e (some (.Name x pos')) pos.line X.env = pure false) (hf : X.fn x = true ∨ X.env.scope.names.lookup x = some .local) :
    PS X (.Assign [.Name x pos'] e pos) (tS L W (sAsg me (gNm i))) := by
  refine impS (ps_set hN hi hx he hs hf) fun D σ H ⟨ρ, env, ih, e1, e2, p⟩ => ?_
  exact (withAt (rel := RV L) e1 e2 p).mono fun u H1 ⟨ρ1, ih1, x, ex, h1, r1, p1⟩ => PostS.next (σ := σ.set i (some u)) p1 h1 ((e1.mono ex).set r1)
theorem s_par {i j : Nat} {x y : Str} {me : EM (List PV)} {px py pt : Pos} {kt k2 pt2} (hc : X.calm = true) (hN : X.N.Nodup) (hi : X.N[i]? = some x) (hj : X.N[j]? = some y) (hij : i ≠ j)
    (hx : X.env.scope.names.lookup x = some .local) (hy : X.env.scope.names.lookup y = some .local) (ha : PA X [a, b] (tA L W me))
    (hw : swappedStores [.Tuple [.Name x px, .Name y py] kt pt] (.Tuple [a, b] k2 pt2) X.env = pure (some [x, y])) :
    PS X (.Assign [.Tuple [.Name x px, .Name y py] kt pt] (.Tuple [a, b] k2 pt2) pos) (tS L W (sPar [i, j] me)) := by
  refine impS (ps_par hc hN hi hj hij hx hy ha hw rfl) fun D σ H ⟨ρ, env, ih, e1, e2, p⟩ => ?_
  refine (withAt (rel := RVs L) e1 e2 p).mono fun us H1 ⟨ρ1, ih1, xs, ex, h1, r1, p1⟩ => ?_
  split at p1
  · rename_i hl
    match xs, us, r1 with
    | [x1, x2], _, .cons r (.cons r2 .nil) => exact ⟨_, _, rfl, PostS.next p1 h1 (((e1.mono ex).set r).set r2)⟩
    | [], _, .nil => cases hl
    | [_], _, .cons _ .nil => cases hl
    | _ :: _ :: _ :: _, _, _ => simp at hl
  · exact p1.elim
theorem s_par3 {i j l : Nat} {x y z : Str} {me : EM (List PV)} {px py pz pt : Pos} {kt k2 pt2} (hc : X.calm = true) (hN : X.N.Nodup) (hi : X.N[i]? = some x) (hj : X.N[j]? = some y) (hl : X.N[l]? = some z) (hij : i ≠ j) (hil : i ≠ l) (hjl : j ≠ l)
    (hx : X.env.scope.names.lookup x = some .local) (hy : X.env.scope.names.lookup y = some .local) (hz : X.env.scope.names.lookup z = some .local) (ha : PA X [a, b, c] (tA L W me))
    (hw : swappedStores [.Tuple [.Name x px, .Name y py, .Name z pz] kt pt] (.Tuple [a, b, c] k2 pt2) X.env = pure (some [x, y, z])) :
    PS X (.Assign [.Tuple [.Name x px, .Name y py, .Name z pz] kt pt] (.Tuple [a, b, c] k2 pt2) pos) (tS L W (sPar [i, j, l] me)) := by
  refine impS (ps_par3 hc hN hi hj hl hij hil hjl hx hy hz ha hw rfl) fun D σ H ⟨ρ, env, ih, e1, e2, p⟩ => ?_
  refine (withAt (rel := RVs L) e1 e2 p).mono fun us H1 ⟨ρ1, ih1, xs, ex, h1, r1, p1⟩ => ?_
  split at p1
  · rename_i hl
    match xs, us, r1 with
    | [x1, x2, x3], _, .cons r (.cons r2 (.cons r3 .nil)) => exact ⟨_, _, _, rfl, PostS.next p1 h1 ((((e1.mono ex).set r).set r2).set r3)⟩
    | [], _, .nil => cases hl
    | [_], _, .cons _ .nil => cases hl
    | [_, _], _, .cons _ (.cons _ .nil) => cases hl
    | _ :: _ :: _ :: _ :: _, _, _ => simp at hl
  · exact p1.elim
def ipA (op : Operator) : TIp := fun x y H Q => ∃ i j, x = .int i ∧ y = .int j ∧ ((op = .Add ∧ Q (.int (i + j)) H) ∨ (op = .Sub ∧ Q (.int (i - j)) H))
theorem ip_any (op : Operator) : PIp X op (ipA op) := by
  intro pins s σ H x y v u Q I r1 r2 h
  obtain ⟨i, j, rfl, rfl, h⟩ := h
  rcases h with ⟨rfl, q⟩ | ⟨rfl, q⟩
  · exact ip_add pins s σ H _ _ v u Q I r1 r2 ⟨i, j, rfl, rfl, q⟩
  · exact ip_sub pins s σ H _ _ v u Q I r1 r2 ⟨i, j, rfl, rfl, q⟩
theorem p2_aug {op : Operator} : P2 L W (augP op) (ipA op) := by
  intro σ Q ρ H ih x y u v h r1 r2 p
  unfold augP at p
  split at p
  · cases r1; cases r2; exact ⟨_, _, rfl, rfl, .inl ⟨rfl, p.here h (.int _)⟩⟩
  · cases r1; cases r2; exact ⟨_, _, rfl, rfl, .inr ⟨rfl, p.here h (.int _)⟩⟩
  · exact p.elim
theorem withP2 {p : PV → PV → IH → R PV} {r : R2} {k : PV → SM} {env : Sl} {D : Ends} {σ : L2.St} {ρ : List Addr} {H : Hp} {ih : IH} {x y : PV} {u v : V} (hp : P2 L W p r) (e1 : RE L ρ H env σ) (h : RH L ρ H ih) (rx : RV L ρ H x u) (ry : RV L ρ H y v) (q : PostS L W D ρ H (sWith (fun _ ih => p x y ih) k env ih)) :
    r u v H fun w H1 => ∃ ρ1 ih1 z, Ext ρ H ρ1 H1 ∧ RH L ρ1 H1 ih1 ∧ RV L ρ1 H1 z w ∧ PostS L W D ρ1 H1 (k z env ih1) := by
  obtain ⟨ρ0, env0, ih0, _, _, z⟩ := withAt (rel := RV L) e1 h q
  refine hp σ _ ρ H ih x y u v h rx ry ?_
  have q' := q
  unfold sWith at q'
  dsimp only at q'
  revert q'
  cases p x y ih with
  | ok w ih' => exact fun q ρ' H' w' ex h' r' => ⟨ρ', ih', w, ex, h', r', q.ext ex⟩
  | exc c fs ih' => exact fun q ρ' H' d ex h' xd => q ρ' H' σ d ex h' (e1.mono ex) xd
  | fail => exact fun q => q
theorem withVar {i : Nat} {k : PV → SM} {env : Sl} {D : Ends} {ρ : List Addr} {H : Hp} {ih : IH} (p : PostS L W D ρ H (sWith (eVar i) k env ih)) : ∃ v, env[i]? = some (some v) ∧ PostS L W D ρ H (k v env ih) := by
  unfold sWith eVar at p
  split at p
  · rename_i v ih' q
    split at q
    · rename_i v' q2
      cases q
      exact ⟨_, q2, p⟩
    · cases q
  · rename_i q
    split at q <;> cases q
  · exact p.elim
theorem s_aug {i : Nat} {x : Str} {op : Operator} (hN : X.N.Nodup) (hi : X.N[i]? = some x) (hx : Loc X.env.scope x) (he : PE X e (tE L W me)) (hf : X.fn x = true ∨ X.env.scope.names.lookup x = some .local) :
    PS X (.AugAssign (.Name x pos') op e pos) (tS L W (sAug (augP op) i me)) := by
  refine impS (ps_aug hN hi hx he (ip_any op) hf) fun D σ H ⟨ρ, env, ih, e1, e2, p⟩ => ?_
  obtain ⟨v, q2, p⟩ := withVar p
  obtain ⟨u, q3, r⟩ := e1.at_ i _ q2
  refine ⟨u, q3, (withAt (rel := RV L) e1 e2 p).mono fun w H1 ⟨ρ1, ih1, y, ex, h1, r1, p1⟩ => ?_⟩
  have z := withP2 (p2_aug (L := L) (W := W) (op := op)) (e1.mono ex) h1 (r.mono ex) r1 p1
  obtain ⟨a, b, e3, e4, z⟩ := z
  refine ⟨a, b, e3, e4, ?_⟩
  rcases z with ⟨eo, ρ2, ih2, zz, ex2, h2, r2, p2⟩ | ⟨eo, ρ2, ih2, zz, ex2, h2, r2, p2⟩
  · exact .inl ⟨eo, PostS.next p2 h2 (((e1.mono ex).mono ex2).set r2)⟩
  · exact .inr ⟨eo, PostS.next p2 h2 (((e1.mono ex).mono ex2).set r2)⟩
theorem in_any (op : Operator) : InOp X op (ipA op) := by
  intro pins s σ H x y u v Q I rx ry h
  obtain ⟨i, j, rfl, rfl, h⟩ := h
  rcases h with ⟨rfl, q⟩ | ⟨rfl, q⟩
  · exact in_add pins s σ H _ _ u v Q I rx ry ⟨i, j, rfl, rfl, q⟩
  · exact in_sub pins s σ H _ _ u v Q I rx ry ⟨i, j, rfl, rfl, q⟩
theorem withFldC {ok : Str → Str → Bool} {x : PV} {f : Str} {k : Str × PV → SM} {env : Sl} {D : Ends} {ρ : List Addr} {H : Hp} {ih : IH} (p : PostS L W D ρ H (sWith (fldC ok x f) k env ih)) :
    ∃ n c fs v, x = .ref n ∧ getI ih n = some (c, fs) ∧ ok c f = true ∧ fs.lookup f = some v ∧ PostS L W D ρ H (k (c, v) env ih) := by
  cases x with
  | ref n =>
    unfold sWith at p
    dsimp only [fldC] at p
    cases q : getI ih n with
    | none => rw [q] at p; exact p.elim
    | some cf =>
      obtain ⟨c, fs⟩ := cf
      rw [q] at p
      dsimp only at p
      by_cases hok : ok c f = true
      · rw [if_pos hok] at p
        cases q2 : fs.lookup f with
        | none => rw [q2] at p; exact p.elim
        | some v =>
          rw [q2] at p
          exact ⟨n, c, fs, v, rfl, q, hok, q2, p⟩
      · rw [if_neg hok] at p; exact p.elim
  | _ => exact p.elim
theorem s_augFld {ex : Option (Addr × Str × Option Addr)} {ok : Str → Str → Bool} (F : FldOk X.K ok) {f : Str} {op : Operator} (ho : PE X o (tE (lr X ex) W mo)) (he : PE X e (tE (lr X ex) W me)) :
    PS X (.AugAssign (.Attribute o f pos') op e pos) (tS (lr X ex) W (sAugF ok (augP op) mo f me)) := by
  refine impS (ps_fldaug ho he (in_any op)) fun D σ H ⟨ρ, env, ih, e1, e2, p⟩ => ?_
  refine (withAt (rel := RV (lr X ex)) e1 e2 p).mono fun u H1 ⟨ρ1, ih1, x, ex1, h1, r1, p1⟩ => ?_
  obtain ⟨n, c, fs, v, rfl, q, hok, ev, p1⟩ := withFldC p1
  obtain ⟨a, rfl, ea⟩ := rv_ref r1
  obtain ⟨dx, fs', k1, k2⟩ := getI_at h1 q ea
  obtain ⟨c1, c2⟩ := F c f hok
  have lk := rfs_look k2 f
  rw [ev] at lk
  obtain ⟨v', l1, l2⟩ := lk
  refine ⟨a, _, dx, fs', v', rfl, k1, c1, c2, l1, ?_⟩
  refine (withAt (m := me) (rel := RV (lr X ex)) (e1.mono ex1) h1 p1).mono fun w H2 ⟨ρ2, ih2, y, ex2, h2, r2, p2⟩ => ?_
  have z := withP2 (p2_aug (L := lr X ex) (W := W) (op := op)) ((e1.mono ex1).mono ex2) h2 (l2.mono ex2) r2 p2
  have fin : ∀ {zv : V} {ρ3 : List Addr} {H3 : Hp} {ih3 : IH} {zz : PV}, Ext ρ2 H2 ρ3 H3 → RH (lr X ex) ρ3 H3 ih3 → RV (lr X ex) ρ3 H3 zz zv → PostS (lr X ex) W D ρ3 H3 (if clsAt ih3 (.ref n) = some c then (match sfldP ok (PV.ref n) f zz ih3 with | some h' => RS.nx env h' | none => RS.fail) else .fail) →
      ∃ dx' fs'', H3 a = some (.ins (He.ga X.K c) dx' fs'') ∧ fs''.length < 1000 ∧ D.nx σ (upd H3 a (.ins (He.ga X.K c) dx' (putF f zv fs''))) := fun {zv ρ3 H3 ih3 zz} ex3 h3 r3 p3 => by
    split at p3
    · rename_i hcl
      split at p3
      · rename_i ih4 e4
        have ea3 : ρ3[n]? = some a := (ex2.trans ex3).get ea
        obtain ⟨a', Cc, dx', fs'', ea', j1, j2, j3, j4, j5, j6⟩ := sfld_at F h3 (.ref ea3) r3 e4
        cases ea'
        have hC : Cc = He.ga X.K c := by
          unfold clsAt at hcl
          dsimp only at hcl
          cases q4 : getI ih3 n with
          | none => rw [q4] at hcl; cases hcl
          | some cf =>
            obtain ⟨c', fs4⟩ := cf
            rw [q4] at hcl
            have e5 : c' = c := by simpa using hcl
            subst e5
            obtain ⟨dx5, fs5, m1, m2⟩ := getI_at h3 q4 ea3
            rw [j1] at m1
            cases m1; rfl
        subst hC
        exact ⟨dx', fs'', j1, j4, p3 _ _ _ j6 j5 (((e1.mono ex1).mono (ex2.trans ex3)).mono j6)⟩
      · exact p3.elim
    · exact p3.elim
  obtain ⟨i, j, e3, e4, z⟩ := z
  refine ⟨i, j, e3, e4, ?_⟩
  rcases z with ⟨eo, ρ3, ih3, zz, ex3, h3, r3, p3⟩ | ⟨eo, ρ3, ih3, zz, ex3, h3, r3, p3⟩
  · exact .inl ⟨eo, fin ex3 h3 r3 p3⟩
  · exact .inr ⟨eo, fin ex3 h3 r3 p3⟩

theorem s_while {t : EM Bool} {n : Nat} (hp : PassesOwn (model X.prog X.w) X.A X.env X.xe) (hc : PT X c (tT L W t)) (hb : PSs X body (tS L W ms)) : PS X (.While c body [] pos) (tS L W (sWhile t ms n)) := by
  refine impS (ps_while hp hc hb) fun D σ H ⟨ρ, env, ih, e1, e2, p⟩ => ?_
  refine ⟨fun m σ H => ∃ ρ env ih, RE L ρ H env σ ∧ RH L ρ H ih ∧ PostS L W D ρ H (sWhile t ms m env ih), ⟨n, ρ, env, ih, e1, e2, p⟩, ?_⟩
  rintro m σ H ⟨ρ, env, ih, e1, e2, p⟩
  cases m with
  | zero => exact p.elim
  | succ m =>
    refine (withAt (rel := relB) e1 e2 p).mono fun k H1 ⟨ρ1, ih1, x, ex, h1, r1, p1⟩ => ?_
    have r1 : x = k := r1
    subst r1
    cases x with
    | false =>
      rw [if_neg Bool.false_ne_true] at p1 ⊢
      exact PostS.next p1 h1 (e1.mono ex)
    | true =>
      rw [if_pos rfl] at p1 ⊢
      refine ⟨fun σ H => ∃ ρ env ih, RE L ρ H env σ ∧ RH L ρ H ih ∧ PostS L W D ρ H (sWhile t ms m env ih), fun σ' H' h => ⟨m, Nat.lt_succ_self _, h⟩, ρ1, env, ih1, e1.mono ex, h1, ?_⟩
      revert p1
      cases ms env ih1 with
      | nx e h => exact fun p ρ' H' σ' ex' h' re => ⟨ρ', e, h, re, h', p.ext ex'⟩
      | cnt e h => exact fun p ρ' H' σ' ex' h' re => ⟨ρ', e, h, re, h', p.ext ex'⟩
      | brk e h => exact fun p => p
      | ret v h => exact fun p => p
      | exc c fs e h => exact fun p => p
      | fail => exact fun p => p

def SrcAt (L : Rl) (ρ : List Addr) (H : Hp) : Src → It → Prop
  | .lst n, J => ∃ a, ρ[n]? = some a ∧ J = Itl L.K a
  | .vals xs, J => ∃ a vs, SqT L.K H a vs ∧ RVs L ρ H xs vs ∧ J = Itt L.K a
  | .rng lo c n, J => J = Itc lo c n ∨ (c = 1 ∧ J = Itr lo n)
  | .enumL n, J => ∃ a, ρ[n]? = some a ∧ J = Ite L.K a
  | .enumT xs, J => ∃ a vs, SqT L.K H a vs ∧ RVs L ρ H xs vs ∧ J = IteT L.K a
theorem SrcAt.mono {ρ ρ1 : List Addr} {H H1 : Hp} (e : Ext ρ H ρ1 H1) {s : Src} {J : It} (h : SrcAt L ρ H s J) : SrcAt L ρ1 H1 s J := by
  cases s with
  | lst n => obtain ⟨a, h1, h2⟩ := h; exact ⟨a, e.get h1, h2⟩
  | vals xs => obtain ⟨a, vs, h1, h2, h3⟩ := h; exact ⟨a, vs, e.sqT h1, h2.mono e, h3⟩
  | rng lo c n => exact h
  | enumL n => obtain ⟨a, h1, h2⟩ := h; exact ⟨a, e.get h1, h2⟩
  | enumT xs => obtain ⟨a, vs, h1, h2, h3⟩ := h; exact ⟨a, vs, e.sqT h1, h2.mono e, h3⟩
theorem src_turn {ρ : List Addr} {H : Hp} {ih : IH} {s : Src} {J : It} (h : RH L ρ H ih) (sa : SrcAt L ρ H s J) (i : Nat) : match s.at_ i ih with
    | none => True
    | some none => J.stop i H
    | some (some x) => J.go i H ∧ ∀ u H', J.yld i H u H' → ∃ ρ', Ext ρ H ρ' H' ∧ RH L ρ' H' ih ∧ RV L ρ' H' x u := by
  cases s with
  | lst n =>
    obtain ⟨a, ea, rfl⟩ := sa
    simp only [Src.at_]
    cases q : getL ih n with
    | none => trivial
    | some xs =>
      obtain ⟨vs, k1, k2⟩ := getL_at h q ea
      simp only [Option.map]
      cases q2 : xs[i]? with
      | none => exact ⟨vs, k1, by rw [← k2.length]; exact List.getElem?_eq_none_iff.mp q2⟩
      | some x =>
        obtain ⟨v, e1, e2⟩ := k2.get q2
        refine ⟨⟨vs, v, k1, e1⟩, fun u H' y => ?_⟩
        obtain ⟨rfl, y⟩ := y
        have z := y vs k1
        rw [e1] at z; cases z
        exact ⟨ρ, Ext.refl _ _, h, e2⟩
  | vals xs =>
    obtain ⟨a, vs, k1, k2, rfl⟩ := sa
    simp only [Src.at_]
    cases q2 : xs[i]? with
    | none => exact ⟨vs, k1, by rw [← k2.length]; exact List.getElem?_eq_none_iff.mp q2⟩
    | some x =>
      obtain ⟨v, e1, e2⟩ := k2.get q2
      refine ⟨⟨vs, v, k1, e1⟩, fun u H' y => ?_⟩
      obtain ⟨rfl, y⟩ := y
      have z := y vs k1
      rw [e1] at z; cases z
      exact ⟨ρ, Ext.refl _ _, h, e2⟩
  | rng lo c n =>
    simp only [Src.at_]
    rcases (show J = Itc lo c n ∨ (c = 1 ∧ J = Itr lo n) from sa) with rfl | ⟨rfl, rfl⟩
    · by_cases hi : i < n
      · rw [if_pos hi]
        refine ⟨hi, fun u H' y => ?_⟩
        obtain ⟨rfl, rfl⟩ := y
        exact ⟨ρ, Ext.refl _ _, h, .int _⟩
      · rw [if_neg hi]
        exact Nat.le_of_not_lt hi
    · by_cases hi : i < n
      · rw [if_pos hi]
        refine ⟨hi, fun u H' y => ?_⟩
        obtain ⟨rfl, rfl⟩ := y
        rw [Int.mul_one]
        exact ⟨ρ, Ext.refl _ _, h, .int _⟩
      · rw [if_neg hi]
        exact Nat.le_of_not_lt hi
  | enumL n =>
    obtain ⟨a, ea, rfl⟩ := sa
    simp only [Src.at_]
    cases q : getL ih n with
    | none => trivial
    | some xs =>
      obtain ⟨vs, k1, k2⟩ := getL_at h q ea
      simp only [Option.map]
      cases q2 : xs[i]? with
      | none => exact ⟨vs, k1, by rw [← k2.length]; exact List.getElem?_eq_none_iff.mp q2⟩
      | some x =>
        obtain ⟨v, e1, e2⟩ := k2.get q2
        refine ⟨⟨vs, v, k1, e1⟩, fun u H' y => ?_⟩
        obtain ⟨T, x', rfl, hT, rfl, y⟩ := y
        have z := y vs k1
        rw [e1] at z; cases z
        have ex := ext_new (ρ := ρ) (u := HO.tup [.int (i : Nat), v]) hT
        exact ⟨ρ, ex, h.new hT, .tup (SqT.of upd_same) (.cons (.int _) (.cons (e2.mono ex) .nil))⟩
  | enumT xs =>
    obtain ⟨a, vs, k1, k2, rfl⟩ := sa
    simp only [Src.at_]
    cases q2 : xs[i]? with
    | none => exact ⟨vs, k1, by rw [← k2.length]; exact List.getElem?_eq_none_iff.mp q2⟩
    | some x =>
      obtain ⟨v, e1, e2⟩ := k2.get q2
      refine ⟨⟨vs, v, k1, e1⟩, fun u H' y => ?_⟩
      obtain ⟨T, x', rfl, hT, rfl, y⟩ := y
      have z := y vs k1
      rw [e1] at z; cases z
      have ex := ext_new (ρ := ρ) (u := HO.tup [.int (i : Nat), v]) hT
      exact ⟨ρ, ex, h.new hT, .tup (SqT.of upd_same) (.cons (.int _) (.cons (e2.mono ex) .nil))⟩
def tI (L : Rl) (W : WX) (m : EM Src) : TI := tG L W (fun ρ H s J => SrcAt L ρ H s J) m
theorem impI {tg : Expr} {t t' : TI} (h : PI X tg e t) (k : ∀ σ H R, t' σ H R → t σ H R) : PI X tg e t' := ⟨fun pins s σ H R I q => h.run pins s σ H R I (k σ H R q)⟩
theorem s_for {tg : Expr} {g : GM} {src : EM Src} {n : Nat} (hp : PassesOwn (model X.prog X.w) X.A X.env X.xe) (hc : X.calm = true) (hi : PI X tg e (tI L W src)) (hg : PG X tg (tM L g)) (hb : PSs X body (tS L W ms))
    (hs : ∀ x, foldedSetIterable e X.env x = pure x) : PS X (.For tg e body [] pos) (tS L W (sLoop n src g ms)) := by
  refine impS (ps_for hp hc hi hg hb hs) fun D σ H ⟨ρ, env, ih, e1, e2, p⟩ => ?_
  refine (withAt (rel := fun ρ H s J => SrcAt L ρ H s J) e1 e2 p).mono fun J H1 ⟨ρ1, ih1, s, ex, h1, sa, p1⟩ => ?_
  refine ⟨fun i m σ H => ∃ ρ env ih, RE L ρ H env σ ∧ RH L ρ H ih ∧ SrcAt L ρ H s J ∧ PostS L W D ρ H (loopGo s g ms m i env ih), ⟨n, ρ1, env, ih1, e1.mono ex, h1, sa, p1⟩, ?_⟩
  rintro i m σ H ⟨ρ, env, ih, e1, e2, sa, p⟩
  cases m with
  | zero => exact p.elim
  | succ m =>
    have tn := src_turn e2 sa i
    unfold loopGo at p
    cases q : s.at_ i ih with
    | none => rw [q] at p; exact p.elim
    | some o =>
      rw [q] at p tn
      cases o with
      | none => exact .inl ⟨tn, PostS.next p e2 e1⟩
      | some x =>
        dsimp only at p tn
        refine .inr ⟨tn.1, fun σ H => ∃ ρ env ih, RE L ρ H env σ ∧ RH L ρ H ih ∧ SrcAt L ρ H s J ∧ PostS L W D ρ H (loopGo s g ms m (i + 1) env ih), fun σ' H' h => ⟨m, Nat.lt_succ_self _, h⟩, fun u H' y => ?_⟩
        obtain ⟨ρ', ex', h', r'⟩ := tn.2 u H' y
        refine ⟨ρ', env, ih, x, e1.mono ex', h', r', ?_⟩
        revert p
        cases g x env ih with
        | ok e1' h1' =>
          intro p ρ2 H2 σ2 ex2 h2 re2
          refine ⟨ρ2, e1', h1', re2, h2, ?_⟩
          have p := PostS.ext p (ex'.trans ex2)
          dsimp only at p
          revert p
          cases ms e1' h1' with
          | nx e h => exact fun p ρ3 H3 σ3 ex3 h3 re => ⟨ρ3, e, h, re, h3, ((sa.mono ex').mono ex2).mono ex3, p.ext ex3⟩
          | cnt e h => exact fun p ρ3 H3 σ3 ex3 h3 re => ⟨ρ3, e, h, re, h3, ((sa.mono ex').mono ex2).mono ex3, p.ext ex3⟩
          | brk e h => exact fun p => p
          | ret v h => exact fun p => p
          | exc c fs e h => exact fun p => p
          | fail => exact fun p => p
        | exc c fs h => exact fun p => p.elim
        | fail => exact fun p => p.elim
theorem rks_key1 {ρ : List Addr} {H : Hp} {kvs : List (Key × PV)} {kvs' : List (Key × V)} (h : RKs L ρ H kvs kvs') : kvs.map (·.1) = kvs'.map (·.1) := by
  induction h with
  | nil => rfl
  | cons _ _ ih => rw [List.map_cons, List.map_cons, ih]
theorem keys_turn {ρ : List Addr} {H : Hp} {ih : IH} {a : Addr} {od : Obj} {kvs : List (Key × PV)} {kvs' : List (Key × V)} (hx : kvs.map (·.1) = kvs'.map (·.1)) (hH : H a = some (.frz od (.dK kvs'))) (h : RH L ρ H ih) (i : Nat) : match Src.at_ (.vals (dkeys kvs)) i ih with
    | none => True
    | some none => (Itk a od kvs').stop i H
    | some (some x) => (Itk a od kvs').go i H ∧ ∀ u H', (Itk a od kvs').yld i H u H' → ∃ ρ', Ext ρ H ρ' H' ∧ RH L ρ' H' ih ∧ RV L ρ' H' x u := by
  have hl : kvs.length = kvs'.length := by simpa using congrArg List.length hx
  simp only [Src.at_, dkeys]
  cases q2 : (kvs.map fun kv => keyPV kv.1)[i]? with
  | none =>
    have : kvs.length ≤ i := by simpa using List.getElem?_eq_none_iff.mp q2
    exact ⟨hH, by omega⟩
  | some x =>
    rw [List.getElem?_map] at q2
    cases q3 : kvs[i]? with
    | none => rw [q3] at q2; cases q2
    | some kv =>
      rw [q3] at q2
      cases q2
      have hi : i < kvs.length := (List.getElem?_eq_some_iff.mp q3).1
      refine ⟨⟨hH, by omega⟩, fun u H' y => ?_⟩
      obtain ⟨rfl, k, v, ek, rfl⟩ := y
      have e1 : (kvs.map (·.1))[i]? = some kv.1 := by rw [List.getElem?_map, q3]; rfl
      have e2 : (kvs'.map (·.1))[i]? = some k := by rw [List.getElem?_map, ek]; rfl
      rw [hx, e2] at e1
      cases e1
      refine ⟨ρ, Ext.refl _ _, h, ?_⟩
      obtain ⟨k, w⟩ := kv
      show RV L ρ _ (keyPV k) (kV k)
      cases k with
      | inl i => exact .int _
      | inr z => exact .str _
theorem ext_unlock {ρ ρ' : List Addr} {H H' : Hp} {a : Addr} {od : Obj} {kvs' : List (Key × V)} (m : a ∈ ρ) (hH : H a = some (.dK kvs')) (e : Ext ρ (upd H a (.frz od (.dK kvs'))) ρ' H') : Ext ρ H ρ' (upd H' a (.dK kvs')) := by
  have ne : ∀ b o, H b = some o → (∀ ks, o ≠ .dK ks) → b ≠ a := fun b o q n z => by
    subst z; rw [hH] at q; exact n _ (Option.some.inj q).symm
  have up : ∀ b o, H b = some o → b ≠ a → upd H a (.frz od (.dK kvs')) b = some o := fun b o q n => by rw [upd_ne n]; exact q
  refine ⟨e.pre, fun b o q n => ?_, fun b hb n => ?_, fun b xs q => ?_, fun b o v q => ?_, fun b fs q => ?_⟩
  · have hba : b ≠ a := fun z => n (z ▸ m)
    rw [upd_ne hba]; exact e.frame b o (up b o q hba) n
  · have hba : b ≠ a := fun z => n (z ▸ m)
    have := e.fresh b hb n
    rw [upd_ne hba] at this; exact this
  · have hba := ne b _ q (fun _ => by simp)
    rw [upd_ne hba]; exact e.tups b xs (up b _ q hba)
  · by_cases hba : b = a
    · subst hba; rw [hH] at q; cases q
    · rw [upd_ne hba]; exact e.frzs b o v (up b _ q hba)
  · have hba := ne b _ q (fun _ => by simp)
    rw [upd_ne hba]; exact e.xds b fs (up b _ q hba)
theorem kp_unlock {ρ : List Addr} {H : Hp} {a : Addr} {od : Obj} {kvs' : List (Key × V)} (hH : H a = some (.frz od (.dK kvs'))) : Kp ρ H ρ (upd H a (.dK kvs')) := by
  refine ⟨fun _ _ h => h, fun b xs h => ?_, fun b o xs h => ?_, fun b fs h => ?_⟩
  · rw [upd_ne (fun z => by subst z; rw [hH] at h; cases h)]; exact h
  · rw [upd_ne (fun z => by subst z; rw [hH] at h; cases h)]; exact h
  · rw [upd_ne (fun z => by subst z; rw [hH] at h; cases h)]; exact h
theorem rh_unlock {ρ : List Addr} {H : Hp} {ih : IH} {n : Nat} {a : Addr} {od : Obj} {kvs : List (Key × PV)} {kvs' : List (Key × V)} (h : RH L ρ H ih) (ea : ρ[n]? = some a) (hH : H a = some (.frz od (.dK kvs'))) (rk : RKs L ρ H kvs kvs') : RH L ρ (upd H a (.dK kvs')) (ih.set n (.dK kvs)) := by
  refine ⟨by simp [h.len], h.nd, fun m b o' e1 e2 => ?_⟩
  by_cases hm : n = m
  · subst hm
    rw [ea] at e1; cases e1
    have hl : n < ih.length := by rw [← h.len]; exact (List.getElem?_eq_some_iff.mp ea).1
    rw [List.getElem?_set_self hl] at e2
    cases e2
    exact ⟨kvs', upd_same, rk.keep (kp_unlock hH)⟩
  · rw [List.getElem?_set_ne hm] at e2
    have hb : b ≠ a := fun z => by
      subst z
      obtain ⟨h1, q1⟩ := List.getElem?_eq_some_iff.mp ea
      obtain ⟨h2, q2⟩ := List.getElem?_eq_some_iff.mp e1
      exact hm ((List.getElem_inj h.nd).mp (q1.trans q2.symm))
    exact (h.ob m b o' e1 e2).keep (kp_unlock hH) (upd_ne hb)
theorem re_keep {ρ ρ' : List Addr} {H H' : Hp} (k : Kp ρ H ρ' H') {env : Sl} {σ : L2.St} (h : RE L ρ H env σ) : RE L ρ' H' env σ := ⟨h.len, fun i v q => let ⟨u, a, b⟩ := h.at_ i v q; ⟨u, a, b.keep k⟩⟩
def LkD (D : Ends) (a : Addr) (od : Obj) (u : HO) : Ends := ⟨fun σ' H' => H' a = some (.frz od u) ∧ D.nx σ' (upd H' a u), fun v H' => H' a = some (.frz od u) ∧ D.rt v (upd H' a u), fun σ' H' => H' a = some (.frz od u) ∧ D.bk σ' (upd H' a u), fun σ' H' => H' a = some (.frz od u) ∧ D.ct σ' (upd H' a u)⟩
theorem lock_post {D : Ends} {ρ : List Addr} {H : Hp} {ih : IH} {n : Nat} {a : Addr} {od : Obj} {kvs : List (Key × PV)} {kvs' : List (Key × V)} {r : RS} (h : RH L ρ H ih) (ea : ρ[n]? = some a) (hH : H a = some (.dK kvs')) (rk : RKs L ρ H kvs kvs') (p : PostS L W D ρ H (unlk n kvs r)) : PostS L W (LkD D a od (.dK kvs')) ρ (upd H a (.frz od (.dK kvs'))) r := by
  have m : a ∈ ρ := List.mem_of_getElem? ea
  have ex1 : Ext ρ H ρ (upd H a (.frz od (.dK kvs'))) := ext_write h ea (fun o v => by rw [hH]; simp)
  have key : ∀ (ρ' : List Addr) (H' : Hp) (ih' : IH), Ext ρ (upd H a (.frz od (.dK kvs'))) ρ' H' → RH L ρ' H' ih' → H' a = some (.frz od (.dK kvs')) ∧ Ext ρ H ρ' (upd H' a (.dK kvs')) ∧ RH L ρ' (upd H' a (.dK kvs')) (ih'.set n (.dK kvs)) ∧ Kp ρ' H' ρ' (upd H' a (.dK kvs')) := fun ρ' H' ih' ex' h' => by
    have hk := ex'.frzs a od _ upd_same
    exact ⟨hk, ext_unlock m hH ex', rh_unlock h' (ex'.get ea) hk (rk.keep (ex1.trans ex').kp), kp_unlock hk⟩
  cases r with
  | nx e h2 => exact fun ρ' H' σ' ex' h' re => let ⟨k1, k2, k3, k4⟩ := key ρ' H' _ ex' h'; ⟨k1, p _ _ _ k2 k3 (re_keep k4 re)⟩
  | brk e h2 => exact fun ρ' H' σ' ex' h' re => let ⟨k1, k2, k3, k4⟩ := key ρ' H' _ ex' h'; ⟨k1, p _ _ _ k2 k3 (re_keep k4 re)⟩
  | cnt e h2 => exact fun ρ' H' σ' ex' h' re => let ⟨k1, k2, k3, k4⟩ := key ρ' H' _ ex' h'; ⟨k1, p _ _ _ k2 k3 (re_keep k4 re)⟩
  | ret v h2 => exact fun ρ' H' u ex' h' rv => let ⟨k1, k2, k3, k4⟩ := key ρ' H' _ ex' h'; ⟨k1, p _ _ _ k2 k3 (rv.keep k4)⟩
  | exc c fs e h2 => exact fun ρ' H' σ' d ex' h' re xd => p ρ' H' σ' d (ex1.trans ex') h' re xd
  | fail => exact p
theorem forK_core {tg : Expr} {g : GM} {D : Ends} {ρ : List Addr} {H : Hp} {ih : IH} {env : Sl} {σ : L2.St} {n F i : Nat} {a : Addr} {od : Obj} {kvs : List (Key × PV)} {kvs' : List (Key × V)} (ea : ρ[n]? = some a) (q1 : env[i]? = some (some (.ref n))) (hH : H a = some (.frz od (.dK kvs'))) (hx : kvs.map (·.1) = kvs'.map (·.1)) (e1 : RE L ρ H env σ) (e2 : RH L ρ H ih) (p : PostS L W D ρ H (loopGo (.vals (dkeys kvs)) g ms F 0 env ih)) :
    tFor (iKeys (tE L W (eVar i))) (tM L g) (tS L W ms) D σ H := by
  refine ⟨ρ, env, ih, e1, e2, ?_⟩
  have ev : eVar i env ih = .ok (.ref n) ih := by unfold eVar; rw [q1]
  rw [ev]
  intro ρ1 H1 u ex h1 r
  obtain ⟨a', rfl, ea'⟩ := rv_ref r
  have : a' = a := by
    have := ex.get ea
    rw [ea'] at this; exact Option.some.inj this
  subst this
  refine ⟨_, od, rfl, .inl ⟨kvs', ex.frzs _ _ _ hH, ?_⟩⟩
  refine ⟨fun i m σ H => ∃ ρ env ih, RE L ρ H env σ ∧ RH L ρ H ih ∧ H a' = some (.frz od (.dK kvs')) ∧ PostS L W D ρ H (loopGo (.vals (dkeys kvs)) g ms m i env ih), ⟨F, ρ1, env, ih, e1.mono ex, h1, ex.frzs _ _ _ hH, p.ext ex⟩, ?_⟩
  clear p e1 e2 h1 ex ea ea' hH r ev q1
  rintro i m σ H ⟨ρ, env, ih, e1, e2, sa, p⟩
  cases m with
  | zero => exact p.elim
  | succ m =>
    have tn := keys_turn hx sa e2 i
    unfold loopGo at p
    cases q : Src.at_ (.vals (dkeys kvs)) i ih with
    | none => rw [q] at p; exact p.elim
    | some o =>
      rw [q] at p tn
      cases o with
      | none => exact .inl ⟨tn, PostS.next p e2 e1⟩
      | some x =>
        dsimp only at p tn
        refine .inr ⟨tn.1, fun σ H => ∃ ρ env ih, RE L ρ H env σ ∧ RH L ρ H ih ∧ H a' = some (.frz od (.dK kvs')) ∧ PostS L W D ρ H (loopGo (.vals (dkeys kvs)) g ms m (i + 1) env ih), fun σ' H' h => ⟨m, Nat.lt_succ_self _, h⟩, fun u H' y => ?_⟩
        obtain ⟨ρ', ex', h', r'⟩ := tn.2 u H' y
        refine ⟨ρ', env, ih, x, e1.mono ex', h', r', ?_⟩
        have sa' := ex'.frzs _ _ _ sa
        revert p
        cases g x env ih with
        | ok e1' h1' =>
          intro p ρ2 H2 σ2 ex2 h2 re2
          refine ⟨ρ2, e1', h1', re2, h2, ?_⟩
          have p := PostS.ext p (ex'.trans ex2)
          have sa2 := ex2.frzs _ _ _ sa'
          dsimp only at p
          revert p
          cases ms e1' h1' with
          | nx e h => exact fun p ρ3 H3 σ3 ex3 h3 re => ⟨ρ3, e, h, re, h3, ex3.frzs _ _ _ sa2, p.ext ex3⟩
          | cnt e h => exact fun p ρ3 H3 σ3 ex3 h3 re => ⟨ρ3, e, h, re, h3, ex3.frzs _ _ _ sa2, p.ext ex3⟩
          | brk e h => exact fun p => p
          | ret v h => exact fun p => p
          | exc c fs e h => exact fun p => p
          | fail => exact fun p => p
        | exc c fs h => exact fun p => p.elim
        | fail => exact fun p => p.elim
theorem s_forK {tg : Expr} {g : GM} {n i : Nat} {x : Str} {px : Pos} (hp : PassesOwn (model X.prog X.w) X.A X.env X.xe) (hc : X.calm = true) (hN : X.N[i]? = some x) (hv : Vis X.env.scope x) (hd : (x == ("__debug__" : Str)) = false) (hcd : (x == ("__classdict__" : Str)) = false) (hg : PG X tg (tM L g)) (hb : PSs X body (tS L W ms)) : PS X (.For tg (.Name x px) body [] pos) (tS L W (sLoopK n i g ms)) := by
  have hi : PI X tg (.Name x px) (iKeys (tE L W (eVar i))) := pi_keys (se_var hN hv hd hcd)
  have base := ps_for (pos := pos) hp hc hi hg hb (by intro _; rfl)
  refine ⟨fun pins s σ H D I ⟨ρ, env, ih, e1, e2, p⟩ => ?_⟩
  unfold sLoopK at p
  split at p
  · rename_i k q1
    split at p
    · rename_i kvs q2
      obtain ⟨a, ea, kvs', hH, rk⟩ := e2.get q2
      refine (ps_lock base).run pins s σ H D I ⟨a, .dK kvs', hH, trivial, fun od => ?_⟩
      have hf : ∀ o v, H a ≠ some (.frz o v) := fun o v => by rw [hH]; simp
      have ex1 : Ext ρ H ρ (upd H a (.frz od (.dK kvs'))) := ext_write e2 ea hf
      have e2' := e2.write (u := .frz od (.dK kvs')) (o := IO.fdK "__debug__" kvs) ea hf ⟨.inl rfl, od, kvs', upd_same, rk.mono ex1⟩
      exact forK_core (tg := tg) (D := LkD D a od (.dK kvs')) ea q1 upd_same (rks_key1 rk) (e1.mono ex1) e2' (lock_post e2 ea hH rk p)
    · rename_i y kvs q2
      obtain ⟨a, ea, _, od, kvs', hH, rk⟩ := e2.get q2
      exact base.run pins s σ H D I (forK_core (tg := tg) ea q1 hH (rks_key1 rk) e1 e2 p)
    · exact p.elim
  · exact p.elim
end
end Z
end
noncomputable section
namespace Z
open PySem PySem.Spec PyProof.Rows L2
set_option autoImplicit false

def srcP (x : PV) (ih : IH) : R Src := match x with
  | .tup xs => .ok (.vals xs) ih
  | .ref n => match getL ih n with
    | some _ => .ok (.lst n) ih
    | none => .fail
  | _ => .fail
def srcE (m : EM PV) : EM Src := eBind m fun x => fun _ ih => srcP x ih
def enumP (x : PV) (ih : IH) : R Src := match x with
  | .tup xs => .ok (.enumT xs) ih
  | .ref n => match getL ih n with
    | some _ => .ok (.enumL n) ih
    | none => .fail
  | _ => .fail
def srcEnum (m : EM PV) : EM Src := eBind m fun x => fun _ ih => enumP x ih
def rOk (i : Int) : Bool := decide (i.natAbs < 4611686018427387904)
theorem p62 : (2 : Int) ^ 62 = 4611686018427387904 := by decide +kernel
theorem rOk_ok {i : Int} (h : rOk i = true) : -(2 ^ 62) ≤ i ∧ i < 2 ^ 62 := by
  have := of_decide_eq_true h
  rw [p62]; omega
theorem ok_rOk {i : Int} (h : i.natAbs < 4611686018427387904) : rOk i = true := decide_eq_true h
def rngP : Nat → List PV → IH → R Src
  | 1, [.int j], ih => if rOk j = true then .ok (.rng 0 1 j.toNat) ih else .fail
  | 2, [.int i, .int j], ih => if rOk i = true ∧ rOk j = true then .ok (.rng i 1 (j - i).toNat) ih else .fail
  | 3, [.int i, .int j, .int c], ih => if c = -1 ∧ rOk i = true ∧ rOk j = true then .ok (.rng i (-1) (i - j).toNat) ih else .fail
  | _, _, _ => .fail
def srcRng (n : Nat) (as : EM (List PV)) : EM Src := eBind as fun vs => fun _ ih => rngP n vs ih
section
variable {X : Cx} {W : WX} {ex : Option (Addr × Str × Option Addr)} {e tg a b c : Expr} {p pos : Pos} {me : EM PV} {ms : EM (List PV)}
theorem si_seq (he : PE X e (tE (lr X ex) W me)) : PI X tg e (tI (lr X ex) W (srcE me)) :=
  impI (pi_seqA he) fun σ H R ⟨ρ, env, ih, e1, e2, p⟩ => (bindAt (rel := RV (lr X ex)) e1 e2 p).mono fun u H1 ⟨ρ1, ih1, x, ex1, h1, r1, p1⟩ => by
    unfold srcP at p1
    split at p1
    · obtain ⟨a, vs, rfl, k1, k2⟩ := rv_tup r1
      exact ⟨a, rfl, .inr ⟨vs, k1, p1 ρ1 H1 _ (Ext.refl _ _) h1 ⟨a, vs, k1, k2, rfl⟩⟩⟩
    · obtain ⟨a, rfl, ea⟩ := rv_ref r1
      split at p1
      · rename_i q
        obtain ⟨vs, k1, k2⟩ := getL_at h1 q ea
        exact ⟨a, rfl, .inl ⟨vs, k1, p1 ρ1 H1 _ (Ext.refl _ _) h1 ⟨a, ea, rfl⟩⟩⟩
      · exact p1.elim
    · exact p1.elim
theorem tA_one {σ : L2.St} {H : Hp} {Q : V → Hp → Prop} (h : tG (lr X ex) W (RV (lr X ex)) me σ H Q) : tA (lr X ex) W (eArgs [me]) σ H fun vs H1 => ∃ u, vs = [u] ∧ Q u H1 := by
  obtain ⟨ρ, env, ih, e1, e2, p⟩ := h
  refine ⟨ρ, env, ih, e1, e2, ?_⟩
  show Post _ _ _ _ _ ρ H (eBind me (fun x => eBind (eArgs []) fun xs => eC (x :: xs)) env ih)
  unfold eBind
  revert p
  cases me env ih with
  | ok v ih' =>
    intro p ρ' H' u ex' h' r
    cases r with
    | cons r t =>
      cases t
      exact ⟨_, rfl, p ρ' H' _ ex' h' r⟩
  | exc c fs ih' => exact fun p => p
  | fail => exact fun p => p
theorem si_enum {elts : List Expr} {kk : Nat} {tpos : Pos} (hg : Gl X "enumerate") (hm : X.mg "enumerate" = none) (he : PE X e (tE (lr X ex) W me)) (hs : isStar e = false) :
    PI X (.Tuple elts kk tpos) (.Call (.Name "enumerate" p) [e] [] pos) (tI (lr X ex) W (srcEnum me)) := by
  have ha : PA X [e] (tA (lr X ex) W (eArgs ([e].map fun _ => me))) := sa_args (fun _ => me) [e] (fun e' he' => by
    have : e' = e := by simpa using he'
    subst this; exact he) (by simp [hs])
  refine impI (pi_enumA hg hm ha (star_no hs)) fun σ H R ⟨ρ, env, ih, e1, e2, p⟩ => ?_
  refine (tA_one (bindAt (rel := RV (lr X ex)) e1 e2 p)).mono fun us H1 ⟨u, eu, ρ1, ih1, x, ex1, h1, r1, p1⟩ => ?_
  subst eu
  unfold enumP at p1
  split at p1
  · obtain ⟨a, vs, rfl, k1, k2⟩ := rv_tup r1
    exact ⟨a, rfl, .inr ⟨vs, k1, p1 ρ1 H1 _ (Ext.refl _ _) h1 ⟨a, vs, k1, k2, rfl⟩⟩⟩
  · obtain ⟨a, rfl, ea⟩ := rv_ref r1
    split at p1
    · rename_i q
      obtain ⟨vs, k1, k2⟩ := getL_at h1 q ea
      exact ⟨a, rfl, .inl ⟨vs, k1, p1 ρ1 H1 _ (Ext.refl _ _) h1 ⟨a, ea, rfl⟩⟩⟩
    · exact p1.elim
  · exact p1.elim
theorem rvs3 {L : Rl} {ρ : List Addr} {H : Hp} {x y z : PV} {us : List V} (r : RVs L ρ H [x, y, z] us) : ∃ u v w, us = [u, v, w] ∧ RV L ρ H x u ∧ RV L ρ H y v ∧ RV L ρ H z w := by
  cases r with
  | cons h t => obtain ⟨v, w, rfl, q, q2⟩ := rvs2 t; exact ⟨_, _, _, rfl, h, q, q2⟩
theorem si_rng1 (hg : Gl X "range") (hm : X.mg "range" = none) (ha : PA X [a] (tA (lr X ex) W ms)) (hs : isStar a = false) : PI X tg (.Call (.Name "range" p) [a] [] pos) (tI (lr X ex) W (srcRng 1 ms)) :=
  impI (pi_range1 hg hm ha (star_no hs)) fun σ H R ⟨ρ, env, ih, e1, e2, p⟩ => (bindAt (rel := RVs (lr X ex)) e1 e2 p).mono fun us H1 ⟨ρ1, ih1, xs, ex1, h1, r1, p1⟩ => by
    unfold rngP at p1
    split at p1
    · obtain ⟨u, rfl, r⟩ := rvs1 r1
      cases r
      split at p1
      · rename_i hl
        exact ⟨_, rfl, (rOk_ok hl).1, (rOk_ok hl).2, p1 ρ1 H1 _ (Ext.refl _ _) h1 (.inr ⟨rfl, rfl⟩)⟩
      · exact p1.elim
    · rename_i q; cases q
    · rename_i q; cases q
    · exact p1.elim
theorem si_rng2 (hg : Gl X "range") (hm : X.mg "range" = none) (ha : PA X [a, b] (tA (lr X ex) W ms)) (hs : isStar a = false) (hs2 : isStar b = false) : PI X tg (.Call (.Name "range" p) [a, b] [] pos) (tI (lr X ex) W (srcRng 2 ms)) :=
  impI (pi_range2 hg hm ha (by rw [star_no hs, star_no hs2]; rfl) (star_no hs2)) fun σ H R ⟨ρ, env, ih, e1, e2, p⟩ => (bindAt (rel := RVs (lr X ex)) e1 e2 p).mono fun us H1 ⟨ρ1, ih1, xs, ex1, h1, r1, p1⟩ => by
    unfold rngP at p1
    split at p1
    · rename_i q; cases q
    · obtain ⟨u, v, rfl, r, r'⟩ := rvs2 r1
      cases r; cases r'
      split at p1
      · rename_i hl
        exact ⟨_, _, rfl, ⟨(rOk_ok hl.1).1, (rOk_ok hl.1).2, (rOk_ok hl.2).1, (rOk_ok hl.2).2⟩, p1 ρ1 H1 _ (Ext.refl _ _) h1 (.inr ⟨rfl, rfl⟩)⟩
      · exact p1.elim
    · rename_i q; cases q
    · exact p1.elim
theorem si_rng3 (hg : Gl X "range") (hm : X.mg "range" = none) (ha : PA X [a, b, c] (tA (lr X ex) W ms)) (hs : isStar a = false) (hs2 : isStar b = false) (hs3 : isStar c = false) : PI X tg (.Call (.Name "range" p) [a, b, c] [] pos) (tI (lr X ex) W (srcRng 3 ms)) :=
  impI (pi_range3 hg hm ha (star_no hs) (back_plain (by simp [hs2, hs3]))) fun σ H R ⟨ρ, env, ih, e1, e2, p⟩ => (bindAt (rel := RVs (lr X ex)) e1 e2 p).mono fun us H1 ⟨ρ1, ih1, xs, ex1, h1, r1, p1⟩ => by
    unfold rngP at p1
    split at p1
    · rename_i q; cases q
    · rename_i q; cases q
    · obtain ⟨u, v, w, rfl, r, r', r''⟩ := rvs3 r1
      cases r; cases r'; cases r''
      split at p1
      · rename_i hl
        obtain ⟨rfl, h1', h2⟩ := hl
        exact ⟨_, _, _, _, rfl, RgC.neg (rOk_ok h1').1 (rOk_ok h1').2 (rOk_ok h2).1 (rOk_ok h2).2, p1 ρ1 H1 _ (Ext.refl _ _) h1 (.inl rfl)⟩
      · exact p1.elim
    · exact p1.elim

def setAllV : List Nat → List V → L2.St → L2.St
  | i :: is, x :: xs, σ => setAllV is xs (σ.set i (some x))
  | _, _, σ => σ
def tN (K : PySem.W.Frag) (g : Tg) : TG := fun v σ H Q => match g with
  | .nm i => Q (σ.set i (some v)) H
  | .tup is => ∃ a xs, v = .ref a ∧ SqT K H a xs ∧ xs.length = is.length ∧ Q (setAllV is xs σ) H
def gNames : List Nat → TGs
  | [] => gNil
  | i :: is => gCons (gName i) (gNames is)
theorem gNames_of : ∀ {is : List Nat} {xs : List V} {σ : L2.St} {H : Hp} {Q : L2.St → Hp → Prop}, xs.length = is.length → Q (setAllV is xs σ) H → gNames is xs σ H Q
  | [], [], _, _, _, _, q => ⟨rfl, q⟩
  | i :: is, x :: xs, σ, H, Q, hl, q => ⟨x, xs, rfl, gNames_of (Nat.succ.inj hl) q⟩
  | [], _ :: _, _, _, _, hl, _ => by cases hl
  | _ :: _, [], _, _, _, hl, _ => by cases hl
theorem tn_nm {i : Nat} {x : Str} (hN : X.N.Nodup) (hi : X.N[i]? = some x) (hx : Loc X.env.scope x) (hf : X.fn x = true ∨ X.env.scope.names.lookup x = some .local) : PG X (.Name x pos) (tN X.K (.nm i)) := pg_name hN hi hx hf
theorem tn_tup {es : List Expr} {is : List Nat} {kk : Nat} (hc : X.calm = true) (h : PGs X es (gNames is)) (hn : (assignEach es X.env).length = is.length) (hst : (assignEach es X.env).findIdx? (·.1) = none) : PG X (.Tuple es kk pos) (tN X.K (.tup is)) :=
  impG (pg_tup hc h hn hst) fun v σ H Q ⟨a, xs, e, k, hl, q⟩ => ⟨a, xs, e, k, hl, gNames_of hl q⟩
def Tg.within (g : Tg) (own : List Nat) : Bool := match g with
  | .nm i => own.contains i
  | .tup is => is.all own.contains
theorem wipe_set {own : List Nat} {σ : L2.St} {i : Nat} {x : Option V} (h : i ∈ own) : wipe (σ.set i x) own = wipe σ own := by
  induction own generalizing σ with
  | nil => simp at h
  | cons v vs ih =>
    unfold wipe
    by_cases hv : i ∈ vs
    · rw [ih hv]
    · have e : i = v := by
        rcases List.mem_cons.mp h with h | h
        · exact h
        · exact absurd h hv
      subst e
      have key : ∀ (vs : List Nat), i ∉ vs → ∀ σ : L2.St, wipe (σ.set i x) vs = (wipe σ vs).set i x := by
        intro vs
        induction vs with
        | nil => intro _ σ; rfl
        | cons u us ih2 =>
          intro hn σ
          have h1 : i ≠ u := fun z => hn (by simp [z])
          have h2 : i ∉ us := fun z => hn (List.mem_cons_of_mem _ z)
          unfold wipe
          rw [ih2 h2, List.set_comm _ _ h1]
      rw [key vs hv σ, List.set_set]
theorem wipe_all {own : List Nat} : ∀ {is : List Nat} {xs : List V} {σ : L2.St}, is.all own.contains = true → wipe (setAllV is xs σ) own = wipe σ own
  | [], _, _, _ => by simp only [setAllV]
  | _ :: _, [], _, _ => by simp only [setAllV]
  | i :: is, x :: xs, σ, h => by
    have h' : own.contains i = true ∧ is.all own.contains = true := by simpa using h
    show wipe (setAllV is xs (σ.set i (some x))) own = _
    rw [wipe_all h'.2, wipe_set (by simpa using h'.1)]
theorem wipe_wipe {own : List Nat} {σ : L2.St} : wipe (wipe σ own) own = wipe σ own := by
  have key : ∀ (l own : List Nat), (∀ i ∈ l, i ∈ own) → ∀ σ : L2.St, wipe (wipe σ l) own = wipe σ own := by
    intro l
    induction l with
    | nil => intro own _ σ; rfl
    | cons v vs ih =>
      intro own h σ
      show wipe ((wipe σ vs).set v none) own = _
      rw [wipe_set (h v (by simp)), ih own (fun i hi => h i (List.mem_cons_of_mem _ hi))]
  exact key own own (fun _ h => h) σ
theorem RE.wipe {L : Rl} {ρ : List Addr} {H : Hp} {env : Sl} {σ : L2.St} (h : RE L ρ H env σ) : ∀ own : List Nat, RE L ρ H (wipeE own env) (wipe σ own)
  | [] => h
  | v :: vs => (RE.wipe h vs).set1
theorem RE.setAll {L : Rl} {ρ : List Addr} {H : Hp} : ∀ {is : List Nat} {xs : List PV} {vs : List V} {env : Sl} {σ : L2.St}, RE L ρ H env σ → RVs L ρ H xs vs → RE L ρ H (setAll is xs env) (setAllV is vs σ)
  | [], [], _, _, _, h, .nil => h
  | [], _ :: _, _, _, _, h, .cons _ _ => h
  | _ :: _, [], _, _, _, h, .nil => h
  | i :: is, x :: xs, _, _, _, h, .cons r t => RE.setAll (is := is) (h.set r) t
theorem tN_of {L : Rl} {g : Tg} {ρ : List Addr} {H : Hp} {env env' : Sl} {σ : L2.St} {x : PV} {v : V} {own : List Nat} {Q : L2.St → Hp → Prop} (hw : g.within own = true) (e1 : RE L ρ H env (wipe σ own)) (r : RV L ρ H x v) (hg : g.set x env = some env')
    (k : ∀ σ2, RE L ρ H env' σ2 → wipe σ2 own = wipe σ own → Q σ2 H) : tN L.K g v (wipe σ own) H Q := by
  cases g with
  | nm i =>
    simp only [Tg.set] at hg
    cases hg
    refine k _ (e1.set r) ?_
    rw [wipe_set (by simpa [Tg.within] using hw), wipe_wipe]
  | tup is =>
    cases x with
    | tup xs =>
      simp only [Tg.set] at hg
      split at hg
      · rename_i hl
        cases hg
        obtain ⟨a, vs, rfl, k1, k2⟩ := rv_tup r
        refine ⟨a, vs, rfl, k1, by rw [← k2.length]; exact hl, k _ (e1.setAll k2) ?_⟩
        rw [wipe_all (by simpa [Tg.within] using hw), wipe_wipe]
      · cases hg
    | _ => cases hg
end

structure Own (ρ0 : List Addr) (H0 : Hp) (D : Addr) (ρ : List Addr) (H : Hp) : Prop where
  hp : H0 D = none
  nin : D ∉ ρ
  pre : ∃ m, ρ = ρ0 ++ m
  ext : Ext ρ0 H0 (ρ ++ [D]) H
section
variable {L : Rl} {ρ0 ρ ρ' : List Addr} {H0 H H' : Hp} {D : Addr} {ih : IH}
theorem Own.start (h : RH L ρ0 H0 ih) (hp : H0 D = none) (u : HO) : Own ρ0 H0 D ρ0 (upd H0 D u) :=
  have n : D ∉ ρ0 := fun m => by
    obtain ⟨z, hz, _⟩ := h.tracked m
    rw [hp] at hz; cases hz
  ⟨hp, n, ⟨[], by simp⟩, ext_lay h hp⟩
theorem Own.step {o : HO} (w : Own ρ0 H0 D ρ H) (ho : H D = some o) (e : Ext ρ H ρ' H') : Own ρ0 H0 D ρ' H' ∧ H' D = some o := by
  have hD' : H' D = some o := e.frame D o ho w.nin
  have nD : D ∉ ρ' := fun m => by
    have z := e.fresh D m w.nin
    rw [ho] at z; cases z
  obtain ⟨m1, e1⟩ := w.pre
  obtain ⟨m2, e2⟩ := e.pre
  have old : ∀ a o, H0 a = some o → a ∉ ρ0 → a ∉ ρ := fun a o q n m => by
    have z := w.ext.fresh a (List.mem_append_left _ m) n
    rw [q] at z; cases z
  refine ⟨⟨w.hp, nD, ⟨m1 ++ m2, by rw [e2, e1, List.append_assoc]⟩, ?_⟩, hD'⟩
  refine ⟨⟨m1 ++ m2 ++ [D], by rw [e2, e1]; simp⟩, fun a o q n => e.frame a o (w.ext.frame a o q n) (old a o q n), fun a m n => ?_, fun a xs q => e.tups a xs (w.ext.tups a xs q), fun a o v q => e.frzs a o v (w.ext.frzs a o v q), fun a fs q => e.xds a fs (w.ext.xds a fs q)⟩
  rcases List.mem_append.mp m with m | m
  · by_cases hr : a ∈ ρ
    · exact w.ext.fresh a (List.mem_append_left _ hr) n
    · have z := e.fresh a m hr
      cases q : H0 a with
      | none => rfl
      | some o => rw [w.ext.frame a o q n] at z; cases z
  · have : a = D := by simpa using m
    rw [this]; exact w.hp
def Plain (o : HO) : Prop := (∀ xs, o ≠ .tup xs) ∧ (∀ fs, o ≠ .xd fs) ∧ ∀ p v, o ≠ .frz p v
theorem kp_write {o u : HO} (ho : H D = some o) (n : Plain o) : Kp ρ H ρ (upd H D u) :=
  ⟨fun _ _ h => h, fun b xs h => by rw [upd_ne (fun z => by subst z; rw [ho] at h; exact n.1 _ (Option.some.inj h))]; exact h,
   fun b p v h => by rw [upd_ne (fun z => by subst z; rw [ho] at h; exact n.2.2 _ _ (Option.some.inj h))]; exact h,
   fun b fs h => by rw [upd_ne (fun z => by subst z; rw [ho] at h; exact n.2.1 _ (Option.some.inj h))]; exact h⟩
theorem Own.write {o u : HO} (w : Own ρ0 H0 D ρ H) : Own ρ0 H0 D ρ (upd H D u) := by
  have ne : ∀ a o, H0 a = some o → a ≠ D := fun a o q z => by
    subst z; rw [w.hp] at q; cases q
  refine ⟨w.hp, w.nin, w.pre, w.ext.pre, fun a o q n => ?_, w.ext.fresh, fun a xs q => ?_, fun a o v q => ?_, fun a fs q => ?_⟩
  · rw [upd_ne (ne a o q)]; exact w.ext.frame a o q n
  · rw [upd_ne (ne a _ q)]; exact w.ext.tups a xs q
  · rw [upd_ne (ne a _ q)]; exact w.ext.frzs a o v q
  · rw [upd_ne (ne a _ q)]; exact w.ext.xds a fs q
theorem RH.beside {u : HO} (h : RH L ρ H ih) (n : D ∉ ρ) (k : Kp ρ H ρ (upd H D u)) : RH L ρ (upd H D u) ih :=
  ⟨h.len, h.nd, fun i a o e1 e2 => (h.ob i a o e1 e2).keep k (upd_ne fun z => n (z ▸ List.mem_of_getElem? e1))⟩
theorem kp_app : Kp ρ H (ρ ++ [D]) H := ⟨fun n b h => by
  obtain ⟨hl, _⟩ := List.getElem?_eq_some_iff.mp h
  rw [List.getElem?_append_left hl]; exact h, fun _ _ h => h, fun _ _ _ h => h, fun _ _ h => h⟩
theorem RH.join {o : IO} (h : RH L ρ H ih) (n : D ∉ ρ) (r : RO L (ρ ++ [D]) H D o) : RH L (ρ ++ [D]) H (ih ++ [o]) := by
  have z : upd H D (H D |>.getD (.tup [])) = H ∨ H D = none := by
    cases q : H D with
    | none => exact .inr rfl
    | some u =>
      refine .inl ?_
      funext a
      by_cases ha : a = D
      · subst ha; rw [upd_same, q]; rfl
      · rw [upd_ne ha]
  refine ⟨by simp [h.len], ?_, fun i b o' e1 e2 => ?_⟩
  · rw [List.nodup_append]
    refine ⟨h.nd, by simp, ?_⟩
    intro x hx y hy e
    have : y = D := by simpa using hy
    subst this; subst e; exact n hx
  · by_cases hn : i < ρ.length
    · rw [List.getElem?_append_left hn] at e1
      rw [List.getElem?_append_left (by rw [← h.len]; exact hn)] at e2
      exact (h.ob i b o' e1 e2).keep kp_app rfl
    · have hn' : ρ.length ≤ i := by omega
      rw [List.getElem?_append_right hn'] at e1
      rw [List.getElem?_append_right (by rw [← h.len]; exact hn')] at e2
      have hz : i - ρ.length = 0 := by
        cases q : i - ρ.length with
        | zero => rfl
        | succ m => rw [q] at e1; simp at e1
      rw [hz] at e1
      rw [← h.len, hz] at e2
      simp at e1 e2
      subst e1; subst e2; exact r
theorem get_last (h : RH L ρ H ih) : (ρ ++ [D])[ih.length]? = some D := by
  rw [← h.len, List.getElem?_append_right (Nat.le_refl _), Nat.sub_self]; rfl
end

theorem SrcAt.keep {L : Rl} {ρ ρ1 : List Addr} {H H1 : Hp} (e : Kp ρ H ρ1 H1) {s : Src} {J : It} (h : SrcAt L ρ H s J) : SrcAt L ρ1 H1 s J := by
  cases s with
  | lst n => obtain ⟨a, h1, h2⟩ := h; exact ⟨a, e.get _ _ h1, h2⟩
  | vals xs => obtain ⟨a, vs, h1, h2, h3⟩ := h; exact ⟨a, vs, e.sqT h1, h2.keep e, h3⟩
  | rng lo c n => exact h
  | enumL n => obtain ⟨a, h1, h2⟩ := h; exact ⟨a, e.get _ _ h1, h2⟩
  | enumT xs => obtain ⟨a, vs, h1, h2, h3⟩ := h; exact ⟨a, vs, e.sqT h1, h2.keep e, h3⟩
def compDGo (s : Src) (g : Tg) (t : EM Bool) (ek ev : EM PV) : Nat → Nat → List (Key × PV) → Sl → IH → R (List (Key × PV))
  | 0, _, _, _, _ => .fail
  | n + 1, i, acc, env, ih => match s.at_ i ih with
    | none => .fail
    | some none => .ok acc ih
    | some (some x) => match g.set x env with
      | none => .fail
      | some env1 => match t env1 ih with
        | .ok true h1 => match ek env1 h1 with
          | .ok y h2 => match ev env1 h2 with
            | .ok z h3 => match keyOf y with
              | some k => if acc.length < LINE then compDGo s g t ek ev n (i + 1) (putK' acc k z) env h3 else .fail
              | none => .fail
            | _ => .fail
          | _ => .fail
        | .ok false h1 => compDGo s g t ek ev n (i + 1) acc env h1
        | _ => .fail
def eCompL (F : Nat) (src : EM Src) (g : Tg) (own : List Nat) (t : EM Bool) (e : EM PV) : EM PV := eBind src fun s => fun env ih => match compGo s g t e F 0 [] (wipeE own env) ih with
  | .ok xs h => .ok (.ref h.length) (h ++ [.lst xs])
  | _ => .fail
def eCompD (F : Nat) (src : EM Src) (g : Tg) (own : List Nat) (t : EM Bool) (ek ev : EM PV) : EM PV := eBind src fun s => fun env ih => match compDGo s g t ek ev F 0 [] (wipeE own env) ih with
  | .ok xs h => .ok (.ref h.length) (h ++ [.dK xs])
  | _ => .fail
def isRefP : PV → Bool
  | .ref _ => true
  | _ => false
def compNGo (s : Src) (g : Tg) (t : EM Bool) (ek ev : EM PV) : Nat → Nat → List (PV × PV) → Sl → IH → R (List (PV × PV))
  | 0, _, _, _, _ => .fail
  | n + 1, i, acc, env, ih => match s.at_ i ih with
    | none => .fail
    | some none => .ok acc ih
    | some (some x) => match g.set x env with
      | none => .fail
      | some env1 => match t env1 ih with
        | .ok true h1 => match ek env1 h1 with
          | .ok y h2 => match ev env1 h2 with
            | .ok z h3 => match nkOf y with
              | some k => if acc.length < LINE ∧ isRefP z = true then compNGo s g t ek ev n (i + 1) (putN acc y k z) env h3 else .fail
              | none => .fail
            | _ => .fail
          | _ => .fail
        | .ok false h1 => compNGo s g t ek ev n (i + 1) acc env h1
        | _ => .fail
def ioN (acc : List (PV × PV)) : IO := if acc.isEmpty = true then .dK [] else .dN acc
def eCompN (F : Nat) (src : EM Src) (g : Tg) (own : List Nat) (t : EM Bool) (ek ev : EM PV) : EM PV := eBind src fun s => fun env ih => match compNGo s g t ek ev F 0 [] (wipeE own env) ih with
  | .ok xs h => .ok (.ref h.length) (h ++ [ioN xs])
  | _ => .fail
abbrev WF : WX := fun _ _ _ _ => False
section
variable {L : Rl} {W : WX} {g : Tg} {src : EM Src} {own : List Nat} {t : EM Bool} {e ek ev : EM PV} {n : Nat}
theorem tG_ok {α β : Type} {rel : List Addr → Hp → α → β → Prop} {m : EM α} {env : Sl} {σ : L2.St} {ρ : List Addr} {H : Hp} {ih ih' : IH} {v : α} {Q : β → Hp → Prop} (e1 : RE L ρ H env σ) (e2 : RH L ρ H ih) (h : m env ih = .ok v ih') (k : ∀ ρ' H' u, Ext ρ H ρ' H' → RH L ρ' H' ih' → rel ρ' H' v u → Q u H') : tG L WF rel m σ H Q :=
  ⟨ρ, env, ih, e1, e2, by rw [h]; exact k⟩
theorem tLc_of {σ : L2.St} {H : Hp} {Q : VK} (hw : g.within own = true) (h : tE L W (eCompL n src g own t e) σ H Q) : tLc (tI L W src) (tN L.K g) (tT L WF t) (tE L WF e) own σ H Q := by
  obtain ⟨ρ, env, ih, e1, e2, p⟩ := h
  refine (bindAt (rel := fun ρ H s J => SrcAt L ρ H s J) e1 e2 p).mono fun J H0 ⟨ρ0, ih0, s, ex0, h0, sa0, p⟩ => ?_
  have e0 := (e1.mono ex0).wipe own
  intro D hD
  refine ⟨fun i m H => ∃ ρ ih acc vs, RH L ρ H ih ∧ RE L ρ H (wipeE own env) (wipe σ own) ∧ Own ρ0 H0 D ρ H ∧ H D = some (.lst vs) ∧ RVs L ρ H acc vs ∧ SrcAt L ρ H s J ∧
    Post L W σ (RV L) Q ρ0 H0 (match compGo s g t e m i acc (wipeE own env) ih with | .ok xs h => .ok (.ref h.length) (h ++ [.lst xs]) | _ => .fail), ⟨n, ρ0, ih0, [], [], h0.new hD, e0.mono (ext_new hD), Own.start h0 hD _, upd_same, .nil, sa0.mono (ext_new hD), p⟩, ?_⟩
  rintro i m H ⟨ρ, ih, acc, vs, hh, he, hw', hv, rv, sa, p⟩
  cases m with
  | zero => exact p.elim
  | succ m =>
    have tn := src_turn hh sa i
    unfold compGo at p
    cases q : s.at_ i ih with
    | none => rw [q] at p; exact p.elim
    | some o =>
      rw [q] at p tn
      cases o with
      | none =>
        dsimp only at p tn
        exact .inl ⟨tn, p _ _ _ hw'.ext (hh.join hw'.nin ⟨vs, hv, rv.keep kp_app⟩) (.ref (get_last hh))⟩
      | some x =>
        dsimp only at p tn
        refine .inr ⟨tn.1, fun H => ∃ ρ ih acc vs, RH L ρ H ih ∧ RE L ρ H (wipeE own env) (wipe σ own) ∧ Own ρ0 H0 D ρ H ∧ H D = some (.lst vs) ∧ RVs L ρ H acc vs ∧ SrcAt L ρ H s J ∧
          Post L W σ (RV L) Q ρ0 H0 (match compGo s g t e m (i + 1) acc (wipeE own env) ih with | .ok xs h => .ok (.ref h.length) (h ++ [.lst xs]) | _ => .fail), fun H' h => ⟨m, Nat.lt_succ_self _, h⟩, fun u H' y => ?_⟩
        obtain ⟨ρ1, ex1, h1, r1⟩ := tn.2 u H' y
        obtain ⟨w1, hv1⟩ := hw'.step hv ex1
        cases qg : g.set x (wipeE own env) with
        | none => rw [qg] at p; exact p.elim
        | some env1 =>
          rw [qg] at p
          dsimp only at p
          refine tN_of hw (he.mono ex1) r1 qg fun σ2 re2 ew => ⟨ew, ?_⟩
          cases qt : t env1 ih with
          | exc c fs h => rw [qt] at p; exact p.elim
          | fail => rw [qt] at p; exact p.elim
          | ok b ih2 =>
            rw [qt] at p
            refine tG_ok (rel := relB) re2 h1 qt fun ρ2 H2 b' ex2 h2 rb => ?_
            have rb : b = b' := rb
            subst rb
            obtain ⟨w2, hv2⟩ := w1.step hv1 ex2
            cases b with
            | false =>
              rw [if_neg Bool.false_ne_true]
              exact ⟨ρ2, ih2, acc, vs, h2, (he.mono ex1).mono ex2, w2, hv2, (rv.mono ex1).mono ex2, (sa.mono ex1).mono ex2, p⟩
            | true =>
              rw [if_pos rfl]
              dsimp only at p
              cases qe : e env1 ih2 with
              | exc c fs h => rw [qe] at p; exact p.elim
              | fail => rw [qe] at p; exact p.elim
              | ok z ih3 =>
                rw [qe] at p
                refine tG_ok (rel := RV L) (re2.mono ex2) h2 qe fun ρ3 H3 zv ex3 h3 rz => ?_
                obtain ⟨w3, hv3⟩ := w2.step hv2 ex3
                have rv3 := ((rv.mono ex1).mono ex2).mono ex3
                dsimp only at p
                by_cases hl : acc.length < LINE
                · rw [if_pos hl] at p
                  have kp : Kp ρ3 H3 ρ3 (upd H3 D (.lst (vs ++ [zv]))) := kp_write hv3 ⟨fun _ => by simp, fun _ => by simp, fun _ _ => by simp⟩
                  refine ⟨vs, hv3, by rw [← rv3.length, sizeLine_eq]; exact hl, ρ3, ih3, acc ++ [z], vs ++ [zv], h3.beside w3.nin kp, ?_, w3.write (o := .lst vs), upd_same, (rv3.append (.cons rz .nil)).keep kp, ?_, p⟩
                  · have q := ((he.mono ex1).mono ex2).mono ex3
                    exact ⟨q.len, fun i v h => let ⟨u, a, b⟩ := q.at_ i v h; ⟨u, a, b.keep kp⟩⟩
                  · exact ((sa.mono ex1).mono (ex2.trans ex3)).keep kp
                · rw [if_neg hl] at p; exact p.elim
theorem tDc_of {σ : L2.St} {H : Hp} {Q : VK} (hw : g.within own = true) (h : tE L W (eCompD n src g own t ek ev) σ H Q) : tDc (tI L W src) (tN L.K g) (tT L WF t) (tE L WF ek) (tE L WF ev) own σ H Q := by
  obtain ⟨ρ, env, ih, e1, e2, p⟩ := h
  refine (bindAt (rel := fun ρ H s J => SrcAt L ρ H s J) e1 e2 p).mono fun J H0 ⟨ρ0, ih0, s, ex0, h0, sa0, p⟩ => ?_
  have e0 := (e1.mono ex0).wipe own
  intro D hD
  refine ⟨fun i m H => ∃ ρ ih acc vs, RH L ρ H ih ∧ RE L ρ H (wipeE own env) (wipe σ own) ∧ Own ρ0 H0 D ρ H ∧ H D = some (.dK vs) ∧ RKs L ρ H acc vs ∧ SrcAt L ρ H s J ∧
    Post L W σ (RV L) Q ρ0 H0 (match compDGo s g t ek ev m i acc (wipeE own env) ih with | .ok xs h => .ok (.ref h.length) (h ++ [.dK xs]) | _ => .fail), ⟨n, ρ0, ih0, [], [], h0.new hD, e0.mono (ext_new hD), Own.start h0 hD _, upd_same, .nil, sa0.mono (ext_new hD), p⟩, ?_⟩
  rintro i m H ⟨ρ, ih, acc, vs, hh, he, hw', hv, rv, sa, p⟩
  cases m with
  | zero => exact p.elim
  | succ m =>
    have tn := src_turn hh sa i
    unfold compDGo at p
    cases q : s.at_ i ih with
    | none => rw [q] at p; exact p.elim
    | some o =>
      rw [q] at p tn
      cases o with
      | none =>
        dsimp only at p tn
        exact .inl ⟨tn, p _ _ _ hw'.ext (hh.join hw'.nin ⟨vs, hv, rv.keep kp_app⟩) (.ref (get_last hh))⟩
      | some x =>
        dsimp only at p tn
        refine .inr ⟨tn.1, fun H => ∃ ρ ih acc vs, RH L ρ H ih ∧ RE L ρ H (wipeE own env) (wipe σ own) ∧ Own ρ0 H0 D ρ H ∧ H D = some (.dK vs) ∧ RKs L ρ H acc vs ∧ SrcAt L ρ H s J ∧
          Post L W σ (RV L) Q ρ0 H0 (match compDGo s g t ek ev m (i + 1) acc (wipeE own env) ih with | .ok xs h => .ok (.ref h.length) (h ++ [.dK xs]) | _ => .fail), fun H' h => ⟨m, Nat.lt_succ_self _, h⟩, fun u H' y => ?_⟩
        obtain ⟨ρ1, ex1, h1, r1⟩ := tn.2 u H' y
        obtain ⟨w1, hv1⟩ := hw'.step hv ex1
        cases qg : g.set x (wipeE own env) with
        | none => rw [qg] at p; exact p.elim
        | some env1 =>
          rw [qg] at p
          dsimp only at p
          refine tN_of hw (he.mono ex1) r1 qg fun σ2 re2 ew => ⟨ew, ?_⟩
          cases qt : t env1 ih with
          | exc c fs h => rw [qt] at p; exact p.elim
          | fail => rw [qt] at p; exact p.elim
          | ok b ih2 =>
            rw [qt] at p
            refine tG_ok (rel := relB) re2 h1 qt fun ρ2 H2 b' ex2 h2 rb => ?_
            have rb : b = b' := rb
            subst rb
            obtain ⟨w2, hv2⟩ := w1.step hv1 ex2
            cases b with
            | false =>
              rw [if_neg Bool.false_ne_true]
              exact ⟨ρ2, ih2, acc, vs, h2, (he.mono ex1).mono ex2, w2, hv2, (rv.mono ex1).mono ex2, (sa.mono ex1).mono ex2, p⟩
            | true =>
              rw [if_pos rfl]
              dsimp only at p
              cases qk : ek env1 ih2 with
              | exc c fs h => rw [qk] at p; exact p.elim
              | fail => rw [qk] at p; exact p.elim
              | ok y ihk =>
              rw [qk] at p
              dsimp only at p
              refine tG_ok (rel := RV L) (re2.mono ex2) h2 qk fun ρk Hk yv exk hk ry => ?_
              obtain ⟨wk, hvk⟩ := w2.step hv2 exk
              cases qe : ev env1 ihk with
              | exc c fs h => rw [qe] at p; exact p.elim
              | fail => rw [qe] at p; exact p.elim
              | ok z ih3 =>
                rw [qe] at p
                dsimp only at p
                refine tG_ok (rel := RV L) ((re2.mono ex2).mono exk) hk qe fun ρ3 H3 zv ex3 h3 rz => ?_
                obtain ⟨w3, hv3⟩ := wk.step hvk ex3
                have rv3 := (((rv.mono ex1).mono ex2).mono exk).mono ex3
                cases qq : keyOf y with
                | none => rw [qq] at p; exact p.elim
                | some kk =>
                  rw [qq] at p
                  dsimp only at p
                  have eu := keyOf_v qq ry
                  by_cases hl : acc.length < LINE
                  · rw [if_pos hl] at p
                    have kp : Kp ρ3 H3 ρ3 (upd H3 D (.dK (putK vs kk zv))) := kp_write hv3 ⟨fun _ => by simp, fun _ => by simp, fun _ _ => by simp⟩
                    refine ⟨vs, kk, eu, hv3, by rw [← rks_len rv3, sizeLine_eq]; exact hl, ρ3, ih3, putK' acc kk z, putK vs kk zv, h3.beside w3.nin kp, ?_, w3.write (o := .dK vs), upd_same, (rks_put rv3 kk rz).keep kp, ?_, p⟩
                    · have q := (((he.mono ex1).mono ex2).mono exk).mono ex3
                      exact ⟨q.len, fun i v h => let ⟨u, a, b⟩ := q.at_ i v h; ⟨u, a, b.keep kp⟩⟩
                    · exact ((sa.mono ex1).mono ((ex2.trans exk).trans ex3)).keep kp
                  · rw [if_neg hl] at p; exact p.elim
def RMk (L : Rl) (ρ : List Addr) (H : Hp) (D : Addr) (acc : List (PV × PV)) : Prop := (acc = [] ∧ H D = some (.dK [])) ∨ (acc ≠ [] ∧ ∃ es, H D = some (ZN.NestO L.w D es) ∧ RNs L ρ H acc es)
theorem RMk.at_ {ρ : List Addr} {H : Hp} {D : Addr} {acc : List (PV × PV)} (h : RMk L ρ H D acc) : ∃ o, H D = some o ∧ Plain o := by
  rcases h with ⟨_, e⟩ | ⟨_, es, e, _⟩
  · exact ⟨_, e, fun _ => by simp, fun _ => by simp, fun _ _ => by simp⟩
  · exact ⟨_, e, fun _ q => (by unfold ZN.NestO at q; cases q), fun _ q => (by unfold ZN.NestO at q; cases q), fun _ _ q => (by unfold ZN.NestO at q; cases q)⟩
theorem RMk.keep {ρ ρ' : List Addr} {H H' : Hp} {D : Addr} {acc : List (PV × PV)} (h : RMk L ρ H D acc) (k : Kp ρ H ρ' H') (e : H' D = H D) : RMk L ρ' H' D acc := by
  rcases h with ⟨h1, h2⟩ | ⟨h1, es, h2, h3⟩
  · exact .inl ⟨h1, e.trans h2⟩
  · exact .inr ⟨h1, es, e.trans h2, h3.keep k⟩
theorem RMk.ro {ρ ρ' : List Addr} {H : Hp} {D : Addr} {acc : List (PV × PV)} (h : RMk L ρ H D acc) (k : Kp ρ H ρ' H) : RO L ρ' H D (ioN acc) := by
  rcases h with ⟨rfl, e⟩ | ⟨n, es, e, r⟩
  · exact ⟨[], e, .nil⟩
  · have : ioN acc = .dN acc := by
      unfold ioN
      cases acc with
      | nil => exact absurd rfl n
      | cons a b => rfl
    rw [this]
    exact ⟨es, e, r.keep k⟩
theorem RMk.isN {ρ : List Addr} {H : Hp} {D : Addr} {acc : List (PV × PV)} (h : RMk L ρ H D acc) : ∃ es, ZN.IsN L.w H D es ∧ RNs L ρ H acc es := by
  rcases h with ⟨rfl, e⟩ | ⟨_, es, e, r⟩
  · exact ⟨[], .inr ⟨e, rfl⟩, .nil⟩
  · exact ⟨es, .inl e, r⟩
theorem putN_ne {acc : List (PV × PV)} {y : PV} {k : NestedKey} {z : PV} : putN acc y k z ≠ [] := by
  unfold putN
  split
  · rename_i q
    cases acc with
    | nil => cases q
    | cons p r => obtain ⟨a, b⟩ := p; unfold setN; simp
  · simp
theorem tDcN_of {X : Cx} {ex : Option (Addr × Str × Option Addr)} (hL : L = lr X ex) (hu : X.A.units + 100 < cLine) {σ : L2.St} {H : Hp} {Q : VK} (hw : g.within own = true) (h : tE L W (eCompN n src g own t ek ev) σ H Q) : ZN.tDcG X (tI L W src) (tN L.K g) (tT L WF t) (tE L WF ek) (tE L WF ev) own σ H Q := by
  obtain ⟨ρ, env, ih, e1, e2, p⟩ := h
  refine (bindAt (rel := fun ρ H s J => SrcAt L ρ H s J) e1 e2 p).mono fun J H0 ⟨ρ0, ih0, s, ex0, h0, sa0, p⟩ => ?_
  have e0 := (e1.mono ex0).wipe own
  intro D hD
  refine ⟨fun i m H => ∃ ρ ih acc, RH L ρ H ih ∧ RE L ρ H (wipeE own env) (wipe σ own) ∧ Own ρ0 H0 D ρ H ∧ RMk L ρ H D acc ∧ SrcAt L ρ H s J ∧
    Post L W σ (RV L) Q ρ0 H0 (match compNGo s g t ek ev m i acc (wipeE own env) ih with | .ok xs h => .ok (.ref h.length) (h ++ [ioN xs]) | _ => .fail), ⟨n, ρ0, ih0, [], h0.new hD, e0.mono (ext_new hD), Own.start h0 hD _, .inl ⟨rfl, upd_same⟩, sa0.mono (ext_new hD), p⟩, ?_⟩
  rintro i m H ⟨ρ, ih, acc, hh, he, hw', rm, sa, p⟩
  obtain ⟨o0, hv, hpl⟩ := rm.at_
  cases m with
  | zero => exact p.elim
  | succ m =>
    have tn := src_turn hh sa i
    unfold compNGo at p
    cases q : s.at_ i ih with
    | none => rw [q] at p; exact p.elim
    | some o =>
      rw [q] at p tn
      cases o with
      | none =>
        dsimp only at p tn
        exact .inl ⟨tn, p _ _ _ hw'.ext (hh.join hw'.nin (rm.ro kp_app)) (.ref (get_last hh))⟩
      | some x =>
        dsimp only at p tn
        refine .inr ⟨tn.1, fun H => ∃ ρ ih acc, RH L ρ H ih ∧ RE L ρ H (wipeE own env) (wipe σ own) ∧ Own ρ0 H0 D ρ H ∧ RMk L ρ H D acc ∧ SrcAt L ρ H s J ∧
          Post L W σ (RV L) Q ρ0 H0 (match compNGo s g t ek ev m (i + 1) acc (wipeE own env) ih with | .ok xs h => .ok (.ref h.length) (h ++ [ioN xs]) | _ => .fail), fun H' h => ⟨m, Nat.lt_succ_self _, h⟩, fun u H' y => ?_⟩
        obtain ⟨ρ1, ex1, h1, r1⟩ := tn.2 u H' y
        obtain ⟨w1, hv1⟩ := hw'.step hv ex1
        cases qg : g.set x (wipeE own env) with
        | none => rw [qg] at p; exact p.elim
        | some env1 =>
          rw [qg] at p
          dsimp only at p
          refine tN_of hw (he.mono ex1) r1 qg fun σ2 re2 ew => ⟨ew, ?_⟩
          cases qt : t env1 ih with
          | exc c fs h => rw [qt] at p; exact p.elim
          | fail => rw [qt] at p; exact p.elim
          | ok b ih2 =>
            rw [qt] at p
            refine tG_ok (rel := relB) re2 h1 qt fun ρ2 H2 b' ex2 h2 rb => ?_
            have rb : b = b' := rb
            subst rb
            obtain ⟨w2, hv2⟩ := w1.step hv1 ex2
            cases b with
            | false =>
              rw [if_neg Bool.false_ne_true]
              exact ⟨ρ2, ih2, acc, h2, (he.mono ex1).mono ex2, w2, rm.keep (ex1.trans ex2).kp (hv2.trans hv.symm), (sa.mono ex1).mono ex2, p⟩
            | true =>
              rw [if_pos rfl]
              dsimp only at p
              cases qk : ek env1 ih2 with
              | exc c fs h => rw [qk] at p; exact p.elim
              | fail => rw [qk] at p; exact p.elim
              | ok y ihk =>
              rw [qk] at p
              dsimp only at p
              refine tG_ok (rel := RV L) (re2.mono ex2) h2 qk fun ρk Hk yv exk hk ry => ?_
              obtain ⟨wk, hvk⟩ := w2.step hv2 exk
              cases qe : ev env1 ihk with
              | exc c fs h => rw [qe] at p; exact p.elim
              | fail => rw [qe] at p; exact p.elim
              | ok z ih3 =>
                rw [qe] at p
                dsimp only at p
                refine tG_ok (rel := RV L) ((re2.mono ex2).mono exk) hk qe fun ρ3 H3 zv ex3 h3 rz => ?_
                obtain ⟨w3, hv3⟩ := wk.step hvk ex3
                have rm3 : RMk L ρ3 H3 D acc := rm.keep (((ex1.trans ex2).trans exk).trans ex3).kp (hv3.trans hv.symm)
                obtain ⟨es3, in3, rn3⟩ := rm3.isN
                cases qq : nkOf y with
                | none => rw [qq] at p; exact p.elim
                | some kk =>
                  rw [qq] at p
                  dsimp only at p
                  have ry3 := ry.mono ex3
                  obtain ⟨b, rfl, hk, hd⟩ := nkOf_rv qq ry3
                  obtain ⟨hc, _, _⟩ := nkOf_ck qq
                  by_cases hl : acc.length < LINE ∧ isRefP z = true
                  · rw [if_pos hl] at p
                    obtain ⟨hl, hz⟩ := hl
                    cases z with
                    | ref nz =>
                      obtain ⟨az, rfl, eaz⟩ := rv_ref rz
                      have kp : Kp ρ3 H3 ρ3 (upd H3 D (ZN.NestO L.w D (storedH es3 kk b (.ref az)))) := kp_write hv3 hpl
                      refine ⟨_, ?_, ρ3, ih3, putN acc y kk (.ref nz), h3.beside w3.nin kp, ?_, w3.write (o := o0), .inr ⟨putN_ne, _, upd_same, (rns_put rn3 ry3 hc hd rz rfl).keep kp⟩, ?_, p⟩
                      · subst hL
                        exact ZN.ds_N (Nat.lt_of_le_of_lt (by omega) hu) in3 (rns_keys rn3) hk hd (by rw [← rns_len rn3, sizeLine_eq]; exact hl) fun r hr => by cases hr; rfl
                      · have q := (((he.mono ex1).mono ex2).mono exk).mono ex3
                        exact ⟨q.len, fun i v h => let ⟨u, a, b⟩ := q.at_ i v h; ⟨u, a, b.keep kp⟩⟩
                      · exact ((sa.mono ex1).mono ((ex2.trans exk).trans ex3)).keep kp
                    | _ => cases hz
                  · rw [if_neg hl] at p; exact p.elim
end
end Z
end
noncomputable section
namespace Z
open PySem PySem.Spec PyProof.Rows L2
set_option autoImplicit false
section
variable {X : Cx} {W : WX} {C : Cfg} {k : Nat} {pos pp : Pos} {a b e : Expr}
theorem takesN {X : Cx} : Takes X WF := fun _ _ ⟨_, _, _, _, _, _, _, _, _, _, _, _, _, _, _, _, w⟩ => w.elim
theorem run_in (F : FX C X k) {A : Around} (hr : Room k A) (hfr : A.frames = X.A.frames) {id : FId} {n : Nat} {pins : List (Addr × Obj)} {σ : L2.St} {Q : VK} {s1 : Shared} {us : List Value} {vs : List V} {H1 : Hp} (I1 : Inv X pins σ H1 s1) (r : Vals vs us)
    {ρ1 : List Addr} {ih1 : IH} {xs : List PV} (h1 : RH (lr X none) ρ1 H1 ih1) (r1 : RVs (lr X none) ρ1 H1 xs vs) (p1 : Post (lr X none) WF σ (RV (lr X none)) Q ρ1 H1 (callP C id n xs ih1)) :
    wpAny (model X.prog X.w) A (call (.ref (adr X.K id)) us) (EP X pins σ Q) X.xe s1 := by
  obtain ⟨fd, fdat, ds, dvs, ef, hF, h1', h3, hsp⟩ := call_wish F h1 r1 p1
  have r2 : Vals (vs ++ dvs) (us ++ ds) := r.append h1'
  have hl : (us ++ ds).length = fd.ps.length := by rw [← r2.length]; exact hF.len _ _ _ _ hsp
  have e0 : Env0 X.prog X.w X.K X.mg X.base A X.stack s1 H1 := by
    have e := I1.env0
    exact ⟨by rw [hfr]; exact e.frames, e.mod, e.bs, e.bsz, e.funs, e.frf, e.hok, e.bare⟩
  refine wpAny_call (codeAny_mono (hF.run A X.stack s1 H1 ⟨us, []⟩ (us ++ ds) (vs ++ dvs) Q (WE WF σ) hr e0 (h3 s1 us I1.kIn hl) r2 hsp) fun r s' hq => ?_)
  cases r with
  | error e => exact passAt takesN σ pins H1 s1 e s' I1 hq
  | ok fl =>
    cases fl with
    | ret u => exact I1.after hq
    | next => exact False.elim hq
    | brk => exact False.elim hq
    | cont => exact False.elim hq
def noXr {α : Type} : R α → R α
  | .exc _ _ _ => .fail
  | r => r
theorem post_noXr {α β : Type} {L : Rl} {W : WX} {σ σ' : L2.St} {rel : List Addr → Hp → α → β → Prop} {Q : β → Hp → Prop} {ρ : List Addr} {H : Hp} {r : R α} (p : Post L W σ rel Q ρ H (noXr r)) : Post L WF σ' rel Q ρ H r := by
  cases r with
  | ok v h => exact p
  | exc c fs h => exact p.elim
  | fail => exact p
def lenB : R PV → R PV
  | .ok (.int j) h => if 0 ≤ j ∧ j < 9223372036854775808 then .ok (.int j) h else .fail
  | _ => .fail
def lnP (C : Cfg) : BP := fun vs ih => match vs with
  | [.ref n] => match ih[n]? with
    | some (.ins c _) => lenB (callP C (.meth c "__len__") 1 [.ref n] ih)
    | _ => lenP [.ref n] ih
  | vs => lenP vs ih
theorem own_at (F : FX C X k) {pins : List (Addr × Obj)} {σ : L2.St} {H : Hp} {s : Shared} (I : Inv X pins σ H s) {ρ : List Addr} {ih : IH} (h : RH (lr X none) ρ H ih) {n : Nat} {c m : Str} {fs : List (Str × PV)} (q : ih[n]? = some (.ins c fs)) {ad : Addr} (ea : ρ[n]? = some ad) (hd : (C.P.fdef (.meth c m)).isSome = true) :
    ∃ ox od m', PySem.W.InstAt s.heap ad ox (He.ga X.K c) od ∧ Meth X.K (He.ga X.K c) m (He.ma X.K (He.ga X.K c) m) ∧ Fr X.base X.env.locals s.heap m' := by
  obtain ⟨fd, hfd⟩ := Option.isSome_iff_exists.mp hd
  obtain ⟨cl, me⟩ := F.meth c m fd hfd
  obtain ⟨dx, fs', k1, k2⟩ := getI_at h (show getI ih n = some (c, fs) by unfold getI; rw [q]) ea
  obtain ⟨mA, J, _⟩ := ins_get I.hok k1
  obtain ⟨od, J, _⟩ := J.look
  obtain ⟨m', hF⟩ := I.fr
  exact ⟨_, od, m', J, me, hF⟩
def rLenO (C : Cfg) (X : Cx) : List V → Hp → VK → Prop := fun us H Q => ∃ ρ ih n c fs, RH (lr X none) ρ H ih ∧ RVs (lr X none) ρ H [.ref n] us ∧ ih[n]? = some (.ins c fs) ∧ Post (lr X none) WF [] (RV (lr X none)) Q ρ H (lenB (callP C (.meth c "__len__") 1 [.ref n] ih))
theorem callP_def {id : FId} {n : Nat} {vs : List PV} {ih : IH} (h : C.P.fdef id = none) : callP C id n vs ih = .fail := by
  unfold callP
  rw [h]
theorem call_lenO (F : FX C X k) (hr : Room (k + 1) X.A) : CallR X (.builtin "len") (rLenO C X) := by
  intro pins s σ H xs us Q I rx q
  obtain ⟨ρ, ih, n, c, fs, h, rv, e, p⟩ := q
  obtain ⟨u, rfl, r1⟩ := rvs1 rv
  obtain ⟨ad, rfl, ea⟩ := rv_ref r1
  cases rx with
  | cons r0 t0 =>
    cases t0
    obtain rfl := r0
    have hd : (C.P.fdef (.meth c "__len__")).isSome = true := by
      cases q : C.P.fdef (.meth c "__len__") with
      | some fd => rfl
      | none => rw [callP_def q] at p; exact p.elim
    obtain ⟨ox, od, m', J, me, hF⟩ := own_at F I h e ea hd
    refine PySem.W.len_K hF I.ok.mod.kin J me.at_ me.fn (wpAny_mono (run_in F hr.in1 rfl (σ := σ) (Q := fun z H' => ∃ j : Int, z = .int j ∧ 0 ≤ j ∧ j < 9223372036854775808 ∧ Q (.int j) H') I (us := [.ref ad]) (vs := [.ref ad]) (.cons rfl .nil) h rv (n := 1) (id := .meth c "__len__") ?_) (fun v s' hv => ?_) fun _ _ z => z)
    · generalize callP C (.meth c "__len__") 1 [.ref n] ih = r at p
      cases r with
      | exc c fs h => exact p.elim
      | fail => exact p.elim
      | ok v h2 =>
        cases v with
        | int j =>
          unfold lenB at p
          dsimp only at p
          split at p
          · rename_i hj
            exact fun ρ' H' u e1 h1 r1 => by
              cases r1
              exact ⟨j, rfl, hj.1, hj.2, p ρ' H' _ e1 h1 (.int _)⟩
          · exact p.elim
        | _ => exact p.elim
    · obtain ⟨z, H', I', rz, j, rfl, h0, h1, q⟩ := hv
      obtain ⟨t, rfl⟩ := (show ∃ t, v = Value.int j t from rz)
      exact ⟨⟨h0, by omega⟩, V.int j, H', I'.tok _, ⟨_, rfl⟩, q⟩
theorem noXr_len {r : R PV} : noXr (lenB r) = lenB r := by
  cases r with
  | ok v h =>
    cases v with
    | int j =>
      show noXr (if 0 ≤ j ∧ j < 9223372036854775808 then R.ok (PV.int j) h else .fail) = if 0 ≤ j ∧ j < 9223372036854775808 then R.ok (PV.int j) h else .fail
      split <;> rfl
    | _ => rfl
  | exc c fs h => rfl
  | fail => rfl
theorem pc_ln : PCall (lr X none) W (lnP C) (fun xs H Q => rLenA X.K xs H Q ∨ rLenO C X xs H Q) := by
  intro σ Q ρ H ih xs us h r p
  unfold lnP at p
  split at p
  · split at p
    · rename_i e
      exact .inr ⟨ρ, ih, _, _, _, h, r, e, post_noXr (by rw [noXr_len]; exact p)⟩
    · exact .inl (pc_len σ Q ρ H ih _ us h r p)
  · exact .inl (pc_len σ Q ρ H ih _ us h r p)
def Prg.own (P : Prg) (m : Str) : Bool := P.clss.any fun q => (q.2.lookup m).isSome
def bltP (C : Cfg) (x : Str) (p : BP) : BP := if x = Str.ofString "len" ∧ C.P.own "__len__" = true then lnP C else p
theorem se_bltO {x : Str} {f : Expr → EM PV} {es : List Expr} {p : BP} (F : FX C X k) (hr : Room (k + 1) X.A) (hc : X.calm = true) (hu : X.A.units + 100 < cLine) (isa : IsaOk X.K C.P.isCls) (hg : Gl X x) (hb : C.P.blts.contains x = true) (hp : bltOf C.P x = some p) (hf : ∀ e ∈ es, PE X e (tE (lr X none) W (f e))) (hs : es.any isStar = false) (h0 : es.isEmpty = false) (hn : (x == ("__name__" : Str)) = false) (hdb : (x == ("__debug__" : Str)) = false) :
    PE X (.Call (.Name x pp) es [] pos) (tE (lr X none) W (eB (bltP C x p) (eArgs (es.map f)))) := by
  unfold bltP
  by_cases hx : x = Str.ofString "len" ∧ C.P.own "__len__" = true
  · rw [if_pos hx]
    obtain ⟨rfl, _⟩ := hx
    cases es with
    | nil => cases h0
    | cons e es =>
      have ha := sa_args f (e :: es) hf hs
      have hs' : isStar e = false ∧ es.any isStar = false := by simpa using hs
      refine impE (pe_callB (CallR.or call_lenA (call_lenO F hr)) hg (F.blt _ hb) rfl ha (by decide) hdb (star_no hs'.1) (back_plain hs'.2)) fun σ H Q ⟨ρ, env, ih, e1, e2, q⟩ => ?_
      exact (bindAt (rel := RVs (lr X none)) e1 e2 q).mono fun us H1 ⟨ρ1, ih1, xs, ex1, h1, r1, p1⟩ => pc_ln σ Q ρ1 H1 ih1 xs us h1 r1 p1
  · rw [if_neg hx]
    exact se_blt F hc hu isa hg hb hp hf hs h0 hn hdb
end
end Z
end
noncomputable section
namespace Z
open PySem PySem.Spec PyProof.Rows L2
set_option autoImplicit false
section
variable {X : Cx} {W : WX} {C : Cfg} {k : Nat} {pos pp : Pos} {a b e : Expr} {ma mb : EM PV}
def ixX (C : Cfg) (o i : PV) (ih : IH) : R PV := match o with
  | .ref n => match ih[n]? with
    | some (.ins c _) => noXr (callP C (.meth c "__getitem__") 2 [.ref n, i] ih)
    | _ => ixP (.ref n) i ih
  | o => ixP o i ih
def rIxO (C : Cfg) (X : Cx) : R2 := fun x y H Q => ∃ ρ ih n c fs i, RH (lr X none) ρ H ih ∧ RV (lr X none) ρ H (.ref n) x ∧ RV (lr X none) ρ H i y ∧ ih[n]? = some (.ins c fs) ∧ Post (lr X none) WF [] (RV (lr X none)) Q ρ H (callP C (.meth c "__getitem__") 2 [.ref n, i] ih)
def IxRO (X : Cx) (b : Expr) (r : R2) : Prop :=
  ∀ (value : Expr) (pins : List (Addr × Obj)) (s : Shared) (σ : L2.St) (H : Hp) (x y : V) (v u : Value) (Q : VK), Inv X pins σ H s → RelV x v → RelV y u → r x y H Q → wpAny (model X.prog X.w) X.A (subscriptTail value b v u) (EP X pins σ Q) X.xe s
theorem ix_own (F : FX C X k) (hr : Room (k + 1) X.A) (hs : isSl3 b = false) : IxRO X b (rIxO C X) := by
  intro value pins s σ H x y v u Q I rx ry q
  obtain ⟨ρ, ih, n, c, fs, i, h, rv, ri, e, p⟩ := q
  obtain ⟨ad, rfl, ea⟩ := rv_ref rv
  obtain rfl : v = Value.ref ad := rx
  have hd : (C.P.fdef (.meth c "__getitem__")).isSome = true := by
    cases q : C.P.fdef (.meth c "__getitem__") with
    | some fd => rfl
    | none => rw [callP_def q] at p; exact p.elim
  obtain ⟨ox, od, m', J, me, hF⟩ := own_at F I h e ea hd
  obtain ⟨fd, hfd⟩ := Option.isSome_iff_exists.mp hd
  refine PySem.W.sub_K hF I.ok.mod.kin J me.at_ (F.fnI _ _ _ hfd) me.fn (run_in F hr.in1 rfl I (us := [.ref ad, u]) (vs := [.ref ad, y]) (.cons rfl (.cons ry .nil)) h (.cons rv (.cons ri .nil)) p) ?_
  cases b with
  | Slice lo hi st p =>
    cases st with
    | none => cases hs
    | some s => rfl
  | _ => rfl
theorem p2_ixX : P2 (lr X none) W (ixX C) (fun x y H Q => rIxA X.K x y H Q ∨ rIxO C X x y H Q) := by
  intro σ Q ρ H ih x y u v h r1 r2 p
  unfold ixX at p
  split at p
  · split at p
    · rename_i e
      exact .inr ⟨ρ, ih, _, _, _, _, h, r1, r2, e, post_noXr p⟩
    · exact .inl (p2_ix σ Q ρ H ih _ _ u v h r1 r2 p)
  · exact .inl (p2_ix σ Q ρ H ih _ _ u v h r1 r2 p)
theorem se_ixX (F : FX C X k) (hr : Room (k + 1) X.A) (hu : X.A.units + 1 < cLine) (ha : PE X a (tE (lr X none) W ma)) (hb : PE X b (tE (lr X none) W mb)) (hs : isSl3 b = false) : PE X (.Subscript a b pos) (tE (lr X none) W (eOp (ixX C) ma mb)) := by
  refine ⟨fun pins s σ H Q I h => ?_⟩
  have h := tE_op p2_ixX h
  exact PyProof.Rows.Subscript_ (binT ha hb I h fun v u s2 x y H2 I2 rx ry q => by
    rcases q with q | q
    · exact ix_all hu a b pins s2 σ H2 x y v u Q I2 rx ry q (plainIx_of hs _ _)
    · exact ix_own F hr hs a pins s2 σ H2 x y v u Q I2 rx ry q)
def eqB : R PV → R Bool
  | .ok (.bl b) h => .ok b h
  | _ => .fail
def ownMeets (c : Str) (ih : IH) : PV → Bool
  | .str _ => true
  | .ref m => match ih[m]? with
    | some (.ins c' _) => decide (c' = c)
    | _ => false
  | _ => false
def eqX (C : Cfg) (x y : PV) (ih : IH) : R Bool := match x with
  | .ref n => match ih[n]? with
    | some (.ins c _) => if ownMeets c ih y = true then eqB (callP C (.meth c "__eq__") 2 [.ref n, y] ih) else .fail
    | _ => eqP (.ref n) y ih
  | x => eqP x y ih
def cmpX (C : Cfg) : CmpOp → PV → PV → IH → R Bool
  | .Eq => eqX C
  | .NotEq => fun x y ih => (eqX C x y ih).not
  | op => cmpP op
def rEqO (f : Bool → Bool) (C : Cfg) (X : Cx) : R2 := fun x y H Q => ∃ ρ ih n c fs i, RH (lr X none) ρ H ih ∧ RV (lr X none) ρ H (.ref n) x ∧ RV (lr X none) ρ H i y ∧ ih[n]? = some (.ins c fs) ∧ ownMeets c ih i = true ∧ Post (lr X none) WF [] (RV (lr X none)) (fun z H' => ∃ b, z = .bl b ∧ Q (.bl (f b)) H') ρ H (callP C (.meth c "__eq__") 2 [.ref n, i] ih)
theorem sub_str {K : PySem.W.Frag} {D : Addr} : PySem.W.subIn K (.type "str") (.ref D) = some false := by
  have e : fastBuiltinMro "str" = some [.type "str", .type "object"] := by decide +kernel
  show (fastBuiltinMro "str").map (fun l => l.contains (.ref D)) = some false
  rw [e]
  first
    | rfl
    | simp
theorem meets_ty {pins : List (Addr × Obj)} {σ : L2.St} {H : Hp} {s : Shared} (I : Inv X pins σ H s) {ρ : List Addr} {ih : IH} (h : RH (lr X none) ρ H ih) {c : Str} {i : PV} {y : V} {u : Value} (ri : RV (lr X none) ρ H i y) (ry : RelV y u) (hm : ownMeets c ih i = true) :
    ∃ tb, PySem.W.Looks (model X.prog X.w) s.heap (typeOf u) tb ∧ PySem.W.notFirst X.K (He.ga X.K c) tb = true := by
  unfold ownMeets at hm
  split at hm
  · cases ri
    obtain ⟨t, rfl⟩ := (show ∃ t, u = Value.str _ t from ry)
    refine ⟨.type "str", fun A Q E s' k q => wpAny_typeOf (show s'.TypeIs (.str _ t) "str" from rfl) q, ?_⟩
    unfold PySem.W.notFirst
    rw [sub_str]
    simp
  · rename_i m
    split at hm
    · rename_i c' fs q
      have ec : c' = c := of_decide_eq_true hm
      subst ec
      obtain ⟨ad, rfl, ea⟩ := rv_ref ri
      obtain rfl : u = Value.ref ad := ry
      obtain ⟨dx, fs', k1, k2⟩ := getI_at h (show getI ih m = some (c', fs) by unfold getI; rw [q]) ea
      obtain ⟨mA, J, _⟩ := ins_get I.hok k1
      obtain ⟨od, J, _⟩ := J.look
      refine ⟨_, J.type, ?_⟩
      unfold PySem.W.notFirst
      simp
    · cases hm
  · cases hm
theorem run_eq (F : FX C X k) {A : Around} (hr : Room k A) (hfr : A.frames = X.A.frames) {pins : List (Addr × Obj)} {σ : L2.St} {H : Hp} {s : Shared} {Q : Bool → Hp → Prop} (I : Inv X pins σ H s) {ρ : List Addr} {ih : IH} (h : RH (lr X none) ρ H ih) {n : Nat} {c : Str} {i : PV} {ad : Addr} {y : V} {u : Value}
    (rv : RV (lr X none) ρ H (.ref n) (.ref ad)) (ri : RV (lr X none) ρ H i y) (ry : RelV y u) (p : Post (lr X none) WF [] (RV (lr X none)) (fun z H' => ∃ b, z = .bl b ∧ Q b H') ρ H (callP C (.meth c "__eq__") 2 [.ref n, i] ih)) :
    wpAny (model X.prog X.w) A (call (.ref (He.ma X.K (He.ga X.K c) "__eq__")) [.ref ad, u]) (fun v s' => ∃ b, v = .bool b ∧ ∃ H', Inv X pins σ H' s' ∧ Q b H') X.xe s := by
  refine wpAny_mono (run_in F hr hfr I (id := .meth c "__eq__") (us := [.ref ad, u]) (vs := [.ref ad, y]) (.cons rfl (.cons ry .nil)) h (.cons rv (.cons ri .nil)) p) (fun v s' hv => ?_) fun _ _ z => z
  obtain ⟨z, H', I', rz, b, rfl, q⟩ := hv
  obtain rfl : v = Value.bool b := rz
  exact ⟨b, rfl, H', I', q⟩
theorem op_eqX (F : FX C X k) (hr : Room (k + 1) X.A) : OpR X (compareOp .Eq) (rEqO id C X) := by
  intro pins s σ H x y v u Q I rx ry q
  obtain ⟨ρ, ih, n, c, fs, i, h, rv, ri, e, hm, p⟩ := q
  obtain ⟨ad, rfl, ea⟩ := rv_ref rv
  obtain rfl : v = Value.ref ad := rx
  have hd : (C.P.fdef (.meth c "__eq__")).isSome = true := by
    cases q : C.P.fdef (.meth c "__eq__") with
    | some fd => rfl
    | none => rw [callP_def q] at p; exact p.elim
  obtain ⟨ox, od, m', J, me, hF⟩ := own_at F I h e ea hd
  obtain ⟨tb, hb, hn⟩ := meets_ty I h ri ry hm
  refine PySem.W.cmp_ofEq (PySem.W.cmp_K (op := .Eq) hr.units0 hF I.ok.mod.kin J hb hn me.at_ me.fn (wpAny_mono (run_eq F (hr.mono (Nat.le_succ _)) rfl I h rv ri ry p) (fun v s' hv => ?_) fun _ _ z => z))
  obtain ⟨b, rfl, H', I', q⟩ := hv
  exact ⟨.bl b, H', I', rfl, q⟩
section
variable {prog : Program} {w : World} {A : Around} {E : Value → Shared → Prop} {s : Shared} {K : PySem.W.Frag} {x D f : Addr} {ox : Obj} {od : Option Obj} {v tb : Value}
theorem ifBound_ne {M : Model} {args : List Value} {Q : Option Value → Shared → Prop} (KI : K.In s.heap) (I : PySem.W.InstAt s.heap x ox D od) (hs : PySem.W.findIn K (.ref D) "__ne__" = some (some (.builtin "object.__ne__")))
    (h : wpAny M A (call (.builtin "object.__ne__") (.ref x :: args)) (fun r => Q (some r)) E s) : wpAny M A (callSpecialIfBound? (.ref x) "__ne__" args) Q E s := by
  simp only [callSpecialIfBound?, bindSpecialIfBound?]
  refine wpAny_holding (wpAny_bind (wpAny_bind (wpAny_bind (I.type.here ((PySem.W.looks_findIn KI hs).here ?_)))))
  refine wpAny_bind (wpAny_askSetting (wpAny_ite ?_))
  have done : wpAny M A (call (.builtin "object.__ne__") ([.ref x] ++ args) >>= fun r => pure (some r)) Q E s := wpAny_bind (wpAny_mono h (fun r s' h' => wpAny_pure h') fun _ _ h' => h')
  split
  · exact wpAny_bind (wpAny_of_eq (F.cmp_object.ne.bind _) (wpAny_pure (by exact done)))
  · exact wpAny_tryCatch (wpAny_bind (wpAny_of_eq (F.cmp_object.ne.bind _) (wpAny_pure (by exact done))))
theorem entry_ne {Q : Fin → Shared → Prop} (hu : A.units < cLine) (KI : K.In s.heap) (I : PySem.W.InstAt s.heap x ox D od) (hs : PySem.W.findIn K (.ref D) "__eq__" = some (some (.ref f))) (hf : PySem.W.isFn K (.ref f) = true)
    (h : wpAny (model prog w) A (call (.ref f) [.ref x, v]) (fun r s' => ∃ b, r = .bool b ∧ Q (.done (.ret (.bool (!b)))) s') E s) : wpAny (model prog w) A (Builtin.«object.__ne__» ⟨[.ref x, v], []⟩) Q E s := by
  unfold Builtin.«object.__ne__»
  repeat (first
    | with_reducible refine wpAny_cRoomFor hu ?_
    | (refine wpAny_bind (m := callSpecialIfBound? (.ref x) (Str.ofString "__eq__") [v])
        (PySem.W.ifBound_K KI I hs hf (wpAny_mono h (fun r s' hr => by
          obtain ⟨b, rfl, hq⟩ := hr
          repeat (first | exact hq | exact wpAny_pure hq | exact wpAny_truthy_bool hq | (refine wpAny_bind (m := truthy (.bool _)) (wpAny_truthy_bool ?_)) | wp_step)) fun _ _ e => e)))
    | wp_step)
theorem ne_K {Q : Value → Shared → Prop} (hu : A.units + 1 < cLine) (KI : K.In s.heap) (I : PySem.W.InstAt s.heap x ox D od) (hb : PySem.W.Looks (model prog w) s.heap (typeOf v) tb) (hn : PySem.W.notFirst K D tb = true)
    (hm : PySem.W.mroIn K D (.type "object") = some true) (hne : PySem.W.findIn K (.ref D) "__ne__" = some (some (.builtin "object.__ne__"))) (hs : PySem.W.findIn K (.ref D) "__eq__" = some (some (.ref f))) (hf : PySem.W.isFn K (.ref f) = true)
    (h : wpAny (model prog w) A.in1 (call (.ref f) [.ref x, v]) (fun r s' => ∃ b, r = .bool b ∧ Q (.bool (!b)) s') E s) : wpAny (model prog w) A (richCompare .NotEq (.ref x) v) Q E s := by
  have one : wpAny (model prog w) A (tryCompare (.ref x) "__ne__" v) (fun r s' => ∃ b, r = some (.bool b) ∧ Q (.bool b) s') E s := by
    unfold tryCompare
    refine wpAny_bind (ifBound_ne KI I hne (wpAny_call (codeAny_call_builtin F.cmp_object.ne.plain F.cmpEntry_ne (PySem.W.check_slot F.cmpKind_ne F.cmpSplit_ne (I.type.andThen (PySem.W.looks_mroIn KI hm)) (F.cmpArgs_ne _ _)
      (entry_ne (A := A.in1) hu KI I hs hf (wpAny_mono h (fun r s' hr => ?_) fun _ _ e => e))))))
    obtain ⟨b, rfl, hq⟩ := hr
    exact ⟨b, rfl, wpAny_pure ⟨_, rfl, hq⟩⟩
  unfold richCompare
  simp only [oneThing_ref]
  refine wpAny_holding (wpAny_bind (wpAny_cRoomFor (Nat.lt_of_succ_lt hu) ?_))
  rw [cmpInfo_NotEq]
  refine wpAny_bind (I.type.here (wpAny_bind (hb.here ?_)))
  split
  · rename_i q
    have e : PySem.W.subIn K tb (.ref D) = some false := by
      rcases Bool.or_eq_true_iff.mp hn with e | e
      · rw [beq_iff_eq.mp e] at q; simp at q
      · exact beq_iff_eq.mp e
    refine wpAny_bind ((PySem.W.looks_subIn KI e).here ?_)
    simp only [Bool.false_eq_true, if_false]
    refine wpAny_bind (wpAny_mono one (fun r s' z => ?_) fun _ _ e => e)
    obtain ⟨b, rfl, hq⟩ := z
    exact wpAny_pure hq
  · refine wpAny_bind (wpAny_pure ?_)
    simp only [Bool.false_eq_true, if_false]
    refine wpAny_bind (wpAny_mono one (fun r s' z => ?_) fun _ _ e => e)
    obtain ⟨b, rfl, hq⟩ := z
    exact wpAny_pure hq
end
theorem op_neX (F : FX C X k) (hr : Room (k + 1) X.A) : OpR X (compareOp .NotEq) (rEqO not C X) := by
  intro pins s σ H x y v u Q I rx ry q
  obtain ⟨ρ, ih, n, c, fs, i, h, rv, ri, e, hm, p⟩ := q
  obtain ⟨ad, rfl, ea⟩ := rv_ref rv
  obtain rfl : v = Value.ref ad := rx
  have hd : (C.P.fdef (.meth c "__eq__")).isSome = true := by
    cases q : C.P.fdef (.meth c "__eq__") with
    | some fd => rfl
    | none => rw [callP_def q] at p; exact p.elim
  obtain ⟨ox, od, m', J, me, hF⟩ := own_at F I h e ea hd
  obtain ⟨fd, hfd⟩ := Option.isSome_iff_exists.mp hd
  obtain ⟨hne, hmo⟩ := F.ne _ _ hfd
  obtain ⟨tb, hb, hn⟩ := meets_ty I h ri ry hm
  refine PySem.W.cmp_ofNotEq (ne_K (by have := hr.units; omega) (I.ok.mod.kin.keeps hF.keep) J hb hn hmo hne me.at_ me.fn (wpAny_mono (run_eq F hr.in1 rfl I h rv ri ry p) (fun v s' hv => ?_) fun _ _ z => z))
  obtain ⟨b, rfl, H', I', q⟩ := hv
  exact ⟨b, rfl, .bl (!b), H', I', rfl, q⟩
theorem eqB_post {σ : L2.St} {ρ : List Addr} {H : Hp} {Q : Bool → Hp → Prop} {r : R PV} (f : Bool → Bool) (p : Post (lr X none) W σ relB Q ρ H (match eqB r with | .ok b h => .ok (f b) h | .exc c fs h => .exc c fs h | .fail => .fail)) :
    Post (lr X none) WF [] (RV (lr X none)) (fun z H' => ∃ b, z = .bl b ∧ Q (f b) H') ρ H r := by
  cases r with
  | exc c fs h => exact p.elim
  | fail => exact p.elim
  | ok v h2 =>
    cases v with
    | bl b =>
      intro ρ' H' u e1 h1 r1
      cases r1
      exact ⟨b, rfl, p ρ' H' (f b) e1 h1 rfl⟩
    | _ => exact p.elim
theorem p2b_eqX : P2B (lr X none) W (eqX C) (fun x y H Q => rEqD X.K x y H Q ∨ rEqO id C X x y H Q) := by
  intro σ Q ρ H ih x y u v h r1 r2 p
  unfold eqX at p
  split at p
  · split at p
    · rename_i e
      split at p
      · rename_i hm
        refine .inr ⟨ρ, ih, _, _, _, _, h, r1, r2, e, hm, eqB_post (σ := σ) (W := W) (Q := fun b => Q (.bl b)) id ?_⟩
        revert p
        cases eqB (callP C _ 2 _ ih) <;> exact fun p => p
      · exact p.elim
    · exact .inl (p2b_eq σ Q ρ H ih _ _ u v h r1 r2 p)
  · exact .inl (p2b_eq σ Q ρ H ih _ _ u v h r1 r2 p)
theorem p2b_neX : P2B (lr X none) W (fun x y ih => (eqX C x y ih).not) (fun x y H Q => rNeD X.K x y H Q ∨ rEqO not C X x y H Q) := by
  intro σ Q ρ H ih x y u v h r1 r2 p
  have p : Post (lr X none) W σ relB (fun b => Q (.bl b)) ρ H (eqX C x y ih).not := p
  unfold eqX at p
  split at p
  · split at p
    · rename_i e
      split at p
      · rename_i hm
        refine .inr ⟨ρ, ih, _, _, _, _, h, r1, r2, e, hm, eqB_post (σ := σ) (W := W) (Q := fun b => Q (.bl b)) not ?_⟩
        revert p
        cases eqB (callP C _ 2 _ ih) <;> exact fun p => p
      · exact p.elim
    · exact .inl (p2b_ne σ Q ρ H ih _ _ u v h r1 r2 p)
  · exact .inl (p2b_ne σ Q ρ H ih _ _ u v h r1 r2 p)
theorem cmp_ruleX (F : FX C X k) (hr : Room (k + 1) X.A) (op : CmpOp) (hu : X.A.units + 65 < cLine) : ∃ r, OpR X (compareOp op) r ∧ P2B (lr X none) W (cmpX C op) r := by
  have h64 : X.A.units + 64 < cLine := Nat.lt_of_le_of_lt (by omega) hu
  have gen : ∀ op, cmpX C op = cmpP op → ∃ r, OpR X (compareOp op) r ∧ P2B (lr X none) W (cmpX C op) r := fun op e => by
    rw [e]; exact cmp_rule op hu
  cases op
  case Eq => exact ⟨_, OpR.or (op_eqD h64) (op_eqX F hr), p2b_eqX⟩
  case NotEq => exact ⟨_, OpR.or (op_neD h64) (op_neX F hr), p2b_neX⟩
  all_goals exact gen _ rfl
def cmpC (C : Cfg) (op : CmpOp) : PV → PV → IH → R Bool := if C.P.own "__eq__" = true then cmpX C op else cmpP op
theorem cmp_ruleC (F : FX C X k) (hr : Room (k + 1) X.A) (op : CmpOp) (hu : X.A.units + 65 < cLine) : ∃ r, OpR X (compareOp op) r ∧ P2B (lr X none) W (cmpC C op) r := by
  unfold cmpC
  split
  · exact cmp_ruleX F hr op hu
  · exact cmp_rule op hu
theorem se_cmpC (F : FX C X k) (hr : Room (k + 1) X.A) (op : CmpOp) (hu : X.A.units + 65 < cLine) (ha : PE X a (tE (lr X none) W ma)) (hb : PE X b (tE (lr X none) W mb)) (hm : behindInMarks op b = false) : PE X (.Compare a [op] [b] pos) (tE (lr X none) W (eVal (eCmp (cmpC C op) ma mb))) := by
  obtain ⟨r, ho, hp⟩ := cmp_ruleC (W := W) F hr op hu
  exact impE (pe_cmpR ho ha hb hm) fun σ H Q h => tE_cmpV hp h
theorem st_cmpC (F : FX C X k) (hr : Room (k + 1) X.A) (op : CmpOp) (hu : X.A.units + 65 < cLine) (ha : PE X a (tE (lr X none) W ma)) (hb : PE X b (tE (lr X none) W mb)) (hm : behindInMarks op b = false) : PT X (.Compare a [op] [b] pos) (tT (lr X none) W (eCmp (cmpC C op) ma mb)) := by
  obtain ⟨r, ho, hp⟩ := cmp_ruleC (W := W) F hr op hu
  exact impT (pt_cmpR ho ha hb hm) fun σ H Q h => tE_cmp hp h
def ixC (C : Cfg) : PV → PV → IH → R PV := if C.P.own "__getitem__" = true then ixX C else ixP
theorem se_ixC (F : FX C X k) (hr : Room (k + 1) X.A) (hu : X.A.units + 1 < cLine) (ha : PE X a (tE (lr X none) W ma)) (hb : PE X b (tE (lr X none) W mb)) (hs : isSl3 b = false) : PE X (.Subscript a b pos) (tE (lr X none) W (eOp (ixC C) ma mb)) := by
  unfold ixC
  split
  · exact se_ixX F hr hu ha hb hs
  · exact se_ix hu ha hb hs
def eE1 (ih : IH) (x y : PV) : Option Bool := match toD ih 10 x, toD ih 10 y with
  | some d, some e => if SeqAt.shaped d = true ∧ SeqAt.shaped e = true then some (PyData.eqv d e) else none
  | _, _ => none
def eE (ih : IH) (x y : PV) : Option Bool := match x with
  | .ref n => match y with
    | .ref m => if n = m then some true else none
    | y => eE1 ih (.ref n) y
  | x => eE1 ih x y
def allE (ih : IH) : List PV → List PV → Option (List Bool)
  | [], [] => some []
  | x :: xs, y :: ys => match eE ih x y with
    | some a => (allE ih xs ys).map (a :: ·)
    | none => none
  | _, _ => none
def eqE0 (x y : PV) (ih : IH) : R Bool := match x, y with
  | .tup xs, .tup ys => match allE ih xs ys with
    | some bs => .ok (bs.all id) ih
    | none => .fail
  | _, _ => .fail
def eqE (x y : PV) (ih : IH) : R Bool := match x, y with
  | .tup xs, .tup ys => eqE0 (.tup xs) (.tup ys) ih
  | x, y => eqP x y ih
def EE (K : PySem.W.Frag) (H : Hp) (u v : V) (b : Bool) : Prop := (∃ p, u = .ref p ∧ v = .ref p ∧ b = true) ∨ ∃ d e, Dp K H u d ∧ Dp K H v e ∧ SeqAt.shaped d = true ∧ SeqAt.shaped e = true ∧ b = PyData.eqv d e
def EEs (K : PySem.W.Frag) (H : Hp) (xs ys : List V) (bs : List Bool) : Prop := xs.length = bs.length ∧ ys.length = bs.length ∧ ∀ (j : Nat) u v b, xs[j]? = some u → ys[j]? = some v → bs[j]? = some b → EE K H u v b
def rEqE (f : Bool → Bool) (K : PySem.W.Frag) : R2 := fun x y H Q => ∃ a b xs ys bs, x = .ref a ∧ y = .ref b ∧ SqT K H a xs ∧ SqT K H b ys ∧ EEs K H xs ys bs ∧ Q (.bl (f (bs.all id))) H
theorem all_bs (bs : List Bool) : ((List.range (min bs.length bs.length)).all (fun i => bs.getD i true) && bs.length == bs.length) = bs.all id := by
  rw [Nat.min_self, beq_self_eq_true, Bool.and_true, Bool.eq_iff_iff, List.all_eq_true, List.all_eq_true]
  constructor
  · intro h b hb
    obtain ⟨i, hi, e⟩ := List.mem_iff_getElem.mp hb
    have := h i (List.mem_range.mpr hi)
    rw [List.getD_eq_getElem?_getD, List.getElem?_eq_getElem hi, e] at this
    exact this
  · intro h i hi
    have hi := List.mem_range.mp hi
    rw [List.getD_eq_getElem?_getD, List.getElem?_eq_getElem hi]
    exact h _ (List.getElem_mem hi)
section
variable {pins : List (Addr × Obj)} {σ : L2.St} {H : Hp} {s : Shared}
theorem ee_at (I : Inv X pins σ H s) {A : Around} (hu : A.units + 64 < cLine) {u v : V} {b : Bool} {u' v' : Value} (h : EE X.K H u v b) (ru : RelV u u') (rv : RelV v v') : SeqAt.EqAt A s u' v' b := by
  rcases h with ⟨p, rfl, rfl, rfl⟩ | ⟨d, e, h1, h2, s1, s2, rfl⟩
  · obtain rfl := (show u' = Value.ref p from ru)
    obtain rfl := (show v' = Value.ref p from rv)
    exact SeqAt.EqAt.same _
  · obtain ⟨as, r1⟩ := Dp.reads I _ _ _ h1 ru
    obtain ⟨bs, r2⟩ := Dp.reads I _ _ _ h2 rv
    exact SeqAt.eqAt_reads d e A s u' v' as bs r1 r2 (SeqAt.canLay_of_shaped s1) (SeqAt.canLay_of_shaped s2) (SeqAt.room_of_shaped s1 hu)
theorem vals_at {xs : List V} {us : List Value} (r : Vals xs us) {j : Nat} {v : Value} (e : us[j]? = some v) : ∃ x, xs[j]? = some x ∧ RelV x v := by
  induction r generalizing j with
  | nil => simp at e
  | cons h _ ih =>
    cases j with
    | zero => cases e; exact ⟨_, rfl, h⟩
    | succ j => exact ih (by simpa using e)
theorem ees_at (I : Inv X pins σ H s) {A : Around} (hu : A.units + 64 < cLine) {xs ys : List V} {bs : List Bool} {us vs : Array Value} (h : EEs X.K H xs ys bs) (r1 : Vals xs us.toList) (r2 : Vals ys vs.toList) :
    us.size = bs.length ∧ vs.size = bs.length ∧ ∀ j (h1 : j < us.size) (h2 : j < vs.size), SeqAt.EqAt A s us[j] vs[j] (bs.getD j true) := by
  obtain ⟨l1, l2, hh⟩ := h
  have e1 : us.size = bs.length := by rw [← Array.length_toList, ← r1.length]; exact l1
  have e2 : vs.size = bs.length := by rw [← Array.length_toList, ← r2.length]; exact l2
  refine ⟨e1, e2, fun j h1 h2 => ?_⟩
  obtain ⟨u, q1, k1⟩ := vals_at (j := j) (v := us[j]) r1 (by rw [Array.getElem?_toList]; exact Array.getElem?_eq_getElem h1)
  obtain ⟨v, q2, k2⟩ := vals_at (j := j) (v := vs[j]) r2 (by rw [Array.getElem?_toList]; exact Array.getElem?_eq_getElem h2)
  have hb : bs[j]? = some (bs.getD j true) := by
    rw [List.getD_eq_getElem?_getD, List.getElem?_eq_getElem (by omega)]; rfl
  exact ee_at I hu (hh j u v _ q1 q2 hb) k1 k2
end
theorem op_eqE (hu : X.A.units + 65 < cLine) : OpR X (compareOp .Eq) (rEqE id X.K) := by
  intro pins s σ H x y v u Q I rx ry h
  obtain ⟨a, b, xs, ys, bs, rfl, rfl, h1, h2, p, q⟩ := h
  obtain rfl := (show v = Value.ref a from rx)
  obtain rfl := (show u = Value.ref b from ry)
  obtain ⟨its, rv, t1, _⟩ := I.tuple h1
  obtain ⟨its2, rv2, t2, _⟩ := I.tuple h2
  obtain ⟨z1, z2, z3⟩ := ees_at I (A := X.A.in1) (by show X.A.units + 1 + 64 < cLine; omega) p (us := its.toArray) (vs := its2.toArray) rv rv2
  refine PySem.W.cmp_ofEq (SeqAt.RcAt.tuples t1 t2 (by omega) z3 X.prog X.w X.xe _ ⟨.bl _, H, I, rfl, ?_⟩)
  rw [z1, z2, all_bs]
  exact q
theorem op_neE (hu : X.A.units + 65 < cLine) : OpR X (compareOp .NotEq) (rEqE not X.K) := by
  intro pins s σ H x y v u Q I rx ry h
  obtain ⟨a, b, xs, ys, bs, rfl, rfl, h1, h2, p, q⟩ := h
  obtain rfl := (show v = Value.ref a from rx)
  obtain rfl := (show u = Value.ref b from ry)
  obtain ⟨its, rv, t1, _⟩ := I.tuple h1
  obtain ⟨its2, rv2, t2, _⟩ := I.tuple h2
  obtain ⟨z1, z2, z3⟩ := ees_at I (A := X.A.in1) (by show X.A.units + 1 + 64 < cLine; omega) p (us := its.toArray) (vs := its2.toArray) rv rv2
  refine PySem.W.cmp_ofNotEq (SeqAt.RcNeAt.tuples t1 t2 (by omega) z3 X.prog X.w X.xe _ ⟨.bl _, H, I, rfl, ?_⟩)
  rw [z1, z2, all_bs]
  exact q
theorem eE_ee {ρ : List Addr} {H : Hp} {ih : IH} (h : RH (lr X none) ρ H ih) {x y : PV} {u v : V} {b : Bool} (r1 : RV (lr X none) ρ H x u) (r2 : RV (lr X none) ρ H y v) (e : eE ih x y = some b) : EE X.K H u v b := by
  have gen : ∀ {x y : PV} {u v : V} {b : Bool}, RV (lr X none) ρ H x u → RV (lr X none) ρ H y v → eE1 ih x y = some b → EE X.K H u v b := fun {x y u v b} r1 r2 e => by
    unfold eE1 at e
    split at e
    · rename_i d e' q1 q2
      split at e
      · rename_i hs
        cases e
        exact .inr ⟨d, e', toD_dp h _ _ _ _ r1 q1, toD_dp h _ _ _ _ r2 q2, hs.1, hs.2, rfl⟩
      · cases e
    · cases e
  unfold eE at e
  split at e
  · split at e
    rotate_left
    · exact gen r1 r2 e
    split at e
    · rename_i hn
      subst hn
      cases e
      obtain ⟨a, rfl, ea⟩ := rv_ref r1
      obtain ⟨b, rfl, eb⟩ := rv_ref r2
      rw [ea] at eb; cases eb
      exact .inl ⟨a, rfl, rfl, rfl⟩
    · cases e
  · exact gen r1 r2 e
theorem allE_ee {ρ : List Addr} {H : Hp} {ih : IH} (h : RH (lr X none) ρ H ih) : ∀ {xs ys : List PV} {us vs : List V} {bs : List Bool}, RVs (lr X none) ρ H xs us → RVs (lr X none) ρ H ys vs → allE ih xs ys = some bs → EEs X.K H us vs bs := by
  intro xs
  induction xs with
  | nil =>
    intro ys us vs bs r1 r2 e
    cases ys with
    | nil => cases r1; cases r2; unfold allE at e; cases e; exact ⟨rfl, rfl, fun j u v b z => by simp at z⟩
    | cons y ys => unfold allE at e; cases e
  | cons x xs ih0 =>
    intro ys us vs bs r1 r2 e
    cases ys with
    | nil => unfold allE at e; cases e
    | cons y ys =>
      cases r1 with
      | cons k1 k2 =>
        cases r2 with
        | cons l1 l2 =>
          unfold allE at e
          split at e
          · rename_i a ea
            cases q : allE ih xs ys with
            | none => rw [q] at e; cases e
            | some bs' =>
              rw [q] at e; cases e
              obtain ⟨n1, n2, n3⟩ := ih0 k2 l2 q
              refine ⟨by simp [n1], by simp [n2], fun j u v b z1 z2 z3 => ?_⟩
              cases j with
              | zero => cases z1; cases z2; cases z3; exact eE_ee h k1 l1 ea
              | succ j => exact n3 j u v b (by simpa using z1) (by simpa using z2) (by simpa using z3)
          · cases e
theorem p2b_eqE (f : Bool → Bool) : P2B (lr X none) W (fun x y ih => match eqE0 x y ih with | .ok b h => .ok (f b) h | .exc c fs h => .exc c fs h | .fail => .fail) (rEqE f X.K) := by
  intro σ Q ρ H ih x y u v h r1 r2 p
  dsimp only at p
  unfold eqE0 at p
  split at p
  · rename_i b h2 q
    split at q
    · rename_i xs ys
      split at q
      · rename_i bs qb
        cases q
        obtain ⟨a, us, rfl, s1, s2⟩ := rv_tup r1
        obtain ⟨a2, vs, rfl, t1, t2⟩ := rv_tup r2
        exact ⟨a, a2, us, vs, bs, rfl, rfl, s1, t1, allE_ee h s2 t2 qb, p.here h rfl⟩
      · cases q
    · cases q
  · rename_i q
    split at q
    · split at q <;> cases q
    · cases q
  · exact p.elim
def isTold : Expr → Bool
  | .Call (.Name x _) [_, _, _] [] _ => decide (x = Str.ofString "_law_told")
  | _ => false
def cmpT : CmpOp → PV → PV → IH → R Bool
  | .Eq => eqE
  | .NotEq => fun x y ih => (eqE x y ih).not
  | op => cmpP op
theorem eqE_cs (x y : PV) (ih : IH) : eqE x y ih = eqE0 x y ih ∨ eqE x y ih = eqP x y ih := by
  cases x <;> cases y <;> first | exact .inl rfl | exact .inr rfl
theorem opr_or {f} {r1 r2 : R2} (a : OpR X f r1) (b : OpR X f r2) : OpR X f (fun x y H Q => r1 x y H Q ∨ r2 x y H Q) := by
  intro pins s σ H x y v u Q I rx ry h
  rcases h with h | h
  · exact a pins s σ H x y v u Q I rx ry h
  · exact b pins s σ H x y v u Q I rx ry h
theorem cmp_ruleT (op : CmpOp) (hu : X.A.units + 65 < cLine) : ∃ r, OpR X (compareOp op) r ∧ P2B (lr X none) W (cmpT op) r := by
  have h64 : X.A.units + 64 < cLine := Nat.lt_of_le_of_lt (by omega) hu
  have gen : ∀ op, cmpT op = cmpP op → ∃ r, OpR X (compareOp op) r ∧ P2B (lr X none) W (cmpT op) r := fun op e => by
    rw [e]; exact cmp_rule op hu
  cases op
  case Eq =>
    obtain ⟨r, ho, hp⟩ := cmp_rule (X := X) (ex := none) (W := W) .Eq hu
    refine ⟨_, opr_or (op_eqE hu) ho, fun σ Q ρ H ih x y u v h r1 r2 p => ?_⟩
    have p : Post (lr X none) W σ relB (fun b => Q (.bl b)) ρ H (eqE x y ih) := p
    rcases eqE_cs x y ih with e | e
    · refine .inl (p2b_eqE (W := W) id σ Q ρ H ih x y u v h r1 r2 ?_)
      rw [e] at p
      dsimp only
      revert p
      cases eqE0 x y ih <;> exact fun p => p
    · rw [e] at p
      exact .inr (hp σ Q ρ H ih x y u v h r1 r2 p)
  case NotEq =>
    obtain ⟨r, ho, hp⟩ := cmp_rule (X := X) (ex := none) (W := W) .NotEq hu
    refine ⟨_, opr_or (op_neE hu) ho, fun σ Q ρ H ih x y u v h r1 r2 p => ?_⟩
    have p : Post (lr X none) W σ relB (fun b => Q (.bl b)) ρ H (eqE x y ih).not := p
    rcases eqE_cs x y ih with e | e
    · refine .inl (p2b_eqE (W := W) not σ Q ρ H ih x y u v h r1 r2 ?_)
      rw [e] at p
      dsimp only
      revert p
      cases eqE0 x y ih <;> exact fun p => p
    · rw [e] at p
      exact .inr (hp σ Q ρ H ih x y u v h r1 r2 p)
  all_goals exact gen _ rfl
def ownVar : Expr → Bool
  | .Name x _ => decide (x = Str.ofString "_law_code" ∨ x = Str.ofString "_law_other")
  | _ => false
def cmpV (C : Cfg) (a : Expr) (op : CmpOp) : PV → PV → IH → R Bool := if ownVar a = true then cmpC C op else if isTold a = true then cmpT op else cmpP op
def ixV (C : Cfg) (a : Expr) : PV → PV → IH → R PV := if ownVar a = true then ixC C else ixP
theorem se_cmpV (F : FX C X k) (hr : Room (k + 1) X.A) (op : CmpOp) (hu : X.A.units + 65 < cLine) (ha : PE X a (tE (lr X none) W ma)) (hb : PE X b (tE (lr X none) W mb)) (hm : behindInMarks op b = false) : PE X (.Compare a [op] [b] pos) (tE (lr X none) W (eVal (eCmp (cmpV C a op) ma mb))) := by
  unfold cmpV
  split
  · exact se_cmpC F hr op hu ha hb hm
  · split
    · obtain ⟨r, ho, hp⟩ := cmp_ruleT (W := W) op hu
      exact impE (pe_cmpR ho ha hb hm) fun σ H Q h => tE_cmpV hp h
    · exact se_cmp op hu ha hb hm
theorem st_cmpV (F : FX C X k) (hr : Room (k + 1) X.A) (op : CmpOp) (hu : X.A.units + 65 < cLine) (ha : PE X a (tE (lr X none) W ma)) (hb : PE X b (tE (lr X none) W mb)) (hm : behindInMarks op b = false) : PT X (.Compare a [op] [b] pos) (tT (lr X none) W (eCmp (cmpV C a op) ma mb)) := by
  unfold cmpV
  split
  · exact st_cmpC F hr op hu ha hb hm
  · split
    · obtain ⟨r, ho, hp⟩ := cmp_ruleT (W := W) op hu
      exact impT (pt_cmpR ho ha hb hm) fun σ H Q h => tE_cmp hp h
    · exact st_cmp op hu ha hb hm
theorem se_ixV (F : FX C X k) (hr : Room (k + 1) X.A) (hu : X.A.units + 1 < cLine) (ha : PE X a (tE (lr X none) W ma)) (hb : PE X b (tE (lr X none) W mb)) (hs : isSl3 b = false) : PE X (.Subscript a b pos) (tE (lr X none) W (eOp (ixV C a) ma mb)) := by
  unfold ixV
  split
  · exact se_ixC F hr hu ha hb hs
  · exact se_ix hu ha hb hs
end
end Z
end
noncomputable section
namespace ZX
open PySem PySem.W PySem.Calls PyProof.Rows PySem.HandSPX
set_option autoImplicit false
def isFldStores : List Str → List Stmt → Bool
  | [], [] => true
  | f :: fs, .Assign [.Attribute (.Name s _) g _] (.Name n _) _ :: r => decide (s = "self") && decide (g = f) && decide (n = f) && isFldStores fs r
  | _, _ => false
def isExcBody (fs : List Str) : List Stmt → Bool
  | .Expr (.Call (.Attribute (.Call (.Name s _) [] [] _) m pa) [.Constant (.str _) _ _] [] pc) _ :: r => (pa.endLine == pc.line) && decide (s = "super") && decide (m = "__init__") && isFldStores fs r
  | _ => false
structure ExTxt (P : Program) (K : Frag) (mg : Str → Option Value) (x : Str) (C fI : Addr) (fs : List Str) : Prop where
  gC : mg x = some (.ref C)
  gS : mg "super" = none
  cls : ∃ nm q N bs bm sn sub ab col dd k0 k1 k2 k3 k5, K.lookup C = some (excClassObj nm q C N bs bm true sn sub ab col dd k0 k1 k2 k3 k5 "ValueError.__new__") ∧ refsVE bm = true
  sa : findIn K (.ref C) "__setattr__" = some (some (.builtin "object.__setattr__"))
  ga : findIn K (.ref C) "__getattribute__" = some (some (.builtin "BaseException.__getattribute__"))
  gg : findIn K (.ref C) "__getattr__" = some none
  noN : ∀ f ∈ fs, findIn K (.ref C) f = some none
  iC : findIn K (.ref C) "__init__" = some (some (.ref fI))
  tC : typeIn K (.ref fI) = some (.type "function")
  kC : keepIn K (.ref C) = true
  exC : subIn K (.ref C) (.type "BaseException") = some true
  tyC : typeIn K (.ref C) = some (.type "type")
  hdC : hasDictIn K C = true
  sup : ks_superIn K C C "__init__" = some (some (.builtin "ValueError.__init__"))
  opq : nsIn K cStatics "thirdparty.any" = some none
  subB : subIn K (.ref C) (.type "ValueError") = some true
  mroC : mroIn K C (.ref C) = some true
  top : (P.main.scope.names.lookup ("super" : Str)).isSome = false
  nd : fs.Nodup
  noself : ("self" : Str) ∉ fs
  few : fs.length ≤ 900
  dbg : ∀ f ∈ fs, (f == ("__debug__" : Str)) = false
  fn : ∃ (oc : Value) (od : Option Addr) (qual : Str) (params : Arguments) (body : List Stmt) (scope : Scope) (doc pm : Value) (an : Option Addr) (ct : Value) (osl : Array (Option Value)) (cc cda : Addr) (cl ccl : Value) (cld cdd : Option Addr) (csl ccs : Array (Option Value)) (vs : Array Value) (file : Str) (tf : Tok) (ar : Arg),
    K.lookup fI = some ⟨oc, od, .func (ksFn "__init__" qual params body scope .none .none doc pm an (.ref cda) ct cc), osl⟩ ∧ codeIn K (.ref cda) qual = true ∧
    K.lookup cda = some ⟨ccl, cdd, .fields vs, ccs⟩ ∧ vs[2]? = some (.str file tf) ∧ ((P.main.file : Str) == file) = true ∧
    K.lookup cc = some ⟨cl, cld, .cell (some (.ref C)), csl⟩ ∧
    (params.posonlyargs ++ params.args).head? = some ar ∧ ar.arg = "self" ∧
    scope.names.lookup ("super" : Str) = some .globalImplicit ∧ scope.names.lookup ("__class__" : Str) = some .free ∧ (∀ f ∈ ("self" : Str) :: fs, scope.names.lookup f = some .local) ∧
    scope.kind = .function ∧ scope.isCoroutine = false ∧ scope.isGenerator = false ∧ (∀ x ∈ scope.names, x.2 ≠ .cell) ∧
    isExcBody fs body = true ∧ (∀ us : List Value, us.length = (("self" : Str) :: fs).length → bindArgs (ksFn "__init__" qual params body scope .none .none doc pm an (.ref cda) ct cc) ⟨us, []⟩ = pure ((("self" : Str) :: fs).zip us))
section
variable {prog : Program} {w : World} {A : Around} {E : Value → Shared → Prop} {h : Heap} {g : Array GenState} {d : Drawn} {t : Nat} {os : OsState}
variable {nm q : Str} {C N : Addr} {bs bm : List Value} {hdct : Bool} {sn : List Str} {sub : List Value} {ab : Bool} {col : Option Bool} {dd : Option Addr} {k0 k1 k2 k3 k5 : Option Value}
theorem call_bwV {u e t0 : Addr} {rest : List Value} {Q : Value → Shared → Prop}
    (hC : h.get? C = some (excClassObj nm q C N bs bm hdct sn sub ab col dd k0 k1 k2 k3 k5 "ValueError.__new__")) (he : h.get? e = some (excO C t0)) (hu : h.get? u = some (kxs_mw "ValueError.__init__" e)) (hrest : rest.length ≤ sizeLine)
    (hq : ∀ h' t1, (∀ b o, b ≠ e → h.get? b = some o → h'.get? b = some o) → h'.get? e = some (excO C t1) → h.objs.size ≤ h'.objs.size → Q .none ⟨h', g, d, t, os⟩) :
    wpAny (model prog w) A (call (.ref u) rest) Q E ⟨h, g, d, t, os⟩ := by
  refine wpAny_call (codeAny_of_tree ?_)
  show wpAny _ A.in1 (callAny (.ref u) ⟨rest, []⟩) _ _ _
  simp only [callAny]
  refine wpAny_bind (wpAny_load hu ?_)
  simp only [kxs_mw, show (Value.type "method-wrapper" == Value.type "method" || Value.type "method-wrapper" == Value.type "builtin_function_or_method" || Value.type "method-wrapper" == Value.type "method-wrapper") = true by decide, if_true]
  refine W.KFB.if_so (by decide) ?_
  refine wpAny_bind (ESX.check_bound F.excBase_ValueError hC he rfl ?_)
  refine wpAny_bind (wpAny_pure (wpAny_pure ?_))
  refine ⟨Code.quiet_builtin _ (by decide +kernel), codeAny_builtin F.excBase_ValueError.initEntry ?_⟩
  rw [Around.under_plainId F.excBase_ValueError.init.plain _]
  wp_walk
  refine hq _ h.objs.size (fun b o hb ho => ?_) ?_ ?_
  · rw [Heap.get?_update_other _ _ (Ne.symm hb)]
    exact Heap.get?_push_of_some _ ho
  · rw [Heap.get?_update_self _ (Heap.get?_push_of_some _ he) rfl]
    rfl
  · rw [Heap.size_update, Heap.size_push]
    exact Nat.le_succ _
end

def nsOf (fs : List Str) (us : List Value) : Str → Option Value := fun y => (fs.zip us).lookup y
structure ExEnd (h h' : Heap) (x C : Addr) (fs : List Str) (us : List Value) (dx : Option Addr) : Prop where
  keep : ∀ b o, b ≠ x → h.get? b = some o → h'.get? b = some o
  obj : ∃ t1 : Addr, h'.get? x = some { cls := .ref C, dict := dx, data := .fields #[.ref t1, .none, .none, .none, .bool false, .none] }
  none : dx = none ↔ fs = []
  ns : ∀ d, dx = some d → h.objs.size ≤ d ∧ d ≠ x ∧ h'.Ns1 d (nsOf fs us)
section
variable {prog : Program} {w : World} {A : Around} {E : Value → Shared → Prop} {K : Frag} {mg : Str → Option Value} {C fI x L : Addr} {env : Env} {m : Str → Option Value}
theorem within_ns : ∀ (fs : List Str) (us : List Value), Within (nsOf fs us) fs
  | [], us => fun y hy => absurd rfl hy
  | f :: fs, [] => fun y hy => absurd (by simp [nsOf]) hy
  | f :: fs, u :: us => fun y hy => by
    by_cases e : y = f
    · rw [e]; exact List.mem_cons_self ..
    · refine List.mem_cons_of_mem _ (within_ns fs us y ?_)
      have : nsOf (f :: fs) (u :: us) y = nsOf fs us y := by
        have hb : (y == f) = false := beq_eq_false_iff_ne.mpr e
        simp [nsOf, List.lookup_cons, hb]
      rw [this] at hy; exact hy
theorem lookup_zip_app : ∀ (fs : List Str) (us : List Value) (f : Str) (u : Value) (y : Str), fs.length = us.length → f ∉ fs → nsOf (fs ++ [f]) (us ++ [u]) y = if y = f then some u else nsOf fs us y
  | [], [], f, u, y, _, _ => by
    by_cases e : y = f
    · subst e; simp [nsOf]
    · have hb : (y == f) = false := beq_eq_false_iff_ne.mpr e
      simp [nsOf, List.lookup_cons, hb, e]
  | g :: fs, v :: us, f, u, y, hl, hn => by
    have hgf : f ≠ g := fun z => hn (by simp [z])
    have ih := lookup_zip_app fs us f u y (Nat.succ.inj hl) fun z => hn (List.mem_cons_of_mem _ z)
    by_cases e : y = g
    · subst e
      simp [nsOf, Ne.symm hgf]
    · have hb : (y == g) = false := beq_eq_false_iff_ne.mpr e
      have e1 : nsOf (g :: fs ++ [f]) (v :: us ++ [u]) y = nsOf (fs ++ [f]) (us ++ [u]) y := by simp [nsOf, List.lookup_cons, hb]
      have e2 : nsOf (g :: fs) (v :: us) y = nsOf fs us y := by simp [nsOf, List.lookup_cons, hb]
      rw [e1, e2, ih]
  | [], _ :: _, _, _, _, hl, _ => by cases hl
  | _ :: _, [], _, _, _, hl, _ => by cases hl
theorem kept_but {K : Frag} {h h' : Heap} {x : Addr} (X : K.In h) (hx : K.lookup x = none) (k : ∀ b o, b ≠ x → h.get? b = some o → h'.get? b = some o) : K.In h' := fun a o e =>
  k a o (fun z => by rw [z, hx] at e; cases e) (X a o e)
theorem ns_but {h h' : Heap} {x L : Addr} {m : Str → Option Value} (hn : h.Ns L m) (hx : L ≠ x) (k : ∀ b o, b ≠ x → h.get? b = some o → h'.get? b = some o) : h'.Ns L m := hn.at fun o e => k L o hx e
theorem no_lookup {K : Frag} {h : Heap} {d : Addr} (X : K.In h) (hd : h.objs.size ≤ d) : K.lookup d = none := by
  cases e : K.lookup d with
  | none => rfl
  | some o => exact absurd (Heap.lt_size (X _ _ e)) (Nat.not_lt_of_le hd)
theorem stores (cl : ∃ nm q N bs bm sn sub ab col dd k0 k1 k2 k3 k5, K.lookup C = some (excClassObj nm q C N bs bm true sn sub ab col dd k0 k1 k2 k3 k5 "ValueError.__new__") ∧ refsVE bm = true)
    (sa : findIn K (.ref C) "__setattr__" = some (some (.builtin "object.__setattr__"))) (hk : env.scope.kind = .function) (hself : env.kindOf "self" = some .local) (hmS : m "self" = some (.ref x)) (hL : env.locals = L) :
    ∀ (fs : List Str) (us : List Value) (fs0 : List Str) (us0 : List Value) (body : List Stmt) (s : Shared) (h0 : Heap) (dx : Option Addr) (t1 : Addr) {Q : Flow → Shared → Prop},
      isFldStores fs body = true → fs.length = us.length → fs0.length = us0.length → (fs0 ++ fs).Nodup → (fs0 ++ fs).length ≤ 900 → K.lookup x = none → L ≠ x →
      (∀ f ∈ fs, findIn K (.ref C) f = some none ∧ env.kindOf f = some .local ∧ (f == ("__debug__" : Str)) = false) → (∀ p ∈ fs.zip us, m p.1 = some p.2) →
      K.In s.heap → s.heap.Ns L m → (∀ d, dx = some d → L ≠ d ∧ K.lookup d = none) → (∀ b o, b ≠ x → h0.get? b = some o → s.heap.get? b = some o) →
      s.heap.get? x = some { cls := .ref C, dict := dx, data := .fields #[.ref t1, .none, .none, .none, .bool false, .none] } → (dx = none ↔ fs0 = []) →
      (∀ d, dx = some d → h0.objs.size ≤ d ∧ d ≠ x ∧ s.heap.Ns1 d (nsOf fs0 us0)) → (dx = none → h0.objs.size ≤ s.heap.objs.size) →
      (∀ h' tk dx', ExEnd h0 h' x C (fs0 ++ fs) (us0 ++ us) dx' → Q .next { s with heap := h', toks := tk }) → wpAny (model prog w) A (execs body env) Q E s
  | [], [], fs0, us0, body, s, h0, dx, t1, Q, hb, _, hl0, hnd, hlen, hxK, hxL, hfs, hm, X, hn, hdL, hkeep, hx, hno, hd, hsz, hq => by
    cases body with
    | nil => 
      refine wpAny_execs_nil ?_
      have := hq s.heap s.toks dx ⟨hkeep, ⟨t1, hx⟩, by simpa using hno, by simpa using hd⟩
      exact this
    | cons a r => simp [isFldStores] at hb
  | f :: fs, u :: us, fs0, us0, body, s, h0, dx, t1, Q, hb, hl, hl0, hnd, hlen, hxK, hxL, hfs, hm, X, hn, hdL, hkeep, hx, hno, hd, hsz, hq => by
    unfold isFldStores at hb
    split at hb
    · rename_i e1 e2; cases e2
    · rename_i f' fs' sN p1 g p2 nN p3 p4 r e1
      cases e1
      simp only [Bool.and_eq_true, decide_eq_true_eq] at hb
      obtain ⟨⟨⟨rfl, rfl⟩, rfl⟩, hb⟩ := hb
      obtain ⟨nm, q, N, bs, bm, sn, sub, ab, col, dd, k0, k1, k2, k3, k5, hC, hbm⟩ := cl
      have hcl : clsIn K C = some { name := nm, bases := bs, mro := .ref C :: bm, ns := N, qualname := q, hasDict := true, slotNames := sn, subclasses := sub, abstract := ab, collection := col, hasDel := false } := by unfold clsIn; rw [hC] <;> rfl
      obtain ⟨h1, h2, h3⟩ := hfs nN List.mem_cons_self
      have hu : m nN = some u := hm (nN, u) List.mem_cons_self
      have nf : nN ∉ fs0 := fun z => by
        rw [List.nodup_append] at hnd
        exact hnd.2.2 nN z nN List.mem_cons_self rfl
      have hl1 : (fs0 ++ [nN]).length = (us0 ++ [u]).length := by simp [hl0]
      have hnd1 : ((fs0 ++ [nN]) ++ fs).Nodup := by simpa using hnd
      have hlen1 : ((fs0 ++ [nN]) ++ fs).length ≤ 900 := by simpa using hlen
      have go := stores ⟨nm, q, N, bs, bm, sn, sub, ab, col, dd, k0, k1, k2, k3, k5, hC, hbm⟩ sa hk hself hmS hL fs us (fs0 ++ [nN]) (us0 ++ [u]) r
      have fse : (fs0 ++ [nN]) ++ fs = fs0 ++ nN :: fs := by simp
      have use_ : (us0 ++ [u]) ++ us = us0 ++ u :: us := by simp
      rw [fse, use_] at go
      have hfs' : ∀ f ∈ fs, findIn K (.ref C) f = some none ∧ env.kindOf f = some .local ∧ (f == ("__debug__" : Str)) = false := fun f hf => hfs f (List.mem_cons_of_mem _ hf)
      have hm' : ∀ p ∈ fs.zip us, m p.1 = some p.2 := fun p hp => hm p (List.mem_cons_of_mem _ hp)
      have ned : ∀ d, (some d : Option Addr) = none ↔ fs0 ++ [nN] = [] := fun d => ⟨fun z => (by cases z), fun z => (by simp at z)⟩
      refine wpAny_execs_cons (plainObj_wpAny_Assign_Attribute ?_)
      refine wpAny_Name (wpAny_loadName_local hk h2 (hL ▸ hn) hu ?_) h3
      refine wpAny_Name (wpAny_loadName_local hk hself (hL ▸ hn) hmS ?_) (by decide)
      obtain ⟨hp, g, dr, tk, os⟩ := s
      cases dx with
      | none =>
        have hf0 : fs0 = [] := hno.mp rfl
        subst hf0
        have hu0 : us0 = [] := List.eq_nil_of_length_eq_zero (by simpa using hl0.symm)
        subst hu0
        refine set_plain X (od := none) ⟨hx, rfl, rfl, trivial⟩ sa ?_
        refine exc_osa X hx hcl (show refsVE (.ref C :: bm) = true from hbm) rfl h1 (fun h3 tk3 dx k3 dn dne hx3 hn3 => ?_)
        have dL : L ≠ dx := Nat.ne_of_lt (Nat.lt_of_lt_of_le hn.lt dn)
        refine go ⟨h3, g, dr, tk3, os⟩ h0 (some dx) t1 hb (Nat.succ.inj hl) hl1 (by simpa using hnd) (by simpa using hlen) hxK hxL hfs' hm' (kept_but X hxK k3) (ns_but hn hxL k3) (fun d e => ?_) (fun b o hb he => k3 b o hb (hkeep b o hb he)) hx3 (ned dx) (fun d e => ?_) (fun z => by cases z) hq
        · cases e
          exact ⟨dL, no_lookup X dn⟩
        · cases e
          refine ⟨Nat.le_trans (hsz rfl) dn, dne, ?_⟩
          have : nsOf ([] ++ [nN]) ([] ++ [u]) = fun y => if y = nN then some u else none := funext fun y => lookup_zip_app [] [] nN u y rfl (by simp)
          rw [this]; exact hn3
      | some d =>
        obtain ⟨dL, dK⟩ := hdL d rfl
        obtain ⟨dz, dne, hns⟩ := hd d rfl
        obtain ⟨oD, _, _, hoD, _, _⟩ := hns.count (within_ns fs0 us0)
        refine set_plain X (od := some oD) ⟨hx, rfl, rfl, hoD⟩ sa ?_
        refine PySem.OEX.osa_old X hx hns (within_ns fs0 us0) (by simp at hlen; omega) hcl (show refsVE (.ref C :: bm) = true from hbm) rfl h1 (fun h3 tk3 k3 hn3 => ?_)
        refine go ⟨h3, g, dr, tk3, os⟩ h0 (some d) t1 hb (Nat.succ.inj hl) hl1 (by simpa using hnd) (by simpa using hlen) hxK hxL hfs' hm' (kept_but X dK k3) (ns_but hn dL k3) hdL (fun b o hb he => ?_) (k3 x _ (Ne.symm dne) hx) (ned d) (fun d' e => ?_) (fun z => by cases z) hq
        · exact k3 b o (fun z => by
            subst z
            exact absurd (Heap.lt_size he) (Nat.not_lt_of_le dz)) (hkeep b o hb he)
        · cases e
          refine ⟨dz, dne, ?_⟩
          have : nsOf (fs0 ++ [nN]) (us0 ++ [u]) = fun y => if y = nN then some u else nsOf fs0 us0 y := funext fun y => lookup_zip_app fs0 us0 nN u y hl0 nf
          rw [this]; exact hn3
    · cases hb
  | [], _ :: _, _, _, _, _, _, _, _, _, _, hl, _, _, _, _, _, _, _, _, _, _, _, _, _, _, _, _ => by cases hl
  | _ :: _, [], _, _, _, _, _, _, _, _, _, hl, _, _, _, _, _, _, _, _, _, _, _, _, _, _, _, _ => by cases hl
theorem lookup_mem {α : Type} : ∀ {l : List (Str × α)} {p : Str × α}, (l.map (·.1)).Nodup → p ∈ l → l.lookup p.1 = some p.2
  | [], _, _, h => by simp at h
  | (k, v) :: r, p, nd, h => by
    have nd' := List.nodup_cons.mp nd
    rcases List.mem_cons.mp h with rfl | h
    · simp
    · have hne : p.1 ≠ k := fun z => nd'.1 (z ▸ List.mem_map_of_mem (f := (·.1)) h)
      have hb : (p.1 == k) = false := beq_eq_false_iff_ne.mpr hne
      rw [List.lookup_cons, hb]
      exact lookup_mem nd'.2 h
theorem zip_keys : ∀ {fs : List Str} {us : List Value}, us.length = fs.length → (fs.zip us).map (·.1) = fs
  | [], _, _ => rfl
  | f :: fs, [], h => by cases h
  | f :: fs, u :: us, h => by
    show f :: ((fs.zip us).map (·.1)) = _
    rw [zip_keys (Nat.succ.inj h)]
theorem meth_tree0 {o : Expr} {m : Str} {apos pos : Pos} {es : List Expr} {env : Env} (hl : (apos.endLine == pos.line) = true) (hs : es.any Z.isStar = false) (hn : es.length < 30) : eval (.Call (.Attribute o m apos) es [] pos) env = (do
      let ov ← attributeBase o m env (eval o env)
      standAt apos.atName
      let (f, first) ← holding [ov] (getMethod ov m (L2.plainOf o env))
      callWith pos f first (backTo pos (starEach es env)) []) := by
  show (do
      let ov ← attributeBase o m env (eval o env)
      standAt apos.atName
      methodCall o m apos pos env ov (es.length + 0) (backTo pos (starEach es env)) (backToKw pos (keywordEach [] env))) = _
  have hf : methodCallForm (es.length + 0) (backTo pos (starEach es env)) (backToKw pos (keywordEach [] env)) = true := by
    unfold methodCallForm
    rw [Z.back_all hs]
    show (true && true && decide (es.length + 0 + 0 < 30)) = true
    simpa using hn
  congr 1
  funext ov
  congr 1
  funext _
  rw [L2.mcall_line hf hl]
  rfl
theorem exc_init {P : Program} {R : Result → Shared → Prop} {xN : Str} {fs : List Str} (T : ExTxt P K mg xN C fI fs) {s : Shared} {t0 : Addr} {us : List Value} (X : K.In s.heap) (hlim : s.heap.NoLimit) (G : s.heap.Ns mainGlobals mg) (Bt : ∃ mb, s.heap.Ns builtinsNs mb ∧ ∀ x : Str, x ≠ "__name__" → mb x = bootBuiltins x)
    (hx : s.heap.get? x = some (excO C t0)) (hnx : K.lookup x = none) (hroom : A.depth < recursionLimit) (hus : us.length = fs.length)
    (hq : ∀ h' tk dx, ExEnd s.heap h' x C fs us dx → R (.ok (.ret .none)) { s with heap := h', toks := tk }) : codeAny (model P w) A (.call (.ref fI) ⟨.ref x :: us, []⟩) R s := by
  obtain ⟨oc, od, qual, params, body, scope, doc, pm, an, ct, osl, cc, cda, cl, ccl, cld, cdd, csl, ccs, vs, file, tf, ar, ho, hcd, hcode, hvs, hfile, hcell, hp, hself, hks, hkc, hloc, hk, hco, hgen, hnc, hbody, hbind⟩ := T.fn
  have Tc := T.cls
  obtain ⟨nm, q, N, bs, bm, sn, sub, ab, col, dd, k0, k1, k2, k3, k5, hC, hbm⟩ := T.cls
  have hcl : clsIn K C = some { name := nm, bases := bs, mro := .ref C :: bm, ns := N, qualname := q, hasDict := true, slotNames := sn, subclasses := sub, abstract := ab, collection := col, hasDel := false } := by unfold clsIn; rw [hC] <;> rfl
  have hl2 : (Value.ref x :: us).length = (("self" : Str) :: fs).length := by simp [hus]
  have nd2 : (("self" : Str) :: fs).Nodup := List.nodup_cons.mpr ⟨T.noself, T.nd⟩
  have keys := zip_keys hl2
  refine ks_codeAny_call_defAt (body := body) (binds := (("self" : Str) :: fs).zip (Value.ref x :: us)) hroom (X _ _ ho) rfl hlim (codeRec_of X hcd) rfl (.of_eq (hbind _ hl2)) hnc (fun y hy => ?_) (fun h₁ hns hk₁ => ?_) hco hgen hk
  · exact hloc y.1 (by rw [← keys]; exact List.mem_map_of_mem hy)
  have hm : ∀ p ∈ (("self" : Str) :: fs).zip (Value.ref x :: us), ((("self" : Str) :: fs).zip (Value.ref x :: us)).reverse.lookup p.1 = some p.2 := fun p hp' => by
    refine lookup_mem ?_ (List.mem_reverse.mpr hp')
    rw [List.map_reverse, keys]
    exact List.pairwise_reverse.mpr (nd2.imp fun h => Ne.symm h)
  have hmS := hm ("self", .ref x) List.mem_cons_self
  have X₁ : K.In h₁ := X.keeps hk₁
  have hx₁ := hk₁ _ _ hx
  have hC₁ := X₁ _ _ hC
  have hL : s.heap.objs.size < h₁.objs.size := hns.lt
  have hxs : x < s.heap.objs.size := Heap.lt_size hx
  have I₁ : W.InstAt h₁ x (excO C t0) C none := ⟨hx₁, rfl, rfl, trivial⟩
  obtain ⟨mb, hb1, hb2⟩ := Bt
  cases body with
  | nil => simp [isExcBody] at hbody
  | cons st rest =>
  unfold isExcBody at hbody
  split at hbody
  · rename_i sN p1 p2 mN p3 z0 p4 p5 p6 p7 r e1
    cases e1
    simp only [Bool.and_eq_true, decide_eq_true_eq] at hbody
    obtain ⟨⟨⟨hline, rfl⟩, rfl⟩, hst⟩ := hbody
    have hks' : (callEnv (ksFn "__init__" qual params (.Expr (.Call (.Attribute (.Call (.Name ("super" : Str) p1) [] [] p2) ("__init__" : Str) p3) [.Constant (.str z0) p4 p5] [] p6) p7 :: rest) scope .none .none doc pm an (.ref cda) ct cc) s.heap.objs.size fI).scope.kind = .function := hk
    refine ks_wpAt_execs_cons (ks_wpAt_Expr_any (ks_wpAt_MethodCall (pl := L2.plainOf (.Call (.Name ("super" : Str) p1) [] [] p2) _) ?_ (meth_tree0 hline rfl (by show 1 < 30; decide))) (by simp [interactive, hks']) rfl)
    refine ks_wpAt_super_base (ar := ar) hks hkc rfl rfl (X₁ _ _ ho) rfl hp rfl (X₁ _ _ hcode) rfl hvs hfile T.top ?_
    have G₁ := G.keeps hk₁
    refine ks_loadName_global hk hks (loadGlobal_builtin (G.keeps hk₁) T.gS (hb1.keeps hk₁) ((hb2 _ (by decide)).trans rfl) ⟨rfl, ?_⟩)
    refine wpAny_loadName_free hk hkc rfl ⟨_, X₁ _ _ hcell, rfl⟩ ?_
    rw [hself]
    refine wpAny_loadName_local hk (hloc "self" List.mem_cons_self) hns hmS ?_
    refine ks_wpAny_isType_cls hC₁ rfl ⟨rfl, ?_⟩
    refine ks_wpAny_call_super hC₁ rfl I₁.at_ I₁.cls (fun c e => by cases e) (looks_mroIn X₁ T.mroC) (fun h2 e2 k2 => ?_)
    have X₂ : K.In h2 := X₁.keeps k2
    have I₂ : W.InstAt h2 x (excO C t0) C none := ⟨k2 _ _ hx₁, rfl, rfl, trivial⟩
    have hsup := T.sup
    unfold ks_superIn at hsup
    rw [hcl] at hsup
    refine kxs_getMethod kxs_ValueError e2 (looks_opaque X₂ T.opq) (l₀ := .ref C :: bm) ?_ rfl X₂ hsup (I₂.type.andThen (looks_subIn X₂ T.subB)) (ks_ne X₂ I₂ hcl) rfl ?_
    · exact fun A Q E s k q => wpAny_bind ((looks_clsIn X₂ hcl) A _ E s k (wpAny_pure q))
    have k3 : ∀ b o, h2.get? b = some o → (h2.push (kxs_mw "ValueError.__init__" x)).get? b = some o := fun b o e => Heap.get?_push_of_some _ e
    have hu3 : (h2.push (kxs_mw "ValueError.__init__" x)).get? h2.objs.size = some (kxs_mw "ValueError.__init__" x) := Heap.get?_push_size _ rfl
    refine kxs_callWith (i := "ValueError.__init__") (x := x) rfl (evalArgs_plain (spliced_cons (Constant_str (k := p4) (pos := p5) (spliced_nil ⟨hu3, ?_⟩))))
    refine call_bwV (k3 _ _ (X₂ _ _ hC)) (k3 _ _ (k2 _ _ hx₁)) hu3 (by show 1 ≤ sizeLine; rw [sizeLine_eq]; decide) fun h4 t4 k4 hx4 hz4 => ?_
    have kk : ∀ b o, b ≠ x → s.heap.get? b = some o → h4.get? b = some o := fun b o hb e => k4 b o hb (k3 b o (k2 b o (hk₁ b o e)))
    have X₄ : K.In h4 := kept_but X hnx kk
    have hLx : s.heap.objs.size ≠ x := Nat.ne_of_gt hxs
    have hn4 : h4.Ns s.heap.objs.size (fun y => ((("self" : Str) :: fs).zip (Value.ref x :: us)).reverse.lookup y) := ns_but hns hLx fun b o hb e => k4 b o hb (k3 b o (k2 b o e))
    refine PySem.wpAt_of_wpAny ?_
    refine stores (env := callEnv (ksFn "__init__" qual params (.Expr (.Call (.Attribute (.Call (.Name ("super" : Str) p1) [] [] p2) ("__init__" : Str) p3) [.Constant (.str z0) p4 p5] [] p6) p7 :: rest) scope .none .none doc pm an (.ref cda) ct cc) s.heap.objs.size fI) (L := s.heap.objs.size) (m := fun y => (((("self" : Str) :: fs).zip (Value.ref x :: us)).reverse.lookup y)) Tc T.sa hk (hloc "self" List.mem_cons_self) hmS rfl fs us [] [] _ _ s.heap none t4 hst hus.symm rfl (by simpa using T.nd) (by simpa using T.few) hnx hLx (fun f hf => ⟨T.noN f hf, hloc f (List.mem_cons_of_mem _ hf), T.dbg f hf⟩) (fun p hp => hm p (List.mem_cons_of_mem _ hp)) X₄ hn4 (fun d e => by cases e) kk hx4 (by simp) (fun d e => by cases e) (fun _ => ?_) fun h' tk dx E => ?_
    · have z1 := Heap.lt_size e2
      have z2 : (h2.push (kxs_mw "ValueError.__init__" x)).objs.size = h2.objs.size + 1 := Heap.size_push ..
      have z3 : (h2.push (kxs_mw "ValueError.__init__" x)).objs.size ≤ h4.objs.size := hz4
      show s.heap.objs.size ≤ h4.objs.size
      exact Nat.le_trans (Nat.le_of_lt (Nat.lt_trans hL z1)) (Nat.le_trans (by rw [z2]; exact Nat.le_succ _) z3)
    · exact hq h' tk dx E
  · cases hbody
structure ExMade (h h' : Heap) (e C : Addr) (fs : List Str) (us : List Value) (dx : Option Addr) : Prop where
  keep : ∀ b o, h.get? b = some o → h'.get? b = some o
  new : h.objs.size ≤ e
  obj : ∃ oe vs, h'.get? e = some oe ∧ oe.cls = .ref C ∧ oe.dict = dx ∧ oe.data = .fields vs ∧ vs[1]? = some .none
  none : dx = none ↔ fs = []
  ns : ∀ d, dx = some d → h.objs.size ≤ d ∧ d ≠ e ∧ h'.Ns1 d (nsOf fs us)
theorem exc_made {P : Program} {R : Result → Shared → Prop} {xN : Str} {fs : List Str} (T : ExTxt P K mg xN C fI fs) {s : Shared} {us : List Value} (X : K.In s.heap) (hlim : s.heap.NoLimit) (G : s.heap.Ns mainGlobals mg) (Bt : ∃ mb, s.heap.Ns builtinsNs mb ∧ ∀ x : Str, x ≠ "__name__" → mb x = bootBuiltins x)
    (hroom : A.depth + 1 < recursionLimit) (hus : us.length = fs.length) (hq : ∀ h' tk e dx, ExMade s.heap h' e C fs us dx → R (.ok (.ret (.ref e))) { s with heap := h', toks := tk }) :
    codeAny (model P w) A (.call (.ref C) ⟨us, []⟩) R s := by
  obtain ⟨nm, q, N, bs, bm, sn, sub, ab, col, dd, k0, k1, k2, k3, k5, hC, hbm⟩ := T.cls
  obtain ⟨hp, g, dr, tk, os⟩ := s
  have k : ∀ b o, hp.get? b = some o → ((hp.push (kdv_tup us)).push (excO C hp.objs.size)).get? b = some o := fun b o e => Heap.get?_push_of_some _ (Heap.get?_push_of_some _ e)
  have hget : ((hp.push (kdv_tup us)).push (excO C hp.objs.size)).get? (hp.objs.size + 1) = some (excO C hp.objs.size) := by heap_get
  have hnx : K.lookup (hp.objs.size + 1) = none := no_lookup X (Nat.le_succ _)
  have hsz : us.length ≤ sizeLine := by rw [hus, sizeLine_eq]; have := T.few; omega
  obtain ⟨mb, hb1, hb2⟩ := Bt
  refine call_own F.excBase_ValueError (fun X => refsVE_contains X bm hbm) (X _ _ hC) (looks_findIn X T.iC) (fun self => bind_fn X self T.tC) hsz ?_
  refine exc_init (s := ⟨(hp.push (kdv_tup us)).push (excO C hp.objs.size), g, dr, tk, os⟩) T (X.keeps k) (hlim.keeps k) (G.keeps k) ⟨mb, hb1.keeps k, hb2⟩ hget hnx ?_ hus fun h' tk' dx ⟨k', ⟨t1, hx⟩, hno, hns⟩ => ?_
  · show A.depth + 1 < recursionLimit
    exact hroom
  · have old : ∀ b o, hp.get? b = some o → h'.get? b = some o := fun b o e => k' b o (Nat.ne_of_lt (Nat.lt_succ_of_lt (Heap.lt_size e))) (k b o e)
    refine ⟨rfl, hq h' tk' (hp.objs.size + 1) dx ⟨old, Nat.le_succ _, ⟨_, _, hx, rfl, rfl, rfl, rfl⟩, hno, fun d e => ?_⟩⟩
    obtain ⟨z1, z2, z3⟩ := hns d e
    have z : hp.objs.size + 1 + 1 ≤ d := by
      have q := z1
      rw [Heap.size_push, Heap.size_push] at q; exact q
    exact ⟨Nat.le_trans (Nat.le_trans (Nat.le_succ _) (Nat.le_succ _)) z, z2, z3⟩
end
end ZX
namespace Z
open PySem PySem.Spec PyProof.Rows L2
set_option autoImplicit false
section
variable {X : Cx} {W : WX} {pos pp : Pos} {C : Cfg} {k : Nat}
theorem relO_ns : ∀ {fs : List Str} {vs : List V} {us : List Value}, Vals vs us → ∀ f, RelO ((fs.zip vs).lookup f) (ZX.nsOf fs us f)
  | [], _, _, _, f => by simp only [List.zip_nil_left, List.lookup]; exact True.intro
  | g :: fs, _, _, .nil, f => by simp only [List.zip_nil_right, List.lookup, ZX.nsOf]; exact True.intro
  | g :: fs, _, _, .cons (a := v) (b := u) (l₁ := vs) (l₂ := us) r t, f => by
    have ih := relO_ns (fs := fs) t f
    by_cases e : f = g
    · subst e
      simp only [List.zip_cons_cons, ZX.nsOf, List.lookup, beq_self_eq_true]
      exact r
    · have hb : (f == g) = false := beq_eq_false_iff_ne.mpr e
      simp only [List.zip_cons_cons, ZX.nsOf, List.lookup, hb]
      exact ih
theorem made_end {x : Str} {Ca fI : Addr} {fs : List Str} (T : ZX.ExTxt X.prog X.K X.mg x Ca fI fs) (hr : Room k X.A) {pins : List (Addr × Obj)} {σ : L2.St} {H1 : Hp} {Q : XK} {s1 : Shared} {us : List Value} {vs : List V} (I1 : Inv X pins σ H1 s1) (r1 : Vals vs us)
    (hl : vs.length = fs.length) (q1 : (fs = [] ∧ Q (.ref Ca) none H1) ∨ (fs ≠ [] ∧ ∀ d, H1 d = none → Q (.ref Ca) (some d) (upd H1 d (.xd (fs.zip vs))))) :
    wpAny (model X.prog X.w) X.A (call (.ref Ca) us) (MkP X pins σ Q) X.xe s1 := by
  have hlim := I1.nolimit
  obtain ⟨mb, hb1, hb2⟩ := I1.mod.blt
  have G : s1.heap.Ns mainGlobals X.mg := I1.mod.glob.keeps I1.bk
  have hb1' : s1.heap.Ns builtinsNs mb := hb1.keeps I1.bk
  obtain ⟨hp, g, dr, tk, os⟩ := s1
  refine wpAny_call (ZX.exc_made T I1.kIn hlim G ⟨mb, hb1', hb2⟩ (by have := hr.dp; omega) (by rw [← r1.length]; exact hl) fun h' tk' e dx M => ?_)
  show MkP X pins σ Q (.ref e) ⟨h', g, dr, tk', os⟩
  obtain ⟨oe, fv, hoe, hc, hd, hdat, h1⟩ := M.obj
  obtain ⟨G', g1, g2⟩ := restrict h' fun b => decide (b ≠ e)
  have gk : ∀ b, b ≠ e → G'.get? b = h'.get? b := fun b hb => g1 b (decide_eq_true hb)
  have ge : G'.get? e = none := g2 e (by simp)
  have old : ∀ b o, hp.get? b = some o → G'.get? b = some o := fun b o q => (gk b (Nat.ne_of_lt (Nat.lt_of_lt_of_le (Heap.lt_size q) M.new))).trans (M.keep b o q)
  have back : ∀ b o, G'.get? b = some o → h'.get? b = some o := fun b o q => by
    by_cases hb : b = e
    · rw [hb, ge] at q; cases q
    · exact (gk b hb).symm.trans q
  rcases q1 with ⟨hf, q1⟩ | ⟨hf, q1⟩
  · have hdx := M.none.mpr hf
    subst hdx
    have J : Inv X pins σ H1 ⟨G', g, dr, tk', os⟩ := I1.kept (t' := tk') old
    exact ⟨e, oe, fv, ⟨G', g, dr, tk', os⟩, _, .ref Ca, none, rfl, J, back, ge, hoe, ⟨hc, hd⟩, hdat, h1, I1.hok.fresh M.new, rfl, I1.bare, raises_own T.exC T.tyC, q1⟩
  · cases dx with
    | none => exact absurd (M.none.mp rfl) hf
    | some d =>
      obtain ⟨dbig, dne, hns⟩ := M.ns d rfl
      have ob : ObjOk X.prog X.w (upd H1 d (.xd (fs.zip vs))) G' d (.xd (fs.zip vs)) := ⟨_, hns.at (fun o q => (gk d dne).trans q), fun f => relO_ns r1 f⟩
      have J : Inv X pins σ (upd H1 d (.xd (fs.zip vs))) ⟨G', g, dr, tk', os⟩ := I1.laid (t' := tk') old dbig ob
      refine ⟨e, oe, fv, ⟨G', g, dr, tk', os⟩, _, .ref Ca, some d, rfl, J, back, ge, hoe, ⟨hc, hd⟩, hdat, h1, ?_, rfl, I1.bare, raises_own T.exC T.tyC, q1 d (I1.hok.fresh dbig)⟩
      rw [upd_ne (Ne.symm dne)]
      exact I1.hok.fresh M.new
def sRaiseX (x : Str) (fs : List Str) (m : EM (List PV)) : SM := sWith m fun vs env h => if vs.length = fs.length then .exc x (fs.zip vs) env h else .fail
theorem rfs_zip {L : Rl} {ρ : List Addr} {H : Hp} : ∀ {fs : List Str} {xs : List PV} {vs : List V}, RVs L ρ H xs vs → RFs L ρ H (fs.zip xs) (fs.zip vs)
  | [], _, _, _ => by simp only [List.zip_nil_left]; exact .nil
  | f :: fs, _, _, .nil => by simp only [List.zip_nil_right]; exact .nil
  | f :: fs, _, _, .cons r t => by simp only [List.zip_cons_cons]; exact .cons r (rfs_zip t)
theorem s_raise {x : Str} {fI : Addr} {fs : List Str} {f : Expr → EM PV} {es : List Expr} {pos2 : Pos} (T : ZX.ExTxt X.prog X.K X.mg x (He.ga X.K x) fI fs) (hc : X.calm = true) (tk : Takes X W) (hr : Room k X.A) (hg : Gl X x) (hf : ∀ e ∈ es, PE X e (tE (lr X none) W (f e))) (hs : es.any isStar = false) (hdb : (x == ("__debug__" : Str)) = false) :
    PS X (.Raise (some (.Call (.Name x pp) es [] pos)) none pos2) (tS (lr X none) W (sRaiseX x fs (eArgs (es.map f)))) := by
  have ha := sa_args f es hf hs
  have fin : ∀ {σ : L2.St} {D : Ends} {ρ1 : List Addr} {H1 : Hp} {ih1 : IH} {env : Sl} {xs : List PV} {vs : List V}, RH (lr X none) ρ1 H1 ih1 → RE (lr X none) ρ1 H1 env σ → RVs (lr X none) ρ1 H1 xs vs →
      PostS (lr X none) W D ρ1 H1 (if xs.length = fs.length then .exc x (fs.zip xs) env ih1 else .fail) → vs.length = fs.length ∧ ((fs = [] ∧ W (.ref (He.ga X.K x)) none σ H1) ∨ (fs ≠ [] ∧ ∀ d, H1 d = none → W (.ref (He.ga X.K x)) (some d) σ (upd H1 d (.xd (fs.zip vs))))) := fun {σ D ρ1 H1 ih1 env xs vs} h1 e1 r1 p1 => by
    split at p1
    · rename_i hl
      refine ⟨by rw [← r1.length]; exact hl, ?_⟩
      by_cases hf0 : fs = []
      · refine .inl ⟨hf0, p1 ρ1 H1 σ none (Ext.refl _ _) h1 e1 ?_⟩
        show fs.zip xs = []
        rw [hf0]; rfl
      · refine .inr ⟨hf0, fun d hd => ?_⟩
        have ex := ext_new (ρ := ρ1) (u := HO.xd (fs.zip vs)) hd
        exact p1 ρ1 _ σ (some d) ex (h1.new hd) (e1.mono ex) ⟨_, upd_same, (rfs_zip r1).mono ex⟩
    · exact p1.elim
  have mk : PMk X (.Call (.Name x pp) es [] pos) (fun σ H Q => ∃ W' : Value → Option Addr → Hp → Prop, (∀ c d H', W' c d H' → Q c d H') ∧ ∃ D : Ends, ∃ ρ env ih, RE (lr X none) ρ H env σ ∧ RH (lr X none) ρ H ih ∧ (W' = fun c d H' => W c d σ H') ∧ PostS (lr X none) W D ρ H (sRaiseX x fs (eArgs (es.map f)) env ih)) := by
    intro pins s σ H Q I ⟨W', hW, D, ρ, env, ih, e1, e2, eW, p⟩
    subst eW
    refine wpAny_Call_Name_kw (ld_glob I hg T.gC ?_ hdb)
    cases es with
    | nil =>
      have q := fin (σ := σ) (D := D) (vs := []) e2 e1 .nil p
      refine PySem.W.callWith_K0 I.kIn T.kC (made_end T hr I .nil q.1 ?_)
      exact q.2.imp (fun z => ⟨z.1, hW _ _ _ z.2⟩) fun z => ⟨z.1, fun d hd => hW _ _ _ (z.2 d hd)⟩
    | cons e es =>
      have hs' : isStar e = false ∧ es.any isStar = false := by simpa using hs
      have h := withAt (rel := RVs (lr X none)) e1 e2 p
      exact PySem.W.callWith_K (h₀ := X.base) I.ok.mod.kin T.kC (thn (ha.run pos pins s σ H _ I h) fun us s1 ⟨vs, H1, I1, r1, ρ1, ih1, xs, ex1, h1, rx, p1⟩ => by
        have q := fin (σ := σ) h1 (e1.mono ex1) rx p1
        exact ⟨I1.kIn, made_end T hr I1 r1 q.1 (q.2.imp (fun z => ⟨z.1, hW _ _ _ z.2⟩) fun z => ⟨z.1, fun d hd => hW _ _ _ (z.2 d hd)⟩)⟩) (star_no hs'.1) (back_plain hs'.2)
  exact impS (ps_raise hc tk mk) fun D σ H ⟨ρ, env, ih, e1, e2, p⟩ => ⟨fun c d H' => W c d σ H', fun _ _ _ z => z, D, ρ, env, ih, e1, e2, rfl, p⟩
end
end Z
end
noncomputable section
namespace L2
open PySem PySem.Spec PyProof.Rows
set_option autoImplicit false
abbrev Cl : Type := Value × Option Nat × (Addr → Value → Option Addr → TS)
def wGen (K : PySem.W.Frag) (Wout : WX) (D : Ends) : List Cl → WX
  | [] => Wout
  | (c, n, ts) :: r => fun cls d σ H => ∃ b, PySem.W.exmOne K cls c = some b ∧ (b = true → ∀ a, H a = none → (match n with
      | none => ts a cls d D σ H
      | some i => ts a cls d { nx := fun σ' H' => D.nx (σ'.set i none) H', rt := D.rt, bk := fun σ' H' => D.bk (σ'.set i none) H', ct := fun σ' H' => D.ct (σ'.set i none) H' } (σ.set i (some (.ref a))) H)) ∧ (b = false → wGen K Wout D r cls d σ H)
inductive HdsG (X : Cx) : List ExceptHandler → List Cl → Prop
  | nil : HdsG X [] []
  | bare {x : Str} {c : Value} {ts : Addr → Value → Option Addr → TS} {b₀ : Stmt} {suite : List Stmt} {np pos' : Pos} {hds : List ExceptHandler} {l : List Cl} (hc : Names X x c)
      (hsu : ∀ (a : Addr) (oe : Obj) (cls : Value) (d : Option Addr) (pn : List (Addr × Obj)), Zc cls d oe → (∃ vs, oe.data = .fields vs) → PSs (X.suite a ((a, oe) :: pn)) (b₀ :: suite) (ts a cls d)) (r : HdsG X hds l) :
      HdsG X (.ExceptHandler (some (.Name x np)) none (b₀ :: suite) pos' :: hds) ((c, none, ts) :: l)
  | named {x n : Str} {i : Nat} {c : Value} {ts : Addr → Value → Option Addr → TS} {b₀ : Stmt} {suite : List Stmt} {np pos' : Pos} {hds : List ExceptHandler} {l : List Cl} (hc : Names X x c) (hi : X.N[i]? = some n) (hln : X.env.kindOf n = some .local)
      (hsu : ∀ (a : Addr) (oe : Obj) (cls : Value) (d : Option Addr) (pn : List (Addr × Obj)), Zc cls d oe → (∃ vs, oe.data = .fields vs) → PSs (X.suite a ((a, oe) :: pn)) (b₀ :: suite) (ts a cls d)) (r : HdsG X hds l) :
      HdsG X (.ExceptHandler (some (.Name x np)) (some n) (b₀ :: suite) pos' :: hds) ((c, some i, ts) :: l)
section
variable {X : Cx} {body : List Stmt} {h₀ : ExceptHandler} {hds : List ExceptHandler} {l : List Cl} {pos : Pos} {tb : WX → TS} {Wout : WX}
theorem ps_try_gen (hs : X.stack = X.env :: X.outer) (hf : X.env.frame = some X.env.locals) (hN : X.N.Nodup) (tk : Takes X Wout)
    (hb : ∀ (W : WX) (pn : List (Addr × Obj)) (xe : Value → Shared → Prop), Takes (X.tr pn xe) W → PassesOwn (model X.prog X.w) X.A X.env xe → PSs (X.tr pn xe) body (tb W))
    (hh : HdsG X (h₀ :: hds) l) : PS X (.Try body (h₀ :: hds) [] [] pos) (fun D σ H => tb (wGen X.K Wout D l) D σ H) := by
  refine ⟨fun pins s σ H D I h => ?_⟩
  have ok := I.ok
  have hfr : X.A.frames = some (X.env :: X.outer) := by rw [ok.frames, hs]
  refine wpAny_Try_except ?_
  refine wpAny_mono ((hb (wGen X.K Wout D l) (X.pn ++ pins) (fun e s₁ => wpAny (model X.prog X.w) X.A (noteFrame e X.env) (fun _ s₂ => wpAny (model X.prog X.w) X.A (setFlight e none) (fun _ s₃ =>
    wpAny (model X.prog X.w) X.A (handleBy e X.env (h₀ :: hds)) (SP X pins D) X.xe s₃) X.xe s₂) X.xe s₁) (fun u s' xx => ?_) PassesOwn.looking).run [] s σ H D (I.toTry _) h) (fun f s1 hsp => ?_) (fun e s1 he => he)
  · -- the catch
    obtain ⟨a, B, sI, pins', σ', H', cls, d, rfl, J', nb, up, sky, na, os, ag, w⟩ := xx
    have J : Inv X pins σ' H' sI := J'.ofTry ok
    have sky' : Sky B (X.env :: X.outer) a (Zc cls d) X.env.locals s'.heap := by rw [← hs]; exact sky
    show wpAny (model X.prog X.w) X.A (noteFrame (.ref a) X.env) _ _ _
    refine Sky.land Zc.steady hfr hf sky' fun h3 fl3 up3 => ?_
    have J3 : Inv X pins σ' H' { s' with heap := h3 } := J.landed nb fl3.1 (up.trans up3) os ag
    obtain ⟨oe3, vs3, he3, hz3, hd3⟩ := fl3.there
    have notFr : ∀ {h : Heap} {o : Obj} {vs : Array Value}, h.FunFrames B (X.env :: X.outer) → h.get? a = some o → o.data = .fields vs → a ∉ frs (X.env :: X.outer) := fun {h o vs} ff e dd hm => by
      obtain ⟨_, o', e', hnf⟩ := ff.mem hm
      rw [e] at e'; cases e'
      exact hnf _ dd
    have nfr := notFr fl3.2.2.1 he3 hd3
    have nL : a ≠ X.env.locals := fun z => nfr (List.mem_filterMap.mpr ⟨X.env, List.mem_cons_self, by rw [hf, z]⟩)
    have nF : a ∉ X.fs := fun hm => by
      obtain ⟨e, he, q⟩ := List.mem_filterMap.mp hm
      exact nfr (List.mem_filterMap.mpr ⟨e, List.mem_cons_of_mem _ he, q⟩)
    have S3 := J3.suite he3 hd3 na nL nF
    have LT : PySem.W.Looks (model X.prog X.w) h3 (typeOf (.ref a)) cls := fun A Q E s k q => wpAny_typeOf_ref (k _ _ he3) (by rw [hz3.1]; exact q)
    have test : ∀ {x : Str} {c : Value} {np : Pos} {Q : Value → Shared → Prop} {E : Value → Shared → Prop}, Names X x c → Q c { s' with heap := h3 } → wpAny (model X.prog X.w) (X.A.mark (some (.ref a))) (eval (.Name x np) X.env) Q E { s' with heap := h3 } := fun {x c np Q E} hc q => by
      obtain ⟨hg, hdbg, hm | ⟨hm, hv, hnn⟩⟩ := hc
      · exact ld_glob (X := X.suite a ((a, oe3) :: (X.pn ++ pins))) S3 hg hm q hdbg
      · exact ld_blt (X := X.suite a ((a, oe3) :: (X.pn ++ pins))) S3 hg hm hv q hnn hdbg
    have go : ∀ {hds' : List ExceptHandler} {l' : List Cl}, HdsG X hds' l' → wGen X.K Wout D l' cls d σ' H' →
        wpAny (model X.prog X.w) X.A (handleBy (.ref a) X.env hds') (SP X pins D) X.xe { s' with heap := h3 } := by
      intro hds' l' hk
      induction hk with
      | nil =>
        intro w
        refine wpAny_handleBy_nil ?_
        obtain ⟨k1, k2, k3, oe, vs, T, oT, ts', he, hz, hd, h1, hr⟩ := id fl3
        unfold PySem.passOn
        refine wpAny_bind (wpAny_field he hd h1 ?_)
        rw [if_neg (show ¬ ((Value.ref T == Value.none) = true) from by simp)]
        have fin : wpAny (model X.prog X.w) X.A (setFlight (.ref a) X.env.frame) (fun _ s4 => wpAny (model X.prog X.w) X.A (throw (.ref a) : Sem Flow) (SP X pins D) X.xe s4) X.xe { s' with heap := h3 } := by
          rw [hf]
          refine HandSPX.setFlight_upZ fl3 fun h4 hh4 up4 => wpAny_throw (tk _ _ ?_)
          exact ⟨a, B, sI, pins, σ', H', cls, d, rfl, J, nb, (up.trans up3).trans up4, .inr (.inr (by rw [hs]; exact hh4)), na, os, ag, w⟩
        first
          | exact wpAny_bind (wpAny_pure (wpAny_bind fin))
          | exact wpAny_bind fin
      | @bare x c ts b₀ suite np pos' hds2 l2 hc hsu r ih =>
        intro w
        obtain ⟨b, hb1, hyes, hno⟩ := w
        refine wpAny_handleBy_cons (codeAny_handlers_test ?_) (by intro q; cases q)
        have LM := PySem.W.exm_one (M := model X.prog X.w) (J3.kIn) LT hb1
        refine test hc (LM.here ?_)
        cases b with
        | true =>
          refine codeAny_handlers_suite ?_
          refine HandSPX.lands_againZ fl3 fun h4 fl4 up4 => ?_
          have J4 : Inv X pins σ' H' { s' with heap := h4 } := J.landed nb fl4.1 ((up.trans up3).trans up4) os ag
          obtain ⟨oe4, vs4, he4, hz4, hd4⟩ := fl4.there
          have S4 := J4.suite he4 hd4 na nL nF
          refine wpAny_mono ((hsu a oe4 cls d (X.pn ++ pins) hz4 ⟨_, hd4⟩).run [] _ _ H' _ S4 (hyes rfl a na)) (fun f s6 hsp => ?_) (fun _ _ z => False.elim z)
          cases f with
          | next =>
            obtain ⟨σ6, H6, S6, q6⟩ := hsp
            exact ⟨_, _, S6.unsuite ok, q6⟩
          | brk =>
            obtain ⟨σ6, H6, S6, q6⟩ := hsp
            exact ⟨_, _, S6.unsuite ok, q6⟩
          | cont =>
            obtain ⟨σ6, H6, S6, q6⟩ := hsp
            exact ⟨_, _, S6.unsuite ok, q6⟩
          | ret u =>
            obtain ⟨v6, σ6, H6, S6, r6, q6⟩ := hsp
            exact ⟨_, _, _, S6.unsuite ok, r6, q6⟩
        | false =>
          show wpAny _ X.A (handleBy (.ref a) X.env hds2) _ _ _
          exact ih (hno rfl)
      | @named x n i c ts b₀ suite np pos' hds2 l2 hc hi hln hsu r ih =>
        intro w
        obtain ⟨b, hb1, hyes, hno⟩ := w
        have hloc : Loc X.env.scope n := .inl hln
        refine wpAny_handleBy_cons (codeAny_handlers_test ?_) (by intro q; cases q)
        have LM := PySem.W.exm_one (M := model X.prog X.w) (J3.kIn) LT hb1
        refine test hc (LM.here ?_)
        cases b with
        | true =>
          refine codeAny_handlers_suite_as ?_
          refine HandSPX.lands_againZ fl3 fun h4 fl4 up4 => ?_
          have J4 : Inv X pins σ' H' { s' with heap := h4 } := J.landed nb fl4.1 ((up.trans up3).trans up4) os ag
          obtain ⟨oe4, vs4, he4, hz4, hd4⟩ := fl4.there
          have S4 := J4.suite he4 hd4 na nL nF
          refine store_ok (X := X.suite a ((a, oe4) :: (X.pn ++ pins))) (v := .ref a) S4 hN hi hloc rfl (fun s5 S5 => ?_) (.inr hln)
          refine wpAny_mono ((hsu a oe4 cls d (X.pn ++ pins) hz4 ⟨_, hd4⟩).run [] s5 _ H' _ S5 (hyes rfl a na)) (fun f s6 hsp => ?_) (fun _ _ z => False.elim z)
          have end_ : ∀ {σ6 : St} {H6 : Hp} {Q : Shared → Prop}, Inv (X.suite a ((a, oe4) :: (X.pn ++ pins))) [] σ6 H6 s6 → (∀ s7, Inv X pins (σ6.set i none) H6 s7 → Q s7) →
              wpAny (model X.prog X.w) X.A (do bindName X.env n .none; unbindBehindTheSuite X.env n pos') (fun _ s7 => Q s7) X.xe s6 := fun {σ6 H6 Q} S6 hq => gone_ok (S6.unsuite ok) hN hi hln hq
          cases f with
          | next =>
            obtain ⟨σ6, H6, S6, q6⟩ := hsp
            exact end_ S6 fun s7 J7 => ⟨_, _, J7, q6⟩
          | brk =>
            obtain ⟨σ6, H6, S6, q6⟩ := hsp
            exact end_ S6 fun s7 J7 => ⟨_, _, J7, q6⟩
          | cont =>
            obtain ⟨σ6, H6, S6, q6⟩ := hsp
            exact end_ S6 fun s7 J7 => ⟨_, _, J7, q6⟩
          | ret u =>
            obtain ⟨v6, σ6, H6, S6, r6, q6⟩ := hsp
            exact end_ S6 fun s7 J7 => ⟨_, _, _, J7, r6, q6⟩
        | false =>
          show wpAny _ X.A (handleBy (.ref a) X.env hds2) _ _ _
          exact ih (hno rfl)
    exact go hh w
  · cases f with
    | next =>
      obtain ⟨σ', H', J', q⟩ := hsp
      exact wpAny_execs_nil ⟨σ', H', J'.ofTry ok, q⟩
    | brk =>
      obtain ⟨σ', H', J', q⟩ := hsp
      exact ⟨σ', H', J'.ofTry ok, q⟩
    | cont =>
      obtain ⟨σ', H', J', q⟩ := hsp
      exact ⟨σ', H', J'.ofTry ok, q⟩
    | ret u =>
      obtain ⟨v, σ', H', J', r, q⟩ := hsp
      exact ⟨v, σ', H', J'.ofTry ok, r, q⟩
end
end L2
namespace Z
open PySem PySem.Spec PyProof.Rows L2
set_option autoImplicit false
mutual
def noX : PV → Bool
  | .tup xs => noXs xs
  | .exc _ _ => false
  | _ => true
def noXs : List PV → Bool
  | [] => true
  | x :: xs => noX x && noXs xs
end
section
variable {K : PySem.W.Frag} {w : World} {e e' : Option (Addr × Str × Option Addr)} {ρ : List Addr} {H : Hp}
mutual
theorem RV.up : ∀ {x : PV} {v : V}, RV ⟨K, w, none⟩ ρ H x v → RV ⟨K, w, e⟩ ρ H x v
  | _, _, .non => .non
  | _, _, .bl b => .bl b
  | _, _, .int b => .int b
  | _, _, .str b => .str b
  | _, _, .ty b => .ty b
  | _, _, .cls b => .cls (L := ⟨K, w, e⟩) b
  | _, _, .tup h r => .tup (L := ⟨K, w, e⟩) h (RVs.up r)
  | _, _, .ref h => .ref h
  | _, _, .exc0 h => by cases h
  | _, _, .exc h h2 r => by cases h
theorem RVs.up : ∀ {x : List PV} {v : List V}, RVs ⟨K, w, none⟩ ρ H x v → RVs ⟨K, w, e⟩ ρ H x v
  | _, _, .nil => .nil
  | _, _, .cons h r => .cons (RV.up h) (RVs.up r)
end
theorem RFs.up : ∀ {x : List (Str × PV)} {v : List (Str × V)}, RFs ⟨K, w, none⟩ ρ H x v → RFs ⟨K, w, e⟩ ρ H x v
  | _, _, .nil => .nil
  | _, _, .cons h r => .cons (RV.up h) (RFs.up r)
theorem RKs.up : ∀ {x : List (Key × PV)} {v : List (Key × V)}, RKs ⟨K, w, none⟩ ρ H x v → RKs ⟨K, w, e⟩ ρ H x v
  | _, _, .nil => .nil
  | _, _, .cons h r => .cons (RV.up h) (RKs.up r)
mutual
theorem RV.noX : ∀ {x : PV} {v : V}, RV ⟨K, w, none⟩ ρ H x v → noX x = true
  | _, _, .non => by simp only [Z.noX]
  | _, _, .bl b => by simp only [Z.noX]
  | _, _, .int b => by simp only [Z.noX]
  | _, _, .str b => by simp only [Z.noX]
  | _, _, .ty b => by simp only [Z.noX]
  | _, _, .cls b => by simp only [Z.noX]
  | _, _, .tup h r => by simp only [Z.noX]; exact RVs.noX r
  | _, _, .ref h => by simp only [Z.noX]
  | _, _, .exc0 h => by cases h
  | _, _, .exc h h2 r => by cases h
theorem RVs.noX : ∀ {x : List PV} {v : List V}, RVs ⟨K, w, none⟩ ρ H x v → noXs x = true
  | _, _, .nil => by simp only [noXs]
  | _, _, .cons h r => by simp only [noXs, RV.noX h, RVs.noX r, Bool.and_self]
end
mutual
theorem RV.down : ∀ {x : PV} {v : V}, RV ⟨K, w, e⟩ ρ H x v → Z.noX x = true → RV ⟨K, w, e'⟩ ρ H x v
  | _, _, .non, _ => .non
  | _, _, .bl b, _ => .bl b
  | _, _, .int b, _ => .int b
  | _, _, .str b, _ => .str b
  | _, _, .ty b, _ => .ty b
  | _, _, .cls b, _ => .cls (L := ⟨K, w, e'⟩) b
  | _, _, .tup h r, n => .tup (L := ⟨K, w, e'⟩) h (RVs.down r (by simpa only [Z.noX] using n))
  | _, _, .ref h, _ => .ref h
  | _, _, .exc0 h, n => by simp only [Z.noX] at n; cases n
  | _, _, .exc h h2 r, n => by simp only [Z.noX] at n; cases n
theorem RVs.down : ∀ {x : List PV} {v : List V}, RVs ⟨K, w, e⟩ ρ H x v → noXs x = true → RVs ⟨K, w, e'⟩ ρ H x v
  | _, _, .nil, _ => .nil
  | _, _, .cons h r, n => by
    simp only [noXs, Bool.and_eq_true] at n
    exact .cons (RV.down h n.1) (RVs.down r n.2)
end
def noXf : List (Str × PV) → Bool
  | [] => true
  | (_, x) :: r => noX x && noXf r
def noXk : List (Key × PV) → Bool
  | [] => true
  | (_, x) :: r => noX x && noXk r
theorem RFs.noX : ∀ {x : List (Str × PV)} {v : List (Str × V)}, RFs ⟨K, w, none⟩ ρ H x v → noXf x = true
  | _, _, .nil => rfl
  | _, _, .cons h r => by simp only [noXf, RV.noX h, RFs.noX r, Bool.and_self]
theorem RFs.down : ∀ {x : List (Str × PV)} {v : List (Str × V)}, RFs ⟨K, w, e⟩ ρ H x v → noXf x = true → RFs ⟨K, w, e'⟩ ρ H x v
  | _, _, .nil, _ => .nil
  | _, _, .cons h r, n => by
    simp only [noXf, Bool.and_eq_true] at n
    exact .cons (RV.down h n.1) (RFs.down r n.2)
theorem RKs.noX : ∀ {x : List (Key × PV)} {v : List (Key × V)}, RKs ⟨K, w, none⟩ ρ H x v → noXk x = true
  | _, _, .nil => rfl
  | _, _, .cons h r => by simp only [noXk, RV.noX h, RKs.noX r, Bool.and_self]
theorem RKs.down : ∀ {x : List (Key × PV)} {v : List (Key × V)}, RKs ⟨K, w, e⟩ ρ H x v → noXk x = true → RKs ⟨K, w, e'⟩ ρ H x v
  | _, _, .nil, _ => .nil
  | _, _, .cons h r, n => by
    simp only [noXk, Bool.and_eq_true] at n
    exact .cons (RV.down h n.1) (RKs.down r n.2)
def noXn : List (PV × PV) → Bool
  | [] => true
  | (x, y) :: r => noX x && noX y && noXn r
theorem RNs.noX : ∀ {x : List (PV × PV)} {v : List ZN.En}, RNs ⟨K, w, none⟩ ρ H x v → noXn x = true
  | _, _, .nil => rfl
  | _, _, .cons _ _ h1 h2 _ r => by simp only [noXn, RV.noX h1, RV.noX h2, RNs.noX r, Bool.and_self]
theorem RNs.down : ∀ {x : List (PV × PV)} {v : List ZN.En}, RNs ⟨K, w, e⟩ ρ H x v → noXn x = true → RNs ⟨K, w, e'⟩ ρ H x v
  | _, _, .nil, _ => .nil
  | _, _, .cons h1 h2 h3 h4 h5 r, n => by
    simp only [noXn, Bool.and_eq_true] at n
    exact .cons h1 h2 (RV.down h3 n.1.1) (RV.down h4 n.1.2) h5 (RNs.down r n.2)
def noXo : IO → Bool
  | .lst xs => noXs xs
  | .flst xs => noXs xs
  | .dK kvs => noXk kvs
  | .ins _ fs => noXf fs
  | .dN kvs => noXn kvs
  | .fdK _ kvs => noXk kvs
theorem RO.noX {a : Addr} {o : IO} (h : RO ⟨K, w, none⟩ ρ H a o) : noXo o = true := by
  cases o with
  | lst xs => obtain ⟨_, _, r⟩ := h; exact r.noX
  | flst xs => obtain ⟨_, _, _, r⟩ := h; exact r.noX
  | dK xs => obtain ⟨_, _, r⟩ := h; exact r.noX
  | ins c fs => obtain ⟨_, _, _, r⟩ := h; exact r.noX
  | dN kvs => obtain ⟨_, _, r⟩ := h; exact r.noX
  | fdK x kvs => obtain ⟨_, _, _, _, r⟩ := h; exact r.noX
theorem RO.down {a : Addr} {o : IO} (h : RO ⟨K, w, e⟩ ρ H a o) (n : noXo o = true) : RO ⟨K, w, e'⟩ ρ H a o := by
  cases o with
  | lst xs => obtain ⟨vs, q, r⟩ := h; exact ⟨vs, q, r.down n⟩
  | flst xs => obtain ⟨o, vs, q, r⟩ := h; exact ⟨o, vs, q, r.down n⟩
  | dK xs => obtain ⟨vs, q, r⟩ := h; exact ⟨vs, q, r.down n⟩
  | ins c fs => obtain ⟨dx, fs', q, r⟩ := h; exact ⟨dx, fs', q, r.down n⟩
  | dN kvs => obtain ⟨es, q, r⟩ := h; exact ⟨es, q, r.down n⟩
  | fdK x kvs => obtain ⟨z, o, vs, q, r⟩ := h; exact ⟨z, o, vs, q, r.down n⟩
theorem RO.up {a : Addr} {o : IO} (h : RO ⟨K, w, none⟩ ρ H a o) : RO ⟨K, w, e⟩ ρ H a o := h.down h.noX
theorem RH.up {ih : IH} (h : RH ⟨K, w, none⟩ ρ H ih) : RH ⟨K, w, e⟩ ρ H ih := ⟨h.len, h.nd, fun n a o e1 e2 => (h.ob n a o e1 e2).up⟩
theorem RH.down {ih : IH} {ρ' : List Addr} {H' : Hp} (h : RH ⟨K, w, e⟩ ρ' H' ih) (h0 : RH ⟨K, w, none⟩ ρ H ih) : RH ⟨K, w, none⟩ ρ' H' ih := ⟨h.len, h.nd, fun n a o e1 e2 => by
  obtain ⟨b, _, r⟩ := h0.get e2
  exact (h.ob n a o e1 e2).down r.noX⟩
theorem RH.downM {ih h2 : IH} {ρ' : List Addr} {H' : Hp} (h : RH ⟨K, w, e⟩ ρ' H' h2) (h0 : RH ⟨K, w, none⟩ ρ H ih) (hm : ∃ more, h2 = ih ++ more ∧ more.all noXo = true) : RH ⟨K, w, none⟩ ρ' H' h2 := ⟨h.len, h.nd, fun n a o e1 e2 => by
  obtain ⟨more, rfl, hm⟩ := hm
  by_cases hn : n < ih.length
  · rw [List.getElem?_append_left hn] at e2
    obtain ⟨b, _, r⟩ := h0.get e2
    exact (h.ob n a o e1 (by rw [List.getElem?_append_left hn]; exact e2)).down r.noX
  · have e3 := e2
    rw [List.getElem?_append_right (Nat.le_of_not_lt hn)] at e3
    exact (h.ob n a o e1 e2).down (List.all_eq_true.mp hm o (List.mem_of_getElem? e3))⟩
theorem RE.up {env : Sl} {σ : L2.St} (h : RE ⟨K, w, none⟩ ρ H env σ) : RE ⟨K, w, e⟩ ρ H env σ := ⟨h.len, fun i v q => let ⟨u, a, b⟩ := h.at_ i v q; ⟨u, a, b.up⟩⟩
theorem XD.exc {d : Option Addr} {fs : List (Str × PV)} {a : Addr} {c : Str} (h : XD ⟨K, w, none⟩ ρ H d fs) : RV ⟨K, w, some (a, c, d)⟩ ρ H (.exc c fs) (.ref a) := by
  cases d with
  | none =>
    have h : fs = [] := h
    subst h
    exact .exc0 rfl
  | some d =>
    obtain ⟨fs', h1, h2⟩ := h
    exact .exc rfl h1 h2.up
end

def exSub (c y : Str) : Bool := decide (c = y ∨ y = Str.ofString "HeapError")
open Classical in
def retOnly (ih : IH) : RS → RS
  | .ret v h => if h = ih ∧ noX v = true then .ret v h else .fail
  | _ => .fail
theorem retOnly_post {L : Rl} {W : WX} {D : Ends} {ρ : List Addr} {H : Hp} {v : PV} {h ih : IH} (p : PostS L W D ρ H (retOnly ih (.ret v h))) : h = ih ∧ noX v = true ∧ PostS L W D ρ H (.ret v h) := by
  unfold retOnly at p
  dsimp only at p
  split at p
  · rename_i hv
    exact ⟨hv.1, hv.2, p⟩
  · exact p.elim
open Classical in
def retMore (ih : IH) (env0 : Sl) (i : Nat) : RS → RS
  | .ret v h => if (∃ more, h = ih ++ more ∧ more.all noXo = true) ∧ noX v = true then .ret v h else .fail
  | .nx env h => if (∃ more, h = ih ++ more ∧ more.all noXo = true) ∧ ∃ j w, env = (env0.set i none).set j (some w) ∧ noX w = true then .nx env h else .fail
  | _ => .fail
def unX (i : Nat) : RS → RS
  | .nx env h => .nx (env.set i none) h
  | r => r
theorem retMore_ok {v : PV} {ih more : IH} {env0 : Sl} {i : Nat} (m : more.all noXo = true) (n : noX v = true) : retMore ih env0 i (.ret v (ih ++ more)) = .ret v (ih ++ more) := by
  unfold retMore
  exact if_pos ⟨⟨more, rfl, m⟩, n⟩
theorem retMore_nx {w : PV} {ih more : IH} {env0 : Sl} {i j : Nat} (m : more.all noXo = true) (n : noX w = true) : retMore ih env0 i (.nx ((env0.set i none).set j (some w)) (ih ++ more)) = .nx ((env0.set i none).set j (some w)) (ih ++ more) := by
  unfold retMore
  exact if_pos ⟨⟨more, rfl, m⟩, j, w, rfl, n⟩
theorem retMore_post {L : Rl} {W : WX} {D : Ends} {ρ : List Addr} {H : Hp} {v : PV} {h ih : IH} {env0 : Sl} {i : Nat} (p : PostS L W D ρ H (retMore ih env0 i (unX i (.ret v h)))) : (∃ more, h = ih ++ more ∧ more.all noXo = true) ∧ noX v = true ∧ PostS L W D ρ H (.ret v h) := by
  unfold unX retMore at p
  dsimp only at p
  split at p
  · rename_i hv
    exact ⟨hv.1, hv.2, p⟩
  · exact p.elim
theorem retMore_postN {L : Rl} {W : WX} {D : Ends} {ρ : List Addr} {H : Hp} {env : Sl} {h ih : IH} {env0 : Sl} {i : Nat} (p : PostS L W D ρ H (retMore ih env0 i (unX i (.nx env h)))) : (∃ more, h = ih ++ more ∧ more.all noXo = true) ∧ ∃ j w, env.set i none = (env0.set i none).set j (some w) ∧ noX w = true ∧ PostS L W D ρ H (.nx (env.set i none) h) := by
  unfold unX retMore at p
  dsimp only at p
  split at p
  · rename_i hv
    obtain ⟨h1, j, w, h2, h3⟩ := hv
    exact ⟨h1, j, w, h2, h3, p⟩
  · exact p.elim
def kindsN : Str := Str.ofString "_law_kinds_of"
def kindsOn (P : Prg) : Bool := (P.fns.lookup kindsN).isSome
def isxOn (P : Prg) : Bool := P.own "__eq__" || kindsOn P
def sHandleP (P : Prg) (c : Str) (fs : List (Str × PV)) : List (Str × Option Nat × SM) → SM
  | [] => fun env ih => .exc c fs env ih
  | (y, n, b) :: r => if exSub c y = true then (match n with
      | none => b
      | some i => fun env ih => if kindsOn P = true then retMore ih env i (unX i (b (env.set i (some (.exc c fs))) ih)) else retOnly ih (b (env.set i (some (.exc c fs))) ih)) else sHandleP P c fs r
def sTryP (P : Prg) (b : SM) (hs : List (Str × Option Nat × SM)) : SM := fun env ih => match b env ih with
  | .exc c fs e h => if (P.excs.lookup c).isSome = true then sHandleP P c fs hs e h else .fail
  | r => r
structure ExcFacts (P : Prg) (prog : Program) (K : PySem.W.Frag) (mg : Str → Option Value) : Prop where
  txt : ∀ c fs, P.excs.lookup c = some fs → ∃ fI, ZX.ExTxt prog K mg c (He.ga K c) fI fs
  hd : mg "HeapError" = some (.ref (He.ga K "HeapError"))
  isx : isxOn P = true → ∀ c, (P.excs.lookup c).isSome = true → PySem.W.findIn K (.ref (He.ga K c)) "__class__" = some (some (.builtin "object.__class__")) ∧ PySem.W.specialIn K (.builtin "object.__class__") "__get__" = some (some (.builtin "getset_descriptor.__get__")) ∧
    PySem.W.takesIn K (.builtin "object.__class__") = some true ∧ PySem.W.mroIn K (He.ga K c) (.type "object") = some true ∧ PySem.W.kitOne K (.ref (He.ga K c)) (.type "ValueError") = some true ∧ ∀ y, (P.excs.lookup y).isSome = true → PySem.W.kitOne K (.ref (He.ga K c)) (.ref (He.ga K y)) = some (decide (c = y))
  exm : ∀ c y, (P.excs.lookup c).isSome = true → ((P.excs.lookup y).isSome = true ∨ y = Str.ofString "HeapError") → PySem.W.exmOne K (.ref (He.ga K c)) (.ref (He.ga K y)) = some (exSub c y)
theorem ExcFacts.mg_ {P : Prg} {prog : Program} {K : PySem.W.Frag} {mg : Str → Option Value} (F : ExcFacts P prog K mg) {y : Str} (h : (P.excs.lookup y).isSome = true ∨ y = Str.ofString "HeapError") : mg y = some (.ref (He.ga K y)) := by
  rcases h with h | h
  · cases q : P.excs.lookup y with
    | none => rw [q] at h; cases h
    | some fs =>
      obtain ⟨fI, T⟩ := F.txt y fs q
      exact T.gC
  · rw [h]; exact F.hd
def tSuite (K : PySem.W.Frag) (w : World) (n : Option Nat) (m : SM) : Addr → Value → Option Addr → TS := fun a cls d D σ H => ∃ c, cls = .ref (He.ga K c) ∧ match n with
  | none => tS ⟨K, w, none⟩ WF m D σ H
  | some _ => tS ⟨K, w, some (a, c, d)⟩ WF m D σ H
def clsOf (K : PySem.W.Frag) (w : World) (hs : List (Str × Option Nat × SM)) : List Cl := hs.map fun p => (.ref (He.ga K p.1), p.2.1, tSuite K w p.2.1 p.2.2)
def noRaise : List (Str × Option Nat × SM) → List (Str × Option Nat × SM) := fun hs => hs.map fun p => (p.1, p.2.1, fun env ih => match p.2.2 env ih with
  | .exc _ _ _ _ => .fail
  | r => r)
theorem wGen_of {P : Prg} {prog : Program} {K : PySem.W.Frag} {w : World} {mg : Str → Option Value} (F : ExcFacts P prog K mg) {Wout : WX} {D : Ends} {c : Str} {fs : List (Str × PV)} (hc : (P.excs.lookup c).isSome = true) {d : Option Addr} {σ : L2.St} {ρ : List Addr} {H : Hp} {env : Sl} {ih : IH}
    (e1 : RE ⟨K, w, none⟩ ρ H env σ) (e2 : RH ⟨K, w, none⟩ ρ H ih) (xd : XD ⟨K, w, none⟩ ρ H d fs) : ∀ hs : List (Str × Option Nat × SM), (∀ p ∈ hs, (P.excs.lookup p.1).isSome = true ∨ p.1 = Str.ofString "HeapError") →
      PostS ⟨K, w, none⟩ Wout D ρ H (sHandleP P c fs (noRaise hs) env ih) → wGen K Wout D (clsOf K w hs) (.ref (He.ga K c)) d σ H
  | [], _, p => p ρ H σ d (Ext.refl _ _) e2 e1 xd
  | (y, n, b) :: r, hh, p => by
    have ex := F.exm c y hc (hh (y, n, b) List.mem_cons_self)
    refine ⟨_, ex, fun hb a ha => ?_, fun hb => ?_⟩
    · have p' : PostS ⟨K, w, none⟩ Wout D ρ H (sHandleP P c fs ((y, n, fun env ih => match b env ih with | .exc _ _ _ _ => .fail | r => r) :: noRaise r) env ih) := p
      unfold sHandleP at p'
      rw [if_pos hb] at p'
      cases n with
      | none =>
        refine ⟨c, rfl, ρ, env, ih, e1, e2, ?_⟩
        show PostS ⟨K, w, none⟩ WF D ρ H (b env ih)
        dsimp only at p'
        revert p'
        cases b env ih with
        | exc c' fs' e' h' => exact fun p => p.elim
        | _ => exact fun p => p
      | some i =>
        refine ⟨c, rfl, ρ, env.set i (some (.exc c fs)), ih, (e1.up).set xd.exc, e2.up, ?_⟩
        show PostS ⟨K, w, some (a, c, d)⟩ WF _ ρ H (b (env.set i (some (.exc c fs))) ih)
        dsimp only at p'
        by_cases hk : kindsOn P = true
        · rw [if_pos hk] at p'
          revert p'
          cases b (env.set i (some (.exc c fs))) ih with
          | ret v h =>
            intro p' ρ' H' u ex' h' r'
            obtain ⟨hm, hv, p2⟩ := retMore_post p'
            exact p2 ρ' H' u ex' (h'.downM e2 hm) (r'.down hv)
          | nx env2 h =>
            intro p' ρ' H' σ' ex' h' r'
            obtain ⟨hm, j, v, he, hv, p2⟩ := retMore_postN p'
            refine p2 ρ' H' _ ex' (h'.downM e2 hm) ?_
            have r1 : RE ⟨K, w, some (a, c, d)⟩ ρ' H' (env2.set i none) (σ'.set i none) := r'.set1
            refine ⟨r1.len, fun k v' q => ?_⟩
            obtain ⟨u, q1, q2⟩ := r1.at_ k v' q
            refine ⟨u, q1, q2.down ?_⟩
            rw [he] at q
            by_cases hj : j = k
            · subst hj
              by_cases hl : j < (env.set i none).length
              · rw [List.getElem?_set_self hl] at q
                cases q; exact hv
              · rw [List.getElem?_eq_none (by simpa using hl)] at q; cases q
            · rw [List.getElem?_set_ne hj] at q
              have e0 := RE.set1 (i := i) e1
              obtain ⟨u', _, q4⟩ := e0.at_ k v' q
              exact q4.noX
          | _ => exact fun p => p.elim
        rw [if_neg hk] at p'
        revert p'
        cases b (env.set i (some (.exc c fs))) ih with
        | ret v h =>
          intro p' ρ' H' u ex' h' r'
          obtain ⟨rfl, hv, p2⟩ := retOnly_post p'
          exact p2 ρ' H' u ex' (h'.down e2) (r'.down hv)
        | _ => exact fun p => p.elim
    · refine wGen_of F hc e1 e2 xd r (fun p hp => hh p (List.mem_cons_of_mem _ hp)) ?_
      have p' : PostS ⟨K, w, none⟩ Wout D ρ H (sHandleP P c fs ((y, n, fun env ih => match b env ih with | .exc _ _ _ _ => .fail | r => r) :: noRaise r) env ih) := p
      unfold sHandleP at p'
      rw [if_neg (by rw [hb]; exact Bool.false_ne_true)] at p'
      exact p'
section
variable {X : Cx} {W : WX} {pos : Pos} {body : List Stmt} {h₀ : ExceptHandler} {hds : List ExceptHandler} {m : SM} {P : Prg}
theorem s_try {hs : List (Str × Option Nat × SM)} (F : ExcFacts P X.prog X.K X.mg) (hst : X.stack = X.env :: X.outer) (hf : X.env.frame = some X.env.locals) (hN : X.N.Nodup) (tk : Takes X W)
    (hb : ∀ (W : WX) (pn : List (Addr × Obj)) (xe : Value → Shared → Prop), Takes (X.tr pn xe) W → PassesOwn (model X.prog X.w) X.A X.env xe → PSs (X.tr pn xe) body (tS (lr X none) W m))
    (hh : HdsG X (h₀ :: hds) (clsOf X.K X.w hs)) (hcl : ∀ p ∈ hs, (P.excs.lookup p.1).isSome = true ∨ p.1 = Str.ofString "HeapError") : PS X (.Try body (h₀ :: hds) [] [] pos) (tS (lr X none) W (sTryP P m (noRaise hs))) := by
  refine impS (ps_try_gen hst hf hN tk hb hh) fun D σ H ⟨ρ, env, ih, e1, e2, p⟩ => ⟨ρ, env, ih, e1, e2, ?_⟩
  unfold sTryP at p
  revert p
  cases m env ih with
  | exc c fs e h =>
    intro p ρ' H' σ' d ex h' re xd
    dsimp only at p
    split at p
    · rename_i hc
      exact wGen_of F hc re h' xd hs hcl (p.ext ex)
    · exact p.elim
  | _ => exact fun p => p
end
end Z
end
noncomputable section
namespace Z
open PySem PySem.Spec PyProof.Rows L2
set_option autoImplicit false

structure Ct where
  C : Cfg
  N : List Str
  act : Option (Str × (IH → R PV))
def ixOf : List Str → Str → Option Nat
  | [], _ => none
  | y :: r, x => if x = y then some 0 else (ixOf r x).map (· + 1)
theorem ixOf_get : ∀ {N : List Str} {x : Str} {i : Nat}, ixOf N x = some i → N[i]? = some x
  | [], _, _, h => by cases h
  | y :: r, x, i, h => by
    unfold ixOf at h
    split at h
    · rename_i e
      cases h; subst e; rfl
    · cases q : ixOf r x with
      | none => rw [q] at h; cases h
      | some j =>
        rw [q] at h
        cases h
        have z := ixOf_get q
        simpa using z
def isV (sc : Scope) (x : Str) : Bool := match sc.names.lookup x with
  | some .local => true
  | some .cell => true
  | some .free => true
  | _ => false
def isL (sc : Scope) (x : Str) : Bool := match sc.names.lookup x with
  | some .local => true
  | some .cell => true
  | _ => false
def isG (sc : Scope) (x : Str) : Bool := match sc.names.lookup x with
  | some .globalImplicit => true
  | _ => false
def isLoc (sc : Scope) (x : Str) : Bool := match sc.names.lookup x with
  | some .local => true
  | _ => false
def oddN (x : Str) : Bool := (x == ("__debug__" : Str)) || (x == ("__classdict__" : Str)) || (x == ("__name__" : Str))
theorem isV_ok {sc : Scope} {x : Str} (h : isV sc x = true) : Vis sc x := by
  unfold isV at h
  split at h
  · exact .inl ‹_›
  · exact .inr (.inl ‹_›)
  · exact .inr (.inr ‹_›)
  · cases h
theorem isL_ok {sc : Scope} {x : Str} (h : isL sc x = true) : Loc sc x := by
  unfold isL at h
  split at h
  · exact .inl ‹_›
  · exact .inr ‹_›
  · cases h
theorem isG_ok {sc : Scope} {x : Str} (h : isG sc x = true) : sc.names.lookup x = some .globalImplicit := by
  unfold isG at h
  split at h
  · assumption
  · cases h
theorem isLoc_ok {sc : Scope} {x : Str} (h : isLoc sc x = true) : sc.names.lookup x = some .local := by
  unfold isLoc at h
  split at h
  · assumption
  · cases h
theorem odd_ok {x : Str} (h : oddN x = false) : (x == ("__debug__" : Str)) = false ∧ (x == ("__classdict__" : Str)) = false ∧ (x == ("__name__" : Str)) = false := by
  unfold oddN at h
  simp only [Bool.or_eq_false_iff] at h
  exact ⟨h.1.1, h.1.2, h.2⟩
def nameE (t : Ct) (sc : Scope) (x : Str) : EM PV :=
  if oddN x = true then eFail else if isV sc x = true then (match ixOf t.N x with
    | some i => eVar i
    | none => eFail) else if isG sc x = true then (match t.C.P.dcts.lookup x with
    | some i => eDct x i
    | none => match gloV t.C.P x with
      | some v => eC v
      | none => eFail) else eFail
def lstX (t : Ct) (E : Expr → EM PV) (sc : Scope) (x : Str) : List Expr → Option (EM PV)
  | [.Call (.Attribute o m apos) [] [] cpos] => if x = Str.ofString "list" ∧ m = Str.ofString "values" ∧ isG sc x = true ∧ t.C.P.blts.contains x = true ∧ isCall0 o = false ∧ (apos.endLine == cpos.line) = true then some (eUn lvalsP (E o)) else none
  | [.Call (.Name y _) [a] [] _] => if x = Str.ofString "list" ∧ y = Str.ofString "range" ∧ isG sc x = true ∧ t.C.P.blts.contains x = true ∧ isG sc y = true ∧ t.C.P.blts.contains y = true ∧ isStar a = false then some (eUn lrgP (E a)) else none
  | _ => none
def isMethX : Expr → Bool
  | .Call (.Attribute ..) _ _ _ => true
  | _ => false
def constE : Const → EM PV
  | .int i => eC (.int i)
  | .bool b => eC (.bl b)
  | .str s => eC (.str s)
  | .none => eC .non
  | _ => eFail
def callN (t : Ct) (E : Expr → EM PV) (sc : Scope) (x : Str) (es : List Expr) : EM PV :=
  if es.any isStar = true ∨ oddN x = true then eFail else
  match t.act with
  | some (a, m) => if a = x then (if es.isEmpty = true then fun _ ih => m ih else eFail) else
      if isG sc x = true then (match t.C.P.fns.lookup x with
        | some _ => eCall t.C (.fn x) es.length (eArgs (es.map E))
        | none => match t.C.P.clss.lookup x with
          | some _ => eMake t.C x es.length (eArgs (es.map E))
          | none => if t.C.P.blts.contains x = true ∧ es.isEmpty = false then (match bltOf t.C.P x with
            | some p => eB (bltP t.C x p) (eArgs (es.map E))
            | none => eFail) else eFail) else eFail
  | none => if isG sc x = true then (match t.C.P.fns.lookup x with
      | some _ => eCall t.C (.fn x) es.length (eArgs (es.map E))
      | none => match t.C.P.clss.lookup x with
        | some _ => eMake t.C x es.length (eArgs (es.map E))
        | none => if t.C.P.blts.contains x = true ∧ es.isEmpty = false then (match bltOf t.C.P x with
          | some p => eB (bltP t.C x p) (eArgs (es.map E))
          | none => eFail) else eFail) else eFail
def isTupX : Expr → Bool
  | .Tuple .. => true
  | _ => false
def isSetX : Expr → Bool
  | .Set .. => true
  | _ => false
def iterE (t : Ct) (E : Expr → EM PV) (sc : Scope) (tg : Expr) : Expr → EM Src
  | .Call (.Name x p) es [] pos =>
    if x = Str.ofString "range" then (if isG sc x = true ∧ t.C.P.blts.contains x = true ∧ es.any isStar = false ∧ es.length ≤ 3 then srcRng es.length (eArgs (es.map E)) else eFail)
    else if x = Str.ofString "enumerate" then (if isG sc x = true ∧ t.C.P.blts.contains x = true ∧ isTupX tg = true then (match es with
      | [e] => if isStar e = false then srcEnum (E e) else eFail
      | _ => eFail) else eFail)
    else srcE (E (.Call (.Name x p) es [] pos))
  | e => if isSetX e = true then eFail else srcE (E e)
def ownOf (N : List Str) (scope : Scope) : List (Str × Nat) := scope.names.filterMap fun p => match p.2 with
  | .local => (ixOf N p.1).map fun i => (p.1, i)
  | .cell => (ixOf N p.1).map fun i => (p.1, i)
  | _ => none
def namesTg (N : List Str) (sc : Scope) : List Expr → Option (List Nat)
  | [] => some []
  | .Name x _ :: r => if isL sc x = true ∧ oddN x = false then (match ixOf N x, namesTg N sc r with
    | some i, some is => some (i :: is)
    | _, _ => none) else none
  | _ => none
def tgOf (N : List Str) (sc : Scope) : Expr → Option Tg
  | .Name x _ => if isL sc x = true ∧ oddN x = false then (ixOf N x).map .nm else none
  | .Tuple es _ _ => (namesTg N sc es).map .tup
  | _ => none
def ifsE (T : Expr → EM Bool) : List Expr → EM Bool
  | [] => eC true
  | [c] => T c
  | _ => eFail
def plainT : Expr → Bool
  | .Name .. => true
  | .Call .. => true
  | .Attribute .. => true
  | .Subscript .. => true
  | _ => false
def kwNames : List Keyword → Option (List Str)
  | [] => some []
  | q :: r => match q.arg, kwNames r with
    | some a, some l => some (a :: l)
    | _, _ => none
theorem kwNames_map : ∀ {kws : List Keyword} {ks : List Str}, kwNames kws = some ks → kws.map (·.arg) = ks.map some
  | [], ks, h => by cases h; rfl
  | q :: r, ks, h => by
    unfold kwNames at h
    split at h
    · rename_i a l e1 e2
      cases h
      rw [List.map_cons, List.map_cons, e1, kwNames_map e2]
    · cases h
def stepE (t : Ct) (E : Scope → Expr → EM PV) (T : Scope → Expr → EM Bool) (sc : Scope) : Expr → EM PV
  | .Constant c _ _ => constE c
  | .Name x _ => nameE t sc x
  | .BinOp a op b _ => eOp (binP op) (E sc a) (E sc b)
  | .UnaryOp .Not a _ => eVal (eNot (eTru (E sc a)))
  | .UnaryOp .USub a _ => eUn (fun x ih => match x with
    | .int i => .ok (.int (-i)) ih
    | _ => .fail) (E sc a)
  | .BoolOp .And es _ => eAndV (es.map (E sc))
  | .BoolOp .Or es _ => eOrV (es.map (E sc))
  | .Compare a [op] [b] _ => if behindInMarks op b = true then eFail else eVal (eCmp (cmpV t.C a op) (E sc a) (E sc b))
  | .Compare a [op, op'] [b, c] _ => if lastMarks [op, op'] [b, c] = true then eFail else eVal (eChain (cmpP op) (cmpP op') (E sc a) (E sc b) (E sc c))
  | .IfExp c a b _ => eIf (T sc c) (E sc a) (E sc b)
  | .Call (.Name x _) es [] _ => match lstX t (E sc) sc x es with
    | some m => m
    | none => callN t (E sc) sc x es
  | .Call (.Attribute o m apos) es [] pos => if es.any isStar = true ∨ isCall0 o = true ∨ (apos.endLine == pos.line) = false ∨ 30 ≤ es.length then eFail else eMethD t.C (E sc o) m es.length (eArgs (es.map (E sc)))
  | .Call (.Attribute o m apos) (e :: es) (q :: qs) pos => if (e :: es).any isStar = true ∨ isCall0 o = true ∨ (apos.endLine == pos.line) = false ∨ 28 ≤ (e :: es).length + (q :: qs).length then eFail else match kwNames (q :: qs) with
    | some ks => eMethKw t.C (E sc o) m ks (eArgs ((e :: es).map (E sc))) (eArgs ((q :: qs).map fun z => E sc z.value))
    | none => eFail
  | .Attribute a f _ => if isCall0 a = true then eFail else eFld t.C.P.isFld (E sc a) f
  | .Subscript a (.Slice lo hi none _) _ => eSl (E sc a) (lo.map (E sc)) (hi.map (E sc))
  | .Subscript a i _ => if isSl i = true then eFail else eOp (ixV t.C a) (E sc a) (E sc i)
  | .Tuple es _ _ => eTup (eStars (es.map (starOf (E sc))))
  | .List es _ => eLst (eStars (es.map (starOf (E sc))))
  | .Dict ks vs _ => if ks.isEmpty = true ∧ vs.isEmpty = true then eDNew else if ks.length = vs.length ∧ ks.length ≤ 15 ∧ ks.all Option.isSome = true then
      eDisp ((ks.zip vs).map fun p => ((match p.1 with
        | some e => E sc e
        | none => eFail), E sc p.2)) else eFail
  | .ListComp elt [⟨tg, iter, ifs, 0⟩] scope _ => match tgOf t.N scope tg with
    | some g => if t.act.isNone = true ∧ blkC t.N sc scope (ownOf t.N scope) = true ∧ g.within ((ownOf t.N scope).map (·.2)) = true then
        eCompL t.C.F (iterE t (E sc) sc tg iter) g ((ownOf t.N scope).map (·.2)) (ifsE (T (relS scope sc)) ifs) (E (relS scope sc) elt) else eFail
    | none => eFail
  | .DictComp kx vx [⟨tg, iter, ifs, 0⟩] scope _ => match tgOf t.N scope tg with
    | some g => if t.act.isNone = true ∧ blkC t.N sc scope (ownOf t.N scope) = true ∧ g.within ((ownOf t.N scope).map (·.2)) = true then
        (if isMethX kx = true then eCompN else eCompD) t.C.F (iterE t (E sc) sc tg iter) g ((ownOf t.N scope).map (·.2)) (ifsE (T (relS scope sc)) ifs) (E (relS scope sc) kx) (E (relS scope sc) vx) else eFail
    | none => eFail
  | _ => eFail
def stepT (t : Ct) (E : Scope → Expr → EM PV) (T : Scope → Expr → EM Bool) (sc : Scope) : Expr → EM Bool
  | .Compare a [op] [b] _ => if behindInMarks op b = true then eFail else eCmp (cmpV t.C a op) (E sc a) (E sc b)
  | .Compare a [op, op'] [b, c] _ => if lastMarks [op, op'] [b, c] = true then eFail else eChain (cmpP op) (cmpP op') (E sc a) (E sc b) (E sc c)
  | .UnaryOp .Not a _ => eNot (T sc a)
  | .BoolOp .And es _ => eAnd (es.map (T sc))
  | .BoolOp .Or es _ => eOr (es.map (T sc))
  | e => if plainT e = true then eTru (E sc e) else eFail
def evET (t : Ct) : Nat → (Scope → Expr → EM PV) × (Scope → Expr → EM Bool)
  | 0 => (fun _ _ => eFail, fun _ _ => eFail)
  | n + 1 => (stepE t (evET t n).1 (evET t n).2, stepT t (evET t n).1 (evET t n).2)
abbrev evE (t : Ct) (n : Nat) : Scope → Expr → EM PV := (evET t n).1
abbrev evT (t : Ct) (n : Nat) : Scope → Expr → EM Bool := (evET t n).2
end Z
end
noncomputable section
namespace Z
open PySem PySem.Spec PyProof.Rows L2
set_option autoImplicit false
structure Here (t : Ct) (k : Nat) (sc : Scope) (X : Cx) : Prop where
  hN : X.N = t.N
  nd : t.N.Nodup
  sc : X.env.scope = sc
  calm : X.calm = true
  u : X.A.units + 100 < cLine
  room : Room (k + 1) X.A
  F : FX t.C X k
  isa : IsaOk X.K t.C.P.isCls
  exf : ExcFacts t.C.P X.prog X.K X.mg
  act : ∀ a m, t.act = some (a, m) → ∀ pn xe W, Takes (X.tr pn xe) W → ∀ p pos, PE (X.tr pn xe) (.Call (.Name a p) [] [] pos) (tE (lr X none) W fun _ ih => m ih)
section
variable {t : Ct} {k : Nat} {sc : Scope} {X : Cx} {W : WX} {E : Scope → Expr → EM PV} {T : Scope → Expr → EM Bool} {e : Expr} {pos p : Pos}
theorem takesF {X : Cx} : Takes X WF := fun _ _ ⟨_, _, _, _, _, _, _, _, _, _, _, _, _, _, _, _, w⟩ => w.elim
theorem s_name (h : Here t k sc X) {x : Str} : PE X (.Name x p) (tE (lr X none) W (nameE t sc x)) := by
  unfold nameE
  by_cases h1 : oddN x = true
  · rw [if_pos h1]; exact noE
  rw [if_neg h1]
  obtain ⟨o1, o2, o3⟩ := odd_ok (by simpa using h1)
  by_cases h2 : isV sc x = true
  · rw [if_pos h2]
    cases q : ixOf t.N x with
    | none => exact noE
    | some i => exact se_var (by rw [h.hN]; exact ixOf_get q) (by rw [h.sc]; exact isV_ok h2) o1 o2
  · rw [if_neg h2]
    by_cases h3 : isG sc x = true
    · rw [if_pos h3]
      have hg : Gl X x := by show X.env.scope.names.lookup x = _; rw [h.sc]; exact isG_ok h3
      cases qd : t.C.P.dcts.lookup x with
      | some i => exact se_dct h.F hg qd o1
      | none =>
        dsimp only
        cases q : gloV t.C.P x with
        | none => exact noE
        | some v => exact se_glo h.F hg q o1
    · rw [if_neg h3]; exact noE
theorem s_const {c : Const} {j : Nat} : PE X (.Constant c j p) (tE (lr X none) W (constE c)) := by
  cases c with
  | int i => exact se_int
  | bool b => exact se_bl
  | str s => exact se_str
  | none => exact se_non
  | _ => exact noE
theorem s_callN (h : Here t k sc X) (tk : Takes X W) (hE : ∀ e, PE X e (tE (lr X none) W (E sc e))) {x : Str} {es : List Expr} : PE X (.Call (.Name x p) es [] pos) (tE (lr X none) W (callN t (E sc) sc x es)) := by
  have gen : es.any isStar = false → oddN x = false → PE X (.Call (.Name x p) es [] pos) (tE (lr X none) W (if isG sc x = true then (match t.C.P.fns.lookup x with
      | some _ => eCall t.C (.fn x) es.length (eArgs (es.map (E sc)))
      | none => match t.C.P.clss.lookup x with
        | some _ => eMake t.C x es.length (eArgs (es.map (E sc)))
        | none => if t.C.P.blts.contains x = true ∧ es.isEmpty = false then (match bltOf t.C.P x with
          | some p => eB (bltP t.C x p) (eArgs (es.map (E sc)))
          | none => eFail) else eFail) else eFail)) := by
    intro hs ho
    obtain ⟨o1, o2, o3⟩ := odd_ok ho
    by_cases h3 : isG sc x = true
    · rw [if_pos h3]
      have hg : Gl X x := by show X.env.scope.names.lookup x = _; rw [h.sc]; exact isG_ok h3
      cases q : t.C.P.fns.lookup x with
      | some fd => exact se_call h.F tk (h.room.mono (Nat.le_succ _)) hg q (fun e _ => hE e) hs o1
      | none =>
        dsimp only
        cases q2 : t.C.P.clss.lookup x with
        | some ms => exact se_make h.F tk h.room hg q2 (fun e _ => hE e) hs o1
        | none =>
          dsimp only
          by_cases h4 : t.C.P.blts.contains x = true ∧ es.isEmpty = false
          · rw [if_pos h4]
            cases q3 : bltOf t.C.P x with
            | none => exact noE
            | some bp => exact se_bltO h.F h.room h.calm h.u h.isa hg h4.1 q3 (fun e _ => hE e) hs h4.2 o3 o1
          · rw [if_neg h4]; exact noE
    · rw [if_neg h3]; exact noE
  unfold callN
  by_cases h1 : es.any isStar = true ∨ oddN x = true
  · rw [if_pos h1]; exact noE
  rw [if_neg h1]
  have hs : es.any isStar = false := by
    cases q : es.any isStar with
    | false => rfl
    | true => exact absurd (.inl q) h1
  have ho : oddN x = false := by
    cases q : oddN x with
    | false => rfl
    | true => exact absurd (.inr q) h1
  cases qa : t.act with
  | none => exact gen hs ho
  | some am =>
    obtain ⟨a, m⟩ := am
    dsimp only
    by_cases e : a = x
    · rw [if_pos e]
      by_cases he : es.isEmpty = true
      · rw [if_pos he]
        have : es = [] := by simpa using he
        subst this; subst e
        exact h.act a m qa X.pn X.xe W tk p pos
      · rw [if_neg he]; exact noE
    · rw [if_neg e]; exact gen hs ho
theorem s_lstX (h : Here t k sc X) (hE : ∀ e, PE X e (tE (lr X none) W (E sc e))) {x : Str} {es : List Expr} {m : EM PV} (q : lstX t (E sc) sc x es = some m) : PE X (.Call (.Name x p) es [] pos) (tE (lr X none) W m) := by
  have gl : ∀ y, isG sc y = true → Gl X y := fun y hy => by show X.env.scope.names.lookup y = _; rw [h.sc]; exact isG_ok hy
  unfold lstX at q
  split at q
  · split at q
    · rename_i c
      obtain ⟨rfl, rfl, c1, c2, c3, c4⟩ := c
      cases q
      exact se_lvals h.F h.calm (gl _ c1) c2 (hE _) c3 c4
    · cases q
  · split at q
    · rename_i c
      obtain ⟨rfl, rfl, c1, c2, c3, c4, c5⟩ := c
      cases q
      exact se_lrg h.F h.calm (gl _ c1) c2 (gl _ c3) c4 (hE _) c5
    · cases q
  · cases q
theorem noI {tg e : Expr} {L : Rl} : PI X tg e (tI L W eFail) := ⟨fun _ _ _ _ _ _ ⟨_, _, _, _, _, z⟩ => z.elim⟩
theorem s_iter (h : Here t k sc X) (hE : ∀ e, PE X e (tE (lr X none) W (E sc e))) {tg e : Expr} : PI X tg e (tI (lr X none) W (iterE t (E sc) sc tg e)) := by
  unfold iterE
  split
  · rename_i x p es pos
    by_cases h1 : x = Str.ofString "range"
    · rw [if_pos h1]
      by_cases h2 : isG sc x = true ∧ t.C.P.blts.contains x = true ∧ es.any isStar = false ∧ es.length ≤ 3
      · rw [if_pos h2]
        obtain ⟨g, b, s, hl⟩ := h2
        have hg : Gl X x := by show X.env.scope.names.lookup x = _; rw [h.sc]; exact isG_ok g
        have hm := h.F.blt x b
        subst h1
        have ha := sa_args (E sc) es (fun e _ => hE e) s
        match es, s, ha, hl with
        | [], _, _, _ => exact ⟨fun _ _ _ _ _ _ ⟨ρ, env, ih, e1, e2, z⟩ => (show False from z).elim⟩
        | [a], s, ha, _ => exact si_rng1 hg hm ha (by simpa using s)
        | [a, b], s, ha, _ =>
          have s' : isStar a = false ∧ isStar b = false := by simpa using s
          exact si_rng2 hg hm ha s'.1 s'.2
        | [a, b, c], s, ha, _ =>
          have s' : isStar a = false ∧ isStar b = false ∧ isStar c = false := by simpa using s
          exact si_rng3 hg hm ha s'.1 s'.2.1 s'.2.2
        | a :: b :: c :: d :: r, _, _, hl => exact absurd hl (by simp)
      · rw [if_neg h2]; exact noI
    · rw [if_neg h1]
      by_cases h3 : x = Str.ofString "enumerate"
      · rw [if_pos h3]
        by_cases h2 : isG sc x = true ∧ t.C.P.blts.contains x = true ∧ isTupX tg = true
        · rw [if_pos h2]
          obtain ⟨g, b, s⟩ := h2
          have hg : Gl X x := by show X.env.scope.names.lookup x = _; rw [h.sc]; exact isG_ok g
          have hm := h.F.blt x b
          subst h3
          cases tg with
          | Tuple elts kk tpos =>
            match es with
            | [] => exact noI
            | [a] =>
              dsimp only
              by_cases ha : isStar a = false
              · rw [if_pos ha]; exact si_enum hg hm (hE a) ha
              · rw [if_neg ha]; exact noI
            | a :: b :: r => exact noI
          | _ => cases s
        · rw [if_neg h2]; exact noI
      · rw [if_neg h3]; exact si_seq (hE _)
  · split
    · exact noI
    · exact si_seq (hE _)
theorem s_iter2 (h : Here t k sc X) (hE : ∀ e, PE X e (tE (lr X none) W (E sc e))) {tg e : Expr} : PI X tg e (tI (lr X none) W (iterE t (E sc) sc tg e)) ∧ ((∀ x, foldedSetIterable e X.env x = pure x) ∨ iterE t (E sc) sc tg e = eFail) := by
  refine ⟨s_iter h hE, ?_⟩
  cases e with
  | Set => exact .inr rfl
  | _ => exact .inl fun _ => rfl
theorem namesTg_ok {N : List Str} {sc : Scope} (hN : X.N = N) (nd : N.Nodup) (hl : ∀ x, isL sc x = true → Loc X.env.scope x) (hf : ∀ x, isL sc x = true → X.fn x = true ∨ X.env.scope.names.lookup x = some .local) :
    ∀ {es : List Expr} {is : List Nat}, namesTg N sc es = some is → PGs X es (gNames is) ∧ (assignEach es X.env).length = is.length ∧ (assignEach es X.env).findIdx? (·.1) = none
  | [], is, h => by
    simp only [namesTg] at h
    cases h
    exact ⟨pgs_nil, rfl, rfl⟩
  | e :: es, is, h => by
    unfold namesTg at h
    split at h
    · rename_i q; cases q
    · rename_i x p r q
      cases q
      split at h
      · rename_i hx
        split at h
        · rename_i i is' q1 q2
          cases h
          obtain ⟨z1, z2, z3⟩ := namesTg_ok hN nd hl hf q2
          have hN' : X.N.Nodup := by rw [hN]; exact nd
          refine ⟨pgs_cons (pg_name hN' (by rw [hN]; exact ixOf_get q1) (hl _ hx.1) (hf _ hx.1)) z1 rfl, ?_, ?_⟩
          · show (assignEach es X.env).length + 1 = _
            rw [z2]; rfl
          · show List.findIdx? (·.1) ((false, _) :: assignEach es X.env) = none
            rw [List.findIdx?_cons]
            simp [z3]
        · cases h
      · cases h
    · cases h
theorem tgOf_ok {N : List Str} {sc : Scope} (hc : X.calm = true) (hN : X.N = N) (nd : N.Nodup) (hl : ∀ x, isL sc x = true → Loc X.env.scope x) (hf : ∀ x, isL sc x = true → X.fn x = true ∨ X.env.scope.names.lookup x = some .local) {e : Expr} {g : Tg} (h : tgOf N sc e = some g) : PG X e (tN X.K g) := by
  have hN' : X.N.Nodup := by rw [hN]; exact nd
  unfold tgOf at h
  split at h
  · split at h
    · rename_i hx
      cases q : ixOf N _ with
      | none => rw [q] at h; cases h
      | some i =>
        rw [q] at h
        cases h
        exact tn_nm hN' (by rw [hN]; exact ixOf_get q) (hl _ hx.1) (hf _ hx.1)
    · cases h
  · rename_i es _ _
    cases q : namesTg N sc es with
    | none => rw [q] at h; cases h
    | some is =>
      rw [q] at h
      cases h
      obtain ⟨z1, z2, z3⟩ := namesTg_ok hN nd hl hf q
      exact tn_tup hc z1 z2 z3
  · cases h
theorem blk_here (h : Here t k sc X) {scope : Scope} (s : Shared) (H : Hp) (C' : Addr) (cl : List (Str × Addr)) (fp : List Addr) (ha : ∀ a m, t.act = some (a, m) → False) : Here t k (relS scope sc) (X.blk s H scope (compEnvC scope cl C' X.env) fp) :=
  ⟨h.hN, h.nd, by show relS scope X.env.scope = _; rw [h.sc], h.calm, h.u, h.room, h.F, h.isa, h.exf, fun a m q => (ha a m q).elim⟩
theorem blk_loc (h : Here t k sc X) {scope : Scope} {s : Shared} {H : Hp} {C' : Addr} {cl : List (Str × Addr)} {fp : List Addr} {x : Str} (hx : isL scope x = true) :
    Loc (X.blk s H scope (compEnvC scope cl C' X.env) fp).env.scope x ∧ ((X.blk s H scope (compEnvC scope cl C' X.env) fp).fn x = true ∨ (X.blk s H scope (compEnvC scope cl C' X.env) fp).env.scope.names.lookup x = some .local) := by
  unfold isL at hx
  split at hx
  · rename_i q
    have z : (relS scope X.env.scope).names.lookup x = some .local := lookup_relS_keep (by simp) q
    exact ⟨.inl z, .inr z⟩
  · rename_i q
    have z : (relS scope X.env.scope).names.lookup x = some .cell := lookup_relS_keep (by simp) q
    refine ⟨.inr z, .inl ?_⟩
    show (scope.names.lookup x == some .cell) = true
    rw [q]; rfl
  · cases hx
theorem s_ifs {X' : Cx} {Tf : Expr → EM Bool} (hT : ∀ e, PT X' e (tT (lr X' none) WF (Tf e))) : ∀ ifs : List Expr, PTs X' ifs (tT (lr X' none) WF (ifsE Tf ifs))
  | [] => ⟨fun pins s σ H Q I ⟨ρ, env, ih, e1, e2, p⟩ => pts_nil.run pins s σ H Q I (Post.here p e2 rfl)⟩
  | [c] => pts_one (hT c)
  | _ :: _ :: _ => ⟨fun _ _ _ _ _ _ ⟨_, _, _, _, _, z⟩ => z.elim⟩
theorem s_lc (h : Here t k sc X) (hEW : ∀ e, PE X e (tE (lr X none) W (E sc e))) (hE : ∀ sc X W, Here t k sc X → Takes X W → ∀ e, PE X e (tE (lr X none) W (E sc e))) (hT : ∀ sc X W, Here t k sc X → Takes X W → ∀ e, PT X e (tT (lr X none) W (T sc e)))
    {elt tg iter : Expr} {ifs : List Expr} {scope : Scope} {g : Tg} (hg : tgOf t.N scope tg = some g) (ha : t.act.isNone = true) (hb : blkC t.N sc scope (ownOf t.N scope) = true) (hw : g.within ((ownOf t.N scope).map (·.2)) = true) :
    PE X (.ListComp elt [⟨tg, iter, ifs, 0⟩] scope pos) (tE (lr X none) W (eCompL t.C.F (iterE t (E sc) sc tg iter) g ((ownOf t.N scope).map (·.2)) (ifsE (T (relS scope sc)) ifs) (E (relS scope sc) elt))) := by
  obtain ⟨hi, hs⟩ := s_iter2 (tg := tg) (e := iter) h hEW
  have an : ∀ a m, t.act = some (a, m) → False := fun a m q => by rw [q] at ha; cases ha
  rcases hs with hs | hs
  · refine impE (pe_lc (X := X) h.calm (by rw [h.hN]; exact h.nd) hi (by rw [h.hN, h.sc]; exact blkOk_by hb) (fun s H C' cl fp => ?_) (fun s H C' cl fp => ?_) (fun s H C' cl fp => ?_) hs) fun σ H Q z => tLc_of hw z
    · exact tgOf_ok (X := X.blk s H scope (compEnvC scope cl C' X.env) fp) h.calm h.hN h.nd (fun x hx => (blk_loc h hx).1) (fun x hx => (blk_loc h hx).2) hg
    · have hb' := blk_here h (scope := scope) s H C' cl fp an
      exact s_ifs (X' := X.blk s H scope (compEnvC scope cl C' X.env) fp) (hT _ _ WF hb' takesF) ifs
    · have hb' := blk_here h (scope := scope) s H C' cl fp an
      exact hE _ (X.blk s H scope (compEnvC scope cl C' X.env) fp) WF hb' takesF elt
  · rw [hs]
    exact ⟨fun _ _ _ _ _ _ ⟨_, _, _, _, _, z⟩ => z.elim⟩
theorem s_dc (h : Here t k sc X) (hEW : ∀ e, PE X e (tE (lr X none) W (E sc e))) (hE : ∀ sc X W, Here t k sc X → Takes X W → ∀ e, PE X e (tE (lr X none) W (E sc e))) (hT : ∀ sc X W, Here t k sc X → Takes X W → ∀ e, PT X e (tT (lr X none) W (T sc e)))
    {kx vx tg iter : Expr} {ifs : List Expr} {scope : Scope} {g : Tg} (hg : tgOf t.N scope tg = some g) (ha : t.act.isNone = true) (hb : blkC t.N sc scope (ownOf t.N scope) = true) (hw : g.within ((ownOf t.N scope).map (·.2)) = true) :
    PE X (.DictComp kx vx [⟨tg, iter, ifs, 0⟩] scope pos) (tE (lr X none) W (eCompD t.C.F (iterE t (E sc) sc tg iter) g ((ownOf t.N scope).map (·.2)) (ifsE (T (relS scope sc)) ifs) (E (relS scope sc) kx) (E (relS scope sc) vx))) := by
  obtain ⟨hi, hs⟩ := s_iter2 (tg := tg) (e := iter) h hEW
  have an : ∀ a m, t.act = some (a, m) → False := fun a m q => by rw [q] at ha; cases ha
  rcases hs with hs | hs
  · refine impE (pe_dc (X := X) h.calm (by rw [h.hN]; exact h.nd) hi (by rw [h.hN, h.sc]; exact blkOk_by hb) (fun s H C' cl fp => ?_) (fun s H C' cl fp => ?_) (fun s H C' cl fp => ?_) (fun s H C' cl fp => ?_) hs) fun σ H Q z => tDc_of hw z
    · exact tgOf_ok (X := X.blk s H scope (compEnvC scope cl C' X.env) fp) h.calm h.hN h.nd (fun x hx => (blk_loc h hx).1) (fun x hx => (blk_loc h hx).2) hg
    · have hb' := blk_here h (scope := scope) s H C' cl fp an
      exact s_ifs (X' := X.blk s H scope (compEnvC scope cl C' X.env) fp) (hT _ _ WF hb' takesF) ifs
    · have hb' := blk_here h (scope := scope) s H C' cl fp an
      exact hE _ (X.blk s H scope (compEnvC scope cl C' X.env) fp) WF hb' takesF kx
    · have hb' := blk_here h (scope := scope) s H C' cl fp an
      exact hE _ (X.blk s H scope (compEnvC scope cl C' X.env) fp) WF hb' takesF vx
  · rw [hs]
    exact ⟨fun _ _ _ _ _ _ ⟨_, _, _, _, _, z⟩ => z.elim⟩
theorem s_dcN (h : Here t k sc X) (hEW : ∀ e, PE X e (tE (lr X none) W (E sc e))) (hE : ∀ sc X W, Here t k sc X → Takes X W → ∀ e, PE X e (tE (lr X none) W (E sc e))) (hT : ∀ sc X W, Here t k sc X → Takes X W → ∀ e, PT X e (tT (lr X none) W (T sc e)))
    {kx vx tg iter : Expr} {ifs : List Expr} {scope : Scope} {g : Tg} (hg : tgOf t.N scope tg = some g) (ha : t.act.isNone = true) (hb : blkC t.N sc scope (ownOf t.N scope) = true) (hw : g.within ((ownOf t.N scope).map (·.2)) = true) :
    PE X (.DictComp kx vx [⟨tg, iter, ifs, 0⟩] scope pos) (tE (lr X none) W (eCompN t.C.F (iterE t (E sc) sc tg iter) g ((ownOf t.N scope).map (·.2)) (ifsE (T (relS scope sc)) ifs) (E (relS scope sc) kx) (E (relS scope sc) vx))) := by
  obtain ⟨hi, hs⟩ := s_iter2 (tg := tg) (e := iter) h hEW
  have an : ∀ a m, t.act = some (a, m) → False := fun a m q => by rw [q] at ha; cases ha
  rcases hs with hs | hs
  · refine impE (ZN.pe_dcG (X := X) h.calm (by rw [h.hN]; exact h.nd) hi (by rw [h.hN, h.sc]; exact blkOk_by hb) (fun s H C' cl fp => ?_) (fun s H C' cl fp => ?_) (fun s H C' cl fp => ?_) (fun s H C' cl fp => ?_) hs) fun σ H Q z => tDcN_of rfl h.u hw z
    · exact tgOf_ok (X := X.blk s H scope (compEnvC scope cl C' X.env) fp) h.calm h.hN h.nd (fun x hx => (blk_loc h hx).1) (fun x hx => (blk_loc h hx).2) hg
    · have hb' := blk_here h (scope := scope) s H C' cl fp an
      exact s_ifs (X' := X.blk s H scope (compEnvC scope cl C' X.env) fp) (hT _ _ WF hb' takesF) ifs
    · have hb' := blk_here h (scope := scope) s H C' cl fp an
      exact hE _ (X.blk s H scope (compEnvC scope cl C' X.env) fp) WF hb' takesF kx
    · have hb' := blk_here h (scope := scope) s H C' cl fp an
      exact hE _ (X.blk s H scope (compEnvC scope cl C' X.env) fp) WF hb' takesF vx
  · rw [hs]
    exact ⟨fun _ _ _ _ _ _ ⟨_, _, _, _, _, z⟩ => z.elim⟩
theorem s_neg {ma : EM PV} {a : Expr} (ha : PE X a (tE (lr X none) W ma)) : PE X (.UnaryOp .USub a pos) (tE (lr X none) W (eUn (fun x ih => match x with
    | .int i => .ok (.int (-i)) ih
    | _ => .fail) ma)) := by
  refine impE (pe_un un_neg ha) fun σ H Q h => tE_un ?_ h
  intro σ Q ρ H ih x u h r p
  cases x with
  | int i => cases r; exact ⟨i, rfl, p.here h (.int _)⟩
  | _ => exact p.elim
theorem stepE_ok (hE : ∀ sc X W, Here t k sc X → Takes X W → ∀ e, PE X e (tE (lr X none) W (E sc e))) (hT : ∀ sc X W, Here t k sc X → Takes X W → ∀ e, PT X e (tT (lr X none) W (T sc e))) (h : Here t k sc X) (tk : Takes X W) (e : Expr) :
    PE X e (tE (lr X none) W (stepE t E T sc e)) := by
  have hEW := hE sc X W h tk
  have hTW := hT sc X W h tk
  have u1 : X.A.units + 1 < cLine := Nat.lt_of_le_of_lt (Nat.add_le_add_left (by decide) _) h.u
  have u65 : X.A.units + 65 < cLine := Nat.lt_of_le_of_lt (Nat.add_le_add_left (by decide) _) h.u
  have stars : ∀ es : List Expr, PA X es (tA (lr X none) W (eStars (es.map (starOf (E sc))))) := fun es => sa_stars (E sc) es fun e _ => hEW _
  unfold stepE
  split
  · exact s_const
  · exact s_name h
  · exact se_bin _ (hEW _) (hEW _)
  · exact se_notV (hEW _)
  · exact s_neg (hEW _)
  · exact se_and (E sc) _ fun e _ => hEW e
  · exact se_or (E sc) _ fun e _ => hEW e
  · split
    · exact noE
    · rename_i q; exact se_cmpV h.F h.room _ u65 (hEW _) (hEW _) (by simpa using q)
  · split
    · exact noE
    · rename_i q; exact se_chain _ _ u65 (hEW _) (hEW _) (hEW _) (by simpa using q)
  · exact se_if (hTW _) (hEW _) (hEW _)
  · split
    · rename_i q; exact s_lstX h hEW q
    · exact s_callN h tk hEW
  · split
    · exact noE
    · rename_i q
      simp only [not_or, Bool.not_eq_true, Bool.not_eq_false, Nat.not_le] at q
      exact se_methD h.F tk u1 (h.room.mono (Nat.le_succ _)) (hEW _) (fun e _ => hEW e) q.1 q.2.1 q.2.2.1 q.2.2.2
  · split
    · exact noE
    · rename_i q
      simp only [not_or, Bool.not_eq_true, Bool.not_eq_false, Nat.not_le] at q
      split
      · rename_i ks hks
        exact se_methKw (f := E sc) h.F tk (h.room.mono (Nat.le_succ _)) (hEW _) (fun e _ => hEW e) (fun z _ => hEW z.value) q.1 q.2.1 q.2.2.1 q.2.2.2 (kwNames_map hks)
      · exact noE
  · split
    · exact noE
    · rename_i q; exact se_fld h.F.fld (hEW _) (by simpa using q)
  · rename_i a lo hi p2 p3
    have so : ∀ o : Option Expr, PO X o (tOpt (lr X none) W (eOptI (o.map (E sc)))) := fun o => by
      cases o with
      | none => exact so_none
      | some e => exact so_some (hEW e)
    exact se_sl (hEW _) (so lo) (so hi)
  · split
    · exact noE
    · rename_i a i p3 hne q
      refine se_ixV h.F h.room u1 (hEW _) (hEW _) ?_
      cases i with
      | Slice lo hi st p =>
        simp only [isSl, not_true_eq_false] at q
      | _ => rfl
  · exact se_tup (stars _)
  · exact se_lst (stars _)
  · rename_i ks vs p
    split
    · rename_i q
      have e1 : ks = [] := by simpa using q.1
      have e2 : vs = [] := by simpa using q.2
      subst e1 e2
      exact se_dnew
    · split
      · rename_i q0 q
        have hk : ∀ k ∈ ks, ∃ e, k = some e := fun k hk => by
          have z := List.all_eq_true.mp q.2.2 k hk
          cases k with
          | none => cases z
          | some e => exact ⟨e, rfl⟩
        refine se_disp (E sc) q.1 hk (fun _ e _ _ => hEW e) (fun e _ => hEW e) (fun z => q0 ?_) q.2.1
        subst z
        have : vs = [] := List.eq_nil_of_length_eq_zero q.1.symm
        subst this
        exact ⟨rfl, rfl⟩
      · exact noE
  · split
    · rename_i hg
      split
      · rename_i q
        exact s_lc h hEW hE hT hg q.1 q.2.1 q.2.2
      · exact noE
    · exact noE
  · split
    · rename_i hg
      split
      · rename_i q
        split
        · exact s_dcN h hEW hE hT hg q.1 q.2.1 q.2.2
        · exact s_dc h hEW hE hT hg q.1 q.2.1 q.2.2
      · exact noE
    · exact noE
  · exact noE
theorem plainT_ok {e : Expr} {env : Env} (h : plainT e = true) : ∀ whole, isTrue e env whole = (do let v ← whole; standAt e.pos; holding [v] (truthy v)) := by
  intro whole
  cases e with
  | Name => rfl
  | Call => rfl
  | Attribute => rfl
  | Subscript => rfl
  | _ => cases h
theorem stepT_ok (hE : ∀ sc X W, Here t k sc X → Takes X W → ∀ e, PE X e (tE (lr X none) W (E sc e))) (hT : ∀ sc X W, Here t k sc X → Takes X W → ∀ e, PT X e (tT (lr X none) W (T sc e))) (h : Here t k sc X) (tk : Takes X W) (e : Expr) :
    PT X e (tT (lr X none) W (stepT t E T sc e)) := by
  have hEW := hE sc X W h tk
  have hTW := hT sc X W h tk
  have u65 : X.A.units + 65 < cLine := Nat.lt_of_le_of_lt (Nat.add_le_add_left (by decide) _) h.u
  unfold stepT
  split
  · split
    · exact noT
    · rename_i q; exact st_cmpV h.F h.room _ u65 (hEW _) (hEW _) (by simpa using q)
  · split
    · exact noT
    · rename_i q; exact st_chain _ _ u65 (hEW _) (hEW _) (hEW _) (by simpa using q)
  · exact st_not (hTW _)
  · exact (st_and (T sc) _ fun e _ => hTW e).pt
  · exact (st_or (T sc) _ fun e _ => hTW e).pt
  · split
    · rename_i q
      exact st_tru (hEW _) (plainT_ok q)
    · exact noT
theorem evET_ok : ∀ n : Nat, (∀ sc X W, Here t k sc X → Takes X W → ∀ e, PE X e (tE (lr X none) W (evE t n sc e))) ∧ ∀ sc X W, Here t k sc X → Takes X W → ∀ e, PT X e (tT (lr X none) W (evT t n sc e))
  | 0 => ⟨fun _ _ _ _ _ _ => noE, fun _ _ _ _ _ _ => noT⟩
  | n + 1 => ⟨fun _ _ _ h tk e => stepE_ok (evET_ok n).1 (evET_ok n).2 h tk e, fun _ _ _ h tk e => stepT_ok (evET_ok n).1 (evET_ok n).2 h tk e⟩
end
end Z
end
noncomputable section
namespace Z
open PySem PySem.Spec PyProof.Rows L2
set_option autoImplicit false
def clsNms (P : Prg) : List PV → Option (List Str)
  | [] => some []
  | .cls y :: r => if (P.excs.lookup y).isSome = true then (clsNms P r).map (y :: ·) else none
  | _ :: _ => none
def isxQ (P : Prg) : BP := fun vs ih => match vs with
  | [.exc c _, .ty n] => if (P.excs.lookup c).isSome = true ∧ n = "ValueError" then .ok (.bl true) ih else .fail
  | [.exc c _, .cls y] => if (P.excs.lookup c).isSome = true ∧ (P.excs.lookup y).isSome = true then .ok (.bl (decide (c = y))) ih else .fail
  | [.exc c _, .tup cs] => if (P.excs.lookup c).isSome = true then (match clsNms P cs with
    | some ys => .ok (.bl (ys.any fun y => decide (c = y))) ih
    | none => .fail) else .fail
  | _ => .fail
def cl1 (P : Prg) (sc : Scope) : Expr → EM PV
  | .Name y _ => if isG sc y = true ∧ oddN y = false ∧ (P.excs.lookup y).isSome = true then eC (.cls y) else if isG sc y = true ∧ y = Str.ofString "ValueError" ∧ P.blts.contains y = true then eC (.ty "ValueError") else eFail
  | _ => eFail
def clE (P : Prg) (sc : Scope) : Expr → EM PV
  | .Tuple es _ _ => if es.any isStar = true then eFail else eTup (eArgs (es.map (cl1 P sc)))
  | e => cl1 P sc e
def rIsX (K : PySem.W.Frag) (D a : Addr) (d : Option Addr) : List V → Hp → VK → Prop := fun xs H Q => (d = none ∨ ∃ dd fs, d = some dd ∧ H dd = some (.xd fs)) ∧
  ((∃ b : Bool, xs = [.ref a, .ty "ValueError"] ∧ PySem.W.kitOne K (.ref D) (.type "ValueError") = some b ∧ Q (.bl b) H) ∨ (∃ (C : Addr) (b : Bool), xs = [.ref a, .ref C] ∧ PySem.W.kitOne K (.ref D) (.ref C) = some b ∧ Q (.bl b) H) ∨
  ∃ (tp : Addr) (cs : List V) (us : List Value) (b : Bool), xs = [.ref a, .ref tp] ∧ SqT K H tp cs ∧ Paired ClsV cs us ∧ PySem.W.kitAny K (.ref D) us = some b ∧ Q (.bl b) H)
structure XIs (K : PySem.W.Frag) (D : Addr) : Prop where
  hc : (PySem.W.clsIn K D).isSome = true
  hg : PySem.W.findIn K (.ref D) "__getattribute__" = some (some (.builtin "BaseException.__getattribute__"))
  hk : PySem.W.findIn K (.ref D) "__getattr__" = some none
  hs : PySem.W.subIn K (.ref D) (.type "BaseException") = some true
  ha : PySem.W.findIn K (.ref D) "__class__" = some (some (.builtin "object.__class__"))
  hn : PySem.W.specialIn K (.builtin "object.__class__") "__get__" = some (some (.builtin "getset_descriptor.__get__"))
  ht : PySem.W.takesIn K (.builtin "object.__class__") = some true
  hm : PySem.W.mroIn K D (.type "object") = some true
section
variable {X : Cx} {W : WX} {pos p : Pos} {e a b : Expr}
theorem call_isX {ad D : Addr} {d : Option Addr} {oe : Obj} (hpn : (ad, oe) ∈ X.pn) (C : XIs X.K D) (hz : Zc (.ref D) d oe) (hf : ∃ vs, oe.data = .fields vs) : CallR X (.builtin "isinstance") (rIsX X.K D ad d) := by
  intro pins s σ H xs us Q I r h
  obtain ⟨hd, h⟩ := h
  obtain ⟨hget, _⟩ := I.pin (ad, oe) (List.mem_append.mpr (.inl hpn))
  have J : ∃ od, PySem.W.InstAt s.heap ad oe D od := by
    obtain ⟨vs, hv⟩ := hf
    rcases hd with rfl | ⟨dd, fs, rfl, ea⟩
    · exact ⟨none, hget, hz.1, by unfold PySem.W.notCls; rw [hv] <;> rfl, by rw [hz.2]; trivial⟩
    · have hx : ObjOk X.prog X.w H s.heap dd (.xd fs) := I.hok dd _ ea
      obtain ⟨mA, hns, hr⟩ := hx
      obtain ⟨od, ho, hl⟩ := lookIn_ns hns
      exact ⟨some od, hget, hz.1, by unfold PySem.W.notCls; rw [hv] <;> rfl, by rw [hz.2]; exact ho⟩
  obtain ⟨od, J⟩ := J
  have Z := PySem.W.kitx_exc (x := ad) (ox := oe) (od := od) C.hc C.hg C.hk C.hs C.ha C.hn C.ht C.hm
  rcases h with ⟨b, rfl, e, q⟩ | ⟨E, b, rfl, e, q⟩ | ⟨tp, cs, ws, b, rfl, hT, k, e, q⟩
  · obtain ⟨u1, u2, rfl, r1, r2⟩ := vals2 r
    obtain rfl : u1 = Value.ref ad := r1
    obtain rfl : u2 = Value.type "ValueError" := r2
    exact PySem.W.kia_one Z I.kIn J e (fun z => nomatch z) fun tk => ⟨.bl b, H, I.tok tk, rfl, q⟩
  · obtain ⟨u1, u2, rfl, r1, r2⟩ := vals2 r
    obtain rfl : u1 = Value.ref ad := r1
    obtain rfl : u2 = Value.ref E := r2
    exact PySem.W.kia_one Z I.kIn J e (fun z => nomatch z) fun tk => ⟨.bl b, H, I.tok tk, rfl, q⟩
  · obtain ⟨u1, u2, rfl, r1, r2⟩ := vals2 r
    obtain rfl : u1 = Value.ref ad := r1
    obtain rfl : u2 = Value.ref tp := r2
    obtain ⟨its, rv, ⟨o, h1, h2, n, h3⟩, _⟩ := I.tuple hT
    have e3 := ClsV.all k rv
    subst e3
    obtain ⟨oc, od', dt, sl⟩ := o
    simp only at h2 h3
    subst h2 h3
    exact PySem.W.kia_tup Z I.kIn J h1 e (fun z => nomatch z) fun tk => ⟨.bl b, H, I.tok tk, rfl, q⟩
theorem clsNms_v {L : Rl} {P : Prg} {ρ : List Addr} {H : Hp} {c : Str} (hk : ∀ y, (P.excs.lookup y).isSome = true → PySem.W.kitOne L.K (.ref (He.ga L.K c)) (.ref (He.ga L.K y)) = some (decide (c = y))) : ∀ {cs : List PV} {vs : List V} {ys : List Str}, RVs L ρ H cs vs → clsNms P cs = some ys →
    ∃ us, Paired ClsV vs us ∧ PySem.W.kitAny L.K (.ref (He.ga L.K c)) us = some (ys.any fun y => decide (c = y)) := by
  intro cs
  induction cs with
  | nil => intro vs ys r o; cases r; simp only [clsNms] at o; cases o; exact ⟨[], .nil, rfl⟩
  | cons x cs ih =>
    intro vs ys r o
    cases r with
    | cons r t' =>
      cases x with
      | cls y =>
        simp only [clsNms] at o
        split at o
        · rename_i hy
          cases q : clsNms P cs with
          | none => rw [q] at o; cases o
          | some ys' =>
            rw [q] at o; cases o
            obtain ⟨us, k1, k2⟩ := ih t' q
            cases r
            refine ⟨.ref (He.ga L.K y) :: us, .cons (.own _) k1, ?_⟩
            show PySem.W.kitAny L.K _ (_ :: us) = some (decide (c = y) || ys'.any _)
            unfold PySem.W.kitAny
            rw [hk y hy]
            by_cases e : c = y
            · rw [decide_eq_true e]; rfl
            · rw [decide_eq_false e]; exact k2
        · cases o
      | _ => simp only [clsNms] at o; cases o
theorem pc_isX {P : Prg} {a : Addr} {c : Str} {d : Option Addr} (hv : PySem.W.kitOne X.K (.ref (He.ga X.K c)) (.type "ValueError") = some true) (hk : ∀ y, (P.excs.lookup y).isSome = true → PySem.W.kitOne X.K (.ref (He.ga X.K c)) (.ref (He.ga X.K y)) = some (decide (c = y))) : PCall ⟨X.K, X.w, some (a, c, d)⟩ W (isxQ P) (rIsX X.K (He.ga X.K c) a d) := by
  intro σ Q ρ H ih xs us h r p
  unfold isxQ at p
  split at p
  · rename_i c' fs n
    obtain ⟨u, v, rfl, q1, q2⟩ := rvs2 r
    split at p
    · rename_i hy
      obtain ⟨_, rfl⟩ := hy
      cases q2
      cases q1 with
      | exc0 q => cases q; exact ⟨.inl rfl, .inl ⟨_, rfl, hv, p.here h (.bl _)⟩⟩
      | exc q q2 r2 => cases q; exact ⟨.inr ⟨_, _, rfl, q2⟩, .inl ⟨_, rfl, hv, p.here h (.bl _)⟩⟩
    · exact p.elim
  · rename_i c' fs y
    obtain ⟨u, v, rfl, q1, q2⟩ := rvs2 r
    split at p
    · rename_i hy
      cases q2
      cases q1 with
      | exc0 q => cases q; exact ⟨.inl rfl, .inr (.inl ⟨_, _, rfl, hk y hy.2, p.here h (.bl _)⟩)⟩
      | exc q q2 r2 => cases q; exact ⟨.inr ⟨_, _, rfl, q2⟩, .inr (.inl ⟨_, _, rfl, hk y hy.2, p.here h (.bl _)⟩)⟩
    · exact p.elim
  · rename_i c' fs cs
    obtain ⟨u, v, rfl, q1, q2⟩ := rvs2 r
    obtain ⟨tp, vs, rfl, k1, k2⟩ := rv_tup q2
    split at p
    case isFalse => exact p.elim
    split at p
    · rename_i ys hy
      cases q1 with
      | exc0 q =>
        cases q
        obtain ⟨ws, w1, w2⟩ := clsNms_v (L := ⟨X.K, X.w, some (a, c, none)⟩) hk k2 hy
        exact ⟨.inl rfl, .inr (.inr ⟨tp, vs, ws, _, rfl, k1, w1, w2, p.here h (.bl _)⟩)⟩
      | exc q q3 r2 =>
        cases q
        obtain ⟨ws, w1, w2⟩ := clsNms_v (L := ⟨X.K, X.w, some (a, c, some _)⟩) hk k2 hy
        exact ⟨.inr ⟨_, _, rfl, q3⟩, .inr (.inr ⟨tp, vs, ws, _, rfl, k1, w1, w2, p.here h (.bl _)⟩)⟩
    · exact p.elim
  · exact p.elim
theorem pc_isX0 {P : Prg} {a : Addr} {c : Str} {d : Option Addr} (hk : (P.excs.lookup c).isSome = false) : PCall ⟨X.K, X.w, some (a, c, d)⟩ W (isxQ P) (fun _ _ _ => False) := by
  intro σ Q ρ H ih xs us h r p
  have key : ∀ {c' : Str} {fs : List (Str × PV)} {u : V}, RV ⟨X.K, X.w, some (a, c, d)⟩ ρ H (.exc c' fs) u → (P.excs.lookup c').isSome = false := fun {c' fs u} q => by
    cases q with
    | exc0 q => cases q; exact hk
    | exc q _ _ => cases q; exact hk
  unfold isxQ at p
  split at p
  · obtain ⟨u, v, rfl, q1, q2⟩ := rvs2 r
    split at p
    · rename_i hy
      rw [key q1] at hy
      exact Bool.false_ne_true hy.1
    · exact p.elim
  · obtain ⟨u, v, rfl, q1, q2⟩ := rvs2 r
    split at p
    · rename_i hy
      rw [key q1] at hy
      exact Bool.false_ne_true hy.1
    · exact p.elim
  · obtain ⟨u, v, rfl, q1, q2⟩ := rvs2 r
    split at p
    · rename_i hy
      rw [key q1] at hy
      exact Bool.false_ne_true hy
    · exact p.elim
  · exact p.elim
theorem call_noX {X' : Cx} {v : Value} : CallR X' v (fun _ _ _ => False) := fun _ _ _ _ _ _ _ _ _ h => h.elim
theorem sa_cons {X' : Cx} {ex : Option (Addr × Str × Option Addr)} {e : Expr} {es : List Expr} {m : EM PV} {ms : List (EM PV)} (he : PE X' e (tE (lr X' ex) W m)) (r : PA X' es (tA (lr X' ex) W (eArgs ms))) (hs : isStar e = false) : PA X' (e :: es) (tA (lr X' ex) W (eArgs (m :: ms))) := by
  refine impA (pa_cons he r (star_no hs)) fun σ H Q ⟨ρ, env, ih, e1, e2, p⟩ => ?_
  refine (bindAt (rel := RV (lr X' ex)) e1 e2 p).mono fun u H1 ⟨ρ1, ih1, x, ex1, h1, r1, p1⟩ => (bindAt (rel := RVs (lr X' ex)) (e1.mono ex1) h1 p1).mono fun us H2 ⟨ρ2, ih2, xs, ex2, h2, r2, p2⟩ => ?_
  exact Post.here p2 h2 (.cons (r1.mono ex2) r2)
theorem se_clsN {X' : Cx} {L : Rl} {P : Prg} {prog : Program} {sc : Scope} (hblt : ∀ x, P.blts.contains x = true → X'.mg x = none) (hL : L.K = X'.K) (F : ExcFacts P prog X'.K X'.mg) (hsc : X'.env.scope = sc) (e : Expr) : PE X' e (tE L W (cl1 P sc e)) := by
  unfold cl1
  split
  · rename_i y pp
    split
    · rename_i hy
      refine ⟨fun pins s σ H Q I ⟨ρ, env, ih, e1, e2, q⟩ => ?_⟩
      have hg : Gl X' y := by show X'.env.scope.names.lookup y = _; rw [hsc]; exact isG_ok hy.1
      refine ld_glob I hg (F.mg_ (.inl hy.2.2)) ⟨.ref (He.ga X'.K y), H, I, rfl, ?_⟩ (odd_ok hy.2.1).1
      have q : Post L W σ (RV L) Q ρ H (.ok (.cls y) ih) := q
      rw [← hL]
      exact q.here e2 (.cls y)
    · split
      · rename_i hy
        obtain ⟨h1, rfl, h3⟩ := hy
        refine ⟨fun pins s σ H Q I ⟨ρ, env, ih, e1, e2, q⟩ => ?_⟩
        have hg : Gl X' (Str.ofString "ValueError") := by show X'.env.scope.names.lookup _ = _; rw [hsc]; exact isG_ok h1
        refine ld_blt (u := .type "ValueError") I hg (hblt _ h3) (by rfl) ⟨.ty "ValueError", H, I, rfl, ?_⟩ (by decide) (by decide)
        have q : Post L W σ (RV L) Q ρ H (.ok (.ty "ValueError") ih) := q
        exact q.here e2 (.ty "ValueError")
      · exact noE
  · exact noE
theorem se_clE {X' : Cx} {ex : Option (Addr × Str × Option Addr)} {P : Prg} {prog : Program} {sc : Scope} (hblt : ∀ x, P.blts.contains x = true → X'.mg x = none) (F : ExcFacts P prog X'.K X'.mg) (hsc : X'.env.scope = sc) (e : Expr) : PE X' e (tE (lr X' ex) W (clE P sc e)) := by
  unfold clE
  split
  · split
    · exact noE
    · rename_i q
      exact se_tup (sa_args (cl1 P sc) _ (fun e _ => se_clsN (L := lr X' ex) hblt rfl F hsc e) (by simpa using q))
  · exact se_clsN (L := lr X' ex) hblt rfl F hsc _
end
end Z
end
noncomputable section
namespace Z
open PySem PySem.Spec PyProof.Rows L2
set_option autoImplicit false
def isCompX : Expr → Bool
  | .ListComp .. => true
  | .SetComp .. => true
  | .DictComp .. => true
  | _ => false
theorem sw_no {e : Expr} (h : isCompX e = false) (tg : Option Expr) (l : Nat) (env : Env) : swapsWith e tg l env = pure false := by
  cases e with
  | ListComp => cases h
  | SetComp => cases h
  | DictComp => cases h
  | _ => rfl
def kdE (P : Prg) (N : List Str) (sc : Scope) : Nat → Expr → EM PV
  | 0, _ => eFail
  | n + 1, e => match e with
    | .Name x _ => if oddN x = true then eFail else if isV sc x = true then (match ixOf N x with
      | some i => eVar i
      | none => eFail) else eFail
    | .List es _ => if es.any isStar = true then eFail else eLst (eArgs (es.map (kdE P N sc n)))
    | .BinOp a .Add b _ => eOp addP (kdE P N sc n a) (kdE P N sc n b)
    | .Call (.Name f _) [a, cl] [] _ => if f = Str.ofString "isinstance" ∧ isG sc f = true ∧ P.blts.contains f = true ∧ isxOn P = true ∧ isStar a = false ∧ isStar cl = false then eB (isxQ P) (eArgs [kdE P N sc n a, clE P sc cl]) else eFail
    | _ => eFail
def kdSt (P : Prg) (N : List Str) (sc : Scope) (y : Str) (m : EM PV) : SM := if isLoc sc y = true then (match ixOf N y with
  | some i => sAsg m (gNm i)
  | none => sFail) else sFail
def kdB (P : Prg) (N : List Str) (sc : Scope) : List Stmt → SM
  | [] => sNext
  | .Assign [.Name y _] (.List es p) _ :: r => sSeq (kdSt P N sc y (kdE P N sc 12 (.List es p))) (kdB P N sc r)
  | .Assign [.Name y _] (.BinOp a op b p) _ :: r => sSeq (kdSt P N sc y (kdE P N sc 12 (.BinOp a op b p))) (kdB P N sc r)
  | .Return (some e) _ :: r => sSeq (sRet (kdE P N sc 12 e)) (kdB P N sc r)
  | _ => sFail
def kdRun (P : Prg) (fd : FDef) (x : PV) (ih : IH) : R PV := (kdB P fd.N fd.sc fd.body (startE fd.N [x]) ih).res
def kdX (P : Prg) : BP := fun vs ih => match vs with
  | [x] => match P.fns.lookup kindsN with
    | some fd => if fd.ps.length = 1 then kdRun P fd x ih else .fail
    | none => .fail
  | _ => .fail
section
variable {Y : Cx} {P : Prg} {a : Addr} {oe : Obj} {c : Str} {d : Option Addr} {sc : Scope}
theorem isa_pin (hpn : (a, oe) ∈ Y.pn) (hx : ExcFacts P Y.prog Y.K Y.mg) (hblt : ∀ x, P.blts.contains x = true → Y.mg x = none) (hsc : Y.env.scope = sc) (hz : Zc (.ref (He.ga Y.K c)) d oe) (hf : ∃ vs, oe.data = .fields vs) {b cl : Expr} {pos np : Pos} {m : EM PV} (hg : isG sc (Str.ofString "isinstance") = true) (hb : P.blts.contains (Str.ofString "isinstance") = true) (ho : isxOn P = true) (hs1 : isStar b = false) (hs2 : isStar cl = false)
    (hm : PE Y b (tE ⟨Y.K, Y.w, some (a, c, d)⟩ WF m)) : PE Y (.Call (.Name (Str.ofString "isinstance") np) [b, cl] [] pos) (tE ⟨Y.K, Y.w, some (a, c, d)⟩ WF (eB (isxQ P) (eArgs [m, clE P sc cl]))) := by
  have hcl : PE Y cl (tE (lr Y (some (a, c, d))) WF (clE P sc cl)) := se_clE (X' := Y) (ex := some (a, c, d)) hblt hx hsc cl
  have hnil : PA Y [] (tA (lr Y (some (a, c, d))) WF (eArgs [])) := sa_args (X := Y) (ex := some (a, c, d)) (W := WF) (fun _ => eFail) [] (fun e he => absurd he List.not_mem_nil) rfl
  have hargs : PA Y [b, cl] (tA ⟨Y.K, Y.w, some (a, c, d)⟩ WF (eArgs [m, clE P sc cl])) := sa_cons (X' := Y) (ex := some (a, c, d)) hm (sa_cons (X' := Y) (ex := some (a, c, d)) hcl hnil hs2) hs1
  have hgl : Gl Y (Str.ofString "isinstance") := by show Y.env.scope.names.lookup _ = _; rw [hsc]; exact isG_ok hg
  by_cases hc : (P.excs.lookup c).isSome = true
  · obtain ⟨fs, qe⟩ := Option.isSome_iff_exists.mp hc
    obtain ⟨fI, TX⟩ := hx.txt c fs qe
    obtain ⟨i1, i2, i3, i4, i6, i5⟩ := hx.isx ho c hc
    have hXI : XIs Y.K (He.ga Y.K c) := ⟨by obtain ⟨cd, hcd, _⟩ := PySem.W.any_some TX.hdC; rw [hcd]; rfl, TX.ga, TX.gg, TX.exC, i1, i2, i3, i4⟩
    refine impE (pe_callB (X := Y) (call_isX (X := Y) hpn hXI hz hf) hgl (hblt _ hb) rfl hargs (by decide) (by decide) (star_no hs1) (back_plain (es := [cl]) (by simpa using hs2))) fun σ H Q ⟨ρ, env, ih, e1, e2, q⟩ => ?_
    exact (bindAt (rel := RVs ⟨Y.K, Y.w, some (a, c, d)⟩) e1 e2 q).mono fun us H1 ⟨ρ1, ih1, xs, ex1, h1, r1, p1⟩ => pc_isX i6 i5 σ Q ρ1 H1 ih1 xs us h1 r1 p1
  · refine impE (pe_callB (X := Y) call_noX hgl (hblt _ hb) rfl hargs (by decide) (by decide) (star_no hs1) (back_plain (es := [cl]) (by simpa using hs2))) fun σ H Q ⟨ρ, env, ih, e1, e2, q⟩ => ?_
    exact (bindAt (rel := RVs ⟨Y.K, Y.w, some (a, c, d)⟩) e1 e2 q).mono fun us H1 ⟨ρ1, ih1, xs, ex1, h1, r1, p1⟩ => pc_isX0 (X := Y) (Bool.not_eq_true _ ▸ hc) σ Q ρ1 H1 ih1 xs us h1 r1 p1
end
section
variable {Y : Cx} {P : Prg} {a : Addr} {oe : Obj} {c : Str} {d : Option Addr} {sc : Scope} {N : List Str}
structure HereK (Y : Cx) (P : Prg) (N : List Str) (sc : Scope) (a : Addr) (oe : Obj) (c : Str) (d : Option Addr) : Prop where
  hN : Y.N = N
  nd : N.Nodup
  sc : Y.env.scope = sc
  pn : (a, oe) ∈ Y.pn
  exf : ExcFacts P Y.prog Y.K Y.mg
  blt : ∀ x, P.blts.contains x = true → Y.mg x = none
  hz : Zc (.ref (He.ga Y.K c)) d oe
  hf : ∃ vs, oe.data = .fields vs
theorem kdE_ok (h : HereK Y P N sc a oe c d) : ∀ (n : Nat) (e : Expr), PE Y e (tE ⟨Y.K, Y.w, some (a, c, d)⟩ WF (kdE P N sc n e))
  | 0, _ => noE
  | n + 1, e => by
    unfold kdE
    split
    · split
      · exact noE
      · rename_i o
        split
        · rename_i v
          split
          · rename_i i q
            obtain ⟨o1, o2, o3⟩ := odd_ok (by simpa using o)
            exact se_var (by rw [h.hN]; exact ixOf_get q) (by rw [h.sc]; exact isV_ok v) o1 o2
          · exact noE
        · exact noE
    · split
      · exact noE
      · rename_i q
        exact se_lst (X := Y) (ex := some (a, c, d)) (sa_args (X := Y) (ex := some (a, c, d)) (kdE P N sc n) _ (fun e _ => kdE_ok h n e) (by simpa using q))
    · exact se_bin (X := Y) (ex := some (a, c, d)) .Add (kdE_ok h n _) (kdE_ok h n _)
    · split
      · rename_i q
        obtain ⟨rfl, hg, hb, ho, hs1, hs2⟩ := q
        exact isa_pin h.pn h.exf h.blt h.sc h.hz h.hf hg hb ho hs1 hs2 (kdE_ok h n _)
      · exact noE
    · exact noE
theorem kdSt_gen {L : Rl} (hN : Y.N = N) (nd : N.Nodup) (hsc : Y.env.scope = sc) {y : Str} {py pos : Pos} {e : Expr} {m : EM PV} (hs : swapsWith e (some (.Name y py)) pos.line Y.env = pure false) (hm : PE Y e (tE L WF m)) : PS Y (.Assign [.Name y py] e pos) (tS L WF (kdSt P N sc y m)) := by
  unfold kdSt
  split
  · rename_i hy
    have hl : Y.env.scope.names.lookup y = some .local := by rw [hsc]; exact isLoc_ok hy
    split
    · rename_i i qi
      exact s_set (by rw [hN]; exact nd) (by rw [hN]; exact ixOf_get qi) (.inl hl) hm hs (.inr hl)
    · exact noS
  · exact noS
theorem kdSt_ok (h : HereK Y P N sc a oe c d) {y : Str} {py pos : Pos} {e : Expr} {m : EM PV} (hs : swapsWith e (some (.Name y py)) pos.line Y.env = pure false) (hm : PE Y e (tE ⟨Y.K, Y.w, some (a, c, d)⟩ WF m)) : PS Y (.Assign [.Name y py] e pos) (tS ⟨Y.K, Y.w, some (a, c, d)⟩ WF (kdSt P N sc y m)) := kdSt_gen h.hN h.nd h.sc hs hm
theorem kdB_ok (h : HereK Y P N sc a oe c d) : ∀ b : List Stmt, PSs Y b (tS ⟨Y.K, Y.w, some (a, c, d)⟩ WF (kdB P N sc b))
  | [] => ss_nil
  | st :: r => by
    unfold kdB
    split
    · rename_i q; cases q
    · rename_i q
      cases q
      exact ss_cons (kdSt_ok h (sw_no rfl _ _ _) (kdE_ok h 12 _)) (kdB_ok h r)
    · rename_i q
      cases q
      exact ss_cons (kdSt_ok h (sw_no rfl _ _ _) (kdE_ok h 12 _)) (kdB_ok h r)
    · rename_i q
      cases q
      exact ss_cons (s_ret (kdE_ok h 12 _)) (kdB_ok h r)
    · exact noSs
end
def noCX : CXT := fun _ _ _ _ _ _ => False
def noXK : XK := fun _ _ _ => False
theorem run_X {X : Cx} {pins : List (Addr × Obj)} {σ : L2.St} {H : Hp} {s : Shared} {Q : VK} {f : Addr} {name qual : Str} {params : Arguments} {body : List Stmt} {scope : Scope} {dV kV doc pm cdv ct oc : Value} {an od : Option Addr} {osl : Array (Option Value)} {N ps : List Str} {k : Nat} {us : List Value} {vs : List V} {p : Addr × Obj}
    (lk : X.K.lookup f = some ⟨oc, od, .func (PySem.W.fnOf name qual params body scope dV kV doc pm an cdv ct), osl⟩) (cd_ok : PySem.W.codeIn X.K cdv qual = true) (FS : FnScope N ps scope) (bnd : Binds X.K (PySem.W.fnOf name qual params body scope dV kV doc pm an cdv ct) ps [])
    (room : L2H.RoomH (k + 1) X.A) (hp : p ∈ X.pn) (I : Inv X pins σ H s) (r : Vals vs us) (hl : vs.length = ps.length)
    (bodyOk : ∃ t, PSs (L2H.cxH noCX X.prog X.w X.K X.mg X.base N qual scope f cdv X.A X.stack s H noXK p) body t ∧ t { nx := fun _ H' => Q .non H', rt := Q } (L2.start N vs) H) :
    wpAny (model X.prog X.w) X.A (call (.ref f) us) (EP X pins σ Q) X.xe s := by
  have lu : us.length = ps.length := by rw [← r.length]; exact hl
  have b0 := bnd s us I.kIn (by rw [List.append_nil]; exact lu)
  rw [List.append_nil] at b0
  have P1 := I.pin p (List.mem_append_left _ hp)
  have pin_ok : L2H.PinOk X.stack H s p := ⟨P1.1, P1.2.1, fun hm => (List.mem_cons.mp (I.stkSub p.1 hm)).elim P1.2.2.1 P1.2.2.2.1, P1.2.2.2.2⟩
  have kinds : ∀ y ∈ ps.zip us, scope.names.lookup y.1 = some .local ∨ (scope.names.lookup y.1 = some .cell ∧ ((cellsFrom (s.heap.objs.size + 1) scope.names []).lookup y.1).isSome = true) := fun ⟨n, v⟩ hy => by
    rcases FS.par n (List.of_mem_zip hy).1 with q | q
    · exact .inl q
    · exact .inr ⟨q, PySem.W.cellsFrom_some _ _ _ (.inl q)⟩
  have rc : codeAny (model X.prog X.w) X.A (.call (.ref f) ⟨us, []⟩) (CR noCX X.stack X.prog X.w H s Q noXK) s := by
    refine codeAny_call_function room.depth (I.kIn _ _ lk) rfl FS.co FS.gen rfl (PySem.W.codeRec_of I.kIn cd_ok) (b0 _ _ _ _ ?_)
    refine wpAny_newFunctionEnv_cells FS.kind kinds fun env he s1 x => ?_
    subst he
    refine ⟨I.nolimit.keeps x.toInCall.keep, codeAny_func ?_⟩
    obtain ⟨t, ht, hq⟩ := bodyOk
    have J := L2H.inv_startH (CX := noCX) (E := noXK) FS pin_ok I.env0 hl r x
    refine wpAny_mono (ht.run [] s1 (L2.start N vs) H _ J hq) (fun fl s' hs => ?_) fun e s' hs => hs
    cases fl with
    | ret u => obtain ⟨v, σ', H', J', rv, q⟩ := hs; exact ⟨v, H', J'.os, J'.bare, J'.base, J'.hok, rv, q⟩
    | next => obtain ⟨σ', H', J', q⟩ := hs; exact ⟨.non, H', J'.os, J'.bare, J'.base, J'.hok, rfl, q⟩
    | brk => obtain ⟨_, _, _, q⟩ := hs; exact q.elim
    | cont => obtain ⟨_, _, _, q⟩ := hs; exact q.elim
  refine wpAny_call (codeAny_mono rc fun r s' hq => ?_)
  cases r with
  | error e => exact (show False from hq).elim
  | ok fl =>
    cases fl with
    | ret u => exact I.after hq
    | next => exact (show False from hq).elim
    | brk => exact (show False from hq).elim
    | cont => exact (show False from hq).elim
theorem re_start {L : Rl} {ρ : List Addr} {H : Hp} {xs : List PV} {vs : List V} {N : List Str} (r : RVs L ρ H xs vs) : RE L ρ H (startE N xs) (L2.start N vs) := by
  have hl := r.length
  refine ⟨by simp [startE, L2.start, hl], fun i v q => ?_⟩
  unfold startE at q
  unfold L2.start
  by_cases hi : i < xs.length
  · rw [List.getElem?_append_left (by simpa using hi), List.getElem?_map] at q
    cases e : xs[i]? with
    | none => rw [e] at q; cases q
    | some x =>
      rw [e] at q
      cases q
      obtain ⟨u, h1, h2⟩ := r.get e
      refine ⟨u, ?_, h2⟩
      rw [List.getElem?_append_left (by simpa [← hl] using hi), List.getElem?_map, h1]; rfl
  · rw [List.getElem?_append_right (by simpa using Nat.le_of_not_lt hi), List.getElem?_replicate] at q
    split at q <;> cases q
theorem post_resF {L : Rl} {Q : VK} {σ : L2.St} {ρ : List Addr} {H : Hp} {r : RS} (p : Post L WF σ (RV L) Q ρ H r.res) : PostS L WF { nx := fun _ H' => Q .non H', rt := Q } ρ H r := by
  cases r with
  | nx env h => exact fun ρ' H' σ' ex h' _ => p ρ' H' .non ex h' .non
  | ret v h => exact p
  | exc c fs env h => exact fun ρ' H' σ' d ex h' _ xd => p ρ' H' d ex h' xd
  | brk env h => exact p.elim
  | cnt env h => exact p.elim
  | fail => exact p.elim
section
variable {X : Cx} {P : Prg} {a : Addr} {oe : Obj} {c : Str} {d : Option Addr} {sc : Scope} {k : Nat}
theorem se_callX (on : kindsOn P = true) (hpn : (a, oe) ∈ X.pn) (hx : ExcFacts P X.prog X.K X.mg) (hblt : ∀ x, P.blts.contains x = true → X.mg x = none) (htx : ∀ x fd, P.fns.lookup x = some fd → TxtF X.K X.w x fd) (hgl : ∀ x fd, P.fns.lookup x = some fd → X.mg x = some (.ref (He.ga X.K x)) ∧ PySem.W.keepIn X.K (.ref (He.ga X.K x)) = true) (room : L2H.RoomH (k + 1) X.A)
    (hz : Zc (.ref (He.ga X.K c)) d oe) (hf : ∃ vs, oe.data = .fields vs) {b : Expr} {pos np : Pos} {m : EM PV} (hg : Gl X kindsN) (hs1 : isStar b = false)
    (hm : PE X b (tE ⟨X.K, X.w, some (a, c, d)⟩ WF m)) : PE X (.Call (.Name kindsN np) [b] [] pos) (tE ⟨X.K, X.w, some (a, c, d)⟩ WF (eB (kdX P) (eArgs [m]))) := by
  obtain ⟨fd, qf⟩ := Option.isSome_iff_exists.mp on
  · obtain ⟨hm1, hk⟩ := hgl _ fd qf
    obtain ⟨oc, od, name, params, dV, kV, doc, pm, an, cdv, ct, osl, lk, hcd, FS, hb⟩ := htx _ fd qf
    have hnil : PA X [] (tA (lr X (some (a, c, d))) WF (eArgs [])) := sa_args (X := X) (ex := some (a, c, d)) (W := WF) (fun _ => eFail) [] (fun e he => absurd he List.not_mem_nil) rfl
    have hargs : PA X [b] (tA ⟨X.K, X.w, some (a, c, d)⟩ WF (eArgs [m])) := sa_cons (X' := X) (ex := some (a, c, d)) hm hnil hs1
    refine ⟨fun pins s σ H Q I ⟨ρ, env, ih, e1, e2, q⟩ => ?_⟩
    refine wpAny_Call_Name_kw (ld_glob I hg hm1 ?_ (by decide))
    refine PySem.W.callWith_K (h₀ := X.base) I.ok.mod.kin hk (thn (hargs.run pos pins s σ H _ I (bindAt (rel := RVs ⟨X.K, X.w, some (a, c, d)⟩) e1 e2 q)) fun us s1 ⟨vs, H1, I1, r, ρ1, ih1, xs, ex1, h1, r1, p1⟩ => ⟨I1.kIn, ?_⟩) (star_no hs1) rfl
    unfold kdX at p1
    split at p1
    · rename_i x
      rw [qf] at p1
      dsimp only at p1
      split at p1
      · rename_i hps
        obtain ⟨ds, dvs, j1, j2, j3⟩ := hb.1 fd.dfl.length (Nat.le_refl _)
        have hd0 : ds = [] := by
          have z := j2 [] (fun _ => none)
          rw [List.drop_length] at z
          cases z
          cases j1; rfl
        subst hd0
        have hl : vs.length = fd.ps.length := by rw [← r1.length, hps]; rfl
        refine run_X (k := k) lk hcd FS j3 room hpn I1 r hl ⟨_, kdB_ok (Y := L2H.cxH noCX X.prog X.w X.K X.mg X.base fd.N fd.qual fd.sc (He.ga X.K kindsN) cdv X.A X.stack s1 H1 noXK (a, oe)) (P := P) (N := fd.N) (sc := fd.sc) (a := a) (oe := oe) (c := c) (d := d) ⟨rfl, FS.nd, rfl, List.mem_singleton.mpr rfl, hx, hblt, hz, hf⟩ fd.body, ρ1, startE fd.N [x], ih1, re_start r1, h1, ?_⟩
        exact post_resF p1
      · exact p1.elim
    · exact p1.elim
end
end Z
end
noncomputable section
namespace Z
open PySem PySem.Spec PyProof.Rows L2
set_option autoImplicit false
def gm1 (t : Ct) (E : Expr → EM PV) (sc : Scope) : Expr → GM
  | .Name x _ => if isL sc x = true ∧ oddN x = false then (match ixOf t.N x with
    | some i => gNm i
    | none => gFail) else gFail
  | .Attribute o f _ => gFldM t.C.P.isFld (E o) f
  | .Subscript o i _ => if isSl i = true then gFail else gIxM (E o) (E i)
  | _ => gFail
def gmE (t : Ct) (E : Expr → EM PV) (sc : Scope) : Expr → GM
  | .Tuple es _ _ => if es.any isStar = true then gFail else gTupM (es.map (gm1 t E sc))
  | e => gm1 t E sc e
def swLC (sc : Scope) (y : Str) (py p : Pos) (scope : Scope) : Bool := isLoc sc y && (py.line == p.line) && !(scope.names.any fun q => q.1 == y && (q.2 == .local || q.2 == .cell))
def swNames (sc : Scope) (ts : List Expr) : List Str := ts.filterMap fun
  | .Name id pos => if (sc.names.lookup id == some .local && pos.line == (ts.head?.map (·.pos.line)).getD 0) = true then some id else none
  | _ => none
def swR (sc : Scope) (ts vs : List Expr) : Option (Option (List Str)) :=
  if (!(ts.length == 2 || ts.length == 3) || vs.length != ts.length) = true then some none
  else if (vs.any fun | .Starred .. => true | _ => false) = true then some none
  else if ((swNames sc ts).length != ts.length || (swNames sc ts).eraseDups.length != (swNames sc ts).length) = true then some none
  else if vs.all (foldedForSure 8) = true then some none
  else if vs.all (constantsAlone 8) = true then none
  else some (some (swNames sc ts))
theorem swR_ok {env : Env} {ts vs : List Expr} {k k2 : Nat} {p p2 : Pos} {r : Option (List Str)} (hk : env.scope.kind = .function) (h : swR env.scope ts vs = some r) : swappedStores [.Tuple ts k p] (.Tuple vs k2 p2) env = pure r := by
  have hb : env.blockKind = .function := by unfold Env.blockKind; rw [hk]; rfl
  have key : swappedStores [.Tuple ts k p] (.Tuple vs k2 p2) env = (if (!(ts.length == 2 || ts.length == 3) || vs.length != ts.length || env.blockKind != .function) = true then pure none
      else if (vs.any fun | .Starred .. => true | _ => false) = true then pure none
      else if ((swNames env.scope ts).length != ts.length || (swNames env.scope ts).eraseDups.length != (swNames env.scope ts).length) = true then pure none
      else if vs.all (foldedForSure 8) = true then pure none
      else if vs.all (constantsAlone 8) = true then (do
        unsupported "assign.tuple-of-constant-expressions:order-of-the-stores"
        pure (some (swNames env.scope ts)))
      else pure (some (swNames env.scope ts))) := by rfl
  rw [key]
  unfold swR at h
  by_cases c1 : (!(ts.length == 2 || ts.length == 3) || vs.length != ts.length) = true
  · rw [if_pos c1] at h
    cases h
    have : (!(ts.length == 2 || ts.length == 3) || vs.length != ts.length || env.blockKind != .function) = true := by rw [c1]; rfl
    rw [if_pos this]
  rw [if_neg c1] at h
  have c1' : ¬ (!(ts.length == 2 || ts.length == 3) || vs.length != ts.length || env.blockKind != .function) = true := by
    rw [hb]
    have : (!(ts.length == 2 || ts.length == 3) || vs.length != ts.length) = false := by simpa using c1
    rw [this]; decide
  rw [if_neg c1']
  split at h
  · rename_i c2
    cases h
    rw [if_pos c2]
  rename_i c2
  rw [if_neg c2]
  split at h
  · rename_i c3
    cases h
    rw [if_pos c3]
  rename_i c3
  rw [if_neg c3]
  split at h
  · rename_i c4
    cases h
    rw [if_pos c4]
  rename_i c4
  rw [if_neg c4]
  split at h
  · cases h
  rename_i c5
  rw [if_neg c5]
  cases h
  rfl
def xfldQ (P : Prg) (f : Str) (x : PV) (ih : IH) : R PV := match x with
  | .exc c fs => if ((P.excs.lookup c).getD []).contains f = true then (match fs.lookup f with
    | some v => .ok v ih
    | none => .fail) else .fail
  | _ => .fail
def susE (t : Ct) (nm : Bool) (sc : Scope) : Nat → Expr → EM PV
  | 0, _ => eFail
  | n + 1, e => match e with
    | .Constant c _ _ => constE c
    | .Name x _ => if oddN x = true then eFail else if isV sc x = true then (match ixOf t.N x with
      | some i => eVar i
      | none => eFail) else eFail
    | .Tuple es _ _ => if es.any isStar = true then eFail else eTup (eArgs (es.map (susE t nm sc n)))
    | .Attribute a f _ => if nm = true ∧ isCall0 a = false then eUn (xfldQ t.C.P f) (susE t nm sc n a) else eFail
    | .Compare a [op] [b] _ => if behindInMarks op b = true then eFail else eVal (eCmp (cmpP op) (susE t nm sc n a) (susE t nm sc n b))
    | .List es _ => if kindsOn t.C.P = true ∧ es.any isStar = false then eLst (eArgs (es.map (susE t nm sc n))) else eFail
    | .BinOp a .Add b _ => if kindsOn t.C.P = true then eOp addP (susE t nm sc n a) (susE t nm sc n b) else eFail
    | .Call (.Name f _) [a] [] _ => if nm = true ∧ kindsOn t.C.P = true ∧ f = kindsN ∧ isG sc f = true ∧ isStar a = false then eB (kdX t.C.P) (eArgs [susE t nm sc n a]) else eFail
    | .Call (.Name f _) [a, cl] [] _ => if nm = true ∧ f = Str.ofString "isinstance" ∧ isG sc f = true ∧ t.C.P.blts.contains f = true ∧ isxOn t.C.P = true ∧ isStar a = false ∧ isStar cl = false then eB (isxQ t.C.P) (eArgs [susE t nm sc n a, clE t.C.P sc cl]) else eFail
    | .IfExp c a b _ => if plainT c = true then eIf (eTru (susE t nm sc n c)) (susE t nm sc n a) (susE t nm sc n b) else eFail
    | _ => eFail
def susS (t : Ct) (nm : Bool) (sc : Scope) : Nat → List Stmt → SM
  | 0, _ => sFail
  | n + 1, l => match l with
    | [.Pass _] => sSeq sNext sNext
    | [.Return none _] => sSeq (sRet (eC .non)) sNext
    | [.Return (some e) _] => sSeq (sRet (susE t nm sc 12 e)) sNext
    | [.Assign [.Name y _] (.List es p) _] => if kindsOn t.C.P = true then sSeq (kdSt t.C.P t.N sc y (susE t nm sc 12 (.List es p))) sNext else sFail
    | .If c a [] _ :: b :: r => if plainT c = true then sSeq (sIf (eTru (susE t nm sc 12 c)) (susS t nm sc n a) sNext) (susS t nm sc n (b :: r)) else sFail
    | _ => sFail
def handE (t : Ct) (sc : Scope) : List ExceptHandler → Option (List (Str × Option Nat × SM))
  | [] => some []
  | .ExceptHandler (some (.Name x _)) n (b :: body) _ :: r =>
    if isG sc x = true ∧ oddN x = false ∧ ((t.C.P.excs.lookup x).isSome = true ∨ x = Str.ofString "HeapError") then
      (match n with
      | none => (handE t sc r).map ((x, none, susS t false sc 8 (b :: body)) :: ·)
      | some nm => if isLoc sc nm = true then (match ixOf t.N nm with
        | some i => (handE t sc r).map ((x, some i, susS t true sc 8 (b :: body)) :: ·)
        | none => none) else none)
    else none
  | _ => none

def parE (t : Ct) (E : Expr → EM PV) (sc : Scope) (ns : List Str) : List Expr → List Expr → SM
  | [.Name x _, .Name y _], [a, b] => if ns = [x, y] ∧ isLoc sc x = true ∧ isLoc sc y = true ∧ [a, b].any isStar = false then (match ixOf t.N x, ixOf t.N y with
    | some i, some j => if i = j then sFail else sPar [i, j] (eArgs ([a, b].map E))
    | _, _ => sFail) else sFail
  | [.Name x _, .Name y _, .Name z _], [a, b, c] => if ns = [x, y, z] ∧ isLoc sc x = true ∧ isLoc sc y = true ∧ isLoc sc z = true ∧ [a, b, c].any isStar = false then (match ixOf t.N x, ixOf t.N y, ixOf t.N z with
    | some i, some j, some l => if i = j ∨ i = l ∨ j = l then sFail else sPar [i, j, l] (eArgs ([a, b, c].map E))
    | _, _, _ => sFail) else sFail
  | _, _ => sFail
def nmSet (t : Ct) (sc : Scope) (y : Str) (m : EM PV) : SM := if oddN y = true ∨ isL sc y = false then sFail else match ixOf t.N y with
  | some i => sAsg m (gNm i)
  | none => sFail
def assignE (t : Ct) (E : Scope → Expr → EM PV) (T : Scope → Expr → EM Bool) (sc : Scope) : Expr → Expr → SM
  | .Name y py, .ListComp elt [⟨tg, iter, ifs, 0⟩] scope p => if swLC sc y py p scope = true then (match tgOf t.N scope tg with
      | some g => if t.act.isNone = true ∧ blkC t.N sc scope (ownOf t.N scope) = true ∧ g.within ((ownOf t.N scope).map (·.2)) = true then
          nmSet t sc y (eCompL t.C.F (iterE t (E sc) sc tg iter) g ((ownOf t.N scope).map (·.2)) (ifsE (T (relS scope sc)) ifs) (E (relS scope sc) elt)) else sFail
      | none => sFail) else nmSet t sc y (E sc (.ListComp elt [⟨tg, iter, ifs, 0⟩] scope p))
  | .Name y _, e => if isCompX e = true then sFail else nmSet t sc y (E sc e)
  | .Tuple ts _ _, .Tuple vs k2 pt2 => if ts.any isStar = true then sFail else (match swR sc ts vs with
      | some none => sAsg (E sc (.Tuple vs k2 pt2)) (gTupM (ts.map (gm1 t (E sc) sc)))
      | some (some ns) => parE t (E sc) sc ns ts vs
      | none => sFail)
  | .Tuple ts _ _, e => if ts.any isStar = true ∨ isCompX e = true then sFail else sAsg (E sc e) (gTupM (ts.map (gm1 t (E sc) sc)))
  | .Attribute o f p, e => sAsg (E sc e) (gm1 t (E sc) sc (.Attribute o f p))
  | .Subscript o i p, e => sAsg (E sc e) (gm1 t (E sc) sc (.Subscript o i p))
  | _, _ => sFail
def kLoop (t : Ct) (sc : Scope) : Expr → Option Nat
  | .Name x _ => if x = Str.ofString "codes" ∧ isV sc x = true ∧ oddN x = false then ixOf t.N x else none
  | _ => none
def stepS (t : Ct) (E : Scope → Expr → EM PV) (T : Scope → Expr → EM Bool) (Ss : List Stmt → SM) (sc : Scope) : Stmt → SM
  | .Pass _ => sNext
  | .Break _ => sBrk
  | .Continue _ => sCnt
  | .Expr e _ => if isCompX e = true then sFail else sDrop (E sc e)
  | .Return none _ => sRet (eC .non)
  | .Return (some e) _ => sRet (E sc e)
  | .If c a b _ => sIf (T sc c) (Ss a) (Ss b)
  | .While c body [] _ => sWhile (T sc c) (Ss body) t.C.F
  | .For tg iter body [] _ => match kLoop t sc iter with
    | some i => sLoopK t.C.F i (gmE t (E sc) sc tg) (Ss body)
    | none => sLoop t.C.F (iterE t (E sc) sc tg iter) (gmE t (E sc) sc tg) (Ss body)
  | .Assign [tg] e _ => assignE t E T sc tg e
  | .AugAssign (.Name x _) op e _ => if oddN x = true ∨ isL sc x = false then sFail else (match ixOf t.N x with
      | some i => sAug (augP op) i (E sc e)
      | none => sFail)
  | .AugAssign (.Attribute o f _) op e _ => sAugF t.C.P.isFld (augP op) (E sc o) f (E sc e)
  | .Raise (some (.Call (.Name x _) es [] _)) none _ => if isG sc x = true ∧ oddN x = false ∧ es.any isStar = false then (match t.C.P.excs.lookup x with
      | some fs => sRaiseX x fs (eArgs (es.map (E sc)))
      | none => sFail) else sFail
  | .Try body (h :: hs) [] [] _ => (match handE t sc (h :: hs) with
      | some l => sTryP t.C.P (Ss body) (noRaise l)
      | none => sFail)
  | _ => sFail
def evSs (t : Ct) (n : Nat) (sc : Scope) (S : Stmt → SM) : List Stmt → SM
  | [] => sNext
  | st :: r => sSeq (S st) (evSs t n sc S r)
def evS (t : Ct) (d : Nat) : Nat → Scope → Stmt → SM
  | 0, _ => fun _ => sFail
  | n + 1, sc => stepS t (evE t d) (evT t d) (evSs t n sc (evS t d n sc)) sc
end Z
end
noncomputable section
namespace Z
open PySem PySem.Spec PyProof.Rows L2
set_option autoImplicit false
structure HereS (t : Ct) (k : Nat) (s : Scope) (X : Cx) : Prop extends Here t k s X where
  fnc : ∀ x, isL s x = true → X.fn x = true ∨ X.env.scope.names.lookup x = some .local
  kind : s.kind = .function
  pass : PassesOwn (model X.prog X.w) X.A X.env X.xe
  stk : X.stack = X.env :: X.outer
  frm : X.env.frame = some X.env.locals
section
variable {t : Ct} {k : Nat} {sc : Scope} {X : Cx} {W : WX} {E : Scope → Expr → EM PV} {T : Scope → Expr → EM Bool} {e : Expr} {pos p : Pos} {Ss : List Stmt → SM}
theorem hereTr (h : HereS t k sc X) (pn : List (Addr × Obj)) (xe : Value → Shared → Prop) (hp : PassesOwn (model X.prog X.w) X.A X.env xe) : HereS t k sc (X.tr pn xe) :=
  { hN := h.hN, nd := h.nd, sc := h.sc, calm := h.calm, u := h.u, room := h.room, F := h.F, isa := h.isa, exf := h.exf, act := fun a m q pn' xe' W tk p pos => h.act a m q pn' xe' W tk p pos, fnc := h.fnc, kind := h.kind, pass := hp, stk := h.stk, frm := h.frm }
theorem hN' (h : Here t k sc X) : X.N.Nodup := by rw [h.hN]; exact h.nd
theorem hLoc (h : Here t k sc X) {x : Str} (hx : isL sc x = true) : Loc X.env.scope x := by rw [h.sc]; exact isL_ok hx
theorem hGl (h : Here t k sc X) {x : Str} (hx : isG sc x = true) : Gl X x := by show X.env.scope.names.lookup x = _; rw [h.sc]; exact isG_ok hx
theorem hIx (h : Here t k sc X) {x : Str} {i : Nat} (hi : ixOf t.N x = some i) : X.N[i]? = some x := by rw [h.hN]; exact ixOf_get hi
theorem hLc (h : Here t k sc X) {x : Str} (hx : isLoc sc x = true) : X.env.scope.names.lookup x = some .local := by rw [h.sc]; exact isLoc_ok hx
theorem gm1_ok (h : HereS t k sc X) (hE : ∀ e, PE X e (tE (lr X none) WF (E sc e))) : ∀ e : Expr, PG X e (tM (lr X none) (gm1 t (E sc) sc e)) := by
  intro e
  have u1 : X.A.units + 9 < cLine := Nat.lt_of_le_of_lt (Nat.add_le_add_left (by decide) _) h.u
  unfold gm1
  split
  · rename_i x _
    split
    · rename_i hx
      cases q : ixOf t.N x with
      | none => exact noG
      | some i => exact g_nm (hN' h.toHere) (hIx h.toHere q) (hLoc h.toHere hx.1) (h.fnc _ hx.1)
    · exact noG
  · exact g_fld h.F.fld (hE _)
  · split
    · exact noG
    · rename_i q; exact g_ix u1 (hE _) (hE _) (by simpa using q)
  · exact noG
theorem each_len {env : Env} : ∀ {es : List Expr}, es.any isStar = false → (assignEach es env).length = es.length ∧ (assignEach es env).findIdx? (·.1) = none
  | [], _ => ⟨rfl, rfl⟩
  | e :: es, h => by
    have h' : isStar e = false ∧ es.any isStar = false := by simpa using h
    have q : assignEach (e :: es) env = (false, assign e env) :: assignEach es env := by
      cases e <;> first | rfl | cases h'.1
    obtain ⟨z1, z2⟩ := each_len (env := env) h'.2
    rw [q]
    refine ⟨by simp [z1], ?_⟩
    rw [List.findIdx?_cons]
    simp [z2]
theorem gms_ok (h : HereS t k sc X) (hE : ∀ e, PE X e (tE (lr X none) WF (E sc e))) : ∀ es : List Expr, es.any isStar = false → PGs X es (tMs (lr X none) (es.map (gm1 t (E sc) sc)))
  | [], _ => gs_nil
  | e :: es, hs => by
    have h' : isStar e = false ∧ es.any isStar = false := by simpa using hs
    refine gs_cons (gm1_ok h hE e) (gms_ok h hE es h'.2) ?_
    cases e <;> first | rfl | cases h'.1
theorem gtup_ok (h : HereS t k sc X) (hE : ∀ e, PE X e (tE (lr X none) WF (E sc e))) {es : List Expr} {kk : Nat} (hs : es.any isStar = false) : PG X (.Tuple es kk pos) (tM (lr X none) (gTupM (es.map (gm1 t (E sc) sc)))) := by
  obtain ⟨z1, z2⟩ := each_len (env := X.env) hs
  exact g_tup h.calm (gms_ok h hE es hs) (by rw [z1, List.length_map]) z2
theorem gmE_ok (h : HereS t k sc X) (hE : ∀ e, PE X e (tE (lr X none) WF (E sc e))) (e : Expr) : PG X e (tM (lr X none) (gmE t (E sc) sc e)) := by
  unfold gmE
  split
  · split
    · exact noG
    · rename_i q; exact gtup_ok h hE (by simpa using q)
  · exact gm1_ok h hE _
theorem nmSet_ok (h : HereS t k sc X) {m : EM PV} {y : Str} {py : Pos} (he : PE X e (tE (lr X none) W m)) (hs : swapsWith e (some (.Name y py)) pos.line X.env = pure false) : PS X (.Assign [.Name y py] e pos) (tS (lr X none) W (nmSet t sc y m)) := by
  unfold nmSet
  split
  · exact noS
  · rename_i q
    simp only [not_or, Bool.not_eq_true, Bool.not_eq_false] at q
    cases qi : ixOf t.N y with
    | none => exact noS
    | some i => exact s_set (hN' h.toHere) (hIx h.toHere qi) (hLoc h.toHere q.2) he hs (h.fnc _ q.2)
theorem sw_lc {elt : Expr} {gs : List Comprehension} {scope : Scope} {p py : Pos} {y : Str} {l : Nat} {env : Env} (hk : env.scope.kind = .function) (h : swLC env.scope y py p scope = false) : swapsWith (.ListComp elt gs scope p) (some (.Name y py)) l env = pure false := by
  have hb : env.blockKind = .function := by unfold Env.blockKind; rw [hk]; rfl
  have key : swapsWith (.ListComp elt gs scope p) (some (.Name y py)) l env = pure (env.blockKind == .function && env.kindOf y == some .local && py.line == p.line && !(scope.names.any fun (n, k) => n == y && (k == .local || k == .cell))) := rfl
  rw [key, hb]
  unfold swLC at h
  have e1 : (env.kindOf y == some .local) = isLoc env.scope y := by
    show (env.scope.names.lookup y == some .local) = _
    unfold isLoc
    cases env.scope.names.lookup y with
    | none => rfl
    | some z => cases z <;> rfl
  rw [e1]
  congr 1
theorem setLc_ok (h : HereS t k sc X) {y : Str} {py : Pos} {elt tg iter : Expr} {ifs : List Expr} {scope : Scope} (hE : ∀ sc X W, Here t k sc X → Takes X W → ∀ e, PE X e (tE (lr X none) W (E sc e))) (hT : ∀ sc X W, Here t k sc X → Takes X W → ∀ e, PT X e (tT (lr X none) W (T sc e))) (tk : Takes X W)
    {g : Tg} (hg : tgOf t.N scope tg = some g) (ha : t.act.isNone = true) (hb : blkC t.N sc scope (ownOf t.N scope) = true) (hw : g.within ((ownOf t.N scope).map (·.2)) = true) (hsw : swLC sc y py p scope = true) :
    PS X (.Assign [.Name y py] (.ListComp elt [⟨tg, iter, ifs, 0⟩] scope p) pos) (tS (lr X none) W (nmSet t sc y (eCompL t.C.F (iterE t (E sc) sc tg iter) g ((ownOf t.N scope).map (·.2)) (ifsE (T (relS scope sc)) ifs) (E (relS scope sc) elt)))) := by
  unfold swLC at hsw
  simp only [Bool.and_eq_true, Bool.not_eq_true'] at hsw
  obtain ⟨⟨s1, s2⟩, s3⟩ := hsw
  have hyl := hLc h.toHere s1
  have hkind : X.env.scope.kind = .function := by rw [h.sc]; exact h.kind
  unfold nmSet
  split
  · exact noS
  cases qi : ixOf t.N y with
  | none => exact noS
  | some i =>
    dsimp only
    obtain ⟨hi, hs⟩ := s_iter2 (tg := tg) (e := iter) h.toHere (hE sc X W h.toHere tk)
    have an : ∀ a m, t.act = some (a, m) → False := fun a m q => by rw [q] at ha; cases ha
    rcases hs with hs | hs
    · refine impS (ps_setLc (X := X) (g := tN X.K g) (tt := tT (lr X none) WF (ifsE (T (relS scope sc)) ifs)) (te := tE (lr X none) WF (E (relS scope sc) elt)) h.calm (hN' h.toHere) (hIx h.toHere qi) hyl (sw_true hkind hyl s2 s3) hi (by rw [h.hN, h.sc]; exact blkOk_by hb) (fun s H C' cl fp => ?_) (fun s H C' cl fp => ?_) (fun s H C' cl fp => ?_) hs) fun D σ H z => ?_
      · exact tgOf_ok (X := X.blk s H scope (compEnvC scope cl C' X.env) fp) h.calm h.hN h.nd (fun x hx => (blk_loc h.toHere hx).1) (fun x hx => (blk_loc h.toHere hx).2) hg
      · exact s_ifs (X' := X.blk s H scope (compEnvC scope cl C' X.env) fp) (hT _ _ WF (blk_here h.toHere (scope := scope) s H C' cl fp an) takesF) ifs
      · exact hE _ (X.blk s H scope (compEnvC scope cl C' X.env) fp) WF (blk_here h.toHere (scope := scope) s H C' cl fp an) takesF elt
      · obtain ⟨ρ, env, ih, e1, e2, q⟩ := z
        refine tLc_of hw ((withAt (rel := RV (lr X none)) e1 e2 q).mono fun u H1 ⟨ρ1, ih1, x, ex, h1, r1, p1⟩ => ?_)
        exact PostS.next (σ := σ.set i (some u)) p1 h1 ((e1.mono ex).set r1)
    · rw [hs]
      exact ⟨fun _ _ _ _ _ _ ⟨_, _, _, _, _, z⟩ => z.elim⟩
theorem parE_ok (h : HereS t k sc X) (hE : ∀ e, PE X e (tE (lr X none) W (E sc e))) {ns : List Str} {ts vs : List Expr} {kt k2 : Nat} {pt pt2 : Pos} (hw : swappedStores [.Tuple ts kt pt] (.Tuple vs k2 pt2) X.env = pure (some ns)) :
    PS X (.Assign [.Tuple ts kt pt] (.Tuple vs k2 pt2) pos) (tS (lr X none) W (parE t (E sc) sc ns ts vs)) := by
  unfold parE
  split
  · rename_i x px y py a b
    split
    · rename_i q
      obtain ⟨rfl, hx, hy, hs⟩ := q
      split
      · rename_i i j qi qj
        split
        · exact noS
        · rename_i hij
          exact s_par h.calm (hN' h.toHere) (hIx h.toHere qi) (hIx h.toHere qj) hij (hLc h.toHere hx) (hLc h.toHere hy) (sa_args (E sc) [a, b] (fun e _ => hE e) hs) hw
      · exact noS
    · exact noS
  · rename_i x px y py z pz a b c
    split
    · rename_i q
      obtain ⟨rfl, hx, hy, hz, hs⟩ := q
      split
      · rename_i i j l qi qj ql
        split
        · exact noS
        · rename_i hij
          simp only [not_or] at hij
          exact s_par3 h.calm (hN' h.toHere) (hIx h.toHere qi) (hIx h.toHere qj) (hIx h.toHere ql) hij.1 hij.2.1 hij.2.2 (hLc h.toHere hx) (hLc h.toHere hy) (hLc h.toHere hz) (sa_args (E sc) [a, b, c] (fun e _ => hE e) hs) hw
      · exact noS
    · exact noS
  · exact noS
theorem assignE_ok (h : HereS t k sc X) (hE : ∀ sc X W, Here t k sc X → Takes X W → ∀ e, PE X e (tE (lr X none) W (E sc e))) (hT : ∀ sc X W, Here t k sc X → Takes X W → ∀ e, PT X e (tT (lr X none) W (T sc e))) (tk : Takes X W) (tg : Expr) :
    PS X (.Assign [tg] e pos) (tS (lr X none) W (assignE t E T sc tg e)) := by
  have hEW := hE sc X W h.toHere tk
  have hEF := hE sc X WF h.toHere takesF
  have hkind : X.env.scope.kind = .function := by rw [h.sc]; exact h.kind
  unfold assignE
  split
  · split
    · split
      · split
        · rename_i q0 _ g q1 q
          exact setLc_ok h hE hT tk q1 q.1 q.2.1 q.2.2 q0
        · exact noS
      · exact noS
    · rename_i q
      exact nmSet_ok h (hEW _) (sw_lc hkind (by rw [h.sc]; simpa using q))
  · split
    · exact noS
    · rename_i q; exact nmSet_ok h (hEW _) (sw_no (by simpa using q) _ _ _)
  · rename_i ts kt pt vs k2 pt2
    split
    · exact noS
    · rename_i q
      split
      · rename_i r
        exact s_asg (hEW _) (gtup_ok h hEF (by simpa using q)) rfl (swR_ok hkind (by rw [h.sc]; exact r)) rfl
      · rename_i ns r
        exact parE_ok h hEW (swR_ok hkind (by rw [h.sc]; exact r))
      · exact noS
  · rename_i ts kt pt hne
    split
    · exact noS
    · rename_i q
      simp only [not_or, Bool.not_eq_true] at q
      refine s_asg (hEW _) (gtup_ok h hEF q.1) (show swapsWith e (some (.Tuple ts kt pt)) pos.line X.env = pure false from sw_no q.2 _ _ _) ?_ rfl
      cases e with
      | Tuple vs k2 pt2 => exact absurd rfl (hne vs k2 pt2)
      | _ => rfl
  · refine s_asg (hEW _) (gm1_ok h hEF _) ?_ ?_ rfl
    · cases e <;> rfl
    · cases e <;> rfl
  · refine s_asg (hEW _) (gm1_ok h hEF _) ?_ ?_ rfl
    · cases e <;> rfl
    · cases e <;> rfl
  · exact noS
theorem xf_ok {L : Rl} {a : Addr} {c : Str} {d : Option Addr} {ma : EM PV} {P : Prg} {f : Str} {C : Addr} {cls : Value} (hL : L = ⟨X.K, X.w, some (a, c, d)⟩) (hcls : cls = .ref (He.ga X.K c)) {σ : L2.St} {H : Hp} {Q : VK} (h : tE L WF (eUn (xfldQ P f) ma) σ H Q) :
    tE L WF ma σ H fun x H1 => x = .ref a ∧ ((P.excs.lookup c).getD []).contains f = true ∧ ∃ (dd : Addr) (fs : List (Str × V)) (v : V), d = some dd ∧ H1 dd = some (.xd fs) ∧ fs.lookup f = some v ∧ Q v H1 := by
  subst hL
  obtain ⟨ρ, env, ih, e1, e2, p⟩ := h
  refine (bindAt (rel := RV ⟨X.K, X.w, some (a, c, d)⟩) e1 e2 p).mono fun u H1 ⟨ρ1, ih1, x, ex1, h1, r1, p1⟩ => ?_
  unfold xfldQ at p1
  split at p1
  · rename_i c' fs
    split at p1
    · rename_i hk
      split at p1
      · rename_i v ev
        cases r1 with
        | exc0 q =>
          cases q
          cases ev
        | exc q q2 r =>
          cases q
          have lk := rfs_look r f
          rw [ev] at lk
          obtain ⟨v', l1, l2⟩ := lk
          exact ⟨rfl, hk, _, _, v', rfl, q2, l1, p1.here h1 l2⟩
      · exact p1.elim
    · exact p1.elim
  · exact p1.elim
theorem sus_plain (h : HereS t k sc X) {a : Addr} {oe : Obj} {pn : List (Addr × Obj)} : ∀ (n : Nat) (e : Expr), PE (X.suite a ((a, oe) :: pn)) e (tE ⟨X.K, X.w, none⟩ WF (susE t false sc n e))
  | 0, _ => noE
  | n + 1, e => by
    have u65 : (X.suite a ((a, oe) :: pn)).A.units + 65 < cLine := Nat.lt_of_le_of_lt (Nat.add_le_add_left (by decide) _) (show X.A.units + 100 < cLine from h.u)
    unfold susE
    split
    · exact s_const
    · split
      · exact noE
      · rename_i o
        split
        · rename_i v
          split
          · rename_i i q
            obtain ⟨o1, o2, o3⟩ := odd_ok (by simpa using o)
            exact se_var (show X.N[_]? = _ from hIx h.toHere q) (show Vis X.env.scope _ from by rw [h.sc]; exact isV_ok v) o1 o2
          · exact noE
        · exact noE
    · split
      · exact noE
      · rename_i q
        exact se_tup (X := X.suite a ((a, oe) :: pn)) (ex := none) (sa_args (X := X.suite a ((a, oe) :: pn)) (ex := none) (susE t false sc n) _ (fun e _ => sus_plain h n e) (by simpa using q))
    · split
      · rename_i q; exact absurd q.1 Bool.false_ne_true
      · exact noE
    · split
      · exact noE
      · rename_i q; exact se_cmp (X := X.suite a ((a, oe) :: pn)) (ex := none) _ u65 (sus_plain h n _) (sus_plain h n _) (by simpa using q)
    · split
      · rename_i q; exact se_lst (X := X.suite a ((a, oe) :: pn)) (ex := none) (sa_args (X := X.suite a ((a, oe) :: pn)) (ex := none) (susE t false sc n) _ (fun e _ => sus_plain h n e) q.2)
      · exact noE
    · split
      · exact se_bin (X := X.suite a ((a, oe) :: pn)) (ex := none) .Add (sus_plain h n _) (sus_plain h n _)
      · exact noE
    · split
      · rename_i q; exact absurd q.1 Bool.false_ne_true
      · exact noE
    · split
      · rename_i q; exact absurd q.1 Bool.false_ne_true
      · exact noE
    · split
      · rename_i q; exact se_if (X := X.suite a ((a, oe) :: pn)) (ex := none) (st_tru (X := X.suite a ((a, oe) :: pn)) (ex := none) (sus_plain h n _) (plainT_ok q)) (sus_plain h n _) (sus_plain h n _)
      · exact noE
    · exact noE
theorem sus_named (h : HereS t k sc X) {a : Addr} {oe : Obj} {pn : List (Addr × Obj)} {c : Str} {d : Option Addr} (hz : Zc (.ref (He.ga X.K c)) d oe) (hf : ∃ vs, oe.data = .fields vs) : ∀ (n : Nat) (e : Expr), PE (X.suite a ((a, oe) :: pn)) e (tE ⟨X.K, X.w, some (a, c, d)⟩ WF (susE t true sc n e))
  | 0, _ => noE
  | n + 1, e => by
    have u65 : (X.suite a ((a, oe) :: pn)).A.units + 65 < cLine := Nat.lt_of_le_of_lt (Nat.add_le_add_left (by decide) _) (show X.A.units + 100 < cLine from h.u)
    unfold susE
    split
    · rename_i cc _ _
      cases cc with
      | int i => exact se_int
      | bool b => exact se_bl
      | str s => exact se_str
      | none => exact se_non
      | _ => exact noE
    · split
      · exact noE
      · rename_i o
        split
        · rename_i v
          split
          · rename_i i q
            obtain ⟨o1, o2, o3⟩ := odd_ok (by simpa using o)
            exact se_var (show X.N[_]? = _ from hIx h.toHere q) (show Vis X.env.scope _ from by rw [h.sc]; exact isV_ok v) o1 o2
          · exact noE
        · exact noE
    · split
      · exact noE
      · rename_i q
        exact se_tup (X := X.suite a ((a, oe) :: pn)) (ex := some (a, c, d)) (sa_args (X := X.suite a ((a, oe) :: pn)) (ex := some (a, c, d)) (susE t true sc n) _ (fun e _ => sus_named h hz hf n e) (by simpa using q))
    · rename_i b f p
      split
      · rename_i q
        have ih := sus_named h (a := a) (oe := oe) (pn := pn) hz hf n b
        by_cases hk : ((t.C.P.excs.lookup c).getD []).contains f = true
        · cases qe : t.C.P.excs.lookup c with
          | none => rw [qe] at hk; cases hk
          | some fs =>
            obtain ⟨fI, TX⟩ := h.exf.txt c fs qe
            rw [qe] at hk
            have hno : PySem.W.findIn X.K (.ref (He.ga X.K c)) f = some none := TX.noN f (by simpa using hk)
            refine impE (pe_xf (X := X) (C := He.ga X.K c) ⟨TX.ga, TX.gg, TX.exC, TX.hdC⟩ hno hz hf ih (base_of q.2)) fun σ H Q hq => ?_
            exact (xf_ok (X := X) (C := 0) (P := t.C.P) (f := f) rfl rfl hq).mono fun x H1 ⟨z1, _, z3⟩ => ⟨z1, rfl, z3⟩
        · refine ⟨fun pins s σ H Q I hq => attr_of (base_of q.2) (thn (ih.run pins s σ H _ I (xf_ok (X := X) (C := 0) (P := t.C.P) (f := f) rfl rfl hq)) fun u s1 ⟨x, H1, I1, rx, z1, z2, _⟩ => absurd z2 hk)⟩
      · exact noE
    · split
      · exact noE
      · rename_i q; exact se_cmp (X := X.suite a ((a, oe) :: pn)) (ex := some (a, c, d)) _ u65 (sus_named h hz hf n _) (sus_named h hz hf n _) (by simpa using q)
    · split
      · rename_i q; exact se_lst (X := X.suite a ((a, oe) :: pn)) (ex := some (a, c, d)) (sa_args (X := X.suite a ((a, oe) :: pn)) (ex := some (a, c, d)) (susE t true sc n) _ (fun e _ => sus_named h hz hf n e) q.2)
      · exact noE
    · split
      · exact se_bin (X := X.suite a ((a, oe) :: pn)) (ex := some (a, c, d)) .Add (sus_named h hz hf n _) (sus_named h hz hf n _)
      · exact noE
    · split
      · rename_i q
        obtain ⟨_, ho, rfl, hg, hs1⟩ := q
        exact se_callX (X := X.suite a ((a, oe) :: pn)) (k := k) ho List.mem_cons_self h.exf h.F.blt h.F.txt h.F.glo ⟨h.room.dp, h.room.un⟩ hz hf (show Gl _ _ from by show X.env.scope.names.lookup _ = _; rw [h.sc]; exact isG_ok hg) hs1 (sus_named h hz hf n _)
      · exact noE
    · rename_i f np b cl pos' 
      split
      · rename_i q
        obtain ⟨_, rfl, hg, hb, ho, hs1, hs2⟩ := q
        exact isa_pin (Y := X.suite a ((a, oe) :: pn)) List.mem_cons_self h.exf h.F.blt h.sc hz hf hg hb ho hs1 hs2 (sus_named h hz hf n _)
      · exact noE
    · split
      · rename_i q; exact se_if (X := X.suite a ((a, oe) :: pn)) (ex := some (a, c, d)) (st_tru (X := X.suite a ((a, oe) :: pn)) (ex := some (a, c, d)) (sus_named h hz hf n _) (plainT_ok q)) (sus_named h hz hf n _) (sus_named h hz hf n _)
      · exact noE
    · exact noE
theorem susS_plain (h : HereS t k sc X) {a : Addr} {oe : Obj} {pn : List (Addr × Obj)} : ∀ (n : Nat) (b : List Stmt), PSs (X.suite a ((a, oe) :: pn)) b (tS ⟨X.K, X.w, none⟩ WF (susS t false sc n b)) := by
  intro n
  induction n with
  | zero => exact fun b => noSs
  | succ n ih =>
  intro b
  unfold susS
  split
  · exact ss_cons s_pass ss_nil
  · exact ss_cons s_retN ss_nil
  · exact ss_cons (s_ret (sus_plain h 12 _)) ss_nil
  · split
    · exact ss_cons (kdSt_gen (Y := X.suite a ((a, oe) :: pn)) h.hN h.nd h.sc (sw_no rfl _ _ _) (sus_plain h 12 _)) ss_nil
    · exact noSs
  · split
    · rename_i q; exact ss_cons (s_if (st_tru (X := X.suite a ((a, oe) :: pn)) (ex := none) (sus_plain h 12 _) (plainT_ok q)) (ih _) ss_nil) (ih _)
    · exact noSs
  · exact noSs
theorem susS_named (h : HereS t k sc X) {a : Addr} {oe : Obj} {pn : List (Addr × Obj)} {c : Str} {d : Option Addr} (hz : Zc (.ref (He.ga X.K c)) d oe) (hf : ∃ vs, oe.data = .fields vs) : ∀ (n : Nat) (b : List Stmt), PSs (X.suite a ((a, oe) :: pn)) b (tS ⟨X.K, X.w, some (a, c, d)⟩ WF (susS t true sc n b)) := by
  intro n
  induction n with
  | zero => exact fun b => noSs
  | succ n ih =>
  intro b
  unfold susS
  split
  · exact ss_cons s_pass ss_nil
  · exact ss_cons s_retN ss_nil
  · exact ss_cons (s_ret (sus_named h hz hf 12 _)) ss_nil
  · split
    · exact ss_cons (kdSt_gen (Y := X.suite a ((a, oe) :: pn)) h.hN h.nd h.sc (sw_no rfl _ _ _) (sus_named h hz hf 12 _)) ss_nil
    · exact noSs
  · split
    · rename_i q; exact ss_cons (s_if (st_tru (X := X.suite a ((a, oe) :: pn)) (ex := some (a, c, d)) (sus_named h hz hf 12 _) (plainT_ok q)) (ih _) ss_nil) (ih _)
    · exact noSs
  · exact noSs
theorem handE_ok (h : HereS t k sc X) : ∀ {hs : List ExceptHandler} {l : List (Str × Option Nat × SM)}, handE t sc hs = some l → HdsG X hs (clsOf X.K X.w l) ∧ ∀ p ∈ l, (t.C.P.excs.lookup p.1).isSome = true ∨ p.1 = Str.ofString "HeapError"
  | [], l, e => by
    simp only [handE] at e
    cases e
    exact ⟨.nil, fun p hp => by simp at hp⟩
  | hd :: hs, l, e => by
    unfold handE at e
    split at e
    · rename_i q; cases q
    · rename_i x np n b body pos' r' q
      cases q
      split at e
      · rename_i hx
        have hn : Names X x (.ref (He.ga X.K x)) := ⟨hGl h.toHere hx.1, (odd_ok hx.2.1).1, .inl (h.exf.mg_ hx.2.2)⟩
        split at e
        · cases qr : handE t sc hs with
          | none => rw [qr] at e; cases e
          | some l' =>
            rw [qr] at e
            cases e
            obtain ⟨z1, z2⟩ := handE_ok h qr
            refine ⟨.bare hn (fun a oe cls d pn hz hf => ?_) z1, fun p hp => ?_⟩
            · exact ⟨fun pins s σ H D I ⟨c, _, hq⟩ => (susS_plain h 8 (b :: body)).run pins s σ H D I hq⟩
            · rcases List.mem_cons.mp hp with rfl | hp
              · exact hx.2.2
              · exact z2 p hp
        · rename_i nm
          split at e
          · rename_i hl
            split at e
            · rename_i i qi
              cases qr : handE t sc hs with
              | none => rw [qr] at e; cases e
              | some l' =>
                rw [qr] at e
                cases e
                obtain ⟨z1, z2⟩ := handE_ok h qr
                refine ⟨.named hn (hIx h.toHere qi) (hLc h.toHere hl) (fun a oe cls d pn hz hf => ?_) z1, fun p hp => ?_⟩
                · exact ⟨fun pins s σ H D I ⟨c, hc, hq⟩ => (susS_named h (by rw [← hc]; exact hz) hf 8 (b :: body)).run pins s σ H D I hq⟩
                · rcases List.mem_cons.mp hp with rfl | hp
                  · exact hx.2.2
                  · exact z2 p hp
            · cases e
          · cases e
      · cases e
    · cases e
theorem stepS_ok (hE : ∀ sc X W, Here t k sc X → Takes X W → ∀ e, PE X e (tE (lr X none) W (E sc e))) (hT : ∀ sc X W, Here t k sc X → Takes X W → ∀ e, PT X e (tT (lr X none) W (T sc e))) (hS : ∀ X W, HereS t k sc X → Takes X W → ∀ b, PSs X b (tS (lr X none) W (Ss b))) (h : HereS t k sc X) (tk : Takes X W) (st : Stmt) :
    PS X st (tS (lr X none) W (stepS t E T Ss sc st)) := by
  have hEW := hE sc X W h.toHere tk
  have hTW := hT sc X W h.toHere tk
  have hSW := hS X W h tk
  have hEF := hE sc X WF h.toHere takesF
  unfold stepS
  split
  · exact s_pass
  · exact s_brk
  · exact s_cnt
  · split
    · exact noS
    · rename_i q; exact s_expr (hEW _) (sw_no (by simpa using q) _ _ _)
  · exact s_retN
  · exact s_ret (hEW _)
  · exact s_if (hTW _) (hSW _) (hSW _)
  · exact s_while h.pass (hTW _) (hSW _)
  · rename_i tg iter body p
    split
    · rename_i i q
      unfold kLoop at q
      split at q
      · split at q
        · rename_i hx
          have ho := odd_ok hx.2.2
          exact s_forK h.pass h.calm (hIx h.toHere q) (by rw [h.sc]; exact isV_ok hx.2.1) ho.1 ho.2.1 (gmE_ok h hEF tg) (hSW _)
        · cases q
      · cases q
    obtain ⟨hi, hs⟩ := s_iter2 (tg := tg) (e := iter) h.toHere hEW
    rcases hs with hs | hs
    · exact s_for h.pass h.calm hi (gmE_ok h hEF tg) (hSW _) hs
    · rw [hs]
      exact ⟨fun _ _ _ _ _ _ ⟨_, _, _, _, _, z⟩ => z.elim⟩
  · exact assignE_ok h hE hT tk _
  · split
    · exact noS
    · rename_i q
      simp only [not_or, Bool.not_eq_true, Bool.not_eq_false] at q
      split
      · rename_i i qi
        exact s_aug (hN' h.toHere) (hIx h.toHere qi) (hLoc h.toHere q.2) (hEW _) (h.fnc _ q.2)
      · exact noS
  · exact s_augFld h.F.fld (hEW _) (hEW _)
  · split
    · rename_i q
      split
      · rename_i fs qf
        obtain ⟨fI, TX⟩ := h.exf.txt _ fs qf
        exact s_raise TX h.calm tk h.room (hGl h.toHere q.1) (fun e _ => hEW e) q.2.2 (odd_ok q.2.1).1
      · exact noS
    · exact noS
  · split
    · rename_i l ql
      obtain ⟨z1, z2⟩ := handE_ok h ql
      exact s_try h.exf h.stk h.frm (hN' h.toHere) tk (fun W' pn xe tk' hp => hS (X.tr pn xe) W' (hereTr h pn xe hp) tk' _) z1 z2
    · exact noS
  · exact noS
theorem evSs_ok {S : Stmt → SM} {n : Nat} (hS : ∀ X W, HereS t k sc X → Takes X W → ∀ st, PS X st (tS (lr X none) W (S st))) : ∀ b : List Stmt, ∀ X W, HereS t k sc X → Takes X W → PSs X b (tS (lr X none) W (evSs t n sc S b))
  | [], _, _, _, _ => ss_nil
  | st :: r, X, W, h, tk => ss_cons (hS X W h tk st) (evSs_ok hS r X W h tk)
theorem evS_ok (d : Nat) : ∀ (n : Nat) (X : Cx) (W : WX), HereS t k sc X → Takes X W → ∀ st, PS X st (tS (lr X none) W (evS t d n sc st))
  | 0, _, _, _, _, _ => noS
  | n + 1, X, W, h, tk, st => stepS_ok (evET_ok d).1 (evET_ok d).2 (fun X W h tk b => evSs_ok (fun X W h tk st => evS_ok d n X W h tk st) b X W h tk) h tk st
end
end Z
end
noncomputable section
namespace Z
open PySem PySem.Spec PyProof.Rows L2
set_option autoImplicit false
abbrev DE : Nat := 30
abbrev DS : Nat := 20
def runB (t : Ct) (fd : FDef) (vs : List PV) (ih : IH) : R PV := (evSs t DS fd.sc (evS t DE DS fd.sc) fd.body (startE fd.N vs) ih).res
def callF (P : Prg) (F : Nat) : Nat → FId → List PV → IH → R PV
  | 0, _, _, _ => .fail
  | n + 1, id, vs, ih => match P.fdef id with
    | some fd => if vs.length = fd.ps.length then runB ⟨⟨P, callF P F n, F⟩, fd.N, none⟩ fd vs ih else .fail
    | none => .fail
structure Static (P : Prg) (prog : Program) (w : World) (K : PySem.W.Frag) (mg : Str → Option Value) (base : Heap) : Prop where
  callee : ∀ id fd, P.fdef id = some fd → ∃ (oc : Value) (od : Option Addr) (name : Str) (params : Arguments) (dV kV doc pm : Value) (an : Option Addr) (cdv ct : Value) (osl : Array (Option Value)),
    K.lookup (adr K id) = some ⟨oc, od, .func (PySem.W.fnOf name fd.qual params fd.body fd.sc dV kV doc pm an cdv ct), osl⟩ ∧ PySem.W.codeIn K cdv fd.qual = true ∧ FnScope fd.N fd.ps fd.sc ∧
    BindF K w (PySem.W.fnOf name fd.qual params fd.body fd.sc dV kV doc pm an cdv ct) fd
  glo : ∀ x fd, P.fns.lookup x = some fd → mg x = some (.ref (He.ga K x)) ∧ PySem.W.keepIn K (.ref (He.ga K x)) = true
  cls : ∀ c ms, P.clss.lookup c = some ms → mg c = some (.ref (He.ga K c)) ∧ Cls K (He.ga K c) ∧ Mk K (He.ga K c) (He.ma K (He.ga K c) "__init__")
  meth : ∀ c m fd, P.fdef (.meth c m) = some fd → Cls K (He.ga K c) ∧ Meth K (He.ga K c) m (He.ma K (He.ga K c) m)
  ne : ∀ c fd, P.fdef (.meth c "__eq__") = some fd → PySem.W.findIn K (.ref (He.ga K c)) "__ne__" = some (some (.builtin "object.__ne__")) ∧ PySem.W.mroIn K (He.ga K c) (.type "object") = some true
  fld : FldOk K P.isFld
  con : ∀ x v, P.cons.lookup x = some v → ∃ u v', mg x = some u ∧ RelV v' u ∧ ∀ ex ρ H, RV ⟨K, w, ex⟩ ρ H v v'
  blt : ∀ x, P.blts.contains x = true → mg x = none
  isa : IsaOk K P.isCls
  exf : ExcFacts P prog K mg
  dct : ∀ x i, P.dcts.lookup x = some i → mg x = some (.ref (He.ga K x))
theorem post_res {K : PySem.W.Frag} {w : World} {E : XK} {Q : VK} {ρ : List Addr} {H : Hp} {r : RS} (p : Post ⟨K, w, none⟩ (fun cls d _ H' => E cls d H') [] (RV ⟨K, w, none⟩) Q ρ H r.res) : PostS ⟨K, w, none⟩ (fun cls d _ H' => E cls d H') { nx := fun _ H' => Q .non H', rt := Q } ρ H r := by
  cases r with
  | nx env h => exact fun ρ' H' σ' ex h' _ => p ρ' H' .non ex h' .non
  | ret v h => exact p
  | exc c fs env h => exact fun ρ' H' σ' d ex h' _ xd => p ρ' H' d ex h' xd
  | brk env h => exact p.elim
  | cnt env h => exact p.elim
  | fail => exact p.elim
section
variable {P : Prg} {prog : Program} {w : World} {K : PySem.W.Frag} {mg : Str → Option Value} {base : Heap}
theorem body_okL (S : Static P prog w K mg base) {C : Cfg} (hP : C.P = P) {k : Nat} (FX0 : Facts C prog w K mg base k) {id : FId} {fd : FDef} (hf : P.fdef id = some fd) : ∃ fdat, (∃ oc od osl, K.lookup (adr K id) = some ⟨oc, od, .func fdat, osl⟩) ∧ FnOk prog w K mg base (L2.CX prog w) (k + 2) (adr K id) fdat fd.ps (spOf K w fd.ps.length fun vs ih => if vs.length = fd.ps.length then runB ⟨C, fd.N, none⟩ fd vs ih else .fail) ∧
    BindF K w fdat fd := by
  subst hP
  obtain ⟨oc, od, name, params, dV, kV, doc, pm, an, cdv, ct, osl, lk, hcd, FS, hb⟩ := S.callee id fd hf
  refine ⟨_, ⟨oc, od, osl, lk⟩, fn_of (CX := L2.CX prog w) (k := k + 1) lk hcd FS (fun vs H Q E h => h.1) fun A outer s H vs Q E hr ⟨hl, ρ, ih, pvs, h1, r1, p⟩ => ?_, hb⟩
  have hpl : pvs.length = fd.ps.length := r1.length.trans hl
  dsimp only at p
  rw [if_pos hpl] at p
  have hs : HereS ⟨C, fd.N, none⟩ k fd.sc (cxOf (L2.CX prog w) prog w K mg base fd.N fd.qual fd.sc (adr K id) cdv A outer s H E) :=
    ⟨⟨rfl, FS.nd, rfl, rfl, (by have := hr.un; show (A.deeper _).units + 100 < cLine; omega), hr, FX0, S.isa, S.exf, fun _ _ q => by cases q⟩, fun _ _ => .inl rfl, FS.kind, passes_of rfl, rfl, rfl⟩
  have tk : Takes (cxOf (L2.CX prog w) prog w K mg base fd.N fd.qual fd.sc (adr K id) cdv A outer s H E) (fun cls d _ H' => E cls d H') := takes_of rfl rfl rfl rfl
  refine ⟨_, evSs_ok (t := ⟨C, fd.N, none⟩) (n := DS) (fun X W h tk st => evS_ok DE DS X W h tk st) fd.body _ _ hs tk, ρ, startE fd.N pvs, ih, re_start r1, h1, ?_⟩
  exact post_res p
theorem body_ok (S : Static P prog w K mg base) {C : Cfg} (hP : C.P = P) {k : Nat} (FX0 : Facts C prog w K mg base k) {id : FId} {fd : FDef} (hf : P.fdef id = some fd) : ∃ fdat, FnOk prog w K mg base (L2.CX prog w) (k + 2) (adr K id) fdat fd.ps (spOf K w fd.ps.length fun vs ih => if vs.length = fd.ps.length then runB ⟨C, fd.N, none⟩ fd vs ih else .fail) ∧
    BindF K w fdat fd := by
  obtain ⟨fdat, _, h⟩ := body_okL S hP FX0 hf
  exact ⟨fdat, h⟩
theorem facts_of (S : Static P prog w K mg base) {C : Cfg} (hP : C.P = P) {k : Nat} (hc : ∀ id fd, P.fdef id = some fd → ∃ fdat, FnOk prog w K mg base (L2.CX prog w) k (adr K id) fdat fd.ps (spOf K w fd.ps.length (C.call id)) ∧
    BindF K w fdat fd) : Facts C prog w K mg base k := by
  subst hP
  exact ⟨hc, S.glo, S.cls, S.meth, fun c m fd h => by
    obtain ⟨oc, od, name, params, dV, kV, doc, pm, an, cdv, ct, osl, lk, _⟩ := S.callee (.meth c m) fd h
    have lk : K.lookup (He.ma K (He.ga K c) m) = _ := lk
    unfold PySem.W.fnIn
    rw [lk], S.ne, S.fld, S.con, S.blt, S.dct, fun x fd h => S.callee (.fn x) fd h⟩
theorem prog_ok (S : Static P prog w K mg base) (F : Nat) : ∀ (n : Nat) (id : FId) (fd : FDef), P.fdef id = some fd → ∃ fdat, FnOk prog w K mg base (L2.CX prog w) (2 * n) (adr K id) fdat fd.ps (spOf K w fd.ps.length (callF P F n id)) ∧
    BindF K w fdat fd
  | 0, id, fd, h => by
    obtain ⟨oc, od, name, params, dV, kV, doc, pm, an, cdv, ct, osl, lk, hcd, FS, hb⟩ := S.callee id fd h
    exact ⟨_, ⟨fun vs H Q E h => h.1, fun _ _ _ _ _ _ _ _ _ _ _ _ _ ⟨_, _, _, _, _, _, z⟩ => (show False from z).elim⟩, hb⟩
  | n + 1, id, fd, h => by
    have FX0 : Facts ⟨P, callF P F n, F⟩ prog w K mg base (2 * n) := facts_of S rfl (prog_ok S F n)
    obtain ⟨fdat, hF, hb⟩ := body_ok S rfl FX0 h
    refine ⟨fdat, ?_, hb⟩
    have e : (fun vs ih => if vs.length = fd.ps.length then runB ⟨⟨P, callF P F n, F⟩, fd.N, none⟩ fd vs ih else .fail) = callF P F (n + 1) id := by
      funext vs ih
      show _ = callF P F (n + 1) id vs ih
      unfold callF
      rw [h]
    rw [e] at hF
    exact hF
end
end Z
end
noncomputable section
namespace Z
open PySem PySem.Spec PyProof.Rows L2
set_option autoImplicit false
structure SimpleA (a : Arguments) (qs : List Str) : Prop where
  po : a.posonlyargs = []
  va : a.vararg = none
  ko : a.kwonlyargs = []
  kw : a.kwarg = none
  ps : a.args.map (·.arg) = qs
  nd : qs.Nodup
def putIf (acc : List (Str × Value)) (p : Str × Value) : List (Str × Value) := if (acc.lookup p.1).isNone = true then acc ++ [(p.1, p.2)] else acc
theorem look_app : ∀ (l : List (Str × Value)) (n : Str) (d : Value) (y : Str), (l ++ [(n, d)]).lookup y = (l.lookup y).or (if y = n then some d else none)
  | [], n, d, y => by
    by_cases e : y = n
    · subst e; simp
    · have hb : (y == n) = false := beq_eq_false_iff_ne.mpr e
      simp [List.lookup_cons, hb, e]
  | (k, v) :: r, n, d, y => by
    by_cases e : y = k
    · subst e; simp
    · have hb : (y == k) = false := beq_eq_false_iff_ne.mpr e
      simp only [List.cons_append, List.lookup_cons, hb]
      exact look_app r n d y
theorem fold_look (y : Str) : ∀ (l acc : List (Str × Value)), (l.foldl putIf acc).lookup y = (acc.lookup y).or (l.lookup y)
  | [], acc => by simp
  | (n, d) :: l, acc => by
    rw [List.foldl_cons, fold_look y l]
    unfold putIf
    by_cases h : (acc.lookup n).isNone = true
    · rw [if_pos h, look_app]
      by_cases e : y = n
      · subst e
        have h' : acc.lookup y = none := by simpa using h
        simp [h']
      · have hb : (y == n) = false := beq_eq_false_iff_ne.mpr e
        rw [if_neg e, List.lookup_cons, hb]
        simp
    · rw [if_neg h]
      by_cases e : y = n
      · subst e
        cases q : acc.lookup y with
        | none => rw [q] at h; exact absurd rfl h
        | some v => simp
      · have hb : (y == n) = false := beq_eq_false_iff_ne.mpr e
        rw [List.lookup_cons, hb]
theorem forIn_put (body : Str × Value → List (Str × Value) → Sem (ForInStep (List (Str × Value)))) (hb : ∀ p acc, body p acc = pure (ForInStep.yield (putIf acc p))) : ∀ (l acc : List (Str × Value)), (forIn l acc body : Sem (List (Str × Value))) = pure (l.foldl putIf acc)
  | [], acc => by rw [List.forIn_nil]; rfl
  | p :: l, acc => by
    rw [List.forIn_cons, hb, pure_bind]
    exact forIn_put body hb l _
theorem keys_take : ∀ (ps : List Str) (us : List Value), (ps.zip us).map (·.1) = ps.take us.length
  | [], us => by simp
  | p :: ps, [] => rfl
  | p :: ps, u :: us => by
    show p :: ((ps.zip us).map (·.1)) = _
    rw [keys_take ps us]; rfl
theorem look_none {l : List (Str × Value)} {y : Str} (h : y ∉ l.map (·.1)) : l.lookup y = none := by
  induction l with
  | nil => rfl
  | cons p l ih =>
    have h1 : y ≠ p.1 := fun z => h (by simp [z])
    have hb : (y == p.1) = false := beq_eq_false_iff_ne.mpr h1
    rw [List.lookup_cons, hb]
    exact ih fun z => h (List.mem_cons_of_mem _ z)
theorem fm_key (L : Str → Option Value) : ∀ (qs : List Str) (ws : List Value), ws.length = qs.length → (∀ (i : Nat) (q : Str) (w : Value), qs[i]? = some q → ws[i]? = some w → L q = some w) → (qs.filterMap fun n => (L n).map (n, ·)) = qs.zip ws
  | [], [], _, _ => rfl
  | q :: qs, w :: ws, hl, h => by
    have h1 := h 0 q w rfl rfl
    rw [List.filterMap_cons, h1]
    show (q, w) :: _ = _
    rw [fm_key L qs ws (Nat.succ.inj hl) fun i a b ha hb => h (i + 1) a b (by simpa using ha) (by simpa using hb)]
    rfl
  | [], _ :: _, hl, _ => by cases hl
  | _ :: _, [], hl, _ => by cases hl
theorem bind_look {ps : List Str} (nd : ps.Nodup) {us its : List Value} (hle : us.length ≤ ps.length) (hd : its.length ≤ ps.length) (hge : ps.length ≤ us.length + its.length) {i : Nat} {q : Str} {w : Value} (hq : ps[i]? = some q) (hw : (us ++ its.drop (us.length + its.length - ps.length))[i]? = some w) :
    ((ps.zip us).lookup q).or (((ps.drop (ps.length - its.length)).zip its).lookup q) = some w := by
  by_cases hi : i < us.length
  · rw [List.getElem?_append_left hi] at hw
    have hm : (q, w) ∈ ps.zip us := by
      rw [List.mem_iff_getElem?]
      exact ⟨i, by rw [List.getElem?_zip_eq_some]; exact ⟨hq, hw⟩⟩
    have z := ZX.lookup_mem (l := ps.zip us) (by rw [keys_take]; exact nd.sublist (List.take_sublist _ _)) hm
    rw [z]; rfl
  · have hi' : us.length ≤ i := Nat.le_of_not_lt hi
    have hin : q ∉ (ps.zip us).map (·.1) := by
      rw [keys_take]
      intro hmem
      obtain ⟨j, hj, e⟩ := List.mem_iff_getElem.mp hmem
      have hj' : j < us.length := by simp at hj; omega
      rw [List.getElem_take] at e
      obtain ⟨hil, ei⟩ := List.getElem?_eq_some_iff.mp hq
      have hjl : j < ps.length := by simp at hj; omega
      have e1 : ps[j]? = some q := by rw [List.getElem?_eq_getElem hjl, e]
      have := L2.nodup_ix nd e1 hq
      omega
    rw [look_none hin, Option.none_or]
    rw [List.getElem?_append_right hi', List.getElem?_drop] at hw
    have hm : (q, w) ∈ (ps.drop (ps.length - its.length)).zip its := by
      rw [List.mem_iff_getElem?]
      refine ⟨us.length + its.length - ps.length + (i - us.length), ?_⟩
      rw [List.getElem?_zip_eq_some]
      refine ⟨?_, hw⟩
      rw [List.getElem?_drop]
      obtain ⟨hil, _⟩ := List.getElem?_eq_some_iff.mp hq
      have : ps.length - its.length + (us.length + its.length - ps.length + (i - us.length)) = i := by omega
      rw [this]; exact hq
    exact ZX.lookup_mem (by rw [keys_take]; exact (nd.sublist (List.drop_sublist _ _)).sublist (List.take_sublist _ _)) hm
theorem bind_gen {fd : FuncData} {ps : List Str} (S : SimpleA fd.params ps) (us its : List Value) (hle : us.length ≤ ps.length) (hd : its.length ≤ ps.length) (hge : ps.length ≤ us.length + its.length) :
    ∃ k, bindArgs fd ⟨us, []⟩ = seqItems? fd.defaults >>= k ∧ ∀ r : Option (Array Value), (r.getD #[]).toList = its → k r = pure (ps.zip (us ++ its.drop (us.length + its.length - ps.length))) := by
  unfold bindArgs
  simp only [S.po, S.va, S.ko, S.kw, S.ps, List.map_nil, List.nil_append, List.append_nil, List.forIn_nil, pure_bind, List.contains_nil]
  refine ⟨_, rfl, fun r hr => ?_⟩
  rw [hr]
  have c1 : (decide (us.length > ps.length) && Option.isNone (none : Option Arg)) = true ↔ False := by
    simp; omega
  have e0 : its.length - ps.length = 0 := by omega
  have c2 : List.filter (fun n => (List.lookup n (ps.zip us)).isNone) (List.take (ps.length - (List.drop (its.length - ps.length) its).length) ps) = [] := by
    rw [e0, List.drop_zero, List.filter_eq_nil_iff]
    intro n hn
    obtain ⟨j, hj, e⟩ := List.mem_iff_getElem.mp hn
    rw [List.getElem_take] at e
    have hj1 : j < ps.length - its.length := by simp at hj; omega
    have hj2 : j < us.length := by omega
    have hm : (n, us[j]) ∈ ps.zip us := by
      rw [List.mem_iff_getElem?]
      exact ⟨j, by rw [List.getElem?_zip_eq_some]; exact ⟨by rw [← e]; exact List.getElem?_eq_getElem _, List.getElem?_eq_getElem hj2⟩⟩
    have z := ZX.lookup_mem (l := ps.zip us) (by rw [keys_take]; exact S.nd.sublist (List.take_sublist _ _)) hm
    rw [z]
    simp
  have c1' : ¬ ((decide (us.length > ps.length) && Option.isNone (none : Option Arg)) = true) := fun z => c1.mp z
  rw [if_neg c1']
  rw [c2]
  rw [if_neg (by simp)]
  rw [forIn_put _ (fun p acc => by unfold putIf; split <;> rfl)]
  rw [pure_bind, if_neg (by simp), e0, List.drop_zero]
  congr 1
  refine fm_key (fun n => List.lookup n (List.foldl putIf (ps.zip us) ((List.drop (ps.length - its.length) ps).zip its))) ps _ (by simp; omega) fun i q w h1 h2 => ?_
  show List.lookup q _ = _
  rw [fold_look]
  exact bind_look S.nd hle hd hge h1 h2
theorem binds_of {K : PySem.W.Frag} {x qual : Str} {params : Arguments} {body : List Stmt} {scope : Scope} {dvs : List V} {f : Addr} {fd : FuncData} {ps : List Str} (F : FunD K x qual params body scope dvs [] f fd) (S : SimpleA params ps) (hd : dvs.length ≤ ps.length) (j : Nat) (hj : j ≤ dvs.length) :
    ∃ ds, Vals (dvs.drop j) ds ∧ Binds K fd ps ds := by
  obtain ⟨oc, od, dV, kV, doc, pm, an, cdv, ct, osl, rfl, lk, hcd, hD, hK⟩ := F.ex
  rcases hD with ⟨rfl, rfl⟩ | ⟨_, T, o, its, m, rfl, lT, oT, rT⟩
  · refine ⟨[], by simpa using Paired.nil, Binds.all fun us hl => ?_⟩
    obtain ⟨k, e1, e2⟩ := bind_gen (fd := PySem.W.fnOf x qual params body scope .none kV doc pm an cdv ct) S us [] (by omega) (Nat.zero_le _) (by simp; omega)
    rw [e1]
    have z : seqItems? (PySem.W.fnOf x qual params body scope .none kV doc pm an cdv ct).defaults = pure none := rfl
    rw [z, pure_bind, e2 none rfl]
    simp
  · have l1 : its.length = dvs.length := rT.length.symm
    refine ⟨its.drop j, rT.drop j, fun s us X hlen => ?_⟩
    have l2 : us.length + its.length - ps.length = j := by
      rw [List.length_append, List.length_drop] at hlen
      omega
    obtain ⟨k, e1, e2⟩ := bind_gen (fd := PySem.W.fnOf x qual params body scope (.ref T) kV doc pm an cdv ct) S us its (by rw [List.length_append, List.length_drop] at hlen; omega) (by omega) (by rw [List.length_append, List.length_drop] at hlen; omega)
    refine BindsTo.of_looks fun M => ?_
    rw [e1]
    rw [l2] at e2
    exact looks_items X lT oT (.of_pure (e2 (some its.toArray) (by simp)))
theorem forIn_kw (ps : List Str) (body : Str × Value → List (Str × Value) × List (Str × Value) → Sem (ForInStep (List (Str × Value) × List (Str × Value)))) (hb : ∀ p st, p.1 ∈ ps → st.1.lookup p.1 = none → body p st = pure (ForInStep.yield (st.1 ++ [(p.1, p.2)], st.2))) :
    ∀ (l acc e : List (Str × Value)), (l.map (·.1)).Nodup → (∀ p ∈ l, p.1 ∈ ps ∧ acc.lookup p.1 = none) → (forIn l (acc, e) body : Sem (List (Str × Value) × List (Str × Value))) = pure (acc ++ l, e)
  | [], acc, e, _, _ => by rw [List.forIn_nil, List.append_nil]
  | p :: l, acc, e, nd, h => by
    obtain ⟨h1, h2⟩ := h p List.mem_cons_self
    rw [List.map_cons, List.nodup_cons] at nd
    rw [List.forIn_cons, hb p _ h1 h2, pure_bind]
    dsimp only
    rw [forIn_kw ps body hb l (acc ++ [(p.1, p.2)]) e nd.2 fun q hq => ⟨(h q (List.mem_cons_of_mem _ hq)).1, ?_⟩, List.append_assoc]
    · rfl
    · rw [look_app, (h q (List.mem_cons_of_mem _ hq)).2]
      have : q.1 ≠ p.1 := fun z => nd.1 (by rw [← z]; exact List.mem_map.mpr ⟨q, hq, rfl⟩)
      rw [if_neg this]; rfl
theorem fm_fill (L : Str → Option Value) : ∀ qs : List Str, (∀ q ∈ qs, (L q).isSome = true) → (qs.filterMap fun n => (L n).map (n, ·)) = qs.zip (qs.filterMap L)
  | [], _ => rfl
  | q :: qs, h => by
    have h1 := h q List.mem_cons_self
    cases e : L q with
    | none => rw [e] at h1; cases h1
    | some w =>
      rw [List.filterMap_cons, List.filterMap_cons, e]
      show (q, w) :: _ = (q, w) :: _
      rw [fm_fill L qs fun x hx => h x (List.mem_cons_of_mem _ hx)]; rfl
theorem look_some {l : List (Str × Value)} {y : Str} (h : y ∈ l.map (·.1)) : (l.lookup y).isSome = true := by
  induction l with
  | nil => cases h
  | cons p l ih =>
    rw [List.lookup_cons]
    by_cases e : y = p.1
    · subst e; simp
    · have hb : (y == p.1) = false := beq_eq_false_iff_ne.mpr e
      rw [hb]
      rw [List.map_cons] at h
      rcases List.mem_cons.mp h with z | z
      · exact absurd z e
      · exact ih z
theorem bind_kw {fd : FuncData} {ps ks : List Str} (S : SimpleA fd.params ps) (us ws its : List Value) (hw : ws.length = ks.length) (O : KwOk ps its.length us.length ks) :
    ∃ k, bindArgs fd ⟨us, ks.zip ws⟩ = seqItems? fd.defaults >>= k ∧ ∀ r : Option (Array Value), (r.getD #[]).toList = its → k r = pure (ps.zip (kwFill ps us ks ws its)) := by
  have zk : (ks.zip ws).map (·.1) = ks := ZX.zip_keys hw
  have hin : ∀ p ∈ ks.zip ws, p.1 ∈ ps ∧ (ps.zip us).lookup p.1 = none := fun p hp => by
    have hk : p.1 ∈ ks := by rw [← zk]; exact List.mem_map.mpr ⟨p, hp, rfl⟩
    have hd := O.kin _ hk
    refine ⟨List.mem_of_mem_drop hd, look_none ?_⟩
    rw [keys_take]
    intro ht
    have nd := S.nd
    rw [← List.take_append_drop us.length ps, List.nodup_append] at nd
    exact nd.2.2 _ ht _ hd rfl
  unfold bindArgs
  simp only [S.po, S.va, S.ko, S.kw, S.ps, List.map_nil, List.nil_append, List.append_nil, List.forIn_nil, pure_bind, List.contains_nil]
  rw [forIn_kw ps _ (fun p st h1 h2 => by
    have c1 : (ps.contains p.1 || false) = true := by simp [h1]
    have c2 : ¬ ((List.lookup p.1 st.1).isSome = true) := by rw [h2]; simp
    rw [if_pos c1, if_neg c2]) (ks.zip ws) (ps.zip us) [] (by rw [zk]; exact O.kn) hin]
  simp only [pure_bind]
  refine ⟨_, rfl, fun r hr => ?_⟩
  rw [hr]
  have c1' : ¬ ((decide (us.length > ps.length) && Option.isNone (none : Option Arg)) = true) := by have := O.le; simp; omega
  have e0 : its.length - ps.length = 0 := by have := O.ld; omega
  have all1 : ∀ p ∈ ps.take (ps.length - its.length), ((ps.zip us ++ ks.zip ws).lookup p).isSome = true := fun p hp => by
    apply look_some
    rw [List.map_append, zk, keys_take]
    rcases O.all p hp with z | z
    · exact List.mem_append_left _ z
    · exact List.mem_append_right _ z
  have c2 : List.filter (fun n => (List.lookup n (ps.zip us ++ ks.zip ws)).isNone) (List.take (ps.length - (List.drop (its.length - ps.length) its).length) ps) = [] := by
    rw [e0, List.drop_zero, List.filter_eq_nil_iff]
    intro n hn
    have := all1 n hn
    cases q : List.lookup n (ps.zip us ++ ks.zip ws) with
    | none => rw [q] at this; cases this
    | some v => simp
  rw [if_neg c1']
  rw [c2]
  rw [if_neg (by simp)]
  rw [forIn_put _ (fun p acc => by unfold putIf; split <;> rfl)]
  rw [pure_bind, if_neg (by simp), e0, List.drop_zero]
  congr 1
  have eL : ∀ p, List.lookup p (List.foldl putIf (ps.zip us ++ ks.zip ws) ((List.drop (ps.length - its.length) ps).zip its)) = (kwSlots ps us ks ws its).lookup p := fun p => by
    rw [fold_look]
    unfold kwSlots
    rw [← List.append_assoc]
    exact List.lookup_append.symm
  have hall : ∀ p ∈ ps, ((kwSlots ps us ks ws its).lookup p).isSome = true := fun p hp => by
    rw [← List.take_append_drop (ps.length - its.length) ps] at hp
    unfold kwSlots
    rw [← List.append_assoc, List.lookup_append]
    rcases List.mem_append.mp hp with z | z
    · have := all1 p z
      rw [Option.isSome_or, this]; rfl
    · have : (List.lookup p ((ps.drop (ps.length - its.length)).zip its)).isSome = true := by
        apply look_some
        rw [ZX.zip_keys (by have := O.ld; simp; omega)]
        exact z
      rw [Option.isSome_or, this, Bool.or_true]
  have e1 := fm_fill (fun p => (kwSlots ps us ks ws its).lookup p) ps hall
  unfold kwFill
  rw [← e1]
  congr 1
  funext n
  rw [eL]
theorem kbinds_of {K : PySem.W.Frag} {x qual : Str} {params : Arguments} {body : List Stmt} {scope : Scope} {dvs : List V} {f : Addr} {fd : FuncData} {ps : List Str} (F : FunD K x qual params body scope dvs [] f fd) (S : SimpleA params ps) (n : Nat) (ks : List Str) (O : KwOk ps dvs.length n ks) :
    ∃ its, Vals dvs its ∧ KBn K fd ps n ks (fun us ws => kwFill ps us ks ws its) (fun vs zs => kwFill ps vs ks zs dvs) := by
  obtain ⟨oc, od, dV, kV, doc, pm, an, cdv, ct, osl, rfl, lk, hcd, hD, hK⟩ := F.ex
  rcases hD with ⟨rfl, rfl⟩ | ⟨_, T, o, its, m, rfl, lT, oT, rT⟩
  · refine ⟨[], .nil, fun s us ws X l1 l2 => ?_, fun r1 r2 => fill_rel r1 r2 .nil⟩
    subst l1
    obtain ⟨k, e1, e2⟩ := bind_kw (fd := PySem.W.fnOf x qual params body scope .none kV doc pm an cdv ct) S us ws [] l2 O
    refine BindsTo.of_looks fun M => ?_
    rw [e1]
    have z : seqItems? (PySem.W.fnOf x qual params body scope .none kV doc pm an cdv ct).defaults = pure none := rfl
    rw [z, pure_bind, e2 none rfl]
    exact .of_pure rfl
  · have l1 : its.length = dvs.length := rT.length.symm
    refine ⟨its, rT, fun s us ws X l3 l2 => ?_, fun r1 r2 => fill_rel r1 r2 rT⟩
    subst l3
    obtain ⟨k, e1, e2⟩ := bind_kw (fd := PySem.W.fnOf x qual params body scope (.ref T) kV doc pm an cdv ct) S us ws its l2 (by rw [l1]; exact O)
    refine BindsTo.of_looks fun M => ?_
    rw [e1]
    exact looks_items X lT oT (.of_pure (e2 (some its.toArray) (by simp)))
end Z
end
noncomputable section
namespace Z
open PySem PySem.Spec PyProof.Rows L2
set_option autoImplicit false
def dvOf : PV → He.Dv
  | .bl b => .bl b
  | .int i => .int i
  | .str s => .str s
  | _ => .non
def dvOf2 (f : Str × Option Str) (i : Nat) : PV → He.Dv
  | .tup [] => .adr (He.dflAt f i)
  | x => dvOf x
def dvsOf (f : Str × Option Str) : Nat → List PV → List He.Dv
  | _, [] => []
  | i, x :: r => dvOf2 f i x :: dvsOf f (i + 1) r
def tup0 (K : PySem.W.Frag) (a : Addr) : Bool := match K.lookup a with
  | some o => decide (o.cls = .type "tuple") && (match o.data with
    | .seq its _ => decide (its.toList = [])
    | _ => false)
  | none => false
def dflB (K : PySem.W.Frag) (f : Str × Option Str) : Nat → List PV → Bool
  | _, [] => true
  | i, .tup [] :: r => tup0 K (He.dflAt f i K) && dflB K f (i + 1) r
  | i, _ :: r => dflB K f (i + 1) r
def simP : PV → Bool
  | .tup [] => true
  | .non => true
  | .bl _ => true
  | .int _ => true
  | .str _ => true
  | _ => false
def atOf : FId → Str × Option Str
  | .fn x => (x, none)
  | .meth c m => (c, some m)
def toDD (p : FId × FDef) : He.DefD := ⟨atOf p.1, p.2.nm, p.2.qual, p.2.args, p.2.body, p.2.sc, dvsOf (atOf p.1) 0 p.2.dfl, []⟩
def defsOf (P : Prg) : List (FId × FDef) := P.fns.map (fun p => (.fn p.1, p.2)) ++ P.clss.flatMap fun c => c.2.map fun p => (.meth c.1 p.1, p.2)
def simA (a : Arguments) (qs : List Str) : Bool := a.posonlyargs.isEmpty && a.vararg.isNone && a.kwonlyargs.isEmpty && a.kwarg.isNone && decide (a.args.map (·.arg) = qs) && decide qs.Nodup
theorem simA_ok {a : Arguments} {qs : List Str} (h : simA a qs = true) : SimpleA a qs := by
  unfold simA at h
  simp only [Bool.and_eq_true, decide_eq_true_eq] at h
  obtain ⟨⟨⟨⟨⟨h1, h2⟩, h3⟩, h4⟩, h5⟩, h6⟩ := h
  exact ⟨by simpa using h1, by simpa using h2, by simpa using h3, by simpa using h4, h5, h6⟩
def okDef (fd : FDef) : Bool := C8.scC fd.N fd.ps fd.sc && simA fd.args fd.ps && fd.dfl.all simP && decide (fd.dfl.length ≤ fd.ps.length)
theorem fdef_mem {P : Prg} {id : FId} {fd : FDef} (h : P.fdef id = some fd) : (id, fd) ∈ defsOf P := by
  unfold defsOf
  cases id with
  | fn x =>
    have h : P.fns.lookup x = some fd := h
    exact List.mem_append_left _ (List.mem_map.mpr ⟨(x, fd), PySem.mem_of_lookup h, rfl⟩)
  | meth c m =>
    have h : (P.clss.lookup c).bind (fun ms => ms.lookup m) = some fd := h
    cases q : P.clss.lookup c with
    | none => rw [q] at h; cases h
    | some ms =>
      rw [q] at h
      have h : ms.lookup m = some fd := h
      exact List.mem_append_right _ (List.mem_flatMap.mpr ⟨(c, ms), PySem.mem_of_lookup q, List.mem_map.mpr ⟨(m, fd), PySem.mem_of_lookup h, rfl⟩⟩)
theorem dvsOf_len {f : Str × Option Str} : ∀ {i : Nat} {l : List PV}, (dvsOf f i l).length = l.length
  | _, [] => rfl
  | i, x :: r => by
    show (dvsOf f (i + 1) r).length + 1 = _
    rw [dvsOf_len]; rfl
theorem tup0_ok {K : PySem.W.Frag} {H : Hp} {a : Addr} (h : tup0 K a = true) : SqT K H a [] := by
  unfold tup0 at h
  split at h
  · rename_i o q
    rw [Bool.and_eq_true, decide_eq_true_eq] at h
    obtain ⟨h1, h2⟩ := h
    split at h2
    · rename_i its n qd
      have e := of_decide_eq_true h2
      have e2 : its = #[] := Array.toList_inj.mp e
      refine .inr ⟨o, its, n, q, h1, qd, ?_, ?_⟩
      · rw [e2]; decide
      · rw [e]; exact .nil
    · cases h2
  · cases h
theorem rvs_dfl {w : World} {ex : Option (Addr × Str × Option Addr)} {ρ : List Addr} {H : Hp} {K : PySem.W.Frag} {f : Str × Option Str} : ∀ {dfl : List PV} {i : Nat}, dfl.all simP = true → dflB K f i dfl = true → RVs ⟨K, w, ex⟩ ρ H dfl ((dvsOf f i dfl).map (He.Dv.v K))
  | [], _, _, _ => .nil
  | x :: r, i, h, hb => by
    have h' : simP x = true ∧ r.all simP = true := by simpa using h
    cases x with
    | non => exact .cons .non (rvs_dfl (i := i + 1) h'.2 hb)
    | bl b => exact .cons (.bl b) (rvs_dfl (i := i + 1) h'.2 hb)
    | int b => exact .cons (.int b) (rvs_dfl (i := i + 1) h'.2 hb)
    | str b => exact .cons (.str b) (rvs_dfl (i := i + 1) h'.2 hb)
    | tup xs =>
      cases xs with
      | nil =>
        unfold dflB at hb
        rw [Bool.and_eq_true] at hb
        exact .cons (.tup (tup0_ok hb.1) .nil) (rvs_dfl (i := i + 1) h'.2 hb.2)
      | cons _ _ => cases h'.1
    | _ => cases h'.1
section
variable {fa : List He.Fa} {fn : List He.DefD} {K : PySem.W.Frag}
theorem says_fact (c : He.SaysD fa fn K) {f : He.Fa} (h : f ∈ fa) : f.ok K = true := by
  obtain ⟨i, hi, e⟩ := List.mem_iff_getElem.mp h
  exact c.fact i (by rw [List.getElem?_eq_getElem hi, e])
theorem says_def (c : He.SaysD fa fn K) {d : He.DefD} (h : d ∈ fn) : ∃ fd, FunD K d.name d.qual d.params d.body d.scope (d.dvs K) (d.kws K) (He.fAd K d.at_) fd := by
  obtain ⟨i, hi, e⟩ := List.mem_iff_getElem.mp h
  exact c.def_ i (by rw [List.getElem?_eq_getElem hi, e])
end
mutual
def conB (K : PySem.W.Frag) : PV → Value → Bool
  | .non, .none => true
  | .bl b, .bool c => b == c
  | .int i, .int j _ => decide (i = j)
  | .str x, .str y _ => decide (x = y)
  | .tup xs, .ref a => (match K.lookup a with
    | some ⟨.type c, none, .seq its _, _⟩ => decide (c = "tuple") && (decide (its.size ≤ sizeLine) && conBs K xs its.toList)
    | _ => false)
  | _, _ => false
def conBs (K : PySem.W.Frag) : List PV → List Value → Bool
  | [], [] => true
  | x :: xs, u :: us => conB K x u && conBs K xs us
  | _, _ => false
end
mutual
theorem conB_ok {K : PySem.W.Frag} {w : World} : ∀ {x : PV} {u : Value}, conB K x u = true → ∃ v, RelV v u ∧ ∀ ex ρ H, RV ⟨K, w, ex⟩ ρ H x v
  | .non, u, h => by
    cases u <;> simp only [conB] at h <;> first | exact ⟨.non, rfl, fun _ _ _ => .non⟩ | cases h
  | .bl b, u, h => by
    cases u <;> simp only [conB] at h <;> first | (have e := eq_of_beq h; subst e; exact ⟨.bl b, rfl, fun _ _ _ => .bl b⟩) | cases h
  | .int i, u, h => by
    cases u <;> simp only [conB] at h <;> first | (have e := of_decide_eq_true h; subst e; exact ⟨.int i, ⟨_, rfl⟩, fun _ _ _ => .int i⟩) | cases h
  | .str i, u, h => by
    cases u <;> simp only [conB] at h <;> first | (have e := of_decide_eq_true h; subst e; exact ⟨.str i, ⟨_, rfl⟩, fun _ _ _ => .str i⟩) | cases h
  | .tup xs, u, h => by
    cases u with
    | ref a =>
      simp only [conB] at h
      split at h
      · rename_i c its n sl q
        simp only [Bool.and_eq_true, decide_eq_true_eq] at h
        obtain ⟨h1, h2, h3⟩ := h
        obtain ⟨vs, k1, k2⟩ := conBs_ok h3
        refine ⟨.ref a, rfl, fun ex ρ H => .tup (L := ⟨K, w, ex⟩) (.inr ?_) (k2 ex ρ H)⟩
        exact ⟨_, its, n, q, congrArg Value.type h1, rfl, h2, k1⟩
      · cases h
    | _ => simp only [conB] at h <;> cases h
  | .ref n, u, h => by cases u <;> simp only [conB] at h <;> cases h
  | .exc c fs, u, h => by cases u <;> simp only [conB] at h <;> cases h
  | .ty n, u, h => by cases u <;> simp only [conB] at h <;> cases h
  | .cls n, u, h => by cases u <;> simp only [conB] at h <;> cases h
theorem conBs_ok {K : PySem.W.Frag} {w : World} : ∀ {xs : List PV} {us : List Value}, conBs K xs us = true → ∃ vs, Vals vs us ∧ ∀ ex ρ H, RVs ⟨K, w, ex⟩ ρ H xs vs
  | [], [], _ => ⟨[], .nil, fun _ _ _ => .nil⟩
  | x :: xs, u :: us, h => by
    simp only [conBs, Bool.and_eq_true] at h
    obtain ⟨v, h1, h2⟩ := conB_ok h.1
    obtain ⟨vs, h3, h4⟩ := conBs_ok h.2
    exact ⟨v :: vs, .cons h1 h3, fun ex ρ H => .cons (h2 ex ρ H) (h4 ex ρ H)⟩
  | [], _ :: _, h => by simp only [conBs] at h; cases h
  | _ :: _, [], h => by simp only [conBs] at h; cases h
end
def conG (K : PySem.W.Frag) (p : Str × PV) : Bool := match PySem.W.nsIn K mainGlobals p.1 with
  | some (some u) => conB K p.2 u
  | _ => false
def isaB (P : Prg) (K : PySem.W.Frag) : Bool := (P.clss.all fun c =>
    He.eqO (PySem.W.findIn K (.ref (He.ga K c.1)) "__class__") (some (some (.builtin "object.__class__"))) && decide (PySem.W.mroIn K (He.ga K c.1) (.type "object") = some true) &&
    (hasTys.all fun a => decide (PySem.W.kitOne K (.type a) (.ref (He.ga K c.1)) = some false)) && (askTys.all fun b => decide (PySem.W.kitOne K (.ref (He.ga K c.1)) (.type b) = some false)) &&
    P.clss.all fun d => decide (PySem.W.kitOne K (.ref (He.ga K c.1)) (.ref (He.ga K d.1)) = some (decide (c.1 = d.1)))) &&
  (P.clss.isEmpty || (He.eqO (PySem.W.specialIn K (.builtin "object.__class__") "__get__") (some (some (.builtin "getset_descriptor.__get__"))) && decide (PySem.W.takesIn K (.builtin "object.__class__") = some true)))
theorem isCls_mem {P : Prg} {c : Str} (h : P.isCls c = true) : ∃ ms, (c, ms) ∈ P.clss := by
  unfold Prg.isCls at h
  cases q : P.clss.lookup c with
  | none => rw [q] at h; cases h
  | some ms => exact ⟨ms, PySem.mem_of_lookup q⟩
theorem isaB_ok {P : Prg} {K : PySem.W.Frag} (h : isaB P K = true) (hc : ∀ c ms, (c, ms) ∈ P.clss → Cls K (He.ga K c)) : IsaOk K P.isCls := by
  unfold isaB at h
  simp only [Bool.and_eq_true, List.all_eq_true, decide_eq_true_eq, Bool.or_eq_true] at h
  obtain ⟨h1, h2⟩ := h
  have key : ∀ c, P.isCls c = true → (((He.eqO (PySem.W.findIn K (.ref (He.ga K c)) "__class__") (some (some (.builtin "object.__class__"))) = true ∧ PySem.W.mroIn K (He.ga K c) (.type "object") = some true) ∧
      ∀ a ∈ hasTys, PySem.W.kitOne K (.type a) (.ref (He.ga K c)) = some false) ∧ ∀ b ∈ askTys, PySem.W.kitOne K (.ref (He.ga K c)) (.type b) = some false) ∧
      ∀ d ∈ P.clss, PySem.W.kitOne K (.ref (He.ga K c)) (.ref (He.ga K d.1)) = some (decide (c = d.1)) := fun c hx => by
    obtain ⟨ms, hm⟩ := isCls_mem hx
    exact h1 (c, ms) hm
  refine ⟨fun c hx => ?_, fun ⟨c, hx⟩ => ?_, fun a c ha hx => ?_, fun x b hx hb => ?_, fun x c hx hx2 => ?_⟩
  · obtain ⟨ms, hm⟩ := isCls_mem hx
    obtain ⟨⟨⟨⟨k1, k2⟩, k3⟩, k4⟩, k5⟩ := key c hx
    exact ⟨hc c ms hm, He.eqO_ok k1, k2⟩
  · obtain ⟨ms, hm⟩ := isCls_mem hx
    rcases h2 with h2 | h2
    · have : P.clss = [] := by simpa using h2
      rw [this] at hm; simp at hm
    · exact ⟨He.eqO_ok h2.1, h2.2⟩
  · obtain ⟨⟨⟨⟨k1, k2⟩, k3⟩, k4⟩, k5⟩ := key c hx
    exact k3 a (by simpa using ha)
  · obtain ⟨⟨⟨⟨k1, k2⟩, k3⟩, k4⟩, k5⟩ := key x hx
    exact k4 b (by simpa using hb)
  · obtain ⟨⟨⟨⟨k1, k2⟩, k3⟩, k4⟩, k5⟩ := key x hx
    obtain ⟨ms, hm⟩ := isCls_mem hx2
    exact k5 (c, ms) hm
structure XDef where
  c : Str
  fs : List Str
  qual : Str
  args : Arguments
  body : List Stmt
  sc : Scope
def okX (P : Program) (d : XDef) : Bool := !(P.main.scope.names.lookup ("super" : Str)).isSome && decide d.fs.Nodup && !d.fs.contains ("self" : Str) && decide (d.fs.length ≤ 900) && d.fs.all (fun f => !(f == ("__debug__" : Str))) &&
  decide ((d.args.posonlyargs ++ d.args.args).head?.map (·.arg) = some ("self" : Str)) && decide (d.sc.names.lookup ("super" : Str) = some .globalImplicit) && decide (d.sc.names.lookup ("__class__" : Str) = some .free) &&
  ((("self" : Str) :: d.fs).all fun f => decide (d.sc.names.lookup f = some .local)) && decide (d.sc.kind = .function) && !d.sc.isCoroutine && !d.sc.isGenerator && (d.sc.names.all fun y => !decide (y.2 = .cell)) && ZX.isExcBody d.fs d.body && simA d.args (("self" : Str) :: d.fs)
abbrev FnXV : Type := Option (Str × Str × Arguments × FuncBody × Scope × Addr × List Str × Addr)
def xObs (K : PySem.W.Frag) (c : Str) : FnXV := match K.lookup (He.ma K (He.ga K c) "__init__") with
  | some ⟨_, _, .func fd, _⟩ => some (fd.name, fd.qualname, fd.params, fd.body, fd.scope, fd.globals, fd.closure.map (·.1), fd.builtins)
  | _ => none
def XDef.val (d : XDef) : FnXV := some ("__init__", d.qual, d.args, .stmts d.body, d.sc, mainGlobals, ["__class__"], builtinsNs)
def xcls (K : PySem.W.Frag) (C : Addr) : Bool := match K.lookup C with
  | some ⟨.type "type", _, .cls cd, sl⟩ => (match cd.mro, sl.toList with
    | .ref C' :: bm, [_, _, _, _, some (.builtin n), _] => C' == C && n == "ValueError.__new__" && !cd.hasDel && cd.hasDict && PySem.HandSPX.refsVE bm
    | _, _ => false)
  | _ => false
theorem xcls_ok {K : PySem.W.Frag} {C : Addr} (h : xcls K C = true) : ∃ nm q N bs bm sn sub ab col dd k0 k1 k2 k3 k5, K.lookup C = some (excClassObj nm q C N bs bm true sn sub ab col dd k0 k1 k2 k3 k5 "ValueError.__new__") ∧ PySem.HandSPX.refsVE bm = true := by
  unfold xcls at h
  split at h
  · rename_i dd cd sl ho
    split at h
    · rename_i C' bm k0 k1 k2 k3 n k5 hm hs
      simp only [Bool.and_eq_true, beq_iff_eq, Bool.not_eq_true'] at h
      obtain ⟨⟨⟨⟨rfl, rfl⟩, hdel⟩, hd⟩, hv⟩ := h
      obtain ⟨nm, bs, mro, ns, qn, hdc, sn, sub, ab, col, del⟩ := cd
      dsimp only at hm hdel hd
      subst hm hdel hd
      have hsl : sl = #[k0, k1, k2, k3, some (.builtin "ValueError.__new__"), k5] := by
        obtain ⟨l⟩ := sl
        simp only at hs
        rw [hs]
      subst hsl
      exact ⟨_, _, _, _, _, _, _, _, _, _, _, _, _, _, _, ho, hv⟩
    · cases h
  · cases h
def xB (P : Program) (K : PySem.W.Frag) (d : XDef) : Bool :=
  (He.Fa.glo d.c).ok K && (He.Fa.free "super").ok K && xcls K (He.ga K d.c) &&
  decide (PySem.W.findIn K (.ref (He.ga K d.c)) "__setattr__" = some (some (.builtin "object.__setattr__"))) &&
  decide (PySem.W.findIn K (.ref (He.ga K d.c)) "__getattribute__" = some (some (.builtin "BaseException.__getattribute__"))) &&
  decide (PySem.W.findIn K (.ref (He.ga K d.c)) "__getattr__" = some none) && (d.fs.all fun f => decide (PySem.W.findIn K (.ref (He.ga K d.c)) f = some none)) &&
  decide (PySem.W.findIn K (.ref (He.ga K d.c)) "__init__" = some (some (.ref (He.ma K (He.ga K d.c) "__init__")))) &&
  decide (PySem.W.typeIn K (.ref (He.ma K (He.ga K d.c) "__init__")) = some (.type "function")) && PySem.W.keepIn K (.ref (He.ga K d.c)) &&
  decide (PySem.W.subIn K (.ref (He.ga K d.c)) (.type "BaseException") = some true) && decide (PySem.W.typeIn K (.ref (He.ga K d.c)) = some (.type "type")) && PySem.W.hasDictIn K (He.ga K d.c) &&
  decide (PySem.W.ks_superIn K (He.ga K d.c) (He.ga K d.c) "__init__" = some (some (.builtin "ValueError.__init__"))) && decide (PySem.W.nsIn K PySem.cStatics "thirdparty.any" = some none) &&
  decide (PySem.W.subIn K (.ref (He.ga K d.c)) (.type "ValueError") = some true) && decide (PySem.W.mroIn K (He.ga K d.c) (.ref (He.ga K d.c)) = some true) &&
  (match K.lookup (He.ma K (He.ga K d.c) "__init__") with
  | some ⟨_, _, .func fd, _⟩ => PySem.W.codeIn K fd.code d.qual && (match fd.code with
      | .ref cda => (match K.lookup cda with
        | some ⟨_, _, .fields vs, _⟩ => (match (vs[2]? : Option Value) with
          | some (.str file _) => decide ((P.main.file : Str) = file)
          | _ => false)
        | _ => false)
      | _ => false) && (match fd.closure with
      | [(_, cc)] => (match K.lookup cc with
        | some ⟨_, _, .cell (some (.ref C)), _⟩ => decide (C = He.ga K d.c)
        | _ => false)
      | _ => false) && (match fd.defaults, fd.kwdefaults with
      | .none, .none => true
      | _, _ => false)
  | _ => false)
theorem bindX {d : XDef} {name : Str} {dV kV doc pm cdv ct : Value} {an : Option Addr} {cl : List (Str × Addr)} (hd : dV = .none) (S : SimpleA d.args (("self" : Str) :: d.fs)) (us : List Value) (hl : us.length = (("self" : Str) :: d.fs).length) :
    bindArgs (PySem.W.fnX name d.qual d.args d.body d.sc cl dV kV doc pm an cdv ct) ⟨us, []⟩ = pure ((("self" : Str) :: d.fs).zip us) := by
  subst hd
  obtain ⟨k, e1, e2⟩ := bind_gen (fd := PySem.W.fnX name d.qual d.args d.body d.sc cl .none kV doc pm an cdv ct) S us [] (by omega) (Nat.zero_le _) (by simp only [List.length_nil]; omega)
  rw [e1]
  have z : seqItems? (PySem.W.fnX name d.qual d.args d.body d.sc cl .none kV doc pm an cdv ct).defaults = pure none := rfl
  rw [z, pure_bind, e2 none rfl]
  simp
theorem xtxt {P : Program} {K : PySem.W.Frag} {mg : Str → Option Value} {h : Heap} {d : XDef} (X : K.In h) (G : h.Ns mainGlobals mg) (h0 : okX P d = true) (h1 : xB P K d = true) (h2 : xObs K d.c = d.val) : ZX.ExTxt P K mg d.c (He.ga K d.c) (He.ma K (He.ga K d.c) "__init__") d.fs := by
  unfold okX at h0
  simp only [Bool.and_eq_true, Bool.not_eq_true', decide_eq_true_eq, List.all_eq_true] at h0
  obtain ⟨⟨⟨⟨⟨⟨⟨⟨⟨⟨⟨⟨⟨⟨a1, a2⟩, a3⟩, a4⟩, a5⟩, a6⟩, a7⟩, a8⟩, a9⟩, a10⟩, a11⟩, a12⟩, a13⟩, a14⟩, a15⟩ := h0
  unfold xB at h1
  simp only [Bool.and_eq_true, decide_eq_true_eq, List.all_eq_true] at h1
  obtain ⟨⟨⟨⟨⟨⟨⟨⟨⟨⟨⟨⟨⟨⟨⟨⟨⟨b1, b2⟩, b3⟩, b4⟩, b5⟩, b6⟩, b7⟩, b8⟩, b9⟩, b10⟩, b11⟩, b12⟩, b13⟩, b14⟩, b15⟩, b16⟩, b17⟩, b18⟩ := h1
  refine ⟨He.glo_ok X G b1, He.free_ok X G b2, xcls_ok b3, b4, b5, b6, b7, b8, b9, b10, b11, b12, b13, b14, b15, b16, b17, a1, a2, by simpa using a3, a4, fun f hf => by simpa using a5 f hf, ?_⟩
  unfold xObs at h2
  split at h2
  · rename_i oc od fd osl q
    rw [q] at b18
    obtain ⟨n1, n2, n3, n4, n5, n6, n7, n8, n9, n10, n11, n12, n13, n14, n15⟩ := fd
    simp only [XDef.val, Option.some.injEq, Prod.mk.injEq] at h2
    obtain ⟨g1, g2, g3, g4, g5, g6, g7, g8⟩ := h2
    subst g1 g2 g3 g4 g5 g6 g8
    simp only [Bool.and_eq_true] at b18
    obtain ⟨⟨⟨c1, c2⟩, c3⟩, c4⟩ := b18
    split at c2
    · rename_i cda
      split at c2
      · rename_i ccl cdd vs ccs qc
        split at c2
        · rename_i file tf qv
          split at c3
          · rename_i nm cc
            split at c3
            · rename_i cl cld C csl qcc
              have g7 : nm = "__class__" := by simpa using g7
              subst g7
              have c3 : C = He.ga K d.c := of_decide_eq_true c3
              subst c3
              split at c4
              · have hhd : ∃ ar, (d.args.posonlyargs ++ d.args.args).head? = some ar ∧ ar.arg = "self" := by
                  cases qa : (d.args.posonlyargs ++ d.args.args).head? with
                  | none => rw [qa] at a6; cases a6
                  | some ar => rw [qa] at a6; exact ⟨ar, rfl, Option.some.inj a6⟩
                obtain ⟨ar, ha1, ha2⟩ := hhd
                have a15' := simA_ok a15
                exact ⟨oc, od, d.qual, d.args, d.body, d.sc, _, _, _, _, osl, cc, cda, cl, ccl, cld, cdd, csl, ccs, vs, file, tf, ar, q, c1, qc, qv, by
                  have := of_decide_eq_true c2
                  rw [this]; exact beq_self_eq_true _, qcc, ha1, ha2, a7, a8, a9, a10, a11, a12, fun x hx => by simpa using a13 x hx, a14, fun us hl => bindX rfl a15' us hl⟩
              · cases c4
            · cases c3
          · cases c3
        · cases c2
      · cases c2
    · cases c2
  · cases h2
def faOf (P : Prg) : List He.Fa := P.fns.map (fun p => .glo p.1) ++ (P.clss.flatMap fun c => [He.Fa.glo c.1, .cls c.1, .mkr c.1] ++ c.2.map fun m => .meth c.1 m.1) ++ (P.flds.flatMap fun c => He.Fa.cls c.1 :: c.2.map fun f => .noat c.1 f) ++ P.blts.map He.Fa.free
def exmB (xs : List XDef) (K : PySem.W.Frag) : Bool := (He.Fa.glo "HeapError").ok K && xs.all fun c => (xs.all fun y => decide (PySem.W.exmOne K (.ref (He.ga K c.c)) (.ref (He.ga K y.c)) = some (exSub c.c y.c))) && decide (PySem.W.exmOne K (.ref (He.ga K c.c)) (.ref (He.ga K "HeapError")) = some true)
def neB (P : Prg) (K : PySem.W.Frag) : Bool := P.clss.all fun c => match c.2.lookup (Str.ofString "__eq__") with
  | none => true
  | some _ => He.eqO (PySem.W.findIn K (.ref (He.ga K c.1)) "__ne__") (some (some (.builtin "object.__ne__"))) && decide (PySem.W.mroIn K (He.ga K c.1) (.type "object") = some true)
def isxB (xs : List XDef) (K : PySem.W.Frag) : Bool := (He.eqO (PySem.W.specialIn K (.builtin "object.__class__") "__get__") (some (some (.builtin "getset_descriptor.__get__"))) && decide (PySem.W.takesIn K (.builtin "object.__class__") = some true)) &&
  xs.all fun c => (He.eqO (PySem.W.findIn K (.ref (He.ga K c.c)) "__class__") (some (some (.builtin "object.__class__"))) && decide (PySem.W.mroIn K (He.ga K c.c) (.type "object") = some true)) && (decide (PySem.W.kitOne K (.ref (He.ga K c.c)) (.type "ValueError") = some true) && xs.all fun y => decide (PySem.W.kitOne K (.ref (He.ga K c.c)) (.ref (He.ga K y.c)) = some (decide (c.c = y.c))))
def oxB (P : Prg) (xs : List XDef) (K : PySem.W.Frag) : Bool := if P.own "__eq__" = true then neB P K && isxB xs K else if kindsOn P = true then isxB xs K else true
theorem own_of {P : Prg} {c m : Str} {fd : FDef} (h : P.fdef (.meth c m) = some fd) : P.own m = true ∧ ∃ ms, (c, ms) ∈ P.clss ∧ ms.lookup m = some fd := by
  have h' : (P.clss.lookup c).bind (fun ms => ms.lookup m) = some fd := h
  cases q : P.clss.lookup c with
  | none => rw [q] at h'; cases h'
  | some ms =>
    rw [q] at h'
    have h' : ms.lookup m = some fd := h'
    have hm := PySem.mem_of_lookup q
    refine ⟨List.any_eq_true.mpr ⟨(c, ms), hm, ?_⟩, ms, hm, h'⟩
    show (ms.lookup m).isSome = true
    rw [h']; rfl
theorem neB_ok {P : Prg} {xs : List XDef} {K : PySem.W.Frag} (h : oxB P xs K = true) {c : Str} {fd : FDef} (hf : P.fdef (.meth c "__eq__") = some fd) : PySem.W.findIn K (.ref (He.ga K c)) "__ne__" = some (some (.builtin "object.__ne__")) ∧ PySem.W.mroIn K (He.ga K c) (.type "object") = some true := by
  obtain ⟨ho, ms, hm, hl⟩ := own_of hf
  unfold oxB at h
  rw [if_pos ho] at h
  have h := (Bool.and_eq_true_iff.mp h).1
  unfold neB at h
  have z := List.all_eq_true.mp h (c, ms) hm
  dsimp only at z
  rw [hl] at z
  dsimp only at z
  rw [Bool.and_eq_true, decide_eq_true_eq] at z
  exact ⟨He.eqO_ok z.1, z.2⟩
theorem isxB_ok {P : Prg} {xs : List XDef} {K : PySem.W.Frag} (h : oxB P xs K = true) (ho : isxOn P = true) : (PySem.W.specialIn K (.builtin "object.__class__") "__get__" = some (some (.builtin "getset_descriptor.__get__")) ∧ PySem.W.takesIn K (.builtin "object.__class__") = some true) ∧
    ∀ c ∈ xs, (PySem.W.findIn K (.ref (He.ga K c.c)) "__class__" = some (some (.builtin "object.__class__")) ∧ PySem.W.mroIn K (He.ga K c.c) (.type "object") = some true) ∧ PySem.W.kitOne K (.ref (He.ga K c.c)) (.type "ValueError") = some true ∧ ∀ y ∈ xs, PySem.W.kitOne K (.ref (He.ga K c.c)) (.ref (He.ga K y.c)) = some (decide (c.c = y.c)) := by
  have h : isxB xs K = true := by
    unfold oxB at h
    by_cases h1 : P.own "__eq__" = true
    · rw [if_pos h1] at h
      exact (Bool.and_eq_true_iff.mp h).2
    · rw [if_neg h1] at h
      have h2 : kindsOn P = true := by
        unfold isxOn at ho
        rcases Bool.or_eq_true_iff.mp ho with z | z
        · exact absurd z h1
        · exact z
      rw [if_pos h2] at h
      exact h
  unfold isxB at h
  simp only [Bool.and_eq_true, List.all_eq_true, decide_eq_true_eq] at h
  exact ⟨⟨He.eqO_ok h.1.1, h.1.2⟩, fun c hc => ⟨⟨He.eqO_ok (h.2 c hc).1.1, (h.2 c hc).1.2⟩, (h.2 c hc).2.1, fun y hy => (h.2 c hc).2.2 y hy⟩⟩
def noLst (K : PySem.W.Frag) : Bool := K.all fun p => !decide (p.2.cls = .type "list")
def chk (P : Prg) (xs : List XDef) (prog : Program) (K : PySem.W.Frag) : Bool := isaB P K && P.cons.all (conG K) && xs.all (xB prog K) && (xs.isEmpty || exmB xs K) && (defsOf P).all (fun p => dflB K (atOf p.1) 0 p.2.dfl) && oxB P xs K && noLst K
abbrev AlZ : Type := He.AlD × Bool × List FnXV
def fnOf (P : Prg) : List He.DefD := (defsOf P).map toDD
def obsZ (P : Prg) (xs : List XDef) (prog : Program) (K : PySem.W.Frag) : AlZ := (He.obsD (faOf P) (fnOf P) K, chk P xs prog K, xs.map fun d => xObs K d.c)
def valZ (P : Prg) (xs : List XDef) : AlZ := (He.valD (fnOf P), true, xs.map XDef.val)
def memB (s a : Nat) : Bool := Nat.beq (Nat.land (Nat.shiftRight s a) 1) 1
def addB : List Addr → Nat → List Addr → Nat × List Addr
  | [], s, acc => (s, acc)
  | a :: r, s, acc => match memB s a with
    | true => addB r s acc
    | false => addB r (Nat.lor s (Nat.shiftLeft 1 a)) (a :: acc)
def growR (g : Addr → Option Obj) : Nat → Nat → List Addr → List Addr → List Addr
  | 0, _, fr, old => old ++ fr
  | n + 1, s, fr, old => match addB (fr.flatMap fun a => match g a with
      | some o => He.refsD o
      | none => []) s [] with
    | (s', fr') => growR g n s' fr' (old ++ fr)
def growZ (g : Addr → Option Obj) (n : Nat) : List Addr := match addB [mainGlobals, PySem.cStatics] 0 [] with
  | (s, fr) => growR g n s fr []
abbrev DTab : Type := List (Str × List (Key × PV))
def dsOf (Ds : DTab) (K : PySem.W.Frag) : List Addr := Ds.map fun p => He.ga K p.1
def hideK (as : List Addr) (K : PySem.W.Frag) : PySem.W.Frag := K.filter fun p => !(as.contains p.1)
def keyB : List (Key × PV) → List DictEntry → Bool
  | [], [] => true
  | (k, _) :: r, e :: es => keyIs k e.key && keyB r es
  | _, _ => false
def dOne (K0 K : PySem.W.Frag) (p : Str × List (Key × PV)) : Option (List Int) := match K0.lookup (He.ga K p.1) with
  | some ⟨.type c, none, .dict es _, sl⟩ => if (decide (c = "dict") && decide (sl = #[]) && keyB p.2 es.toList && conBs K (p.2.map (·.2)) (es.toList.map (·.val)) && He.eqO (PySem.W.nsIn K mainGlobals p.1) (some (some (.ref (He.ga K p.1)))) && (K.lookup (He.ga K p.1)).isNone && !([mainGlobals, builtinsNs, cStatics].contains (He.ga K p.1)) && !(He.ga K p.1 == sysModules) && decide (p.2.length ≤ 1000) && decide (p.2.map (·.1)).Nodup) = true then some (es.toList.map (·.hash)) else none
  | _ => none
def dAll (K0 K : PySem.W.Frag) (Ds : DTab) : Option (List (List Int)) := if (dsOf Ds K).Nodup then mapO (dOne K0 K) Ds else none
abbrev AlD2 : Type := AlZ × Option (List (List Int))
def obsD2 (P : Prg) (xs : List XDef) (Ds : DTab) (prog : Program) (K0 : PySem.W.Frag) : AlD2 := (obsZ P xs prog (hideK (dsOf Ds K0) K0), dAll K0 (hideK (dsOf Ds K0) K0) Ds)
def valD2 (P : Prg) (xs : List XDef) (Ds : DTab) (w : World) : AlD2 := (valZ P xs, some (Ds.map fun p => p.2.map fun kv => keyH w kv.1))
theorem look_filter {f : Addr × Obj → Bool} : ∀ {l : List (Addr × Obj)} {a : Addr} {o : Obj}, (∀ o, f (a, o) = true) ∨ (∀ o, f (a, o) = false) → (l.filter f).lookup a = some o → l.lookup a = some o
  | [], _, _, _, h => by cases h
  | (b, u) :: r, a, o, hf, h => by
    by_cases e : a = b
    · subst e
      rcases hf with hf | hf
      · rw [List.filter_cons_of_pos (hf u), List.lookup_cons_self] at h
        rw [List.lookup_cons_self]; exact h
      · exfalso
        have z : ∀ l : List (Addr × Obj), (l.filter f).lookup a = none := by
          intro l
          induction l with
          | nil => rfl
          | cons p l ih =>
            obtain ⟨c, v⟩ := p
            by_cases e2 : a = c
            · subst e2
              rw [List.filter_cons_of_neg (by rw [hf v]; decide)]; exact ih
            · by_cases e3 : f (c, v) = true
              · rw [List.filter_cons_of_pos e3, List.lookup_cons, show (a == c) = false by simpa using e2]; exact ih
              · rw [List.filter_cons_of_neg e3]; exact ih
        rw [z] at h; cases h
    · have e' : (a == b) = false := by simpa using e
      rw [List.lookup_cons, e']
      by_cases e3 : f (b, u) = true
      · rw [List.filter_cons_of_pos e3, List.lookup_cons, e'] at h
        exact look_filter hf h
      · rw [List.filter_cons_of_neg e3] at h
        exact look_filter hf h
theorem hideK_in {as : List Addr} {K : PySem.W.Frag} {h : Heap} (X : K.In h) : (hideK as K).In h := fun b o e => X b o (by
  refine look_filter (f := fun p => !(as.contains p.1)) ?_ e
  cases q : as.contains b with
  | true => exact .inr fun _ => by simp only [q]; rfl
  | false => exact .inl fun _ => by simp only [q]; rfl)
structure DctAt (K : PySem.W.Frag) (w : World) (h : Heap) (p : Str × List (Key × PV)) : Prop where
  ob : ∃ o es ep kvs vs, h.get? (He.ga K p.1) = some o ∧ o.ExactDict ∧ o.data = .dict es ep ∧ kvs.length ≤ sizeLine ∧ KV kvs vs ∧ (∀ prog, h.DictOf (mixKind prog w) (He.ga K p.1) vs) ∧ ∀ ex ρ H, RKs ⟨K, w, ex⟩ ρ H p.2 kvs
  ns : PySem.W.nsIn K mainGlobals p.1 = some (some (.ref (He.ga K p.1)))
  no : K.lookup (He.ga K p.1) = none
  nm : He.ga K p.1 ≠ mainGlobals ∧ He.ga K p.1 ≠ builtinsNs ∧ He.ga K p.1 ≠ cStatics ∧ (He.ga K p.1 == sysModules) = false
theorem dct_pairs {K : PySem.W.Frag} {w : World} : ∀ {kvs : List (Key × PV)} {es : List DictEntry}, keyB kvs es = true → conBs K (kvs.map (·.2)) (es.map (·.val)) = true → es.map (·.hash) = kvs.map (fun kv => keyH w kv.1) →
    ∃ (kv : List (Key × V)) (vs : List (Key × Value)), kv.length = kvs.length ∧ KV kv vs ∧ vs.map (·.1) = kvs.map (·.1) ∧ (∀ prog, Pairs (mixKind prog w) es vs) ∧ (∀ prog, ∀ e ∈ es, ∃ k, (mixKind prog w).is k e.key = true ∧ e.hash = (mixKind prog w).hash k) ∧ ∀ ex ρ H, RKs ⟨K, w, ex⟩ ρ H kvs kv
  | [], [], _, _, _ => ⟨[], [], rfl, .nil, rfl, fun _ => .nil, fun _ e he => absurd he (by simp), fun _ _ _ => .nil⟩
  | (k, x) :: r, e :: es, h1, h2, h3 => by
    simp only [keyB, Bool.and_eq_true] at h1
    simp only [List.map_cons, conBs, Bool.and_eq_true] at h2
    simp only [List.map_cons, List.cons.injEq] at h3
    obtain ⟨v, r1, r2⟩ := conB_ok (w := w) h2.1
    obtain ⟨kv, vs, z0, z1, z2, z3, z4, z5⟩ := dct_pairs h1.2 h2.2 h3.2
    refine ⟨(k, v) :: kv, (k, e.val) :: vs, by simp [z0], .cons ⟨rfl, r1⟩ z1, by simp [z2], fun prog => .cons h1.1 rfl (z3 prog), fun prog e' he => ?_, fun ex ρ H => .cons (r2 ex ρ H) (z5 ex ρ H)⟩
    rcases List.mem_cons.mp he with rfl | he
    · exact ⟨k, h1.1, h3.1⟩
    · exact z4 prog e' he
  | [], _ :: _, h, _, _ => by simp only [keyB] at h; cases h
  | (_, _) :: _, [], h, _, _ => by simp only [keyB] at h; cases h
theorem dOne_ok {K0 K : PySem.W.Frag} {w : World} {h : Heap} (X0 : K0.In h) {p : Str × List (Key × PV)} (e : dOne K0 K p = some (p.2.map fun kv => keyH w kv.1)) : DctAt K w h p := by
  unfold dOne at e
  split at e
  · rename_i c es ep sl q
    split at e
    · rename_i hc
      simp only [Bool.and_eq_true, decide_eq_true_eq] at hc
      obtain ⟨⟨⟨⟨⟨⟨⟨⟨⟨c1, c2⟩, c3⟩, c4⟩, c5⟩, c6⟩, c7⟩, c8⟩, c9⟩, c10⟩ := hc
      have eh := Option.some.inj e
      obtain ⟨kv, vs, z0, z1, z2, z3, z4, z5⟩ := dct_pairs (w := w) c3 c4 eh
      have hget := X0 _ _ q
      have hx : Obj.ExactDict ⟨.type c, none, .dict es ep, sl⟩ := ⟨congrArg Value.type c1, rfl, c2⟩
      refine ⟨⟨_, es, ep, kv, vs, hget, hx, rfl, by rw [z0, sizeLine_eq]; omega, z1, fun prog => ⟨_, es, ep, hget, hx, rfl, fun e' he => z4 prog e' (by simpa using he), z3 prog, by rw [z2]; exact c10⟩, z5⟩, He.eqO_ok c5, by simpa using c6, ?_⟩
      simp only [List.contains_cons, List.contains_nil, Bool.or_false, Bool.not_eq_true', Bool.or_eq_false_iff, beq_eq_false_iff_ne, ne_eq] at c7
      exact ⟨c7.1, c7.2.1, c7.2.2, by simpa using c8⟩
    · cases e
  · cases e
theorem dAll_ok {K0 K : PySem.W.Frag} {w : World} {h : Heap} (X0 : K0.In h) {Ds : DTab} (e : dAll K0 K Ds = some (Ds.map fun p => p.2.map fun kv => keyH w kv.1)) : (dsOf Ds K).Nodup ∧ ∀ p ∈ Ds, DctAt K w h p := by
  unfold dAll at e
  split at e
  · rename_i hn
    refine ⟨hn, ?_⟩
    have go : ∀ Ds : DTab, mapO (dOne K0 K) Ds = some (Ds.map fun p => p.2.map fun kv => keyH w kv.1) → ∀ p ∈ Ds, DctAt K w h p := by
      intro Ds
      induction Ds with
      | nil => exact fun _ p hp => absurd hp (by simp)
      | cons q r ih =>
        intro e p hp
        simp only [mapO] at e
        split at e
        · rename_i y qy
          cases qr : mapO (dOne K0 K) r with
          | none => rw [qr] at e; cases e
          | some ys =>
            rw [qr] at e
            simp only [Option.map_some, List.map_cons, Option.some.injEq, List.cons.injEq] at e
            rcases List.mem_cons.mp hp with rfl | hp
            · exact dOne_ok X0 (by rw [qy, e.1])
            · exact ih (by rw [qr, e.2]) p hp
        · cases e
    exact go Ds e
  · cases e
def hookZ (n : Nat) (P : Prg) (xs : List XDef) (Ds : DTab) (prog : Program) : PySem.W.Hook where
  α := AlD2
  obs := fun s => obsD2 P xs Ds prog (He.frG s.heap.get? (growZ s.heap.get? n))
  val := fun w => valD2 P xs Ds w
  says := fun w h => ∃ K : PySem.W.Frag, K.In h ∧ obsD2 P xs Ds prog K = valD2 P xs Ds w
  of := fun _ _ e => ⟨_, He.frG_in, e⟩
  keeps := fun _ _ _ ⟨K, hK, c⟩ k => ⟨K, PySem.W.Frag.In.keeps hK k, c⟩
def obsZG (n : Nat) (P : Prg) (xs : List XDef) (Ds : DTab) (prog : Program) (g : Addr → Option Obj) : AlD2 := obsD2 P xs Ds prog (He.frG g (growZ g n))
theorem obsZG_eq {n : Nat} {P : Prg} {xs : List XDef} {Ds : DTab} {prog : Program} {g : Addr → Option Obj} {s : Shared} (h : ∀ a, g a = s.heap.get? a) : obsZG n P xs Ds prog g = (hookZ n P xs Ds prog).obs s := by
  have e : g = s.heap.get? := funext h
  rw [e] <;> rfl
def okAll (P : Prg) (xs : List XDef) (prog : Program) : Bool := (defsOf P).all (fun p => okDef p.2) && xs.all (okX prog) && decide (P.excs = xs.map fun d => (d.c, d.fs))
theorem static_of {P : Prg} {xs : List XDef} {prog : Program} {w : World} {K : PySem.W.Frag} {mg : Str → Option Value} {base : Heap} (ok : okAll P xs prog = true) (hne : xs ≠ []) (X : K.In base) (G : base.Ns mainGlobals mg) (c : obsZ P xs prog K = valZ P xs) (hdct : ∀ x i, P.dcts.lookup x = some i → mg x = some (.ref (He.ga K x))) : Static P prog w K mg base := by
  unfold okAll at ok
  simp only [Bool.and_eq_true, List.all_eq_true, decide_eq_true_eq] at ok
  obtain ⟨⟨o1, o2⟩, o3⟩ := ok
  have c1 : He.SaysD (faOf P) (fnOf P) K := congrArg (fun z : AlZ => z.1) c
  have c2 : chk P xs prog K = true := congrArg (fun z : AlZ => z.2.1) c
  have c3 : (xs.map fun d => xObs K d.c) = xs.map XDef.val := congrArg (fun z : AlZ => z.2.2) c
  unfold chk at c2
  simp only [Bool.and_eq_true, List.all_eq_true] at c2
  obtain ⟨⟨⟨⟨⟨⟨d1, d2⟩, d3⟩, d4⟩, d5⟩, d7⟩, _⟩ := c2
  have inFns : ∀ {f}, f ∈ P.fns.map (fun p => He.Fa.glo p.1) → f ∈ faOf P := fun h => List.mem_append_left _ (List.mem_append_left _ (List.mem_append_left _ h))
  have inCls : ∀ {f}, f ∈ (P.clss.flatMap fun c => [He.Fa.glo c.1, .cls c.1, .mkr c.1] ++ c.2.map fun m => He.Fa.meth c.1 m.1) → f ∈ faOf P := fun h => List.mem_append_left _ (List.mem_append_left _ (List.mem_append_right _ h))
  have inFld : ∀ {f}, f ∈ (P.flds.flatMap fun c => He.Fa.cls c.1 :: c.2.map fun f => He.Fa.noat c.1 f) → f ∈ faOf P := fun h => List.mem_append_left _ (List.mem_append_right _ h)
  have inBlt : ∀ {f}, f ∈ P.blts.map He.Fa.free → f ∈ faOf P := fun h => List.mem_append_right _ h
  have hcls : ∀ c ms, (c, ms) ∈ P.clss → mg c = some (.ref (He.ga K c)) ∧ Cls K (He.ga K c) ∧ Mk K (He.ga K c) (He.ma K (He.ga K c) "__init__") := fun c ms hm => by
    refine ⟨He.glo_ok X G (says_fact c1 (inCls (List.mem_flatMap.mpr ⟨(c, ms), hm, by simp⟩))), He.cls_ok (says_fact c1 (inCls (List.mem_flatMap.mpr ⟨(c, ms), hm, by simp⟩))), He.mkr_ok (says_fact c1 (inCls (List.mem_flatMap.mpr ⟨(c, ms), hm, by simp⟩)))⟩
  have hdef : ∀ id fd, P.fdef id = some fd → ∃ fdat, FunD K fd.nm fd.qual fd.args fd.body fd.sc ((dvsOf (atOf id) 0 fd.dfl).map (He.Dv.v K)) [] (adr K id) fdat := fun id fd h => by
    obtain ⟨fdat, F⟩ := says_def c1 (List.mem_map.mpr ⟨(id, fd), fdef_mem h, rfl⟩ : toDD (id, fd) ∈ fnOf P)
    have e : He.fAd K (atOf id) = adr K id := by cases id <;> rfl
    exact ⟨fdat, by rw [← e]; exact F⟩
  have xmem : ∀ c fs, P.excs.lookup c = some fs → ∃ d ∈ xs, d.c = c ∧ d.fs = fs := fun c fs h => by
    have hm := PySem.mem_of_lookup h
    rw [o3] at hm
    obtain ⟨d, hd, e⟩ := List.mem_map.mp hm
    cases e
    exact ⟨d, hd, rfl, rfl⟩
  have xtx : ∀ d ∈ xs, ZX.ExTxt prog K mg d.c (He.ga K d.c) (He.ma K (He.ga K d.c) "__init__") d.fs := fun d hd => by
    refine xtxt X G (o2 d hd) (d3 d hd) ?_
    obtain ⟨i, hi, e⟩ := List.mem_iff_getElem.mp hd
    have z : (xs.map fun d => xObs K d.c)[i]? = (xs.map XDef.val)[i]? := by rw [c3]
    rw [List.getElem?_map, List.getElem?_map, List.getElem?_eq_getElem hi, e] at z
    exact Option.some.inj z
  have hx : exmB xs K = true := by
    rcases (Bool.or_eq_true _ _).mp d4 with h | h
    · exact absurd (by simpa using h) hne
    · exact h
  unfold exmB at hx
  simp only [Bool.and_eq_true, List.all_eq_true, decide_eq_true_eq] at hx
  refine ⟨fun id fd h => ?_, fun x fd h => ?_, fun c ms h => hcls c ms (PySem.mem_of_lookup h), fun c m fd h => ?_, fun c fd h => neB_ok d7 h, fun c f h => ?_, fun x v h => ?_, fun x h => ?_, isaB_ok d1 fun c ms hm => (hcls c ms hm).2.1, ?_, hdct⟩
  · obtain ⟨fdat, F⟩ := hdef id fd h
    have od := o1 (id, fd) (fdef_mem h)
    unfold okDef at od
    simp only [Bool.and_eq_true, decide_eq_true_eq] at od
    obtain ⟨⟨⟨p1, p2⟩, p3⟩, p4⟩ := od
    have F' := F
    obtain ⟨oc, od', dV, kV, doc, pm, an, cdv, ct, osl, rfl, lk, hcd, hD, hK⟩ := F.ex
    refine ⟨oc, od', fd.nm, fd.args, dV, kV, doc, pm, an, cdv, ct, osl, lk, hcd, C8.fnScope_by p1, fun j hj => ?_, fun n ks hk => ?_⟩
    · obtain ⟨ds, k1, k2⟩ := binds_of F' (simA_ok p2) (by simpa [dvsOf_len] using p4) j (by simpa [dvsOf_len] using hj)
      refine ⟨ds, _, k1, fun ρ H => ?_, k2⟩
      exact (rvs_dfl p3 (d5 _ (fdef_mem h))).drop j
    · obtain ⟨its, k1, k2⟩ := kbinds_of F' (simA_ok p2) n ks (by simpa [dvsOf_len] using kwOk_of hk)
      exact ⟨its, _, k1, fun ρ H => rvs_dfl p3 (d5 _ (fdef_mem h)), k2⟩
  · obtain ⟨fdat, F⟩ := hdef (.fn x) fd h
    exact ⟨He.glo_ok X G (says_fact c1 (inFns (List.mem_map.mpr ⟨(x, fd), PySem.mem_of_lookup h, rfl⟩))), F.kp⟩
  · have h' : (P.clss.lookup c).bind (fun ms => ms.lookup m) = some fd := h
    cases q : P.clss.lookup c with
    | none => rw [q] at h'; cases h'
    | some ms =>
      rw [q] at h'
      have hm := PySem.mem_of_lookup q
      have hm2 : (m, fd) ∈ ms := PySem.mem_of_lookup h'
      exact ⟨(hcls c ms hm).2.1, He.meth_ok (says_fact c1 (inCls (List.mem_flatMap.mpr ⟨(c, ms), hm, List.mem_append_right _ (List.mem_map.mpr ⟨(m, fd), hm2, rfl⟩)⟩)))⟩
  · unfold Prg.isFld at h
    cases q : P.flds.lookup c with
    | none => rw [q] at h; cases h
    | some fs =>
      rw [q] at h
      have hm := PySem.mem_of_lookup q
      have hf : f ∈ fs := by simpa using h
      exact ⟨He.cls_ok (says_fact c1 (inFld (List.mem_flatMap.mpr ⟨(c, fs), hm, List.mem_cons_self⟩))), He.noat_ok (says_fact c1 (inFld (List.mem_flatMap.mpr ⟨(c, fs), hm, List.mem_cons_of_mem _ (List.mem_map.mpr ⟨f, hf, rfl⟩)⟩)))⟩
  · have z := d2 (x, v) (PySem.mem_of_lookup h)
    unfold conG at z
    split at z
    · rename_i u q
      obtain ⟨v', k1, k2⟩ := conB_ok z
      exact ⟨u, v', PySem.W.mg_of X G q, k1, k2⟩
    · cases z
  · exact He.free_ok X G (says_fact c1 (inBlt (List.mem_map.mpr ⟨x, by simpa using h, rfl⟩)))
  · refine ⟨fun c fs h => ?_, He.glo_ok X G hx.1, fun ho c hc => ?_, fun c y hc hy => ?_⟩
    · obtain ⟨d, hd, rfl, rfl⟩ := xmem c fs h
      exact ⟨_, xtx d hd⟩
    · obtain ⟨⟨i1, i2⟩, i3⟩ := isxB_ok d7 ho
      cases qc : P.excs.lookup c with
      | none => rw [qc] at hc; cases hc
      | some fs =>
        obtain ⟨d, hd, rfl, rfl⟩ := xmem c fs qc
        obtain ⟨⟨i4, i5⟩, i7, i6⟩ := i3 d hd
        refine ⟨i4, i1, i2, i5, i7, fun y hy => ?_⟩
        cases qy : P.excs.lookup y with
        | none => rw [qy] at hy; cases hy
        | some fs2 =>
          obtain ⟨d2, hd2, rfl, rfl⟩ := xmem y fs2 qy
          exact i6 d2 hd2
    · cases qc : P.excs.lookup c with
      | none => rw [qc] at hc; cases hc
      | some fs =>
        obtain ⟨d, hd, rfl, rfl⟩ := xmem c fs qc
        rcases hy with hy | hy
        · cases qy : P.excs.lookup y with
          | none => rw [qy] at hy; cases hy
          | some fs2 =>
            obtain ⟨d2, hd2, rfl, rfl⟩ := xmem y fs2 qy
            exact (hx.2 d hd).1 d2 hd2
        · subst hy
          have e : exSub d.c (Str.ofString "HeapError") = true := by unfold exSub; simp
          rw [e]
          exact (hx.2 d hd).2
end Z
end
noncomputable section
namespace Z
open PySem PySem.Spec PyProof.Rows L2
set_option autoImplicit false
theorem mem_look {β : Type} : ∀ {l : List (Addr × β)} {a : Addr} {b : β}, l.lookup a = some b → (a, b) ∈ l
  | [], _, _, h => by cases h
  | (k, v) :: r, a, b, h => by
    rw [List.lookup_cons] at h
    cases q : a == k with
    | true =>
      rw [q] at h
      have e : a = k := eq_of_beq q
      cases h; subst e
      exact List.mem_cons_self
    | false =>
      rw [q] at h
      exact List.mem_cons_of_mem _ (mem_look h)
theorem noLst_ok {K : PySem.W.Frag} (h : noLst K = true) {a : Addr} {o : Obj} (e : K.lookup a = some o) : o.cls ≠ .type "list" := by
  have z := List.all_eq_true.mp h (a, o) (mem_look e)
  simpa using z
theorem law_callD {P : Program} {w : World} {K : PySem.W.Frag} {mg mb : Str → Option Value} {CX : CXT} {k : Nat} {fa a : Addr} {fd : FuncData} {x : Str} {sp : Sp} {s₁ : Shared} {vs : List Value} {ns : List Int} {ds : List Addr} {T : Addr → HO}
    (KX : K.In s₁.heap) (hns : s₁.heap.Ns mainGlobals mg) (hb : s₁.heap.Ns builtinsNs mb) (hbb : ∀ x : Str, x ≠ "__name__" → mb x = bootBuiltins x) (hlim : s₁.heap.NoLimit) (hg : s₁.gens = #[])
    (hT : ∀ d ∈ ds, ∃ o v es ep, T d = .frz o v ∧ s₁.heap.get? d = some o ∧ o.data = .dict es ep ∧ ∀ H, ObjOk P w H s₁.heap d v) (nT : ∀ d ∈ ds, K.lookup d = none) (sT : ∀ d ∈ ds, d ≠ mainGlobals ∧ d ≠ builtinsNs ∧ d ≠ cStatics)
    (ha : s₁.heap.get? a = some { cls := .type "list", data := .seq vs.toArray }) (hi : IntsAre vs ns) (hl : ns.length ≤ sizeLine) (hr : Room k callerA) (hka : K.lookup a = none)
    (F : ∀ base : Heap, K.In base → base.Ns mainGlobals mg → FnOk P w K mg base CX k fa fd [x] sp) (hbind : ∀ (s : Shared) (u : Value), BindsTo s fd ⟨[u], []⟩ [(x, u)])
    (hsp : ∀ (H : Hp) (o : Obj), H a = some (.frz o (.lst (ns.map V.int))) → a ∉ ds → (∀ d ∈ ds, H d = some (T d)) → sp [.ref a] H (fun v _ => v = .bl true) fun _ _ _ => False)
    (hCX : ∀ H e s', CX [] H s₁ (fun _ _ _ => False) e s' → False) :
    codeAny (model P w) callerA (.call (.ref fa) ⟨[.ref a], []⟩) (fun r s' => r = .ok (.ret (.bool true)) ∧ OldK s₁.heap s'.heap ∧ s'.os = s₁.os ∧ AllBare s'.gens) s₁ := by
  have rv := vals_ints hi
  have aD : a ∉ ds := fun z => by
    obtain ⟨o, v, es, ep, _, e, d, _⟩ := hT a z
    rw [ha] at e; cases e; cases d
  let H : Hp := fun b => if b = a then some (.frz { cls := .type "list", data := .seq vs.toArray } (.lst (ns.map V.int))) else if b ∈ ds then some (T b) else none
  have Ha : H a = some (.frz { cls := .type "list", data := .seq vs.toArray } (.lst (ns.map V.int))) := if_pos rfl
  have Hd : ∀ d ∈ ds, H d = some (T d) := fun d hd => (if_neg (show ¬ d = a from fun z => aD (z ▸ hd))).trans (if_pos hd)
  have Hn : ∀ b, b ≠ a → b ∉ ds → H b = none := fun b h1 h2 => (if_neg h1).trans (if_neg h2)
  have hF : ∀ b u, H b = some u → ∃ o v, u = .frz o v := fun b u z => by
    by_cases h1 : b = a
    · subst h1; rw [Ha] at z; cases z; exact ⟨_, _, rfl⟩
    · by_cases h2 : b ∈ ds
      · rw [Hd b h2] at z; cases z
        obtain ⟨o, v, _, _, e, _⟩ := hT b h2
        exact ⟨o, v, e⟩
      · rw [Hn b h1 h2] at z; cases z
  have hok : HOk P w H s₁.heap := fun b u z => by
    by_cases h1 : b = a
    · subst h1; rw [Ha] at z; cases z
      exact ⟨ha, by rw [List.length_map]; exact hl, vs, _, rv, ha⟩
    · by_cases h2 : b ∈ ds
      · rw [Hd b h2] at z; cases z
        obtain ⟨o, v, _, _, e, e2, _, e3⟩ := hT b h2
        rw [e]
        exact ⟨e2, e3 H⟩
      · rw [Hn b h1 h2] at z; cases z
  have base_of : ∀ {b : Addr} {o : Obj}, s₁.heap.get? b = some o → H b = none → (hidT s₁.heap H).get? b = some o := fun e n => hidT_get e n
  have noA : ∀ {b : Addr} {o : Obj} {es : Array DictEntry} {ep : Nat}, b ∉ ds → s₁.heap.get? b = some o → o.data = .dict es ep → H b = none := fun {b o es ep} nb e d => by
    refine Hn b (fun z => ?_) nb
    subst z; rw [ha] at e; cases e; cases d
  have nsK : ∀ {b : Addr} {m : Str → Option Value}, b ∉ ds → s₁.heap.Ns b m → (hidT s₁.heap H).Ns b m := fun {b m} nb ⟨o, es, ep, e, d, r⟩ => ⟨o, es, ep, base_of e (noA nb e d), d, r⟩
  have hKb : K.In (hidT s₁.heap H) := fun b o e => base_of (KX b o e) (Hn b (fun z => by subst z; rw [hka] at e; cases e) (fun z => by rw [nT b z] at e; cases e))
  have n1 : mainGlobals ∉ ds := fun z => (sT _ z).1 rfl
  have n2 : builtinsNs ∉ ds := fun z => (sT _ z).2.1 rfl
  have n3 : cStatics ∉ ds := fun z => (sT _ z).2.2 rfl
  have hM : Mod K mg (hidT s₁.heap H) := ⟨hKb, nsK n1 hns, ⟨mb, nsK n2 hb, hbb⟩, let ⟨mc, h1, h2⟩ := hlim; ⟨mc, nsK n3 h1, h2⟩⟩
  have e0 : Env0 P w K mg (hidT s₁.heap H) callerA [] s₁ H := ⟨rfl, hM, fun b o e => of_hidT e, Nat.le_of_eq (hidT_size _ _), trivial, fun b hb => absurd (show b ∈ ([] : List Addr) from hb) (by simp), hok, .of_eq hg⟩
  refine codeAny_mono ((F _ hKb (nsK n1 hns)).run callerA [] s₁ H ⟨[.ref a], []⟩ [.ref a] [.ref a] _ _ hr e0 (hbind s₁ (.ref a)) (.cons rfl .nil) (hsp H _ Ha aD Hd)) fun r s' h => ?_
  cases r with
  | error e => exact (hCX H e s' h).elim
  | ok fl =>
    cases fl with
    | next => exact False.elim h
    | brk => exact False.elim h
    | cont => exact False.elim h
    | ret u =>
      obtain ⟨v, H', os, bare, un, hok', r', q⟩ := h
      have q' : v = .bl true := q
      subst q'
      obtain rfl : u = Value.bool true := r'
      refine ⟨rfl, OldK.of_keep fun b o e => ?_, os, bare⟩
      cases q : H b with
      | none => exact un.keep b o e q (by intro z; exact absurd (show b ∈ ([] : List Addr) from z) (by simp)) (by simp)
      | some u =>
        obtain ⟨ob, v, rfl⟩ := hF b u q
        have z2 := un.frzs b ob _ q
        obtain ⟨e1, _⟩ := hok b _ q
        obtain ⟨e2, _⟩ := hok' b _ z2
        rw [e] at e1; cases e1
        exact e2
def ih0 (Ds : DTab) : IH := Ds.map fun p => .fdK p.1 p.2
theorem law_start {P : Prg} {F m : Nat} {id : FId} {K : PySem.W.Frag} {w : World} {Ds : DTab} {T : Addr → HO} (hnd : (dsOf Ds K).Nodup) {H : Hp} {a : Addr} {ns : List Int} {o : Obj} (Ha : H a = some (.frz o (.lst (ns.map V.int)))) (aD : a ∉ dsOf Ds K)
    (hT : ∀ p ∈ Ds, ∃ o kvs, H (He.ga K p.1) = some (.frz o (.dK kvs)) ∧ ∀ ex ρ H, RKs ⟨K, w, ex⟩ ρ H p.2 kvs) {h : IH} (e : callF P F m id [.ref 0] (.flst (ns.map PV.int) :: ih0 Ds) = .ok (.bl true) h) :
    spOf K w 1 (callF P F m id) [.ref a] H (fun v _ => v = .bl true) fun _ _ _ => False := by
  have rv : ∀ (ρ : List Addr) (H : Hp) (l : List Int), RVs ⟨K, w, none⟩ ρ H (l.map PV.int) (l.map V.int) := by
    intro ρ H l
    induction l with
    | nil => exact .nil
    | cons x l ih => exact .cons (.int x) ih
  refine ⟨rfl, a :: dsOf Ds K, .flst (ns.map PV.int) :: ih0 Ds, [.ref 0], ⟨by simp [ih0, dsOf], List.nodup_cons.mpr ⟨aD, hnd⟩, fun n b o' e1 e2 => ?_⟩, .cons (.ref rfl) .nil, ?_⟩
  · cases n with
    | zero =>
      simp at e1 e2
      subst e1; subst e2
      exact ⟨o, _, Ha, rv _ _ ns⟩
    | succ n =>
      simp only [List.getElem?_cons_succ] at e1 e2
      unfold dsOf at e1
      unfold ih0 at e2
      rw [List.getElem?_map] at e1 e2
      cases q : Ds[n]? with
      | none => rw [q] at e1; cases e1
      | some p =>
        rw [q] at e1 e2
        cases e1; cases e2
        obtain ⟨o, kvs, k1, k2⟩ := hT p (List.mem_of_getElem? q)
        exact ⟨.inr rfl, o, kvs, k1, k2 _ _ _⟩
  · rw [e]
    intro ρ' H' u _ _ r
    exact rv_bl r
theorem walk_z {l : PySem.W.OpenLaw} {n m kk : Nat} {q : Program} {loose : List Str} {XP : (Str → Option Value) → Heap → Prop} {d : DefRec} {P : Prg} {xs : List XDef} {fdl : FDef} {x : Str} {Ds : DTab}
    (hn : l.most = some n) (hn2 : n ≤ sizeLine) (hdf : d.params.defaults = []) (hname : d.name = "law") (hr : Room (2 * m) callerA) (ok : okAll P xs l.prog = true) (hne : xs ≠ []) (hfd : P.fdef (.fn "law") = some fdl) (hps : fdl.ps = [x]) (hdl : fdl.dfl = []) (hds : ∀ x i, P.dcts.lookup x = some i → ∃ kvs, (x, kvs) ∈ Ds)
    (hmain : ∀ ns : List Int, ns.length ≤ n → (∀ k ∈ ns, Builtin.Int.intBits k ≤ 1048576) → ∃ F h, callF P F m (.fn "law") [.ref 0] (.flst (ns.map PV.int) :: ih0 Ds) = .ok (.bl true) h) :
    PySem.W.WalkO q loose XP (hookZ kk P xs Ds l.prog).says l.row.toRowW d [] (fun f vs => PySem.call f vs) := by
  refine Att.attach_callB hn hdf fun w s₀ s₁ mg mb fa o pm cd doc a vs ns G Y ho hd hcd hmg hobj hints hlen hbits hg => ?_
  obtain ⟨K0, KX0, c0⟩ := Y
  obtain ⟨F, h, e⟩ := hmain ns hlen hbits
  have c : obsZ P xs l.prog (hideK (dsOf Ds K0) K0) = valZ P xs := congrArg (fun z : AlD2 => z.1) c0
  have cd : dAll K0 (hideK (dsOf Ds K0) K0) Ds = some (Ds.map fun p => p.2.map fun kv => keyH w kv.1) := congrArg (fun z : AlD2 => z.2) c0
  have KX : (hideK (dsOf Ds K0) K0).In s₁.heap := hideK_in KX0
  generalize hideK (dsOf Ds K0) K0 = K at c cd KX
  obtain ⟨hnd, hdt⟩ := dAll_ok KX0 cd
  have hdct : ∀ (mg' : Str → Option Value) (base : Heap), K.In base → base.Ns mainGlobals mg' → ∀ x i, P.dcts.lookup x = some i → mg' x = some (.ref (He.ga K x)) := fun mg' base X G x i hx => by
    obtain ⟨kvs, hm⟩ := hds x i hx
    exact PySem.W.mg_of X G (hdt _ hm).ns
  have hK : noLst K = true := by
    have c2 : chk P xs l.prog K = true := congrArg (fun z : AlZ => z.2.1) c
    unfold chk at c2
    exact (Bool.and_eq_true_iff.mp c2).2
  have S0 : Static P l.prog w K mg s₁.heap := static_of ok hne KX G.T.g c (hdct _ _ KX G.T.g)
  have hfns : P.fns.lookup ("law" : Str) = some fdl := hfd
  have hfa : fa = He.ga K "law" := by
    have z := (S0.glo "law" fdl hfns).1
    rw [hname] at hmg
    rw [hmg] at z
    exact Value.ref.inj (Option.some.inj z)
  obtain ⟨oc, od, name, params, dV, kV, doc', pm', an, cdv, ct, osl, lk, hcd', FS, hb⟩ := S0.callee (.fn "law") fdl hfd
  have hFn : ∀ base : Heap, K.In base → base.Ns mainGlobals mg → FnOk l.prog w K mg base (L2.CX l.prog w) (2 * m) fa (PySem.W.fnOf name fdl.qual params fdl.body fdl.sc dV kV doc' pm' an cdv ct) [x] (spOf K w 1 (callF P F m (.fn "law"))) := fun base KB GB => by
    have SB : Static P l.prog w K mg base := static_of ok hne KB GB c (hdct _ _ KB GB)
    cases m with
    | zero =>
      exact ⟨fun vs H Q E h => by simpa using h.1, fun _ _ _ _ _ _ _ _ _ _ _ _ _ ⟨_, _, _, _, _, _, z⟩ => (show False from z).elim⟩
    | succ m =>
      have FX0 : Facts ⟨P, callF P F m, F⟩ l.prog w K mg base (2 * m) := facts_of SB rfl (prog_ok SB F m)
      obtain ⟨fdat, ⟨oc2, od2, osl2, lk2⟩, hF, _⟩ := body_okL SB rfl FX0 hfd
      rw [lk] at lk2
      have e1 : PySem.W.fnOf name fdl.qual params fdl.body fdl.sc dV kV doc' pm' an cdv ct = fdat := by
        have z := Option.some.inj lk2
        have z2 := congrArg Obj.data z
        exact Data.func.inj z2
      have e2 : (fun vs ih => if vs.length = fdl.ps.length then runB ⟨⟨P, callF P F m, F⟩, fdl.N, none⟩ fdl vs ih else .fail) = callF P F (m + 1) (.fn "law") := by
        funext vs ih
        show _ = callF P F (m + 1) (.fn "law") vs ih
        unfold callF
        rw [hfd]
      rw [e2, hps] at hF
      rw [e1, hfa]
      exact hF
  have key : ∀ p ∈ Ds, ∃ o es ep kvs, s₁.heap.get? (He.ga K p.1) = some o ∧ o.data = .dict es ep ∧ (∀ H, ObjOk l.prog w H s₁.heap (He.ga K p.1) (.dK kvs)) ∧ ∀ ex ρ H, RKs ⟨K, w, ex⟩ ρ H p.2 kvs := fun p hp => by
    obtain ⟨⟨o, es, ep, kvs, vs, h1, h2, h3, h4, h5, h6, h7⟩, _, _, hn⟩ := hdt p hp
    exact ⟨o, es, ep, kvs, h1, h3, fun H => ⟨h4, hn.2.2.2, vs, h5, h6 l.prog⟩, h7⟩
  have key2 : ∀ d : Addr, ∃ u : HO, ∀ p ∈ Ds, He.ga K p.1 = d → ∃ o es ep kvs, u = .frz o (.dK kvs) ∧ s₁.heap.get? d = some o ∧ o.data = .dict es ep ∧ (∀ H, ObjOk l.prog w H s₁.heap d (.dK kvs)) ∧ ∀ ex ρ H, RKs ⟨K, w, ex⟩ ρ H p.2 kvs := fun d => by
    by_cases hd : ∃ p ∈ Ds, He.ga K p.1 = d
    · obtain ⟨p, hp, e1⟩ := hd
      obtain ⟨o, es, ep, kvs, h1, h2, h3, h4⟩ := key p hp
      refine ⟨.frz o (.dK kvs), fun p' hp' e2 => ?_⟩
      have : p' = p := by
        obtain ⟨i, hi, ei⟩ := List.mem_iff_getElem.mp hp
        obtain ⟨j, hj, ej⟩ := List.mem_iff_getElem.mp hp'
        have hi' : i < (dsOf Ds K).length := by simpa [dsOf] using hi
        have hj' : j < (dsOf Ds K).length := by simpa [dsOf] using hj
        have z : (dsOf Ds K)[j] = (dsOf Ds K)[i] := by
          simp only [dsOf, List.getElem_map, ei, ej]
          rw [e1, e2]
        have z2 := (List.getElem_inj hnd).mp z
        subst z2
        rw [← ei, ← ej]
      subst this
      subst e1
      exact ⟨o, es, ep, kvs, rfl, h1, h2, h3, h4⟩
    · exact ⟨.rng 0 0, fun p hp e1 => absurd ⟨p, hp, e1⟩ hd⟩
  obtain ⟨T, hT⟩ : ∃ T : Addr → HO, ∀ d, ∀ p ∈ Ds, He.ga K p.1 = d → ∃ o es ep kvs, T d = .frz o (.dK kvs) ∧ s₁.heap.get? d = some o ∧ o.data = .dict es ep ∧ (∀ H, ObjOk l.prog w H s₁.heap d (.dK kvs)) ∧ ∀ ex ρ H, RKs ⟨K, w, ex⟩ ρ H p.2 kvs :=
    ⟨fun d => Classical.choose (key2 d), fun d => Classical.choose_spec (key2 d)⟩
  have ofD : ∀ d ∈ dsOf Ds K, ∃ p ∈ Ds, He.ga K p.1 = d := fun d hd => by
    unfold dsOf at hd
    obtain ⟨p, hp, e⟩ := List.mem_map.mp hd
    exact ⟨p, hp, e⟩
  have hka : K.lookup a = none := by
    cases q : K.lookup a with
    | none => rfl
    | some o =>
      have z := KX a o q
      rw [hobj] at z; cases z
      exact absurd rfl (noLst_ok hK q)
  refine law_callD (ds := dsOf Ds K) (T := T) KX G.T.g G.T.b G.T.builtins G.T.nolimit hg (fun d hd => ?_) (fun d hd => ?_) (fun d hd => ?_) hobj hints (Nat.le_trans hlen hn2) hr hka hFn (fun s u => ?_) (fun H o Ha aD hD => law_start (T := T) hnd Ha aD (fun p hp => ?_) e) fun H e s' z => ?_
  · obtain ⟨p, hp, e1⟩ := ofD d hd
    obtain ⟨o, es, ep, kvs, h1, h2, h3, h4, _⟩ := hT d p hp e1
    exact ⟨o, _, es, ep, h1, h2, h3, h4⟩
  · obtain ⟨p, hp, e1⟩ := ofD d hd
    rw [← e1]; exact (hdt p hp).no
  · obtain ⟨p, hp, e1⟩ := ofD d hd
    rw [← e1]
    have z := (hdt p hp).nm
    exact ⟨z.1, z.2.1, z.2.2.1⟩
  · have c1 : He.SaysD (faOf P) (fnOf P) K := congrArg (fun z : AlZ => z.1) c
    obtain ⟨fdat, FD⟩ := says_def c1 (List.mem_map.mpr ⟨(.fn "law", fdl), fdef_mem hfd, rfl⟩ : toDD (.fn "law", fdl) ∈ fnOf P)
    have FD' : FunD K fdl.nm fdl.qual fdl.args fdl.body fdl.sc [] [] (adr K (.fn "law")) fdat := by
      have e1 : He.DefD.dvs K (toDD (.fn "law", fdl)) = [] := by
        show (dvsOf _ 0 fdl.dfl).map (He.Dv.v K) = []
        rw [hdl]; rfl
      rw [e1] at FD
      exact FD
    have od : okDef fdl = true := by
      unfold okAll at ok
      simp only [Bool.and_eq_true, List.all_eq_true] at ok
      exact ok.1.1 (.fn "law", fdl) (fdef_mem hfd)
    unfold okDef at od
    simp only [Bool.and_eq_true] at od
    have S := simA_ok od.1.1.2
    have hsame : fdat = PySem.W.fnOf name fdl.qual params fdl.body fdl.sc dV kV doc' pm' an cdv ct := by
      obtain ⟨oc2, od2, _, _, _, _, _, _, _, osl2, _, lk2, _⟩ := FD'.ex
      rw [lk] at lk2
      have z2 := congrArg Obj.data (Option.some.inj lk2)
      exact (Data.func.inj z2).symm
    have z := FD'.bindsA (ps := fdl.ps) (fun kV doc pm an cdv ct us hl => by
      obtain ⟨k, e1, e2⟩ := bind_gen (fd := PySem.W.fnOf fdl.nm fdl.qual fdl.args fdl.body fdl.sc .none kV doc pm an cdv ct) S us [] (by omega) (Nat.zero_le _) (by simp; omega)
      rw [e1]
      have z : seqItems? (PySem.W.fnOf fdl.nm fdl.qual fdl.args fdl.body fdl.sc .none kV doc pm an cdv ct).defaults = pure none := rfl
      rw [z, pure_bind, e2 none rfl]
      simp) s [u] (by rw [hps]; rfl)
    rw [hsame, hps] at z
    exact z
  · obtain ⟨o, es, ep, kvs, h1, h2, h3, h4, h5⟩ := hT _ p hp rfl
    exact ⟨o, kvs, by rw [hD _ (List.mem_map.mpr ⟨p, hp, rfl⟩), h1], h5⟩
  · obtain ⟨_, _, _, _, _, _, _, _, _, _, _, _, z⟩ := z
    exact z.elim
end Z
end
noncomputable section
namespace G
open PySem PySem.Spec PyProof.Rows L2 Z

def top (i : Nat) : Stmt := PySem.Challenge.pw_heapcode_k00_errors_made_from_their_fiel.main.body.getD i (.Pass ⟨0, 0, 0, 0⟩)
def clsB : Stmt → Nat → Stmt
  | .ClassDef _ _ _ body _ _ _ _ _ _ _, i => body.getD i (.Pass ⟨0, 0, 0, 0⟩)
  | _, _ => .Pass ⟨0, 0, 0, 0⟩
def defNm : Stmt → Str
  | .FunctionDef n _ _ _ _ _ _ _ _ _ => n
  | _ => ""
def mkF (qual : Str) (st : Stmt) (ps : List Str) (dfl : List PV) (N : List Str) : FDef := ⟨defNm st, defArgs st, qual, ps, dfl, N, defScope st, defBody st⟩
def mkX (c : Str) (fs : List Str) (qual : Str) (st : Stmt) : XDef := ⟨c, fs, qual, defArgs st, defBody st, defScope st⟩
def f__law_bag : FDef := mkF "_law_bag" (top 18) ["_law_script"] [] ["_law_script", "_law_fold", "_law_cell"]
def f__law_draw : FDef := mkF "_law_draw" (top 19) ["_law_bag_here", "_law_limit"] [] ["_law_bag_here", "_law_limit", "_law_base", "_law_cell", "_law_digit"]
def f__law_thing : FDef := mkF "_law_thing" (top 20) ["_law_bag_here"] [] ["_law_bag_here"]
def f__law_raised_0 : FDef := mkF "_law_raised_0" (top 21) ["_law_k", "_law_a", "_law_b", "_law_c"] [] ["_law_k", "_law_a", "_law_b", "_law_c"]
def f__law_raised_1 : FDef := mkF "_law_raised_1" (top 22) ["_law_k", "_law_a", "_law_b", "_law_c"] [] ["_law_k", "_law_a", "_law_b", "_law_c"]
def f__law_raised : FDef := mkF "_law_raised" (top 23) ["_law_k", "_law_a", "_law_b", "_law_c"] [] ["_law_k", "_law_a", "_law_b", "_law_c"]
def f__law_kinds_of : FDef := mkF "_law_kinds_of" (top 24) ["_law_e"] [] ["_law_e", "_law_found"]
def f__law_caught : FDef := mkF "_law_caught" (top 25) ["_law_k", "_law_a", "_law_b", "_law_c"] [] ["_law_k", "_law_a", "_law_b", "_law_c", "_law_e"]
def f__law_fields_0 : FDef := mkF "_law_fields_0" (top 26) ["_law_k", "_law_a", "_law_b", "_law_c"] [] ["_law_k", "_law_a", "_law_b", "_law_c", "_law_told", "_law_e"]
def f__law_fields_1 : FDef := mkF "_law_fields_1" (top 27) ["_law_k", "_law_a", "_law_b", "_law_c"] [] ["_law_k", "_law_a", "_law_b", "_law_c", "_law_told", "_law_e"]
def f__law_fields : FDef := mkF "_law_fields" (top 28) ["_law_k", "_law_a", "_law_b", "_law_c"] [] ["_law_k", "_law_a", "_law_b", "_law_c"]
def f_law : FDef := mkF "law" (top 29) ["_law_script"] [] ["_law_script", "_law_bag_here", "_law_sizes", "_law_k", "_law_a", "_law_b", "_law_c", "_law_j"]
def fns0 : List (Str × FDef) := [("_law_bag", f__law_bag), ("_law_draw", f__law_draw), ("_law_thing", f__law_thing), ("_law_raised_0", f__law_raised_0), ("_law_raised_1", f__law_raised_1), ("_law_raised", f__law_raised), ("_law_kinds_of", f__law_kinds_of), ("_law_caught", f__law_caught), ("_law_fields_0", f__law_fields_0), ("_law_fields_1", f__law_fields_1), ("_law_fields", f__law_fields), ("law", f_law)]
def clss0 : List (Str × List (Str × FDef)) := []
def xs0 : List XDef := [mkX "BadKind" ["kind"] "BadKind.__init__" (clsB (top 2) 0), mkX "BadWidth" ["width"] "BadWidth.__init__" (clsB (top 3) 0), mkX "BadLine" ["line"] "BadLine.__init__" (clsB (top 4) 0), mkX "Refused" ["line"] "Refused.__init__" (clsB (top 5) 0)]
def xs1 : List XDef := [mkX "BadItem" ["index"] "BadItem.__init__" (clsB (top 6) 0), mkX "BadCase" ["what"] "BadCase.__init__" (clsB (top 7) 0), mkX "BadPromise" ["promise"] "BadPromise.__init__" (clsB (top 8) 0), mkX "NoLine" ["line"] "NoLine.__init__" (clsB (top 9) 0)]
def xs2 : List XDef := [mkX "BadSize" ["n"] "BadSize.__init__" (clsB (top 10) 0), mkX "OtherKinds" [] "OtherKinds.__init__" (clsB (top 11) 0), mkX "OtherWidths" [] "OtherWidths.__init__" (clsB (top 12) 0), mkX "BadName" ["name"] "BadName.__init__" (clsB (top 13) 0)]
def xs3 : List XDef := [mkX "NoDeed" ["name"] "NoDeed.__init__" (clsB (top 14) 0), mkX "NothingToUndo" [] "NothingToUndo.__init__" (clsB (top 15) 0), mkX "TooMany" ["what", "many", "most"] "TooMany.__init__" (clsB (top 16) 0)]
def xs : List XDef := xs0 ++ xs1 ++ xs2 ++ xs3
def excs0 : List (Str × List Str) := [("BadKind", ["kind"]), ("BadWidth", ["width"]), ("BadLine", ["line"]), ("Refused", ["line"]), ("BadItem", ["index"]), ("BadCase", ["what"]), ("BadPromise", ["promise"]), ("NoLine", ["line"])]
def excs1 : List (Str × List Str) := [("BadSize", ["n"]), ("OtherKinds", []), ("OtherWidths", []), ("BadName", ["name"]), ("NoDeed", ["name"]), ("NothingToUndo", []), ("TooMany", ["what", "many", "most"])]
def cons0 : List (Str × PV) := []
def flds0 : List (Str × List Str) := []
def blts : List Str := ["ValueError", "int", "isinstance", "len", "list", "range"]
def Ds : DTab := []
def P : Prg := ⟨fns0, clss0, excs0 ++ excs1, cons0, [], flds0, blts⟩
theorem Ds_ok : ∀ x i, P.dcts.lookup x = some i → ∃ kvs, (x, kvs) ∈ Ds := fun x i h => by
  have hm := PySem.mem_of_lookup h
  simp only [P, List.mem_cons, Prod.mk.injEq, List.not_mem_nil, or_false] at hm
def names0 : List PySem.Str := ["HeapError", "BadKind", "BadWidth", "BadLine", "Refused", "BadItem", "BadCase", "BadPromise", "NoLine", "BadSize", "OtherKinds", "OtherWidths", "BadName", "NoDeed", "NothingToUndo", "TooMany", "_law_bag", "_law_draw", "_law_thing", "_law_raised_0"]
def names1 : List PySem.Str := ["_law_raised_1", "_law_raised", "_law_kinds_of", "_law_caught", "_law_fields_0", "_law_fields_1", "_law_fields"]
def names : List PySem.Str := names0 ++ names1
end G
end
section
set_option maxRecDepth 100000
set_option maxHeartbeats 0
namespace GH
open PySem PySem.Spec PyProof.Rows L2 Z G
abbrev R : PySem.W.OpenRow := PySem.W.OpenLaw.row PySem.Challenge.rw_heapcode_k00_errors_made_from_their_fiel
abbrev hk : PySem.W.Hook := hookZ 6 P xs Ds PySem.Challenge.pw_heapcode_k00_errors_made_from_their_fiel
def ob (s : PySem.W.SharedT) : AlD2 := obsZG 6 P xs Ds PySem.Challenge.pw_heapcode_k00_errors_made_from_their_fiel (HandSHeadRun.getT s)
theorem ob_eq (s : PySem.W.SharedT) : ob s = hk.obs s.abs := obsZG_eq (HandSHeadRun.getT_eq s)
theorem ok_all : okAll P xs PySem.Challenge.pw_heapcode_k00_errors_made_from_their_fiel = true := by kernel_rfl
theorem run0 (w : World) : HandSHeadRun.RunEq R (PySem.W.view R.prog [29]) hk ob 200000 names (w.withFollow "special-get-raises" false) := by
  intro os; kernel_rfl
theorem run1 (w : World) : HandSHeadRun.RunEq R (PySem.W.view R.prog [29]) hk ob 200000 names (w.withFollow "special-get-raises" true) := by
  intro os; kernel_rfl
theorem run (w : World) : HandSHeadRun.RunEq R (PySem.W.view R.prog [29]) hk ob 200000 names w :=
  PySem.W.byRow2 "special-get-raises" (P := fun w => HandSHeadRun.RunEq R (PySem.W.view R.prog [29]) hk ob 200000 names w) run0 run1 w

abbrev DM : Nat := 60
open PySem PySem.W PySem.Calls PyProof.Rows in
theorem holds (hmain : ∀ ns : List Int, ns.length ≤ 63 → (∀ k ∈ ns, Builtin.Int.intBits k ≤ 1048576) → ∃ F h, callF P F DM (.fn "law") [.ref 0] (.flst (ns.map PV.int) :: ih0 Ds) = .ok (.bl true) h) : PySem.Challenge.rw_heapcode_k00_errors_made_from_their_fiel.Holds := by
  w_on; o_law
  refine HandSHeadRun.head_any (r := OpenLaw.row PySem.Challenge.rw_heapcode_k00_errors_made_from_their_fiel) (q := view (OpenLaw.row PySem.Challenge.rw_heapcode_k00_errors_made_from_their_fiel).prog [29]) (H := hk) (ob := ob) (M := 200000) (loose := names) (d := HandSHeadRun.topDef (OpenLaw.row PySem.Challenge.rw_heapcode_k00_errors_made_from_their_fiel).prog 29) (kwd := []) ob_eq
    (by kernel_rfl) (fun s => by kernel_rfl) run (by kernel_rfl) (by kernel_rfl) (by kernel_rfl) (by rfl) (by first | assumption | decide +kernel) (by decide +kernel) ⟨rfl, rfl, rfl, rfl, rfl, by decide +kernel⟩ ?hw ?hc
  case hw => w_witness2
  case hc =>
    exact walk_z (l := PySem.Challenge.rw_heapcode_k00_errors_made_from_their_fiel) (n := 63) (m := DM) (P := P) (xs := xs) (Ds := Ds) (fdl := f_law) (x := "_law_script") rfl (by decide) (by kernel_rfl) (by kernel_rfl) ⟨rfl, by decide, by decide⟩ ok_all (by decide) (by kernel_rfl) (by rfl) (by rfl) Ds_ok hmain

end GH
end
noncomputable section
namespace Z
open PySem PySem.Spec PyProof.Rows L2
set_option autoImplicit false
def sS : List SM → SM
  | [] => sNext
  | a :: r => sSeq a (sS r)
section
variable {α β : Type}
def WP (r : R α) (Q : R α → Prop) : Prop := Q r
def WS (r : RS) (Q : RS → Prop) : Prop := Q r
theorem WP.congr {r r' : R α} {Q : R α → Prop} (h : r = r') : WP r Q = WP r' Q := by rw [h]
theorem WS.congr {r r' : RS} {Q : RS → Prop} (h : r = r') : WS r Q = WS r' Q := by rw [h]
def KB (f : α → IH → R β) (Q : R β → Prop) : R α → Prop := fun r => WP (r.bind f) Q
def KNot (Q : R Bool → Prop) : R Bool → Prop := fun r => WP r.not Q
def KVal (Q : R PV → Prop) : R Bool → Prop := fun r => WP r.val Q
def KW (k : α → SM) (env : Sl) (Q : RS → Prop) : R α → Prop := fun r => WS (match r with
  | .ok a h => k a env h
  | .exc c fs h => .exc c fs env h
  | .fail => .fail) Q
def KS (b : SM) (Q : RS → Prop) : RS → Prop := fun r => WS (match r with
  | .nx e h => b e h
  | r => r) Q
def KIf (a b : SM) (env : Sl) (Q : RS → Prop) : R Bool → Prop := KW (fun k => if k = true then a else b) env Q
def KIfE (a b : EM α) (env : Sl) (Q : R α → Prop) : R Bool → Prop := KB (fun k => (if k = true then a else b) env) Q
def KRes (Q : R PV → Prop) : RS → Prop := fun r => WP r.res Q
def KTry (P : Prg) (hs : List (Str × Option Nat × SM)) (Q : RS → Prop) : RS → Prop := fun r => WS (match r with
  | .exc c fs e h => if (P.excs.lookup c).isSome = true then sHandleP P c fs hs e h else .fail
  | r => r) Q
variable {Q : R β → Prop} {QA : R α → Prop} {QB : R Bool → Prop} {QP : R PV → Prop} {QS : RS → Prop} {f : α → IH → R β} {a : α} {h : IH} {c : Str} {fs : List (Str × PV)} {env : Sl}
theorem kb_ok : WP (.ok a h) (KB f Q) = WP (f a h) Q := rfl
theorem kb_exc : WP (.exc c fs h : R α) (KB f Q) = WP (.exc c fs h) Q := rfl
theorem knot_ok {b : Bool} : WP (.ok b h) (KNot QB) = WP (.ok (!b) h) QB := rfl
theorem knot_exc : WP (.exc c fs h) (KNot QB) = WP (.exc c fs h) QB := rfl
theorem kval_ok {b : Bool} : WP (.ok b h) (KVal QP) = WP (.ok (.bl b) h) QP := rfl
theorem kval_exc : WP (.exc c fs h) (KVal QP) = WP (.exc c fs h) QP := rfl
theorem kw_ok {k : α → SM} : WP (.ok a h) (KW k env QS) = WS (k a env h) QS := rfl
theorem kw_exc {k : α → SM} : WP (.exc c fs h : R α) (KW k env QS) = WS (.exc c fs env h) QS := rfl
theorem ks_nx {b : SM} : WS (.nx env h) (KS b QS) = WS (b env h) QS := rfl
theorem ks_ret {b : SM} {v : PV} : WS (.ret v h) (KS b QS) = WS (.ret v h) QS := rfl
theorem ks_exc {b : SM} : WS (.exc c fs env h) (KS b QS) = WS (.exc c fs env h) QS := rfl
theorem ks_brk {b : SM} : WS (.brk env h) (KS b QS) = WS (.brk env h) QS := rfl
theorem ks_cnt {b : SM} : WS (.cnt env h) (KS b QS) = WS (.cnt env h) QS := rfl
theorem kif_t {a b : SM} : WP (.ok true h) (KIf a b env QS) = WS (a env h) QS := rfl
theorem kif_f {a b : SM} : WP (.ok false h) (KIf a b env QS) = WS (b env h) QS := rfl
theorem kif_exc {a b : SM} : WP (.exc c fs h) (KIf a b env QS) = WS (.exc c fs env h) QS := rfl
theorem kif_by {a b : SM} {k : Bool} (h1 : k = true → WS (a env h) QS) (h2 : k = false → WS (b env h) QS) : WP (.ok k h) (KIf a b env QS) := by
  cases k with
  | true => exact h1 rfl
  | false => exact h2 rfl
theorem kife_t {a b : EM β} : WP (.ok true h) (KIfE a b env Q) = WP (a env h) Q := rfl
theorem kife_f {a b : EM β} : WP (.ok false h) (KIfE a b env Q) = WP (b env h) Q := rfl
theorem kife_exc {a b : EM β} : WP (.exc c fs h) (KIfE a b env Q) = WP (.exc c fs h) Q := rfl
theorem kife_by {a b : EM β} {k : Bool} (h1 : k = true → WP (a env h) Q) (h2 : k = false → WP (b env h) Q) : WP (.ok k h) (KIfE a b env Q) := by
  cases k with
  | true => exact h1 rfl
  | false => exact h2 rfl
theorem kres_nx : WS (.nx env h) (KRes QP) = WP (.ok .non h) QP := rfl
theorem kres_ret {v : PV} : WS (.ret v h) (KRes QP) = WP (.ok v h) QP := rfl
theorem kres_exc : WS (.exc c fs env h) (KRes QP) = WP (.exc c fs h) QP := rfl
theorem ktry_nx {P : Prg} {hs : List (Str × Option Nat × SM)} : WS (.nx env h) (KTry P hs QS) = WS (.nx env h) QS := rfl
theorem ktry_ret {P : Prg} {hs : List (Str × Option Nat × SM)} {v : PV} : WS (.ret v h) (KTry P hs QS) = WS (.ret v h) QS := rfl
theorem ktry_exc {P : Prg} {hs : List (Str × Option Nat × SM)} : WS (.exc c fs env h) (KTry P hs QS) = WS ((if (P.excs.lookup c).isSome = true then sHandleP P c fs hs else sFail) env h) QS := by
  unfold WS KTry; dsimp only; unfold WS; split <;> rfl
theorem w_bind {m : EM α} {f : α → EM β} : WP (eBind m f env h) Q = WP (m env h) (KB (fun a h => f a env h) Q) := rfl
theorem w_op {p : PV → PV → IH → R PV} {a b : EM PV} : WP (eOp p a b env h) QP = WP (a env h) (KB (fun x h => eBind b (fun y _ ih => p x y ih) env h) QP) := rfl
theorem w_cmp {p : PV → PV → IH → R Bool} {a b : EM PV} : WP (eCmp p a b env h) QB = WP (a env h) (KB (fun x h => eBind b (fun y _ ih => p x y ih) env h) QB) := rfl
theorem w_un {p : PV → IH → R PV} {a : EM PV} : WP (eUn p a env h) QP = WP (a env h) (KB p QP) := rfl
theorem w_fld {ok : Str → Str → Bool} {a : EM PV} {f : Str} : WP (eFld ok a f env h) QP = WP (a env h) (KB (fun x ih => fldP ok x f ih) QP) := rfl
theorem w_ix {a b : EM PV} : WP (eIx a b env h) QP = WP (a env h) (KB (fun x h => eBind b (fun y _ ih => ixP x y ih) env h) QP) := rfl
theorem w_val {t : EM Bool} : WP (eVal t env h) QP = WP (t env h) (KVal QP) := rfl
theorem w_not {t : EM Bool} : WP (eNot t env h) QB = WP (t env h) (KNot QB) := rfl
theorem w_tru {a : EM PV} : WP (eTru a env h) QB = WP (a env h) (KB truP QB) := rfl
theorem w_if {t : EM Bool} {a b : EM β} : WP (eIf t a b env h) Q = WP (t env h) (KIfE a b env Q) := rfl
theorem w_and1 {t : EM Bool} : WP (eAnd [t] env h) QB = WP (t env h) QB := rfl
theorem w_and {t u : EM Bool} {ts : List (EM Bool)} : WP (eAnd (t :: u :: ts) env h) QB = WP (t env h) (KIfE (eAnd (u :: ts)) (eC false) env QB) := rfl
theorem w_or1 {t : EM Bool} : WP (eOr [t] env h) QB = WP (t env h) QB := rfl
theorem w_or {t u : EM Bool} {ts : List (EM Bool)} : WP (eOr (t :: u :: ts) env h) QB = WP (t env h) (KIfE (eC true) (eOr (u :: ts)) env QB) := rfl
theorem w_andV1 {t : EM PV} : WP (eAndV [t] env h) QP = WP (t env h) QP := rfl
theorem w_andV {t u : EM PV} {ts : List (EM PV)} : WP (eAndV (t :: u :: ts) env h) QP = WP (t env h) (KB (fun x h => eBind (fun _ ih => truP x ih) (fun k => if k = true then eAndV (u :: ts) else eC x) env h) QP) := rfl
theorem w_orV1 {t : EM PV} : WP (eOrV [t] env h) QP = WP (t env h) QP := rfl
theorem w_orV {t u : EM PV} {ts : List (EM PV)} : WP (eOrV (t :: u :: ts) env h) QP = WP (t env h) (KB (fun x h => eBind (fun _ ih => truP x ih) (fun k => if k = true then eC x else eOrV (u :: ts)) env h) QP) := rfl
theorem w_chain {p q : PV → PV → IH → R Bool} {a b c : EM PV} : WP (eChain p q a b c env h) QB = WP (a env h) (KB (fun x h => eBind b (fun y => eBind (fun _ ih => p x y ih) fun k => if k = true then eBind c fun z => fun _ ih => q y z ih else eC false) env h) QB) := rfl
theorem w_args0 {Q : R (List PV) → Prop} : WP (eArgs [] env h) Q = WP (.ok [] h) Q := rfl
theorem w_args {Q : R (List PV) → Prop} {a : EM PV} {as : List (EM PV)} : WP (eArgs (a :: as) env h) Q = WP (a env h) (KB (fun x h => eBind (eArgs as) (fun xs => eC (x :: xs)) env h) Q) := rfl
theorem w_stars0 {Q : R (List PV) → Prop} : WP (eStars [] env h) Q = WP (.ok [] h) Q := rfl
theorem w_starsF {Q : R (List PV) → Prop} {a : EM PV} {as : List (Bool × EM PV)} : WP (eStars ((false, a) :: as) env h) Q = WP (a env h) (KB (fun x h => eBind (eStars as) (fun xs => eC (x :: xs)) env h) Q) := rfl
theorem w_tup {as : EM (List PV)} : WP (eTup as env h) QP = WP (as env h) (KB (fun xs ih => newT ih xs) QP) := rfl
theorem w_lst {as : EM (List PV)} : WP (eLst as env h) QP = WP (as env h) (KB (fun xs ih => newL ih xs) QP) := rfl
theorem w_b {p : BP} {as : EM (List PV)} : WP (eB p as env h) QP = WP (as env h) (KB p QP) := rfl
theorem w_call {C : Cfg} {id : FId} {n : Nat} {as : EM (List PV)} : WP (eCall C id n as env h) QP = WP (as env h) (KB (callP C id n) QP) := rfl
theorem w_make {C : Cfg} {x : Str} {n : Nat} {as : EM (List PV)} : WP (eMake C x n as env h) QP = WP (as env h) (KB (makeP C x n) QP) := rfl
theorem w_meth {C : Cfg} {o : EM PV} {x : Str} {n : Nat} {as : EM (List PV)} : WP (eMethD C o x n as env h) QP = WP (o env h) (KB (fun v h => methAny C x n as v env h) QP) := rfl
theorem w_sl {a : EM PV} {lo hi : Option (EM PV)} : WP (eSl a lo hi env h) QP = WP (a env h) (KB (fun x h => eBind (eOptI lo) (fun l => eBind (eOptI hi) fun u => fun _ ih => slP x l u ih) env h) QP) := rfl
theorem w_opt0 {Q : R (Option Int) → Prop} : WP (eOptI none env h) Q = WP (.ok none h) Q := rfl
theorem w_opt {Q : R (Option Int) → Prop} {m : EM PV} : WP (eOptI (some m) env h) Q = WP (m env h) (KB (fun x h => (match x with
    | .int i => .ok (some i) h
    | _ => .fail)) Q) := by
  show Q _ = Q _
  unfold eOptI eBind
  dsimp only
  congr 1
  congr 1
  funext x h
  cases x <;> rfl
theorem w_c {v : α} : WP (eC v env h) QA = WP (.ok v h) QA := rfl
theorem w_var0 {v : PV} : eVar 0 (some v :: env) h = .ok v h := rfl
theorem w_varS {i : Nat} {o : Option PV} : eVar (i + 1) (o :: env) h = eVar i env h := rfl
theorem w_srcE {Q : R Src → Prop} {m : EM PV} : WP (srcE m env h) Q = WP (m env h) (KB srcP Q) := rfl
theorem w_srcN {Q : R Src → Prop} {m : EM PV} : WP (srcEnum m env h) Q = WP (m env h) (KB enumP Q) := rfl
theorem w_srcR {Q : R Src → Prop} {n : Nat} {as : EM (List PV)} : WP (srcRng n as env h) Q = WP (as env h) (KB (rngP n) Q) := rfl
theorem r_nil : WS (sS [] env h) QS = WS (.nx env h) QS := rfl
theorem r_cons {a : SM} {r : List SM} : WS (sS (a :: r) env h) QS = WS (a env h) (KS (sS r) QS) := rfl
theorem r_nx : WS (sNext env h) QS = WS (.nx env h) QS := rfl
theorem r_with {m : EM α} {k : α → SM} : WS (sWith m k env h) QS = WP (m env h) (KW k env QS) := rfl
theorem r_if {t : EM Bool} {a b : SM} : WS (sIf t a b env h) QS = WP (t env h) (KIf a b env QS) := rfl
theorem r_ret {m : EM PV} : WS (sRet m env h) QS = WP (m env h) (KW (fun v _ h => .ret v h) env QS) := rfl
theorem r_drop {m : EM PV} : WS (sDrop m env h) QS = WP (m env h) (KW (fun _ env h => .nx env h) env QS) := rfl
theorem r_asgN {m : EM PV} {i : Nat} : WS (sAsg m (gNm i) env h) QS = WP (m env h) (KW (fun v env h => .nx (env.set i (some v)) h) env QS) := rfl
theorem r_par {m : EM (List PV)} {is : List Nat} : WS (sPar is m env h) QS = WP (m env h) (KW (fun xs env h => if xs.length = is.length then .nx (setAll is xs env) h else .fail) env QS) := rfl
theorem r_loop {F : Nat} {src : EM Src} {g : GM} {b : SM} : WS (sLoop F src g b env h) QS = WP (src env h) (KW (fun s => loopGo s g b F 0) env QS) := rfl
theorem r_raise {x : Str} {fs : List Str} {m : EM (List PV)} : WS (sRaiseX x fs m env h) QS = WP (m env h) (KW (fun vs env h => if vs.length = fs.length then .exc x (fs.zip vs) env h else .fail) env QS) := rfl
theorem r_try {P : Prg} {b : SM} {hs : List (Str × Option Nat × SM)} : WS (sTryP P b hs env h) QS = WS (b env h) (KTry P hs QS) := by
  show QS _ = QS _
  unfold sTryP
  congr 1
theorem r_brk : WS (sBrk env h) QS = WS (.brk env h) QS := rfl
theorem r_cnt : WS (sCnt env h) QS = WS (.cnt env h) QS := rfl
theorem r_res {r : RS} : WP r.res QP = WS r (KRes QP) := rfl
end
theorem ofS_inj {a b : String} : (Str.ofString a = Str.ofString b) = (a = b) := by
  apply propext
  constructor
  · intro e
    rw [Str.ofString_eq_toList, Str.ofString_eq_toList] at e
    have e1 : a.toList.map Char.toNat = b.toList.map Char.toNat := by simpa using e
    have inj : ∀ x y : Char, x.toNat = y.toNat → x = y := fun x y q => by
      apply Char.ext
      exact UInt32.toNat_inj.mp q
    have e2 : a.toList = b.toList := (List.map_inj_right inj).mp e1
    exact String.ext e2
  · intro e; rw [e]
section
variable {i j : Int} {h : IH} {n : Nat}
theorem add_i : addP (.int i) (.int j) h = .ok (.int (i + j)) h := rfl
theorem sub_i : subP (.int i) (.int j) h = .ok (.int (i - j)) h := rfl
theorem mul_i (c : i.natAbs.log2 + j.natAbs.log2 < 1000000) : mulP (.int i) (.int j) h = .ok (.int (i * j)) h := if_pos c
theorem div_i (c : 0 < j) (c2 : j.natAbs.log2 < 9000) : divP (.int i) (.int j) h = .ok (.int (i / j)) h := if_pos ⟨c, c2⟩
theorem mod_i (c : 0 < j) : modP (.int i) (.int j) h = .ok (.int (i % j)) h := if_pos c
theorem pow_i (c : 0 ≤ j ∧ j ≤ 1000000 ∧ i.natAbs < 2 ^ 64) : powP (.int i) (.int j) h = .ok (.int (i ^ j.toNat)) h := if_pos c
theorem lt_i {f : Int → Int → Bool} : ltP f (.int i) (.int j) h = .ok (f i j) h := rfl
theorem tru_b {b : Bool} : truP (.bl b) h = .ok b h := rfl
theorem tru_i : truP (.int i) h = .ok (i != 0) h := rfl
theorem tru_n : truP .non h = .ok false h := rfl
theorem int_i : intP [.int i] h = .ok (.int i) h := rfl
theorem eq_ii : eqP (.int i) (.int j) h = .ok (decide (i = j)) h := by
  have e1 : toD h DEEP (.int i) = some (.int i) := rfl
  have e2 : toD h DEEP (.int j) = some (.int j) := rfl
  unfold eqP
  rw [e1, e2]
  dsimp only
  rw [if_pos ⟨rfl, rfl⟩]
  congr 1
end
def okO (o : Option PV) (h : IH) : R PV := match o with
  | some v => .ok v h
  | none => .fail
theorem okO_some {v : PV} {h : IH} : okO (some v) h = .ok v h := rfl
def ixD (o : Option IO) (k : Key) (h : IH) : R PV := match o with
  | some (.dK kvs) => okO (lookK kvs k) h
  | some (.fdK _ kvs) => okO (lookK kvs k) h
  | _ => .fail
def ixI (o : Option IO) (k : Int) (h : IH) : R PV := match o with
  | some (.lst xs) => okO (atI xs k) h
  | some (.flst xs) => okO (atI xs k) h
  | some (.dK kvs) => okO (lookK kvs (.inl k)) h
  | some (.fdK _ kvs) => okO (lookK kvs (.inl k)) h
  | _ => .fail
theorem ix_str {n : Nat} {s : Str} {h : IH} : ixP (.ref n) (.str s) h = ixD h[n]? (.inr s) h := by
  unfold ixP ixD getL
  dsimp only
  cases h[n]? with
  | none => rfl
  | some o => cases o with
    | dK kvs => dsimp only [keyOf]; cases lookK kvs (Sum.inr s) <;> rfl
    | fdK x kvs => dsimp only [keyOf]; cases lookK kvs (Sum.inr s) <;> rfl
    | _ => rfl
theorem ix_int {n : Nat} {k : Int} {h : IH} : ixP (.ref n) (.int k) h = ixI h[n]? k h := by
  unfold ixP ixI
  dsimp only
  cases e : h[n]? with
  | none => simp only [getL, e]
  | some o => cases o with
    | dK kvs => dsimp only [keyOf]; cases lookK kvs (Sum.inl k) <;> rfl
    | fdK x kvs => dsimp only [keyOf]; cases lookK kvs (Sum.inl k) <;> rfl
    | dN kvs => simp only [getL, e]
    | lst xs => simp only [getL, e]; cases atI xs k <;> rfl
    | flst xs => simp only [getL, e]; cases atI xs k <;> rfl
    | ins c fs => simp only [getL, e]
theorem ix_tup {xs : List PV} {k : Int} {h : IH} : ixP (.tup xs) (.int k) h = okO (atI xs k) h := by
  unfold ixP
  dsimp only
  cases atI xs k <;> rfl
theorem ixD_dk {kvs : List (Key × PV)} {k : Key} {h : IH} : ixD (some (.dK kvs)) k h = okO (lookK kvs k) h := rfl
theorem ixI_l {xs : List PV} {k : Int} {h : IH} : ixI (some (.lst xs)) k h = okO (atI xs k) h := rfl
theorem ixI_f {xs : List PV} {k : Int} {h : IH} : ixI (some (.flst xs)) k h = okO (atI xs k) h := rfl
theorem ixI_dk {kvs : List (Key × PV)} {k : Int} {h : IH} : ixI (some (.dK kvs)) k h = okO (lookK kvs (.inl k)) h := rfl
def fldO (ok : Str → Str → Bool) (o : Option IO) (f : Str) (h : IH) : R PV := match o with
  | some (.ins c fs) => if ok c f = true then okO (fs.lookup f) h else .fail
  | _ => .fail
theorem fld_ref {ok : Str → Str → Bool} {n : Nat} {f : Str} {h : IH} : fldP ok (.ref n) f h = fldO ok h[n]? f h := by
  unfold fldP fldO
  dsimp only
  cases e : h[n]? with
  | none => simp only [getI, e]
  | some o => cases o with
    | ins c fs =>
      simp only [getI, e]
      split
      · cases fs.lookup f <;> rfl
      · rfl
    | _ => simp only [getI, e]
theorem fldO_in {ok : Str → Str → Bool} {c : Str} {fs : List (Str × PV)} {f : Str} {h : IH} : fldO ok (some (.ins c fs)) f h = if ok c f = true then okO (fs.lookup f) h else .fail := rfl
theorem lookF_cons {f g : Str} {v : PV} {r : List (Str × PV)} : List.lookup f ((g, v) :: r) = if g = f then some v else List.lookup f r := by
  rw [List.lookup_cons]
  by_cases e : g = f
  · subst e; simp
  · rw [if_neg e, show (f == g) = false by simpa using fun q : f = g => e q.symm]
def stR (o : Option IH) (env : Sl) : RS := match o with
  | some h => .nx env h
  | none => .fail
theorem stR_some {h : IH} {env : Sl} : stR (some h) env = .nx env h := rfl
def stD (o : Option IO) (n : Nat) (k : Key) (v : PV) (h : IH) : Option IH := match o with
  | some (.dK kvs) => if kvs.length < LINE then some (h.set n (.dK (putK' kvs k v))) else none
  | _ => none
def stI (o : Option IO) (n : Nat) (k : Int) (v : PV) (h : IH) : Option IH := match o with
  | some (.lst xs) => (ixN xs.length k).map fun j => h.set n (.lst (xs.set j v))
  | some (.dK kvs) => if kvs.length < LINE then some (h.set n (.dK (putK' kvs (.inl k) v))) else none
  | _ => none
theorem set_str {n : Nat} {s : Str} {v : PV} {h : IH} : setP (.ref n) (.str s) v h = stD h[n]? n (.inr s) v h := by
  unfold setP stD
  dsimp only
  cases h[n]? with
  | none => rfl
  | some o => cases o <;> rfl
theorem set_int {n : Nat} {k : Int} {v : PV} {h : IH} : setP (.ref n) (.int k) v h = stI h[n]? n k v h := by
  unfold setP stI
  dsimp only
  cases h[n]? with
  | none => rfl
  | some o => cases o with
    | lst xs => dsimp only; cases ixN xs.length k <;> rfl
    | _ => rfl
theorem stD_dk {kvs : List (Key × PV)} {n : Nat} {k : Key} {v : PV} {h : IH} : stD (some (.dK kvs)) n k v h = if kvs.length < LINE then some (h.set n (.dK (putK' kvs k v))) else none := rfl
theorem stI_l {xs : List PV} {n : Nat} {k : Int} {v : PV} {h : IH} : stI (some (.lst xs)) n k v h = (ixN xs.length k).map fun j => h.set n (.lst (xs.set j v)) := rfl
def sfO (ok : Str → Str → Bool) (o : Option IO) (n : Nat) (f : Str) (v : PV) (h : IH) : Option IH := match o with
  | some (.ins c fs) => if ok c f = true ∧ fs.length < 1000 then some (h.set n (.ins c (putF' f v fs))) else none
  | _ => none
theorem sf_ref {ok : Str → Str → Bool} {n : Nat} {f : Str} {v : PV} {h : IH} : sfldP ok (.ref n) f v h = sfO ok h[n]? n f v h := by
  unfold sfldP sfO
  dsimp only
  cases e : h[n]? with
  | none => simp only [getI, e]
  | some o => cases o with
    | ins c fs => simp only [getI, e]
    | _ => simp only [getI, e]
theorem sfO_in {ok : Str → Str → Bool} {c : Str} {fs : List (Str × PV)} {n : Nat} {f : Str} {v : PV} {h : IH} : sfO ok (some (.ins c fs)) n f v h = if ok c f = true ∧ fs.length < 1000 then some (h.set n (.ins c (putF' f v fs))) else none := rfl
section
variable {env : Sl} {QS : RS → Prop} {h : IH} {v x y : PV} {o i m : EM PV} {f : Str} {ok : Str → Str → Bool}
def KIx (o i : EM PV) (env : Sl) (QS : RS → Prop) : R PV → Prop := KW (fun x env ih => match gIxM o i x env ih with
    | .ok e h => .nx e h
    | _ => .fail) env QS
def KIx1 (i : EM PV) (v : PV) (env : Sl) (QS : RS → Prop) : R PV → Prop := fun r => WS (match r with
  | .ok x h => (match i env h with
    | .ok y h2 => stR (setP x y v h2) env
    | _ => .fail)
  | _ => .fail) QS
def KIx2 (x v : PV) (env : Sl) (QS : RS → Prop) : R PV → Prop := fun r => WS (match r with
    | .ok y h2 => stR (setP x y v h2) env
    | _ => .fail) QS
theorem r_asgI : WS (sAsg m (gIxM o i) env h) QS = WP (m env h) (KIx o i env QS) := rfl
theorem kix : WP (.ok v h) (KIx o i env QS) = WP (o env h) (KIx1 i v env QS) := by
  show QS _ = QS _
  congr 1
  unfold gIxM
  dsimp only
  cases o env h with
  | ok x h1 =>
    dsimp only
    cases i env h1 with
    | ok y h2 => dsimp only [stR]; cases setP x y v h2 <;> rfl
    | _ => rfl
  | _ => rfl
theorem kix_exc {c : Str} {fs : List (Str × PV)} : WP (.exc c fs h) (KIx o i env QS) = WS (.exc c fs env h) QS := rfl
theorem kix1 : WP (.ok x h) (KIx1 i v env QS) = WP (i env h) (KIx2 x v env QS) := by
  show QS _ = QS _
  congr 1
theorem kix2 : WP (.ok y h) (KIx2 x v env QS) = WS (stR (setP x y v h) env) QS := rfl
def KFl (ok : Str → Str → Bool) (o : EM PV) (f : Str) (env : Sl) (QS : RS → Prop) : R PV → Prop := KW (fun x env ih => match gFldM ok o f x env ih with
    | .ok e h => .nx e h
    | _ => .fail) env QS
def KFl1 (ok : Str → Str → Bool) (f : Str) (v : PV) (env : Sl) (QS : RS → Prop) : R PV → Prop := fun r => WS (match r with
  | .ok x h => stR (sfldP ok x f v h) env
  | _ => .fail) QS
theorem r_asgF : WS (sAsg m (gFldM ok o f) env h) QS = WP (m env h) (KFl ok o f env QS) := rfl
theorem kfl : WP (.ok v h) (KFl ok o f env QS) = WP (o env h) (KFl1 ok f v env QS) := by
  show QS _ = QS _
  congr 1
  unfold gFldM
  dsimp only
  cases o env h with
  | ok x h1 => dsimp only [stR]; cases sfldP ok x f v h1 <;> rfl
  | _ => rfl
theorem kfl_exc {c : Str} {fs : List (Str × PV)} : WP (.exc c fs h) (KFl ok o f env QS) = WS (.exc c fs env h) QS := rfl
theorem kfl1 : WP (.ok x h) (KFl1 ok f v env QS) = WS (stR (sfldP ok x f v h) env) QS := rfl
def KTu (gs : List GM) (env : Sl) (QS : RS → Prop) : R PV → Prop := KW (fun x env ih => match gTupM gs x env ih with
    | .ok e h => .nx e h
    | _ => .fail) env QS
def goR (r : R Sl) : RS := match r with
    | .ok e h => .nx e h
    | _ => .fail
theorem r_asgT {gs : List GM} : WS (sAsg m (gTupM gs) env h) QS = WP (m env h) (KTu gs env QS) := rfl
theorem ktu {gs : List GM} {xs : List PV} (e : xs.length = gs.length) : WP (.ok (.tup xs) h) (KTu gs env QS) = WS (goR (goG gs xs env h)) QS := by
  show QS (match (if xs.length = gs.length then goG gs xs env h else .fail) with | .ok e h => .nx e h | _ => .fail) = _
  rw [if_pos e]; rfl
theorem ktu_exc {c : Str} {fs : List (Str × PV)} {gs : List GM} : WP (.exc c fs h) (KTu gs env QS) = WS (.exc c fs env h) QS := rfl
theorem goG_n {j : Nat} {gs : List GM} {xs : List PV} : goG (gNm j :: gs) (x :: xs) env h = goG gs xs (env.set j (some x)) h := rfl
theorem goG_0 : goG [] [] env h = .ok env h := rfl
theorem goR_ok : goR (.ok env h) = .nx env h := rfl
end
end Z
end
noncomputable section
namespace Z
open PySem PySem.Spec PyProof.Rows L2
set_option autoImplicit false
theorem lt_of_get {α : Type} {l : List α} {n : Nat} {x : α} (e : l[n]? = some x) : n < l.length := by
  rcases Nat.lt_or_ge n l.length with q | q
  · exact q
  · rw [List.getElem?_eq_none q] at e; cases e
theorem log_small {x : Nat} (h : x < 2 ^ 64) : x.log2 < 64 := by
  by_cases e : x = 0
  · subst e; decide
  · exact (Nat.log2_lt e).mpr h
theorem mul_s {i j : Int} {h : IH} (h1 : i.natAbs < 2 ^ 64) (h2 : j.natAbs < 2 ^ 64) : mulP (.int i) (.int j) h = .ok (.int (i * j)) h := mul_i (by have := log_small h1; have := log_small h2; omega)
theorem len_ref_l {n : Nat} {h : IH} {xs : List PV} (e : h[n]? = some (.lst xs)) : lenP [.ref n] h = .ok (.int xs.length) h := by
  unfold lenP; simp only [e]
theorem len_tup {xs : List PV} {h : IH} : lenP [.tup xs] h = .ok (.int xs.length) h := rfl
theorem atI_nn {α : Type} {xs : List α} {i : Int} (h0 : 0 ≤ i) (h1 : i < xs.length) : atI xs i = xs[i.toNat]? := by
  unfold atI ixN
  rw [if_pos h0, if_pos h1]; rfl
def Only1 (b : Nat) (h h1 : IH) : Prop := h1.length = h.length ∧ ∀ m, m ≠ b → h1[m]? = h[m]?
theorem Only1.set {b : Nat} {h : IH} {o : IO} : Only1 b h (h.set b o) := ⟨List.length_set, fun m e => List.getElem?_set_ne (Ne.symm e)⟩
theorem Only1.trans {b : Nat} {h h1 h2 : IH} (x : Only1 b h h1) (y : Only1 b h1 h2) : Only1 b h h2 := ⟨y.1.trans x.1, fun m e => (y.2 m e).trans (x.2 m e)⟩
def Grow (b : Nat) (h h1 : IH) : Prop := h.length ≤ h1.length ∧ ∀ m, m < h.length → m ≠ b → h1[m]? = h[m]?
theorem Grow.refl {b : Nat} {h : IH} : Grow b h h := ⟨Nat.le_refl _, fun _ _ _ => rfl⟩
theorem Grow.trans {b : Nat} {h h1 h2 : IH} (x : Grow b h h1) (y : Grow b h1 h2) : Grow b h h2 := ⟨Nat.le_trans x.1 y.1, fun m l e => (y.2 m (Nat.lt_of_lt_of_le l x.1) e).trans (x.2 m l e)⟩
theorem Grow.app {b : Nat} {h t : IH} : Grow b h (h ++ t) := ⟨by simp, fun m l _ => List.getElem?_append_left l⟩
theorem Grow.get {b m : Nat} {h h1 : IH} {o : IO} (x : Grow b h h1) (e : h[m]? = some o) (n : m ≠ b) : h1[m]? = some o := (x.2 m (lt_of_get e) n).trans e
theorem get_app {h t : IH} {n : Nat} {o : IO} (e : h[n]? = some o) : (h ++ t)[n]? = some o := (List.getElem?_append_left (lt_of_get e)).trans e
theorem get_end {h : IH} {o : IO} : (h ++ [o])[h.length]? = some o := by simp
section
variable {QS : RS → Prop} {env : Sl} {h : IH}
def KLp (I : Sl → IH → Prop) (QS : RS → Prop) : RS → Prop := fun r => match r with
  | .nx e h => I e h
  | .cnt e h => I e h
  | .brk e h => WS (.nx e h) QS
  | r => WS r QS
theorem kl_nx {I : Sl → IH → Prop} : WS (.nx env h) (KLp I QS) = I env h := rfl
theorem kl_cnt {I : Sl → IH → Prop} : WS (.cnt env h) (KLp I QS) = I env h := rfl
theorem kl_brk {I : Sl → IH → Prop} : WS (.brk env h) (KLp I QS) = WS (.nx env h) QS := rfl
theorem kl_ret {I : Sl → IH → Prop} {v : PV} : WS (.ret v h) (KLp I QS) = WS (.ret v h) QS := rfl
theorem kl_exc {I : Sl → IH → Prop} {c : Str} {fs : List (Str × PV)} : WS (.exc c fs env h) (KLp I QS) = WS (.exc c fs env h) QS := rfl
theorem loop_inv {s : Src} {g : GM} {b : SM} (n : Nat) (item : Nat → PV) (Inv : Nat → Sl → IH → Prop) (hat : ∀ i env h, i ≤ n → Inv i env h → s.at_ i h = some (if i < n then some (item i) else none))
    (hstep : ∀ i env h, i < n → Inv i env h → ∃ e1 h1, g (item i) env h = .ok e1 h1 ∧ WS (b e1 h1) (KLp (Inv (i + 1)) QS)) (hend : ∀ env h, Inv n env h → WS (.nx env h) QS) :
    ∀ (fuel i : Nat) (env : Sl) (h : IH), n < fuel + i → i ≤ n → Inv i env h → WS (loopGo s g b fuel i env h) QS
  | 0, i, env, h, h1, h2, _ => by omega
  | fuel + 1, i, env, h, h1, h2, iv => by
    unfold loopGo
    rw [hat i env h h2 iv]
    by_cases c : i < n
    · rw [if_pos c]
      obtain ⟨e1, hh, eg, w⟩ := hstep i env h c iv
      dsimp only
      rw [eg]
      dsimp only
      cases q : b e1 hh with
      | nx e h' => rw [q] at w; exact loop_inv n item Inv hat hstep hend fuel (i + 1) e h' (by omega) (by omega) w
      | cnt e h' => rw [q] at w; exact loop_inv n item Inv hat hstep hend fuel (i + 1) e h' (by omega) (by omega) w
      | brk e h' => rw [q] at w; exact w
      | ret v h' => rw [q] at w; exact w
      | exc c fs e h' => rw [q] at w; exact w
      | fail => rw [q] at w; exact w
    · rw [if_neg c]
      have e : i = n := by omega
      subst e
      exact hend env h iv
def KWh (b : SM) (I : Nat → Sl → IH → Prop) (k : Nat) (env : Sl) (QS : RS → Prop) : R Bool → Prop := fun r => match r with
  | .ok true h => WS (b env h) (KLp (fun e h => ∃ j, j < k ∧ I j e h) QS)
  | .ok false h => WS (.nx env h) QS
  | .exc c fs h => WS (.exc c fs env h) QS
  | .fail => False
theorem kwh_t {b : SM} {I : Nat → Sl → IH → Prop} {k : Nat} : WP (.ok true h) (KWh b I k env QS) = WS (b env h) (KLp (fun e h => ∃ j, j < k ∧ I j e h) QS) := rfl
theorem kwh_f {b : SM} {I : Nat → Sl → IH → Prop} {k : Nat} : WP (.ok false h) (KWh b I k env QS) = WS (.nx env h) QS := rfl
end
section
variable {QP : R PV → Prop} {env : Sl} {h : IH}
def KCo (F : Nat) (g : Tg) (own : List Nat) (t : EM Bool) (e : EM PV) (env : Sl) (QP : R PV → Prop) : R Src → Prop := KB (fun s h => match compGo s g t e F 0 [] (wipeE own env) h with
  | .ok xs h => .ok (.ref h.length) (h ++ [.lst xs])
  | _ => .fail) QP
def KCl (QP : R PV → Prop) : R (List PV) → Prop := fun r => match r with
  | .ok xs h => WP (.ok (.ref h.length) (h ++ [.lst xs])) QP
  | _ => WP .fail QP
theorem w_comp {F : Nat} {src : EM Src} {g : Tg} {own : List Nat} {t : EM Bool} {e : EM PV} : WP (eCompL F src g own t e env h) QP = WP (src env h) (KCo F g own t e env QP) := rfl
theorem kco_ok {F : Nat} {s : Src} {g : Tg} {own : List Nat} {t : EM Bool} {e : EM PV} : WP (.ok s h) (KCo F g own t e env QP) = WP (compGo s g t e F 0 [] (wipeE own env) h) (KCl QP) := by
  show QP (match compGo s g t e F 0 [] (wipeE own env) h with
    | .ok xs h => .ok (.ref h.length) (h ++ [.lst xs])
    | _ => .fail) = KCl QP _
  unfold KCl
  cases compGo s g t e F 0 [] (wipeE own env) h <;> rfl
theorem kcl_ok {xs : List PV} : WP (.ok xs h) (KCl QP) = WP (.ok (.ref h.length) (h ++ [.lst xs])) QP := rfl
theorem wipe_0 : wipeE [] env = env := rfl
theorem wipe_s {i : Nat} {r : List Nat} : wipeE (i :: r) env = (wipeE r env).set i none := rfl
def KCt (e : EM PV) (acc : List PV) (env : Sl) (I : List PV → IH → Prop) : R Bool → Prop := fun r => match r with
  | .ok true h => WP (e env h) (fun r => ∃ y h2, r = .ok y h2 ∧ acc.length < LINE ∧ I (acc ++ [y]) h2)
  | .ok false h => I acc h
  | _ => False
def KCe (acc : List PV) (I : List PV → IH → Prop) : R PV → Prop := fun r => ∃ y h2, r = .ok y h2 ∧ acc.length < LINE ∧ I (acc ++ [y]) h2
theorem kct_t {e : EM PV} {acc : List PV} {I : List PV → IH → Prop} : WP (.ok true h) (KCt e acc env I) = WP (e env h) (KCe acc I) := rfl
theorem kct_f {e : EM PV} {acc : List PV} {I : List PV → IH → Prop} : WP (.ok false h) (KCt e acc env I) = I acc h := rfl
theorem comp_inv {QL : R (List PV) → Prop} {s : Src} {g : Tg} {t : EM Bool} {e : EM PV} {env : Sl} (n : Nat) (item : Nat → PV) (Inv : Nat → List PV → IH → Prop) (hat : ∀ i acc h, i ≤ n → Inv i acc h → s.at_ i h = some (if i < n then some (item i) else none))
    (hstep : ∀ i acc h, i < n → Inv i acc h → ∃ e1, g.set (item i) env = some e1 ∧ WP (t e1 h) (KCt e acc e1 (Inv (i + 1)))) (hend : ∀ acc h, Inv n acc h → WP (.ok acc h) QL) :
    ∀ (fuel i : Nat) (acc : List PV) (h : IH), n < fuel + i → i ≤ n → Inv i acc h → WP (compGo s g t e fuel i acc env h) QL
  | 0, i, acc, h, h1, h2, _ => by omega
  | fuel + 1, i, acc, h, h1, h2, iv => by
    unfold compGo
    rw [hat i acc h h2 iv]
    by_cases c : i < n
    · rw [if_pos c]
      obtain ⟨e1, eg, w⟩ := hstep i acc h c iv
      dsimp only
      rw [eg]
      dsimp only
      cases q : t e1 h with
      | fail => rw [q] at w; exact False.elim w
      | exc c fs h' => rw [q] at w; exact False.elim w
      | ok x h' =>
        rw [q] at w
        cases x with
        | false => exact comp_inv n item Inv hat hstep hend fuel (i + 1) acc h' (by omega) (by omega) w
        | true =>
          obtain ⟨y, h2', q2, l, iv2⟩ := w
          dsimp only
          rw [q2]
          dsimp only
          rw [if_pos l]
          exact comp_inv n item Inv hat hstep hend fuel (i + 1) (acc ++ [y]) h2' (by omega) (by omega) iv2
    · rw [if_neg c]
      have e : i = n := by omega
      subst e
      exact hend acc h iv
end
end Z
end
noncomputable section
namespace Z
open PySem PySem.Spec PyProof.Rows L2
set_option autoImplicit false
section
variable {h : IH} {n : Nat} {xs : List PV} {env : Sl} {QP : R PV → Prop}
theorem src_f (e : h[n]? = some (.flst xs)) : srcP (.ref n) h = .ok (.lst n) h := by
  unfold srcP getL; simp only [e]
theorem src_t : srcP (.tup xs) h = .ok (.vals xs) h := rfl
theorem enum_t : enumP (.tup xs) h = .ok (.enumT xs) h := rfl
theorem list_f (e : h[n]? = some (.flst xs)) : listP [.ref n] h = .ok (.ref h.length) (h ++ [.lst xs]) := by
  unfold listP; simp only [e]
theorem list_t : listP [.tup xs] h = .ok (.ref h.length) (h ++ [.lst xs]) := rfl
theorem tuple_t : tupleP [.tup xs] h = .ok (.tup xs) h := rfl
theorem at_flst (e : h[n]? = some (.flst xs)) {i : Nat} : (Src.lst n).at_ i h = some xs[i]? := by
  unfold Src.at_ getL; simp only [e, Option.map_some]
def itemOf (xs : List PV) (i : Nat) : PV := xs.getD i .non
theorem item_get {i : Nat} : xs[i]? = if i < xs.length then some (itemOf xs i) else none := by
  unfold itemOf
  by_cases c : i < xs.length
  · rw [if_pos c, List.getElem?_eq_getElem c, List.getD_eq_getElem?_getD, List.getElem?_eq_getElem c]; rfl
  · rw [if_neg c, List.getElem?_eq_none (Nat.le_of_not_lt c)]
theorem rng1 {j : Int} (c : j.natAbs < 4611686018427387904) : rngP 1 [.int j] h = .ok (.rng 0 1 j.toNat) h := if_pos (ok_rOk c)
theorem w_prs0 {Q : R (List (PV × PV)) → Prop} : WP (ePairs [] env h) Q = WP (.ok [] h) Q := rfl
theorem w_prs {Q : R (List (PV × PV)) → Prop} {k v : EM PV} {r : List (EM PV × EM PV)} : WP (ePairs ((k, v) :: r) env h) Q = WP (k env h) (KB (fun x h => eBind v (fun y => eBind (ePairs r) fun ps => eC ((x, y) :: ps)) env h) Q) := rfl
def dispR (kvs : List (PV × PV)) (ih : IH) : R PV := match keysOf kvs with
  | some ks => if ks.length ≤ 15 then .ok (.ref ih.length) (ih ++ [.dK (mergeK' [] ks)]) else .fail
  | none => .fail
theorem w_disp {ps : List (EM PV × EM PV)} (c : ps.length ≤ 15) : WP (eDisp ps env h) QP = WP (ePairs ps env h) (KB dispR QP) := by
  unfold eDisp
  rw [if_pos c]
  rfl
end
end Z
end
noncomputable section
namespace Z
open PySem PySem.Spec PyProof.Rows L2
set_option autoImplicit false
structure Sh where
  b : Nat
  pre : IH
namespace Sh
variable (S : Sh)
def N (n : Nat) : Nat := if n < S.b then n else n + S.pre.length
mutual
def v : PV → PV
  | .non => .non
  | .bl x => .bl x
  | .int i => .int i
  | .str z => .str z
  | .tup xs => .tup (vs xs)
  | .ref n => .ref (S.N n)
  | .exc c fs => .exc c (f fs)
  | .ty n => .ty n
  | .cls c => .cls c
def vs : List PV → List PV
  | [] => []
  | x :: xs => v x :: vs xs
def f : List (Str × PV) → List (Str × PV)
  | [] => []
  | (c, x) :: xs => (c, v x) :: f xs
end
def kk (kvs : List (Key × PV)) : List (Key × PV) := kvs.map fun p => (p.1, S.v p.2)
def pp (kvs : List (PV × PV)) : List (PV × PV) := kvs.map fun p => (S.v p.1, S.v p.2)
def o : IO → IO
  | .lst xs => .lst (S.vs xs)
  | .flst xs => .flst (S.vs xs)
  | .dK kvs => .dK (S.kk kvs)
  | .ins c fs => .ins c (S.f fs)
  | .dN kvs => .dN (S.pp kvs)
  | .fdK x kvs => .fdK x (S.kk kvs)
def H (ih : IH) : IH := (ih.take S.b).map S.o ++ (S.pre ++ (ih.drop S.b).map S.o)
def ov : Option PV → Option PV := Option.map S.v
def E (env : Sl) : Sl := env.map S.ov
theorem vs_map : ∀ xs : List PV, S.vs xs = xs.map S.v
  | [] => by simp only [vs, List.map_nil]
  | x :: xs => by simp only [vs, List.map_cons, vs_map xs]
theorem f_map : ∀ xs : List (Str × PV), S.f xs = xs.map fun p => (p.1, S.v p.2)
  | [] => by simp only [f, List.map_nil]
  | (c, x) :: xs => by simp only [f, List.map_cons, f_map xs]
def Lg (ih : IH) : Prop := S.b ≤ ih.length
variable {S}
theorem len {ih : IH} (h : S.Lg ih) : (S.H ih).length = S.N ih.length := by
  unfold Lg at h
  unfold H N
  rw [if_neg (by omega)]
  simp only [List.length_append, List.length_map, List.length_take, List.length_drop]
  omega
theorem get {ih : IH} (h : S.Lg ih) (n : Nat) : (S.H ih)[S.N n]? = (ih[n]?).map S.o := by
  unfold Lg at h
  unfold H N
  by_cases c : n < S.b
  · rw [if_pos c, List.getElem?_append_left (by simp; omega), List.getElem?_map, List.getElem?_take, if_pos c]
  · rw [if_neg c, List.getElem?_append_right (by simp; omega), List.getElem?_append_right (by simp; omega)]
    simp only [List.length_map, List.length_take, List.getElem?_map, List.getElem?_drop]
    congr 2
    omega
theorem set {ih : IH} (h : S.Lg ih) (n : Nat) (x : IO) : (S.H ih).set (S.N n) (S.o x) = S.H (ih.set n x) := by
  unfold Lg at h
  unfold H N
  by_cases c : n < S.b
  · rw [if_pos c, List.set_append_left _ _ (by simp; omega), List.drop_set_of_lt c, List.take_set, List.map_set]
  · have e1 : (ih.set n x).take S.b = ih.take S.b := by rw [List.take_set, List.set_eq_of_length_le (by simp; omega)]
    have e2 : (ih.set n x).drop S.b = (ih.drop S.b).set (n - S.b) x := by rw [List.drop_set, if_neg c]
    rw [if_neg c, e1, e2, List.set_append_right _ _ (by simp; omega), List.set_append_right _ _ (by simp; omega), List.map_set]
    congr 3
    simp only [List.length_map, List.length_take]
    omega
theorem app {ih : IH} (h : S.Lg ih) (t : IH) : S.H (ih ++ t) = S.H ih ++ t.map S.o := by
  unfold Lg at h
  unfold H
  rw [List.take_append_of_le_length h, List.drop_append_of_le_length h, List.map_append, List.append_assoc, List.append_assoc]
theorem lg_set {ih : IH} (h : S.Lg ih) (n : Nat) (x : IO) : S.Lg (ih.set n x) := by unfold Lg at h ⊢; simpa using h
theorem N_inj {n m : Nat} (h : S.N n = S.N m) : n = m := by
  unfold N at h
  split at h <;> split at h <;> omega
variable (S)
inductive ER {α : Type} (g : α → α) : R α → R α → Prop
  | ok {a : α} {h : IH} : S.Lg h → ER g (.ok a h) (.ok (g a) (S.H h))
  | exc {c : Str} {fs : List (Str × PV)} {h : IH} : S.Lg h → ER g (.exc c fs h) (.exc c (S.f fs) (S.H h))
  | fail : ER g .fail .fail
abbrev QM {α : Type} (g : α → α) (m : EM α) : Prop := ∀ env ih, S.Lg ih → S.ER g (m env ih) (m (S.E env) (S.H ih))
abbrev Q2 {β : Type} (g : β → β) (p : PV → PV → IH → R β) : Prop := ∀ x y ih, S.Lg ih → S.ER g (p x y ih) (p (S.v x) (S.v y) (S.H ih))
abbrev QB (p : BP) : Prop := ∀ xs ih, S.Lg ih → S.ER S.v (p xs ih) (p (S.vs xs) (S.H ih))
variable {S}
theorem ER.bind {α β : Type} {g : α → α} {g2 : β → β} {r r' : R α} {k k' : α → IH → R β} (h : S.ER g r r') (hk : ∀ a ih, S.Lg ih → S.ER g2 (k a ih) (k' (g a) (S.H ih))) : S.ER g2 (r.bind k) (r'.bind k') := by
  cases h with
  | ok l => exact hk _ _ l
  | exc l => exact .exc l
  | fail => exact .fail
theorem ER.not {r r' : R Bool} (h : S.ER id r r') : S.ER id r.not r'.not := by
  cases h with
  | ok l => exact .ok (g := id) l
  | exc l => exact .exc l
  | fail => exact .fail
theorem ER.val {r r' : R Bool} (h : S.ER id r r') : S.ER S.v r.val r'.val := by
  cases h with
  | ok l => exact .ok (g := S.v) (a := .bl _) l
  | exc l => exact .exc l
  | fail => exact .fail
theorem getI_sh {ih : IH} (h : S.Lg ih) (n : Nat) : getI (S.H ih) (S.N n) = (getI ih n).map fun p => (p.1, S.f p.2) := by
  unfold getI; rw [get h]
  cases ih[n]? with
  | none => rfl
  | some u => cases u <;> rfl
theorem vs_len (xs : List PV) : (S.vs xs).length = xs.length := by rw [vs_map]; simp
theorem ok_v {ih : IH} (h : S.Lg ih) (x : PV) : S.ER S.v (.ok x ih) (.ok (S.v x) (S.H ih)) := .ok h
theorem keyOf_sh (x : PV) : keyOf (S.v x) = keyOf x := by cases x <;> rfl
theorem lookK_sh (kvs : List (Key × PV)) (k : Key) : lookK (S.kk kvs) k = (lookK kvs k).map S.v := by
  induction kvs with
  | nil => rfl
  | cons p r ih =>
    obtain ⟨j, w⟩ := p
    show (if j = k then some (S.v w) else lookK (S.kk r) k) = Option.map S.v (if j = k then some w else lookK r k)
    split
    · rfl
    · exact ih
theorem setK_sh (kvs : List (Key × PV)) (k : Key) (x : PV) : setK' (S.kk kvs) k (S.v x) = S.kk (setK' kvs k x) := by
  induction kvs with
  | nil => rfl
  | cons p r ih =>
    obtain ⟨j, w⟩ := p
    show (if j = k then (j, S.v x) else (j, S.v w)) :: setK' (S.kk r) k (S.v x) = S.kk ((if j = k then (j, x) else (j, w)) :: setK' r k x)
    rw [ih]
    split <;> rfl
theorem putK_sh (kvs : List (Key × PV)) (k : Key) (x : PV) : putK' (S.kk kvs) k (S.v x) = S.kk (putK' kvs k x) := by
  unfold putK'
  rw [lookK_sh, Option.isSome_map]
  split
  · exact setK_sh _ _ _
  · unfold kk; simp only [List.map_append]; rfl
mutual
theorem ck_sh : ∀ x : PV, ckOf (S.v x) = ckOf x
  | .non => rfl
  | .bl _ => rfl
  | .int _ => rfl
  | .str _ => rfl
  | .tup xs => by show (cksOf (S.vs xs)).map _ = (cksOf xs).map _; rw [cks_sh xs]
  | .ref _ => rfl
  | .exc _ _ => rfl
  | .ty _ => rfl
  | .cls _ => rfl
theorem cks_sh : ∀ xs : List PV, cksOf (S.vs xs) = cksOf xs
  | [] => rfl
  | x :: xs => by simp only [vs, cksOf, ck_sh x, cks_sh xs]
end
theorem nk_sh (x : PV) : nkOf (S.v x) = nkOf x := by
  cases x with
  | tup xs => show (match ckOf (S.v (.tup xs)) with | some k => if k.depth ≤ 8 then some k else none | none => none) = _; rw [ck_sh]; rfl
  | _ => rfl
theorem lookN_sh (kvs : List (PV × PV)) (k : NestedKey) : lookN (S.pp kvs) k = (lookN kvs k).map S.v := by
  induction kvs with
  | nil => rfl
  | cons p r ih =>
    obtain ⟨j, w⟩ := p
    show (if ckOf (S.v j) = some k then some (S.v w) else lookN (S.pp r) k) = Option.map S.v (if ckOf j = some k then some w else lookN r k)
    rw [ck_sh]
    split
    · rfl
    · exact ih
theorem putN_sh (kvs : List (PV × PV)) (y : PV) (k : NestedKey) (x : PV) : putN (S.pp kvs) (S.v y) k (S.v x) = S.pp (putN kvs y k x) := by
  have hs : ∀ kvs : List (PV × PV), setN (S.pp kvs) k (S.v x) = S.pp (setN kvs k x) := by
    intro kvs
    induction kvs with
    | nil => rfl
    | cons p r ih =>
      obtain ⟨j, w⟩ := p
      show (if ckOf (S.v j) = some k then (S.v j, S.v x) else (S.v j, S.v w)) :: setN (S.pp r) k (S.v x) = S.pp ((if ckOf j = some k then (j, x) else (j, w)) :: setN r k x)
      rw [ih, ck_sh]
      split <;> rfl
  unfold putN
  rw [lookN_sh, Option.isSome_map]
  split
  · exact hs _
  · unfold pp; simp only [List.map_append]; rfl
theorem kk_emp (kvs : List (Key × PV)) : (S.kk kvs).isEmpty = kvs.isEmpty := by cases kvs <;> rfl
theorem kk_len (kvs : List (Key × PV)) : (S.kk kvs).length = kvs.length := by unfold kk; simp
theorem pp_len (kvs : List (PV × PV)) : (S.pp kvs).length = kvs.length := by unfold pp; simp
end Sh
end Z
end
noncomputable section
namespace Z
open PySem PySem.Spec PyProof.Rows L2
set_option autoImplicit false
namespace Sh
variable {S : Sh}
theorem f_len (fs : List (Str × PV)) : (S.f fs).length = fs.length := by rw [f_map]; simp
theorem f_put (fs : List (Str × PV)) (x : Str) (w : PV) : putF' x (S.v w) (S.f fs) = S.f (putF' x w fs) := by
  induction fs with
  | nil => rfl
  | cons p r ih =>
    obtain ⟨c, u⟩ := p
    show (if c = x then (c, S.v w) :: S.f r else (c, S.v u) :: putF' x (S.v w) (S.f r)) = S.f (if c = x then (c, w) :: r else (c, u) :: putF' x w r)
    rw [ih]
    split <;> rfl
theorem sfld_sh (ok : Str → Str → Bool) (y : PV) (x : Str) (w : PV) {ih : IH} (h : S.Lg ih) : sfldP ok (S.v y) x (S.v w) (S.H ih) = (sfldP ok y x w ih).map S.H ∧ ∀ ih', sfldP ok y x w ih = some ih' → S.Lg ih' := by
  cases y with
  | ref n =>
    show (match getI (S.H ih) (S.N n) with | some (c, fs) => if ok c x = true ∧ fs.length < 1000 then some ((S.H ih).set (S.N n) (.ins c (putF' x (S.v w) fs))) else none | none => none) = (match getI ih n with | some (c, fs) => if ok c x = true ∧ fs.length < 1000 then some (ih.set n (.ins c (putF' x w fs))) else none | none => none).map S.H ∧
      ∀ ih', (match getI ih n with | some (c, fs) => if ok c x = true ∧ fs.length < 1000 then some (ih.set n (.ins c (putF' x w fs))) else none | none => none) = some ih' → S.Lg ih'
    rw [getI_sh h]
    cases getI ih n with
    | none => exact ⟨rfl, fun _ q => by cases q⟩
    | some p =>
      show (if ok p.1 x = true ∧ (S.f p.2).length < 1000 then some ((S.H ih).set (S.N n) (.ins p.1 (putF' x (S.v w) (S.f p.2)))) else none) = (if ok p.1 x = true ∧ p.2.length < 1000 then some (ih.set n (.ins p.1 (putF' x w p.2))) else none).map S.H ∧
        ∀ ih', (if ok p.1 x = true ∧ p.2.length < 1000 then some (ih.set n (.ins p.1 (putF' x w p.2))) else none) = some ih' → S.Lg ih'
      rw [f_len]
      split
      · refine ⟨?_, fun _ q => by cases q; exact lg_set h _ _⟩
        rw [f_put]
        have z := set h n (.ins p.1 (putF' x w p.2))
        exact congrArg some z
      · exact ⟨rfl, fun _ q => by cases q⟩
  | _ => exact ⟨rfl, fun _ q => by cases q⟩
theorem vs_set (xs : List PV) (i : Nat) (w : PV) : (S.vs xs).set i (S.v w) = S.vs (xs.set i w) := by rw [vs_map, vs_map, List.map_set]
theorem setP_sh (x i w : PV) {ih : IH} (h : S.Lg ih) : setP (S.v x) (S.v i) (S.v w) (S.H ih) = (setP x i w ih).map S.H ∧ ∀ ih', setP x i w ih = some ih' → S.Lg ih' := by
  cases x with
  | ref n =>
    unfold setP
    show (match (S.H ih)[S.N n]? with | some (.lst xs) => _ | some (.dK kvs) => _ | some (.dN kvs) => _ | _ => _) = Option.map S.H (match ih[n]? with | some (.lst xs) => _ | some (.dK kvs) => _ | some (.dN kvs) => _ | _ => _) ∧ ∀ ih', (match ih[n]? with | some (.lst xs) => _ | some (.dK kvs) => _ | some (.dN kvs) => _ | _ => _) = some ih' → S.Lg ih'
    rw [get h]
    cases ih[n]? with
    | none => exact ⟨rfl, fun _ q => by cases q⟩
    | some u => cases u with
      | lst xs =>
        simp only [Option.map_some, o]
        cases i with
        | int k =>
          show (match ixN (S.vs xs).length k with | some j => some ((S.H ih).set (S.N n) (.lst ((S.vs xs).set j (S.v w)))) | none => none) = Option.map S.H (match ixN xs.length k with | some j => some (ih.set n (.lst (xs.set j w))) | none => none) ∧ ∀ ih', (match ixN xs.length k with | some j => some (ih.set n (.lst (xs.set j w))) | none => none) = some ih' → S.Lg ih'
          rw [vs_len]
          cases ixN xs.length k with
          | none => exact ⟨rfl, fun _ q => by cases q⟩
          | some j =>
            refine ⟨?_, fun _ q => by cases q; exact lg_set h _ _⟩
            show some _ = some _
            rw [vs_set]
            exact congrArg some (set h n (.lst (xs.set j w)))
        | _ => exact ⟨rfl, fun _ q => by cases q⟩
      | dK kvs =>
        simp only [Option.map_some, o, keyOf_sh, nk_sh, kk_len, kk_emp]
        cases keyOf i with
        | some k =>
          dsimp only
          split
          · refine ⟨?_, fun _ q => by cases q; exact lg_set h _ _⟩
            rw [putK_sh]
            exact congrArg some (set h n (.dK _))
          · exact ⟨rfl, fun _ q => by cases q⟩
        | none =>
          dsimp only
          cases nkOf i with
          | none => exact ⟨rfl, fun _ q => by cases q⟩
          | some k =>
            dsimp only
            split
            · refine ⟨?_, fun _ q => by cases q; exact lg_set h _ _⟩
              exact congrArg some (set h n (.dN [(i, w)]))
            · exact ⟨rfl, fun _ q => by cases q⟩
      | dN kvs =>
        simp only [Option.map_some, o, nk_sh, pp_len]
        cases nkOf i with
        | none => exact ⟨rfl, fun _ q => by cases q⟩
        | some k =>
          dsimp only
          split
          · refine ⟨?_, fun _ q => by cases q; exact lg_set h _ _⟩
            rw [putN_sh]
            exact congrArg some (set h n (.dN _))
          · exact ⟨rfl, fun _ q => by cases q⟩
      | _ => exact ⟨rfl, fun _ q => by cases q⟩
  | _ => exact ⟨rfl, fun _ q => by cases q⟩
end Sh
end Z
end
noncomputable section
namespace Z
open PySem PySem.Spec PyProof.Rows L2
set_option autoImplicit false
namespace Sh
variable {S : Sh} {α β : Type} {g : α → α} {g2 : β → β}
theorem E_get (env : Sl) (i : Nat) : (S.E env)[i]? = (env[i]?).map S.ov := by unfold E; rw [List.getElem?_map]
theorem E_set (env : Sl) (i : Nat) (x : PV) : (S.E env).set i (some (S.v x)) = S.E (env.set i (some x)) := by unfold E; rw [List.map_set]; rfl
theorem q_var (i : Nat) : S.QM S.v (eVar i) := fun env ih h => by
  unfold eVar
  rw [E_get]
  cases env[i]? with
  | none => exact .fail
  | some p => cases p with
    | none => exact .fail
    | some x => exact ok_v h x
variable (S) in
variable {C : Cfg}
variable (S) in
def src : Src → Src
  | .lst n => .lst (S.N n)
  | .vals xs => .vals (S.vs xs)
  | .rng lo c n => .rng lo c n
  | .enumL n => .enumL (S.N n)
  | .enumT xs => .enumT (S.vs xs)
theorem setAll_sh : ∀ (is : List Nat) (xs : List PV) (env : Sl), setAll is (S.vs xs) (S.E env) = S.E (setAll is xs env)
  | i :: is, x :: xs, env => by
    show setAll is (S.vs xs) ((S.E env).set i (some (S.v x))) = _
    rw [E_set, setAll_sh is xs]
    rfl
  | [], _, _ => by cases ‹List PV› <;> rfl
  | _ :: _, [], _ => rfl
end Sh
end Z
end
noncomputable section
namespace Z
open PySem PySem.Spec PyProof.Rows L2
set_option autoImplicit false
namespace Sh
variable {S : Sh} {α β : Type} {g : α → α} {g2 : β → β}
section
variable {F : Nat} {sr : EM Src} {tg : Tg} {own : List Nat} {t : EM Bool} {e ek ev : EM PV}
end
variable (S) in
section
variable {t : Ct} {E : Scope → Expr → EM PV} {T : Scope → Expr → EM Bool}
end
end Sh
end Z
end
noncomputable section
namespace Z
open PySem PySem.Spec PyProof.Rows L2
set_option autoImplicit false
namespace Sh
variable {S : Sh} {α β : Type} {g : α → α}
variable (S) in
inductive ES : RS → RS → Prop
  | nx {env : Sl} {h : IH} : S.Lg h → ES (.nx env h) (.nx (S.E env) (S.H h))
  | brk {env : Sl} {h : IH} : S.Lg h → ES (.brk env h) (.brk (S.E env) (S.H h))
  | cnt {env : Sl} {h : IH} : S.Lg h → ES (.cnt env h) (.cnt (S.E env) (S.H h))
  | ret {x : PV} {h : IH} : S.Lg h → ES (.ret x h) (.ret (S.v x) (S.H h))
  | exc {c : Str} {fs : List (Str × PV)} {env : Sl} {h : IH} : S.Lg h → ES (.exc c fs env h) (.exc c (S.f fs) (S.E env) (S.H h))
  | fail : ES .fail .fail
abbrev QS (S : Sh) (m : SM) : Prop := ∀ env ih, S.Lg ih → S.ES (m env ih) (m (S.E env) (S.H ih))
theorem s_fail : QS S sFail := fun _ _ _ => .fail
theorem s_brk : QS S sBrk := fun _ _ h => .brk h
theorem s_cnt : QS S sCnt := fun _ _ h => .cnt h
theorem s_with {m m' : EM α} {k k' : α → SM} {env : Sl} {ih : IH} (z : S.ER g (m env ih) (m' (S.E env) (S.H ih))) (hk : ∀ a ih, S.Lg ih → S.ES (k a env ih) (k' (g a) (S.E env) (S.H ih))) : S.ES (sWith m k env ih) (sWith m' k' (S.E env) (S.H ih)) := by
  unfold sWith
  generalize m env ih = r at z
  generalize m' (S.E env) (S.H ih) = r' at z
  cases z with
  | ok l => exact hk _ _ l
  | exc l => exact .exc l
  | fail => exact .fail
theorem s_if {t : EM Bool} {a b : SM} (ht : S.QM id t) (ha : QS S a) (hb : QS S b) : QS S (sIf t a b) := fun env ih h => s_with (ht env ih h) fun k ih l => by
  show S.ES ((if k = true then a else b) env ih) ((if k = true then a else b) (S.E env) (S.H ih))
  split
  · exact ha _ _ l
  · exact hb _ _ l
theorem s_ret {m : EM PV} (hm : S.QM S.v m) : QS S (sRet m) := fun env ih h => s_with (hm env ih h) fun x ih l => .ret l
abbrev QG (S : Sh) (m : GM) : Prop := ∀ x env ih, S.Lg ih → S.ER S.E (m x env ih) (m (S.v x) (S.E env) (S.H ih))
theorem ok_e {ih : IH} (h : S.Lg ih) (x : Sl) : S.ER S.E (.ok x ih) (.ok (S.E x) (S.H ih)) := .ok h
theorem g_nm (i : Nat) : QG S (gNm i) := fun x env ih h => by
  unfold gNm
  rw [E_set]
  exact ok_e h _
theorem g_fld (ok : Str → Str → Bool) {o : EM PV} (x : Str) (ho : S.QM S.v o) : QG S (gFldM ok o x) := fun w env ih h => by
  have z := ho env ih h
  unfold gFldM
  generalize o env ih = r at z
  generalize o (S.E env) (S.H ih) = r' at z
  cases z with
  | exc l => exact .fail
  | fail => exact .fail
  | ok l =>
    rename_i y h1
    obtain ⟨e1, e2⟩ := sfld_sh ok y x w l
    dsimp only
    rw [e1]
    cases q : sfldP ok y x w h1 with
    | none => exact .fail
    | some h2 => exact ok_e (e2 h2 q) env
theorem g_ix {o i : EM PV} (ho : S.QM S.v o) (hi : S.QM S.v i) : QG S (gIxM o i) := fun w env ih h => by
  have z := ho env ih h
  unfold gIxM
  generalize o env ih = r at z
  generalize o (S.E env) (S.H ih) = r' at z
  cases z with
  | exc l => exact .fail
  | fail => exact .fail
  | ok l =>
    rename_i y h1
    have z2 := hi env h1 l
    dsimp only
    generalize i env h1 = r at z2
    generalize i (S.E env) (S.H h1) = r' at z2
    cases z2 with
    | exc l => exact .fail
    | fail => exact .fail
    | ok l2 =>
      rename_i y2 h2
      obtain ⟨e1, e2⟩ := setP_sh y y2 w l2
      dsimp only
      rw [e1]
      cases q : setP y y2 w h2 with
      | none => exact .fail
      | some h3 => exact ok_e (e2 h3 q) env
theorem g_go : ∀ {gs : List GM}, (∀ m ∈ gs, QG S m) → ∀ (xs : List PV) (env : Sl) (ih : IH), S.Lg ih → S.ER S.E (goG gs xs env ih) (goG gs (S.vs xs) (S.E env) (S.H ih))
  | [], _, [], env, ih, h => ok_e h env
  | [], _, _ :: _, env, ih, h => .fail
  | _ :: _, _, [], env, ih, h => .fail
  | m :: gs, hs, x :: xs, env, ih, h => by
    have z := hs m (by simp) x env ih h
    show S.ER S.E (match m x env ih with | .ok e h => goG gs xs e h | _ => .fail) (match m (S.v x) (S.E env) (S.H ih) with | .ok e h => goG gs (S.vs xs) e h | _ => .fail)
    generalize m x env ih = r at z
    generalize m (S.v x) (S.E env) (S.H ih) = r' at z
    cases z with
    | exc l => exact .fail
    | fail => exact .fail
    | ok l => exact g_go (fun m hm => hs m (List.mem_cons_of_mem _ hm)) xs _ _ l
theorem g_tup {gs : List GM} (hs : ∀ m ∈ gs, QG S m) : QG S (gTupM gs) := fun w env ih h => by
  cases w with
  | tup xs =>
    show S.ER S.E (if xs.length = gs.length then goG gs xs env ih else .fail) (if (S.vs xs).length = gs.length then goG gs (S.vs xs) (S.E env) (S.H ih) else .fail)
    rw [vs_len]
    split
    · exact g_go hs xs env ih h
    · exact .fail
  | _ => exact .fail
theorem s_asg {m : EM PV} {t : GM} (hm : S.QM S.v m) (ht : QG S t) : QS S (sAsg m t) := fun env ih h => s_with (hm env ih h) fun x ih l => by
  have z := ht x env ih l
  show S.ES (match t x env ih with | .ok e h => .nx e h | _ => .fail) (match t (S.v x) (S.E env) (S.H ih) with | .ok e h => .nx e h | _ => .fail)
  generalize t x env ih = r at z
  generalize t (S.v x) (S.E env) (S.H ih) = r' at z
  cases z with
  | ok l => exact .nx l
  | exc l => exact .fail
  | fail => exact .fail
theorem s_par (is : List Nat) {m : EM (List PV)} (hm : S.QM S.vs m) : QS S (sPar is m) := fun env ih h => s_with (hm env ih h) fun xs ih l => by
  show S.ES (if xs.length = is.length then _ else _) (if (S.vs xs).length = is.length then _ else _)
  rw [vs_len]
  split
  · rw [setAll_sh]; exact .nx l
  · exact .fail
theorem q_aug (op : Operator) : S.Q2 S.v (augP op) := by
  intro x y ih h
  cases op
  case Add => cases x with
    | int i => cases y with
      | int j => exact ok_v h (.int (i + j))
      | _ => exact .fail
    | _ => exact .fail
  case Sub => cases x with
    | int i => cases y with
      | int j => exact ok_v h (.int (i - j))
      | _ => exact .fail
    | _ => exact .fail
  all_goals exact .fail
theorem s_aug (op : Operator) (i : Nat) {m : EM PV} (hm : S.QM S.v m) : QS S (sAug (augP op) i m) := fun env ih h => s_with (q_var i env ih h) fun x ih l => s_with (hm env ih l) fun y ih l => s_with (g := S.v) (q_aug op x y ih l) fun z ih l => by
  show S.ES (.nx (env.set i (some z)) ih) (.nx ((S.E env).set i (some (S.v z))) (S.H ih))
  rw [E_set]
  exact .nx l
def cv (S : Sh) (p : Str × PV) : Str × PV := (p.1, S.v p.2)
theorem s_while {t : EM Bool} {b : SM} (ht : S.QM id t) (hb : QS S b) : ∀ n, QS S (sWhile t b n)
  | 0 => s_fail
  | n + 1 => fun env ih h => s_with (ht env ih h) fun k ih l => by
    cases k with
    | false => exact .nx l
    | true =>
      have z2 := hb env ih l
      show S.ES (match b env ih with | .nx e h => sWhile t b n e h | .cnt e h => sWhile t b n e h | .brk e h => .nx e h | r => r) (match b (S.E env) (S.H ih) with | .nx e h => sWhile t b n e h | .cnt e h => sWhile t b n e h | .brk e h => .nx e h | r => r)
      generalize b env ih = r at z2
      generalize b (S.E env) (S.H ih) = r' at z2
      cases z2 with
      | nx l => exact s_while ht hb n _ _ l
      | cnt l => exact s_while ht hb n _ _ l
      | brk l => exact .nx l
      | ret l => exact .ret l
      | exc l => exact .exc l
      | fail => exact .fail
theorem zip_f : ∀ (fs : List Str) (vs : List PV), fs.zip (S.vs vs) = S.f (fs.zip vs)
  | [], _ => rfl
  | _ :: _, [] => rfl
  | c :: fs, x :: vs => by
    show (c, S.v x) :: fs.zip (S.vs vs) = (c, S.v x) :: S.f (fs.zip vs)
    rw [zip_f fs vs]
theorem s_raise (x : Str) (fs : List Str) {m : EM (List PV)} (hm : S.QM S.vs m) : QS S (sRaiseX x fs m) := fun env ih h => s_with (hm env ih h) fun vs ih l => by
  show S.ES (if vs.length = fs.length then .exc x (fs.zip vs) env ih else .fail) (if (S.vs vs).length = fs.length then .exc x (fs.zip (S.vs vs)) (S.E env) (S.H ih) else .fail)
  rw [vs_len]
  split
  · rw [zip_f]; exact .exc l
  · exact .fail
mutual
theorem v_inj : ∀ {x y : PV}, S.v x = S.v y → x = y
  | .non, y, h => by cases y <;> simp only [v, reduceCtorEq] at h; rfl
  | .bl _, y, h => by cases y <;> simp only [v, reduceCtorEq, PV.bl.injEq] at h; rw [h]
  | .int _, y, h => by cases y <;> simp only [v, reduceCtorEq, PV.int.injEq] at h; rw [h]
  | .str _, y, h => by cases y <;> simp only [v, reduceCtorEq, PV.str.injEq] at h; rw [h]
  | .tup xs, y, h => by cases y <;> simp only [v, reduceCtorEq, PV.tup.injEq] at h; rw [vs_inj h]
  | .ref _, y, h => by cases y <;> simp only [v, reduceCtorEq, PV.ref.injEq] at h; rw [N_inj h]
  | .exc _ fs, y, h => by cases y <;> simp only [v, reduceCtorEq, PV.exc.injEq] at h; rw [h.1, f_inj h.2]
  | .ty _, y, h => by cases y <;> simp only [v, reduceCtorEq, PV.ty.injEq] at h; rw [h]
  | .cls _, y, h => by cases y <;> simp only [v, reduceCtorEq, PV.cls.injEq] at h; rw [h]
theorem vs_inj : ∀ {xs ys : List PV}, S.vs xs = S.vs ys → xs = ys
  | [], [], _ => rfl
  | [], _ :: _, h => by simp only [vs, reduceCtorEq] at h
  | _ :: _, [], h => by simp only [vs, reduceCtorEq] at h
  | x :: xs, y :: ys, h => by simp only [vs, List.cons.injEq] at h; rw [v_inj h.1, vs_inj h.2]
theorem f_inj : ∀ {xs ys : List (Str × PV)}, S.f xs = S.f ys → xs = ys
  | [], [], _ => rfl
  | [], (_, _) :: _, h => by simp only [f, reduceCtorEq] at h
  | (_, _) :: _, [], h => by simp only [f, reduceCtorEq] at h
  | (a, x) :: xs, (b, y) :: ys, h => by simp only [f, List.cons.injEq, Prod.mk.injEq] at h; rw [h.1.1, v_inj h.1.2, f_inj h.2]
end
theorem kk_inj {xs ys : List (Key × PV)} (h : S.kk xs = S.kk ys) : xs = ys := (List.map_inj_right (fun p q e => by simp only [Prod.mk.injEq] at e; exact Prod.ext e.1 (v_inj e.2))).mp h
theorem pp_inj {xs ys : List (PV × PV)} (h : S.pp xs = S.pp ys) : xs = ys := (List.map_inj_right (fun p q e => by simp only [Prod.mk.injEq] at e; exact Prod.ext (v_inj e.1) (v_inj e.2))).mp h
theorem o_inj {x y : IO} (h : S.o x = S.o y) : x = y := by
  cases x <;> cases y <;> simp only [o, reduceCtorEq, IO.lst.injEq, IO.flst.injEq, IO.dK.injEq, IO.dN.injEq, IO.ins.injEq, IO.fdK.injEq] at h
  · rw [vs_inj h]
  · rw [vs_inj h]
  · rw [kk_inj h]
  · rw [h.1, f_inj h.2]
  · rw [pp_inj h]
  · rw [h.1, kk_inj h.2]
theorem H_inj {x y : IH} (hx : S.Lg x) (hy : S.Lg y) (h : S.H x = S.H y) : x = y := by
  unfold H at h
  unfold Lg at hx hy
  obtain ⟨h1, h2⟩ := List.append_inj h (by simp; omega)
  have h2 := (List.append_inj h2 rfl).2
  have e1 := (List.map_inj_right (fun _ _ e => o_inj e)).mp h1
  have e2 := (List.map_inj_right (fun _ _ e => o_inj e)).mp h2
  rw [← List.take_append_drop S.b x, ← List.take_append_drop S.b y, e1, e2]
mutual
theorem noX_sh : ∀ x : PV, noX (S.v x) = noX x
  | .non => rfl
  | .bl _ => rfl
  | .int _ => rfl
  | .str _ => rfl
  | .tup xs => noXs_sh xs
  | .ref _ => rfl
  | .exc _ _ => rfl
  | .ty _ => rfl
  | .cls _ => rfl
theorem noXs_sh : ∀ xs : List PV, noXs (S.vs xs) = noXs xs
  | [] => rfl
  | x :: xs => by simp only [vs, noXs, noX_sh x, noXs_sh xs]
end
theorem s_handle (P : Prg) (nk : kindsOn P = false) (c : Str) (fs : List (Str × PV)) : ∀ {hs : List (Str × Option Nat × SM)}, (∀ p ∈ hs, QS S p.2.2) → ∀ env ih, S.Lg ih → S.ES (sHandleP P c fs hs env ih) (sHandleP P c (S.f fs) hs (S.E env) (S.H ih))
  | [], _, env, ih, h => .exc h
  | (y, n, b) :: r, hs, env, ih, h => by
    unfold sHandleP
    split
    · cases n with
      | none => exact hs (y, none, b) (by simp) env ih h
      | some i =>
        have z := hs (y, some i, b) (by simp) (env.set i (some (.exc c fs))) ih h
        have e : S.E (env.set i (some (.exc c fs))) = (S.E env).set i (some (.exc c (S.f fs))) := (E_set env i (.exc c fs)).symm
        rw [e] at z
        dsimp only at z ⊢
        rw [if_neg (by rw [nk]; exact Bool.false_ne_true), if_neg (by rw [nk]; exact Bool.false_ne_true)]
        generalize b (env.set i (some (.exc c fs))) ih = r at z
        generalize b ((S.E env).set i (some (.exc c (S.f fs)))) (S.H ih) = r' at z
        cases z with
        | ret l =>
          rename_i x h2
          unfold retOnly
          dsimp only
          rw [noX_sh]
          by_cases c : h2 = ih ∧ noX x = true
          · rw [if_pos c, if_pos ⟨by rw [c.1], c.2⟩]
            exact .ret l
          · rw [if_neg c, if_neg (fun q => c ⟨H_inj l h q.1, q.2⟩)]
            exact .fail
        | _ => exact .fail
    · exact s_handle P nk c fs (fun p hp => hs p (List.mem_cons_of_mem _ hp)) env ih h
theorem s_try (P : Prg) (nk : kindsOn P = false) {b : SM} {hs : List (Str × Option Nat × SM)} (hb : QS S b) (hh : ∀ p ∈ hs, QS S p.2.2) : QS S (sTryP P b hs) := fun env ih h => by
  have z := hb env ih h
  unfold sTryP
  generalize b env ih = r at z
  generalize b (S.E env) (S.H ih) = r' at z
  cases z with
  | nx l => exact .nx l
  | brk l => exact .brk l
  | cnt l => exact .cnt l
  | ret l => exact .ret l
  | fail => exact .fail
  | exc l =>
    dsimp only
    split
    · exact s_handle P nk _ _ hh _ _ l
    · exact .fail
section
variable {t : Ct} {E : Scope → Expr → EM PV} {T : Scope → Expr → EM Bool}
end
end Sh
end Z
end
noncomputable section
namespace Z
open PySem PySem.Spec PyProof.Rows L2
set_option autoImplicit false
def bmGo (T : BT) (m : Str) (as : EM (List PV)) (x : PV) (env : Sl) (h : IH) : R PV := match bmOf T m with
  | some q => eBind as (fun vs => fun _ h => q x vs h) env h
  | none => .fail
def methO (o : Option IO) (C : Cfg) (m : Str) (n : Nat) (as : EM (List PV)) (p : Nat) (env : Sl) (h : IH) : R PV := match o with
  | some (.ins c fs) => if (fs.lookup m).isNone = true ∧ (C.P.fdef (.meth c m)).isSome = true then eBind as (fun vs => fun _ h => callP C (.meth c m) (n + 1) (.ref p :: vs) h) env h else .fail
  | some (.lst _) => bmGo .list m as (.ref p) env h
  | some (.dK _) => bmGo .dict m as (.ref p) env h
  | some (.fdK _ _) => bmGo .dict m as (.ref p) env h
  | _ => .fail
theorem meth_ref {C : Cfg} {m : Str} {n p : Nat} {as : EM (List PV)} {env : Sl} {h : IH} : methAny C m n as (.ref p) env h = methO h[p]? C m n as p env h := by
  unfold methAny btOf
  dsimp only
  cases e : h[p]? with
  | none => simp only [methGo, getI, e, methO]
  | some o => cases o with
    | lst xs => rfl
    | flst xs => simp only [methGo, getI, e, methO]
    | dK xs => rfl
    | dN xs => simp only [methGo, getI, e, methO]
    | fdK x xs => rfl
    | ins c fs => simp only [methGo, getI, e, methO]
section
variable {C : Cfg} {m c : Str} {n p : Nat} {as : EM (List PV)} {env : Sl} {h : IH} {fs : List (Str × PV)} {x : PV} {xs : List PV} {kvs : List (Key × PV)} {QP : R PV → Prop} {QS : RS → Prop} {y z : PV}
theorem methO_ins : methO (some (.ins c fs)) C m n as p env h = if (fs.lookup m).isNone = true ∧ (C.P.fdef (.meth c m)).isSome = true then eBind as (fun vs => fun _ h => callP C (.meth c m) (n + 1) (.ref p :: vs) h) env h else .fail := rfl
theorem methO_lst : methO (some (.lst xs)) C m n as p env h = bmGo .list m as (.ref p) env h := rfl
theorem methO_dK : methO (some (.dK kvs)) C m n as p env h = bmGo .dict m as (.ref p) env h := rfl
theorem methO_fdK : methO (some (.fdK c kvs)) C m n as p env h = bmGo .dict m as (.ref p) env h := rfl
theorem meth_str {s : Str} : methAny C m n as (.str s) env h = bmGo .str m as (.str s) env h := rfl
theorem bm_append : bmGo .list "append" as x env h = eBind as (fun vs => fun _ h => appendM x vs h) env h := rfl
theorem bm_extend : bmGo .list "extend" as x env h = eBind as (fun vs => fun _ h => extendM x vs h) env h := rfl
theorem bm_pop : bmGo .list "pop" as x env h = eBind as (fun vs => fun _ h => popM x vs h) env h := rfl
theorem bm_get : bmGo .dict "get" as x env h = eBind as (fun vs => fun _ h => getDM x vs h) env h := rfl
theorem bm_split : bmGo .str "split" as x env h = eBind as (fun vs => fun _ h => splitM x vs h) env h := rfl
theorem bm_join : bmGo .str "join" as x env h = eBind as (fun vs => fun _ h => joinM x vs h) env h := rfl
def appO (o : Option IO) (p : Nat) (y : PV) (h : IH) : R PV := match o with
  | some (.lst xs) => if xs.length < LINE then .ok .non (h.set p (.lst (xs ++ [y]))) else .fail
  | _ => .fail
theorem app_ref : appendM (.ref p) [y] h = appO h[p]? p y h := by
  unfold appendM appO getM
  dsimp only
  cases h[p]? with
  | none => rfl
  | some o => cases o <;> rfl
theorem appO_lst : appO (some (.lst xs)) p y h = if xs.length < LINE then .ok .non (h.set p (.lst (xs ++ [y]))) else .fail := rfl
def popO (o : Option IO) (p : Nat) (h : IH) : R PV := match o with
  | some (.lst xs) => match xs[xs.length - 1]? with
    | some y => .ok y (h.set p (.lst xs.dropLast))
    | none => .fail
  | _ => .fail
theorem pop_ref : popM (.ref p) [] h = popO h[p]? p h := by
  unfold popM popO getM
  dsimp only
  cases h[p]? with
  | none => rfl
  | some o => cases o <;> rfl
theorem popO_lst : popO (some (.lst xs)) p h = match xs[xs.length - 1]? with
    | some y => .ok y (h.set p (.lst xs.dropLast))
    | none => .fail := rfl
def getO (o : Option IO) (y d : PV) (h : IH) : R PV := match o with
  | some (.dK kvs) => match keyOf y with
    | some k => .ok ((lookK kvs k).getD d) h
    | none => .fail
  | some (.fdK _ kvs) => match keyOf y with
    | some k => .ok ((lookK kvs k).getD d) h
    | none => .fail
  | _ => .fail
theorem get1_ref : getDM (.ref p) [y] h = getO h[p]? y .non h := by
  unfold getDM getO getDR
  dsimp only
  cases h[p]? with
  | none => rfl
  | some o => cases o <;> dsimp only <;> cases keyOf y <;> rfl
theorem get2_ref : getDM (.ref p) [y, z] h = getO h[p]? y z h := by
  unfold getDM getO getDR
  dsimp only
  cases h[p]? with
  | none => rfl
  | some o => cases o <;> dsimp only <;> cases keyOf y <;> rfl
theorem getO_s {s : Str} : getO (some (.dK kvs)) (.str s) z h = .ok ((lookK kvs (.inr s)).getD z) h := rfl
theorem getO_i {i : Int} : getO (some (.dK kvs)) (.int i) z h = .ok ((lookK kvs (.inl i)).getD z) h := rfl
theorem getO_fs {s : Str} : getO (some (.fdK c kvs)) (.str s) z h = .ok ((lookK kvs (.inr s)).getD z) h := rfl
def truO (o : Option IO) (h : IH) : R Bool := match o with
  | some (.lst xs) => .ok (!xs.isEmpty) h
  | some (.flst xs) => .ok (!xs.isEmpty) h
  | some (.dK xs) => .ok (!xs.isEmpty) h
  | _ => .fail
theorem tru_ref : truP (.ref p) h = truO h[p]? h := by
  unfold truP truO; dsimp only
  all_goals
    cases h[p]? with
    | none => rfl
    | some o => cases o <;> rfl
theorem truO_l : truO (some (.lst xs)) h = .ok (!xs.isEmpty) h := rfl
theorem tru_tup : truP (.tup xs) h = .ok (!xs.isEmpty) h := rfl
def lenO (o : Option IO) (h : IH) : R PV := match o with
  | some (.lst xs) => .ok (.int xs.length) h
  | some (.flst xs) => .ok (.int xs.length) h
  | some (.dK xs) => .ok (.int xs.length) h
  | _ => .fail
theorem len_ref : lenP [.ref p] h = lenO h[p]? h := by
  unfold lenP lenO; dsimp only
  all_goals
    cases h[p]? with
    | none => rfl
    | some o => cases o <;> rfl
def lnO (C : Cfg) (p : Nat) (o : Option IO) (h : IH) : R PV := match o with
  | some (.ins c _) => lenB (callP C (.meth c "__len__") 1 [.ref p] h)
  | o => lenO o h
theorem ln_ref {C : Cfg} : lnP C [.ref p] h = lnO C p h[p]? h := by
  unfold lnP lnO
  dsimp only
  cases q : h[p]? with
  | none => dsimp only; rw [len_ref, q]
  | some o => cases o <;> first | rfl | (dsimp only; rw [len_ref, q])
theorem lnO_l {C : Cfg} : lnO C p (some (.lst xs)) h = .ok (.int xs.length) h := rfl
theorem lnO_f {C : Cfg} : lnO C p (some (.flst xs)) h = .ok (.int xs.length) h := rfl
theorem lnO_d {C : Cfg} : lnO C p (some (.dK kvs)) h = .ok (.int kvs.length) h := rfl
theorem lnO_i {C : Cfg} {c : Str} {fs : List (Str × PV)} : lnO C p (some (.ins c fs)) h = lenB (callP C (.meth c "__len__") 1 [.ref p] h) := rfl
theorem ln_tup {C : Cfg} {ys : List PV} : lnP C [.tup ys] h = lenP [.tup ys] h := rfl
theorem ln_str {C : Cfg} {z : Str} : lnP C [.str z] h = lenP [.str z] h := rfl
theorem lenO_l : lenO (some (.lst xs)) h = .ok (.int xs.length) h := rfl
theorem lenO_d : lenO (some (.dK kvs)) h = .ok (.int kvs.length) h := rfl
theorem r_aug {q : PV → PV → IH → R PV} {i : Nat} {e : EM PV} : WS (sAug q i e env h) QS = WP (eVar i env h) (KW (fun v => sWith e fun w => sWith (fun _ ih => q v w ih) fun z env h => .nx (env.set i (some z)) h) env QS) := rfl
theorem aug_add {i j : Int} : augP .Add (.int i) (.int j) h = .ok (.int (i + j)) h := rfl
theorem aug_sub {i j : Int} : augP .Sub (.int i) (.int j) h = .ok (.int (i - j)) h := rfl
theorem r_augF {ok : Str → Str → Bool} {q : PV → PV → IH → R PV} {f : Str} {o e : EM PV} : WS (sAugF ok q o f e env h) QS = WP (o env h) (KW (fun x => sWith (fldC ok x f) fun cv => sWith e fun w => sWith (fun _ ih => q cv.2 w ih) fun z env h =>
  if clsAt h x = some cv.1 then (match sfldP ok x f z h with
    | some h' => .nx env h'
    | none => .fail) else .fail) env QS) := rfl
def fldCO (ok : Str → Str → Bool) (o : Option IO) (f : Str) (h : IH) : R (Str × PV) := match o with
  | some (.ins c fs) => if ok c f = true then (match fs.lookup f with
    | some v => .ok (c, v) h
    | none => .fail) else .fail
  | _ => .fail
theorem fldC_ref {ok : Str → Str → Bool} {f : Str} : fldC ok (.ref p) f env h = fldCO ok h[p]? f h := by
  unfold fldC fldCO getI; dsimp only
  cases h[p]? with
  | none => rfl
  | some o => cases o <;> rfl
theorem fldCO_in {ok : Str → Str → Bool} {f : Str} : fldCO ok (some (.ins c fs)) f h = if ok c f = true then (match fs.lookup f with
    | some v => .ok (c, v) h
    | none => .fail) else .fail := rfl
def clsO (o : Option IO) : Option Str := match o with
  | some (.ins c _) => some c
  | _ => none
theorem cls_ref : clsAt h (.ref p) = clsO h[p]? := by
  unfold clsAt clsO getI; dsimp only
  cases h[p]? with
  | none => rfl
  | some o => cases o <;> rfl
theorem clsO_in : clsO (some (.ins c fs)) = some c := rfl
theorem is_n : isP x .non h = .ok (isNon x) h := rfl
theorem isNon_n : isNon .non = true := rfl
theorem isNon_i {i : Int} : isNon (.int i) = false := rfl
theorem isNon_s {i : Str} : isNon (.str i) = false := rfl
theorem isNon_b {i : Bool} : isNon (.bl i) = false := rfl
theorem isNon_t : isNon (.tup xs) = false := rfl
theorem isNon_r : isNon (.ref p) = false := rfl
end
theorem eq_D {h : IH} {x y : PV} {d e : PyData} (ex : toD h DEEP x = some d) (ey : toD h DEEP y = some e) (sx : SeqAt.shaped d = true) (sy : SeqAt.shaped e = true) : eqP x y h = .ok (PyData.eqv d e) h := by
  unfold eqP; rw [ex, ey]; dsimp only; rw [if_pos ⟨sx, sy⟩]
theorem ok_lit (s : String) : PyData.strOk (Str.ofString s) = true := by
  unfold PyData.strOk
  rw [Str.ofString_eq_toList]
  simp only [List.all_toArray, List.all_map, List.all_eq_true, Function.comp_apply, decide_eq_true_eq]
  intro c _
  have := c.valid
  have h2 : c.toNat = c.val.toNat := rfl
  rcases this with h | h
  · rw [h2]; exact Nat.lt_trans (by simpa using h) (by decide)
  · rw [h2]; exact h.2
theorem shp_s {a : Str} (h : PyData.strOk a = true) : SeqAt.shaped (.str a) = true := by unfold SeqAt.shaped; rw [show (PyData.str a).canLay0 = true from h]; rfl
theorem eq_ss {a b : Str} {h : IH} (ha : PyData.strOk a = true) (hb : PyData.strOk b = true) : eqP (.str a) (.str b) h = .ok (decide (a = b)) h := (eq_D (h := h) (x := .str a) (y := .str b) rfl rfl (shp_s ha) (shp_s hb)).trans (by congr 1)
theorem eq_nn {h : IH} : eqP .non .non h = .ok true h := rfl
theorem eq_ns {b : Str} {h : IH} (hb : PyData.strOk b = true) : eqP .non (.str b) h = .ok false h := eq_D (h := h) (x := .non) (y := .str b) rfl rfl rfl (shp_s hb)
theorem eq_sn {b : Str} {h : IH} (hb : PyData.strOk b = true) : eqP (.str b) .non h = .ok false h := eq_D (h := h) (y := .non) (x := .str b) rfl rfl (shp_s hb) rfl
theorem eq_ni {b : Int} {h : IH} : eqP .non (.int b) h = .ok false h := rfl
theorem eq_in {b : Int} {h : IH} : eqP (.int b) .non h = .ok false h := rfl
theorem eq_is {a : Int} {b : Str} {h : IH} (hb : PyData.strOk b = true) : eqP (.int a) (.str b) h = .ok false h := eq_D (h := h) (x := .int a) (y := .str b) rfl rfl rfl (shp_s hb)
theorem eq_si {a : Int} {b : Str} {h : IH} (hb : PyData.strOk b = true) : eqP (.str b) (.int a) h = .ok false h := eq_D (h := h) (y := .int a) (x := .str b) rfl rfl (shp_s hb) rfl
theorem eq_bb {a b : Bool} {h : IH} : eqP (.bl a) (.bl b) h = .ok (a == b) h := rfl
def eI (i : Int × Int) : PV := .tup [.int i.1, .int i.2]
def dI (i : Int × Int) : PyData := .tuple [.int i.1, .int i.2]
theorem toD_I {i : Int × Int} {d : Nat} {h : IH} : toD h (d + 1) (eI i) = some (dI i) := by
  have e : ∀ (j : Int) (d : Nat), toD h d (.int j) = some (.int j) := fun j d => by cases d <;> rfl
  show (mapO (toD h d) [.int i.1, .int i.2]).map _ = _
  simp only [mapO, e, Option.map_some]; rfl
theorem eqv_I {a b : Int × Int} : PyData.eqv (dI a) (dI b) = decide (a = b) := by
  obtain ⟨a1, a2⟩ := a
  obtain ⟨b1, b2⟩ := b
  unfold dI
  simp only [PyData.eqv, PyData.eqvAll, Prod.mk.injEq, Bool.and_true, Bool.decide_and]
  rfl
theorem eq_II {a b : Int × Int} {h : IH} : eqP (eI a) (eI b) h = .ok (decide (a = b)) h := (eq_D toD_I toD_I rfl rfl).trans (by rw [eqv_I])
theorem eq_nI {b : Int × Int} {h : IH} : eqP .non (eI b) h = .ok false h := rfl
theorem eq_In {b : Int × Int} {h : IH} : eqP (eI b) .non h = .ok false h := rfl
def inStrs (s : Str) : List PV → Option Bool
  | [] => some false
  | .str a :: r => if PyData.strOk a = true then (inStrs s r).map (decide (a = s) || ·) else none
  | _ => none
theorem inStrs_nil {s : Str} : inStrs s [] = some false := rfl
theorem inStrs_cons {s a : Str} {r : List PV} : inStrs s (.str a :: r) = if PyData.strOk a = true then (inStrs s r).map (decide (a = s) || ·) else none := rfl
def inSR (s : Str) (xs : List PV) (h : IH) : R Bool := match inStrs s xs with
  | some b => .ok b h
  | none => inP (.str s) (.tup xs) h
theorem inStrs_D {s : Str} {h : IH} : ∀ {xs : List PV} {b : Bool}, inStrs s xs = some b → ∃ ds, mapO (toD h DEEP) xs = some ds ∧ SeqAt.shaped (.list ds) = true ∧ (ds.any fun z => PyData.eqv z (.str s)) = b
  | [], b, e => by cases e; exact ⟨[], rfl, rfl, rfl⟩
  | .str a :: r, b, e => by
    rw [inStrs_cons] at e
    split at e
    rotate_left
    · cases e
    rename_i hok
    cases q : inStrs s r with
    | none => rw [q] at e; cases e
    | some c =>
      rw [q] at e; cases e
      obtain ⟨ds, h1, h2, h3⟩ := inStrs_D (h := h) q
      refine ⟨.str a :: ds, ?_, ?_, ?_⟩
      · show (mapO (toD h DEEP) r).map _ = _
        rw [h1]; rfl
      · unfold SeqAt.shaped at h2 ⊢
        simp only [PyData.canLay0, PyData.canLayAll0, PyData.depth, PyData.depthAll, Bool.and_eq_true, decide_eq_true_eq] at h2 ⊢
        exact ⟨⟨hok, h2.1⟩, by have := h2.2; simp only [Nat.zero_max]; exact this⟩
      · rw [List.any_cons, h3]; congr 1
  | .non :: _, _, e => by cases e
  | .bl _ :: _, _, e => by cases e
  | .int _ :: _, _, e => by cases e
  | .tup _ :: _, _, e => by cases e
  | .ref _ :: _, _, e => by cases e
  | .exc _ _ :: _, _, e => by cases e
  | .ty _ :: _, _, e => by cases e
  | .cls _ :: _, _, e => by cases e
theorem in_s {s : Str} {xs : List PV} {h : IH} (hs : PyData.strOk s = true) : inD (.str s) (.tup xs) h = inSR s xs h := by
  unfold inSR
  cases q : inStrs s xs with
  | none => rfl
  | some b =>
    obtain ⟨ds, h1, h2, h3⟩ := inStrs_D (h := h) q
    show inP (.str s) (.tup xs) h = _
    unfold inP
    have e1 : items? h (.tup xs) = some xs := rfl
    have e2 : toD h DEEP (.str s) = some (.str s) := rfl
    rw [e1]; dsimp only; rw [e2, h1]; dsimp only
    rw [if_pos ⟨shp_s hs, h2⟩, h3]
def isSome2 (o : Option Bool) (k : R Bool) (h : IH) : R Bool := match o with
  | some b => .ok b h
  | none => k
theorem inSR_eq {s : Str} {xs : List PV} {h : IH} : inSR s xs h = isSome2 (inStrs s xs) (inP (.str s) (.tup xs) h) h := rfl
theorem isSome2_s {b : Bool} {k : R Bool} {h : IH} : isSome2 (some b) k h = .ok b h := rfl
def isaR (o : Option TyN) (ok : Str → Bool) (c : PV) (h : IH) : R PV := match o with
  | some t => match isOne ok t c with
    | some b => .ok (.bl b) h
    | none => .fail
  | none => .fail
theorem isa_ty {ok : Str → Bool} {x : PV} {n : String} {h : IH} : isaP ok [x, .ty n] h = isaR (tyOf h x) ok (.ty n) h := rfl
theorem isa_cls {ok : Str → Bool} {x : PV} {n : Str} {h : IH} : isaP ok [x, .cls n] h = isaR (tyOf h x) ok (.cls n) h := rfl
theorem getA {h t : IH} {i : Nat} : (h ++ t)[h.length + i]? = t[i]? := by rw [List.getElem?_append_right (by omega)]; congr 1; omega
theorem getA0 {h t : IH} : (h ++ t)[h.length]? = t[0]? := getA (i := 0)
theorem setA {h t : IH} {i : Nat} {o : IO} : (h ++ t).set (h.length + i) o = h ++ t.set i o := by rw [List.set_append_right _ _ (by omega)]; congr 2; omega
theorem setA0 {h t : IH} {o : IO} : (h ++ t).set h.length o = h ++ t.set 0 o := setA (i := 0)
theorem kb_bind {α β : Type} {r : R α} {k : α → IH → R β} {Q : R β → Prop} : WP (r.bind k) Q = WP r (KB k Q) := rfl
theorem wp_done {α : Type} {r : R α} : WP r (fun x => x = r) = True := by unfold WP; simp
theorem atI_pos {α : Type} {xs : List α} {i : Nat} (h : i < xs.length) : atI xs (i : Int) = xs[i]? := by
  rw [atI_nn (by omega) (by omega)]; rfl
theorem atI0 {α : Type} {a : α} {r : List α} : atI (a :: r) 0 = some a := atI_pos (xs := a :: r) (i := 0) (by simp)
theorem atI1 {α : Type} {a b : α} {r : List α} : atI (a :: b :: r) 1 = some b := atI_pos (xs := a :: b :: r) (i := 1) (by simp)
theorem atI2 {α : Type} {a b c : α} {r : List α} : atI (a :: b :: c :: r) 2 = some c := atI_pos (xs := a :: b :: c :: r) (i := 2) (by simp)
theorem atI3 {α : Type} {a b c d : α} {r : List α} : atI (a :: b :: c :: d :: r) 3 = some d := atI_pos (xs := a :: b :: c :: d :: r) (i := 3) (by simp)
theorem atI4 {α : Type} {a b c d e : α} {r : List α} : atI (a :: b :: c :: d :: e :: r) 4 = some e := atI_pos (xs := a :: b :: c :: d :: e :: r) (i := 4) (by simp)
theorem w_dnew {env : Sl} {h : IH} {Q : R PV → Prop} : WP (eDNew env h) Q = WP (.ok (.ref h.length) (h ++ [.dK []])) Q := rfl
def inRest (x : PV) (n : Nat) (h : IH) : R Bool := inD x (.ref n) h
def inDO (o : Option IO) (k : Key) (e : R Bool) (h : IH) : R Bool := match o with
  | some (.dK kvs) => .ok (lookK kvs k).isSome h
  | some (.fdK _ kvs) => .ok (lookK kvs k).isSome h
  | _ => e
theorem in_ri {i : Int} {n : Nat} {h : IH} : inD (.int i) (.ref n) h = inDO h[n]? (.inl i) (inRest (.int i) n h) h := by
  unfold inRest inDO
  cases e : h[n]? with
  | none => rfl
  | some o => cases o with
    | dK kvs => simp only [inD, e, keyOf]
    | fdK x kvs => simp only [inD, e, keyOf]
    | _ => rfl
theorem in_rs {i : Str} {n : Nat} {h : IH} : inD (.str i) (.ref n) h = inDO h[n]? (.inr i) (inRest (.str i) n h) h := by
  unfold inRest inDO
  cases e : h[n]? with
  | none => rfl
  | some o => cases o with
    | dK kvs => simp only [inD, e, keyOf]
    | fdK x kvs => simp only [inD, e, keyOf]
    | _ => rfl
theorem inDO_d {k : Key} {e : R Bool} {h : IH} {kvs : List (Key × PV)} : inDO (some (.dK kvs)) k e h = .ok (lookK kvs k).isSome h := rfl
theorem inDO_f {x : Str} {k : Key} {e : R Bool} {h : IH} {kvs : List (Key × PV)} : inDO (some (.fdK x kvs)) k e h = .ok (lookK kvs k).isSome h := rfl
theorem stI_d {kvs : List (Key × PV)} {n : Nat} {k : Int} {v : PV} {h : IH} : stI (some (.dK kvs)) n k v h = if kvs.length < LINE then some (h.set n (.dK (putK' kvs (.inl k) v))) else none := rfl
theorem ix_I0 {i : Int × Int} {h : IH} : ixP (eI i) (.int 0) h = .ok (.int i.1) h := rfl
theorem ix_I1 {i : Int × Int} {h : IH} : ixP (eI i) (.int 1) h = .ok (.int i.2) h := rfl
def at0 (its : List (Int × Int)) (j : Nat) : Int × Int := its.getD j (0, 0)
theorem rng1s {j : Int} {h : IH} (h3 : -1000000 ≤ j) (h4 : j ≤ 1000000) : rngP 1 [.int j] h = .ok (.rng 0 1 j.toNat) h := rng1 (by omega)
end Z
end
noncomputable section
namespace Z
open PySem PySem.Spec PyProof.Rows L2
set_option autoImplicit false
theorem sl_t {xs : List PV} {lo hi : Option Int} {h : IH} : slP (.tup xs) lo hi h = .ok (.tup (cutP xs lo hi)) h := rfl
theorem drop_min {α : Type} (xs : List α) (a : Nat) : xs.drop (min a xs.length) = xs.drop a := by
  by_cases c : a ≤ xs.length
  · rw [Nat.min_eq_left c]
  · rw [Nat.min_eq_right (by omega), List.drop_length, List.drop_eq_nil_of_le (by omega)]
theorem cut_nat {α : Type} (xs : List α) (a b : Nat) : cutP xs (some (a : Int)) (some (b : Int)) = (xs.drop a).take (b - a) := by
  unfold cutP
  rw [HT.sIx_nat, HT.sIx_nat, drop_min]
  by_cases c : b ≤ xs.length
  · rw [Nat.min_eq_left c]
    by_cases c2 : a ≤ xs.length
    · rw [Nat.min_eq_left c2]
    · rw [List.drop_eq_nil_of_le (by omega), List.take_nil, List.take_nil]
  · rw [Nat.min_eq_right (by omega)]
    by_cases c2 : a ≤ xs.length
    · rw [Nat.min_eq_left c2, List.take_of_length_le (by rw [List.length_drop]; omega), List.take_of_length_le (by rw [List.length_drop]; omega)]
    · rw [List.drop_eq_nil_of_le (by omega), List.take_nil, List.take_nil]
theorem newT_d {h : IH} {xs : List PV} : newT h xs = if xs.length ≤ LINE then .ok (.tup xs) h else .fail := rfl
theorem newL_d {h : IH} {xs : List PV} : newL h xs = if xs.length ≤ LINE then .ok (.ref h.length) (h ++ [.lst xs]) else .fail := rfl
theorem rnot_ok {b : Bool} {h : IH} : (R.ok b h).not = .ok (!b) h := rfl
theorem rval_ok {b : Bool} {h : IH} : (R.ok b h).val = .ok (.bl b) h := rfl
def KW1 (t : EM Bool) (b : SM) (n : Nat) (env : Sl) (QS : RS → Prop) : R Bool → Prop := fun r => match r with
  | .ok true h => WS (b env h) (KLp (fun e h => WS (sWhile t b n e h) QS) QS)
  | .ok false h => WS (.nx env h) QS
  | .exc c fs h => WS (.exc c fs env h) QS
  | .fail => WS .fail QS
theorem kw1_t {t : EM Bool} {b : SM} {n : Nat} {env : Sl} {QS : RS → Prop} {h : IH} : WP (.ok true h) (KW1 t b n env QS) = WS (b env h) (KLp (fun e h => WS (sWhile t b n e h) QS) QS) := rfl
theorem kw1_f {t : EM Bool} {b : SM} {n : Nat} {env : Sl} {QS : RS → Prop} {h : IH} : WP (.ok false h) (KW1 t b n env QS) = WS (.nx env h) QS := rfl
structure PS where
  steps : PV
  w : Nat
  start : PV
  given : PV
  at_ : PV
  way : PV
  loop : PV
  mate : PV
  hand : PV
  told : PV
  compares : Int
  ended : PV
  index : Int
  row : List PV
  places : List (Key × PV)
  used : List (Key × PV)
  turned : IO
  met : List PV
  heads : IO
def PS.cells (s : PS) (p : Nat) : IH := [.ins "Player" [("steps", s.steps), ("width", .int (s.w : Nat)), ("row", .ref (p + 1)), ("start", s.start), ("given", s.given), ("at", s.at_), ("way", s.way), ("loop", s.loop), ("mate", s.mate), ("hand", s.hand), ("told", s.told), ("places", .ref (p + 2)), ("compares", .int s.compares), ("ended", s.ended), ("index", .int s.index), ("used", .ref (p + 3)), ("turned", .ref (p + 4)), ("met", .ref (p + 5)), ("heads", .ref (p + 6))],
  .lst s.row, .dK s.places, .dK s.used, s.turned, .lst s.met, s.heads]
end Z
end
noncomputable section
namespace Z
open PySem PySem.Spec PyProof.Rows L2
set_option autoImplicit false
theorem mapO_I {h : IH} {d : Nat} : ∀ l : List (Int × Int), mapO (toD h (d + 1)) (l.map eI) = some (l.map dI)
  | [] => rfl
  | i :: r => by
    rw [List.map_cons, List.map_cons]
    unfold mapO
    rw [toD_I]
    dsimp only
    rw [mapO_I r]; rfl
theorem mapO_I12 {h : IH} (l : List (Int × Int)) : mapO (toD h DEEP) (l.map eI) = some (l.map dI) := mapO_I (d := 11) l
theorem insr_map {α β : Type} (g : α → β) (le : β → β → Bool) (a : α) : ∀ l : List α, insr le (g a) (l.map g) = (insr (fun x y => le (g x) (g y)) a l).map g
  | [] => rfl
  | b :: r => by
    rw [List.map_cons]
    unfold insr
    split
    · rfl
    · rw [insr_map g le a r]; rfl
theorem isort_map {α β : Type} (g : α → β) (le : β → β → Bool) : ∀ l : List α, isort le (l.map g) = (isort (fun x y => le (g x) (g y)) l).map g
  | [] => rfl
  | a :: r => by
    rw [List.map_cons]
    unfold isort
    rw [isort_map g le r, insr_map]
def leI (a b : Int × Int) : Bool := PySem.W.dataLe false (·.2) (eI a, dI a) (eI b, dI b)
def sortI (l : List (Int × Int)) : List (Int × Int) := isort leI l
theorem zip_I : ∀ l : List (Int × Int), (l.map eI).zip (l.map dI) = l.map fun i => (eI i, dI i)
  | [] => rfl
  | a :: r => by rw [List.map_cons, List.map_cons, List.map_cons, List.zip_cons_cons, zip_I r]
theorem alikes_I (l : List (Int × Int)) : alikes (l.map dI) = true := by
  unfold alikes
  rw [List.all_eq_true]
  intro d hd
  rw [List.all_eq_true]
  intro e he
  obtain ⟨a, _, rfl⟩ := List.mem_map.mp hd
  obtain ⟨b, _, rfl⟩ := List.mem_map.mp he
  rfl
theorem sortable_I (l : List (Int × Int)) : sortable (l.map dI) = true := by
  unfold sortable
  rw [Bool.or_eq_true]
  refine .inl (List.all_eq_true.mpr fun d hd => ?_)
  obtain ⟨a, _, rfl⟩ := List.mem_map.mp hd
  rfl
section
variable {α β : Type} {f : α → IH → R β} {Q : R β → Prop} {QB : R Bool → Prop} {QP : R PV → Prop} {QS : RS → Prop} {r : R α} {rb : R Bool} {k : α → SM} {env : Sl} {a b : SM} {ea eb : EM β} {s : RS}
theorem kb_A : KB f Q r = WP r (KB f Q) := rfl
theorem knot_A : KNot QB rb = WP rb (KNot QB) := rfl
theorem kval_A : KVal QP rb = WP rb (KVal QP) := rfl
theorem kw_A : KW k env QS r = WP r (KW k env QS) := rfl
theorem kif_A : KIf a b env QS rb = WP rb (KIf a b env QS) := rfl
theorem kife_A : KIfE ea eb env Q rb = WP rb (KIfE ea eb env Q) := rfl
theorem kres_A : KRes QP s = WS s (KRes QP) := rfl
end
section
variable {p : Nat} {h : IH} {xs : List PV} {kvs : List (Key × PV)}
def tupO (o : Option IO) (h : IH) : R PV := match o with
  | some (.lst xs) => .ok (.tup xs) h
  | some (.flst xs) => .ok (.tup xs) h
  | _ => .fail
theorem tup_ref : tupleP [.ref p] h = tupO h[p]? h := by
  unfold tupleP tupO getL; dsimp only
  cases h[p]? with
  | none => rfl
  | some o => cases o <;> rfl
theorem tupO_l : tupO (some (.lst xs)) h = .ok (.tup xs) h := rfl
def lstO (o : Option IO) (h : IH) : R PV := match o with
  | some (.lst xs) => .ok (.ref h.length) (h ++ [.lst xs])
  | some (.flst xs) => .ok (.ref h.length) (h ++ [.lst xs])
  | some (.dK kvs) => .ok (.ref h.length) (h ++ [.lst (kvs.map fun kv => keyPV kv.1)])
  | some (.dN kvs) => .ok (.ref h.length) (h ++ [.lst (kvs.map (·.1))])
  | _ => .fail
theorem lst_ref : listP [.ref p] h = lstO h[p]? h := by
  unfold listP lstO; dsimp only
  all_goals
    cases h[p]? with
    | none => rfl
    | some o => cases o <;> rfl
theorem lstO_l : lstO (some (.lst xs)) h = .ok (.ref h.length) (h ++ [.lst xs]) := rfl
theorem lstO_f : lstO (some (.flst xs)) h = .ok (.ref h.length) (h ++ [.lst xs]) := rfl
theorem lstO_d : lstO (some (.dK kvs)) h = .ok (.ref h.length) (h ++ [.lst (kvs.map fun kv => keyPV kv.1)]) := rfl
def dctO (o : Option IO) (h : IH) : R PV := match o with
  | some (.dK kvs) => .ok (.ref h.length) (h ++ [.dK kvs])
  | _ => .fail
theorem dct_ref : dictP [.ref p] h = dctO h[p]? h := by
  unfold dictP dctO Z.getD; dsimp only
  cases h[p]? with
  | none => rfl
  | some o => cases o <;> rfl
theorem dctO_d : dctO (some (.dK kvs)) h = .ok (.ref h.length) (h ++ [.dK kvs]) := rfl
def srtL (xs : List PV) (h : IH) : R PV := match mapO (toD h DEEP) xs with
      | some ds => if alikes ds = true ∧ sortable ds = true ∧ ds.all (fun d => decide (d.depth ≤ 50)) = true then .ok (.ref h.length) (h ++ [.lst ((isort (PySem.W.dataLe false (·.2)) (xs.zip ds)).map (·.1))]) else .fail
      | none => .fail
def srtO (o : Option IO) (h : IH) : R PV := match o with
  | some (.lst xs) => srtL xs h
  | some (.flst xs) => srtL xs h
  | _ => .fail
theorem srt_ref : sortedP [.ref p] h = srtO h[p]? h := by
  unfold sortedP srtO getL srtL sortXs; dsimp only
  cases h[p]? with
  | none => rfl
  | some o => cases o <;> rfl
theorem srtO_l : srtO (some (.lst xs)) h = srtL xs h := rfl
theorem srtL_0 : srtL [] h = .ok (.ref h.length) (h ++ [.lst []]) := rfl
theorem srtL_1 {i : Int} : srtL [.int i] h = .ok (.ref h.length) (h ++ [.lst [.int i]]) := rfl
theorem srtL_I {l : List (Int × Int)} : srtL (l.map eI) h = .ok (.ref h.length) (h ++ [.lst ((sortI l).map eI)]) := by
  have e : (h ++ [IO.lst (l.map eI)])[h.length]? = some (.lst (l.map eI)) := get_end
  unfold srtL
  rw [mapO_I12]
  dsimp only
  rw [if_pos ⟨alikes_I l, sortable_I l, List.all_eq_true.mpr fun d hd => by
    obtain ⟨a, _, rfl⟩ := List.mem_map.mp hd
    rfl⟩, zip_I, isort_map, List.map_map]
  rfl
def srcO (o : Option IO) (p : Nat) (h : IH) : R Src := match o with
  | some (.lst _) => .ok (.lst p) h
  | some (.flst _) => .ok (.lst p) h
  | _ => .fail
theorem src_ref : srcP (.ref p) h = srcO h[p]? p h := by
  unfold srcP srcO getL; dsimp only
  cases h[p]? with
  | none => rfl
  | some o => cases o <;> rfl
theorem srcO_l : srcO (some (.lst xs)) p h = .ok (.lst p) h := rfl
theorem srcO_f : srcO (some (.flst xs)) p h = .ok (.lst p) h := rfl
def enmO (o : Option IO) (p : Nat) (h : IH) : R Src := match o with
  | some (.lst _) => .ok (.enumL p) h
  | some (.flst _) => .ok (.enumL p) h
  | _ => .fail
theorem enm_ref : enumP (.ref p) h = enmO h[p]? p h := by
  unfold enumP enmO getL; dsimp only
  cases h[p]? with
  | none => rfl
  | some o => cases o <;> rfl
theorem enmO_l : enmO (some (.lst xs)) p h = .ok (.enumL p) h := rfl
theorem keyPV_i {i : Int} : keyPV (.inl i) = .int i := rfl
theorem keyPV_s {i : Str} : keyPV (.inr i) = .str i := rfl
end
end Z
end
noncomputable section
namespace Z
open PySem PySem.Spec PyProof.Rows L2
section
variable {QP : R PV → Prop} {env : Sl} {h : IH}
def KCoD (F : Nat) (g : Tg) (own : List Nat) (t : EM Bool) (ek ev : EM PV) (env : Sl) (QP : R PV → Prop) : R Src → Prop := KB (fun s h => match compDGo s g t ek ev F 0 [] (wipeE own env) h with
  | .ok xs h => .ok (.ref h.length) (h ++ [.dK xs])
  | _ => .fail) QP
def KClD (QP : R PV → Prop) : R (List (Key × PV)) → Prop := fun r => match r with
  | .ok xs h => WP (.ok (.ref h.length) (h ++ [.dK xs])) QP
  | _ => WP .fail QP
theorem w_compD {F : Nat} {src : EM Src} {g : Tg} {own : List Nat} {t : EM Bool} {ek ev : EM PV} : WP (eCompD F src g own t ek ev env h) QP = WP (src env h) (KCoD F g own t ek ev env QP) := rfl
theorem kcoD_ok {F : Nat} {s : Src} {g : Tg} {own : List Nat} {t : EM Bool} {ek ev : EM PV} : WP (.ok s h) (KCoD F g own t ek ev env QP) = WP (compDGo s g t ek ev F 0 [] (wipeE own env) h) (KClD QP) := by
  show QP (match compDGo s g t ek ev F 0 [] (wipeE own env) h with
    | .ok xs h => .ok (.ref h.length) (h ++ [.dK xs])
    | _ => .fail) = KClD QP _
  unfold KClD
  cases compDGo s g t ek ev F 0 [] (wipeE own env) h <;> rfl
theorem kclD_ok {xs : List (Key × PV)} : WP (.ok xs h) (KClD QP) = WP (.ok (.ref h.length) (h ++ [.dK xs])) QP := rfl
def KDt (ek ev : EM PV) (acc : List (Key × PV)) (env : Sl) (I : List (Key × PV) → IH → Prop) : R Bool → Prop := fun r => match r with
  | .ok true h => WP (ek env h) (fun r => ∃ y h2, r = .ok y h2 ∧ WP (ev env h2) (fun r => ∃ z h3 k, r = .ok z h3 ∧ keyOf y = some k ∧ acc.length < LINE ∧ I (putK' acc k z) h3))
  | .ok false h => I acc h
  | _ => False
def KDk (ev : EM PV) (acc : List (Key × PV)) (env : Sl) (I : List (Key × PV) → IH → Prop) : R PV → Prop := fun r => ∃ y h2, r = .ok y h2 ∧ WP (ev env h2) (fun r => ∃ z h3 k, r = .ok z h3 ∧ keyOf y = some k ∧ acc.length < LINE ∧ I (putK' acc k z) h3)
def KDv (y : PV) (acc : List (Key × PV)) (I : List (Key × PV) → IH → Prop) : R PV → Prop := fun r => ∃ z h3 k, r = .ok z h3 ∧ keyOf y = some k ∧ acc.length < LINE ∧ I (putK' acc k z) h3
theorem kdt_t {ek ev : EM PV} {acc : List (Key × PV)} {I : List (Key × PV) → IH → Prop} : WP (.ok true h) (KDt ek ev acc env I) = WP (ek env h) (KDk ev acc env I) := rfl
theorem kdt_f {ek ev : EM PV} {acc : List (Key × PV)} {I : List (Key × PV) → IH → Prop} : WP (.ok false h) (KDt ek ev acc env I) = I acc h := rfl
theorem kdk_ok {ev : EM PV} {acc : List (Key × PV)} {I : List (Key × PV) → IH → Prop} {y : PV} : WP (.ok y h) (KDk ev acc env I) = WP (ev env h) (KDv y acc I) := by
  refine propext ⟨fun ⟨y1, h1, e, w⟩ => ?_, fun w => ⟨y, h, rfl, w⟩⟩
  cases e
  exact w
end
end Z
end
noncomputable section
namespace Z
open PySem PySem.Spec PyProof.Rows L2
mutual
def eqV : PV → PV → Bool
  | .non, .non => true
  | .bl a, .bl b => decide (a = b)
  | .int a, .int b => decide (a = b)
  | .str a, .str b => decide (a = b)
  | .tup a, .tup b => eqVs a b
  | _, _ => false
def eqVs : List PV → List PV → Bool
  | [], [] => true
  | x :: xs, y :: ys => eqV x y && eqVs xs ys
  | _, _ => false
end
def eqO (o : Option PV) (y : PV) : Bool := match o with
  | some x => eqV x y
  | none => false
end Z
end
noncomputable section
namespace Z
open PySem PySem.Spec PyProof.Rows L2
def inRest2 (x : PV) (n : Nat) (h : IH) : R Bool := inD x (.ref n) h
def inLO (o : Option IO) (i : Str) (e : R Bool) (h : IH) : R Bool := match o with
  | some (.lst xs) => inD (.str i) (.tup xs) h
  | _ => e
theorem inRest_s {i : Str} {n : Nat} {h : IH} : inRest (.str i) n h = inLO h[n]? i (inRest2 (.str i) n h) h := by
  unfold inRest inLO inRest2
  cases e : h[n]? with
  | none => rfl
  | some o => cases o with
    | lst xs =>
      show inD (.str i) (.ref n) h = inP (.str i) (.tup xs) h
      have e1 : items? h (.ref n) = items? h (.tup xs) := by
        show getL h n = some xs
        unfold getL; rw [e]
      simp only [inD, e]
      unfold inP
      rw [e1]
    | _ => rfl
theorem inLO_l {i : Str} {xs : List PV} {e : R Bool} {h : IH} : inLO (some (.lst xs)) i e h = inD (.str i) (.tup xs) h := rfl
theorem inDO_l {xs : List PV} {k : Key} {e : R Bool} {h : IH} : inDO (some (.lst xs)) k e h = e := rfl
theorem dispA0 {s : Str} {h : IH} {i : Int} : dispR [(.str s, .int i)] h = .ok (.ref h.length) (h ++ [.dK [(.inr s, .int i)]]) := by kernel_rfl
theorem getC1 {a : IO} {l : IH} {x i : Nat} : (a :: l)[x + (i + 1)]? = l[x + i]? := rfl
theorem getC2 {a : IO} {l : IH} {x y i : Nat} : (a :: l)[x + (y + (i + 1))]? = l[x + (y + i)]? := rfl
theorem getC3 {a : IO} {l : IH} {x y z i : Nat} : (a :: l)[x + (y + (z + (i + 1)))]? = l[x + (y + (z + i))]? := rfl
end Z
end
noncomputable section
namespace Z
open PySem PySem.Spec PyProof.Rows L2
set_option autoImplicit false
section
variable {C : Cfg} {o : EM PV} {m c : Str} {ks : List Str} {as zs : EM (List PV)} {env : Sl} {h : IH} {QP : R PV → Prop} {p : Nat} {fs : List (Str × PV)}
theorem w_methKw : WP (eMethKw C o m ks as zs env h) QP = WP (o env h) (KB (fun v h => methKw C m ks as zs v env h) QP) := rfl
def mkwO (ob : Option IO) (C : Cfg) (m : Str) (ks : List Str) (as zs : EM (List PV)) (p : Nat) (env : Sl) (h : IH) : R PV := match ob with
  | some (.ins c fs) => if (fs.lookup m).isNone = true ∧ (C.P.fdef (.meth c m)).isSome = true then eBind as (fun vs => eBind zs fun ws => fun _ ih => kwCall C (.meth c m) (.ref p :: vs) ks ws ih) env h else .fail
  | _ => .fail
theorem mkw_ref : methKw C m ks as zs (.ref p) env h = mkwO h[p]? C m ks as zs p env h := by
  unfold methKw mkwO getI
  dsimp only
  all_goals
    cases h[p]? with
    | none => rfl
    | some o => cases o <;> rfl
theorem mkwO_ins : mkwO (some (.ins c fs)) C m ks as zs p env h = if (fs.lookup m).isNone = true ∧ (C.P.fdef (.meth c m)).isSome = true then eBind as (fun vs => eBind zs fun ws => fun _ ih => kwCall C (.meth c m) (.ref p :: vs) ks ws ih) env h else .fail := rfl
variable {QS : RS → Prop} {kvs : List (Key × PV)} {n i F : Nat} {g : GM} {b : SM} {v : PV}
end
end Z
end
noncomputable section
namespace Z
open PySem PySem.Spec PyProof.Rows L2
set_option autoImplicit false
section
variable {C : Cfg} {n : Nat} {h : IH} {i y : PV} {xs : List PV} {c x : Str} {fs : List (Str × PV)} {kvs : List (Key × PV)} {P : Prg}
def ixO (C : Cfg) (o : Option IO) (n : Nat) (i : PV) (h : IH) : R PV := match o with
  | some (.ins c _) => noXr (callP C (.meth c "__getitem__") 2 [.ref n, i] h)
  | _ => ixP (.ref n) i h
theorem ixX_ref : ixX C (.ref n) i h = ixO C h[n]? n i h := rfl
theorem ixX_tup : ixX C (.tup xs) i h = ixP (.tup xs) i h := rfl
theorem ixX_str {s : Str} : ixX C (.str s) i h = ixP (.str s) i h := rfl
theorem ixO_i : ixO C (some (.ins c fs)) n i h = noXr (callP C (.meth c "__getitem__") 2 [.ref n, i] h) := rfl
theorem ixO_l : ixO C (some (.lst xs)) n i h = ixP (.ref n) i h := rfl
theorem ixO_f : ixO C (some (.flst xs)) n i h = ixP (.ref n) i h := rfl
theorem ixO_d : ixO C (some (.dK kvs)) n i h = ixP (.ref n) i h := rfl
theorem ixO_g : ixO C (some (.fdK x kvs)) n i h = ixP (.ref n) i h := rfl
theorem noXr_ok {α : Type} {v : α} : noXr (.ok v h) = .ok v h := rfl
def eqXO (C : Cfg) (o : Option IO) (n : Nat) (y : PV) (h : IH) : R Bool := match o with
  | some (.ins c _) => if ownMeets c h y = true then eqB (callP C (.meth c "__eq__") 2 [.ref n, y] h) else .fail
  | _ => eqP (.ref n) y h
theorem cmpX_eq : cmpX C .Eq i y h = eqX C i y h := rfl
theorem cmpX_ne : cmpX C .NotEq i y h = (eqX C i y h).not := rfl
theorem eqX_ref : eqX C (.ref n) y h = eqXO C h[n]? n y h := rfl
theorem eqX_int {k : Int} : eqX C (.int k) y h = eqP (.int k) y h := rfl
theorem eqX_str {s : Str} : eqX C (.str s) y h = eqP (.str s) y h := rfl
theorem eqX_tup : eqX C (.tup xs) y h = eqP (.tup xs) y h := rfl
theorem eqX_bl {b : Bool} : eqX C (.bl b) y h = eqP (.bl b) y h := rfl
theorem eqX_non : eqX C .non y h = eqP .non y h := rfl
theorem eqXO_i : eqXO C (some (.ins c fs)) n y h = if ownMeets c h y = true then eqB (callP C (.meth c "__eq__") 2 [.ref n, y] h) else .fail := rfl
theorem eqXO_l : eqXO C (some (.lst xs)) n y h = eqP (.ref n) y h := rfl
theorem eqXO_d : eqXO C (some (.dK kvs)) n y h = eqP (.ref n) y h := rfl
theorem om_str {s : Str} : ownMeets c h (.str s) = true := rfl
def omO (c : Str) : Option IO → Bool
  | some (.ins c' _) => decide (c' = c)
  | _ => false
theorem om_ref {m : Nat} : ownMeets c h (.ref m) = omO c h[m]? := rfl
theorem omO_i {c' : Str} : omO c (some (.ins c' fs)) = decide (c' = c) := rfl
theorem cmpT_eq : cmpT .Eq i y h = eqE i y h := rfl
theorem cmpT_ne : cmpT .NotEq i y h = (eqE i y h).not := rfl
theorem eqB_ok {b : Bool} : eqB (.ok (.bl b) h) = .ok b h := rfl
end
end Z
end
noncomputable section
namespace Z
open PySem PySem.Spec PyProof.Rows L2
theorem Ai {a b : Prop} (x : a) (y : b) : a ∧ b := ⟨x, y⟩
def rr0 := Ai (Ai (Ai (Ai (Ai (Ai (Ai (Ai (@Z.kb_ok) (@Z.kb_exc)) (Ai (@Z.knot_ok) (@Z.knot_exc))) (Ai (Ai (@Z.kval_ok) (@Z.kval_exc)) (Ai (@Z.kw_ok) (Ai (@Z.kw_exc) (@Z.ks_nx))))) (Ai (Ai (Ai (@Z.ks_ret) (@Z.ks_exc)) (Ai (@Z.ks_brk) (@Z.ks_cnt))) (Ai (Ai (@Z.kif_t) (@Z.kif_f)) (Ai (@Z.kif_exc) (Ai (@Z.kife_t) (@Z.kife_f)))))) (Ai (Ai (Ai (Ai (@Z.kife_exc) (@Z.kres_nx)) (Ai (@Z.kres_ret) (@Z.kres_exc))) (Ai (Ai (@Z.ktry_nx) (@Z.ktry_ret)) (Ai (@Z.ktry_exc) (Ai (@Z.w_bind) (@Z.w_op))))) (Ai (Ai (Ai (@Z.w_cmp) (@Z.w_un)) (Ai (@Z.w_fld) (Ai (@Z.w_ix) (@Z.w_val)))) (Ai (Ai (@Z.w_not) (@Z.w_tru)) (Ai (@Z.w_if) (Ai (@Z.w_and1) (@Z.w_and))))))) (Ai (Ai (Ai (Ai (Ai (@Z.w_or1) (@Z.w_or)) (Ai (@Z.w_andV1) (@Z.w_andV))) (Ai (Ai (@Z.w_orV1) (@Z.w_orV)) (Ai (@Z.w_chain) (Ai (@Z.w_args0) (@Z.w_args))))) (Ai (Ai (Ai (@Z.w_stars0) (@Z.w_starsF)) (Ai (@Z.w_tup) (@Z.w_lst))) (Ai (Ai (@Z.w_b) (@Z.w_call)) (Ai (@Z.w_make) (Ai (@Z.w_meth) (@Z.w_sl)))))) (Ai (Ai (Ai (Ai (@Z.w_opt0) (@Z.w_opt)) (Ai (@Z.w_c) (@Z.w_var0))) (Ai (Ai (@Z.w_varS) (@Z.w_srcE)) (Ai (@Z.w_srcN) (Ai (@Z.w_srcR) (@Z.r_nil))))) (Ai (Ai (Ai (@Z.r_cons) (@Z.r_nx)) (Ai (@Z.r_with) (Ai (@Z.r_if) (@Z.r_ret)))) (Ai (Ai (@Z.r_drop) (@Z.r_asgN)) (Ai (@Z.r_par) (Ai (@Z.r_loop) (@Z.r_raise)))))))) (Ai (Ai (Ai (Ai (Ai (Ai (@Z.r_try) (@Z.r_brk)) (Ai (@Z.r_cnt) (@Z.add_i))) (Ai (Ai (@Z.sub_i) (@Z.lt_i)) (Ai (@Z.tru_b) (Ai (@Z.tru_i) (@Z.tru_n))))) (Ai (Ai (Ai (@Z.int_i) (@Z.eq_ii)) (Ai (@Z.ofS_inj) (@Z.ix_str))) (Ai (Ai (@Z.ix_int) (@Z.ix_tup)) (Ai (@Z.ixD_dk) (Ai (@Z.ixI_l) (@Z.ixI_f)))))) (Ai (Ai (Ai (Ai (@Z.ixI_dk) (@Z.okO_some)) (Ai (@Z.fld_ref) (@Z.fldO_in))) (Ai (Ai (@Z.lookF_cons) (@Z.stR_some)) (Ai (@Z.stD_dk) (Ai (@Z.stI_l) (@Z.sf_ref))))) (Ai (Ai (Ai (@Z.sfO_in) (@Z.r_asgI)) (Ai (@Z.kix) (Ai (@Z.kix_exc) (@Z.kix1)))) (Ai (Ai (@Z.kix2) (@Z.r_asgF)) (Ai (@Z.kfl) (Ai (@Z.kfl_exc) (@Z.kfl1))))))) (Ai (Ai (Ai (Ai (Ai (@Z.r_asgT) (@Z.ktu)) (Ai (@Z.ktu_exc) (@Z.goG_n))) (Ai (Ai (@Z.goG_0) (@Z.goR_ok)) (Ai (@Z.wp_done) (Ai (@Z.tup_ref) (@Z.tupO_l))))) (Ai (Ai (Ai (@Z.lst_ref) (@Z.lstO_l)) (Ai (@Z.lstO_f) (Ai (@Z.lstO_d) (@Z.dct_ref)))) (Ai (Ai (@Z.dctO_d) (@Z.srt_ref)) (Ai (@Z.srtO_l) (Ai (@Z.srtL_0) (@Z.srtL_1)))))) (Ai (Ai (Ai (Ai (@Z.srtL_I) (@Z.src_ref)) (Ai (@Z.srcO_l) (@Z.srcO_f))) (Ai (Ai (@Z.enm_ref) (@Z.enmO_l)) (Ai (@Z.keyPV_i) (Ai (@Z.keyPV_s) (@Z.kb_A))))) (Ai (Ai (Ai (@Z.knot_A) (@Z.kval_A)) (Ai (@Z.kw_A) (Ai (@Z.kif_A) (@Z.kife_A)))) (Ai (Ai (@Z.kres_A) (@Z.kw1_t)) (Ai (@Z.kw1_f) (Ai (@Z.rnot_ok) (@Z.rval_ok))))))))) (Ai (Ai (Ai (Ai (Ai (Ai (Ai (@Z.newT_d) (@Z.newL_d)) (Ai (@Z.sl_t) (@Z.ix_I0))) (Ai (Ai (@Z.ix_I1) (@Z.stI_d)) (Ai (@Z.w_dnew) (Ai (@Z.in_ri) (@Z.in_rs))))) (Ai (Ai (Ai (@Z.inDO_d) (@Z.inDO_f)) (Ai (@Z.atI0) (@Z.atI1))) (Ai (Ai (@Z.atI2) (@Z.atI3)) (Ai (@Z.atI4) (Ai (@Z.kb_bind) (@Z.meth_ref)))))) (Ai (Ai (Ai (Ai (@Z.methO_ins) (@Z.methO_lst)) (Ai (@Z.methO_dK) (@Z.methO_fdK))) (Ai (Ai (@Z.meth_str) (@Z.bm_append)) (Ai (@Z.bm_extend) (Ai (@Z.bm_pop) (@Z.bm_get))))) (Ai (Ai (Ai (@Z.bm_split) (@Z.bm_join)) (Ai (@Z.app_ref) (Ai (@Z.appO_lst) (@Z.pop_ref)))) (Ai (Ai (@Z.popO_lst) (@Z.get1_ref)) (Ai (@Z.get2_ref) (Ai (@Z.getO_s) (@Z.getO_i))))))) (Ai (Ai (Ai (Ai (Ai (@Z.getO_fs) (@Z.tru_ref)) (Ai (@Z.truO_l) (@Z.tru_tup))) (Ai (Ai (@Z.len_ref) (@Z.lenO_l)) (Ai (@Z.lenO_d) (Ai (@Z.ln_ref) (@Z.lnO_l))))) (Ai (Ai (Ai (@Z.lnO_f) (@Z.lnO_d)) (Ai (@Z.lnO_i) (Ai (@Z.ln_tup) (@Z.ln_str)))) (Ai (Ai (@Z.r_aug) (@Z.aug_add)) (Ai (@Z.aug_sub) (Ai (@Z.r_augF) (@Z.fldC_ref)))))) (Ai (Ai (Ai (Ai (@Z.fldCO_in) (@Z.cls_ref)) (Ai (@Z.clsO_in) (@Z.is_n))) (Ai (Ai (@Z.isNon_n) (@Z.isNon_i)) (Ai (@Z.isNon_s) (Ai (@Z.isNon_b) (@Z.isNon_t))))) (Ai (Ai (Ai (@Z.isNon_r) (@Z.ok_lit)) (Ai (@Z.eq_ss) (Ai (@Z.eq_nn) (@Z.eq_ns)))) (Ai (Ai (@Z.eq_sn) (@Z.eq_ni)) (Ai (@Z.eq_in) (Ai (@Z.eq_is) (@Z.eq_si)))))))) (Ai (Ai (Ai (Ai (Ai (Ai (@Z.eq_bb) (@Z.eq_II)) (Ai (@Z.eq_nI) (@Z.eq_In))) (Ai (Ai (@Z.in_s) (@Z.inSR_eq)) (Ai (@Z.isSome2_s) (Ai (@Z.isa_ty) (@Z.isa_cls))))) (Ai (Ai (Ai (@Z.getA) (@Z.getA0)) (Ai (@Z.setA) (@Z.setA0))) (Ai (Ai (@Z.w_methKw) (@Z.mkw_ref)) (Ai (@Z.mkwO_ins) (Ai (@Z.w_disp) (@Z.src_t)))))) (Ai (Ai (Ai (Ai (@Z.enum_t) (@Z.list_t)) (Ai (@Z.tuple_t) (@Z.len_tup))) (Ai (Ai (@Z.w_prs0) (@Z.w_prs)) (Ai (@Z.kl_nx) (Ai (@Z.kl_cnt) (@Z.kl_brk))))) (Ai (Ai (Ai (@Z.kl_ret) (@Z.kl_exc)) (Ai (@Z.kwh_t) (Ai (@Z.kwh_f) (@Z.w_compD)))) (Ai (Ai (@Z.kcoD_ok) (@Z.kclD_ok)) (Ai (@Z.kdt_t) (Ai (@Z.kdt_f) (@Z.kdk_ok))))))) (Ai (Ai (Ai (Ai (Ai (@Z.w_comp) (@Z.kco_ok)) (Ai (@Z.kcl_ok) (@Z.kct_t))) (Ai (Ai (@Z.kct_f) (@Z.inRest_s)) (Ai (@Z.inLO_l) (Ai (@Z.inDO_l) (@Z.dispA0))))) (Ai (Ai (Ai (@Z.getC1) (@Z.getC2)) (Ai (@Z.getC3) (Ai (@Z.ixX_ref) (@Z.ixX_tup)))) (Ai (Ai (@Z.ixX_str) (@Z.ixO_i)) (Ai (@Z.ixO_l) (Ai (@Z.ixO_f) (@Z.ixO_d)))))) (Ai (Ai (Ai (Ai (@Z.ixO_g) (@Z.noXr_ok)) (Ai (@Z.cmpX_eq) (@Z.cmpX_ne))) (Ai (Ai (@Z.eqX_ref) (@Z.eqX_int)) (Ai (@Z.eqX_str) (Ai (@Z.eqX_tup) (@Z.eqX_bl))))) (Ai (Ai (Ai (@Z.eqX_non) (@Z.eqXO_i)) (Ai (@Z.eqXO_l) (Ai (@Z.eqXO_d) (@Z.om_str)))) (Ai (Ai (@Z.om_ref) (@Z.omO_i)) (Ai (@Z.eqB_ok) (Ai (@Z.cmpT_eq) (@Z.cmpT_ne)))))))))
def rrA := Ai (@Z.inStrs_cons) (@Z.inStrs_nil)
def rrB := Ai (@Z.wipe_s) (@Z.wipe_0)
def rrC := Ai (@Z.set_int) (@Z.set_str)
def rr := Ai (Ai (@rr0) (@rrA)) (Ai (@rrB) (@rrC))
def cr0 := Ai (Ai (Ai (Ai (Ai (@List.set_cons_zero.{0}) (@List.set_cons_succ.{0})) (Ai (@Sum.inr.injEq.{0, 0}) (Ai (@Sum.inl.injEq.{0, 0}) (@Bool.not_true)))) (Ai (Ai (@Bool.not_false) (@Option.isSome_some.{0})) (Ai (@Option.isSome_none.{0}) (Ai (@Int.cast_ofNat_Int) (@decide_eq_true_eq))))) (Ai (Ai (Ai (@true_and) (@and_true)) (Ai (@and_self) (Ai (@Option.isNone_none.{0}) (@Option.isNone_some.{0})))) (Ai (Ai (@Option.map_some.{0, 0}) (Ai (@Option.map_none.{0, 0}) (@Bool.or_false))) (Ai (@Bool.or_true) (Ai (@Bool.true_or) (@Bool.false_or)))))) (Ai (Ai (Ai (Ai (@Bool.and_true) (@Bool.and_false)) (Ai (@Bool.true_and) (Ai (@Bool.false_and) (@Option.getD_some.{0})))) (Ai (Ai (@Option.getD_none.{0}) (Ai (@List.append_assoc.{0}) (@List.cons_append.{0}))) (Ai (@List.nil_append.{0}) (Ai (@Nat.add_zero) (@Nat.zero_add))))) (Ai (Ai (Ai (@Nat.add_assoc) (@List.map_nil.{0, 0})) (Ai (@List.map_cons.{0, 0}) (Ai (@List.getElem?_cons_zero.{0}) (@List.getElem?_cons_succ.{0})))) (Ai (Ai (@List.lookup_nil.{0, 0}) (Ai (@Bool.false_eq_true) (@List.length_cons.{0}))) (Ai (@List.length_nil.{0}) (Ai (@decide_true) (@decide_false))))))
def cr := Ai cr0 @List.length_append.{0}
end Z
end
noncomputable section
namespace G
open PySem PySem.Spec PyProof.Rows L2 Z
def mkR (l : Nat) (v : PV) (h : IH) : R PV := match v with
  | .non => .ok (.ref l) h
  | _ => .fail
theorem mkR_n {l : Nat} {h : IH} : mkR l .non h = .ok (.ref l) h := rfl
def t__law_bag_3 (C : Cfg) (F : Nat) : List SM := (sAsg (eOp modP (eB intP (eArgs [(eOp addP (eOp mulP (eVar 1) (eC (.int (37)))) (eVar 2))])) (eC (.int (1000000009)))) (gNm 1)) :: []
def t__law_bag_2 (C : Cfg) (F : Nat) : List SM := (sRet (eDisp [((eC (.str "cells")), (eB listP (eArgs [(eVar 0)]))), ((eC (.str "at")), (eC (.int (0)))), ((eC (.str "digits")), (eC (.int (0)))), ((eC (.str "count")), (eC (.int (0)))), ((eC (.str "fold")), (eVar 1))])) :: []
def t__law_bag_1 (C : Cfg) (F : Nat) : List SM := (sLoop F (srcE (eVar 0)) (gNm 2) (sS (t__law_bag_3 C F))) :: t__law_bag_2 C F
def t__law_bag_0 (C : Cfg) (F : Nat) : List SM := (sAsg (eC (.int (0))) (gNm 1)) :: t__law_bag_1 C F
def c__law_bag (C : Cfg) (F : Nat) : SM := sS (t__law_bag_0 C F)
theorem q__law_bag (F n : Nat) (a0 : PV) (ih : IH) : callF P F (n + 1) (.fn "_law_bag") [a0] ih = (c__law_bag ⟨P, callF P F n, F⟩ F ([some a0, none, none]) ih).res := by kernel_rfl
def t__law_draw_12 (C : Cfg) (F : Nat) : List SM := (sRet (eVar 4)) :: []
def t__law_draw_11 (C : Cfg) (F : Nat) : List SM := (sAsg (eOp divP (eIx (eVar 0) (eC (.str "digits"))) (eVar 1)) (gIxM (eVar 0) (eC (.str "digits")))) :: t__law_draw_12 C F
def t__law_draw_10 (C : Cfg) (F : Nat) : List SM := (sAsg (eOp modP (eB intP (eArgs [(eIx (eVar 0) (eC (.str "digits")))])) (eVar 1)) (gNm 4)) :: t__law_draw_11 C F
def t__law_draw_9 (C : Cfg) (F : Nat) : List SM := (sAsg (eOp modP (eB intP (eArgs [(eOp addP (eOp mulP (eIx (eVar 0) (eC (.str "fold"))) (eC (.int (69069)))) (eVar 3))])) (eC (.int (2147483587)))) (gIxM (eVar 0) (eC (.str "fold")))) :: []
def t__law_draw_8 (C : Cfg) (F : Nat) : List SM := (sAsg (eOp subP (eVar 3) (eOp powP (eC (.int (10))) (eC (.int (18))))) (gIxM (eVar 0) (eC (.str "digits")))) :: []
def t__law_draw_7 (C : Cfg) (F : Nat) : List SM := (sIf (eCmp (cmpP .GtE) (eVar 3) (eOp powP (eC (.int (10))) (eC (.int (18))))) (sS (t__law_draw_8 C F)) (sS (t__law_draw_9 C F))) :: []
def t__law_draw_6 (C : Cfg) (F : Nat) : List SM := (sAsg (eOp addP (eIx (eVar 0) (eC (.str "at"))) (eC (.int (1)))) (gIxM (eVar 0) (eC (.str "at")))) :: t__law_draw_7 C F
def t__law_draw_5 (C : Cfg) (F : Nat) : List SM := (sAsg (eIx (eIx (eVar 0) (eC (.str "cells"))) (eIx (eVar 0) (eC (.str "at")))) (gNm 3)) :: t__law_draw_6 C F
def t__law_draw_4 (C : Cfg) (F : Nat) : List SM := (sRet (eOp modP (eOp divP (eB intP (eArgs [(eOp modP (eOp powP (eVar 2) (eC (.int (17)))) (eC (.int (2305843009213693951))))])) (eC (.int (128)))) (eVar 1))) :: []
def t__law_draw_3 (C : Cfg) (F : Nat) : List SM := (sAsg (eOp addP (eOp addP (eIx (eVar 0) (eC (.str "fold"))) (eOp mulP (eIx (eVar 0) (eC (.str "count"))) (eC (.int (7907))))) (eC (.int (31)))) (gNm 2)) :: t__law_draw_4 C F
def t__law_draw_2 (C : Cfg) (F : Nat) : List SM := (sIf (eCmp (cmpP .Gt) (eIx (eVar 0) (eC (.str "digits"))) (eC (.int (0)))) (sS (t__law_draw_10 C F)) (sS [])) :: t__law_draw_3 C F
def t__law_draw_1 (C : Cfg) (F : Nat) : List SM := (sIf (eAnd [(eCmp (cmpP .Eq) (eIx (eVar 0) (eC (.str "digits"))) (eC (.int (0)))), (eCmp (cmpP .Lt) (eIx (eVar 0) (eC (.str "at"))) (eB lenP (eArgs [(eIx (eVar 0) (eC (.str "cells")))])))]) (sS (t__law_draw_5 C F)) (sS [])) :: t__law_draw_2 C F
def t__law_draw_0 (C : Cfg) (F : Nat) : List SM := (sAsg (eOp addP (eIx (eVar 0) (eC (.str "count"))) (eC (.int (1)))) (gIxM (eVar 0) (eC (.str "count")))) :: t__law_draw_1 C F
def c__law_draw (C : Cfg) (F : Nat) : SM := sS (t__law_draw_0 C F)
theorem q__law_draw (F n : Nat) (a0 a1 : PV) (ih : IH) : callF P F (n + 1) (.fn "_law_draw") [a0, a1] ih = (c__law_draw ⟨P, callF P F n, F⟩ F ([some a0, some a1, none, none, none]) ih).res := by kernel_rfl
def t__law_thing_0 (C : Cfg) (F : Nat) : List SM := (sRet (eIx (eLst (eStars [(false, (eOp subP (eCall C (.fn "_law_draw") 2 (eArgs [(eVar 0), (eOp powP (eC (.int (10))) (eC (.int (20))))])) (eOp powP (eC (.int (10))) (eC (.int (19)))))), (false, (eC (.str ""))), (false, (eC (.str "p1"))), (false, (eC (.non))), (false, (eC (.bl true))), (false, (eTup (eStars [(false, (eC (.int (1)))), (false, (eC (.str "a")))]))), (false, (eLst (eStars []))), (false, (eLst (eStars [(false, (eC (.int (3))))]))), (false, (eC (.int (0))))])) (eCall C (.fn "_law_draw") 2 (eArgs [(eVar 0), (eC (.int (9)))])))) :: []
def c__law_thing (C : Cfg) (F : Nat) : SM := sS (t__law_thing_0 C F)
theorem q__law_thing (F n : Nat) (a0 : PV) (ih : IH) : callF P F (n + 1) (.fn "_law_thing") [a0] ih = (c__law_thing ⟨P, callF P F n, F⟩ F ([some a0]) ih).res := by kernel_rfl
def c__law_kinds_of : SM := sS [sAsg (eLst (eArgs [(eB (isxQ P) (eArgs [(eVar 0), (eC (.cls "BadKind"))])), (eB (isxQ P) (eArgs [(eVar 0), (eC (.cls "BadWidth"))])), (eB (isxQ P) (eArgs [(eVar 0), (eC (.cls "BadLine"))]))])) (gNm 1), sAsg (eOp addP (eVar 1) (eLst (eArgs [(eB (isxQ P) (eArgs [(eVar 0), (eC (.cls "Refused"))])), (eB (isxQ P) (eArgs [(eVar 0), (eC (.cls "BadItem"))])), (eB (isxQ P) (eArgs [(eVar 0), (eC (.cls "BadCase"))]))]))) (gNm 1), sAsg (eOp addP (eVar 1) (eLst (eArgs [(eB (isxQ P) (eArgs [(eVar 0), (eC (.cls "BadPromise"))])), (eB (isxQ P) (eArgs [(eVar 0), (eC (.cls "NoLine"))])), (eB (isxQ P) (eArgs [(eVar 0), (eC (.cls "BadSize"))]))]))) (gNm 1), sAsg (eOp addP (eVar 1) (eLst (eArgs [(eB (isxQ P) (eArgs [(eVar 0), (eC (.cls "OtherKinds"))])), (eB (isxQ P) (eArgs [(eVar 0), (eC (.cls "OtherWidths"))])), (eB (isxQ P) (eArgs [(eVar 0), (eC (.cls "BadName"))]))]))) (gNm 1), sAsg (eOp addP (eVar 1) (eLst (eArgs [(eB (isxQ P) (eArgs [(eVar 0), (eC (.cls "NoDeed"))])), (eB (isxQ P) (eArgs [(eVar 0), (eC (.cls "NothingToUndo"))])), (eB (isxQ P) (eArgs [(eVar 0), (eC (.cls "TooMany"))]))]))) (gNm 1), sRet (eVar 1)]
theorem q__law_kinds_of (a0 : PV) (ih : IH) : kdX P [a0] ih = (c__law_kinds_of [some a0, none] ih).res := by kernel_rfl
def t__law_caught_2 (C : Cfg) (F : Nat) : List SM := (sDrop (eCall C (.fn "_law_raised") 4 (eArgs [(eVar 0), (eVar 1), (eVar 2), (eVar 3)]))) :: []
def t__law_caught_1 (C : Cfg) (F : Nat) : List SM := (sRet (eLst (eStars []))) :: []
def t__law_caught_0 (C : Cfg) (F : Nat) : List SM := (sTryP P (sS (t__law_caught_2 C F)) (noRaise [("HeapError", (some 4), sS [sRet (eOp addP (eLst (eArgs [(eB (isxQ P) (eArgs [(eVar 4), (eC (.ty "ValueError"))]))])) (eB (kdX P) (eArgs [(eVar 4)])))])])) :: t__law_caught_1 C F
def c__law_caught (C : Cfg) (F : Nat) : SM := sS (t__law_caught_0 C F)
theorem q__law_caught (F n : Nat) (a0 a1 a2 a3 : PV) (ih : IH) : callF P F (n + 1) (.fn "_law_caught") [a0, a1, a2, a3] ih = (c__law_caught ⟨P, callF P F n, F⟩ F ([some a0, some a1, some a2, some a3, none]) ih).res := by kernel_rfl
def t__law_fields_0_3 (C : Cfg) (F : Nat) : List SM := (sDrop (eCall C (.fn "_law_raised_0") 4 (eArgs [(eVar 0), (eVar 1), (eVar 2), (eVar 3)]))) :: []
def t__law_fields_0_2 (C : Cfg) (F : Nat) : List SM := (sRet (eVar 4)) :: []
def t__law_fields_0_1 (C : Cfg) (F : Nat) : List SM := (sTryP P (sS (t__law_fields_0_3 C F)) (noRaise [("BadKind", (some 5), sS [sAsg (eLst (eArgs [(eUn (xfldQ P "kind") (eVar 5))])) (gNm 4)]), ("BadWidth", (some 5), sS [sAsg (eLst (eArgs [(eUn (xfldQ P "width") (eVar 5))])) (gNm 4)]), ("BadLine", (some 5), sS [sAsg (eLst (eArgs [(eUn (xfldQ P "line") (eVar 5))])) (gNm 4)]), ("Refused", (some 5), sS [sAsg (eLst (eArgs [(eUn (xfldQ P "line") (eVar 5))])) (gNm 4)]), ("BadItem", (some 5), sS [sAsg (eLst (eArgs [(eUn (xfldQ P "index") (eVar 5))])) (gNm 4)]), ("BadCase", (some 5), sS [sAsg (eLst (eArgs [(eUn (xfldQ P "what") (eVar 5))])) (gNm 4)]), ("BadPromise", (some 5), sS [sAsg (eLst (eArgs [(eUn (xfldQ P "promise") (eVar 5))])) (gNm 4)]), ("NoLine", (some 5), sS [sAsg (eLst (eArgs [(eUn (xfldQ P "line") (eVar 5))])) (gNm 4)])])) :: t__law_fields_0_2 C F
def t__law_fields_0_0 (C : Cfg) (F : Nat) : List SM := (sAsg (eLst (eStars [])) (gNm 4)) :: t__law_fields_0_1 C F
def c__law_fields_0 (C : Cfg) (F : Nat) : SM := sS (t__law_fields_0_0 C F)
theorem q__law_fields_0 (F n : Nat) (a0 a1 a2 a3 : PV) (ih : IH) : callF P F (n + 1) (.fn "_law_fields_0") [a0, a1, a2, a3] ih = (c__law_fields_0 ⟨P, callF P F n, F⟩ F ([some a0, some a1, some a2, some a3, none, none]) ih).res := by kernel_rfl
def t__law_fields_1_3 (C : Cfg) (F : Nat) : List SM := (sDrop (eCall C (.fn "_law_raised_1") 4 (eArgs [(eVar 0), (eVar 1), (eVar 2), (eVar 3)]))) :: []
def t__law_fields_1_2 (C : Cfg) (F : Nat) : List SM := (sRet (eVar 4)) :: []
def t__law_fields_1_1 (C : Cfg) (F : Nat) : List SM := (sTryP P (sS (t__law_fields_1_3 C F)) (noRaise [("BadSize", (some 5), sS [sAsg (eLst (eArgs [(eUn (xfldQ P "n") (eVar 5))])) (gNm 4)]), ("OtherKinds", none, sS [sAsg (eLst (eArgs [])) (gNm 4)]), ("OtherWidths", none, sS [sAsg (eLst (eArgs [])) (gNm 4)]), ("BadName", (some 5), sS [sAsg (eLst (eArgs [(eUn (xfldQ P "name") (eVar 5))])) (gNm 4)]), ("NoDeed", (some 5), sS [sAsg (eLst (eArgs [(eUn (xfldQ P "name") (eVar 5))])) (gNm 4)]), ("NothingToUndo", none, sS [sAsg (eLst (eArgs [])) (gNm 4)]), ("TooMany", (some 5), sS [sAsg (eLst (eArgs [(eUn (xfldQ P "what") (eVar 5)), (eUn (xfldQ P "many") (eVar 5)), (eUn (xfldQ P "most") (eVar 5))])) (gNm 4)])])) :: t__law_fields_1_2 C F
def t__law_fields_1_0 (C : Cfg) (F : Nat) : List SM := (sAsg (eLst (eStars [])) (gNm 4)) :: t__law_fields_1_1 C F
def c__law_fields_1 (C : Cfg) (F : Nat) : SM := sS (t__law_fields_1_0 C F)
theorem q__law_fields_1 (F n : Nat) (a0 a1 a2 a3 : PV) (ih : IH) : callF P F (n + 1) (.fn "_law_fields_1") [a0, a1, a2, a3] ih = (c__law_fields_1 ⟨P, callF P F n, F⟩ F ([some a0, some a1, some a2, some a3, none, none]) ih).res := by kernel_rfl
def t__law_fields_2 (C : Cfg) (F : Nat) : List SM := (sRet (eCall C (.fn "_law_fields_0") 4 (eArgs [(eVar 0), (eVar 1), (eVar 2), (eVar 3)]))) :: []
def t__law_fields_1 (C : Cfg) (F : Nat) : List SM := (sRet (eCall C (.fn "_law_fields_1") 4 (eArgs [(eVar 0), (eVar 1), (eVar 2), (eVar 3)]))) :: []
def t__law_fields_0 (C : Cfg) (F : Nat) : List SM := (sIf (eCmp (cmpP .Lt) (eVar 0) (eC (.int (8)))) (sS (t__law_fields_2 C F)) (sS [])) :: t__law_fields_1 C F
def c__law_fields (C : Cfg) (F : Nat) : SM := sS (t__law_fields_0 C F)
theorem q__law_fields (F n : Nat) (a0 a1 a2 a3 : PV) (ih : IH) : callF P F (n + 1) (.fn "_law_fields") [a0, a1, a2, a3] ih = (c__law_fields ⟨P, callF P F n, F⟩ F ([some a0, some a1, some a2, some a3]) ih).res := by kernel_rfl
def t_law_8 (C : Cfg) (F : Nat) : List SM := (sRet (eC (.bl false))) :: []
def t_law_7 (C : Cfg) (F : Nat) : List SM := (sRet (eC (.bl false))) :: []
def t_law_6 (C : Cfg) (F : Nat) : List SM := (sIf (eCmp (cmpP .NotEq) (eCall C (.fn "_law_caught") 4 (eArgs [(eVar 3), (eVar 4), (eVar 5), (eVar 6)])) (eOp addP (eLst (eStars [(false, (eC (.bl true)))])) (eCompL F (srcRng 1 (eArgs [(eC (.int (15)))])) (.nm 7) [7] (eC true) (eVal (eCmp (cmpP .Eq) (eVar 7) (eVar 3)))))) (sS (t_law_8 C F)) (sS [])) :: []
def t_law_5 (C : Cfg) (F : Nat) : List SM := (sIf (eCmp (cmpP .NotEq) (eCall C (.fn "_law_fields") 4 (eArgs [(eVar 3), (eVar 4), (eVar 5), (eVar 6)])) (eSl (eLst (eStars [(false, (eVar 4)), (false, (eVar 5)), (false, (eVar 6))])) none (some (eIx (eVar 2) (eVar 3))))) (sS (t_law_7 C F)) (sS [])) :: t_law_6 C F
def t_law_4 (C : Cfg) (F : Nat) : List SM := (sPar [4, 5, 6] (eArgs [(eCall C (.fn "_law_thing") 1 (eArgs [(eVar 1)])), (eCall C (.fn "_law_thing") 1 (eArgs [(eVar 1)])), (eCall C (.fn "_law_thing") 1 (eArgs [(eVar 1)]))])) :: t_law_5 C F
def t_law_3 (C : Cfg) (F : Nat) : List SM := (sRet (eC (.bl true))) :: []
def t_law_2 (C : Cfg) (F : Nat) : List SM := (sLoop F (srcRng 1 (eArgs [(eC (.int (15)))])) (gNm 3) (sS (t_law_4 C F))) :: t_law_3 C F
def t_law_1 (C : Cfg) (F : Nat) : List SM := (sAsg (eLst (eStars [(false, (eC (.int (1)))), (false, (eC (.int (1)))), (false, (eC (.int (1)))), (false, (eC (.int (1)))), (false, (eC (.int (1)))), (false, (eC (.int (1)))), (false, (eC (.int (1)))), (false, (eC (.int (1)))), (false, (eC (.int (1)))), (false, (eC (.int (0)))), (false, (eC (.int (0)))), (false, (eC (.int (1)))), (false, (eC (.int (1)))), (false, (eC (.int (0)))), (false, (eC (.int (3))))])) (gNm 2)) :: t_law_2 C F
def t_law_0 (C : Cfg) (F : Nat) : List SM := (sAsg (eCall C (.fn "_law_bag") 1 (eArgs [(eVar 0)])) (gNm 1)) :: t_law_1 C F
def c_law (C : Cfg) (F : Nat) : SM := sS (t_law_0 C F)
theorem q_law (F n : Nat) (a0 : PV) (ih : IH) : callF P F (n + 1) (.fn "law") [a0] ih = (c_law ⟨P, callF P F n, F⟩ F ([some a0, none, none, none, none, none, none, none]) ih).res := by kernel_rfl
theorem p__law_bag_1 {F n : Nat} {a0 : PV} {ih : IH} : callP ⟨P, callF P F n, F⟩ (.fn "_law_bag") 1 [a0] ih = callF P F n (.fn "_law_bag") [a0] ih := by kernel_rfl
theorem p__law_draw_2 {F n : Nat} {a0 a1 : PV} {ih : IH} : callP ⟨P, callF P F n, F⟩ (.fn "_law_draw") 2 [a0, a1] ih = callF P F n (.fn "_law_draw") [a0, a1] ih := by kernel_rfl
theorem p__law_thing_1 {F n : Nat} {a0 : PV} {ih : IH} : callP ⟨P, callF P F n, F⟩ (.fn "_law_thing") 1 [a0] ih = callF P F n (.fn "_law_thing") [a0] ih := by kernel_rfl
theorem p__law_raised_0_4 {F n : Nat} {a0 a1 a2 a3 : PV} {ih : IH} : callP ⟨P, callF P F n, F⟩ (.fn "_law_raised_0") 4 [a0, a1, a2, a3] ih = callF P F n (.fn "_law_raised_0") [a0, a1, a2, a3] ih := by kernel_rfl
theorem p__law_raised_1_4 {F n : Nat} {a0 a1 a2 a3 : PV} {ih : IH} : callP ⟨P, callF P F n, F⟩ (.fn "_law_raised_1") 4 [a0, a1, a2, a3] ih = callF P F n (.fn "_law_raised_1") [a0, a1, a2, a3] ih := by kernel_rfl
theorem p__law_raised_4 {F n : Nat} {a0 a1 a2 a3 : PV} {ih : IH} : callP ⟨P, callF P F n, F⟩ (.fn "_law_raised") 4 [a0, a1, a2, a3] ih = callF P F n (.fn "_law_raised") [a0, a1, a2, a3] ih := by kernel_rfl
theorem p__law_caught_4 {F n : Nat} {a0 a1 a2 a3 : PV} {ih : IH} : callP ⟨P, callF P F n, F⟩ (.fn "_law_caught") 4 [a0, a1, a2, a3] ih = callF P F n (.fn "_law_caught") [a0, a1, a2, a3] ih := by kernel_rfl
theorem p__law_fields_0_4 {F n : Nat} {a0 a1 a2 a3 : PV} {ih : IH} : callP ⟨P, callF P F n, F⟩ (.fn "_law_fields_0") 4 [a0, a1, a2, a3] ih = callF P F n (.fn "_law_fields_0") [a0, a1, a2, a3] ih := by kernel_rfl
theorem p__law_fields_1_4 {F n : Nat} {a0 a1 a2 a3 : PV} {ih : IH} : callP ⟨P, callF P F n, F⟩ (.fn "_law_fields_1") 4 [a0, a1, a2, a3] ih = callF P F n (.fn "_law_fields_1") [a0, a1, a2, a3] ih := by kernel_rfl
theorem p__law_fields_4 {F n : Nat} {a0 a1 a2 a3 : PV} {ih : IH} : callP ⟨P, callF P F n, F⟩ (.fn "_law_fields") 4 [a0, a1, a2, a3] ih = callF P F n (.fn "_law_fields") [a0, a1, a2, a3] ih := by kernel_rfl
theorem p_law_1 {F n : Nat} {a0 : PV} {ih : IH} : callP ⟨P, callF P F n, F⟩ (.fn "law") 1 [a0] ih = callF P F n (.fn "law") [a0] ih := by kernel_rfl
def rg0 := Ai (Ai (Ai (@G.p__law_bag_1) (Ai (@G.p__law_draw_2) (@G.p__law_thing_1))) (Ai (@G.p__law_raised_0_4) (Ai (@G.p__law_raised_1_4) (@G.p__law_raised_4)))) (Ai (Ai (@G.p__law_caught_4) (Ai (@G.p__law_fields_0_4) (@G.p__law_fields_1_4))) (Ai (@G.p__law_fields_4) (Ai (@G.p_law_1) (@G.mkR_n))))
def rg := rg0
end G
end
noncomputable section
namespace G
open PySem PySem.Spec PyProof.Rows L2 Z
def bagC (c : Nat) (at_ d k f : Int) : IO := .dK [(.inr "cells", .ref c), (.inr "at", .int at_), (.inr "digits", .int d), (.inr "count", .int k), (.inr "fold", .int f)]
structure BagAt (ns : List Int) (b c : Nat) (k at_ d f : Int) (h : IH) : Prop where
  hb : h[b]? = some (bagC c at_ d k f)
  hc : h[c]? = some (.lst (ns.map PV.int))
  at0 : 0 ≤ at_
  d0 : 0 ≤ d
  f0 : 0 ≤ f
  f1 : f < 2147483648
  ne : b ≠ c
def Bag (ns : List Int) (b c : Nat) (k : Int) (h : IH) : Prop := ∃ at_ d f, BagAt ns b c k at_ d f h
theorem BagAt.put {ns : List Int} {b c : Nat} {k at_ d f k' at' d' f' : Int} {h : IH} (B : BagAt ns b c k at_ d f h) (a1 : 0 ≤ at') (a2 : 0 ≤ d') (a3 : 0 ≤ f') (a4 : f' < 2147483648) : BagAt ns b c k' at' d' f' (h.set b (bagC c at' d' k' f')) :=
  ⟨List.getElem?_set_self (lt_of_get B.hb), by rw [List.getElem?_set_ne B.ne]; exact B.hc, a1, a2, a3, a4, B.ne⟩
def DrawS (ns : List Int) (b c : Nat) (k l : Int) (h : IH) (x : R PV) : Prop := ∃ r h1, x = .ok (.int r) h1 ∧ 0 ≤ r ∧ r < l ∧ Bag ns b c (k + 1) h1 ∧ Only1 b h h1
theorem draw_tail {ns : List Int} {b c : Nat} {k l : Int} {h : IH} {C : Cfg} {F : Nat} (hl : 0 < l) (hl9 : l.natAbs.log2 < 9000) (k0 : 0 ≤ k) (k1 : k < 10 ^ 12) {at_ d f : Int} {x2 x3 x4 : Option PV} {h1 : IH} (B : BagAt ns b c (k + 1) at_ d f h1) (O : Only1 b h h1) :
    WS (sS (t__law_draw_2 C F) [some (.ref b), some (.int l), x2, x3, x4] h1) (KRes (DrawS ns b c k l h)) := by
  have hb := B.hb
  have hlt := lt_of_get hb
  unfold bagC at hb
  rw [t__law_draw_2]
  simp -implicitDefEqProofs only [Z.rr, binP, cmpP, lookK, putK', setK', putF', LINE, reduceCtorEq, ↓reduceIte, Int.reduceEq, Int.reduceLT, Int.reduceLE, Int.reduceAdd, Int.reduceSub, Int.reduceMul, Int.reduceNeg, String.reduceEq, Nat.reduceAdd, Nat.reduceLT, Nat.reduceLeDiff, Z.cr, G.rg, hb]
  refine kif_by (fun e => ?_) (fun e => ?_)
  · rw [t__law_draw_10, t__law_draw_11, t__law_draw_12]
    simp -implicitDefEqProofs only [Z.rr, binP, cmpP, lookK, putK', setK', putF', LINE, reduceCtorEq, ↓reduceIte, Int.reduceEq, Int.reduceLT, Int.reduceLE, Int.reduceAdd, Int.reduceSub, Int.reduceMul, Int.reduceNeg, String.reduceEq, Nat.reduceAdd, Nat.reduceLT, Nat.reduceLeDiff, Z.cr, G.rg, hb, mod_i hl, div_i hl hl9]
    have d0 : 0 ≤ d / l := Int.ediv_nonneg B.d0 (Int.le_of_lt hl)
    exact ⟨_, _, rfl, Int.emod_nonneg _ (by omega), Int.emod_lt_of_pos _ hl, ⟨_, _, _, B.put B.at0 d0 B.f0 B.f1⟩, O.trans Only1.set⟩
  · rw [t__law_draw_3, t__law_draw_4]
    have h7 : (k + 1).natAbs < 2 ^ 64 := by omega
    have f0 := B.f0
    have f1 := B.f1
    have hp : (0 : Int) ≤ 17 ∧ (17 : Int) ≤ 1000000 ∧ (f + (k + 1) * 7907 + 31).natAbs < 2 ^ 64 := ⟨by decide, by decide, by omega⟩
    simp -implicitDefEqProofs only [Z.rr, binP, cmpP, lookK, putK', setK', putF', LINE, reduceCtorEq, ↓reduceIte, Int.reduceEq, Int.reduceLT, Int.reduceLE, Int.reduceAdd, Int.reduceSub, Int.reduceMul, Int.reduceNeg, String.reduceEq, Nat.reduceAdd, Nat.reduceLT, Nat.reduceLeDiff, Z.cr, G.rg, hb, mul_s h7 (show (7907 : Int).natAbs < 2 ^ 64 by decide), pow_i hp, mod_i (show (0 : Int) < 2305843009213693951 by decide), div_i (show (0 : Int) < 128 by decide) (show (128 : Int).natAbs.log2 < 9000 by decide +kernel), mod_i hl]
    exact ⟨_, _, rfl, Int.emod_nonneg _ (by omega), Int.emod_lt_of_pos _ hl, ⟨_, _, _, B⟩, O⟩
theorem draw_ok {ns : List Int} {b c : Nat} {k l : Int} {h : IH} {F n : Nat} (B0 : Bag ns b c k h) (hl : 0 < l) (hl9 : l.natAbs.log2 < 9000) (k0 : 0 ≤ k) (k1 : k < 10 ^ 12) :
    DrawS ns b c k l h (callF P F (n + 1) (.fn "_law_draw") [.ref b, .int l] h) := by
  obtain ⟨at_, d, f, B⟩ := B0
  show WP _ (DrawS ns b c k l h)
  have hb := B.hb
  have hlt := lt_of_get hb
  unfold bagC at hb
  rw [q__law_draw, r_res, c__law_draw, t__law_draw_0]
  simp -implicitDefEqProofs only [Z.rr, binP, cmpP, lookK, putK', setK', putF', LINE, reduceCtorEq, ↓reduceIte, Int.reduceEq, Int.reduceLT, Int.reduceLE, Int.reduceAdd, Int.reduceSub, Int.reduceMul, Int.reduceNeg, String.reduceEq, Nat.reduceAdd, Nat.reduceLT, Nat.reduceLeDiff, Z.cr, G.rg, hb]
  have B1 : BagAt ns b c (k + 1) at_ d f (h.set b (bagC c at_ d (k + 1) f)) := B.put B.at0 B.d0 B.f0 B.f1
  have O1 : Only1 b h (h.set b (bagC c at_ d (k + 1) f)) := Only1.set
  have e1 : h.set b (IO.dK [(.inr "cells", .ref c), (.inr "at", .int at_), (.inr "digits", .int d), (.inr "count", .int (k + 1)), (.inr "fold", .int f)]) = h.set b (bagC c at_ d (k + 1) f) := rfl
  rw [e1]
  clear e1
  generalize h.set b (bagC c at_ d (k + 1) f) = h1 at *
  have hb1 := B1.hb
  have hlt1 := lt_of_get hb1
  have hc1 := B1.hc
  unfold bagC at hb1
  rw [t__law_draw_1]
  simp -implicitDefEqProofs only [Z.rr, binP, cmpP, lookK, putK', setK', putF', LINE, reduceCtorEq, ↓reduceIte, Int.reduceEq, Int.reduceLT, Int.reduceLE, Int.reduceAdd, Int.reduceSub, Int.reduceMul, Int.reduceNeg, String.reduceEq, Nat.reduceAdd, Nat.reduceLT, Nat.reduceLeDiff, Z.cr, G.rg, hb1]
  refine kife_by (fun e => ?_) (fun e => ?_)
  · simp -implicitDefEqProofs only [Z.rr, binP, cmpP, lookK, putK', setK', putF', LINE, reduceCtorEq, ↓reduceIte, Int.reduceEq, Int.reduceLT, Int.reduceLE, Int.reduceAdd, Int.reduceSub, Int.reduceMul, Int.reduceNeg, String.reduceEq, Nat.reduceAdd, Nat.reduceLT, Nat.reduceLeDiff, Z.cr, G.rg, hb1, len_ref_l hc1, hc1]
    refine kif_by (fun e2 => ?_) (fun e2 => ?_)
    · have a1 : at_ < (ns.length : Int) := by simpa using of_decide_eq_true e2
      have a0 := B.at0
      have hx : atI (ns.map PV.int) at_ = some (.int (ns.getD at_.toNat 0)) := by
        have e4 : at_.toNat < ns.length := by omega
        rw [atI_nn a0 (by simpa using a1), List.getElem?_map, List.getD_eq_getElem?_getD, List.getElem?_eq_getElem e4]
        rfl
      rw [t__law_draw_5, t__law_draw_6, t__law_draw_7]
      simp -implicitDefEqProofs only [Z.rr, binP, cmpP, lookK, putK', setK', putF', LINE, reduceCtorEq, ↓reduceIte, Int.reduceEq, Int.reduceLT, Int.reduceLE, Int.reduceAdd, Int.reduceSub, Int.reduceMul, Int.reduceNeg, String.reduceEq, Nat.reduceAdd, Nat.reduceLT, Nat.reduceLeDiff, Z.cr, G.rg, hb1, hc1, hx]
      have B2 : BagAt ns b c (k + 1) (at_ + 1) d f (h1.set b (bagC c (at_ + 1) d (k + 1) f)) := B1.put (by omega) B.d0 B.f0 B.f1
      have O2 : Only1 b h (h1.set b (bagC c (at_ + 1) d (k + 1) f)) := O1.trans Only1.set
      have e1 : h1.set b (IO.dK [(.inr "cells", .ref c), (.inr "at", .int (at_ + 1)), (.inr "digits", .int d), (.inr "count", .int (k + 1)), (.inr "fold", .int f)]) = h1.set b (bagC c (at_ + 1) d (k + 1) f) := rfl
      rw [e1]
      clear e1
      generalize h1.set b (bagC c (at_ + 1) d (k + 1) f) = h2 at *
      have hb2 := B2.hb
      have hlt2 := lt_of_get hb2
      unfold bagC at hb2
      simp -implicitDefEqProofs only [Z.rr, binP, cmpP, lookK, putK', setK', putF', LINE, reduceCtorEq, ↓reduceIte, Int.reduceEq, Int.reduceLT, Int.reduceLE, Int.reduceAdd, Int.reduceSub, Int.reduceMul, Int.reduceNeg, String.reduceEq, Nat.reduceAdd, Nat.reduceLT, Nat.reduceLeDiff, Z.cr, G.rg, hb2, pow_i (show (0 : Int) ≤ 18 ∧ (18 : Int) ≤ 1000000 ∧ (10 : Int).natAbs < 2 ^ 64 by decide)]
      refine kif_by (fun e3 => ?_) (fun e3 => ?_)
      · have e3 := of_decide_eq_true e3
        rw [t__law_draw_8]
        simp -implicitDefEqProofs only [Z.rr, binP, cmpP, lookK, putK', setK', putF', LINE, reduceCtorEq, ↓reduceIte, Int.reduceEq, Int.reduceLT, Int.reduceLE, Int.reduceAdd, Int.reduceSub, Int.reduceMul, Int.reduceNeg, String.reduceEq, Nat.reduceAdd, Nat.reduceLT, Nat.reduceLeDiff, Z.cr, G.rg, hb2, pow_i (show (0 : Int) ≤ 18 ∧ (18 : Int) ≤ 1000000 ∧ (10 : Int).natAbs < 2 ^ 64 by decide)]
        exact draw_tail hl hl9 k0 k1 (B2.put B2.at0 (by omega) B2.f0 B2.f1) (O2.trans Only1.set)
      · rw [t__law_draw_9]
        have h7 : f.natAbs < 2 ^ 64 := by have := B.f0; have := B.f1; omega
        simp -implicitDefEqProofs only [Z.rr, binP, cmpP, lookK, putK', setK', putF', LINE, reduceCtorEq, ↓reduceIte, Int.reduceEq, Int.reduceLT, Int.reduceLE, Int.reduceAdd, Int.reduceSub, Int.reduceMul, Int.reduceNeg, String.reduceEq, Nat.reduceAdd, Nat.reduceLT, Nat.reduceLeDiff, Z.cr, G.rg, hb2, mul_s h7 (show (69069 : Int).natAbs < 2 ^ 64 by decide), mod_i (show (0 : Int) < 2147483587 by decide)]
        exact draw_tail hl hl9 k0 k1 (B2.put B2.at0 B2.d0 (Int.emod_nonneg _ (by decide)) (by have := Int.emod_lt_of_pos (f * 69069 + ns.getD at_.toNat 0) (show (0 : Int) < 2147483587 by decide); omega)) (O2.trans Only1.set)
    · simp -implicitDefEqProofs only [Z.rr, binP, cmpP, lookK, putK', setK', putF', LINE, reduceCtorEq, ↓reduceIte, Int.reduceEq, Int.reduceLT, Int.reduceLE, Int.reduceAdd, Int.reduceSub, Int.reduceMul, Int.reduceNeg, String.reduceEq, Nat.reduceAdd, Nat.reduceLT, Nat.reduceLeDiff, Z.cr, G.rg]
      exact draw_tail hl hl9 k0 k1 B1 O1
  · simp -implicitDefEqProofs only [Z.rr, binP, cmpP, lookK, putK', setK', putF', LINE, reduceCtorEq, ↓reduceIte, Int.reduceEq, Int.reduceLT, Int.reduceLE, Int.reduceAdd, Int.reduceSub, Int.reduceMul, Int.reduceNeg, String.reduceEq, Nat.reduceAdd, Nat.reduceLT, Nat.reduceLeDiff, Z.cr, G.rg]
    exact draw_tail hl hl9 k0 k1 B1 O1
def BagS (ns : List Int) (h : IH) (x : R PV) : Prop := ∃ b c h1, x = .ok (.ref b) h1 ∧ Bag ns b c 0 h1 ∧ b = h.length + 1 ∧ c = h.length ∧ h1.length = h.length + 2 ∧ ∀ m, m < h.length → h1[m]? = h[m]?
theorem bag_ok {ns : List Int} {a F n : Nat} {h : IH} (hl : ns.length ≤ 63) (hF : 100 ≤ F) (ha : h[a]? = some (.flst (ns.map PV.int))) :
    BagS ns h (callF P F (n + 1) (.fn "_law_bag") [.ref a] h) := by
  show WP _ (BagS ns h)
  rw [q__law_bag, r_res, c__law_bag, t__law_bag_0, t__law_bag_1]
  simp -implicitDefEqProofs only [Z.rr, binP, cmpP, lookK, putK', setK', putF', LINE, reduceCtorEq, ↓reduceIte, Int.reduceEq, Int.reduceLT, Int.reduceLE, Int.reduceAdd, Int.reduceSub, Int.reduceMul, Int.reduceNeg, String.reduceEq, Nat.reduceAdd, Nat.reduceLT, Nat.reduceLeDiff, Z.cr, G.rg, src_f ha]
  refine loop_inv (n := ns.length) (item := itemOf (ns.map PV.int)) (fun i env h1 => h1 = h ∧ ∃ f x, env = [some (.ref a), some (.int f), x] ∧ 0 ≤ f ∧ f < 1000000009) (fun i env h1 hi iv => ?_) (fun i env h1 hi iv => ?_) (fun env h1 iv => ?_) F 0 _ _ (by omega) (by omega) ⟨rfl, 0, _, rfl, by decide, by decide⟩
  · obtain ⟨rfl, _⟩ := iv
    rw [at_flst ha, Z.item_get]
    simp only [List.length_map]
  · obtain ⟨rfl, f, x, rfl, f0, f1⟩ := iv
    have ex : itemOf (ns.map PV.int) i = .int (ns.getD i 0) := by
      unfold itemOf
      rw [List.getD_eq_getElem?_getD, List.getElem?_map, List.getD_eq_getElem?_getD, List.getElem?_eq_getElem hi]; rfl
    refine ⟨_, _, rfl, ?_⟩
    rw [ex, t__law_bag_3]
    have h7 : f.natAbs < 2 ^ 64 := by omega
    simp -implicitDefEqProofs only [Z.rr, binP, cmpP, lookK, putK', setK', putF', LINE, reduceCtorEq, ↓reduceIte, Int.reduceEq, Int.reduceLT, Int.reduceLE, Int.reduceAdd, Int.reduceSub, Int.reduceMul, Int.reduceNeg, String.reduceEq, Nat.reduceAdd, Nat.reduceLT, Nat.reduceLeDiff, Z.cr, G.rg, mul_s h7 (show (37 : Int).natAbs < 2 ^ 64 by decide), mod_i (show (0 : Int) < 1000000009 by decide)]
    exact ⟨_, _, rfl, Int.emod_nonneg _ (by decide), Int.emod_lt_of_pos _ (by decide)⟩
  · obtain ⟨rfl, f, x, rfl, f0, f1⟩ := iv
    rw [t__law_bag_2]
    simp -implicitDefEqProofs only [Z.rr, binP, cmpP, lookK, putK', setK', putF', LINE, reduceCtorEq, ↓reduceIte, Int.reduceEq, Int.reduceLT, Int.reduceLE, Int.reduceAdd, Int.reduceSub, Int.reduceMul, Int.reduceNeg, String.reduceEq, Nat.reduceAdd, Nat.reduceLT, Nat.reduceLeDiff, Z.cr, G.rg, list_f ha]
    have e1 : dispR [(.str "cells", .ref h1.length), (.str "at", .int 0), (.str "digits", .int 0), (.str "count", .int 0), (.str "fold", .int f)] (h1 ++ [.lst (ns.map PV.int)]) = .ok (.ref (h1.length + 1)) (h1 ++ [.lst (ns.map PV.int)] ++ [bagC h1.length 0 0 0 f]) := by
      simp only [dispR, keysOf, keyOf, Option.map_some, mergeK', List.foldl_cons, List.foldl_nil, putK', lookK, setK', Option.isSome_none, Option.isSome_some, ↓reduceIte, Sum.inr.injEq, Z.ofS_inj, String.reduceEq, List.length_cons, List.length_nil, List.length_append, Nat.reduceAdd, Nat.reduceLeDiff, List.nil_append, List.cons_append, reduceCtorEq, Bool.false_eq_true, bagC]
    rw [e1]
    simp -implicitDefEqProofs only [Z.rr, binP, cmpP, lookK, putK', setK', putF', LINE, reduceCtorEq, ↓reduceIte, Int.reduceEq, Int.reduceLT, Int.reduceLE, Int.reduceAdd, Int.reduceSub, Int.reduceMul, Int.reduceNeg, String.reduceEq, Nat.reduceAdd, Nat.reduceLT, Nat.reduceLeDiff, Z.cr, G.rg]
    refine ⟨_, _, _, rfl, ⟨0, 0, f, ⟨?_, ?_, by decide, by decide, f0, by omega, by omega⟩⟩, rfl, rfl, ?_, fun m hm => ?_⟩
    · rw [getA]; rfl
    · rw [getA0]; rfl
    · simp
    · exact List.getElem?_append_left hm
end G
end
noncomputable section
namespace G
open PySem PySem.Spec PyProof.Rows L2 Z
section
variable {F n : Nat} {X t : IH} {Q : R PV → Prop} {ns : List Int} {k : Int} {L bag : IO}
def BG (ns : List Int) (c : Nat) (k : Int) (L bag : IO) : Prop := L = .lst (ns.map PV.int) ∧ ∃ at_ d f, bag = bagC c at_ d k f ∧ 0 ≤ at_ ∧ 0 ≤ d ∧ 0 ≤ f ∧ f < 2147483648
theorem bg_bag (B : BG ns X.length k L bag) : Bag ns (X.length + 1) X.length k (X ++ (L :: bag :: t)) := by
  obtain ⟨rfl, a, d, f, rfl, h1, h2, h3, h4⟩ := B
  exact ⟨a, d, f, by rw [getA]; rfl, by rw [getA0]; rfl, h1, h2, h3, h4, by omega⟩
theorem draw_wp {l : Int} (B : BG ns X.length k L bag) (hl : 0 < l) (hl9 : l.natAbs.log2 < 9000) (k0 : 0 ≤ k) (k1 : k < 10 ^ 12)
    (h1 : ∀ r bag', 0 ≤ r → r < l → BG ns X.length (k + 1) L bag' → Q (.ok (.int r) (X ++ (L :: bag' :: t)))) :
    WP (callF P F (n + 1) (.fn "_law_draw") [.ref (X.length + 1), .int l] (X ++ (L :: bag :: t))) Q := by
  obtain ⟨r, h2, e, r0, r1, B2, O⟩ := draw_ok (F := F) (n := n) (bg_bag (t := t) B) hl hl9 k0 k1
  rw [e]
  obtain ⟨a, d, f, B3⟩ := B2
  have e2 : h2 = X ++ (L :: bagC X.length a d (k + 1) f :: t) := by
    have e3 : X ++ (L :: bagC X.length a d (k + 1) f :: t) = (X ++ (L :: bag :: t)).set (X.length + 1) (bagC X.length a d (k + 1) f) := by
      rw [setA]; rfl
    rw [e3]
    apply List.ext_getElem?
    intro m
    by_cases em : m = X.length + 1
    · subst em
      rw [B3.hb, List.getElem?_set_self (by simp)]
    · rw [O.2 m em, List.getElem?_set_ne (Ne.symm em)]
  rw [e2]
  exact h1 r _ r0 r1 ⟨B.1, a, d, f, rfl, B3.at0, B3.d0, B3.f0, B3.f1⟩
theorem pow20 {h : IH} : powP (.int 10) (.int 20) h = .ok (.int 100000000000000000000) h := by kernel_rfl
theorem bg_of {h1 : IH} (B : Bag ns (X.length + 1) X.length k h1) (hl : h1.length = X.length + 2) (hs : ∀ m, m < X.length → h1[m]? = X[m]?) : ∃ L bag, BG ns X.length k L bag ∧ h1 = X ++ (L :: bag :: []) := by
  obtain ⟨a, d, f, B⟩ := B
  refine ⟨_, _, ⟨rfl, a, d, f, rfl, B.at0, B.d0, B.f0, B.f1⟩, ?_⟩
  apply List.ext_getElem?
  intro m
  rcases Nat.lt_trichotomy m X.length with c | c | c
  · rw [hs m c, List.getElem?_append_left c]
  · subst c
    rw [B.hc, getA0]; rfl
  · rcases Nat.lt_trichotomy m (X.length + 1) with c2 | c2 | c2
    · omega
    · subst c2
      rw [B.hb, getA]; rfl
    · rw [List.getElem?_eq_none (by omega), List.getElem?_eq_none (by simp; omega)]
def Yes (r : R PV) : Prop := ∃ h, r = .ok (.bl true) h
end
end G
end
noncomputable section
namespace G
open PySem PySem.Spec PyProof.Rows L2 Z
inductive Th (o : Nat) (t : IH) : PV → Prop
  | int (i : Int) : Th o t (.int i)
  | s0 : Th o t (.str "")
  | s1 : Th o t (.str "p1")
  | non : Th o t .non
  | bl : Th o t (.bl true)
  | tu : Th o t (.tup [.int 1, .str "a"])
  | e0 {j : Nat} : t[j]? = some (.lst []) → Th o t (.ref (o + j))
  | e3 {j : Nat} : t[j]? = some (.lst [.int 3]) → Th o t (.ref (o + j))
theorem Th.app {o : Nat} {t T : IH} {v : PV} (h : Th o t v) : Th o (t ++ T) v := by
  cases h with
  | int i => exact .int i
  | s0 => exact .s0
  | s1 => exact .s1
  | non => exact .non
  | bl => exact .bl
  | tu => exact .tu
  | e0 e => exact .e0 (get_app e)
  | e3 e => exact .e3 (get_app e)
theorem Th.noX {o : Nat} {t : IH} {v : PV} (h : Th o t v) : Z.noX v = true := by
  cases h <;> rfl
section
variable {F n : Nat} {X t : IH} {Q : R PV → Prop} {ns : List Int} {k : Int} {L bag : IO}
theorem pow19 {h : IH} : powP (.int 10) (.int 19) h = .ok (.int 10000000000000000000) h := by kernel_rfl
theorem thing_wp (B : BG ns X.length k L bag) (k0 : 0 ≤ k) (k1 : k < 10 ^ 10)
    (h1 : ∀ v bag' T, Th (X.length + 2) (t ++ T) v → BG ns X.length (k + 2) L bag' → Q (.ok v (X ++ (L :: bag' :: (t ++ T))))) :
    WP (callF P F (n + 2) (.fn "_law_thing") [.ref (X.length + 1)] (X ++ (L :: bag :: t))) Q := by
  rw [q__law_thing, r_res]
  simp -implicitDefEqProofs only [Z.rr, binP, cmpP, lookK, putK', setK', putF', LINE, reduceCtorEq, ↓reduceIte, Int.reduceEq, Int.reduceLT, Int.reduceLE, Int.reduceAdd, Int.reduceSub, Int.reduceMul, Int.reduceNeg, String.reduceEq, Nat.reduceAdd, Nat.reduceLT, Nat.reduceLeDiff, Z.cr, G.rg, c__law_thing, t__law_thing_0, pow20, pow19]
  refine draw_wp (n := n) B (by decide) (by decide) k0 (by omega) (fun r bag' r0 r1 B' => ?_)
  simp -implicitDefEqProofs only [Z.rr, binP, cmpP, lookK, putK', setK', putF', LINE, reduceCtorEq, ↓reduceIte, Int.reduceEq, Int.reduceLT, Int.reduceLE, Int.reduceAdd, Int.reduceSub, Int.reduceMul, Int.reduceNeg, String.reduceEq, Nat.reduceAdd, Nat.reduceLT, Nat.reduceLeDiff, Z.cr, G.rg, pow19]

  refine draw_wp (n := n) B' (by decide) (by decide) (by omega) (by omega) (fun r2 bag2 q0 q1 B2 => ?_)
  have hc : r2 = 0 ∨ r2 = 1 ∨ r2 = 2 ∨ r2 = 3 ∨ r2 = 4 ∨ r2 = 5 ∨ r2 = 6 ∨ r2 = 7 ∨ r2 = 8 := by omega
  have B2 : BG ns X.length (k + 2) L bag2 := by have := B2; rwa [show k + 1 + 1 = k + 2 by omega] at this
  generalize hT : [IO.lst [], IO.lst [.int 3], IO.lst [.int (r - 10000000000000000000), .str (Str.ofString ""), .str (Str.ofString "p1"), .non, .bl true, .tup [.int 1, .str (Str.ofString "a")], .ref (X.length + (t.length + 2)), .ref (X.length + (t.length + 3)), .int 0]] = T
  have g : (X ++ L :: bag2 :: (t ++ T))[X.length + (t.length + 4)]? = some (.lst [.int (r - 10000000000000000000), .str (Str.ofString ""), .str (Str.ofString "p1"), .non, .bl true, .tup [.int 1, .str (Str.ofString "a")], .ref (X.length + (t.length + 2)), .ref (X.length + (t.length + 3)), .int 0]) := by
    rw [getA, List.getElem?_cons_succ, List.getElem?_cons_succ, show t.length + 2 = t.length + 2 from rfl, getA, ← hT]; rfl
  have h1 := fun v (hv : Th (X.length + 2) (t ++ T) v) => h1 v bag2 T hv B2
  have i0 : (t ++ T)[t.length]? = some (.lst []) := by rw [getA0, ← hT]; rfl
  have i1 : (t ++ T)[t.length + 1]? = some (.lst [.int 3]) := by rw [getA, ← hT]; rfl
  have ix : ∀ v, atI [PV.int (r - 10000000000000000000), .str (Str.ofString ""), .str (Str.ofString "p1"), .non, .bl true, .tup [.int 1, .str (Str.ofString "a")], .ref (X.length + (t.length + 2)), .ref (X.length + (t.length + 3)), .int 0] r2 = some v → ixP (.ref (X.length + (t.length + 4))) (.int r2) (X ++ L :: bag2 :: (t ++ T)) = .ok v (X ++ L :: bag2 :: (t ++ T)) := fun v hv => by
    unfold ixP
    dsimp only
    rw [g]
    dsimp only
    unfold getL
    rw [g]; dsimp only; rw [hv]
  have fin : ∀ v, atI [PV.int (r - 10000000000000000000), .str (Str.ofString ""), .str (Str.ofString "p1"), .non, .bl true, .tup [.int 1, .str (Str.ofString "a")], .ref (X.length + (t.length + 2)), .ref (X.length + (t.length + 3)), .int 0] r2 = some v → Th (X.length + 2) (t ++ T) v → WP (ixP (.ref (X.length + (t.length + 4))) (.int r2) (X ++ L :: bag2 :: (t ++ T))) (KW (fun v x h => RS.ret v h) [some (PV.ref (List.length X + 1))] (KS (sS []) (KRes Q))) := fun v hv hT => by
    rw [ix v hv]
    simp -implicitDefEqProofs only [Z.rr, binP, cmpP, lookK, putK', setK', putF', LINE, reduceCtorEq, ↓reduceIte, Int.reduceEq, Int.reduceLT, Int.reduceLE, Int.reduceAdd, Int.reduceSub, Int.reduceMul, Int.reduceNeg, String.reduceEq, Nat.reduceAdd, Nat.reduceLT, Nat.reduceLeDiff, Z.cr, G.rg]
    exact h1 v hT
  show WP (ixP (.ref (X.length + (t.length + 4))) (.int r2) (X ++ L :: bag2 :: (t ++ T))) _
  rcases hc with rfl | rfl | rfl | rfl | rfl | rfl | rfl | rfl | rfl
  · exact fin _ rfl (.int _)
  · exact fin _ rfl .s0
  · exact fin _ rfl .s1
  · exact fin _ rfl .non
  · exact fin _ rfl .bl
  · exact fin _ rfl .tu
  · exact fin _ rfl (by have := Th.e0 (o := X.length + 2) i0; rwa [show X.length + 2 + t.length = X.length + (t.length + 2) by omega] at this)
  · exact fin _ rfl (by have := Th.e3 (o := X.length + 2) i1; rwa [show X.length + 2 + (t.length + 1) = X.length + (t.length + 3) by omega] at this)
  · exact fin _ rfl (.int _)
end
end G
end
noncomputable section
namespace Z
open PySem PySem.Spec PyProof.Rows L2
set_option autoImplicit false
section
variable {α : Type} {le : α → α → Bool}
end
end Z
end
noncomputable section
namespace Z
open PySem PySem.Spec PyProof.Rows L2
set_option autoImplicit false
section
variable {QS : RS → Prop} {env e1 : Sl} {h h1 : IH} {s : Src} {g : GM} {b : SM} {n i : Nat} {x : PV}
end
end Z
end
noncomputable section
namespace Z
open PySem PySem.Spec PyProof.Rows L2
set_option autoImplicit false
inductive Nm where
  | given | hand | at | mate | kid (n : Nat)
  deriving DecidableEq
def Nm.v : Nm → PV
  | .given => .str "given"
  | .hand => .str "hand"
  | .at => .str "at"
  | .mate => .str "mate"
  | .kid n => .int (n : Nat)
inductive Part where
  | inside (b : Bool) | root (b : Bool) | start (b : Bool) | has (k : Nat) (sl : Int) (b : Bool) | less (x y : Nm) (st b : Bool)
def Part.v : Part → PV
  | .inside b => .tup [.str "inside", .bl b]
  | .root b => .tup [.str "root", .bl b]
  | .start b => .tup [.str "start", .bl b]
  | .has k sl b => .tup [.str "has", .int (k : Nat), .int sl, .bl b]
  | .less x y st b => .tup [.str "less", x.v, y.v, .bl st, .bl b]
def wayV : Option Bool → PV
  | none => .non
  | some true => .str "down"
  | some false => .str "up"
def natV : Option Nat → PV
  | none => .non
  | some a => .int (a : Nat)
def itV : Option (Int × Int) → PV
  | none => .non
  | some i => eI i
def endV : Option String → PV
  | none => .non
  | some s => .str (Str.ofString s)
inductive Op where
  | head (dn : Bool) (num : Nat) | side (b : Bool) | jump (t : Nat) | ask (p : Part) (t : Nat) | fin | quit | go (w : Option Bool) | pick (n : Nat) | back | longer | shorter | trade
  | tell | grabAt | grabLast | grabGiven | lay | noteAt | noteMate | pull (w : Option Bool) | swap (w : Option Bool)
def Op.w : Op → String
  | .head _ _ => "head"
  | .side _ => "side"
  | .jump _ => "jump"
  | .ask _ _ => "ask"
  | .fin => "end"
  | .quit => "quit"
  | .go _ => "go"
  | .pick _ => "pick"
  | .back => "back"
  | .longer => "longer"
  | .shorter => "shorter"
  | .trade => "trade"
  | .tell => "tell"
  | .grabAt => "grab"
  | .grabLast => "grab"
  | .grabGiven => "grab"
  | .lay => "lay"
  | .noteAt => "note"
  | .noteMate => "note"
  | .pull _ => "pull"
  | .swap _ => "swap"
def Op.one : Op → PV
  | .head dn _ => wayV (some dn)
  | .side b => .bl b
  | .jump t => .int (t : Nat)
  | .ask p _ => p.v
  | .go w => wayV w
  | .pick n => .int (n : Nat)
  | .grabAt => .str "at"
  | .grabLast => .str "last"
  | .grabGiven => .str "given"
  | .noteAt => .str "at"
  | .noteMate => .str "mate"
  | .pull w => wayV w
  | .swap w => wayV w
  | _ => .non
def Op.two : Op → PV
  | .head _ k => .int (k : Nat)
  | .ask _ t => .int (t : Nat)
  | _ => .non
structure Stp where
  op : Op
  line : Option Nat
def Stp.v (s : Stp) : PV := .tup [.str (Str.ofString s.op.w), s.op.one, s.op.two, natV s.line]
def stepsV (l : List Stp) : PV := .tup (l.map Stp.v)
structure HS where
  num : Nat
  at_ : Nat
  mp : Option Nat
  hand : Option (Int × Int)
  row : List (Int × Int)
  deriving DecidableEq
def HS.v (s : HS) : PV := .tup [.int (s.num : Nat), .int (s.at_ : Nat), natV s.mp, itV s.hand, .tup (s.row.map eI)]
structure ST where
  row : List (Int × Int)
  at_ : Nat
  way : Option Bool
  loop : Option Nat
  mate : Option Nat
  hand : Option (Int × Int)
  told : Option (Int × Int)
  places : List (Key × PV)
  cmp : Nat
  ended : Option String
  idx : Nat
  used : List Nat
  turned : List (Nat × Bool)
  met : List PV
  heads : List HS
structure PC where
  steps : List Stp
  w : Nat
  start : Nat
  given : Option (Int × Int)
def usedV (l : List Nat) : List (Key × PV) := l.map fun (n : Nat) => (.inl (n : Int), .bl true)
def turnV (l : List (Nat × Bool)) : List (PV × PV) := l.map fun p => (.tup [.int (p.1 : Nat), .bl p.2], .bl true)
def headV (l : List HS) : List (PV × PV) := l.map fun s => (s.v, .bl true)
def dictN (l : List (PV × PV)) : IO := match l with
  | [] => .dK []
  | l => .dN l
def ST.cells (s : ST) (c : PC) (p : Nat) : IH := [.ins "Player" [("steps", stepsV c.steps), ("width", .int (c.w : Nat)), ("row", .ref (p + 1)), ("start", .int (c.start : Nat)), ("given", itV c.given), ("at", .int (s.at_ : Nat)), ("way", wayV s.way), ("loop", natV s.loop), ("mate", natV s.mate), ("hand", itV s.hand), ("told", itV s.told), ("places", .ref (p + 2)), ("compares", .int (s.cmp : Nat)), ("ended", endV s.ended), ("index", .int (s.idx : Nat)), ("used", .ref (p + 3)), ("turned", .ref (p + 4)), ("met", .ref (p + 5)), ("heads", .ref (p + 6))],
  .lst (s.row.map eI), .dK s.places, .dK (usedV s.used), dictN (turnV s.turned), .lst s.met, dictN (headV s.heads)]
def beyond (s : ST) : ST := { s with ended := some "beyond" }
def mpl (c : PC) (s : ST) : Option Nat := if s.way = some false then (if 0 < s.at_ then some ((s.at_ - 1) / c.w) else none) else s.mate
def isPl (s : ST) : Option Nat → Bool
  | none => false
  | some p => decide (p < s.row.length)
def plOf (c : PC) (s : ST) : Nm → Option Nat
  | .at => some s.at_
  | .mate => mpl c s
  | .kid n => some (c.w * s.at_ + n)
  | _ => none
def keyOf' (c : PC) (s : ST) : Nm → Option Int
  | .given => c.given.map (·.1)
  | .hand => s.hand.map (·.1)
  | x => if isPl s (plOf c s x) = true then some (at0 s.row ((plOf c s x).getD 0)).1 else none
def holds (c : PC) (s : ST) : Part → Bool × ST
  | .inside _ => (decide (s.at_ < s.row.length), s)
  | .root _ => (decide (0 < s.at_), s)
  | .start _ => (decide (s.at_ ≠ c.start), s)
  | .has k sl _ => (decide ((c.w : Int) * s.at_ + k < s.row.length + sl), s)
  | .less x y st _ => match keyOf' c s x, keyOf' c s y with
    | some a, some b => (decide (a < b) || (decide (a = b) && !st), { s with cmp := s.cmp + 1 })
    | _, _ => (false, beyond s)
end Z
end
noncomputable section
namespace Z
open PySem PySem.Spec PyProof.Rows L2
set_option autoImplicit false
section
variable {α : Type} {h : IH} {env : Sl} {q : Nat} {xs : List PV}
end
end Z
end
noncomputable section
namespace G
open PySem PySem.Spec PyProof.Rows L2 Z
def nmsX : List Str := ["BadKind", "BadWidth", "BadLine", "Refused", "BadItem", "BadCase", "BadPromise", "NoLine", "BadSize", "OtherKinds", "OtherWidths", "BadName", "NoDeed", "NothingToUndo", "TooMany"]
section
variable {F n : Nat} {h : IH} {Q : R PV → Prop} {c : Str} {fs : List (Str × PV)}
theorem isx_y {y : Str} (hc : (P.excs.lookup c).isSome = true) (hy : (P.excs.lookup y).isSome = true) : isxQ P [.exc c fs, .cls y] h = .ok (.bl (decide (c = y))) h := by
  show (if (P.excs.lookup c).isSome = true ∧ (P.excs.lookup y).isSome = true then _ else _) = _
  rw [if_pos ⟨hc, hy⟩]
theorem isx_v (hc : (P.excs.lookup c).isSome = true) : isxQ P [.exc c fs, .ty "ValueError"] h = .ok (.bl true) h := by
  show (if (P.excs.lookup c).isSome = true ∧ "ValueError" = "ValueError" then _ else _) = _
  rw [if_pos ⟨hc, rfl⟩]
theorem yx_BadKind (hc : (P.excs.lookup c).isSome = true) : isxQ P [.exc c fs, .cls "BadKind"] h = .ok (.bl (decide (c = "BadKind"))) h := isx_y hc (by kernel_rfl)
theorem yx_BadWidth (hc : (P.excs.lookup c).isSome = true) : isxQ P [.exc c fs, .cls "BadWidth"] h = .ok (.bl (decide (c = "BadWidth"))) h := isx_y hc (by kernel_rfl)
theorem yx_BadLine (hc : (P.excs.lookup c).isSome = true) : isxQ P [.exc c fs, .cls "BadLine"] h = .ok (.bl (decide (c = "BadLine"))) h := isx_y hc (by kernel_rfl)
theorem yx_Refused (hc : (P.excs.lookup c).isSome = true) : isxQ P [.exc c fs, .cls "Refused"] h = .ok (.bl (decide (c = "Refused"))) h := isx_y hc (by kernel_rfl)
theorem yx_BadItem (hc : (P.excs.lookup c).isSome = true) : isxQ P [.exc c fs, .cls "BadItem"] h = .ok (.bl (decide (c = "BadItem"))) h := isx_y hc (by kernel_rfl)
theorem yx_BadCase (hc : (P.excs.lookup c).isSome = true) : isxQ P [.exc c fs, .cls "BadCase"] h = .ok (.bl (decide (c = "BadCase"))) h := isx_y hc (by kernel_rfl)
theorem yx_BadPromise (hc : (P.excs.lookup c).isSome = true) : isxQ P [.exc c fs, .cls "BadPromise"] h = .ok (.bl (decide (c = "BadPromise"))) h := isx_y hc (by kernel_rfl)
theorem yx_NoLine (hc : (P.excs.lookup c).isSome = true) : isxQ P [.exc c fs, .cls "NoLine"] h = .ok (.bl (decide (c = "NoLine"))) h := isx_y hc (by kernel_rfl)
theorem yx_BadSize (hc : (P.excs.lookup c).isSome = true) : isxQ P [.exc c fs, .cls "BadSize"] h = .ok (.bl (decide (c = "BadSize"))) h := isx_y hc (by kernel_rfl)
theorem yx_OtherKinds (hc : (P.excs.lookup c).isSome = true) : isxQ P [.exc c fs, .cls "OtherKinds"] h = .ok (.bl (decide (c = "OtherKinds"))) h := isx_y hc (by kernel_rfl)
theorem yx_OtherWidths (hc : (P.excs.lookup c).isSome = true) : isxQ P [.exc c fs, .cls "OtherWidths"] h = .ok (.bl (decide (c = "OtherWidths"))) h := isx_y hc (by kernel_rfl)
theorem yx_BadName (hc : (P.excs.lookup c).isSome = true) : isxQ P [.exc c fs, .cls "BadName"] h = .ok (.bl (decide (c = "BadName"))) h := isx_y hc (by kernel_rfl)
theorem yx_NoDeed (hc : (P.excs.lookup c).isSome = true) : isxQ P [.exc c fs, .cls "NoDeed"] h = .ok (.bl (decide (c = "NoDeed"))) h := isx_y hc (by kernel_rfl)
theorem yx_NothingToUndo (hc : (P.excs.lookup c).isSome = true) : isxQ P [.exc c fs, .cls "NothingToUndo"] h = .ok (.bl (decide (c = "NothingToUndo"))) h := isx_y hc (by kernel_rfl)
theorem yx_TooMany (hc : (P.excs.lookup c).isSome = true) : isxQ P [.exc c fs, .cls "TooMany"] h = .ok (.bl (decide (c = "TooMany"))) h := isx_y hc (by kernel_rfl)
def addO (o o2 : Option IO) (h : IH) : R PV := match o, o2 with
  | some (.lst xs), some (.lst ys) => newL h (xs ++ ys)
  | _, _ => .fail
theorem add_ref {a b : Nat} {h : IH} : addP (.ref a) (.ref b) h = addO h[a]? h[b]? h := by
  unfold addP addO getM; dsimp only
  cases h[a]? with
  | none => rfl
  | some o => cases o <;> (cases h[b]? with
    | none => rfl
    | some o2 => cases o2 <;> rfl)
theorem addO_l {h : IH} {xs ys : List PV} : addO (some (.lst xs)) (some (.lst ys)) h = newL h (xs ++ ys) := rfl
def kindsL2 (c : Str) : List PV := nmsX.map fun y => .bl (decide (c = y))
theorem kinds_ok (hc : (P.excs.lookup c).isSome = true) : ∃ T, kdX P [.exc c fs] h = .ok (.ref (h.length + 8)) (h ++ T) ∧ T.length = 9 ∧ T[8]? = some (.lst (kindsL2 c)) ∧ T.all noXo = true := by
  suffices H : WP (kdX P [.exc c fs] h) (fun r => ∃ T, r = .ok (.ref (h.length + 8)) (h ++ T) ∧ T.length = 9 ∧ T[8]? = some (.lst (kindsL2 c)) ∧ T.all noXo = true) from H
  rw [q__law_kinds_of, r_res]
  simp -implicitDefEqProofs only [Z.rr, binP, cmpP, lookK, putK', setK', putF', LINE, reduceCtorEq, ↓reduceIte, Int.reduceEq, Int.reduceLT, Int.reduceLE, Int.reduceAdd, Int.reduceSub, Int.reduceMul, Int.reduceNeg, String.reduceEq, Nat.reduceAdd, Nat.reduceLT, Nat.reduceLeDiff, Z.cr, G.rg, c__law_kinds_of, add_ref, addO_l, yx_BadKind hc, yx_BadWidth hc, yx_BadLine hc, yx_Refused hc, yx_BadItem hc, yx_BadCase hc, yx_BadPromise hc, yx_NoLine hc, yx_BadSize hc, yx_OtherKinds hc, yx_OtherWidths hc, yx_BadName hc, yx_NoDeed hc, yx_NothingToUndo hc, yx_TooMany hc]
  exact ⟨_, rfl, rfl, rfl, rfl⟩
def nrX : RS → RS := fun r => match r with
  | .exc _ _ _ _ => .fail
  | r => r
theorem WS_of {r r' : RS} {QS : RS → Prop} (e : r = r') (w : WS r' QS) : WS r QS := e ▸ w
def suiC : SM := sS [sRet (eOp addP (eLst (eArgs [(eB (isxQ P) (eArgs [(eVar 4), (eC (.ty "ValueError"))]))])) (eB (kdX P) (eArgs [(eVar 4)])))]
theorem suite_ok {x0 x1 x2 x3 : Option PV} (hc : (P.excs.lookup c).isSome = true) : ∃ T p, suiC [x0, x1, x2, x3, some (.exc c fs)] h = .ret (.ref p) (h ++ T) ∧ (h ++ T)[p]? = some (.lst (.bl true :: kindsL2 c)) ∧ T.all noXo = true := by
  obtain ⟨T, e, hl, h8, hn⟩ := kinds_ok (h := h ++ [IO.lst [.bl true]]) (fs := fs) hc
  suffices H : WS (suiC [x0, x1, x2, x3, some (.exc c fs)] h) (fun r => ∃ T p, r = .ret (.ref p) (h ++ T) ∧ (h ++ T)[p]? = some (.lst (.bl true :: kindsL2 c)) ∧ T.all noXo = true) from H
  have e8 : (h ++ ([IO.lst [.bl true]] ++ T))[h.length + 1 + 8]? = some (.lst (kindsL2 c)) := by
    rw [Nat.add_assoc, getA]
    exact h8
  have e0 : (h ++ ([IO.lst [.bl true]] ++ T))[h.length]? = some (.lst [.bl true]) := by rw [getA0]; rfl
  have ea : addP (.ref h.length) (.ref (h.length + 9)) (h ++ IO.lst [.bl true] :: T) = .ok (.ref (h ++ ([IO.lst [.bl true]] ++ T)).length) (h ++ ([IO.lst [.bl true]] ++ T) ++ [.lst (.bl true :: kindsL2 c)]) := by
    rw [add_ref]
    have e8' : (h ++ IO.lst [.bl true] :: T)[h.length + 9]? = some (.lst (kindsL2 c)) := e8
    have e0' : (h ++ IO.lst [.bl true] :: T)[h.length]? = some (.lst [.bl true]) := e0
    rw [e8', e0', addO_l]
    rfl
  have e' : kdX P [.exc c fs] (h ++ [IO.lst [.bl true]]) = .ok (.ref (h.length + 9)) (h ++ IO.lst [.bl true] :: T) := by
    rw [e, List.length_append]
    simp only [List.length_cons, List.length_nil, List.append_assoc, List.cons_append, List.nil_append]
  unfold suiC
  simp -implicitDefEqProofs only [Z.rr, binP, cmpP, lookK, putK', setK', putF', LINE, reduceCtorEq, ↓reduceIte, Int.reduceEq, Int.reduceLT, Int.reduceLE, Int.reduceAdd, Int.reduceSub, Int.reduceMul, Int.reduceNeg, String.reduceEq, Nat.reduceAdd, Nat.reduceLT, Nat.reduceLeDiff, Z.cr0, G.rg, isx_v hc, e', ea]
  refine ⟨[IO.lst [.bl true]] ++ T ++ [.lst (.bl true :: kindsL2 c)], _, by simp only [List.append_assoc, List.cons_append, List.nil_append, List.length_append, List.length_cons, List.length_nil]; rfl, ?_, ?_⟩
  · rw [← List.append_assoc h, show h.length + (T.length + 1) = (h ++ ([IO.lst [PV.bl true]] ++ T)).length by simp, getA0]; rfl
  · rw [List.all_append, List.all_append, hn]; rfl
theorem caught_wp {vk a b x : PV} (hr : callF P F (n + 3) (.fn "_law_raised") [vk, a, b, x] h = .exc c fs h) (hc : (P.excs.lookup c).isSome = true)
    (h1 : ∀ T p, (h ++ T)[p]? = some (.lst (.bl true :: kindsL2 c)) → Q (.ok (.ref p) (h ++ T))) : WP (callF P F (n + 4) (.fn "_law_caught") [vk, a, b, x] h) Q := by
  obtain ⟨T, p, e, hp, hn⟩ := suite_ok (h := h) (fs := fs) (x0 := some vk) (x1 := some a) (x2 := some b) (x3 := some x) hc
  have hex : exSub c (Str.ofString "HeapError") = true := by unfold exSub; exact decide_eq_true (.inr rfl)
  rw [q__law_caught, r_res]
  simp -implicitDefEqProofs only [Z.rr, binP, cmpP, lookK, putK', setK', putF', LINE, reduceCtorEq, ↓reduceIte, Int.reduceEq, Int.reduceLT, Int.reduceLE, Int.reduceAdd, Int.reduceSub, Int.reduceMul, Int.reduceNeg, String.reduceEq, Nat.reduceAdd, Nat.reduceLT, Nat.reduceLeDiff, Z.cr, G.rg, c__law_caught, t__law_caught_2, t__law_caught_1, t__law_caught_0, hr, ktry_exc, hc]
  refine WS_of (r' := retMore h [some vk, some a, some b, some x, none] 4 (unX 4 (nrX (suiC [some vk, some a, some b, some x, some (.exc c fs)] h)))) ?_ ?_
  · unfold noRaise
    rw [List.map_cons]
    unfold sHandleP
    dsimp only
    rw [if_pos hex]
    rfl
  · rw [e]
    show WS (retMore h _ 4 (.ret (.ref p) (h ++ T))) _
    rw [retMore_ok hn rfl]
    simp -implicitDefEqProofs only [Z.rr, binP, cmpP, lookK, putK', setK', putF', LINE, reduceCtorEq, ↓reduceIte, Int.reduceEq, Int.reduceLT, Int.reduceLE, Int.reduceAdd, Int.reduceSub, Int.reduceMul, Int.reduceNeg, String.reduceEq, Nat.reduceAdd, Nat.reduceLT, Nat.reduceLeDiff, Z.cr, G.rg]
    exact h1 T p hp
end
end G
end
noncomputable section
namespace G
open PySem PySem.Spec PyProof.Rows L2 Z
section
variable {F n : Nat} {h : IH} {Q : R PV → Prop} {a b x : PV}
theorem rz_0 : callF P F (n + 2) (.fn "_law_raised_0") [.int 0, a, b, x] h = .exc "BadKind" [("kind", a)] h := by kernel_rfl
theorem ry_0 : callF P F (n + 3) (.fn "_law_raised") [.int 0, a, b, x] h = .exc "BadKind" [("kind", a)] h := by kernel_rfl
theorem fl_0 (ha : noX a = true) (hb : noX b = true) (hx : noX x = true) (h1 : ∀ T p, (h ++ T)[p]? = some (.lst [a]) → Q (.ok (.ref p) (h ++ T))) : WP (callF P F (n + 4) (.fn "_law_fields") [.int 0, a, b, x] h) Q := by
  rw [q__law_fields, r_res]
  simp -implicitDefEqProofs only [Z.rr, binP, cmpP, lookK, putK', setK', putF', LINE, reduceCtorEq, ↓reduceIte, Int.reduceEq, Int.reduceLT, Int.reduceLE, Int.reduceAdd, Int.reduceSub, Int.reduceMul, Int.reduceNeg, String.reduceEq, Nat.reduceAdd, Nat.reduceLT, Nat.reduceLeDiff, Z.cr, G.rg, c__law_fields, t__law_fields_2, t__law_fields_1, t__law_fields_0, q__law_fields_0, Z.r_res, c__law_fields_0, t__law_fields_0_3, t__law_fields_0_2, t__law_fields_0_1, t__law_fields_0_0, rz_0, ktry_exc]
  refine WS_of (r' := retMore (h ++ [IO.lst []]) [some (.int 0), some a, some b, some x, some (.ref h.length), none] 5 (.nx (([some (.int 0), some a, some b, some x, some (.ref h.length), none].set 5 none).set 4 (some (.ref (h ++ [IO.lst []]).length))) (h ++ [IO.lst []] ++ [IO.lst [a]]))) (by kernel_rfl) ?_
  rw [retMore_nx (by simp only [noXo, noXs, Bool.and_true, ha, hb, hx, List.all_cons, List.all_nil, Bool.and_self]) rfl]
  simp -implicitDefEqProofs only [Z.rr, binP, cmpP, lookK, putK', setK', putF', LINE, reduceCtorEq, ↓reduceIte, Int.reduceEq, Int.reduceLT, Int.reduceLE, Int.reduceAdd, Int.reduceSub, Int.reduceMul, Int.reduceNeg, String.reduceEq, Nat.reduceAdd, Nat.reduceLT, Nat.reduceLeDiff, Z.cr, G.rg]
  exact h1 [IO.lst [], IO.lst [a]] (h.length + 1) (by rw [getA]; rfl)
theorem rz_1 : callF P F (n + 2) (.fn "_law_raised_0") [.int 1, a, b, x] h = .exc "BadWidth" [("width", a)] h := by kernel_rfl
theorem ry_1 : callF P F (n + 3) (.fn "_law_raised") [.int 1, a, b, x] h = .exc "BadWidth" [("width", a)] h := by kernel_rfl
theorem fl_1 (ha : noX a = true) (hb : noX b = true) (hx : noX x = true) (h1 : ∀ T p, (h ++ T)[p]? = some (.lst [a]) → Q (.ok (.ref p) (h ++ T))) : WP (callF P F (n + 4) (.fn "_law_fields") [.int 1, a, b, x] h) Q := by
  rw [q__law_fields, r_res]
  simp -implicitDefEqProofs only [Z.rr, binP, cmpP, lookK, putK', setK', putF', LINE, reduceCtorEq, ↓reduceIte, Int.reduceEq, Int.reduceLT, Int.reduceLE, Int.reduceAdd, Int.reduceSub, Int.reduceMul, Int.reduceNeg, String.reduceEq, Nat.reduceAdd, Nat.reduceLT, Nat.reduceLeDiff, Z.cr, G.rg, c__law_fields, t__law_fields_2, t__law_fields_1, t__law_fields_0, q__law_fields_0, Z.r_res, c__law_fields_0, t__law_fields_0_3, t__law_fields_0_2, t__law_fields_0_1, t__law_fields_0_0, rz_1, ktry_exc]
  refine WS_of (r' := retMore (h ++ [IO.lst []]) [some (.int 1), some a, some b, some x, some (.ref h.length), none] 5 (.nx (([some (.int 1), some a, some b, some x, some (.ref h.length), none].set 5 none).set 4 (some (.ref (h ++ [IO.lst []]).length))) (h ++ [IO.lst []] ++ [IO.lst [a]]))) (by kernel_rfl) ?_
  rw [retMore_nx (by simp only [noXo, noXs, Bool.and_true, ha, hb, hx, List.all_cons, List.all_nil, Bool.and_self]) rfl]
  simp -implicitDefEqProofs only [Z.rr, binP, cmpP, lookK, putK', setK', putF', LINE, reduceCtorEq, ↓reduceIte, Int.reduceEq, Int.reduceLT, Int.reduceLE, Int.reduceAdd, Int.reduceSub, Int.reduceMul, Int.reduceNeg, String.reduceEq, Nat.reduceAdd, Nat.reduceLT, Nat.reduceLeDiff, Z.cr, G.rg]
  exact h1 [IO.lst [], IO.lst [a]] (h.length + 1) (by rw [getA]; rfl)
theorem rz_2 : callF P F (n + 2) (.fn "_law_raised_0") [.int 2, a, b, x] h = .exc "BadLine" [("line", a)] h := by kernel_rfl
theorem ry_2 : callF P F (n + 3) (.fn "_law_raised") [.int 2, a, b, x] h = .exc "BadLine" [("line", a)] h := by kernel_rfl
theorem fl_2 (ha : noX a = true) (hb : noX b = true) (hx : noX x = true) (h1 : ∀ T p, (h ++ T)[p]? = some (.lst [a]) → Q (.ok (.ref p) (h ++ T))) : WP (callF P F (n + 4) (.fn "_law_fields") [.int 2, a, b, x] h) Q := by
  rw [q__law_fields, r_res]
  simp -implicitDefEqProofs only [Z.rr, binP, cmpP, lookK, putK', setK', putF', LINE, reduceCtorEq, ↓reduceIte, Int.reduceEq, Int.reduceLT, Int.reduceLE, Int.reduceAdd, Int.reduceSub, Int.reduceMul, Int.reduceNeg, String.reduceEq, Nat.reduceAdd, Nat.reduceLT, Nat.reduceLeDiff, Z.cr, G.rg, c__law_fields, t__law_fields_2, t__law_fields_1, t__law_fields_0, q__law_fields_0, Z.r_res, c__law_fields_0, t__law_fields_0_3, t__law_fields_0_2, t__law_fields_0_1, t__law_fields_0_0, rz_2, ktry_exc]
  refine WS_of (r' := retMore (h ++ [IO.lst []]) [some (.int 2), some a, some b, some x, some (.ref h.length), none] 5 (.nx (([some (.int 2), some a, some b, some x, some (.ref h.length), none].set 5 none).set 4 (some (.ref (h ++ [IO.lst []]).length))) (h ++ [IO.lst []] ++ [IO.lst [a]]))) (by kernel_rfl) ?_
  rw [retMore_nx (by simp only [noXo, noXs, Bool.and_true, ha, hb, hx, List.all_cons, List.all_nil, Bool.and_self]) rfl]
  simp -implicitDefEqProofs only [Z.rr, binP, cmpP, lookK, putK', setK', putF', LINE, reduceCtorEq, ↓reduceIte, Int.reduceEq, Int.reduceLT, Int.reduceLE, Int.reduceAdd, Int.reduceSub, Int.reduceMul, Int.reduceNeg, String.reduceEq, Nat.reduceAdd, Nat.reduceLT, Nat.reduceLeDiff, Z.cr, G.rg]
  exact h1 [IO.lst [], IO.lst [a]] (h.length + 1) (by rw [getA]; rfl)
theorem rz_3 : callF P F (n + 2) (.fn "_law_raised_0") [.int 3, a, b, x] h = .exc "Refused" [("line", a)] h := by kernel_rfl
theorem ry_3 : callF P F (n + 3) (.fn "_law_raised") [.int 3, a, b, x] h = .exc "Refused" [("line", a)] h := by kernel_rfl
theorem fl_3 (ha : noX a = true) (hb : noX b = true) (hx : noX x = true) (h1 : ∀ T p, (h ++ T)[p]? = some (.lst [a]) → Q (.ok (.ref p) (h ++ T))) : WP (callF P F (n + 4) (.fn "_law_fields") [.int 3, a, b, x] h) Q := by
  rw [q__law_fields, r_res]
  simp -implicitDefEqProofs only [Z.rr, binP, cmpP, lookK, putK', setK', putF', LINE, reduceCtorEq, ↓reduceIte, Int.reduceEq, Int.reduceLT, Int.reduceLE, Int.reduceAdd, Int.reduceSub, Int.reduceMul, Int.reduceNeg, String.reduceEq, Nat.reduceAdd, Nat.reduceLT, Nat.reduceLeDiff, Z.cr, G.rg, c__law_fields, t__law_fields_2, t__law_fields_1, t__law_fields_0, q__law_fields_0, Z.r_res, c__law_fields_0, t__law_fields_0_3, t__law_fields_0_2, t__law_fields_0_1, t__law_fields_0_0, rz_3, ktry_exc]
  refine WS_of (r' := retMore (h ++ [IO.lst []]) [some (.int 3), some a, some b, some x, some (.ref h.length), none] 5 (.nx (([some (.int 3), some a, some b, some x, some (.ref h.length), none].set 5 none).set 4 (some (.ref (h ++ [IO.lst []]).length))) (h ++ [IO.lst []] ++ [IO.lst [a]]))) (by kernel_rfl) ?_
  rw [retMore_nx (by simp only [noXo, noXs, Bool.and_true, ha, hb, hx, List.all_cons, List.all_nil, Bool.and_self]) rfl]
  simp -implicitDefEqProofs only [Z.rr, binP, cmpP, lookK, putK', setK', putF', LINE, reduceCtorEq, ↓reduceIte, Int.reduceEq, Int.reduceLT, Int.reduceLE, Int.reduceAdd, Int.reduceSub, Int.reduceMul, Int.reduceNeg, String.reduceEq, Nat.reduceAdd, Nat.reduceLT, Nat.reduceLeDiff, Z.cr, G.rg]
  exact h1 [IO.lst [], IO.lst [a]] (h.length + 1) (by rw [getA]; rfl)
theorem rz_4 : callF P F (n + 2) (.fn "_law_raised_0") [.int 4, a, b, x] h = .exc "BadItem" [("index", a)] h := by kernel_rfl
theorem ry_4 : callF P F (n + 3) (.fn "_law_raised") [.int 4, a, b, x] h = .exc "BadItem" [("index", a)] h := by kernel_rfl
theorem fl_4 (ha : noX a = true) (hb : noX b = true) (hx : noX x = true) (h1 : ∀ T p, (h ++ T)[p]? = some (.lst [a]) → Q (.ok (.ref p) (h ++ T))) : WP (callF P F (n + 4) (.fn "_law_fields") [.int 4, a, b, x] h) Q := by
  rw [q__law_fields, r_res]
  simp -implicitDefEqProofs only [Z.rr, binP, cmpP, lookK, putK', setK', putF', LINE, reduceCtorEq, ↓reduceIte, Int.reduceEq, Int.reduceLT, Int.reduceLE, Int.reduceAdd, Int.reduceSub, Int.reduceMul, Int.reduceNeg, String.reduceEq, Nat.reduceAdd, Nat.reduceLT, Nat.reduceLeDiff, Z.cr, G.rg, c__law_fields, t__law_fields_2, t__law_fields_1, t__law_fields_0, q__law_fields_0, Z.r_res, c__law_fields_0, t__law_fields_0_3, t__law_fields_0_2, t__law_fields_0_1, t__law_fields_0_0, rz_4, ktry_exc]
  refine WS_of (r' := retMore (h ++ [IO.lst []]) [some (.int 4), some a, some b, some x, some (.ref h.length), none] 5 (.nx (([some (.int 4), some a, some b, some x, some (.ref h.length), none].set 5 none).set 4 (some (.ref (h ++ [IO.lst []]).length))) (h ++ [IO.lst []] ++ [IO.lst [a]]))) (by kernel_rfl) ?_
  rw [retMore_nx (by simp only [noXo, noXs, Bool.and_true, ha, hb, hx, List.all_cons, List.all_nil, Bool.and_self]) rfl]
  simp -implicitDefEqProofs only [Z.rr, binP, cmpP, lookK, putK', setK', putF', LINE, reduceCtorEq, ↓reduceIte, Int.reduceEq, Int.reduceLT, Int.reduceLE, Int.reduceAdd, Int.reduceSub, Int.reduceMul, Int.reduceNeg, String.reduceEq, Nat.reduceAdd, Nat.reduceLT, Nat.reduceLeDiff, Z.cr, G.rg]
  exact h1 [IO.lst [], IO.lst [a]] (h.length + 1) (by rw [getA]; rfl)
theorem rz_5 : callF P F (n + 2) (.fn "_law_raised_0") [.int 5, a, b, x] h = .exc "BadCase" [("what", a)] h := by kernel_rfl
theorem ry_5 : callF P F (n + 3) (.fn "_law_raised") [.int 5, a, b, x] h = .exc "BadCase" [("what", a)] h := by kernel_rfl
theorem fl_5 (ha : noX a = true) (hb : noX b = true) (hx : noX x = true) (h1 : ∀ T p, (h ++ T)[p]? = some (.lst [a]) → Q (.ok (.ref p) (h ++ T))) : WP (callF P F (n + 4) (.fn "_law_fields") [.int 5, a, b, x] h) Q := by
  rw [q__law_fields, r_res]
  simp -implicitDefEqProofs only [Z.rr, binP, cmpP, lookK, putK', setK', putF', LINE, reduceCtorEq, ↓reduceIte, Int.reduceEq, Int.reduceLT, Int.reduceLE, Int.reduceAdd, Int.reduceSub, Int.reduceMul, Int.reduceNeg, String.reduceEq, Nat.reduceAdd, Nat.reduceLT, Nat.reduceLeDiff, Z.cr, G.rg, c__law_fields, t__law_fields_2, t__law_fields_1, t__law_fields_0, q__law_fields_0, Z.r_res, c__law_fields_0, t__law_fields_0_3, t__law_fields_0_2, t__law_fields_0_1, t__law_fields_0_0, rz_5, ktry_exc]
  refine WS_of (r' := retMore (h ++ [IO.lst []]) [some (.int 5), some a, some b, some x, some (.ref h.length), none] 5 (.nx (([some (.int 5), some a, some b, some x, some (.ref h.length), none].set 5 none).set 4 (some (.ref (h ++ [IO.lst []]).length))) (h ++ [IO.lst []] ++ [IO.lst [a]]))) (by kernel_rfl) ?_
  rw [retMore_nx (by simp only [noXo, noXs, Bool.and_true, ha, hb, hx, List.all_cons, List.all_nil, Bool.and_self]) rfl]
  simp -implicitDefEqProofs only [Z.rr, binP, cmpP, lookK, putK', setK', putF', LINE, reduceCtorEq, ↓reduceIte, Int.reduceEq, Int.reduceLT, Int.reduceLE, Int.reduceAdd, Int.reduceSub, Int.reduceMul, Int.reduceNeg, String.reduceEq, Nat.reduceAdd, Nat.reduceLT, Nat.reduceLeDiff, Z.cr, G.rg]
  exact h1 [IO.lst [], IO.lst [a]] (h.length + 1) (by rw [getA]; rfl)
theorem rz_6 : callF P F (n + 2) (.fn "_law_raised_0") [.int 6, a, b, x] h = .exc "BadPromise" [("promise", a)] h := by kernel_rfl
theorem ry_6 : callF P F (n + 3) (.fn "_law_raised") [.int 6, a, b, x] h = .exc "BadPromise" [("promise", a)] h := by kernel_rfl
theorem fl_6 (ha : noX a = true) (hb : noX b = true) (hx : noX x = true) (h1 : ∀ T p, (h ++ T)[p]? = some (.lst [a]) → Q (.ok (.ref p) (h ++ T))) : WP (callF P F (n + 4) (.fn "_law_fields") [.int 6, a, b, x] h) Q := by
  rw [q__law_fields, r_res]
  simp -implicitDefEqProofs only [Z.rr, binP, cmpP, lookK, putK', setK', putF', LINE, reduceCtorEq, ↓reduceIte, Int.reduceEq, Int.reduceLT, Int.reduceLE, Int.reduceAdd, Int.reduceSub, Int.reduceMul, Int.reduceNeg, String.reduceEq, Nat.reduceAdd, Nat.reduceLT, Nat.reduceLeDiff, Z.cr, G.rg, c__law_fields, t__law_fields_2, t__law_fields_1, t__law_fields_0, q__law_fields_0, Z.r_res, c__law_fields_0, t__law_fields_0_3, t__law_fields_0_2, t__law_fields_0_1, t__law_fields_0_0, rz_6, ktry_exc]
  refine WS_of (r' := retMore (h ++ [IO.lst []]) [some (.int 6), some a, some b, some x, some (.ref h.length), none] 5 (.nx (([some (.int 6), some a, some b, some x, some (.ref h.length), none].set 5 none).set 4 (some (.ref (h ++ [IO.lst []]).length))) (h ++ [IO.lst []] ++ [IO.lst [a]]))) (by kernel_rfl) ?_
  rw [retMore_nx (by simp only [noXo, noXs, Bool.and_true, ha, hb, hx, List.all_cons, List.all_nil, Bool.and_self]) rfl]
  simp -implicitDefEqProofs only [Z.rr, binP, cmpP, lookK, putK', setK', putF', LINE, reduceCtorEq, ↓reduceIte, Int.reduceEq, Int.reduceLT, Int.reduceLE, Int.reduceAdd, Int.reduceSub, Int.reduceMul, Int.reduceNeg, String.reduceEq, Nat.reduceAdd, Nat.reduceLT, Nat.reduceLeDiff, Z.cr, G.rg]
  exact h1 [IO.lst [], IO.lst [a]] (h.length + 1) (by rw [getA]; rfl)
theorem rz_7 : callF P F (n + 2) (.fn "_law_raised_0") [.int 7, a, b, x] h = .exc "NoLine" [("line", a)] h := by kernel_rfl
theorem ry_7 : callF P F (n + 3) (.fn "_law_raised") [.int 7, a, b, x] h = .exc "NoLine" [("line", a)] h := by kernel_rfl
theorem fl_7 (ha : noX a = true) (hb : noX b = true) (hx : noX x = true) (h1 : ∀ T p, (h ++ T)[p]? = some (.lst [a]) → Q (.ok (.ref p) (h ++ T))) : WP (callF P F (n + 4) (.fn "_law_fields") [.int 7, a, b, x] h) Q := by
  rw [q__law_fields, r_res]
  simp -implicitDefEqProofs only [Z.rr, binP, cmpP, lookK, putK', setK', putF', LINE, reduceCtorEq, ↓reduceIte, Int.reduceEq, Int.reduceLT, Int.reduceLE, Int.reduceAdd, Int.reduceSub, Int.reduceMul, Int.reduceNeg, String.reduceEq, Nat.reduceAdd, Nat.reduceLT, Nat.reduceLeDiff, Z.cr, G.rg, c__law_fields, t__law_fields_2, t__law_fields_1, t__law_fields_0, q__law_fields_0, Z.r_res, c__law_fields_0, t__law_fields_0_3, t__law_fields_0_2, t__law_fields_0_1, t__law_fields_0_0, rz_7, ktry_exc]
  refine WS_of (r' := retMore (h ++ [IO.lst []]) [some (.int 7), some a, some b, some x, some (.ref h.length), none] 5 (.nx (([some (.int 7), some a, some b, some x, some (.ref h.length), none].set 5 none).set 4 (some (.ref (h ++ [IO.lst []]).length))) (h ++ [IO.lst []] ++ [IO.lst [a]]))) (by kernel_rfl) ?_
  rw [retMore_nx (by simp only [noXo, noXs, Bool.and_true, ha, hb, hx, List.all_cons, List.all_nil, Bool.and_self]) rfl]
  simp -implicitDefEqProofs only [Z.rr, binP, cmpP, lookK, putK', setK', putF', LINE, reduceCtorEq, ↓reduceIte, Int.reduceEq, Int.reduceLT, Int.reduceLE, Int.reduceAdd, Int.reduceSub, Int.reduceMul, Int.reduceNeg, String.reduceEq, Nat.reduceAdd, Nat.reduceLT, Nat.reduceLeDiff, Z.cr, G.rg]
  exact h1 [IO.lst [], IO.lst [a]] (h.length + 1) (by rw [getA]; rfl)
theorem rz_8 : callF P F (n + 2) (.fn "_law_raised_1") [.int 8, a, b, x] h = .exc "BadSize" [("n", a)] h := by kernel_rfl
theorem ry_8 : callF P F (n + 3) (.fn "_law_raised") [.int 8, a, b, x] h = .exc "BadSize" [("n", a)] h := by kernel_rfl
theorem fl_8 (ha : noX a = true) (hb : noX b = true) (hx : noX x = true) (h1 : ∀ T p, (h ++ T)[p]? = some (.lst [a]) → Q (.ok (.ref p) (h ++ T))) : WP (callF P F (n + 4) (.fn "_law_fields") [.int 8, a, b, x] h) Q := by
  rw [q__law_fields, r_res]
  simp -implicitDefEqProofs only [Z.rr, binP, cmpP, lookK, putK', setK', putF', LINE, reduceCtorEq, ↓reduceIte, Int.reduceEq, Int.reduceLT, Int.reduceLE, Int.reduceAdd, Int.reduceSub, Int.reduceMul, Int.reduceNeg, String.reduceEq, Nat.reduceAdd, Nat.reduceLT, Nat.reduceLeDiff, Z.cr, G.rg, c__law_fields, t__law_fields_2, t__law_fields_1, t__law_fields_0, q__law_fields_1, Z.r_res, c__law_fields_1, t__law_fields_1_3, t__law_fields_1_2, t__law_fields_1_1, t__law_fields_1_0, rz_8, ktry_exc]
  refine WS_of (r' := retMore (h ++ [IO.lst []]) [some (.int 8), some a, some b, some x, some (.ref h.length), none] 5 (.nx (([some (.int 8), some a, some b, some x, some (.ref h.length), none].set 5 none).set 4 (some (.ref (h ++ [IO.lst []]).length))) (h ++ [IO.lst []] ++ [IO.lst [a]]))) (by kernel_rfl) ?_
  rw [retMore_nx (by simp only [noXo, noXs, Bool.and_true, ha, hb, hx, List.all_cons, List.all_nil, Bool.and_self]) rfl]
  simp -implicitDefEqProofs only [Z.rr, binP, cmpP, lookK, putK', setK', putF', LINE, reduceCtorEq, ↓reduceIte, Int.reduceEq, Int.reduceLT, Int.reduceLE, Int.reduceAdd, Int.reduceSub, Int.reduceMul, Int.reduceNeg, String.reduceEq, Nat.reduceAdd, Nat.reduceLT, Nat.reduceLeDiff, Z.cr, G.rg]
  exact h1 [IO.lst [], IO.lst [a]] (h.length + 1) (by rw [getA]; rfl)
theorem rz_9 : callF P F (n + 2) (.fn "_law_raised_1") [.int 9, a, b, x] h = .exc "OtherKinds" [] h := by kernel_rfl
theorem ry_9 : callF P F (n + 3) (.fn "_law_raised") [.int 9, a, b, x] h = .exc "OtherKinds" [] h := by kernel_rfl
theorem fl_9 (ha : noX a = true) (hb : noX b = true) (hx : noX x = true) (h1 : ∀ T p, (h ++ T)[p]? = some (.lst []) → Q (.ok (.ref p) (h ++ T))) : WP (callF P F (n + 4) (.fn "_law_fields") [.int 9, a, b, x] h) Q := by
  rw [q__law_fields, r_res]
  simp -implicitDefEqProofs only [Z.rr, binP, cmpP, lookK, putK', setK', putF', LINE, reduceCtorEq, ↓reduceIte, Int.reduceEq, Int.reduceLT, Int.reduceLE, Int.reduceAdd, Int.reduceSub, Int.reduceMul, Int.reduceNeg, String.reduceEq, Nat.reduceAdd, Nat.reduceLT, Nat.reduceLeDiff, Z.cr, G.rg, c__law_fields, t__law_fields_2, t__law_fields_1, t__law_fields_0, q__law_fields_1, Z.r_res, c__law_fields_1, t__law_fields_1_3, t__law_fields_1_2, t__law_fields_1_1, t__law_fields_1_0, rz_9, ktry_exc]
  refine WS_of (r' := .nx [some (.int 9), some a, some b, some x, some (.ref (h ++ [IO.lst []]).length), none] (h ++ [IO.lst []] ++ [IO.lst []])) (by kernel_rfl) ?_
  simp -implicitDefEqProofs only [Z.rr, binP, cmpP, lookK, putK', setK', putF', LINE, reduceCtorEq, ↓reduceIte, Int.reduceEq, Int.reduceLT, Int.reduceLE, Int.reduceAdd, Int.reduceSub, Int.reduceMul, Int.reduceNeg, String.reduceEq, Nat.reduceAdd, Nat.reduceLT, Nat.reduceLeDiff, Z.cr, G.rg]
  exact h1 [IO.lst [], IO.lst []] (h.length + 1) (by rw [getA]; rfl)
theorem rz_10 : callF P F (n + 2) (.fn "_law_raised_1") [.int 10, a, b, x] h = .exc "OtherWidths" [] h := by kernel_rfl
theorem ry_10 : callF P F (n + 3) (.fn "_law_raised") [.int 10, a, b, x] h = .exc "OtherWidths" [] h := by kernel_rfl
theorem fl_10 (ha : noX a = true) (hb : noX b = true) (hx : noX x = true) (h1 : ∀ T p, (h ++ T)[p]? = some (.lst []) → Q (.ok (.ref p) (h ++ T))) : WP (callF P F (n + 4) (.fn "_law_fields") [.int 10, a, b, x] h) Q := by
  rw [q__law_fields, r_res]
  simp -implicitDefEqProofs only [Z.rr, binP, cmpP, lookK, putK', setK', putF', LINE, reduceCtorEq, ↓reduceIte, Int.reduceEq, Int.reduceLT, Int.reduceLE, Int.reduceAdd, Int.reduceSub, Int.reduceMul, Int.reduceNeg, String.reduceEq, Nat.reduceAdd, Nat.reduceLT, Nat.reduceLeDiff, Z.cr, G.rg, c__law_fields, t__law_fields_2, t__law_fields_1, t__law_fields_0, q__law_fields_1, Z.r_res, c__law_fields_1, t__law_fields_1_3, t__law_fields_1_2, t__law_fields_1_1, t__law_fields_1_0, rz_10, ktry_exc]
  refine WS_of (r' := .nx [some (.int 10), some a, some b, some x, some (.ref (h ++ [IO.lst []]).length), none] (h ++ [IO.lst []] ++ [IO.lst []])) (by kernel_rfl) ?_
  simp -implicitDefEqProofs only [Z.rr, binP, cmpP, lookK, putK', setK', putF', LINE, reduceCtorEq, ↓reduceIte, Int.reduceEq, Int.reduceLT, Int.reduceLE, Int.reduceAdd, Int.reduceSub, Int.reduceMul, Int.reduceNeg, String.reduceEq, Nat.reduceAdd, Nat.reduceLT, Nat.reduceLeDiff, Z.cr, G.rg]
  exact h1 [IO.lst [], IO.lst []] (h.length + 1) (by rw [getA]; rfl)
theorem rz_11 : callF P F (n + 2) (.fn "_law_raised_1") [.int 11, a, b, x] h = .exc "BadName" [("name", a)] h := by kernel_rfl
theorem ry_11 : callF P F (n + 3) (.fn "_law_raised") [.int 11, a, b, x] h = .exc "BadName" [("name", a)] h := by kernel_rfl
theorem fl_11 (ha : noX a = true) (hb : noX b = true) (hx : noX x = true) (h1 : ∀ T p, (h ++ T)[p]? = some (.lst [a]) → Q (.ok (.ref p) (h ++ T))) : WP (callF P F (n + 4) (.fn "_law_fields") [.int 11, a, b, x] h) Q := by
  rw [q__law_fields, r_res]
  simp -implicitDefEqProofs only [Z.rr, binP, cmpP, lookK, putK', setK', putF', LINE, reduceCtorEq, ↓reduceIte, Int.reduceEq, Int.reduceLT, Int.reduceLE, Int.reduceAdd, Int.reduceSub, Int.reduceMul, Int.reduceNeg, String.reduceEq, Nat.reduceAdd, Nat.reduceLT, Nat.reduceLeDiff, Z.cr, G.rg, c__law_fields, t__law_fields_2, t__law_fields_1, t__law_fields_0, q__law_fields_1, Z.r_res, c__law_fields_1, t__law_fields_1_3, t__law_fields_1_2, t__law_fields_1_1, t__law_fields_1_0, rz_11, ktry_exc]
  refine WS_of (r' := retMore (h ++ [IO.lst []]) [some (.int 11), some a, some b, some x, some (.ref h.length), none] 5 (.nx (([some (.int 11), some a, some b, some x, some (.ref h.length), none].set 5 none).set 4 (some (.ref (h ++ [IO.lst []]).length))) (h ++ [IO.lst []] ++ [IO.lst [a]]))) (by kernel_rfl) ?_
  rw [retMore_nx (by simp only [noXo, noXs, Bool.and_true, ha, hb, hx, List.all_cons, List.all_nil, Bool.and_self]) rfl]
  simp -implicitDefEqProofs only [Z.rr, binP, cmpP, lookK, putK', setK', putF', LINE, reduceCtorEq, ↓reduceIte, Int.reduceEq, Int.reduceLT, Int.reduceLE, Int.reduceAdd, Int.reduceSub, Int.reduceMul, Int.reduceNeg, String.reduceEq, Nat.reduceAdd, Nat.reduceLT, Nat.reduceLeDiff, Z.cr, G.rg]
  exact h1 [IO.lst [], IO.lst [a]] (h.length + 1) (by rw [getA]; rfl)
theorem rz_12 : callF P F (n + 2) (.fn "_law_raised_1") [.int 12, a, b, x] h = .exc "NoDeed" [("name", a)] h := by kernel_rfl
theorem ry_12 : callF P F (n + 3) (.fn "_law_raised") [.int 12, a, b, x] h = .exc "NoDeed" [("name", a)] h := by kernel_rfl
theorem fl_12 (ha : noX a = true) (hb : noX b = true) (hx : noX x = true) (h1 : ∀ T p, (h ++ T)[p]? = some (.lst [a]) → Q (.ok (.ref p) (h ++ T))) : WP (callF P F (n + 4) (.fn "_law_fields") [.int 12, a, b, x] h) Q := by
  rw [q__law_fields, r_res]
  simp -implicitDefEqProofs only [Z.rr, binP, cmpP, lookK, putK', setK', putF', LINE, reduceCtorEq, ↓reduceIte, Int.reduceEq, Int.reduceLT, Int.reduceLE, Int.reduceAdd, Int.reduceSub, Int.reduceMul, Int.reduceNeg, String.reduceEq, Nat.reduceAdd, Nat.reduceLT, Nat.reduceLeDiff, Z.cr, G.rg, c__law_fields, t__law_fields_2, t__law_fields_1, t__law_fields_0, q__law_fields_1, Z.r_res, c__law_fields_1, t__law_fields_1_3, t__law_fields_1_2, t__law_fields_1_1, t__law_fields_1_0, rz_12, ktry_exc]
  refine WS_of (r' := retMore (h ++ [IO.lst []]) [some (.int 12), some a, some b, some x, some (.ref h.length), none] 5 (.nx (([some (.int 12), some a, some b, some x, some (.ref h.length), none].set 5 none).set 4 (some (.ref (h ++ [IO.lst []]).length))) (h ++ [IO.lst []] ++ [IO.lst [a]]))) (by kernel_rfl) ?_
  rw [retMore_nx (by simp only [noXo, noXs, Bool.and_true, ha, hb, hx, List.all_cons, List.all_nil, Bool.and_self]) rfl]
  simp -implicitDefEqProofs only [Z.rr, binP, cmpP, lookK, putK', setK', putF', LINE, reduceCtorEq, ↓reduceIte, Int.reduceEq, Int.reduceLT, Int.reduceLE, Int.reduceAdd, Int.reduceSub, Int.reduceMul, Int.reduceNeg, String.reduceEq, Nat.reduceAdd, Nat.reduceLT, Nat.reduceLeDiff, Z.cr, G.rg]
  exact h1 [IO.lst [], IO.lst [a]] (h.length + 1) (by rw [getA]; rfl)
theorem rz_13 : callF P F (n + 2) (.fn "_law_raised_1") [.int 13, a, b, x] h = .exc "NothingToUndo" [] h := by kernel_rfl
theorem ry_13 : callF P F (n + 3) (.fn "_law_raised") [.int 13, a, b, x] h = .exc "NothingToUndo" [] h := by kernel_rfl
theorem fl_13 (ha : noX a = true) (hb : noX b = true) (hx : noX x = true) (h1 : ∀ T p, (h ++ T)[p]? = some (.lst []) → Q (.ok (.ref p) (h ++ T))) : WP (callF P F (n + 4) (.fn "_law_fields") [.int 13, a, b, x] h) Q := by
  rw [q__law_fields, r_res]
  simp -implicitDefEqProofs only [Z.rr, binP, cmpP, lookK, putK', setK', putF', LINE, reduceCtorEq, ↓reduceIte, Int.reduceEq, Int.reduceLT, Int.reduceLE, Int.reduceAdd, Int.reduceSub, Int.reduceMul, Int.reduceNeg, String.reduceEq, Nat.reduceAdd, Nat.reduceLT, Nat.reduceLeDiff, Z.cr, G.rg, c__law_fields, t__law_fields_2, t__law_fields_1, t__law_fields_0, q__law_fields_1, Z.r_res, c__law_fields_1, t__law_fields_1_3, t__law_fields_1_2, t__law_fields_1_1, t__law_fields_1_0, rz_13, ktry_exc]
  refine WS_of (r' := .nx [some (.int 13), some a, some b, some x, some (.ref (h ++ [IO.lst []]).length), none] (h ++ [IO.lst []] ++ [IO.lst []])) (by kernel_rfl) ?_
  simp -implicitDefEqProofs only [Z.rr, binP, cmpP, lookK, putK', setK', putF', LINE, reduceCtorEq, ↓reduceIte, Int.reduceEq, Int.reduceLT, Int.reduceLE, Int.reduceAdd, Int.reduceSub, Int.reduceMul, Int.reduceNeg, String.reduceEq, Nat.reduceAdd, Nat.reduceLT, Nat.reduceLeDiff, Z.cr, G.rg]
  exact h1 [IO.lst [], IO.lst []] (h.length + 1) (by rw [getA]; rfl)
theorem rz_14 : callF P F (n + 2) (.fn "_law_raised_1") [.int 14, a, b, x] h = .exc "TooMany" [("what", a), ("many", b), ("most", x)] h := by kernel_rfl
theorem ry_14 : callF P F (n + 3) (.fn "_law_raised") [.int 14, a, b, x] h = .exc "TooMany" [("what", a), ("many", b), ("most", x)] h := by kernel_rfl
theorem fl_14 (ha : noX a = true) (hb : noX b = true) (hx : noX x = true) (h1 : ∀ T p, (h ++ T)[p]? = some (.lst [a, b, x]) → Q (.ok (.ref p) (h ++ T))) : WP (callF P F (n + 4) (.fn "_law_fields") [.int 14, a, b, x] h) Q := by
  rw [q__law_fields, r_res]
  simp -implicitDefEqProofs only [Z.rr, binP, cmpP, lookK, putK', setK', putF', LINE, reduceCtorEq, ↓reduceIte, Int.reduceEq, Int.reduceLT, Int.reduceLE, Int.reduceAdd, Int.reduceSub, Int.reduceMul, Int.reduceNeg, String.reduceEq, Nat.reduceAdd, Nat.reduceLT, Nat.reduceLeDiff, Z.cr, G.rg, c__law_fields, t__law_fields_2, t__law_fields_1, t__law_fields_0, q__law_fields_1, Z.r_res, c__law_fields_1, t__law_fields_1_3, t__law_fields_1_2, t__law_fields_1_1, t__law_fields_1_0, rz_14, ktry_exc]
  refine WS_of (r' := retMore (h ++ [IO.lst []]) [some (.int 14), some a, some b, some x, some (.ref h.length), none] 5 (.nx (([some (.int 14), some a, some b, some x, some (.ref h.length), none].set 5 none).set 4 (some (.ref (h ++ [IO.lst []]).length))) (h ++ [IO.lst []] ++ [IO.lst [a, b, x]]))) (by kernel_rfl) ?_
  rw [retMore_nx (by simp only [noXo, noXs, Bool.and_true, ha, hb, hx, List.all_cons, List.all_nil, Bool.and_self]) rfl]
  simp -implicitDefEqProofs only [Z.rr, binP, cmpP, lookK, putK', setK', putF', LINE, reduceCtorEq, ↓reduceIte, Int.reduceEq, Int.reduceLT, Int.reduceLE, Int.reduceAdd, Int.reduceSub, Int.reduceMul, Int.reduceNeg, String.reduceEq, Nat.reduceAdd, Nat.reduceLT, Nat.reduceLeDiff, Z.cr, G.rg]
  exact h1 [IO.lst [], IO.lst [a, b, x]] (h.length + 1) (by rw [getA]; rfl)
def szN : List Nat := [1, 1, 1, 1, 1, 1, 1, 1, 1, 0, 0, 1, 1, 0, 3]
def lawL (k : Nat) : List PV := .bl true :: (List.range 15).map fun j => .bl (decide (j = k))
theorem each (k : Nat) (hk : k < 15) (ha : noX a = true) (hb : noX b = true) (hx : noX x = true) :
    (∀ Q : R PV → Prop, (∀ T p, (h ++ T)[p]? = some (.lst ([a, b, x].take (szN.getD k 0))) → Q (.ok (.ref p) (h ++ T))) → WP (callF P F (n + 4) (.fn "_law_fields") [.int (k : Nat), a, b, x] h) Q) ∧
    ∀ h : IH, ∀ Q : R PV → Prop, (∀ T p, (h ++ T)[p]? = some (.lst (lawL k)) → Q (.ok (.ref p) (h ++ T))) → WP (callF P F (n + 4) (.fn "_law_caught") [.int (k : Nat), a, b, x] h) Q := by
  obtain rfl | rfl | rfl | rfl | rfl | rfl | rfl | rfl | rfl | rfl | rfl | rfl | rfl | rfl | rfl : k = 0 ∨ k = 1 ∨ k = 2 ∨ k = 3 ∨ k = 4 ∨ k = 5 ∨ k = 6 ∨ k = 7 ∨ k = 8 ∨ k = 9 ∨ k = 10 ∨ k = 11 ∨ k = 12 ∨ k = 13 ∨ k = 14 := by omega
  · exact ⟨fun Q h1 => fl_0 ha hb hx h1, fun h Q h1 => caught_wp (ry_0 (n := n)) (by kernel_rfl) (fun T p e => h1 T p (by rw [e, show lawL 0 = PV.bl true :: kindsL2 "BadKind" by kernel_rfl]))⟩
  · exact ⟨fun Q h1 => fl_1 ha hb hx h1, fun h Q h1 => caught_wp (ry_1 (n := n)) (by kernel_rfl) (fun T p e => h1 T p (by rw [e, show lawL 1 = PV.bl true :: kindsL2 "BadWidth" by kernel_rfl]))⟩
  · exact ⟨fun Q h1 => fl_2 ha hb hx h1, fun h Q h1 => caught_wp (ry_2 (n := n)) (by kernel_rfl) (fun T p e => h1 T p (by rw [e, show lawL 2 = PV.bl true :: kindsL2 "BadLine" by kernel_rfl]))⟩
  · exact ⟨fun Q h1 => fl_3 ha hb hx h1, fun h Q h1 => caught_wp (ry_3 (n := n)) (by kernel_rfl) (fun T p e => h1 T p (by rw [e, show lawL 3 = PV.bl true :: kindsL2 "Refused" by kernel_rfl]))⟩
  · exact ⟨fun Q h1 => fl_4 ha hb hx h1, fun h Q h1 => caught_wp (ry_4 (n := n)) (by kernel_rfl) (fun T p e => h1 T p (by rw [e, show lawL 4 = PV.bl true :: kindsL2 "BadItem" by kernel_rfl]))⟩
  · exact ⟨fun Q h1 => fl_5 ha hb hx h1, fun h Q h1 => caught_wp (ry_5 (n := n)) (by kernel_rfl) (fun T p e => h1 T p (by rw [e, show lawL 5 = PV.bl true :: kindsL2 "BadCase" by kernel_rfl]))⟩
  · exact ⟨fun Q h1 => fl_6 ha hb hx h1, fun h Q h1 => caught_wp (ry_6 (n := n)) (by kernel_rfl) (fun T p e => h1 T p (by rw [e, show lawL 6 = PV.bl true :: kindsL2 "BadPromise" by kernel_rfl]))⟩
  · exact ⟨fun Q h1 => fl_7 ha hb hx h1, fun h Q h1 => caught_wp (ry_7 (n := n)) (by kernel_rfl) (fun T p e => h1 T p (by rw [e, show lawL 7 = PV.bl true :: kindsL2 "NoLine" by kernel_rfl]))⟩
  · exact ⟨fun Q h1 => fl_8 ha hb hx h1, fun h Q h1 => caught_wp (ry_8 (n := n)) (by kernel_rfl) (fun T p e => h1 T p (by rw [e, show lawL 8 = PV.bl true :: kindsL2 "BadSize" by kernel_rfl]))⟩
  · exact ⟨fun Q h1 => fl_9 ha hb hx h1, fun h Q h1 => caught_wp (ry_9 (n := n)) (by kernel_rfl) (fun T p e => h1 T p (by rw [e, show lawL 9 = PV.bl true :: kindsL2 "OtherKinds" by kernel_rfl]))⟩
  · exact ⟨fun Q h1 => fl_10 ha hb hx h1, fun h Q h1 => caught_wp (ry_10 (n := n)) (by kernel_rfl) (fun T p e => h1 T p (by rw [e, show lawL 10 = PV.bl true :: kindsL2 "OtherWidths" by kernel_rfl]))⟩
  · exact ⟨fun Q h1 => fl_11 ha hb hx h1, fun h Q h1 => caught_wp (ry_11 (n := n)) (by kernel_rfl) (fun T p e => h1 T p (by rw [e, show lawL 11 = PV.bl true :: kindsL2 "BadName" by kernel_rfl]))⟩
  · exact ⟨fun Q h1 => fl_12 ha hb hx h1, fun h Q h1 => caught_wp (ry_12 (n := n)) (by kernel_rfl) (fun T p e => h1 T p (by rw [e, show lawL 12 = PV.bl true :: kindsL2 "NoDeed" by kernel_rfl]))⟩
  · exact ⟨fun Q h1 => fl_13 ha hb hx h1, fun h Q h1 => caught_wp (ry_13 (n := n)) (by kernel_rfl) (fun T p e => h1 T p (by rw [e, show lawL 13 = PV.bl true :: kindsL2 "NothingToUndo" by kernel_rfl]))⟩
  · exact ⟨fun Q h1 => fl_14 ha hb hx h1, fun h Q h1 => caught_wp (ry_14 (n := n)) (by kernel_rfl) (fun T p e => h1 T p (by rw [e, show lawL 14 = PV.bl true :: kindsL2 "TooMany" by kernel_rfl]))⟩
end
end G
end
noncomputable section
namespace G
open PySem PySem.Spec PyProof.Rows L2 Z
def slO (o : Option IO) (lo hi : Option Int) (h : IH) : R PV := match o with
  | some (.lst xs) => .ok (.ref h.length) (h ++ [.lst (cutP xs lo hi)])
  | some (.flst xs) => .ok (.ref h.length) (h ++ [.lst (cutP xs lo hi)])
  | _ => .fail
theorem sl_ref {n : Nat} {lo hi : Option Int} {h : IH} : slP (.ref n) lo hi h = slO h[n]? lo hi h := by
  unfold slP slO getL; dsimp only
  cases h[n]? with
  | none => rfl
  | some o => cases o <;> rfl
theorem slO_l {xs : List PV} {lo hi : Option Int} {h : IH} : slO (some (.lst xs)) lo hi h = .ok (.ref h.length) (h ++ [.lst (cutP xs lo hi)]) := rfl
theorem cut_to {xs : List PV} {a : Nat} (ha : a ≤ xs.length) : cutP xs none (some (a : Int)) = xs.take a := by
  have := cut_nat xs 0 a
  rw [List.drop_zero, Nat.sub_zero] at this
  rw [← this]
  unfold cutP
  rfl
theorem rng_at {lo c : Int} {m i : Nat} {h : IH} : (Src.rng lo c m).at_ i h = some (if i < m then some (.int (lo + (i : Int) * c)) else none) := rfl
section
variable {F n : Nat} {h X t : IH} {Q : R PV → Prop} {ns : List Int} {k : Int} {L bag : IO} {QS : RS → Prop}
def TD (h : IH) (v : PV) : Prop := ∃ d, toD h 11 v = some d ∧ d.canLay0 = true ∧ d.depth ≤ 2 ∧ PyData.eqv d d = true
theorem Th.td {v : PV} (hv : Th (X.length + 2) t v) : TD (X ++ L :: bag :: t) v := by
  have lst : ∀ {j : Nat} {l : List PV} {ds : List PyData}, t[j]? = some (.lst l) → mapO (toD (X ++ L :: bag :: t) 10) l = some ds → toD (X ++ L :: bag :: t) 11 (.ref (X.length + 2 + j)) = some (.list ds) := fun {j l ds} e em => by
    show (match getL (X ++ L :: bag :: t) (X.length + 2 + j) with | some xs => (mapO (toD _ 10) xs).map PyData.list | none => none) = _
    have : getL (X ++ L :: bag :: t) (X.length + 2 + j) = some l := by
      unfold getL
      rw [show X.length + 2 + j = X.length + (j + 1 + 1) by omega, getA, List.getElem?_cons_succ, List.getElem?_cons_succ, e]
    rw [this]; dsimp only; rw [em]; rfl
  cases hv with
  | int i => exact ⟨.int i, rfl, rfl, by simp [PyData.depth], by simp [PyData.eqv]⟩
  | s0 => exact ⟨.str "", rfl, by decide +kernel, by decide, by simp [PyData.eqv]⟩
  | s1 => exact ⟨.str "p1", rfl, by decide +kernel, by decide, by simp [PyData.eqv]⟩
  | non => exact ⟨.none, rfl, rfl, by decide, by simp [PyData.eqv]⟩
  | bl => exact ⟨.bool true, rfl, rfl, by decide, by simp [PyData.eqv]⟩
  | tu => exact ⟨.tuple [.int 1, .str "a"], rfl, by decide +kernel, by decide, by simp [PyData.eqv, PyData.eqvAll]⟩
  | e0 e => exact ⟨.list [], lst e rfl, by decide, by decide, by simp [PyData.eqv, PyData.eqvAll]⟩
  | e3 e => exact ⟨.list [.int 3], lst e rfl, by decide, by decide, by simp [PyData.eqv, PyData.eqvAll]⟩
theorem eqTh {p q : Nat} {vs : List PV} (e1 : h[p]? = some (.lst vs)) (e2 : h[q]? = some (.lst vs)) (hv : ∀ v ∈ vs, TD h v) : eqP (.ref p) (.ref q) h = .ok true h := by
  have key : ∀ vs : List PV, (∀ v ∈ vs, TD h v) → ∃ ds, mapO (toD h 11) vs = some ds ∧ PyData.canLayAll0 ds = true ∧ PyData.depthAll ds ≤ 2 ∧ PyData.eqvAll ds ds = true := by
    intro vs
    induction vs with
    | nil => exact fun _ => ⟨[], rfl, rfl, by simp [PyData.depthAll], by simp [PyData.eqvAll]⟩
    | cons v r ih =>
      intro hv
      obtain ⟨d, a1, a2, a3, a4⟩ := hv v List.mem_cons_self
      obtain ⟨ds, b1, b2, b3, b4⟩ := ih fun u hu => hv u (List.mem_cons_of_mem _ hu)
      refine ⟨d :: ds, ?_, ?_, ?_, ?_⟩
      · unfold mapO; rw [a1]; dsimp only; rw [b1]; rfl
      · simp only [PyData.canLayAll0, a2, b2, Bool.and_self]
      · simp only [PyData.depthAll]; omega
      · simp only [PyData.eqvAll, a4, b4, Bool.and_self]
  obtain ⟨ds, b1, b2, b3, b4⟩ := key vs hv
  have tl : ∀ {p : Nat}, h[p]? = some (.lst vs) → toD h DEEP (.ref p) = some (.list ds) := fun {p} e => by
    show (match getL h p with | some xs => (mapO (toD _ 11) xs).map PyData.list | none => none) = _
    have : getL h p = some vs := by unfold getL; rw [e]
    rw [this]; dsimp only; rw [b1]; rfl
  have sh : SeqAt.shaped (.list ds) = true := by
    unfold SeqAt.shaped
    simp only [PyData.canLay0, PyData.depth, b2, Bool.true_and, decide_eq_true_eq]
    exact decide_eq_true (by omega)
  refine (eq_D (tl e1) (tl e2) sh sh).trans ?_
  simp only [PyData.eqv, b4]
theorem TD_bl {b : Bool} : TD h (.bl b) := ⟨.bool b, rfl, rfl, by simp [PyData.depth], by simp [PyData.eqv]⟩
theorem lawL_td {k : Nat} : ∀ v ∈ lawL k, TD h v := fun v hv => by
  unfold lawL at hv
  rcases List.mem_cons.mp hv with rfl | hv
  · exact TD_bl
  · obtain ⟨j, _, rfl⟩ := List.mem_map.mp hv
    exact TD_bl
def szV : List PV := szN.map fun j => .int (j : Nat)
theorem turn_ok {x3 x4 x5 x6 x7 : Option PV} {i : Nat} (hF : 100 < F) (hi : i < 15) (B : BG ns X.length k L bag) (k0 : 0 ≤ k) (k1 : k < 10 ^ 9) (hs : t[0]? = some (.lst szV))
    (h1 : ∀ x4 x5 x6 x7 bag' t', BG ns X.length (k + 6) L bag' → (t ++ t')[0]? = some (.lst szV) → QS (.nx [x3, some (.ref (X.length + 1)), some (.ref (X.length + 2)), some (.int (i : Nat)), x4, x5, x6, x7] (X ++ (L :: bag' :: (t ++ t'))))) :
    WS (sS (t_law_4 ⟨P, callF P F (n + 8), F⟩ F) [x3, some (.ref (X.length + 1)), some (.ref (X.length + 2)), some (.int (i : Nat)), x4, x5, x6, x7] (X ++ (L :: bag :: t))) QS := by
  simp -implicitDefEqProofs only [Z.rr, binP, cmpP, lookK, putK', setK', putF', LINE, reduceCtorEq, ↓reduceIte, Int.reduceEq, Int.reduceLT, Int.reduceLE, Int.reduceAdd, Int.reduceSub, Int.reduceMul, Int.reduceNeg, String.reduceEq, Nat.reduceAdd, Nat.reduceLT, Nat.reduceLeDiff, Z.cr, G.rg, t_law_4]
  refine thing_wp (n := n + 6) B k0 (by omega) (fun a bag1 T1 ha B1 => ?_)
  simp -implicitDefEqProofs only [Z.rr, binP, cmpP, lookK, putK', setK', putF', LINE, reduceCtorEq, ↓reduceIte, Int.reduceEq, Int.reduceLT, Int.reduceLE, Int.reduceAdd, Int.reduceSub, Int.reduceMul, Int.reduceNeg, String.reduceEq, Nat.reduceAdd, Nat.reduceLT, Nat.reduceLeDiff, Z.cr, G.rg]
  refine thing_wp (n := n + 6) B1 (by omega) (by omega) (fun b bag2 T2 hb B2 => ?_)
  simp -implicitDefEqProofs only [Z.rr, binP, cmpP, lookK, putK', setK', putF', LINE, reduceCtorEq, ↓reduceIte, Int.reduceEq, Int.reduceLT, Int.reduceLE, Int.reduceAdd, Int.reduceSub, Int.reduceMul, Int.reduceNeg, String.reduceEq, Nat.reduceAdd, Nat.reduceLT, Nat.reduceLeDiff, Z.cr, G.rg]
  refine thing_wp (n := n + 6) B2 (by omega) (by omega) (fun x bag3 T3 hx B3 => ?_)
  simp -implicitDefEqProofs only [Z.rr, binP, cmpP, lookK, putK', setK', putF', LINE, reduceCtorEq, ↓reduceIte, Int.reduceEq, Int.reduceLT, Int.reduceLE, Int.reduceAdd, Int.reduceSub, Int.reduceMul, Int.reduceNeg, String.reduceEq, Nat.reduceAdd, Nat.reduceLT, Nat.reduceLeDiff, Z.cr, G.rg, setAll]
  have hA : ∀ T, Th (X.length + 2) (t ++ T1 ++ T2 ++ T3 ++ T) a := fun T => by have := ((ha.app (T := T2)).app (T := T3)).app (T := T); simp only [List.append_assoc] at this ⊢; exact this
  have hB : ∀ T, Th (X.length + 2) (t ++ T1 ++ T2 ++ T3 ++ T) b := fun T => by have := (hb.app (T := T3)).app (T := T); simp only [List.append_assoc] at this ⊢; exact this
  have hX : ∀ T, Th (X.length + 2) (t ++ T1 ++ T2 ++ T3 ++ T) x := fun T => by have := hx.app (T := T); simp only [List.append_assoc] at this ⊢; exact this
  have hs3 : ∀ T, (t ++ T1 ++ T2 ++ T3 ++ T)[0]? = some (.lst szV) := fun T => get_app (get_app (get_app (get_app hs)))
  have B3 : BG ns X.length (k + 6) L bag3 := by have := B3; rwa [show k + 2 + 2 + 2 = k + 6 by omega] at this
  have h1 := fun x4 x5 x6 x7 bag' T (B : BG ns X.length (k + 6) L bag') => h1 x4 x5 x6 x7 bag' (T1 ++ (T2 ++ (T3 ++ T))) B (get_app hs)
  have eT : t ++ (T1 ++ (T2 ++ T3)) = t ++ T1 ++ T2 ++ T3 := by simp only [List.append_assoc]
  have eT2 : ∀ T, t ++ (T1 ++ (T2 ++ (T3 ++ T))) = t ++ T1 ++ T2 ++ T3 ++ T := fun T => by simp only [List.append_assoc]
  simp only [eT2] at h1
  rw [eT]
  generalize t ++ T1 ++ T2 ++ T3 = G4 at *
  simp -implicitDefEqProofs only [Z.rr, binP, cmpP, lookK, putK', setK', putF', LINE, reduceCtorEq, ↓reduceIte, Int.reduceEq, Int.reduceLT, Int.reduceLE, Int.reduceAdd, Int.reduceSub, Int.reduceMul, Int.reduceNeg, String.reduceEq, Nat.reduceAdd, Nat.reduceLT, Nat.reduceLeDiff, Z.cr, G.rg, t_law_5]
  refine (each (n := n + 4) i hi ha.noX hb.noX hx.noX).1 _ (fun U p hp => ?_)
  rw [List.append_assoc, List.cons_append, List.cons_append] at hp ⊢
  have hz : ∀ (T H : IH), ixI (G4 ++ T)[0]? (i : Int) H = .ok (.int ((szN.getD i 0 : Nat) : Int)) H := fun T H => by
    rw [hs3 T]
    unfold ixI
    dsimp only
    rw [atI_nn (by omega) (by unfold szV szN; simp; omega)]
    unfold szV
    rw [List.getElem?_map, Int.toNat_natCast, List.getD_eq_getElem?_getD, List.getElem?_eq_getElem (by unfold szN; simpa using hi)]
    rfl
  simp -implicitDefEqProofs only [Z.rr, binP, cmpP, lookK, putK', setK', putF', LINE, reduceCtorEq, ↓reduceIte, Int.reduceEq, Int.reduceLT, Int.reduceLE, Int.reduceAdd, Int.reduceSub, Int.reduceMul, Int.reduceNeg, String.reduceEq, Nat.reduceAdd, Nat.reduceLT, Nat.reduceLeDiff, Z.cr, G.rg, sl_ref, slO_l, hz]
  have hsz : szN.getD i 0 ≤ 3 := by
    have : ∀ j < 15, szN.getD j 0 ≤ 3 := by decide
    exact this i hi
  rw [cut_to (xs := [a, b, x]) (by simpa using hsz)]
  have ep : (X ++ L :: bag3 :: (G4 ++ (U ++ [IO.lst [a, b, x], IO.lst ([a, b, x].take (szN.getD i 0))])))[p]? = some (.lst ([a, b, x].take (szN.getD i 0))) := by
    have := get_app (t := [IO.lst [a, b, x], IO.lst ([a, b, x].take (szN.getD i 0))]) hp
    simpa only [List.append_assoc, List.cons_append] using this
  have eq2 : (X ++ L :: bag3 :: (G4 ++ (U ++ [IO.lst [a, b, x], IO.lst ([a, b, x].take (szN.getD i 0))])))[X.length + (G4.length + (U.length + 3))]? = some (.lst ([a, b, x].take (szN.getD i 0))) := by
    rw [getA, show G4.length + (U.length + 3) = G4.length + (U.length + 1) + 1 + 1 by omega, List.getElem?_cons_succ, List.getElem?_cons_succ, getA, getA]; rfl
  have hv : ∀ v ∈ [a, b, x].take (szN.getD i 0), TD (X ++ L :: bag3 :: (G4 ++ (U ++ [IO.lst [a, b, x], IO.lst ([a, b, x].take (szN.getD i 0))]))) v := fun v hv => by
    have hm := List.mem_of_mem_take hv
    simp only [List.mem_cons, List.not_mem_nil, or_false] at hm
    rcases hm with rfl | rfl | rfl
    · exact (hA _).td
    · exact (hB _).td
    · exact (hX _).td
  have hE := eqTh ep eq2 hv
  simp -implicitDefEqProofs only [Z.rr, binP, cmpP, lookK, putK', setK', putF', LINE, reduceCtorEq, ↓reduceIte, Int.reduceEq, Int.reduceLT, Int.reduceLE, Int.reduceAdd, Int.reduceSub, Int.reduceMul, Int.reduceNeg, String.reduceEq, Nat.reduceAdd, Nat.reduceLT, Nat.reduceLeDiff, Z.cr, G.rg, hE]
  clear hE hv eq2 ep hz
  have hsG : ∀ T, ((G4 ++ (U ++ [IO.lst [a, b, x], IO.lst ([a, b, x].take (szN.getD i 0))])) ++ T)[0]? = some (.lst szV) := fun T => by rw [List.append_assoc]; exact hs3 _
  have h2 := fun T => h1 (some a) (some b) (some x) x7 bag3 ((U ++ [IO.lst [a, b, x], IO.lst ([a, b, x].take (szN.getD i 0))]) ++ T) B3
  have h2' : ∀ T, QS (.nx [x3, some (.ref (X.length + 1)), some (.ref (X.length + 2)), some (.int (i : Nat)), some a, some b, some x, x7] (X ++ (L :: bag3 :: ((G4 ++ (U ++ [IO.lst [a, b, x], IO.lst ([a, b, x].take (szN.getD i 0))])) ++ T)))) := fun T => by
    rw [List.append_assoc]; exact h2 T
  clear h2
  generalize G4 ++ (U ++ [IO.lst [a, b, x], IO.lst ([a, b, x].take (szN.getD i 0))]) = G5 at *
  simp -implicitDefEqProofs only [Z.rr, binP, cmpP, lookK, putK', setK', putF', LINE, reduceCtorEq, ↓reduceIte, Int.reduceEq, Int.reduceLT, Int.reduceLE, Int.reduceAdd, Int.reduceSub, Int.reduceMul, Int.reduceNeg, String.reduceEq, Nat.reduceAdd, Nat.reduceLT, Nat.reduceLeDiff, Z.cr, G.rg, t_law_6]
  refine (each (n := n + 4) (h := []) i hi ha.noX hb.noX hx.noX).2 _ _ (fun U5 p5 hp5 => ?_)
  rw [List.append_assoc, List.cons_append, List.cons_append] at hp5 ⊢
  have hr : ∀ h, rngP 1 [PV.int 15] h = R.ok (Src.rng 0 1 15) h := fun h => rng1s (j := 15) (h := h) (by decide) (by decide)
  simp -implicitDefEqProofs only [Z.rr, binP, cmpP, lookK, putK', setK', putF', LINE, reduceCtorEq, ↓reduceIte, Int.reduceEq, Int.reduceLT, Int.reduceLE, Int.reduceAdd, Int.reduceSub, Int.reduceMul, Int.reduceNeg, String.reduceEq, Nat.reduceAdd, Nat.reduceLT, Nat.reduceLeDiff, Z.cr, G.rg, hr]
  refine comp_inv (n := 15) (item := fun j => .int (j : Nat)) (fun j acc h' => h' = X ++ L :: bag3 :: (G5 ++ (U5 ++ [IO.lst [.bl true]])) ∧ acc = (List.range j).map fun m => .bl (decide (m = i))) (fun j acc h' hj iv => ?_) (fun j acc h' hj iv => ?_) (fun acc h' iv => ?_) F 0 _ _ (by omega) (by omega) ⟨rfl, rfl⟩
  · rw [rng_at, Int.mul_one, Int.zero_add]
  · obtain ⟨rfl, rfl⟩ := iv
    refine ⟨_, rfl, ?_⟩
    simp -implicitDefEqProofs only [Z.rr, binP, cmpP, lookK, putK', setK', putF', LINE, reduceCtorEq, ↓reduceIte, Int.reduceEq, Int.reduceLT, Int.reduceLE, Int.reduceAdd, Int.reduceSub, Int.reduceMul, Int.reduceNeg, String.reduceEq, Nat.reduceAdd, Nat.reduceLT, Nat.reduceLeDiff, Z.cr, G.rg]
    refine ⟨_, _, rfl, by simp [LINE]; omega, rfl, ?_⟩
    rw [List.range_succ, List.map_append, List.map_cons, List.map_nil]
    congr 3
    exact decide_eq_decide.mpr Int.ofNat_inj
  · obtain ⟨rfl, rfl⟩ := iv
    have hle : (List.map (fun m => PV.bl (decide (m = i))) (List.range 15)).length ≤ 16777215 := by simp
    simp -implicitDefEqProofs only [Z.rr, binP, cmpP, lookK, putK', setK', putF', LINE, reduceCtorEq, ↓reduceIte, Int.reduceEq, Int.reduceLT, Int.reduceLE, Int.reduceAdd, Int.reduceSub, Int.reduceMul, Int.reduceNeg, String.reduceEq, Nat.reduceAdd, Nat.reduceLT, Nat.reduceLeDiff, Z.cr, G.rg, add_ref, addO_l, hle]
    have ep : (X ++ L :: bag3 :: (G5 ++ (U5 ++ [IO.lst [PV.bl true], IO.lst (List.map (fun m => PV.bl (decide (m = i))) (List.range 15)), IO.lst (PV.bl true :: List.map (fun m => PV.bl (decide (m = i))) (List.range 15))])))[p5]? = some (.lst (lawL i)) := by
      have := get_app (t := [IO.lst [PV.bl true], IO.lst (List.map (fun m => PV.bl (decide (m = i))) (List.range 15)), IO.lst (PV.bl true :: List.map (fun m => PV.bl (decide (m = i))) (List.range 15))]) hp5
      simpa only [List.append_assoc, List.cons_append] using this
    have eq2 : (X ++ L :: bag3 :: (G5 ++ (U5 ++ [IO.lst [PV.bl true], IO.lst (List.map (fun m => PV.bl (decide (m = i))) (List.range 15)), IO.lst (PV.bl true :: List.map (fun m => PV.bl (decide (m = i))) (List.range 15))])))[X.length + (G5.length + (U5.length + 4))]? = some (.lst (lawL i)) := by
      rw [getA, show G5.length + (U5.length + 4) = G5.length + (U5.length + 2) + 1 + 1 by omega, List.getElem?_cons_succ, List.getElem?_cons_succ, getA, getA]; rfl
    have hE := eqTh ep eq2 lawL_td
    simp -implicitDefEqProofs only [Z.rr, binP, cmpP, lookK, putK', setK', putF', LINE, reduceCtorEq, ↓reduceIte, Int.reduceEq, Int.reduceLT, Int.reduceLE, Int.reduceAdd, Int.reduceSub, Int.reduceMul, Int.reduceNeg, String.reduceEq, Nat.reduceAdd, Nat.reduceLT, Nat.reduceLeDiff, Z.cr, G.rg, hE]
    exact h2' _
def baseN (ns : List Int) : IH := .flst (ns.map PV.int) :: ih0 Ds
theorem law_all (hn : ns.length ≤ 63) : ∃ h, callF P 5000 60 (.fn "law") [.ref 0] (.flst (ns.map PV.int) :: ih0 Ds) = .ok (.bl true) h := by
  show WP _ Yes
  obtain ⟨X, hX⟩ : ∃ X, X = baseN ns := ⟨_, rfl⟩
  have hX0 : X[0]? = some (.flst (ns.map PV.int)) := by rw [hX]; rfl
  show WP (callF P 5000 60 (.fn "law") [.ref 0] (baseN ns)) Yes
  rw [← hX, q_law, r_res, c_law]
  simp -implicitDefEqProofs only [Z.rr, binP, cmpP, lookK, putK', setK', putF', LINE, reduceCtorEq, ↓reduceIte, Int.reduceEq, Int.reduceLT, Int.reduceLE, Int.reduceAdd, Int.reduceSub, Int.reduceMul, Int.reduceNeg, String.reduceEq, Nat.reduceAdd, Nat.reduceLT, Nat.reduceLeDiff, Z.cr, G.rg, t_law_0]
  obtain ⟨b, c, h1, e, B, rfl, rfl, hl, hs⟩ := bag_ok (F := 5000) (n := 58) (h := X) hn (by decide) hX0
  obtain ⟨L, bag, BB, rfl⟩ := bg_of (k := 0) B hl hs
  rw [e]
  show WP (.ok _ _) (KW _ _ _)
  have hr : ∀ h, rngP 1 [PV.int 15] h = R.ok (Src.rng 0 1 15) h := fun h => rng1s (j := 15) (h := h) (by decide) (by decide)
  simp -implicitDefEqProofs only [Z.rr, binP, cmpP, lookK, putK', setK', putF', LINE, reduceCtorEq, ↓reduceIte, Int.reduceEq, Int.reduceLT, Int.reduceLE, Int.reduceAdd, Int.reduceSub, Int.reduceMul, Int.reduceNeg, String.reduceEq, Nat.reduceAdd, Nat.reduceLT, Nat.reduceLeDiff, Z.cr, G.rg, t_law_1, t_law_2, hr]
  refine loop_inv (n := 15) (item := fun i => .int (i : Nat)) (fun i env h' => ∃ x3 x4 x5 x6 x7, ∃ bag' t', env = [some (.ref 0), some (.ref (X.length + 1)), some (.ref (X.length + 2)), x3, x4, x5, x6, x7] ∧ h' = X ++ (L :: bag' :: t') ∧ BG ns X.length (6 * (i : Nat)) L bag' ∧ t'[0]? = some (.lst szV)) (fun i env h' hi iv => ?_) (fun i env h' hi iv => ?_) (fun env h' iv => ?_) 5000 0 _ _ (by omega) (by omega) ⟨_, _, _, _, _, bag, _, rfl, rfl, (by simpa using BB), rfl⟩
  · rw [rng_at, Int.mul_one, Int.zero_add]
  · obtain ⟨x3, x4, x5, x6, x7, bag', t', rfl, rfl, B', h0⟩ := iv
    refine ⟨_, _, rfl, ?_⟩
    refine turn_ok (n := 51) (by decide) hi B' (by omega) (by omega) h0 (fun y4 y5 y6 y7 bag2 t2 B2 h2 => ?_)
    exact ⟨_, _, _, _, _, bag2, t' ++ t2, rfl, rfl, by have := B2; rwa [show 6 * (i : Int) + 6 = 6 * ((i + 1 : Nat) : Int) by omega] at this, h2⟩
  · obtain ⟨x3, x4, x5, x6, x7, bag', t', rfl, rfl, B', h0⟩ := iv
    simp -implicitDefEqProofs only [Z.rr, binP, cmpP, lookK, putK', setK', putF', LINE, reduceCtorEq, ↓reduceIte, Int.reduceEq, Int.reduceLT, Int.reduceLE, Int.reduceAdd, Int.reduceSub, Int.reduceMul, Int.reduceNeg, String.reduceEq, Nat.reduceAdd, Nat.reduceLT, Nat.reduceLeDiff, Z.cr, G.rg, t_law_3]
    exact ⟨_, rfl⟩
end
end G
end
theorem PySem.Challenge.cw_heapcode_k00_errors_made_from_their_fiel_holds : PySem.Challenge.rw_heapcode_k00_errors_made_from_their_fiel.Holds :=
  GH.holds (fun ns h _ => ⟨_, G.law_all h⟩)
