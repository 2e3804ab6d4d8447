import PyProof.Rows.All
import Wide.All
import OpenK.AllK
import Wide.FinOn
import HandS.ForMost
import HandS.Walk
import HandS.Defaults
import HandS.IsInst
import HandS.DictComp
import HandS.DictTup
import HandS.Conv
import HandS.Flow
import HandS.Style
import HandS.Wide
import HandS.WideMore
import HandS.WideBits
import HandS.Zip
import HandS.Small
import HandS.HeadEnd
import HandS.HeadHook1
import HandS.HeadHook2
import HandS.HeadHook3
import HandS.Head0
import HandS.Head1
import HandS.Head2
import HandS.TupAny
import KE.KOpsOwn
import KE.KDictDisplayH
import KE.GoesEnum
import HandS.MakeKwOnly
import PyProof.ReprRoads
import HandS.EndBits
import KE.KeyNested
import HandS.TupLen
import HandS.Property
import KE.GoesZip
import KE.GoesMore
import HandS.Deep
import HandS.DeepEq
import HandS.OwnEq
import HandS.RaiseMore
import PyProof.CallFns
import KE.KUnpackStar
import KE.KCallOwn
import HandS.ExcValue
import HandS.SortOrd
import HandS.Set
import HandS.SetFor
import KE.GoesEnumKw
import PyProof.Rows.CallKwBuiltin
import HandS.ExcInit
import HandS.ExcField
import HandS.ExcIs
import HandS.Lambda
import HandS.WordsExc
import HandS.FStr
import KE.KExcIs
import HandS.TupLe
import HandS.HeadHook4
import HandS.EndTab
import HandS.Text
import PyProof.ReprBulk
import PySem.Challenge.RW_fixrest_k91_wrong_lines
section
set_option Elab.async false
set_option linter.all false
set_option maxRecDepth 100000
set_option maxHeartbeats 4000000
namespace Fx
open PySem PySem.Spec PyProof.Rows L2

/-! ## the head: facts looked up by a Hook of our own -/
section Head
open He
/-- facts by names, defs, and any further look at the written part -/
def obsC (fa : List Fa) (fn : List DefD) (ex : PySem.W.Frag → Bool) (K : PySem.W.Frag) : AlD :=
  ((fa.all fun f => f.ok K) && ((fn.all fun d => d.ok K) && ex K), fn.map fun d => fnW K d.at_)
def valC (fn : List DefD) : AlD := (true, fn.map DefD.val)
def lookC (n : Nat) (fa : List Fa) (fn : List DefD) (ex : PySem.W.Frag → Bool) (g : Addr → Option Obj) : AlD := obsC fa fn ex (frG g (asD g n))
def hookC (n : Nat) (fa : List Fa) (fn : List DefD) (ex : PySem.W.Frag → Bool) : PySem.W.Hook where
  α := AlD
  obs := fun s => lookC n fa fn ex s.heap.get?
  val := fun _ => valC fn
  says := fun _ h => ∃ K : PySem.W.Frag, K.In h ∧ obsC fa fn ex K = valC fn
  of := fun _ _ e => ⟨_, frG_in, e⟩
  keeps := fun _ _ _ z k => z.elim fun K q => ⟨K, PySem.W.Frag.In.keeps q.1 k, q.2⟩
theorem lookC_eq {n : Nat} {fa : List Fa} {fn : List DefD} {ex : PySem.W.Frag → Bool} {g : Addr → Option Obj} {s : Shared} (h : ∀ a, g a = s.heap.get? a) :
    lookC n fa fn ex g = (hookC n fa fn ex).obs s := by
  obtain rfl : g = s.heap.get? := funext h
  rfl
section
variable {fa : List Fa} {fn : List DefD} {ex : PySem.W.Frag → Bool} {K : PySem.W.Frag}
theorem says_all (c : obsC fa fn ex K = valC fn) : (fa.all fun f => f.ok K) = true ∧ (fn.all fun d => d.ok K) = true ∧ ex K = true := by
  have h1 : ((fa.all fun f => f.ok K) && ((fn.all fun d => d.ok K) && ex K)) = true := congrArg (fun z : AlD => z.1) c
  have h2 := ba h1
  have h3 := ba h2.2
  exact ⟨h2.1, h3.1, h3.2⟩
theorem says_fact (c : obsC fa fn ex K = valC fn) (i : Nat) {f : Fa} (h : fa[i]? = some f := by rfl) : f.ok K = true :=
  List.all_eq_true.mp (says_all c).1 f (List.mem_of_getElem? h)
/-- the function object that stands at an address -/
def fdOf (K : PySem.W.Frag) (f : Addr) : FuncData := match K.lookup f with
  | some ⟨_, _, .func fd, _⟩ => fd
  | _ => PySem.W.fnOf "" "" ⟨[], [], none, [], [], none, []⟩ [] ⟨.function, [], false, false, []⟩ .none .none .none .none none .none .none
theorem fdOf_eq {x qual : Str} {params : Arguments} {body : List Stmt} {scope : Scope} {dvs : List V} {kws : List (Str × V)} {f : Addr} {fd : FuncData} (F : FunD K x qual params body scope dvs kws f fd) : fdOf K f = fd := by
  obtain ⟨oc, od, dV, kV, doc, pm, an, cdv, ct, osl, e, lk, _⟩ := F.ex
  unfold fdOf
  rw [lk]
theorem says_def (c : obsC fa fn ex K = valC fn) (i : Nat) {d : DefD} (h : fn[i]? = some d := by rfl) :
    FunD K d.name d.qual d.params d.body d.scope (d.dvs K) (d.kws K) (fAd K d.at_) (fdOf K (fAd K d.at_)) := by
  have e : fn.map (fun d => fnW K d.at_) = fn.map DefD.val := congrArg (fun z : AlD => z.2) c
  have e2 : (fn.map fun d => fnW K d.at_)[i]? = (fn.map DefD.val)[i]? := by rw [e]
  rw [List.getElem?_map, List.getElem?_map, h] at e2
  obtain ⟨fd, F⟩ := DefD.funD (Option.some.inj e2) (List.all_eq_true.mp (says_all c).2.1 d (List.mem_of_getElem? h))
  rw [fdOf_eq F]
  exact F
end
end Head

/-! ## short words -/
/-- the def found by a path keeps a promise -/
abbrev Ok (P : Program) (w : World) (K : PySem.W.Frag) (mg : Str → Option Value) (base : Heap) (k : Nat) (p : Str × Option Str) (ps : List Str) (sp : Sp) : Prop :=
  FnOk P w K mg base CX0 k (He.fAd K p) (fdOf K (He.fAd K p)) ps sp
abbrev IsFn (K : PySem.W.Frag) (p : Str × Option Str) (x qual : Str) (st : Stmt) (dvs : List V) : Prop :=
  FunD K x qual (defArgs st) (defBody st) (defScope st) dvs [] (He.fAd K p) (fdOf K (He.fAd K p))

/-- all that was tracked, but at W, is as it was -/
def SameX (W : List Addr) (H H' : Hp) : Prop := ∀ b o, b ∉ W → H b = some o → H' b = some o
theorem same_toX {H H' : Hp} (s : Same H H') (W : List Addr) : SameX W H H' := fun b o _ e => s b o e
theorem SameX.refl (W : List Addr) (H : Hp) : SameX W H H := fun _ _ _ e => e
theorem SameX.trans {W : List Addr} {H H1 H2 : Hp} (a : SameX W H H1) (b : SameX W H1 H2) : SameX W H H2 := fun c o h e => b c o h (a c o h e)
theorem SameX.mono {W W' : List Addr} {H H1 : Hp} (a : SameX W H H1) (h : ∀ b ∈ W, b ∈ W') : SameX W' H H1 := fun c o n e => a c o (fun q => n (h c q)) e
theorem SameX.nil {H H1 : Hp} (a : SameX [] H H1) : Same H H1 := fun c o e => a c o (by simp) e
theorem same_new {H : Hp} {a : Addr} {o : HO} (h : H a = none) : Same H (upd H a o) := fun b u e => by rw [upd_ne (ne_of_none e h)]; exact e
theorem same_upd {H H' : Hp} {a : Addr} {o : HO} (s : Same H H') (h : H a = none) : Same H (upd H' a o) := fun b u e => by rw [upd_ne (ne_of_none e h)]; exact s b u e
theorem samex_upd {W : List Addr} {H H' : Hp} {a : Addr} {o : HO} (s : SameX W H H') (h : a ∈ W ∨ H a = none) : SameX W H (upd H' a o) := fun b u n e => by
  have : b ≠ a := by
    rcases h with h | h
    · intro q; subst q; exact n h
    · exact ne_of_none e h
  rw [upd_ne this]; exact s b u n e
theorem same_none {H H' : Hp} (s : Same H H') {a : Addr} (h : H' a = Option.none) : H a = Option.none := Same.free s h

/-- the heap without what may change -/
def hide (W : List Addr) (H : Hp) : Hp := fun b => if b ∈ W then none else H b
theorem hide_sub (W : List Addr) (H : Hp) : Same (hide W H) H := fun b o e => by
  unfold hide at e; split at e
  · cases e
  · exact e
theorem hide_nil (H : Hp) : hide [] H = H := by funext b; unfold hide; simp
theorem hide_samex {W X : List Addr} {H H' : Hp} (s : SameX X H H') (h : ∀ b ∈ X, b ∈ W) : Same (hide W H) (hide W H') := fun b o e => by
  unfold hide at e ⊢; split at e
  · cases e
  · rename_i n; rw [if_neg n]; exact s b o (fun q => n (h b q)) e
theorem hide_same {W : List Addr} {H H' : Hp} (s : Same H H') : Same (hide W H) (hide W H') := hide_samex (same_toX s []) (fun _ h => absurd h (by simp))
theorem hide_more {W W' : List Addr} {H : Hp} (h : ∀ b ∈ W', b ∈ W ∨ H b = none) : Same (hide W H) (hide W' H) := fun b o e => by
  unfold hide at e ⊢; split at e
  · cases e
  · rename_i n
    rw [if_neg]
    · exact e
    · intro q
      rcases h b q with z | z
      · exact n z
      · rw [z] at e; cases e
theorem hide_at {W : List Addr} {H : Hp} {a : Addr} {o : HO} (h : H a = some o) (n : a ∉ W) : hide W H a = some o := by unfold hide; rw [if_neg n]; exact h

/-! ## deep data -/
theorem seq_mono {K : PySem.W.Frag} {H H' : Hp} {a : Addr} {xs : List V} (s : Same H H') (h : SqL K H a xs) : SqL K H' a xs := Same.seq s h
theorem sqt_mono {K : PySem.W.Frag} {H H' : Hp} {a : Addr} {xs : List V} (s : Same H H') (h : SqT K H a xs) : SqT K H' a xs := by
  rcases h with (h | ⟨o, h⟩) | h
  · exact .inl (.inl (s _ _ h))
  · exact .inl (.inr ⟨o, s _ _ h⟩)
  · exact .inr h
mutual
theorem dp_mono {K : PySem.W.Frag} {H H' : Hp} (s : Same H H') : ∀ {d : PyData} {v : V}, Dp K H v d → Dp K H' v d
  | _, _, .non => .non
  | _, _, .bl b => .bl b
  | _, _, .int i => .int i
  | _, _, .str x => .str x
  | _, _, .lst h r => .lst (seq_mono s h) (dpall_mono s r)
  | _, _, .tup h r => .tup (sqt_mono s h) (dpall_mono s r)
theorem dpall_mono {K : PySem.W.Frag} {H H' : Hp} (s : Same H H') : ∀ {ds : List PyData} {vs : List V}, DpAll K H vs ds → DpAll K H' vs ds
  | _, _, .nil => .nil
  | _, _, .cons h r => .cons (dp_mono s h) (dpall_mono s r)
end
end Fx
end

section
set_option Elab.async false
set_option linter.all false
set_option maxRecDepth 100000
set_option maxHeartbeats 4000000
namespace Fx
open PySem PySem.Spec PyProof.Rows L2
section
variable {X : Cx}
theorem pe_globI {x : Str} {n : Int} {pos : Pos} (hg : Gl X x) (hm : ∃ t, X.mg x = some (.int n t)) (hd : (x == ("__debug__" : Str)) = false := by decide) : PE X (.Name x pos) (tC (.int n)) :=
  hm.elim fun t h => pe_glob hg h ⟨t, rfl⟩ hd
theorem pe_globS {x : Str} {z : Str} {pos : Pos} (hg : Gl X x) (hm : ∃ t, X.mg x = some (.str z t)) (hd : (x == ("__debug__" : Str)) = false := by decide) : PE X (.Name x pos) (tC (.str z)) :=
  hm.elim fun t h => pe_glob hg h ⟨t, rfl⟩ hd
end
/-! ### loops over enumerate, zip -/
section
variable {K : PySem.W.Frag} {a b : Addr} {xs ys : List V} {tgs : TGs} {tb : TS} {D : Ends} {σ : L2.St} {H : Hp}
theorem for_enumL (Pv : Nat → L2.St → Hp → Prop) (h0 : Pv 0 σ H) (hG : ∀ i σ H, i ≤ xs.length → Pv i σ H → SqL K H a xs)
    (hs : ∀ i x σ H T, xs[i]? = some x → Pv i σ H → H T = none → tgs [.int (i : Nat), x] σ (upd H T (.tup [.int (i : Nat), x])) fun σ2 H2 => tb { D with nx := Pv (i + 1), ct := Pv (i + 1), bk := D.nx } σ2 H2)
    (hd : ∀ σ H, Pv xs.length σ H → D.nx σ H) :
    ∃ W : Nat → Nat → L2.St → Hp → Prop, (∃ m, W 0 m σ H) ∧ ∀ i m σ H, W i m σ H →
      ((Ite K a).stop i H ∧ D.nx σ H) ∨ ((Ite K a).go i H ∧ ∃ N : L2.St → Hp → Prop, (∀ σ' H', N σ' H' → ∃ m', m' < m ∧ W (i + 1) m' σ' H') ∧ ∀ x H', (Ite K a).yld i H x H' → gTup K 2 tgs x σ H' fun σ2 H2 => tb { D with nx := N, ct := N, bk := D.nx } σ2 H2) :=
  for_it walk_enum Pv h0 hG (fun i v σ H H' hi p y => by
    obtain ⟨T, x, z, rfl, hT, rfl, hx, hz⟩ := y
    cases hx
    exact ⟨T, _, rfl, .inl (.inl upd_same), rfl, hs i z σ H T hz p hT⟩) hd
theorem for_zipLL (Pv : Nat → L2.St → Hp → Prop) (h0 : Pv 0 σ H) (hG : ∀ i σ H, i ≤ min xs.length ys.length → Pv i σ H → SqL K H a xs ∧ SqL K H b ys)
    (hs : ∀ i x y σ H T, xs[i]? = some x → ys[i]? = some y → Pv i σ H → H T = none → tgs [x, y] σ (upd H T (.tup [x, y])) fun σ2 H2 => tb { D with nx := Pv (i + 1), ct := Pv (i + 1), bk := D.nx } σ2 H2)
    (hd : ∀ σ H, Pv (min xs.length ys.length) σ H → D.nx σ H) :
    ∃ W : Nat → Nat → L2.St → Hp → Prop, (∃ m, W 0 m σ H) ∧ ∀ i m σ H, W i m σ H →
      ((Itz K a b).stop i H ∧ D.nx σ H) ∨ ((Itz K a b).go i H ∧ ∃ N : L2.St → Hp → Prop, (∀ σ' H', N σ' H' → ∃ m', m' < m ∧ W (i + 1) m' σ' H') ∧ ∀ x H', (Itz K a b).yld i H x H' → gTup K 2 tgs x σ H' fun σ2 H2 => tb { D with nx := N, ct := N, bk := D.nx } σ2 H2) :=
  for_it (walk_zip rfl) Pv h0 hG (fun i v σ H H' hi p y => by
    obtain ⟨T, x, z, rfl, hT, rfl, hx, hz⟩ := y
    exact ⟨T, _, rfl, .inl (.inl upd_same), rfl, hs i x z σ H T hx hz p hT⟩) hd
end
/-! ### comprehensions over enumerate, zip -/
section
variable {K : PySem.W.Frag} {a b : Addr} {xs ys : List V} {tgs : TGs} {tt : TT} {te : TE} {vs : List Nat} {σ : L2.St} {H1 : Hp} {D : Addr} {Qd : Hp → Prop}
theorem lc_zipLL (Pv : Nat → Hp → Prop) (h0 : Pv 0 (upd H1 D (.lst []))) (hG : ∀ i H, i ≤ min xs.length ys.length → Pv i H → SqL K H a xs ∧ SqL K H b ys)
    (hs : ∀ i x y H T, xs[i]? = some x → ys[i]? = some y → Pv i H → H T = none → tgs [x, y] (wipe σ vs) (upd H T (.tup [x, y])) fun σ2 H2 => wipe σ2 vs = wipe σ vs ∧ tt σ2 H2 fun b H3 =>
      if b = true then te σ2 H3 fun y H4 => ∃ acc, H4 D = some (.lst acc) ∧ acc.length < sizeLine ∧ Pv (i + 1) (upd H4 D (.lst (acc ++ [y]))) else Pv (i + 1) H3) (hd : ∀ H, Pv (min xs.length ys.length) H → Qd H) :
    ∃ W : Nat → Nat → Hp → Prop, (∃ m, W 0 m (upd H1 D (.lst []))) ∧ ∀ i m H, W i m H →
      ((Itz K a b).stop i H ∧ Qd H) ∨ ((Itz K a b).go i H ∧ ∃ Nx : Hp → Prop, (∀ H', Nx H' → ∃ m', m' < m ∧ W (i + 1) m' H') ∧ ∀ x H', (Itz K a b).yld i H x H' → gTup K 2 tgs x (wipe σ vs) H' fun σ2 H2 => wipe σ2 vs = wipe σ vs ∧ tt σ2 H2 fun b H3 =>
        if b = true then te σ2 H3 fun y H4 => ∃ acc, H4 D = some (.lst acc) ∧ acc.length < sizeLine ∧ Nx (upd H4 D (.lst (acc ++ [y]))) else Nx H3) :=
  lc_it (walk_zip rfl) Pv h0 hG (fun i v H H' hi p y => by
    obtain ⟨T, x, z, rfl, hT, rfl, hx, hz⟩ := y
    exact ⟨T, _, rfl, .inl (.inl upd_same), rfl, hs i x z H T hx hz p hT⟩) hd
end
/-! ### small things -/
theorem getElem?_map_some {α β : Type} {f : α → β} {l : List α} {i : Nat} {y : β} (h : (l.map f)[i]? = some y) : ∃ x, l[i]? = some x ∧ y = f x := by
  rw [List.getElem?_map] at h
  cases e : l[i]? with
  | none => rw [e] at h; cases h
  | some x => rw [e] at h; exact ⟨x, rfl, (Option.some.inj h).symm⟩
theorem lt_of_get {α : Type} {l : List α} {i : Nat} {x : α} (h : l[i]? = some x) : i < l.length := (List.getElem?_eq_some_iff.mp h).1
theorem drop_of_get {α : Type} {l : List α} {i : Nat} {x : α} (h : l[i]? = some x) : l.drop i = x :: l.drop (i + 1) := by
  obtain ⟨h1, h2⟩ := List.getElem?_eq_some_iff.mp h
  rw [← h2]; exact List.drop_eq_getElem_cons h1
theorem take_of_get {α : Type} {l : List α} {i : Nat} {x : α} (h : l[i]? = some x) : l.take (i + 1) = l.take i ++ [x] := by
  obtain ⟨h1, h2⟩ := List.getElem?_eq_some_iff.mp h
  rw [← h2]; exact (List.take_append_getElem h1).symm
end Fx
namespace Fx
open PySem PySem.Spec L2
/-! ### flat things in a list -/
theorem inV_str (x : Str) (l : List Str) : inV (.str x) (l.map V.str) = decide (x ∈ l) := by
  induction l with
  | nil => rfl
  | cons y r ih =>
    have h1 : inV (.str x) ((y :: r).map V.str) = ((y == x) || inV (.str x) (r.map V.str)) := rfl
    rw [h1, ih]
    by_cases e : x = y
    · subst e; simp
    · have e' : ¬ y = x := fun q => e q.symm
      simp [e, e']
theorem flat_strs (l : List Str) : (l.map V.str).all flatV = true := by
  rw [List.all_eq_true]; intro v hv; obtain ⟨x, _, rfl⟩ := List.mem_map.mp hv; rfl
theorem atI_of {xs : List V} {i : Int} {j : Nat} {v : V} (hi : i = (j : Int)) (h : xs[j]? = some v) : atI xs i = some v := by subst hi; exact atI_nat h
theorem get_map {α β : Type} {f : α → β} {l : List α} {i : Nat} {x : α} (h : l[i]? = some x) : (l.map f)[i]? = some (f x) := by rw [List.getElem?_map, h]; rfl
theorem get_getD {α : Type} {l : List α} {i : Nat} {d : α} (h : i < l.length) : l[i]? = some (l.getD i d) := by
  rw [List.getD_eq_getElem?_getD, List.getElem?_eq_getElem h]; rfl
end Fx
end

section
set_option Elab.async false
set_option linter.all false
set_option maxRecDepth 100000
set_option maxHeartbeats 4000000
/-! rules whose reading names the written part K outright (a reading within a comprehension must not hang on the block's own context) -/
namespace Fx
open PySem PySem.Spec PyProof.Rows L2
section
variable {X : Cx} {K : PySem.W.Frag} (e : X.K = K)
include e
theorem k_in : OpR X (compareOp .In) (rIn K false) := by subst e; exact op_in_seq
theorem k_notIn : OpR X (compareOp .NotIn) (rIn K true) := by subst e; exact op_notIn_seq
theorem k_eqD (hu : X.A.units + 64 < cLine) : OpR X (compareOp .Eq) (rEqD K) := by subst e; exact op_eqD hu
theorem k_neD (hu : X.A.units + 64 < cLine) : OpR X (compareOp .NotEq) (rNeD K) := by subst e; exact op_neD hu
theorem k_catT : OpR X (binaryOp .Add) (rCatA K) := by subst e; exact op_catA
theorem k_ixL : IxR X (rIxL K) := by subst e; exact ix_list
theorem k_ixT : IxR X (rIxT K) := by subst e; exact ix_tup
theorem k_ixQ : IxR X (rIx K) := by subst e; exact ix_seq
theorem k_slL : SlR X (rSlL K) := by subst e; exact sl_list
theorem k_slT : SlR X (rSlA K) := by subst e; exact sl_tupA
theorem k_len : CallR X (.builtin "len") (fun xs H Q => ∃ p ys, xs = [.ref p] ∧ (SqL K H p ys ∨ SqT K H p ys) ∧ Q (.int ys.length) H) := by subst e; exact call_len_seq
theorem k_lenV : CallR X (.builtin "len") (fun xs H Q => ∃ x n, xs = [x] ∧ LenV K x H n ∧ Q (.int n) H) := by subst e; exact call_len
theorem k_listOf : CallR X (.type "list") (fun xs H Q => ∃ p ys, xs = [.ref p] ∧ (SqL K H p ys ∨ SqT K H p ys) ∧ ∀ l, H l = none → Q (.ref l) (upd H l (.lst ys))) := by subst e; exact call_list_of
theorem k_tupleOf : CallR X (.type "tuple") (fun xs H Q => ∃ p ys, xs = [.ref p] ∧ ((SqL K H p ys ∧ ∀ l, H l = none → Q (.ref l) (upd H l (.tup ys))) ∨ (SqT K H p ys ∧ Q (.ref p) H))) := by subst e; exact call_tuple_of
theorem k_sum (hc : X.calm = true) : CallR X (.builtin "sum") (rSum K) := by subst e; exact cr_sum hc
theorem k_all (hc : X.calm = true) : CallR X (.builtin "all") (rAll K) := by subst e; exact cr_all hc
theorem k_any (hc : X.calm = true) : CallR X (.builtin "any") (rAny K) := by subst e; exact cr_any hc
theorem k_max (hc : X.calm = true) : CallR X (.builtin "max") (rMax K) := by subst e; exact cr_max hc
theorem k_min (hc : X.calm = true) : CallR X (.builtin "min") (rMin K) := by subst e; exact cr_min hc
theorem k_sortedS : CallR X (.builtin "sorted") (rSortedS K) := by subst e; exact cr_sortedS
theorem k_isi : CallR X (.builtin "isinstance") (rIsi K) := by subst e; exact call_isi
theorem k_isiT : CallR X (.builtin "isinstance") (rIsiT K) := by subst e; exact call_isiT
theorem k_join : MtR X "str.join" (fun x xs H Q => ∃ a p, ∃ ys : List Str, x = .str a ∧ xs = [.ref p] ∧ (SqL K H p (ys.map V.str) ∨ SqT K H p (ys.map V.str)) ∧ (ys.map (·.length)).sum + ys.length * a.length ≤ 16777216 ∧ Q (.str (Txt.join a ys)) H) := by subst e; exact mt_join
end
section
variable {X : Cx} {K : PySem.W.Frag} {tg l x : Expr} {tl ta : TE} {f : Str} {pos : Pos}
theorem k_pil (e : X.K = K) (hl : PE X l tl) : PI X tg l (iList K tl) := by subst e; exact pi_list hl
theorem k_pit (e : X.K = K) (hl : PE X l tl) : PI X tg l (iTup K tl) := by subst e; exact pi_tup hl
theorem k_fld (e : X.K = K) (he : PE X x ta) (hb : attributeBase x f X.env (eval x X.env) = eval x X.env) : PE X (.Attribute x f pos) (tFld K ta f) := by subst e; exact pe_fld he hb
theorem k_tup {es : List Expr} {k : Nat} {t : TGs} {n : Nat} (e : X.K = K) (hc : X.calm = true) (h : PGs X es t)
    (hn : (assignEach es X.env).length = n := by rfl) (hs : (assignEach es X.env).findIdx? (·.1) = none := by rfl) : PG X (.Tuple es k pos) (gTup K n t) := by
  subst e; exact pg_tup hc h hn hs
theorem k_pienum {x : Expr} {ta : TA} {p pos tpos : Pos} {elts : List Expr} {kk : Nat} (e : X.K = K) (hg : Gl X "enumerate") (hm : X.mg "enumerate" = none) (ha : PA X [x] ta) (hs : starEach [x] X.env = [(false, eval x X.env)] := by rfl) :
    PI X (.Tuple elts kk tpos) (.Call (.Name "enumerate" p) [x] [] pos) (iEnum K ta) := by subst e; exact pi_enum hg hm ha hs
theorem k_pizip {x x2 : Expr} {ta : TA} {p pos tpos : Pos} {elts : List Expr} {kk : Nat} (e : X.K = K) (hg : Gl X "zip") (hm : X.mg "zip" = none) (ha : PA X [x, x2] ta)
    (hs : starEach [x, x2] X.env = (false, eval x X.env) :: starEach [x2] X.env := by rfl) (hpl : (backTo pos (starEach [x2] X.env)).any (·.1) = false := by rfl) :
    PI X (.Tuple elts kk tpos) (.Call (.Name "zip" p) [x, x2] [] pos) (iZip K ta) := by subst e; exact pi_zip hg hm ha hs hpl
end
end Fx
end

section
set_option Elab.async false
set_option linter.all false
set_option maxRecDepth 100000
set_option maxHeartbeats 4000000
/-! comprehensions, one name as the target: what is made so far stands beside the invariant -/
namespace Fx
open PySem PySem.Spec L2
abbrev LcGoal (J : It) (g : TG) (tt : TT) (te : TE) (vs : List Nat) (σ : L2.St) (H1 : Hp) (D : Addr) (Qd : Hp → Prop) : Prop :=
  ∃ W : Nat → Nat → Hp → Prop, (∃ m, W 0 m (upd H1 D (.lst []))) ∧ ∀ i m H, W i m H →
      (J.stop i H ∧ Qd H) ∨ (J.go i H ∧ ∃ Nx : Hp → Prop, (∀ H', Nx H' → ∃ m', m' < m ∧ W (i + 1) m' H') ∧ ∀ x H', J.yld i H x H' → g x (wipe σ vs) H' fun σ2 H2 => wipe σ2 vs = wipe σ vs ∧ tt σ2 H2 fun b H3 =>
        if b = true then te σ2 H3 fun y H4 => ∃ acc, H4 D = some (.lst acc) ∧ acc.length < sizeLine ∧ Nx (upd H4 D (.lst (acc ++ [y]))) else Nx H3)
/-- two lists item by item -/
def Each {α β : Type} (P : α → β → Prop) (as : List α) (bs : List β) : Prop := as.length = bs.length ∧ ∀ (i : Nat) a b, as[i]? = some a → bs[i]? = some b → P a b
theorem Each.nil {α β : Type} {P : α → β → Prop} : Each P [] [] := ⟨rfl, fun i a b h => by simp at h⟩
theorem Each.mono {α β : Type} {P Q : α → β → Prop} {as : List α} {bs : List β} (h : Each P as bs) (f : ∀ a b, P a b → Q a b) : Each Q as bs := ⟨h.1, fun i a b h1 h2 => f a b (h.2 i a b h1 h2)⟩
theorem Each.get {α β : Type} {P : α → β → Prop} {as : List α} {bs : List β} (h : Each P as bs) {i : Nat} {a : α} (ha : as[i]? = some a) : ∃ b, bs[i]? = some b ∧ P a b := by
  have hi : i < bs.length := by rw [← h.1]; exact (List.getElem?_eq_some_iff.mp ha).1
  exact ⟨bs[i], List.getElem?_eq_getElem hi, h.2 i a _ ha (List.getElem?_eq_getElem hi)⟩
theorem Each.getR {α β : Type} {P : α → β → Prop} {as : List α} {bs : List β} (h : Each P as bs) {i : Nat} {b : β} (hb : bs[i]? = some b) : ∃ a, as[i]? = some a ∧ P a b := by
  have hi : i < as.length := by rw [h.1]; exact (List.getElem?_eq_some_iff.mp hb).1
  exact ⟨as[i], List.getElem?_eq_getElem hi, h.2 i _ b (List.getElem?_eq_getElem hi) hb⟩
theorem Each.append {α β : Type} {P : α → β → Prop} {as cs : List α} {bs ds : List β} (h : Each P as bs) (k : Each P cs ds) : Each P (as ++ cs) (bs ++ ds) := by
  refine ⟨by rw [List.length_append, List.length_append, h.1, k.1], fun i a b ha hb => ?_⟩
  by_cases hi : i < as.length
  · rw [List.getElem?_append_left hi] at ha
    rw [List.getElem?_append_left (by rw [← h.1]; exact hi)] at hb
    exact h.2 i a b ha hb
  · rw [List.getElem?_append_right (by omega)] at ha
    rw [List.getElem?_append_right (by rw [← h.1]; omega), ← h.1] at hb
    exact k.2 _ a b ha hb
theorem Each.one {α β : Type} {P : α → β → Prop} {a : α} {b : β} (h : P a b) : Each P [a] [b] := ⟨rfl, fun i x y hx hy => by
  cases i with
  | zero => simp at hx hy; subst hx; subst hy; exact h
  | succ i => simp at hx⟩
theorem Each.snoc {α β : Type} {P : α → β → Prop} {as : List α} {bs : List β} {a : α} {b : β} (h : Each P as bs) (k : P a b) : Each P (as ++ [a]) (bs ++ [b]) := h.append (.one k)
theorem yesI {σ : L2.St} {H : Hp} {A B : Bool → Hp → Prop} (h : A true H) : tYes σ H fun b H3 => if b = true then A b H3 else B b H3 := by
  show (if true = true then A true H else B true H)
  rw [if_pos rfl]; exact h
section
variable {n : Nat} {te : TE} {vs : List Nat} {σ : L2.St} {H1 : Hp} {D : Addr} {Qd : Hp → Prop} {j : Nat} {K : PySem.W.Frag} {a : Addr} {xs : List V} {lo : Int} {tt : TT}
/-- what is asked behind an item's value y: the list as it was, and the invariant behind the append -/
abbrev App (D : Addr) (I : List V → Hp → Prop) : VK := fun y H4 => ∃ acc, H4 D = some (.lst acc) ∧ acc.length < sizeLine ∧ ∃ acc2, I acc2 (upd H4 D (.lst (acc ++ [y])))
theorem lcm_list (I : Nat → List V → Hp → Prop) (h0 : I 0 [] (upd H1 D (.lst []))) (hI : ∀ i acc H, I i acc H → SqL K H a xs)
    (hs : ∀ i x acc H, xs[i]? = some x → I i acc H → te ((wipe σ vs).set j (some x)) H (App D (I (i + 1))))
    (hd : ∀ acc H, I xs.length acc H → Qd H) (hw : ∀ x, wipe ((wipe σ vs).set j (some x)) vs = wipe σ vs := by intro _; rfl) : LcGoal (Itl K a) (gName j) tYes te vs σ H1 D Qd :=
  lc_it walk_list (fun i H => ∃ acc, I i acc H) ⟨[], h0⟩ (fun i H _ ⟨acc, h⟩ => hI i acc H h) (fun i x H H' hi ⟨acc, h⟩ y => by
    obtain ⟨rfl, y⟩ := y
    exact ⟨hw x, yesI (hs i x acc _ y h)⟩) (fun H ⟨acc, h⟩ => hd acc H h)
theorem lcm_tup (I : Nat → List V → Hp → Prop) (h0 : I 0 [] (upd H1 D (.lst []))) (hI : ∀ i acc H, I i acc H → SqT K H a xs)
    (hs : ∀ i x acc H, xs[i]? = some x → I i acc H → te ((wipe σ vs).set j (some x)) H (App D (I (i + 1))))
    (hd : ∀ acc H, I xs.length acc H → Qd H) (hw : ∀ x, wipe ((wipe σ vs).set j (some x)) vs = wipe σ vs := by intro _; rfl) : LcGoal (Itt K a) (gName j) tYes te vs σ H1 D Qd :=
  lc_it walk_tup (fun i H => ∃ acc, I i acc H) ⟨[], h0⟩ (fun i H _ ⟨acc, h⟩ => hI i acc H h) (fun i x H H' hi ⟨acc, h⟩ y => by
    obtain ⟨rfl, y⟩ := y
    exact ⟨hw x, yesI (hs i x acc _ y h)⟩) (fun H ⟨acc, h⟩ => hd acc H h)
theorem lcm_range (I : Nat → List V → Hp → Prop) (h0 : I 0 [] (upd H1 D (.lst [])))
    (hs : ∀ i acc H, i < n → I i acc H → te ((wipe σ vs).set j (some (.int (lo + i)))) H (App D (I (i + 1))))
    (hd : ∀ acc H, I n acc H → Qd H) (hw : ∀ x, wipe ((wipe σ vs).set j (some x)) vs = wipe σ vs := by intro _; rfl) : LcGoal (Itr lo n) (gName j) tYes te vs σ H1 D Qd :=
  lc_it walk_range (fun i H => ∃ acc, I i acc H) ⟨[], h0⟩ (fun _ _ _ _ => trivial) (fun i x H H' hi ⟨acc, h⟩ y => by
    obtain ⟨rfl, rfl⟩ := y
    exact ⟨hw _, yesI (hs i acc _ hi h)⟩) (fun H ⟨acc, h⟩ => hd acc H h)
theorem lcm_str {z : Str} (I : Nat → List V → Hp → Prop) (h0 : I 0 [] (upd H1 D (.lst [])))
    (hs : ∀ i c acc H, z.cps[i]? = some c → I i acc H → te ((wipe σ vs).set j (some (.str ⟨#[c]⟩))) H (App D (I (i + 1))))
    (hd : ∀ acc H, I z.cps.size acc H → Qd H) (hw : ∀ x, wipe ((wipe σ vs).set j (some x)) vs = wipe σ vs := by intro _; rfl) : LcGoal (Its z) (gName j) tYes te vs σ H1 D Qd :=
  lc_it walk_str (fun i H => ∃ acc, I i acc H) ⟨[], h0⟩ (fun _ _ _ _ => trivial) (fun i x H H' hi ⟨acc, h⟩ y => by
    obtain ⟨rfl, c, hc, rfl⟩ := y
    exact ⟨hw _, yesI (hs i c acc _ hc h)⟩) (fun H ⟨acc, h⟩ => hd acc H h)
theorem lcm_zip {ys : List V} {b : Addr} {j1 j2 : Nat} (I : Nat → List V → Hp → Prop) (h0 : I 0 [] (upd H1 D (.lst []))) (hI : ∀ i acc H, I i acc H → SqL K H a xs ∧ SqL K H b ys)
    (hs : ∀ i x y acc H T, xs[i]? = some x → ys[i]? = some y → I i acc H → H T = none → te (((wipe σ vs).set j1 (some x)).set j2 (some y)) (upd H T (.tup [x, y])) (App D (I (i + 1))))
    (hd : ∀ acc H, I (min xs.length ys.length) acc H → Qd H) (hw : ∀ x y, wipe (((wipe σ vs).set j1 (some x)).set j2 (some y)) vs = wipe σ vs := by intro _ _; rfl) :
    LcGoal (Itz K a b) (gTup K 2 (gCons (gName j1) (gCons (gName j2) gNil))) tYes te vs σ H1 D Qd :=
  lc_zipLL (fun i H => ∃ acc, I i acc H) ⟨[], h0⟩ (fun i H _ ⟨acc, h⟩ => hI i acc H h) (fun i x y H T hx hy ⟨acc, h⟩ hT =>
    ⟨_, _, rfl, _, _, rfl, rfl, hw x y, yesI (hs i x y acc H T hx hy h hT)⟩) (fun H ⟨acc, h⟩ => hd acc H h)
/-- with a test: what is asked behind it -/
abbrev AppIf (te : TE) (σ2 : L2.St) (D : Addr) (I : List V → Hp → Prop) : Bool → Hp → Prop := fun b H3 => if b = true then te σ2 H3 (App D I) else ∃ acc2, I acc2 H3
theorem lcf_list (I : Nat → List V → Hp → Prop) (h0 : I 0 [] (upd H1 D (.lst []))) (hI : ∀ i acc H, I i acc H → SqL K H a xs)
    (hs : ∀ i x acc H, xs[i]? = some x → I i acc H → tt ((wipe σ vs).set j (some x)) H (AppIf te ((wipe σ vs).set j (some x)) D (I (i + 1))))
    (hd : ∀ acc H, I xs.length acc H → Qd H) (hw : ∀ x, wipe ((wipe σ vs).set j (some x)) vs = wipe σ vs := by intro _; rfl) : LcGoal (Itl K a) (gName j) tt te vs σ H1 D Qd :=
  lc_it walk_list (fun i H => ∃ acc, I i acc H) ⟨[], h0⟩ (fun i H _ ⟨acc, h⟩ => hI i acc H h) (fun i x H H' hi ⟨acc, h⟩ y => by
    obtain ⟨rfl, y⟩ := y
    exact ⟨hw x, hs i x acc _ y h⟩) (fun H ⟨acc, h⟩ => hd acc H h)
theorem lcf_tup (I : Nat → List V → Hp → Prop) (h0 : I 0 [] (upd H1 D (.lst []))) (hI : ∀ i acc H, I i acc H → SqT K H a xs)
    (hs : ∀ i x acc H, xs[i]? = some x → I i acc H → tt ((wipe σ vs).set j (some x)) H (AppIf te ((wipe σ vs).set j (some x)) D (I (i + 1))))
    (hd : ∀ acc H, I xs.length acc H → Qd H) (hw : ∀ x, wipe ((wipe σ vs).set j (some x)) vs = wipe σ vs := by intro _; rfl) : LcGoal (Itt K a) (gName j) tt te vs σ H1 D Qd :=
  lc_it walk_tup (fun i H => ∃ acc, I i acc H) ⟨[], h0⟩ (fun i H _ ⟨acc, h⟩ => hI i acc H h) (fun i x H H' hi ⟨acc, h⟩ y => by
    obtain ⟨rfl, y⟩ := y
    exact ⟨hw x, hs i x acc _ y h⟩) (fun H ⟨acc, h⟩ => hd acc H h)
end
end Fx
end

section
set_option Elab.async false
set_option linter.all false
set_option maxRecDepth 100000
set_option maxHeartbeats 4000000
/-! o[i], o[i] = v by the class's own defs; a written dict whose keys are ints and None -/
namespace Fx
open PySem PySem.Spec PyProof.Rows L2
section
variable {X : Cx} {k : Nat} {f C : Addr} {fd : FuncData} {ps : List Str} {sp : Sp} {a b : Expr} {ta tb : TE} {pos : Pos}
/-- a callee that is run one C call deeper -/
theorem run_in1 {pins : List (Addr × Obj)} {σ : L2.St} {H : Hp} {s : Shared} {Q : VK} {us : List Value} {vs : List V}
    (F : FnOk X.prog X.w X.K X.mg X.base CX0 k f fd ps sp) (hr : Room (k + 1) X.A) (hb : Binds X.K fd ps [])
    (I : Inv X pins σ H s) (r : Vals vs us) (h : sp vs H Q E0) :
    wpAny (model X.prog X.w) X.A.in1 (call (.ref f) us) (EP X pins σ Q) X.xe s := by
  have hl : us.length = ps.length := r.length.symm.trans (F.len _ _ _ _ h)
  have bd : BindsTo s fd ⟨us, []⟩ (ps.zip us) := by
    have z := hb s us I.kIn (by rw [List.append_nil]; exact hl)
    rw [List.append_nil] at z; exact z
  refine wpAny_call (codeAny_mono (F.run X.A.in1 X.stack s H ⟨us, []⟩ us vs Q E0 hr.in1 (Env0.in1 I.env0) bd r h) ?_)
  rintro (e | fl) s' hq
  · exact hq.elim
  · cases fl <;> first | exact I.after hq | exact hq.elim
theorem run_here {pins : List (Addr × Obj)} {σ : L2.St} {H : Hp} {s : Shared} {Q : VK} {us : List Value} {vs : List V}
    (F : FnOk X.prog X.w X.K X.mg X.base CX0 k f fd ps sp) (hr : Room k X.A) (hb : Binds X.K fd ps [])
    (I : Inv X pins σ H s) (r : Vals vs us) (h : sp vs H Q E0) :
    wpAny (model X.prog X.w) X.A (call (.ref f) us) (EP X pins σ Q) X.xe s := by
  have h' : sp (vs ++ []) H Q E0 := by rw [List.append_nil]; exact h
  exact run_fn F hr hb .nil pass0 I r h'
/-- o[i] by the class's own def -/
def rOwnGet (C : Addr) (sp : Sp) : R2 := fun x y H Q => ∃ a dx fs, x = .ref a ∧ H a = some (.ins C dx fs) ∧ sp [x, y] H Q E0
theorem pe_ownget {K : PySem.W.Frag} (eK : X.K = K) (hs : PySem.W.findIn K (.ref C) "__getitem__" = some (some (.ref f))) (hfn : PySem.W.isFn K (.ref f) = true) (hf : PySem.W.fnIn K f = true)
    (F : FnOk X.prog X.w X.K X.mg X.base CX0 k f fd ps sp) (hr : Room (k + 1) X.A) (hb : Binds X.K fd ps [])
    (ha : PE X a ta) (hi : PE X b tb) (hsl : ∀ o i, subscripted b true o i = runValue (.builtin "lifetime.subscript" ⟨[o, i], []⟩) := by intro _ _; rfl) :
    PE X (.Subscript a b pos) (tOp (rOwnGet C sp) ta tb) := by
  subst eK
  refine ⟨fun pins s σ H Q I h => ?_⟩
  refine Subscript_ (thn (ha.run pins s σ H _ I h) fun v s1 ⟨x, H1, I1, r1, q1⟩ => thn (hi.run pins s1 σ H1 _ I1 q1) fun u s2 ⟨y, H2, I2, r2, q2⟩ => ?_)
  obtain ⟨a, dx, fs, rfl, ea, q⟩ := q2
  obtain rfl : v = Value.ref a := r1
  obtain ⟨mA, O, _⟩ := ins_get I2.hok ea
  obtain ⟨od, J, _⟩ := O.look
  obtain ⟨m, fr⟩ := I2.fr
  exact PySem.W.sub_K fr I2.ok.mod.kin J hs hf hfn (run_in1 F hr hb I2 (.cons (show L2.RelV (.ref a) (.ref a) from rfl) (.cons r2 .nil)) q) (hsl _ _)
/-- o[i] = v by the class's own def -/
def tOwnSet (C : Addr) (sp : Sp) : TSet := fun o i v H Q => ∃ a dx fs, o = .ref a ∧ H a = some (.ins C dx fs) ∧ sp [o, i, v] H (fun _ H' => Q H') E0
theorem set_own (hq : PySem.W.noSeq X.K C = true) (hs : PySem.W.findIn X.K (.ref C) "__setitem__" = some (some (.ref f))) (hfn : PySem.W.isFn X.K (.ref f) = true)
    (F : FnOk X.prog X.w X.K X.mg X.base CX0 k f fd ps sp) (hr : Room k X.A) (hb : Binds X.K fd ps []) : PSet X (tOwnSet C sp) := by
  intro pins s σ H o i v ov iv u Q I ro ri rv h
  obtain ⟨a, dx, fs, rfl, ea, q⟩ := h
  obtain rfl : ov = Value.ref a := ro
  obtain ⟨mA, O, _⟩ := ins_get I.hok ea
  obtain ⟨od, J, _⟩ := O.look
  obtain ⟨m, fr⟩ := I.fr
  refine PySem.W.ksp_setItem fr I.ok.mod.kin J hq hs hfn (thn (run_here F hr hb I (.cons (show L2.RelV (.ref a) (.ref a) from rfl) (.cons ri (.cons rv .nil))) q) ?_)
  rintro _ s' ⟨_, H', I', _, q'⟩
  exact ⟨H', I', q'⟩
end

/-! ### keys that are ints or None -/
theorem pyHash_none {prog : Program} {w : World} {A : Around} {E : Value → Shared → Prop} {s : Shared} {Q : Int → Shared → Prop} (h : Q 0xFCA86420 { s with toks := s.toks + 1 }) :
    wpAny (model prog w) A (pyHash .none) Q E s := by
  unfold pyHash
  have hv : [Value.none].any Value.onHeap = false := rfl
  refine wpAny_bind ?_
  rw [cRoomFor, if_neg (by rw [hv]; decide)]
  refine wpAny_pure (wpAny_bind (wpAny_specialOf (typeIs_none s) F.slot_NoneType_hash.lookup ?_))
  show wpAny _ _ (if (some (Value.builtin "NoneType.__hash__") == some Value.none) = true then _ else _) Q E s
  rw [if_neg (by rw [beq_builtin_none]; decide)]
  refine wpAny_bind (wpAny_specialOf (typeIs_none s) F.slot_NoneType_hash.lookup ?_)
  show wpAny _ _ (callSpecialIfBoundUnlessNone? .none "__hash__" _ >>= _) Q E s
  refine wpAny_bind (wpAny_callSpecialIfBoundUnlessNone?_slot (typeIs_none s) F.slot_NoneType_hash
    (wpAny_call_entry F.slot_NoneType_hash (typeIs_none s) F.entry_NoneType_hash
      (show wpAny _ _ (do ret (← mkInt 0xFCA86420)) _ _ s from wpAny_ret_mkInt ?_) (F.args_NoneType_hash_1 _)))
  show wpAny _ _ (if (decide (-(2 : Int) ^ 63 ≤ 0xFCA86420) && decide ((0xFCA86420 : Int) < 2 ^ 63)) = true then _ else _) Q E _
  rw [if_pos (by decide)]
  exact wpAny_pure h
def nkIs : Option Int → Value → Bool
  | some k, v => Value.isInt k v
  | none, v => v == .none
def nkHash : Option Int → Int
  | some k => hashInt k
  | none => 0xFCA86420
theorem nkIs_shape {k : Option Int} {v : Value} (h : nkIs k v = true) : (∃ i t, k = some i ∧ v = .int i t) ∨ (k = none ∧ v = .none) := by
  cases k with
  | some i =>
    obtain ⟨t, e⟩ := Value.isInt_shape (k := i) (v := v) h
    exact .inl ⟨i, t, rfl, e⟩
  | none =>
    have e : (v == Value.none) = true := h
    refine .inr ⟨rfl, ?_⟩
    cases v <;> first | rfl | (simp at e)
def nKind (prog : Program) (w : World) : PySem.KeyKind prog w (Option Int) where
  is := nkIs
  hash := nkHash
  inj := fun v a b ha hb => by
    rcases nkIs_shape ha with ⟨i, t, rfl, rfl⟩ | ⟨rfl, rfl⟩ <;> rcases nkIs_shape hb with ⟨j, u, rfl, e⟩ | ⟨rfl, e⟩
    · injection e with e1 _; rw [e1]
    · cases e
    · cases e
    · rfl
  byValue := fun k v h => by rcases nkIs_shape h with ⟨i, t, rfl, rfl⟩ | ⟨rfl, rfl⟩ <;> rfl
  pyHash := fun hv h => by
    rcases nkIs_shape hv with ⟨i, t, rfl, rfl⟩ | ⟨rfl, rfl⟩
    · exact wpAny_pyHash_int h
    · exact pyHash_none h
  eqBool := fun {A E s a b u v Q} hu hv h => by
    rcases nkIs_shape hu with ⟨i, t, rfl, rfl⟩ | ⟨rfl, rfl⟩ <;> rcases nkIs_shape hv with ⟨j, t', rfl, rfl⟩ | ⟨rfl, rfl⟩
    · refine wpAny_eqBool_int ?_
      have e : (i == j) = decide (some i = some j) := by
        by_cases q : i = j
        · subst q; simp
        · simp [q]
      rw [e]; exact h
    · exact SeqAt.EqAt.int_none i t _ _ _ _ h
    · exact SeqAt.EqAt.none_int j t' _ _ _ _ h
    · exact SeqAt.EqAt.same _ _ _ _ _ h
  «strs» := fun k x t v h => by
    rcases nkIs_shape h with ⟨i, u, rfl, e⟩ | ⟨rfl, e⟩ <;> cases e
/-- a dict of the written part at d: its keys, and what stands under each -/
def nkAt (K : PySem.W.Frag) (d : Addr) (rows : List (Option Int × Addr)) : Bool := match K.lookup d with
  | some ⟨.type c, none, .dict es _, sl⟩ => decide (c = "dict") && (sl.isEmpty && (decide (es.size = rows.length) && (es.toList.zip rows).all fun p => nkIs p.2.1 p.1.key && (decide (p.1.hash = nkHash p.2.1) && decide (p.1.val = .ref p.2.2))))
  | _ => false
theorem nk_map {P : Program} {w : World} {K : PySem.W.Frag} {d : Addr} {rows : List (Option Int × Addr)} {h : Heap} (c : nkAt K d rows = true) (X : K.In h) {k : Option Int} {t : Addr}
    (hk : rows.find? (fun r => decide (r.1 = k)) = some (k, t)) : ∃ f, h.MapOf (nKind P w) d f ∧ f k = some (.ref t) := by
  unfold nkAt at c
  cases q : K.lookup d with
  | none => rw [q] at c; cases c
  | some o =>
    obtain ⟨oc, od, dt, sl⟩ := o
    rw [q] at c
    cases oc with
    | type cn =>
      cases od with
      | some z => cases dt <;> cases c
      | none =>
        cases dt with
        | dict es ep =>
          obtain ⟨c1, c2⟩ := He.ba (show (decide (cn = "dict") && (sl.isEmpty && (decide (es.size = rows.length) && (es.toList.zip rows).all fun p => nkIs p.2.1 p.1.key && (decide (p.1.hash = nkHash p.2.1) && decide (p.1.val = .ref p.2.2))))) = true from c)
          obtain ⟨c3, c4⟩ := He.ba c2
          obtain ⟨c5, c6⟩ := He.ba c4
          obtain rfl : cn = "dict" := of_decide_eq_true c1
          obtain rfl : sl = #[] := Array.isEmpty_iff.mp c3
          have hsz : es.toList.length = rows.length := of_decide_eq_true c5
          refine ⟨findBy nkIs es, ⟨_, es, ep, X _ _ q, ⟨rfl, rfl, rfl⟩, rfl, fun e he => ?_, fun _ => rfl⟩, ?_⟩
          · obtain ⟨i, hi⟩ := List.mem_iff_getElem?.mp (Array.mem_toList_iff.mpr he)
            have hl := lt_of_get hi
            have hz : (es.toList.zip rows)[i]? = some (e, rows[i]'(by omega)) := by
              rw [List.getElem?_zip_eq_some]; exact ⟨hi, List.getElem?_eq_getElem (by omega)⟩
            have z := List.all_eq_true.mp c6 _ (List.mem_of_getElem? hz)
            obtain ⟨z1, z2⟩ := He.ba z
            obtain ⟨z3, _⟩ := He.ba z2
            exact ⟨_, z1, of_decide_eq_true z3⟩
          · unfold findBy
            rw [← Array.find?_toList]
            clear c c1 c2 c3 c4 c5 q X
            generalize es.toList = l at *
            induction l generalizing rows with
            | nil => cases rows <;> simp at hsz hk
            | cons e l ih =>
              cases rows with
              | nil => simp at hsz
              | cons r rows =>
                rw [List.zip_cons_cons, List.all_cons] at c6
                obtain ⟨z, zs⟩ := He.ba c6
                obtain ⟨z1, z2⟩ := He.ba z
                obtain ⟨z3, z4⟩ := He.ba z2
                rw [List.find?_cons] at hk ⊢
                by_cases e1 : r.1 = k
                · rw [decide_eq_true e1] at hk
                  have e2 : r = (k, t) := Option.some.inj hk
                  have e3 : nkIs k e.key = true := by rw [← e1]; exact z1
                  rw [e3]
                  have e4 : e.val = .ref r.2 := of_decide_eq_true z4
                  show some e.val = _
                  rw [e4, e2]
                · rw [decide_eq_false e1] at hk
                  have e3 : nkIs k e.key = false := by
                    cases y : nkIs k e.key with
                    | false => rfl
                    | true => exact absurd ((nKind P w).inj _ _ _ z1 y) e1
                  rw [e3]
                  exact ih hk zs (by simpa using hsz)
        | _ => cases c
    | _ => cases od <;> cases dt <;> cases c
def nkOf : V → Option (Option Int)
  | .int i => some (some i)
  | .non => some none
  | _ => none
/-- d[y], d such a written dict -/
def rNkGet (d : Addr) (rows : List (Option Int × Addr)) : R2 := fun x y H Q => ∃ k t, x = .ref d ∧ nkOf y = some k ∧ rows.find? (fun r => decide (r.1 = k)) = some (k, t) ∧ Q (.ref t) H
theorem ix_nk {X : Cx} {d : Addr} {rows : List (Option Int × Addr)} (c : nkAt X.K d rows = true) : IxR X (rNkGet d rows) := by
  intro value slice pins s σ H x y v u Q I rx ry h hs
  obtain ⟨k, t, rfl, hk, hf, q⟩ := h
  obtain rfl : v = Value.ref d := rx
  obtain ⟨f, hm, hv⟩ := nk_map (P := X.prog) (w := X.w) c I.kIn hf
  have hkey : nkIs k u = true := by
    cases y <;> simp [nkOf] at hk
    · subst hk
      obtain rfl : u = Value.none := ry
      rfl
    · subst hk
      obtain ⟨t', rfl⟩ := (show ∃ t, u = Value.int _ t from ry)
      simp [nkIs, Value.isInt]
  exact tail_any hm.typeIs F.slot_dict_getitem.lookup (wpAny_getItem_of hkey hm hv ⟨.ref t, H, I.tok _, rfl, q⟩) hs
end Fx
end

section
set_option Elab.async false
set_option linter.all false
set_option maxRecDepth 100000
set_option maxHeartbeats 4000000
/-! {k: v for .. in ..} whose keys are tuples -/
namespace Fx
open PySem PySem.Spec PyProof.Rows L2
/-- D[u] = r within such a comprehension -/
theorem dictSet_put {X : Cx} {pins : List (Addr × Obj)} {σ : L2.St} {H H' : Hp} {s : Shared} {E : Value → Shared → Prop} {D : Addr} {y v : V} {u r : Value} {Q : Unit → Shared → Prop}
    (hu : X.A.units < cLine) (I : Inv X pins σ H s) (g : DPut H D y v H') (ry : L2.RelV y u) (rv : L2.RelV v r) (h : ∀ s', Inv X pins σ H' s' → Q () s') : wpAny (model X.prog X.w) X.A (dictSet D u r) Q E s := by
  rcases g with ⟨kvs, k, e, rfl, l, rfl⟩ | ⟨kvs, k, b, e, rfl, eb, l, rfl⟩
  · exact d_dictSet I e l ry rv h
  · obtain rfl : u = Value.ref b := ry
    obtain ⟨z, hd, xs, rel, dd⟩ := dt_of I.hok e
    have hz : xs.length ≤ sizeLine := (Paired.length rel) ▸ z
    have hl : (putK kvs k v).length ≤ sizeLine := by have := length_putK kvs k v; omega
    refine wpAny_dictSet_heap (hsz := hz) (show (tupleKind (mixKind X.prog X.w)).room X.A from hu) (key_of I.hok eb) dd fun h' dd' hs => h _ ?_
    obtain ⟨q, es, ep, hq, h2, h3, h4, _, h5⟩ := dd'
    refine d_write I (by rw [e]; exact True.intro) hs ⟨q, hq⟩ ⟨hl, hd, _, (rel.put k eb rv).keeps fun c ys ec => ?_, q, es, ep, hq, h2, h3, h4, h5⟩
    exact (upd_ne (ne_of ec e (fun z => nomatch z))).trans ec
/-- the reading: D the new dict, empty as o0 says -/
def tDcP (o0 : HO) (wi : TI) (g : TG) (tk tv : TE) (vs : List Nat) : TE := fun σ H Q => wi σ H fun J H1 => ∀ D, H1 D = none → ∃ W : Nat → Nat → Hp → Prop, (∃ m, W 0 m (upd H1 D o0)) ∧ ∀ i m H, W i m H →
  (J.stop i H ∧ Q (.ref D) H) ∨ (J.go i H ∧ ∃ Nx : Hp → Prop, (∀ H', Nx H' → ∃ m', m' < m ∧ W (i + 1) m' H') ∧ ∀ x H', J.yld i H x H' → g x (wipe σ vs) H' fun σ2 H2 => wipe σ2 vs = wipe σ vs ∧
    tk σ2 H2 fun y H4 => tv σ2 H4 fun z H5 => ∃ H6, DPut H5 D y z H6 ∧ Nx H6)
section
variable {X : Cx} {kx vx tg iter : Expr} {scope : Scope} {own : List (Str × Nat)} {pos : Pos} {wi : TI} {g : TG} {tk tv : TE} {o0 : HO}
theorem pe_dcP (ho : o0 = .dK [] ∨ o0 = .dT []) (hc : X.calm = true) (hu : X.A.units < cLine) (hN : X.N.Nodup) (hi : PI X tg iter wi) (ok : BlkOk X.N X.env.scope scope own)
    (hg : ∀ (s : Shared) (H : Hp) (C : Addr) (cl : List (Str × Addr)) (fp : List Addr), PG (X.blk s H scope (compEnvC scope cl C X.env) fp) tg g)
    (hk : ∀ (s : Shared) (H : Hp) (C : Addr) (cl : List (Str × Addr)) (fp : List Addr), PE (X.blk s H scope (compEnvC scope cl C X.env) fp) kx tk)
    (he : ∀ (s : Shared) (H : Hp) (C : Addr) (cl : List (Str × Addr)) (fp : List Addr), PE (X.blk s H scope (compEnvC scope cl C X.env) fp) vx tv)
    (hs : ∀ x, foldedSetIterable iter X.env x = pure x := by intro _; rfl) :
    PE X (.DictComp kx vx [⟨tg, iter, [], 0⟩] scope pos) (tDcP o0 wi g tk tv (own.map (·.2))) := by
  constructor
  intro pins s σ H Q I h
  rw [arm_eval_DictComp]
  have cells : ∀ y ∈ scope.names, y.2 = .free → ∃ c, X.env.cells.lookup y.1 = some c := fun y hy e => I.ok.has _ (ok.free y hy e)
  refine wpAny_comprehension_free (use := none) rfl hs (closure_ok cells) ok.kind (fun y hy e => (ok.uniq y hy).trans (congrArg some e)) (thn (hi.run pins s σ H _ I h) fun xv s1 hx => thn hx fun itv s2 h2 => ?_)
  obtain ⟨it, fp, tn, J, H2, rfl, I2, T, st2, f2, q⟩ := h2
  refine wpAny_newObj_type (newEnv_comp ?_)
  -- D, the new dict
  obtain ⟨D, hD⟩ : ∃ D, D = s2.heap.objs.size := ⟨_, rfl⟩
  rw [← hD]
  have hDn : H2 D = none := I2.hok.fresh (Nat.le_of_eq hD.symm)
  obtain ⟨W, ⟨m0, w0⟩, turn⟩ := q D hDn
  obtain ⟨s3, hs3⟩ : ∃ s3 : Shared, s3 = { s2 with heap := s2.heap.push { cls := .type "dict", data := .dict #[] } } := ⟨_, rfl⟩
  rw [← hs3]
  have h3 : s3.heap = s2.heap.push { cls := .type "dict", data := .dict #[] } := by rw [hs3]
  obtain ⟨H3, hH3⟩ : ∃ H3, H3 = upd H2 D o0 := ⟨_, rfl⟩
  rw [← hH3] at w0
  have I3 : Inv X pins σ H3 s3 := by
    rw [hs3, hH3]
    refine I2.laid (t' := s2.toks) (fun b o e => Heap.get?_push_of_some _ e) (Nat.le_of_eq hD.symm) ?_
    rw [hD]
    rcases ho with rfl | rfl
    · exact dk_empty s2.heap I2.big
    · exact dt_empty s2.heap I2.big
  have low : ∀ b ∈ fp, b < s2.heap.objs.size := fun b hb => (T.obj _ _ st2 b hb).elim fun o e => Heap.lt_size e.1
  have f3 : ∀ b ∈ fp, FpOk X pins H3 b ∧ b < s3.heap.objs.size := fun b hb => by
    have hlt := low b hb
    have nb : b ≠ D := by rw [hD]; exact Nat.ne_of_lt hlt
    refine ⟨⟨?_, (f2 b hb).2⟩, ?_⟩
    · rw [hH3, upd_ne nb]; exact (f2 b hb).1
    · rw [h3, Heap.size_push]; exact Nat.lt_succ_of_lt hlt
  have st3 : tn 0 s3.heap := T.keep _ _ _ st2 fun b _ o e => by rw [h3]; exact Heap.get?_push_of_some _ e
  have I4 := block_start I3 ok hN f3
  have pg := hg s3 H3 s3.heap.objs.size (cellsFrom (s3.heap.objs.size + 1) scope.names (cloFrom X.env.cells scope.names [])) fp
  have pk := hk s3 H3 s3.heap.objs.size (cellsFrom (s3.heap.objs.size + 1) scope.names (cloFrom X.env.cells scope.names [])) fp
  have pe := he s3 H3 s3.heap.objs.size (cellsFrom (s3.heap.objs.size + 1) scope.names (cloFrom X.env.cells scope.names [])) fp
  have nfp : ∀ b ∈ fp, H3 b = none := fun b hb => (f3 b hb).1.1
  show codeAny _ _ (.compStart (.DictComp kx vx [⟨tg, iter, [], 0⟩] scope pos) 0 (.ref it) (.ref D) (compEnvC scope (cellsFrom (s3.heap.objs.size + 1) scope.names (cloFrom X.env.cells scope.names [])) s3.heap.objs.size X.env))
    (compPost (model X.prog X.w) X.A X.xe none (EP X pins σ Q) (.ref D) s3.heap.objs.size) { s3 with heap := pushCells (s3.heap.push { cls := .type "dict", data := .dict #[] }) scope.names }
  generalize hce : compEnvC scope (cellsFrom (s3.heap.objs.size + 1) scope.names (cloFrom X.env.cells scope.names [])) s3.heap.objs.size X.env = ce at I4 pg pk pe ⊢
  have cL : ce.locals = s3.heap.objs.size := by rw [← hce]; rfl
  generalize hs4 : ({ s3 with heap := pushCells (s3.heap.push { cls := .type "dict", data := .dict #[] }) scope.names } : Shared) = s4 at I4 ⊢
  have st4 : tn 0 s4.heap := T.keep _ _ _ st3 fun b _ o e => by rw [← hs4]; exact pushCells_keeps _ _ _ _ (Heap.get?_push_of_some _ e)
  have B : ∀ {σ' : L2.St} {H' : Hp} {s' : Shared}, Inv (X.blk s3 H3 scope ce fp) [] σ' H' s' → (∀ b ∈ fp, H' b = none) → ∀ b ∈ fp, FpOk (X.blk s3 H3 scope ce fp) [] H' b := by
    intro σ' H' s' I' hn b hb
    exact ⟨hn b hb, (I'.ok.exf b hb).1, I'.ok.exfs b hb, .inl hb, fun x c e => (I'.ok.exf b hb).2 x c e, fun p hp => by
      have z : p ∈ ([] : List (Addr × Obj)) ++ [] := hp
      simp at z⟩
  -- the loop
  have loop : codeAny (model X.prog X.w) X.A (.compLoop (.DictComp kx vx [⟨tg, iter, [], 0⟩] scope pos) 0 (.ref it) (.ref D) ce) (compPost (model X.prog X.w) X.A X.xe none (EP X pins σ Q) (.ref D) s3.heap.objs.size) s4 := by
    refine compLoop_anyD (fun n s' => ∃ i H', Inv (X.blk s3 H3 scope ce fp) [] (wipe σ (own.map (·.2))) H' s' ∧ tn i s'.heap ∧ (∀ b ∈ fp, H' b = none) ∧ W i n H') ?_ m0 ⟨0, H3, I4, st4, nfp, w0⟩
    rintro n s5 ⟨i, H5, I5, st5, n5, w5⟩
    rcases turn i n H5 w5 with ⟨stop, qq⟩ | ⟨go, Nx, hNx, step⟩
    · refine thnF (T.done (X.blk s3 H3 scope ce fp) rfl rfl rfl hc i [] s5 _ H5 (fun _ _ => False) I5 (B I5 n5) st5 stop) ?_
      rintro r s6 ⟨rfl, I6⟩
      have I7 : Inv X pins σ H5 s6 := I3.call' (ch := fp) I6.os I6.base I6.hok I6.bare fun b hb => let z := (f3 b hb).1; ⟨z.2.2.2.1, z.2.1, z.2.2.2.2.1, z.2.2.2.2.2⟩
      have nC : H5 s3.heap.objs.size = none := cL ▸ (show H5 ce.locals = none from I6.free)
      obtain ⟨m, hn, _⟩ := I6.loc
      have hn : s6.heap.Ns s3.heap.objs.size m := cL ▸ (show s6.heap.Ns ce.locals m from hn)
      obtain ⟨f0, f1, f2, f3', f4, f5⟩ := I3.fpOk (Nat.le_refl _) nC
      exact ⟨m, hn, fun h'' sb => ⟨.ref D, H5, I7.turned (t' := s6.toks) (fun b o hb e => (sb.2 b hb).trans e) f0 f1 f3' f4 f5, rfl, qq⟩⟩
    · refine thnF (T.item (X.blk s3 H3 scope ce fp) rfl rfl rfl hc i [] s5 _ H5 (fun _ _ => False) I5 (B I5 n5) st5 go) ?_
      rintro r s6 ⟨u, rfl, h6⟩
      refine thnF h6 ?_
      rintro _ s7 ⟨x, H7, I7, r7, y7, st7, n7⟩
      have I7' := I7.pinned (B I7 n7) (T.obj _ _ st7)
      refine thnF (pg.run _ s7 _ H7 x u _ I7' r7 (step x H7 y7)) ?_
      rintro _ s8 ⟨σ8, H8, I8, hw8, q8⟩
      refine thnF ((pts_nil (X := X.blk s3 H3 scope ce fp)).run _ s8 σ8 H8 _ I8 (show tYes σ8 H8 (fun b H9 => b = true ∧ H9 = H8) from ⟨rfl, rfl⟩)) ?_
      rintro b s9 ⟨H9, I9, rfl, rfl⟩
      show wpAny _ _ _ _ _ _
      refine thnF (pk.run _ s9 σ8 H9 _ I9 q8) ?_
      rintro z s10 ⟨yk, H10, I10, r10, q10⟩
      refine thnF (pe.run _ s10 σ8 H10 _ I10 q10) ?_
      rintro z2 s11 ⟨yv, H11, I11, r11, H12, put, nx⟩
      refine dictSet_put (X := X.blk s3 H3 scope ce fp) hu I11 put r10 r11 fun s12 I12 => ?_
      obtain ⟨m', hm, w'⟩ := hNx H12 nx
      have pin : ∀ b ∈ fp, ∀ o, s7.heap.get? b = some o → s12.heap.get? b = some o ∧ H12 b = none := fun b hb o e => by
        have z := I12.pin (b, o) (List.mem_append_right _ (List.mem_append_right _ (mem_pinsAt hb e)))
        exact ⟨z.1, z.2.1⟩
      refine ⟨m', hm, i + 1, H12, (I12.unpinned (pins := [])).weak (by rw [← hw8, wipe_length]) (fun j v e => (wipe_some (hw8 ▸ e)).1), T.keep _ _ _ st7 fun b hb o e => (pin b hb o e).1, fun b hb => ?_, w'⟩
      obtain ⟨o, e, _⟩ := T.obj _ _ st7 b hb
      exact (pin b hb o e).2
  exact codeAny_compStart_dict loop (T.self X.A 0 _ _ _ st4 loop)
end
end Fx
end

section
set_option Elab.async false
set_option linter.all false
set_option maxRecDepth 100000
set_option maxHeartbeats 4000000
/-! {t: v}, t a tuple; calls by keywords alone; enumerate(tuple); a dict with tuple keys walked -/
namespace Fx
open PySem PySem.Spec PyProof.Rows L2
section
variable {X : Cx} {kx vx : Expr} {tk tv : TE} {pos : Pos}
def tDisp1T (tk tv : TE) : TE := fun σ H Q => ∀ p, H p = none → tk σ (upd H p (.dT [])) fun y H1 => tv σ H1 fun z H2 => H2 p = some (.dT []) ∧ ∃ k b, y = .ref b ∧ H2 b = some (.tup (k.map kV)) ∧ Q (.ref p) (upd H2 p (.dT [(k, z)]))
theorem pe_dict1T (hu : X.A.units + 1 < cLine) (hk : PE X kx tk) (hv : PE X vx tv) : PE X (.Dict [some kx] [vx] pos) (tDisp1T tk tv) := by
  refine ⟨fun pins s σ H Q I q => ?_⟩
  have hn := I.hok.fresh (Nat.le_refl s.heap.objs.size)
  have I1 := I.laid (a := s.heap.objs.size) (o := .dT []) (h' := s.heap.push { cls := .type "dict", data := .dict #[] }) (t' := s.toks) (fun _ _ q => Heap.get?_push_of_some _ q) (Nat.le_refl _) (dt_empty s.heap I.big)
  have e0 : (evalEachOpt [some kx] X.env).zip ((evalEach [vx] X.env).map fun v => do let x ← v; standAt pos; pure x) = (pairTrees [some kx] [vx] X.env pos).map fun p => (some p.1, p.2) := rfl
  rw [arm_eval_Dict, e0, dictDisplay_pairs (pairTrees [some kx] [vx] X.env pos) (by intro z; cases z) (by show 1 < 17; decide)]
  refine wpAny_bind (wpAny_standAt (wpAny_bind (wpAny_subDictH (knd := tupleKind (mixKind X.prog X.w)) (Q := fun d s' => wpAny (model X.prog X.w) X.A (pure (Value.ref d)) (EP X pins σ Q) X.xe s')
    (show X.A.units < cLine by omega) (by show 1 ≤ 15; decide) ?_)))
  refine thn ((pps_cons hk hv pps_nil).run pins _ σ _ (fun ps H2 => match ps with
    | [(y, z)] => H2 s.heap.objs.size = some (.dT []) ∧ ∃ k b, y = .ref b ∧ H2 b = some (.tup (k.map kV)) ∧ Q (.ref s.heap.objs.size) (upd H2 s.heap.objs.size (.dT [(k, z)]))
    | _ => False) I1 (q _ hn)) ?_
  rintro ws s2 ⟨ps, H2, I2, rel, q2⟩
  cases rel with
  | nil => exact q2.elim
  | @cons p0 w0 ps0 ws0 r0 rel =>
    cases rel with
    | cons _ _ => exact q2.elim
    | nil =>
      obtain ⟨y, z⟩ := p0
      obtain ⟨uy, uz⟩ := w0
      obtain ⟨ry, rz⟩ := r0
      obtain ⟨e, k, b, rfl, eb, qq⟩ := q2
      obtain rfl : uy = Value.ref b := ry
      obtain ⟨_, hd, xs, r1, dd⟩ := dt_of I2.hok e
      cases r1
      refine ⟨[(k, b, uz)], ⟨rfl, rfl, key_of I2.hok eb, True.intro⟩, dd, fun h' tk' dd' hs => wpAny_pure ⟨.ref s.heap.objs.size, _, ?_, rfl, qq⟩⟩
      obtain ⟨q, es, ep, hq, h2, h3, h4, _, h5⟩ := dd'
      refine d_write (t' := tk') I2 (by rw [e]; exact True.intro) hs ⟨q, hq⟩ ⟨by show 1 ≤ sizeLine; decide, hd, [(k, b, uz)], .cons ⟨rfl, ?_, rz⟩ .nil, q, es, ep, hq, h2, h3, h4, h5⟩
      exact (upd_ne (ne_of eb e (fun z => nomatch z))).trans eb
end
end Fx
end

section
set_option Elab.async false
set_option linter.all false
set_option maxRecDepth 100000
set_option maxHeartbeats 4000000
/-! for i, x in enumerate(tuple) -/
namespace Fx
open PySem PySem.Spec PyProof.Rows L2
theorem meets_enum1 {v : Value} {o : Obj} {H : Heap → Prop} (B : Begins v o H) :
    Meets (Builtin.«enumerate.__new__» ⟨[.type "enumerate", v], []⟩) (fun _ R s => H s.heap ∧
      R (.ok (.ret (.ref (s.heap.push o).objs.size))) { s with heap := (s.heap.push o).push { cls := .type "enumerate", data := .fields #[.none, .bool false, .ref s.heap.objs.size, rawInt 0, .none, .none] } }) :=
  .of_wp fun prog w A R s h => by
    obtain ⟨hp, g, d, tk, os⟩ := s
    obtain ⟨h1, h⟩ := h
    have hsub := sub_enumerate
    have it : ∀ {A' : Around} {E : Value → Shared → Prop} {Q : Value → Shared → Prop}, Q (.ref hp.objs.size) ⟨hp.push o, g, d, tk, os⟩ → wpAny (model prog w) A' (pyIter v) Q E ⟨hp, g, d, tk, os⟩ :=
      fun q => B.iter prog w _ _ ⟨hp, g, d, tk, os⟩ _ h1 q
    wp_walk using it
    refine wpAny_stack_any fun st => wpAny_pure ?_
    split
    · rename_i c _ _ _ _ _
      cases (c == Value.type "enumerate")
      all_goals
        wp_walk using it
        exact ⟨_, rfl, h⟩
    · wp_walk using it
      exact ⟨_, rfl, h⟩
/-- the tuple at a, each item in a new pair -/
def IteT (K : PySem.W.Frag) (a : Addr) : It :=
  ⟨fun i H => ∃ (xs : List V) (x : V), SqT K H a xs ∧ xs[i]? = some x, fun i H v H' => ∃ T x, v = .ref T ∧ H T = none ∧ H' = upd H T (.tup [.int (i : Nat), x]) ∧ ∀ xs, SqT K H a xs → xs[i]? = some x, fun i H => ∃ xs : List V, SqT K H a xs ∧ xs.length = i⟩
section
variable {prog : Program} {w : World} {A : Around} {E : Value → Shared → Prop} {s : Shared}
theorem call_enumerate_tuple {l : Addr} {items : Array Value} {Q : Value → Shared → Prop} (hL : s.heap.IsTuple l items)
    (h : ∀ h', IsEnum h' (s.heap.objs.size + 1) s.heap.objs.size 0 .none → h'.IsTupleIter s.heap.objs.size l 0 → h'.objs.size = s.heap.objs.size + 2 →
      (∀ b o, s.heap.get? b = some o → h'.get? b = some o) → Q (.ref (s.heap.objs.size + 1)) { s with heap := h' }) :
    wpAny (model prog w) A (call (.type "enumerate") [.ref l]) Q E s := by
  refine callType_new F.called_enumerate (by decide) (F.typeCall_enumerate_1 _) (F.newCall_enumerate_1 _) (fun obj => F.args_object_init_2 obj _) F.entry_enumerate_new
    (meets_enum1 (begins_tuple l items)) ⟨hL, ?_⟩
  have hz : (s.heap.push { cls := .type "tuple_iterator", data := .fields #[.ref l, .int 0 0] }).objs.size = s.heap.objs.size + 1 := Heap.size_push ..
  show _ ∧ _
  rw [hz]
  have he : IsEnum ((s.heap.push { cls := .type "tuple_iterator", data := .fields #[.ref l, .int 0 0] }).push
      { cls := .type "enumerate", data := .fields #[.none, .bool false, .ref s.heap.objs.size, rawInt 0, .none, .none] }) (s.heap.objs.size + 1) s.heap.objs.size 0 .none := by
    have := Heap.get?_push_size (s.heap.push { cls := .type "tuple_iterator", data := .fields #[.ref l, .int 0 0] })
      (o := { cls := .type "enumerate", data := .fields #[.none, .bool false, .ref s.heap.objs.size, rawInt 0, .none, .none] }) rfl
    rw [hz] at this; exact this
  refine ⟨⟨_, he, rfl⟩, h _ he ⟨_, Heap.get?_push_of_some _ (Heap.get?_push_size _ rfl), rfl, rfl⟩ (by rw [Heap.size_push, hz]) fun b o x => Heap.get?_push_of_some _ (Heap.get?_push_of_some _ x)⟩
end
theorem turn_enumT {P : Program} {w : World} {K : PySem.W.Frag} {elts : List Expr} {kk : Nat} {tpos : Pos} (a e it : Addr) :
    Turn P w K (.Tuple elts kk tpos) (IteT K a) [e, it] e (fun i h => (∃ old, IsEnum h e it ((i : Nat) : Int) old) ∧ h.IsTupleIter it a i ∧ e ≠ it ∧ e ≠ a ∧ a ≠ it) where
  mem := by simp
  obj := fun i h st b hb => by
    obtain ⟨⟨old, he⟩, ⟨o, ho, hc, hd⟩, _⟩ := st
    have e' : b = e ∨ b = it := by simpa using hb
    rcases e' with z | z
    · rw [z]; exact ⟨_, he, fun v q => nomatch q⟩
    · rw [z]; exact ⟨o, ho, fun v q => by rw [hd] at q; cases q⟩
  keep := fun i h h' st k => let ⟨⟨old, he⟩, hi, hne⟩ := st; ⟨⟨old, k e (by simp) _ he⟩, hi.at fun o q => k it (by simp) o q, hne⟩
  item := by
    intro X hP hw hK hc i pins s σ H E I hf st hg
    subst hP hw hK
    obtain ⟨⟨old, he⟩, hit, hne, hea, hai⟩ := st
    obtain ⟨xs, x, hq, hx⟩ := hg
    obtain ⟨its, rv, p, hz⟩ := I.tuple hq
    obtain ⟨u, hu, ru⟩ := rv.get hx
    have hel : e < s.heap.objs.size := Heap.lt_size he
    have hil : it < s.heap.objs.size := by obtain ⟨_, q, _⟩ := hit; exact Heap.lt_size q
    have hlt : i < its.toArray.size := by have := lt_of_get hu; simpa using this
    refine wpAny_pyNext_enum_itemD (Draws.tuple (show X.A.in1.handled = none from I.ok.hd hc) it a hai its.toArray) he ⟨hit, p⟩ hlt hne (by simp [hne, hea]) fun u' h' tk hu' ho hst' hT hsz hk => ?_
    have eu : u' = u := by
      have z : its[i]? = some u' := by simpa using hu'
      rw [hu] at z; exact (Option.some.inj z).symm
    subst eu
    refine ⟨_, rfl, wpAny_letOwnedTupleGo_enum (s := { s with heap := h', toks := tk + 1 }) ho fun h'' he' sb => ?_⟩
    have hT2 : h''.get? s.heap.objs.size = some { cls := .type "tuple", data := .seq #[.int i tk, u'] } := (sb.2 _ (Nat.ne_of_gt hel)).trans hT
    have new : ObjOk X.prog X.w (upd H s.heap.objs.size (.tup [.int (i : Nat), x])) h'' s.heap.objs.size (.tup [.int (i : Nat), x]) :=
      ⟨by show 2 ≤ sizeLine; decide, [.int i tk, u'], .cons ⟨_, rfl⟩ (.cons ru .nil), ⟨_, hT2, rfl, _, rfl⟩⟩
    have I1 : Inv X pins σ (upd H s.heap.objs.size (.tup [.int (i : Nat), x])) { s with heap := h'', toks := tk + 1 } :=
      I.turnedNew (ch := [e, it]) (fun b ob hb q => (sb.2 b (fun z => hb (by simp [z]))).trans (hk b ob (fun z => hb (by simp [z])) (fun z => hb (by simp [z])) q)) hf (Nat.le_refl _) new
    refine ⟨.ref s.heap.objs.size, _, I1, rfl, ⟨_, x, rfl, I.hok.fresh (Nat.le_refl _), rfl, fun ys hy => by rw [I.tuple_inj hy hq]; exact hx⟩, ⟨⟨u', ?_⟩, hst'.1.at fun o q => (sb.2 it (Ne.symm hne)).trans q, hne, hea, hai⟩, fun b hb => ?_⟩
    · have e1 : ((i + 1 : Nat) : Int) = (i : Int) + 1 := by omega
      rw [e1]; exact he'
    · have hb' : b < s.heap.objs.size := by
        have e' : b = e ∨ b = it := by simpa using hb
        rcases e' with z | z
        · rw [z]; exact hel
        · rw [z]; exact hil
      rw [upd_ne (Nat.ne_of_lt hb')]
      exact (hf b hb).1
  done := by
    intro X hP hw hK hc i pins s σ H E I hf st hg
    subst hP hw hK
    obtain ⟨⟨old, he⟩, hit, hne, hea, hai⟩ := st
    obtain ⟨xs, hq, hx⟩ := hg
    obtain ⟨its, rv, p, hz⟩ := I.tuple hq
    obtain ⟨f0, f1, f2, f3, f4, f5⟩ := hf it (by simp)
    have hl := rv.length
    have hz' : its.toArray.size = i := by simp; omega
    refine wpAny_pyNext_enum_endD (Draws.tuple (show X.A.in1.handled = none from I.ok.hd hc) it a hai its.toArray) he (by rw [hz']; exact ⟨hit, p⟩) fun h' eb => ⟨rfl, I.turned (t' := s.toks) (fun b o hb q => eb b o hb q) f0 f1 f3 f4 f5⟩
  self := fun A i s Q E st h => let ⟨⟨_, he⟩, _⟩ := st; wpAny_pyIter_enum he h
def iEnumT (K : PySem.W.Frag) (ta : TA) : TI := fun σ H R => ta σ H fun vs H1 => ∃ a xs, vs = [.ref a] ∧ SqT K H1 a xs ∧ R (IteT K a) H1
theorem k_pienumT {X : Cx} {K : PySem.W.Frag} (eK : X.K = K) {e : Expr} {ta : TA} {p pos tpos : Pos} {elts : List Expr} {kk : Nat} (hg : Gl X "enumerate") (hm : X.mg "enumerate" = none) (ha : PA X [e] ta) (hs : starEach [e] X.env = [(false, eval e X.env)] := by rfl) :
    PI X (.Tuple elts kk tpos) (.Call (.Name "enumerate" p) [e] [] pos) (iEnumT K ta) := by
  subst eK
  refine ⟨fun pins s σ H R I h => ?_⟩
  refine Call_ (ld_blt I hg hm boot_enumerate (PyProof.Rows.callWith_type1 (thn (ha.run pos pins s σ H _ I h) fun us s1 ⟨vs, H1, I1, r1, q1⟩ => ?_) hs rfl))
  obtain ⟨a, xs, ex, hq, q⟩ := q1
  subst ex
  cases r1 with
  | cons r rr =>
    cases rr
    cases r
    obtain ⟨its, rv, p', hz⟩ := I1.tuple hq
    have hlt : a < s1.heap.objs.size := by obtain ⟨_, q, _⟩ := p'; exact Heap.lt_size q
    refine call_enumerate_tuple p' fun h' he hit hsz hk => wpAny_pyIter_enum he ?_
    have I2 : Inv X pins σ H1 { s1 with heap := h' } := I1.kept (t' := s1.toks) hk
    refine ⟨s1.heap.objs.size + 1, [s1.heap.objs.size + 1, s1.heap.objs.size], _, _, H1, rfl, I2, turn_enumT a (s1.heap.objs.size + 1) s1.heap.objs.size, ⟨⟨.none, he⟩, hit, Nat.succ_ne_self _, Nat.ne_of_gt (Nat.lt_succ_of_lt hlt), Nat.ne_of_lt hlt⟩, fun b hb => ?_, q⟩
    have e' : b = s1.heap.objs.size + 1 ∨ b = s1.heap.objs.size := by simpa using hb
    have hle : s1.heap.objs.size ≤ b := by
      rcases e' with z | z
      · rw [z]; exact Nat.le_add_right _ _
      · rw [z]; exact Nat.le_refl _
    exact I1.fpOk hle (I1.hok.fresh hle)
theorem walk_enumT {K : PySem.W.Frag} {a : Addr} {xs : List V} : Walk (IteT K a) xs.length (fun H => SqT K H a xs) (YPair (fun i => some (.int (i : Nat))) (fun i => xs[i]?)) := by
  refine ⟨fun i _ hi q => ⟨xs, xs[i], q, by simp [hi]⟩, fun _ q => ⟨xs, q, rfl⟩, fun i H v H' _ q y => ?_⟩
  obtain ⟨T, x, h1, h2, h3, h4⟩ := y
  exact ⟨T, .int (i : Nat), x, h1, h2, h3, rfl, h4 xs q⟩
section
variable {K : PySem.W.Frag} {a : Addr} {xs : List V} {tgs : TGs} {tb : TS} {D : Ends} {σ : L2.St} {H : Hp}
theorem for_enumT (Pv : Nat → L2.St → Hp → Prop) (h0 : Pv 0 σ H) (hG : ∀ i σ H, i ≤ xs.length → Pv i σ H → SqT K H a xs)
    (hs : ∀ i x σ H T, xs[i]? = some x → Pv i σ H → H T = none → tgs [.int (i : Nat), x] σ (upd H T (.tup [.int (i : Nat), x])) fun σ2 H2 => tb { D with nx := Pv (i + 1), ct := Pv (i + 1), bk := D.nx } σ2 H2)
    (hd : ∀ σ H, Pv xs.length σ H → D.nx σ H) :
    ∃ W : Nat → Nat → L2.St → Hp → Prop, (∃ m, W 0 m σ H) ∧ ∀ i m σ H, W i m σ H →
      ((IteT K a).stop i H ∧ D.nx σ H) ∨ ((IteT K a).go i H ∧ ∃ N : L2.St → Hp → Prop, (∀ σ' H', N σ' H' → ∃ m', m' < m ∧ W (i + 1) m' σ' H') ∧ ∀ x H', (IteT K a).yld i H x H' → gTup K 2 tgs x σ H' fun σ2 H2 => tb { D with nx := N, ct := N, bk := D.nx } σ2 H2) :=
  for_it walk_enumT Pv h0 hG (fun i v σ H H' hi p y => by
    obtain ⟨T, x, z, rfl, hT, rfl, hx, hz⟩ := y
    cases hx
    exact ⟨T, _, rfl, .inl (.inl upd_same), rfl, hs i z σ H T hz p hT⟩) hd
end
end Fx
end

section
set_option Elab.async false
set_option linter.all false
set_option maxRecDepth 100000
set_option maxHeartbeats 4000000
/-! sorted(tuple of texts) -/
namespace Fx
open PySem PySem.Spec PyProof.Rows L2
section
variable {prog : Program} {w : World} {A : Around} {E : Value → Shared → Prop} {s : Shared}
theorem collect_tup {l : Addr} {vs : List Value} {Q : List Value → Shared → Prop} (hl : s.heap.IsTuple l vs.toArray)
    (h : Q vs { s with heap := (s.heap.push (seqObj "list" #[] 0)).update s.heap.objs.size (Obj.mapSeq (· ++ vs.toArray)) }) (hsz : vs.length ≤ sizeLine := by size_fits) :
    wpAny (model prog w) A (collect (.ref l)) Q E s := by
  obtain ⟨o, ho, hc, n, hd⟩ := id hl
  unfold collect
  refine wpAny_bind (wpAny_runValue (codeAny_builtin entry_proto_collect' ?_))
  show wpAny _ _ (do again (.builtin "list.__iadd__" ⟨[← newList [], .ref l], []⟩)) _ _ s
  refine wpAny_bind (wpAny_newList (wpAny_pure ⟨Code.quiet_builtin _ (by decide +kernel), codeAny_builtin entry_list_iadd' ?_⟩))
  show wpAny _ _ (Builtin.List.listExtendWith (.ref s.heap.objs.size) (.ref l) (.ref s.heap.objs.size)) _ _ { s with heap := s.heap.push (seqObj "list" #[] 0) }
  unfold Builtin.List.listExtendWith
  have ho' : (s.heap.push (seqObj "list" #[] 0)).get? l = some o := Heap.get?_push_of_some _ ho
  refine wpAny_bind (wpAny_typeOf (T := "tuple") ⟨o, ho', hc⟩ ?_)
  have ht : (Value.type "tuple" == Value.type "tuple") = true := by rfl
  rw [if_pos (by rw [ht]; simp)]
  refine wpAny_bind (listItems_at ho' hd ?_)
  refine wpAny_bind (listItems_at (xs := #[]) (n := 0) (Heap.get?_push_size _ rfl) rfl ?_)
  rw [if_neg (by simp)]
  refine wpAny_bind (listUpdate_at (xs := #[]) (n := 0) (Heap.get?_push_size _ rfl) rfl ?_ (Nat.zero_le _) (by show (#[] ++ vs.toArray).size ≤ sizeLine + 1; simp only [Array.size_append, List.size_toArray, List.length_nil]; omega))
  refine wpAny_pure ?_
  show wpAny (model prog w) A (do
      let o ← load s.heap.objs.size
      match o.data with
      | .seq xs _ => pure xs.toList
      | _ => unsupported "internal:collect") Q E { s with heap := (s.heap.push (seqObj "list" #[] 0)).update s.heap.objs.size (Obj.mapSeq (· ++ vs.toArray)) }
  refine wpAny_bind (wpAny_load (get?_update_seq (Heap.get?_push_size _ rfl) _) ?_)
  show wpAny _ _ (pure ((#[] : Array Value) ++ vs.toArray).toList) Q E _
  rw [show ((#[] : Array Value) ++ vs.toArray).toList = vs by simp]
  exact wpAny_pure h
theorem sorted_tupS {l : Addr} {vs : List Value} {ss : List Str} {Q : Value → Shared → Prop} (hl : s.heap.IsTuple l vs.toArray) (hS : StrsAre vs ss) (h64 : vs.length < 64)
    (h : ∀ (out : Array Value) (ss' : List Str), StrsAre out.toList ss' → ss'.Perm ss → sortedS ss' = true → Q (.ref (s.heap.objs.size + 1)) { s with heap := sortedAll s.heap vs out }) :
    wpAny (model prog w) A (call (.builtin "sorted") [.ref l]) Q E s := by
  refine Calls.call_function_entry kind_sorted plain_sorted entry_sorted (args_sorted1 _) ?_
  unfold Builtin.«sorted»
  refine wpAny_bind (m := checkCount "sorted" 1 1 _) (wpAny_pure ?_)
  refine wpAny_bind (collect_tup hl ?_)
  refine wpAny_bind (wpAny_newList ?_)
  have hsz : ((s.heap.push (seqObj "list" #[] 0)).update s.heap.objs.size (Obj.mapSeq (· ++ vs.toArray))).objs.size = s.heap.objs.size + 1 := by
    rw [Heap.size_update, size_push']
  have hoL : (((s.heap.push (seqObj "list" #[] 0)).update s.heap.objs.size (Obj.mapSeq (· ++ vs.toArray))).push (seqObj "list" vs.toArray 0)).get? (s.heap.objs.size + 1) = some (seqObj "list" vs.toArray 0) := by
    rw [← hsz]; exact Heap.get?_push_size _ rfl
  show wpAny _ _ _ _ _ { s with heap := ((s.heap.push (seqObj "list" #[] 0)).update s.heap.objs.size (Obj.mapSeq (· ++ vs.toArray))).push (seqObj "list" vs.toArray 0) }
  rw [hsz]
  refine wpAny_bind (wpAny_holding (wpAny_call_entry slot_list_sort ⟨_, hoL, rfl⟩ entry_list_sort (list_sort_treeK strKind_oneLt hoL hS.keysOf (fun v₁ v₂ rest e => keyKind_strs (by rw [← e]; exact hS)) h64 fun st' a1 a2 => ⟨_, rfl, ?_⟩) (args_list_sort _)))
  obtain ⟨ss', h1, h2, h3⟩ := sorted_out_str hS a1 a2
  exact wpAny_pure ⟨_, rfl, h _ ss' h1 h2 h3⟩
end
def rSortedST (K : PySem.W.Frag) : List V → Hp → VK → Prop := fun vs H Q => ∃ (a : Addr) (xs : List Str), vs = [V.ref a] ∧ SqT K H a (xs.map V.str) ∧ xs.length < 64 ∧
  ∀ (ys : List Str) (p : Addr), ys.Perm xs → sortedS ys = true → H p = none → Q (.ref p) (upd H p (.lst (ys.map V.str)))
theorem k_sortedST {X : Cx} {K : PySem.W.Frag} (e : X.K = K) : CallR X (.builtin "sorted") (rSortedST K) := by
  subst e
  intro pins s σ H vs us Q I r h
  obtain ⟨a, xs, rfl, hs, h64, q⟩ := h
  obtain ⟨its, rv, hl, _⟩ := I.tuple hs
  rw [Vals.ref1 r]
  have hlen0 := rv.length
  rw [List.length_map] at hlen0
  refine sorted_tupS hl rv.strs (by rw [← hlen0]; exact h64) fun out ys h1 h2 h3 => ?_
  obtain ⟨ep, he'⟩ := PyProof.Rows.sortedAll_at s.heap its out
  have hlen : (ys.map V.str).length ≤ sizeLine := by rw [List.length_map, h2.length_eq]; exact small64 h64
  exact ⟨.ref _, upd H (s.heap.objs.size + 1) (.lst (ys.map V.str)), I.laid (t' := s.toks) (fun _ _ => PyProof.Rows.sortedAll_old) (Nat.le_succ _) ⟨hlen, out.toList, ep, vals_of_strs h1, he'⟩, rfl, q ys _ h2 h3 (I.hok.fresh (Nat.le_succ _))⟩
end Fx
end

section
set_option Elab.async false
set_option linter.all false
set_option maxRecDepth 100000
set_option maxHeartbeats 4000000
/-! facts of the written part; calls by keywords alone -/
namespace Fx
open PySem PySem.Spec PyProof.Rows L2
section
open He
/-- at a stands a written tuple of these -/
def tupIn (K : PySem.W.Frag) (a : Addr) (vs : List V) : Bool := match K.lookup a with
  | some ⟨.type c, _, .seq its _, _⟩ => decide (c = "tuple") && (decide (its.size ≤ sizeLine) && relAll vs its.toList)
  | _ => false
theorem tupIn_ok {K : PySem.W.Frag} {a : Addr} {vs : List V} (h : tupIn K a vs = true) (H : Hp) : SqT K H a vs := by
  unfold tupIn at h
  cases q : K.lookup a with
  | none => rw [q] at h; cases h
  | some o =>
    obtain ⟨oc, od, dt, osl⟩ := o
    rw [q] at h
    cases oc with
    | type c =>
      cases dt with
      | seq its n =>
        obtain ⟨h1, h2⟩ := ba (show (decide (c = "tuple") && (decide (its.size ≤ sizeLine) && relAll vs its.toList)) = true from h)
        obtain ⟨h3, h4⟩ := ba h2
        exact .inr ⟨_, its, n, q, congrArg Value.type (of_decide_eq_true h1), rfl, of_decide_eq_true h3, relAll_ok h4⟩
      | _ => cases h
    | _ => cases dt <;> cases h
/-- what stands at the i-th place of the written dict at d -/
def wAd (K : PySem.W.Frag) (d : Addr) (i : Nat) : Addr := match K.lookup d with
  | some ⟨_, _, .dict es _, _⟩ => (match es[i]? with
    | some e => (match e.val with
      | .ref a => a
      | _ => 0)
    | none => 0)
  | _ => 0
end
theorem fnIn_of {K : PySem.W.Frag} {x qual : Str} {params : Arguments} {body : List Stmt} {scope : Scope} {dvs : List V} {kws : List (Str × V)} {f : Addr} {fd : FuncData} (F : FunD K x qual params body scope dvs kws f fd) : PySem.W.fnIn K f = true := by
  obtain ⟨oc, od, dV, kV, doc, pm, an, cdv, ct, osl, e, lk, _⟩ := F.ex
  unfold PySem.W.fnIn
  rw [lk]
/-- f(k2 = r, k1 = b), f of the two parameters k1, k2 -/
def swap2 {α : Type} : List α → List α → List α
  | [], [r, b] => [b, r]
  | _, _ => []
theorem kb_swap {K : PySem.W.Frag} {x qual : Str} {params : Arguments} {body : List Stmt} {scope : Scope} {kws : List (Str × V)} {f : Addr} {fd : FuncData} {p q : Str} (F : FunD K x qual params body scope [] kws f fd)
    (h : ∀ (kV doc pm : Value) (an : Option Addr) (cdv ct : Value) (b r : Value), bindArgs (PySem.W.fnOf x qual params body scope .none kV doc pm an cdv ct) ⟨[], [(q, r), (p, b)]⟩ = pure [(p, b), (q, r)]) : KBinds K fd [p, q] [q, p] swap2 swap2 := by
  obtain ⟨oc, od, dV, kV, doc, pm, an, cdv, ct, osl, rfl, lk, hcd, hD, hK⟩ := F.ex
  rcases hD with ⟨_, rfl⟩ | ⟨e, _⟩
  · refine ⟨fun s us ws X hl => ?_, fun {vs us zs ws} r1 r2 => ?_⟩
    · match us, ws, hl with
      | [], [r, b], _ => exact .of_eq (h kV doc pm an cdv ct b r)
    · match vs, us, zs, ws, r1, r2 with
      | [], [], [r, b], [r', b'], .nil, .cons h1 (.cons h2 .nil) => exact .cons h2 (.cons h1 .nil)
      | [], [], [], [], .nil, .nil => exact .nil
      | [], [], [_], [_], .nil, .cons _ .nil => exact .nil
      | [], [], _ :: _ :: _ :: _, _ :: _ :: _ :: _, .nil, .cons _ (.cons _ (.cons _ _)) => exact .nil
      | _ :: _, _ :: _, _, _, .cons _ _, _ => exact .nil
  · exact absurd rfl e
section
variable {X : Cx} {CX : CXT} {k : Nat} {f : Addr} {fd : FuncData} {ps ks : List Str} {sp : Sp} {E : XK} {x : Str} {p pos : Pos} {kws : List Keyword} {tk : TA} {g : List Value → List Value → List Value} {gV : List V → List V → List V}
theorem pe_callK0 (F : FnOk X.prog X.w X.K X.mg X.base CX k f fd ps sp) (hr : Room k X.A) (hg : Gl X x) (hm : X.mg x = some (.ref f)) (hk : PySem.W.keepIn X.K (.ref f) = true) (hb : KBinds X.K fd ps ks g gV) (hx : Passes CX X E)
    (hkw : PK X kws tk) (hall : (backToKw pos (keywordEach kws X.env)).all (·.1.isSome) = true := by rfl) (hks : (backToKw pos (keywordEach kws X.env)).filterMap (·.1) = ks := by rfl)
    (hdb : (x == ("__debug__" : Str)) = false := by decide)
    (hpl : ((backTo pos (starEach [] X.env)).any (·.1) || (backToKw pos (keywordEach kws X.env)).any (·.1.isNone)) = false := by rfl) :
    PE X (.Call (.Name x p) [] kws pos) (tCallK sp gV E tNil tk) := by
  refine ⟨fun pins s σ H Q I h => ?_⟩
  refine wpAny_Call_Name_kw (ld_glob I hg hm ?_ hdb)
  refine PySem.W.callWith_KW0 (h₀ := X.base) I.ok.mod.kin hk hall (thn (hkw.run pos pins s σ H _ I h) fun ws s2 ⟨zs, H2, I2, rz, q2⟩ => ⟨I2.kIn, ?_⟩) hpl
  rw [hks]
  exact run_fnk (us := []) (vs := []) F hr hb hx I2 .nil rz q2
end
end Fx
end

section
set_option Elab.async false
set_option linter.all false
set_option maxRecDepth 100000
set_option maxHeartbeats 4000000
/-! one lemma for all turns within a comprehension -/
namespace Fx
open PySem PySem.Spec L2
section
variable {J : It} {n : Nat} {G : Hp → Prop} {Y : Nat → Hp → V → Hp → Prop}
theorem lcw (w : Walk J n G Y) {B : V → Hp → (Hp → Prop) → Prop} {H0 : Hp} {Qd : Hp → Prop} (Pv : Nat → Hp → Prop) (h0 : Pv 0 H0) (hG : ∀ i H, i ≤ n → Pv i H → G H)
    (hs : ∀ i x H H', i < n → Pv i H → Y i H x H' → B x H' (Pv (i + 1))) (hd : ∀ H, Pv n H → Qd H) :
    ∃ W : Nat → Nat → Hp → Prop, (∃ m, W 0 m H0) ∧ ∀ i m H, W i m H →
      (J.stop i H ∧ Qd H) ∨ (J.go i H ∧ ∃ Nx : Hp → Prop, (∀ H', Nx H' → ∃ m', m' < m ∧ W (i + 1) m' H') ∧ ∀ x H', J.yld i H x H' → B x H' Nx) := by
  refine ⟨fun i m H => m = n - i ∧ i ≤ n ∧ Pv i H, ⟨n, by simp, Nat.zero_le _, h0⟩, ?_⟩
  rintro i m H ⟨rfl, hi, p⟩
  have q := hG i H hi p
  by_cases hlt : i < n
  · refine .inr ⟨w.goes i H hlt q, Pv (i + 1), fun H' p' => ⟨n - (i + 1), by omega, rfl, hlt, p'⟩, fun x H' y => hs i x H H' hlt p (w.yields i H x H' hlt q y)⟩
  · have e : i = n := by omega
    subst e
    exact .inl ⟨w.stops H q, hd H p⟩
end
end Fx
end

section
set_option Elab.async false
set_option linter.all false
set_option maxRecDepth 100000
set_option maxHeartbeats 4000000
/-! promises that lean on no repr being under way; repr of data -/
namespace Fx
open PySem PySem.Spec PyProof.Rows L2
structure FnOkG (P : Program) (w : World) (K : PySem.W.Frag) (mg : Str → Option Value) (base : Heap) (CX : CXT) (k : Nat) (f : Addr) (fd : FuncData) (ps : List Str) (sp : Sp) : Prop where
  len : ∀ vs H Q E, sp vs H Q E → vs.length = ps.length
  run : ∀ (A : Around) (outer : List Env) (s : Shared) (H : Hp) (args : Args) (us : List Value) (vs : List V) (Q : VK) (E : XK), A.guards = some [] → Room k A → Env0 P w K mg base A outer s H → BindsTo s fd args (ps.zip us) → Vals vs us → sp vs H Q E →
    codeAny (model P w) A (.call (.ref f) args) (CR CX outer P w H s Q E) s
theorem fn_ofG {CX : CXT} {P : Program} {w : World} {K : PySem.W.Frag} {mg : Str → Option Value} {base : Heap} {k : Nat} {f : Addr} {name qual : Str} {params : Arguments} {body : List Stmt} {scope : Scope} {dV kV doc pm cdv ct oc : Value} {an od : Option Addr}
    {osl : Array (Option Value)} {N ps : List Str} {sp : Sp} (lk : K.lookup f = some ⟨oc, od, .func (PySem.W.fnOf name qual params body scope dV kV doc pm an cdv ct), osl⟩) (hcd : PySem.W.codeIn K cdv qual = true) (S : FnScope N ps scope)
    (len : ∀ vs H Q E, sp vs H Q E → vs.length = ps.length)
    (hbody : ∀ (A : Around) (outer : List Env) (s : Shared) (H : Hp) (vs : List V) (Q : VK) (E : XK), (A.deeper (envOfC qual scope s.heap.objs.size f cdv)).guards = some [] → Room k (A.deeper (envOfC qual scope s.heap.objs.size f cdv)) → sp vs H Q E →
      ∃ t, PSs (cxOf CX P w K mg base N qual scope f cdv A outer s H E) body t ∧ t { nx := fun _ H' => Q .non H', rt := Q } (start N vs) H) :
    FnOkG P w K mg base CX (k + 1) f (PySem.W.fnOf name qual params body scope dV kV doc pm an cdv ct) ps sp := by
  refine ⟨len, fun A outer s H args us vs Q E hgd hr e0 hb r hsp => ?_⟩
  have hl := len _ _ _ _ hsp
  have KX : K.In s.heap := e0.mod.kin.keeps fun b o e => (e0.bs b o e).1
  have lim : s.heap.NoLimit := e0.mod.nolimit.keeps fun b o e => (e0.bs b o e).1
  have hkind : ∀ y ∈ ps.zip us, scope.names.lookup y.1 = some .local ∨ (scope.names.lookup y.1 = some .cell ∧ ((cellsFrom (s.heap.objs.size + 1) scope.names []).lookup y.1).isSome = true) := fun ⟨n, v⟩ hy => by
    rcases S.par n (List.of_mem_zip hy).1 with q | q
    · exact .inl q
    · exact .inr ⟨q, PySem.W.cellsFrom_some _ _ _ (.inl q)⟩
  refine codeAny_call_function hr.depth (KX _ _ lk) rfl S.co S.gen rfl (PySem.W.codeRec_of KX hcd) (hb _ _ _ _ ?_)
  refine wpAny_newFunctionEnv_cells S.kind hkind fun env he s1 x => ?_
  subst he
  refine ⟨lim.keeps x.toInCall.keep, codeAny_func ?_⟩
  obtain ⟨t, ht, hq⟩ := hbody A outer s H vs Q E hgd (hr.deeper _) hsp
  have I : Inv (cxOf CX P w K mg base N qual scope f cdv A outer s H E) [] (start N vs) H s1 := inv_start S hr.hd e0 hl r x
  refine wpAny_mono (ht.run [] s1 (start N vs) H _ I hq) (fun fl s' hs => ?_) fun e s' hs => hs
  have fin : ∀ {σ' : L2.St} {H' : Hp} {v : V} {u : Value}, Inv (cxOf CX P w K mg base N qual scope f cdv A outer s H E) [] σ' H' s' → RelV v u → Q v H' → CE outer P w H s Q u s' :=
    fun {σ' H' v u} J rv q => ⟨v, H', J.os, J.bare, J.base, J.hok, rv, q⟩
  cases fl with
  | ret u =>
    obtain ⟨v, σ', H', J, rv, q⟩ := hs
    exact fin J rv q
  | next =>
    obtain ⟨σ', H', J, q⟩ := hs
    exact fin (v := V.non) (u := Value.none) J rfl q
  | brk =>
    obtain ⟨_, _, _, q⟩ := hs
    exact False.elim q
  | cont =>
    obtain ⟨_, _, _, q⟩ := hs
    exact False.elim q
theorem okG {P : Program} {w : World} {K : PySem.W.Frag} {mg : Str → Option Value} {base : Heap} {x qual : Str} {params : Arguments} {body : List Stmt} {scope : Scope} {dvs : List V} {kws : List (Str × V)} {f : Addr} {fd : FuncData}
    {CX : CXT} {N ps : List Str} {k : Nat} {sp : Sp} (F : FunD K x qual params body scope dvs kws f fd) (S : FnScope N ps scope) (len : ∀ vs H Q E, sp vs H Q E → vs.length = ps.length)
    (hbody : ∀ (cdv : Value) (A : Around) (outer : List Env) (s : Shared) (H : Hp) (vs : List V) (Q : VK) (E : XK), (A.deeper (envOfC qual scope s.heap.objs.size f cdv)).guards = some [] → Room k (A.deeper (envOfC qual scope s.heap.objs.size f cdv)) → sp vs H Q E →
      ∃ t, PSs (cxOf CX P w K mg base N qual scope f cdv A outer s H E) body t ∧ t { nx := fun _ H' => Q .non H', rt := Q } (start N vs) H) : FnOkG P w K mg base CX (k + 1) f fd ps sp := by
  obtain ⟨oc, od, dV, kV, doc, pm, an, cdv, ct, osl, rfl, lk, hcd, _, _⟩ := F.ex
  exact fn_ofG lk hcd S len fun A outer s H vs Q E hg hr hsp => hbody cdv A outer s H vs Q E hg hr hsp
section
variable {X : Cx} {CX : CXT} {k : Nat} {f : Addr} {fd : FuncData} {ps : List Str} {sp : Sp} {E : XK} {x : Str} {p pos : Pos} {e : Expr} {es : List Expr} {t : TA}
theorem pe_callG (gd : X.A.guards = some []) (F : FnOkG X.prog X.w X.K X.mg X.base CX k f fd ps sp) (hr : Room k X.A) (hg : Gl X x) (hm : X.mg x = some (.ref f)) (hk : PySem.W.keepIn X.K (.ref f) = true) (hb : Binds X.K fd ps []) (hx : Passes CX X E)
    (ha : PA X (e :: es) t) (hdb : (x == ("__debug__" : Str)) = false := by decide) (he : starEach (e :: es) X.env = (false, eval e X.env) :: starEach es X.env := by rfl) (hpl : (backTo pos (starEach es X.env)).any (·.1) = false := by rfl) :
    PE X (.Call (.Name x p) (e :: es) [] pos) (tCall sp [] E t) := by
  refine ⟨fun pins s σ H Q I h => ?_⟩
  refine wpAny_Call_Name_kw (ld_glob I hg hm ?_ hdb)
  refine PySem.W.callWith_K (h₀ := X.base) I.ok.mod.kin hk (thn (ha.run pos pins s σ H _ I h) fun us s1 ⟨vs, H1, I1, r, q⟩ => ⟨I1.kIn, ?_⟩) he hpl
  have q' : sp vs H1 Q E := by rw [← List.append_nil vs]; exact q
  have hl : us.length = ps.length := by rw [← r.length]; exact F.len _ _ _ _ q'
  have bd : BindsTo s1 fd ⟨us, []⟩ (ps.zip us) := by
    have z := hb s1 us I1.kIn (by rw [List.append_nil]; exact hl)
    rw [List.append_nil] at z; exact z
  refine wpAny_call (codeAny_mono (F.run X.A X.stack s1 H1 ⟨us, []⟩ us vs Q E gd hr I1.env0 bd r q') fun r s' hq => ?_)
  cases r with
  | error e => exact hx pins σ H1 s1 e s' I1 hq
  | ok fl =>
    cases fl with
    | ret u => exact I1.after hq
    | next => exact False.elim hq
    | brk => exact False.elim hq
    | cont => exact False.elim hq
/-- repr of a list or tuple of data -/
def rReprD (K : PySem.W.Frag) : List V → Hp → VK → Prop := fun xs H Q => ∃ (a : Addr) (d : PyData), xs = [.ref a] ∧ Dp K H (.ref a) d ∧ d.showable = true ∧ d.hasDict = false ∧ d.depth ≤ 64 ∧ d.shown.length ≤ sizeLine ∧ Q (.str d.shown) H
theorem k_reprD {K : PySem.W.Frag} (eK : X.K = K) (gd : X.A.guards = some []) (hu : X.A.units + 66 < cLine) : CallR X (.builtin "repr") (rReprD K) := by
  subst eK
  intro pins s σ H vs us Q I r h
  obtain ⟨a, d, rfl, hd, h1, h2, h3, h4, q⟩ := h
  rw [Vals.ref1 r]
  obtain ⟨as, rd⟩ := Dp.reads I d (.ref a) (.ref a) hd rfl
  refine PySem.repr_of_reads' rd h1 (fun z => by rw [h2] at z; cases z) gd (by omega) (fun _ _ e => e) (fun h' u tk hk => ?_) h4
  exact ⟨.str _, H, I.kept (t' := tk) hk, ⟨u, rfl⟩, q⟩
end
end Fx
namespace Fx
open L2 PySem
theorem u66 {k : Nat} {A : Around} (r : Room k A) : A.units + 66 < cLine := by have := r.un; omega
/-- the def found by a path keeps such a promise -/
abbrev OkG (P : Program) (w : World) (K : PySem.W.Frag) (mg : Str → Option Value) (base : Heap) (k : Nat) (p : Str × Option Str) (ps : List Str) (sp : Sp) : Prop :=
  FnOkG P w K mg base CX0 k (He.fAd K p) (fdOf K (He.fAd K p)) ps sp
theorem FnOkG.mono {P : Program} {w : World} {K : PySem.W.Frag} {mg : Str → Option Value} {base : Heap} {CX : CXT} {j k : Nat} {f : Addr} {fd : FuncData} {ps : List Str} {sp : Sp} (F : FnOkG P w K mg base CX j f fd ps sp) (h : j ≤ k) :
    FnOkG P w K mg base CX k f fd ps sp := ⟨F.len, fun A outer s H args us vs Q E hg hr => F.run A outer s H args us vs Q E hg (hr.mono h)⟩
end Fx
end

section
set_option Elab.async false
set_option linter.all false
set_option maxRecDepth 100000
set_option maxHeartbeats 4000000
/-! a law's end where the promise leans on no repr being under way -/
namespace Fx
open PySem PySem.Spec PyProof.Rows L2
section
variable {P : Program} {w : World} {K : PySem.W.Frag} {mg mb : Str → Option Value} {k : Nat} {f q : Addr} {fd : FuncData} {x : Str} {sp : Sp} {st : Shared} {us : List Value} {is : List Int}
/-- from one abstract heap that tracks at most the script -/
theorem callG_core (H : Hp) (inK : K.In st.heap) (glob : st.heap.Ns mainGlobals mg) (blt : st.heap.Ns builtinsNs mb) (bltIs : ∀ x : Str, x ≠ "__name__" → mb x = bootBuiltins x) (noLim : st.heap.NoLimit) (noGen : st.gens = #[])
    (obj : st.heap.get? q = some { cls := .type "list", data := .seq us.toArray }) (room : Room k callerA)
    (F : ∀ base : Heap, K.In base → base.Ns mainGlobals mg → FnOkG P w K mg base CX0 k f fd [x] sp) (bind : ∀ (s : Shared) (u : Value), BindsTo s fd ⟨[u], []⟩ [(x, u)])
    (only : Only H) (holds : HOk P w H st.heap) (at_ : ∀ b, H b ≠ none → b = q) (off : H q ≠ none → K.lookup q = none) (pr : sp [.ref q] H (fun v _ => v = .bl true) fun _ _ _ => False) :
    codeAny (model P w) callerA (.call (.ref f) ⟨[.ref q], []⟩) (fun r t => r = .ok (.ret (.bool true)) ∧ OldK st.heap t.heap ∧ t.os = st.os ∧ AllBare t.gens) st := by
  have free : ∀ {b : Addr} {o : Obj}, st.heap.get? b = some o → b ≠ q → H b = none := fun {b o} _ n => Classical.byContradiction fun z => n (at_ b z)
  have notq : ∀ {b : Addr} {o : Obj} {es : Array DictEntry} {ep : Nat}, st.heap.get? b = some o → o.data = .dict es ep → b ≠ q := fun {b o es ep} e d z => by
    subst z
    have h1 := Option.some.inj (obj.symm.trans e)
    subst h1
    cases (show Data.seq us.toArray _ = Data.dict es ep from d)
  have ns : ∀ {b : Addr} {m : Str → Option Value}, st.heap.Ns b m → (hidT st.heap H).Ns b m := fun {b m} z => by
    obtain ⟨o, es, ep, e, d, r⟩ := z
    exact ⟨o, es, ep, hidT_get e (free e (notq e d)), d, r⟩
  have inB : K.In (hidT st.heap H) := fun b o e => by
    refine hidT_get (inK b o e) (Classical.byContradiction fun z => ?_)
    have zq := at_ b z
    subst zq
    rw [off z] at e
    cases e
  have mod : Mod K mg (hidT st.heap H) := by
    obtain ⟨mc, l1, l2⟩ := noLim
    exact ⟨inB, ns glob, ⟨mb, ns blt, bltIs⟩, mc, ns l1, l2⟩
  have env : Env0 P w K mg (hidT st.heap H) callerA [] st H := by
    refine ⟨rfl, mod, fun b o e => of_hidT e, Nat.le_of_eq (hidT_size _ _), trivial, ?_, holds, .of_eq noGen⟩
    intro b hb
    cases (show b ∈ ([] : List Addr) from hb)
  have go := (F _ inB (ns glob)).run callerA [] st H ⟨[.ref q], []⟩ [.ref q] [.ref q] _ _ rfl room env (bind st (.ref q)) (.cons rfl .nil) pr
  refine codeAny_mono go ?_
  intro r t h
  match r, h with
  | .error e, h => exact (show False from h).elim
  | .ok .next, h => exact False.elim h
  | .ok .brk, h => exact False.elim h
  | .ok .cont, h => exact False.elim h
  | .ok (.ret u), h =>
    obtain ⟨v, H2, eo, ba, un, ok2, rv, tr⟩ := h
    have tr' : v = .bl true := tr
    subst tr'
    cases (show u = Value.bool true from rv)
    refine ⟨rfl, .of_keep ?_, eo, ba⟩
    intro b o e
    by_cases hq : H b = none
    · refine un.keep b o e hq ?_ (by simp)
      intro z
      cases (show b ∈ ([] : List Addr) from z)
    · obtain ⟨u, hu⟩ := Option.ne_none_iff_exists'.mp hq
      rcases only b with z | ⟨o2, xs, z⟩
      · exact absurd z hq
      · have e1 := (holds b _ z).1
        rw [e] at e1
        cases e1
        exact (ok2 b _ (un.frzs b _ _ z)).1
theorem law_callG (inK : K.In st.heap) (glob : st.heap.Ns mainGlobals mg) (blt : st.heap.Ns builtinsNs mb) (bltIs : ∀ x : Str, x ≠ "__name__" → mb x = bootBuiltins x) (noLim : st.heap.NoLimit) (noGen : st.gens = #[])
    (obj : st.heap.get? q = some { cls := .type "list", data := .seq us.toArray }) (intsOf : IntsAre us is) (len : is.length ≤ sizeLine) (room : Room k callerA)
    (F : ∀ base : Heap, K.In base → base.Ns mainGlobals mg → FnOkG P w K mg base CX0 k f fd [x] sp) (bind : ∀ (s : Shared) (u : Value), BindsTo s fd ⟨[u], []⟩ [(x, u)])
    (pr : ∀ H : Hp, Only H → SqL K H q (is.map V.int) → sp [.ref q] H (fun v _ => v = .bl true) fun _ _ _ => False) :
    codeAny (model P w) callerA (.call (.ref f) ⟨[.ref q], []⟩) (fun r t => r = .ok (.ret (.bool true)) ∧ OldK st.heap t.heap ∧ t.os = st.os ∧ AllBare t.gens) st := by
  have rel := vals_ints intsOf
  have same := intsOf.length
  by_cases hk : K.lookup q = none
  · -- the script is none of the module's objects: it is tracked, and stays as it is
    let H : Hp := fun b => if b = q then some (.frz { cls := .type "list", data := .seq us.toArray } (.lst (is.map V.int))) else none
    have yes : H q = some (.frz { cls := .type "list", data := .seq us.toArray } (.lst (is.map V.int))) := if_pos rfl
    have no : ∀ b, b ≠ q → H b = none := fun b n => if_neg n
    have on : Only H := fun b => by
      by_cases h : b = q
      · subst h; exact .inr ⟨_, _, yes⟩
      · exact .inl (no b h)
    refine callG_core H inK glob blt bltIs noLim noGen obj room F bind on ?_ (fun b z => Classical.byContradiction fun n => z (no b n)) (fun _ => hk) (pr H on (.inl (.inr ⟨_, yes⟩)))
    intro b u e
    by_cases h : b = q
    · subst h
      rw [yes] at e
      cases e
      exact ⟨obj, by rw [List.length_map]; exact len, us, _, rel, obj⟩
    · rw [no b h] at e
      cases e
  · obtain ⟨o, ho⟩ := Option.ne_none_iff_exists'.mp hk
    have e := inK q o ho
    rw [obj] at e
    cases e
    have on : Only (fun _ => none) := fun _ => .inl rfl
    refine callG_core (fun _ => none) inK glob blt bltIs noLim noGen obj room F bind on ?_ (fun b z => absurd rfl z) (fun z => absurd rfl z) (pr _ on ?_)
    · intro b u z
      cases (show (none : Option HO) = some u from z)
    · exact .inr ⟨_, us.toArray, _, ho, rfl, rfl, rfl, by rw [List.size_toArray, same]; exact len, by simpa using rel⟩
end
/-- the end of a law whose promise leans on no repr being under way; the bits of the script are told -/
theorem walk_ofG {l : PySem.W.OpenLaw} {n k : Nat} {q : Program} {loose : List Str} {XP : (Str → Option Value) → Heap → Prop} {YP : World → Heap → Prop} {d : DefRec} {x : Str}
    (hn : l.most = some n) (hn2 : n ≤ sizeLine) (hdf : d.params.defaults = []) (hr : Room k callerA)
    (F : ∀ (w : World) (mg : Str → Option Value) (fa : Addr) (h : Heap), YP w h → h.Ns mainGlobals mg → mg d.name = some (.ref fa) →
      ∃ (K : PySem.W.Frag) (fd : FuncData) (sp : Sp), K.In h ∧ (∀ (s : Shared) (u : Value), BindsTo s fd ⟨[u], []⟩ [(x, u)]) ∧
        (∀ (H : Hp) (a : Addr) (ns : List Int), ns.length ≤ n → (∀ z ∈ ns, Builtin.Int.intBits z ≤ 1048576) → Only H → SqL K H a (ns.map V.int) → sp [.ref a] H (fun v _ => v = .bl true) fun _ _ _ => False) ∧
        ∀ base : Heap, K.In base → base.Ns mainGlobals mg → FnOkG l.prog w K mg base CX0 k fa fd [x] sp) :
    PySem.W.WalkO q loose XP YP l.row.toRowW d [] (fun f vs => PySem.call f vs) := by
  refine Att.attach_callB hn hdf ?_
  intro w s0 st mg mb fa o pm cd doc a vs ns G Y _ _ _ named obj intsOf len bits noGen
  obtain ⟨K, fd, sp, inK, bind, pr, hF⟩ := F w mg fa _ Y G.T.g named
  exact law_callG inK G.T.g G.T.b G.T.builtins G.T.nolimit noGen obj intsOf (Nat.le_trans len hn2) hr hF bind fun H on hS => pr H a ns len bits on hS
end Fx
end

section
set_option Elab.async false
set_option linter.all false
set_option maxRecDepth 100000
set_option maxHeartbeats 4000000
/-! dicts whose keys are tuples of any depth (ints, texts, None, tuples) -/
namespace Fx
open PySem PySem.Spec PyProof.Rows L2
mutual
/-- a value that is such a key, over the abstract heap -/
inductive NkAt (H : Hp) : V → NestedKey → Prop
  | non : NkAt H .non .none
  | int (i : Int) : NkAt H (.int i) (.num i)
  | str (x : Str) : NkAt H (.str x) (.text x)
  | tup {a : Addr} {xs : List V} {ks : List NestedKey} : H a = some (.tup xs) → NkAll H xs ks → NkAt H (.ref a) (.tup ks)
inductive NkAll (H : Hp) : List V → List NestedKey → Prop
  | nil : NkAll H [] []
  | cons {x : V} {k : NestedKey} {xs : List V} {ks : List NestedKey} : NkAt H x k → NkAll H xs ks → NkAll H (x :: xs) (k :: ks)
end
mutual
theorem NkAt.mono {H H' : Hp} (s : ∀ b xs, H b = some (.tup xs) → H' b = some (.tup xs)) : ∀ {k : NestedKey} {v : V}, NkAt H v k → NkAt H' v k
  | _, _, .non => .non
  | _, _, .int i => .int i
  | _, _, .str x => .str x
  | .tup ks, _, .tup e h => .tup (s _ _ e) (NkAll.mono s h)
theorem NkAll.mono {H H' : Hp} (s : ∀ b xs, H b = some (.tup xs) → H' b = some (.tup xs)) : ∀ {ks : List NestedKey} {vs : List V}, NkAll H vs ks → NkAll H' vs ks
  | _, _, .nil => .nil
  | k :: ks, _, .cons h r => .cons (NkAt.mono s h) (NkAll.mono s r)
end
theorem NkAll.ints {H : Hp} : ∀ ns : List Int, NkAll H (ns.map V.int) (ns.map NestedKey.num)
  | [] => .nil
  | n :: r => .cons (.int n) (NkAll.ints r)
section
variable {P : Program} {w : World} {H : Hp} {h : Heap}
mutual
theorem NkAt.is (ok : HOk P w H h) : ∀ (k : NestedKey) (v : V) (u : Value), NkAt H v k → RelV v u → NestedIs h k u
  | .none, _, _, x, r => by
    cases x
    cases (show _ = Value.none from r)
    exact .none
  | .num i, _, _, x, r => by
    cases x
    obtain ⟨t, rfl⟩ := r
    exact .int i t
  | .text y, _, _, x, r => by
    cases x
    obtain ⟨t, rfl⟩ := r
    exact .text y t
  | .tup ks, _, _, x, r => by
    cases x with
    | @tup a xs ks e hk =>
      cases (show _ = Value.ref a from r)
      obtain ⟨_, its, rv, o, h1, h2, n, h3⟩ := (show ObjOk P w H h a (.tup xs) from ok a _ e)
      exact .tup h1 h2 h3 (by simpa using NkAll.is ok ks xs its hk rv)
theorem NkAll.is (ok : HOk P w H h) : ∀ (ks : List NestedKey) (vs : List V) (us : List Value), NkAll H vs ks → Vals vs us → NestedAll h ks us
  | [], _, _, x, r => by
    cases x
    cases r
    exact .nil
  | k :: ks, _, _, x, r => by
    cases x with
    | cons x1 x2 =>
      cases r with
      | cons r1 r2 => exact .cons (NkAt.is ok k _ _ x1 r1) (NkAll.is ok ks _ _ x2 r2)
end
end
abbrev NE := NestedKey × Addr × V
abbrev NP (p : NE) (q : NestedKey × Addr × Value) : Prop := p.1 = q.1 ∧ p.2.1 = q.2.1 ∧ RelV p.2.2 q.2.2
/-- the object of such a dict -/
def ndOf (P : Program) (w : World) (d : Addr) (kvs : List NE) (h : Heap) : Prop := kvs.length ≤ sizeLine ∧ (d == sysModules) = false ∧ ∃ xs : List (NestedKey × Addr × Value), Paired NP kvs xs ∧
  ∃ o es ep, h.get? d = some o ∧ o.ExactDict ∧ o.data = .dict es ep ∧ es.toList = xs.map (entryOfKey (nestedKind P w)) ∧ (xs.map (·.1)).Nodup
/-- such a dict stands at d -/
def NDict (P : Program) (w : World) (H : Hp) (d : Addr) (kvs : List NE) : Prop := H d = some (.ext (ndOf P w d kvs)) ∧ ∀ e ∈ kvs, NkAt H (.ref e.2.1) e.1 ∧ e.1.depth ≤ 8
def valN (kvs : List NE) (k : NestedKey) : Option V := (kvs.find? fun e => decide (e.1 = k)).map (·.2.2)
def putN (kvs : List NE) (k : NestedKey) (a : Addr) (v : V) : List NE := if (valN kvs k).isSome then kvs.map (fun e => if e.1 = k then (e.1, e.2.1, v) else e) else kvs ++ [(k, a, v)]
theorem NDict.mono {P : Program} {w : World} {H H' : Hp} {d : Addr} {kvs : List NE} (h : NDict P w H d kvs) (s : Same H H') : NDict P w H' d kvs := ⟨s _ _ h.1, fun e he => ⟨(h.2 e he).1.mono fun _ _ z => s _ _ z, (h.2 e he).2⟩⟩
theorem NDict.x {P : Program} {w : World} {H H' : Hp} {W : List Addr} {d : Addr} {kvs : List NE} (h : NDict P w H d kvs) (s : SameX W H H') (hd : d ∉ W) (ht : ∀ b xs, b ∈ W → H b ≠ some (.tup xs)) : NDict P w H' d kvs :=
  ⟨s _ _ hd h.1, fun e he => ⟨(h.2 e he).1.mono fun b xs z => s b _ (fun m => ht b xs m z) z, (h.2 e he).2⟩⟩
theorem pair_at : ∀ {kvs : List NE} {xs : List (NestedKey × Addr × Value)}, Paired NP kvs xs → ∀ k, (valN kvs k = none ∧ atKey xs k = none) ∨ ∃ v a u, valN kvs k = some v ∧ atKey xs k = some (a, u) ∧ RelV v u
  | _, _, .nil, k => .inl ⟨rfl, rfl⟩
  | p :: kvs, q :: xs, .cons h t, k => by
    by_cases e : p.1 = k
    · have e2 : q.1 = k := h.1.symm.trans e
      exact .inr ⟨p.2.2, q.2.1, q.2.2, by simp [valN, e], by simp [atKey, e2], h.2.2⟩
    · have e2 : ¬ q.1 = k := fun z => e (h.1.trans z)
      have := pair_at t k
      simpa [valN, atKey, List.find?_cons, e, e2] using this
theorem pair_all {P : Program} {w : World} {H : Hp} {h : Heap} (ok : HOk P w H h) : ∀ {kvs : List NE} {xs : List (NestedKey × Addr × Value)}, Paired NP kvs xs → (∀ e ∈ kvs, NkAt H (.ref e.2.1) e.1 ∧ e.1.depth ≤ 8) → ∀ x ∈ xs, (nestedKind P w).is h x.1 x.2.1
  | _, _, .nil, _, x, hx => by cases hx
  | p :: kvs, q :: xs, .cons h t, hk, x, hx => by
    rcases List.mem_cons.mp hx with e | hx
    · subst e
      obtain ⟨a, b⟩ := hk p (List.mem_cons_self ..)
      rw [h.1, h.2.1] at a
      rw [h.1] at b
      exact ⟨NkAt.is ok _ _ _ a rfl, b⟩
    · exact pair_all ok t (fun e he => hk e (List.mem_cons_of_mem _ he)) x hx
theorem pair_put : ∀ {kvs : List NE} {xs : List (NestedKey × Addr × Value)} (r : Paired NP kvs xs) (k : NestedKey) (a : Addr) {v : V} {u : Value}, RelV v u → Paired NP (putN kvs k a v) (storedH xs k a u) := by
  intro kvs xs r k a v u rv
  unfold putN storedH
  rcases pair_at r k with ⟨e1, e2⟩ | ⟨_, _, _, e1, e2, _⟩
  · rw [e1, e2]
    exact Paired.snoc r ⟨rfl, rfl, rv⟩
  · rw [e1, e2]
    show Paired NP (kvs.map _) (xs.map (putAt k u))
    clear e1 e2
    induction r with
    | nil => exact .nil
    | @cons p q ps qs h t ih =>
      refine .cons ?_ ih
      show NP (if p.1 = k then (p.1, p.2.1, v) else p) (if q.1 = k then (q.1, q.2.1, u) else q)
      by_cases e : p.1 = k
      · rw [if_pos e, if_pos (h.1.symm.trans e)]; exact ⟨h.1, h.2.1, rv⟩
      · rw [if_neg e, if_neg (fun z => e (h.1.trans z))]; exact h
theorem putN_mem {kvs : List NE} {k : NestedKey} {a : Addr} {v : V} {e : NE} (he : e ∈ putN kvs k a v) : (∃ e' ∈ kvs, e'.1 = e.1 ∧ e'.2.1 = e.2.1) ∨ (e.1 = k ∧ e.2.1 = a) := by
  unfold putN at he
  split at he
  · obtain ⟨e', h1, rfl⟩ := List.mem_map.mp he
    refine .inl ⟨e', h1, ?_⟩
    split <;> exact ⟨rfl, rfl⟩
  · rcases List.mem_append.mp he with h | h
    · exact .inl ⟨e, h, rfl, rfl⟩
    · rw [List.mem_singleton] at h; subst h; exact .inr ⟨rfl, rfl⟩
theorem putN_len {kvs : List NE} {k : NestedKey} {a : Addr} {v : V} : (putN kvs k a v).length ≤ kvs.length + 1 := by
  unfold putN; split
  · rw [List.length_map]; omega
  · rw [List.length_append]; exact Nat.le_refl _
section
variable {X : Cx} {pins : List (Addr × Obj)} {σ : L2.St} {H : Hp} {s : Shared} {d a : Addr} {kvs : List NE} {k : NestedKey}
theorem nd_of (I : Inv X pins σ H s) (h : NDict X.prog X.w H d kvs) : kvs.length ≤ sizeLine ∧ (d == sysModules) = false ∧ ∃ xs, Paired NP kvs xs ∧ s.heap.DictOfH (nestedKind X.prog X.w) d xs := by
  obtain ⟨⟨z, hd, xs, r, o, es, ep, h1, h2, h3, h4, h5⟩, _⟩ := (show ObjOk X.prog X.w H s.heap d (.ext (ndOf X.prog X.w d kvs)) from I.hok d _ h.1)
  exact ⟨z, hd, xs, r, o, es, ep, h1, h2, h3, h4, pair_all I.hok r h.2, h5⟩
theorem nk_is (I : Inv X pins σ H s) (hk : NkAt H (.ref a) k) (h8 : k.depth ≤ 8) : (nestedKind X.prog X.w).is s.heap k a := ⟨NkAt.is I.hok _ _ _ hk rfl, h8⟩
/-- an exact dict at d, entries as xs: what ndOf asks of the heap -/
theorem nd_obj {h' : Heap} {kvs' : List NE} {xs : List (NestedKey × Addr × Value)} {H' : Hp} (z : kvs'.length ≤ sizeLine) (hd : (d == sysModules) = false) (r : Paired NP kvs' xs) (dd : h'.DictOfH (nestedKind X.prog X.w) d xs) :
    ObjOk X.prog X.w H' h' d (.ext (ndOf X.prog X.w d kvs')) := by
  obtain ⟨o, es, ep, h1, h2, h3, h4, _, h5⟩ := dd
  refine ⟨⟨z, hd, xs, r, o, es, ep, h1, h2, h3, h4, h5⟩, ⟨o, h1⟩, fun g1 g2 ⟨z, hd, xs, r, o, es, ep, h1, h2, h3, h4, h5⟩ kp => ⟨z, hd, xs, r, o, es, ep, kp _ h1, h2, h3, h4, h5⟩⟩
theorem nd_noDict (I : Inv X pins σ H s) (h : NDict X.prog X.w H d kvs) : ∀ b, Value.ref d = .ref b → ∃ ob, s.heap.get? b = some ob ∧ ob.dict = none := fun b q => by
  cases q
  obtain ⟨_, _, xs, _, ob, _, _, h1, h2, _⟩ := nd_of I h
  exact ⟨ob, h1, h2.2.1⟩
end
/-! ### the rules -/
section
variable {X : Cx}
/-- k in d, k not in d -/
def rNIn (P : Program) (w : World) : R2 := fun x y H Q => ∃ (a d : Addr) (k : NestedKey) (kvs : List NE), x = .ref a ∧ y = .ref d ∧ NDict P w H d kvs ∧ NkAt H (.ref a) k ∧ k.depth ≤ 8 ∧ Q (.bl (valN kvs k).isSome) H
def rNNotIn (P : Program) (w : World) : R2 := fun x y H Q => ∃ (a d : Addr) (k : NestedKey) (kvs : List NE), x = .ref a ∧ y = .ref d ∧ NDict P w H d kvs ∧ NkAt H (.ref a) k ∧ k.depth ≤ 8 ∧ Q (.bl (!(valN kvs k).isSome)) H
theorem op_nin (hu : X.A.units + 12 < cLine) : OpR X (compareOp .In) (rNIn X.prog X.w) := by
  intro pins s σ H x y v u Q I rx ry h
  obtain ⟨a, d, k, kvs, rfl, rfl, hD, hk, h8, q⟩ := h
  obtain rfl : v = Value.ref a := rx
  obtain rfl : u = Value.ref d := ry
  obtain ⟨z, hd, xs, r, dd⟩ := nd_of I hD
  refine wpAny_in_heap (knd := nestedKind X.prog X.w) (by show X.A.units + 1 + 8 < cLine; omega) (nk_is I hk h8) hd dd ?_
  have e : (atKey xs k).isSome = (valN kvs k).isSome := by
    rcases pair_at r k with ⟨e1, e2⟩ | ⟨_, _, _, e1, e2, _⟩ <;> rw [e1, e2] <;> rfl
  rw [e]
  exact ⟨.bl _, H, I.tok _, rfl, q⟩
theorem op_nnotin (hu : X.A.units + 12 < cLine) : OpR X (compareOp .NotIn) (rNNotIn X.prog X.w) := by
  intro pins s σ H x y v u Q I rx ry h
  obtain ⟨a, d, k, kvs, rfl, rfl, hD, hk, h8, q⟩ := h
  obtain rfl : v = Value.ref a := rx
  obtain rfl : u = Value.ref d := ry
  obtain ⟨z, hd, xs, r, dd⟩ := nd_of I hD
  refine wpAny_notIn_heap (knd := nestedKind X.prog X.w) (by show X.A.units + 1 + 8 < cLine; omega) (nk_is I hk h8) hd dd ?_
  have e : (atKey xs k).isSome = (valN kvs k).isSome := by
    rcases pair_at r k with ⟨e1, e2⟩ | ⟨_, _, _, e1, e2, _⟩ <;> rw [e1, e2] <;> rfl
  rw [e]
  exact ⟨.bl _, H, I.tok _, rfl, q⟩
/-- d[k], there -/
def tNGet (P : Program) (w : World) (td ty : TE) : TE := fun σ H Q => td σ H fun x H1 => ty σ H1 fun y H2 => ∃ (d a : Addr) (k : NestedKey) (kvs : List NE) (v : V), x = .ref d ∧ y = .ref a ∧ NDict P w H2 d kvs ∧ NkAt H2 (.ref a) k ∧ k.depth ≤ 8 ∧ valN kvs k = some v ∧ Q v H2
theorem pe_nget {o i : Expr} {pos : Pos} {td ty : TE} (hu : X.A.units + 12 < cLine) (ho : PE X o td) (hi : PE X i ty) (hs : NoSl i) : PE X (.Subscript o i pos) (tNGet X.prog X.w td ty) := by
  refine ⟨fun pins s σ H Q I h => ?_⟩
  refine subD_of PySem.F.slot_dict_getitem.lookup hs (thn (ho.run pins s σ H _ I h) fun u s1 ⟨x, H1, I1, rx, q1⟩ => thn (hi.run pins s1 σ H1 _ I1 q1) fun iv s2 ⟨y, H2, I2, ry, d, a, k, kvs, v, ex, ey, hD, hk, h8, hv, q2⟩ => ?_)
  subst ex ey
  obtain rfl : u = Value.ref d := rx
  obtain rfl : iv = Value.ref a := ry
  obtain ⟨z, hd, xs, r, dd⟩ := nd_of I2 hD
  refine ⟨dd.typeIs, ?_⟩
  rcases pair_at r k with ⟨e1, e2⟩ | ⟨v', a', u', e1, e2, rv⟩
  · rw [hv] at e1; cases e1
  · rw [hv] at e1
    cases e1
    exact wpAny_getItem_heap (knd := nestedKind X.prog X.w) (by show X.A.units + 1 + 8 < cLine; omega) (nk_is I2 hk h8) dd e2 ⟨v, H2, I2.tok _, rv, q2⟩
/-- the heap behind d[k] = v -/
def NPut (P : Program) (w : World) (H : Hp) (d : Addr) (y v : V) (H' : Hp) : Prop := ∃ (a : Addr) (k : NestedKey) (kvs : List NE), y = .ref a ∧ NDict P w H d kvs ∧ NkAt H (.ref a) k ∧ k.depth ≤ 8 ∧ kvs.length < sizeLine ∧ H' = upd H d (.ext (ndOf P w d (putN kvs k a v)))
theorem NPut.dict {P : Program} {w : World} {H : Hp} {d a : Addr} {v : V} {k : NestedKey} {kvs : List NE} (hD : NDict P w H d kvs) (hk : NkAt H (.ref a) k) (h8 : k.depth ≤ 8) : NDict P w (upd H d (.ext (ndOf P w d (putN kvs k a v)))) d (putN kvs k a v) := by
  have st : ∀ b xs, H b = some (.tup xs) → upd H d (.ext (ndOf P w d (putN kvs k a v))) b = some (.tup xs) := fun b xs z => by
    rw [upd_ne (ne_of z hD.1 (by intro q; cases q))]; exact z
  refine ⟨upd_same, fun e he => ?_⟩
  rcases putN_mem he with ⟨e', h1, h2, h3⟩ | ⟨h2, h3⟩
  · obtain ⟨x, y⟩ := hD.2 e' h1
    rw [← h2, ← h3]; exact ⟨x.mono st, y⟩
  · rw [h2, h3]; exact ⟨hk.mono st, h8⟩
theorem nd_write {pins : List (Addr × Obj)} {σ : L2.St} {H H' : Hp} {s : Shared} {d a : Addr} {v : V} {k : NestedKey} {kvs : List NE} {xs : List (NestedKey × Addr × Value)} {r : Value} {h' : Heap} {t' : Nat} (I : Inv X pins σ H s) (hD : NDict X.prog X.w H d kvs) (hl : kvs.length < sizeLine)
    (hd : (d == sysModules) = false) (rel : Paired NP kvs xs) (rv : RelV v r) (dd : h'.DictOfH (nestedKind X.prog X.w) d (storedH xs k a r)) (hs : Heap.SameBut d s.heap h') :
    Inv X pins σ (upd H d (.ext (ndOf X.prog X.w d (putN kvs k a v)))) { s with heap := h', toks := t' } := by
  have he : ∃ q, h'.get? d = some q := let ⟨q, _, _, hq, _⟩ := dd; ⟨q, hq⟩
  exact d_write I (by rw [hD.1]; exact True.intro) hs he (nd_obj (by have := @putN_len kvs k a v; omega) hd (pair_put rel k a rv) dd)
theorem nd_setItem {pins : List (Addr × Obj)} {σ : L2.St} {H H' : Hp} {s : Shared} {E : Value → Shared → Prop} {d : Addr} {y v : V} {u r : Value} {Q : Unit → Shared → Prop} (hu : X.A.units + 12 < cLine) (I : Inv X pins σ H s) (g : NPut X.prog X.w H d y v H') (ry : RelV y u) (rv : RelV v r)
    (h : ∀ s', Inv X pins σ H' s' → Q () s') : wpAny (model X.prog X.w) X.A (setItem (.ref d) u r) Q E s := by
  obtain ⟨a, k, kvs, rfl, hD, hk, h8, hl, rfl⟩ := g
  obtain rfl : u = Value.ref a := ry
  obtain ⟨z, hd, xs, rel, dd⟩ := nd_of I hD
  have hz : xs.length ≤ sizeLine := (Paired.length rel) ▸ z
  exact wpAny_setItem_heap (knd := nestedKind X.prog X.w) (hsz := hz) (by show X.A.units + 1 + 8 < cLine; omega) (nk_is I hk h8) dd fun h' dd' hs => h _ (nd_write (H' := H) I hD hl hd rel rv dd' hs)
theorem nd_dictSet {pins : List (Addr × Obj)} {σ : L2.St} {H H' : Hp} {s : Shared} {E : Value → Shared → Prop} {d : Addr} {y v : V} {u r : Value} {Q : Unit → Shared → Prop} (hu : X.A.units + 12 < cLine) (I : Inv X pins σ H s) (g : NPut X.prog X.w H d y v H') (ry : RelV y u) (rv : RelV v r)
    (h : ∀ s', Inv X pins σ H' s' → Q () s') : wpAny (model X.prog X.w) X.A (dictSet d u r) Q E s := by
  obtain ⟨a, k, kvs, rfl, hD, hk, h8, hl, rfl⟩ := g
  obtain rfl : u = Value.ref a := ry
  obtain ⟨z, hd, xs, rel, dd⟩ := nd_of I hD
  have hz : xs.length ≤ sizeLine := (Paired.length rel) ▸ z
  exact wpAny_dictSet_heap (knd := nestedKind X.prog X.w) (hsz := hz) (by show X.A.units + 8 < cLine; omega) (nk_is I hk h8) dd fun h' dd' hs => h _ (nd_write (H' := H) I hD hl hd rel rv dd' hs)
def sNPut (P : Program) (w : World) (td ty tv : TE) : TS := fun D σ H => tv σ H fun v H1 => td σ H1 fun x H2 => ty σ H2 fun y H3 => ∃ d H4, x = .ref d ∧ NPut P w H3 d y v H4 ∧ D.nx σ H4
theorem ps_nput {o i value : Expr} {pos pos' : Pos} {td ty tv : TE} (hu : X.A.units + 12 < cLine) (ho : PE X o td) (hi : PE X i ty) (hv : PE X value tv) (hs : swapsWith value (some (.Subscript o i pos')) pos.line X.env = pure false) :
    PS X (.Assign [.Subscript o i pos'] value pos) (sNPut X.prog X.w td ty tv) := by
  refine ⟨fun pins s σ H D I h => ?_⟩
  refine wpAny_Assign_Subscript (thn (hv.run pins s σ H _ I h) fun r s1 ⟨v, H1, I1, rv, q1⟩ => thn (ho.run pins s1 σ H1 _ I1 q1) fun u s2 ⟨x, H2, I2, rx, q2⟩ => thn (hi.run pins s2 σ H2 _ I2 q2) fun iv s3 ⟨y, H3, I3, ry, d, H4, ex, g, q3⟩ => ?_) hs
  subst ex
  obtain rfl : u = Value.ref d := rx
  exact nd_setItem hu I3 g ry rv fun s4 I4 => ⟨σ, H4, I4, q3⟩
/-- d.get(k, x) -/
def tNGet2 (P : Program) (w : World) (td ty tx : TE) : TE := fun σ H Q => td σ H fun x H1 => ∃ d kvs0, x = .ref d ∧ NDict P w H1 d kvs0 ∧ ty σ H1 fun y H2 => tx σ H2 fun z H3 => ∃ (a : Addr) (k : NestedKey) (kvs : List NE), y = .ref a ∧ NDict P w H3 d kvs ∧ NkAt H3 (.ref a) k ∧ k.depth ≤ 8 ∧ Q ((valN kvs k).getD z) H3
theorem pe_nget2 {o e f : Expr} {apos cpos : Pos} {td ty tx : TE} (hu : X.A.units + 12 < cLine) (ho : PE X o td) (he : PE X e ty) (hf : PE X f tx) (m : M2 X o "get" apos e f cpos) : PE X (.Call (.Attribute o "get" apos) [e, f] [] cpos) (tNGet2 X.prog X.w td ty tx) := by
  refine ⟨fun pins s σ H Q I h => ?_⟩
  refine wpAny_Call_method m.base m.few m.line PySem.F.plainAttrs_dict PySem.F.slot_dict_get PySem.F.type_dict_get (thn (ho.run pins s σ H _ I h) fun u s1 ⟨x, H1, I1, rx, d, kvs0, ex, hD0, q1⟩ => ?_)
  subst ex
  obtain rfl : u = Value.ref d := rx
  refine ⟨(nd_of I1 hD0).2.2.elim fun xs z => z.2.typeIs, nd_noDict I1 hD0, ?_⟩
  rw [m.trees]
  refine Calls.callWith_builtin rfl (Calls.evalArgs_plain (Calls.spliced_cons (thn (he.run pins s1 σ H1 _ I1 q1) fun iv s2 ⟨y, H2, I2, ry, q2⟩ =>
    Calls.spliced_cons (thn (hf.run pins s2 σ H2 _ I2 q2) fun fv s3 ⟨z, H3, I3, rz, a, k, kvs, ey, hD, hk, h8, q3⟩ => Calls.spliced_nil ?_))))
  subst ey
  obtain rfl : iv = Value.ref a := ry
  obtain ⟨zl, hd, xs, r, dd⟩ := nd_of I3 hD
  refine call_meetsIn PySem.F.slot_dict_get dd.typeIs PySem.F.entry_dict_get (PySem.F.args_dict_get_3 _ _ _) (meetsH_dict_get_default (nestedKind X.prog X.w) d a hd fv) ⟨by show X.A.units + 1 + 8 < cLine; omega, k, xs, nk_is I3 hk h8, dd, ?_⟩
  rcases pair_at r k with ⟨e1, e2⟩ | ⟨v', a', u', e1, e2, rv⟩
  · rw [e1] at q3
    rw [e2]
    exact ⟨z, H3, I3.tok _, rz, q3⟩
  · rw [e1] at q3
    rw [e2]
    exact ⟨v', H3, I3.tok _, rv, q3⟩
/-- len(d) -/
def rNLen (P : Program) (w : World) : List V → Hp → VK → Prop := fun xs H Q => ∃ (d : Addr) (kvs : List NE), xs = [.ref d] ∧ NDict P w H d kvs ∧ Q (.int (kvs.length : Nat)) H
theorem call_nlen : CallR X (.builtin "len") (rNLen X.prog X.w) := by
  intro pins s σ H xs us Q I r h
  obtain ⟨d, kvs, rfl, hD, q⟩ := h
  obtain ⟨u, rfl, rx⟩ := vals1 r
  obtain rfl : u = .ref d := rx
  obtain ⟨z, hd, ys, rel, dd⟩ := nd_of I hD
  have hl : kvs.length = ys.length := Paired.length rel
  refine call_len_dictH hd dd (by rw [← hl]; rw [sizeLine_eq] at z; omega) ?_
  rw [← hl]
  exact ⟨.int ((kvs.length : Nat) : Int), H, I.tok _, ⟨_, rfl⟩, q⟩
/-- {} -/
theorem nd_empty {H : Hp} (h : Heap) (hb : sysModules < h.objs.size) : ObjOk X.prog X.w H (h.push { cls := .type "dict", data := .dict #[] }) h.objs.size (.ext (ndOf X.prog X.w h.objs.size [])) :=
  nd_obj (xs := []) (Nat.zero_le _) (beq_eq_false_iff_ne.mpr (Ne.symm (Nat.ne_of_lt hb))) .nil (Heap.DictOfH.new h)
def tNNew (P : Program) (w : World) : TE := fun _ H Q => ∀ p, H p = none → Q (.ref p) (upd H p (.ext (ndOf P w p [])))
theorem pe_nnew {pos : Pos} : PE X (.Dict [] [] pos) (tNNew X.prog X.w) := ⟨fun pins s σ H Q I h =>
  wpAny_Dict_empty ⟨.ref s.heap.objs.size, _, I.laid (a := s.heap.objs.size) (o := .ext (ndOf X.prog X.w s.heap.objs.size [])) (t' := s.toks) (fun _ _ q => Heap.get?_push_of_some _ q) (Nat.le_refl _) (nd_empty s.heap I.big), rfl, h _ (I.hok.fresh (Nat.le_refl _))⟩⟩
theorem NDict.new {P : Program} {w : World} {H : Hp} {p : Addr} : NDict P w (upd H p (.ext (ndOf P w p []))) p [] := ⟨upd_same, fun e he => by cases he⟩
end
end Fx
end

section
set_option Elab.async false
set_option linter.all false
set_option maxRecDepth 100000
set_option maxHeartbeats 4000000
namespace Fx
open PySem PySem.Spec PyProof.Rows L2
/-- {k: v for .. in ..} whose keys are tuples of any depth: the reading; D the new dict -/
def tDcN (P : Program) (w : World) (wi : TI) (g : TG) (tk tv : TE) (vs : List Nat) : TE := fun σ H Q => wi σ H fun J H1 => ∀ D, H1 D = none → ∃ W : Nat → Nat → Hp → Prop, (∃ m, W 0 m (upd H1 D (.ext (ndOf P w D [])))) ∧ ∀ i m H, W i m H →
  (J.stop i H ∧ Q (.ref D) H) ∨ (J.go i H ∧ ∃ Nx : Hp → Prop, (∀ H', Nx H' → ∃ m', m' < m ∧ W (i + 1) m' H') ∧ ∀ x H', J.yld i H x H' → g x (wipe σ vs) H' fun σ2 H2 => wipe σ2 vs = wipe σ vs ∧
    tk σ2 H2 fun y H4 => tv σ2 H4 fun z H5 => ∃ H6, NPut P w H5 D y z H6 ∧ Nx H6)
section
variable {X : Cx} {kx vx tg iter : Expr} {scope : Scope} {own : List (Str × Nat)} {pos : Pos} {wi : TI} {g : TG} {tk tv : TE}
theorem pe_dcN (hc : X.calm = true) (hu : X.A.units + 12 < cLine) (hN : X.N.Nodup) (hi : PI X tg iter wi) (ok : BlkOk X.N X.env.scope scope own)
    (hg : ∀ (s : Shared) (H : Hp) (C : Addr) (cl : List (Str × Addr)) (fp : List Addr), PG (X.blk s H scope (compEnvC scope cl C X.env) fp) tg g)
    (hk : ∀ (s : Shared) (H : Hp) (C : Addr) (cl : List (Str × Addr)) (fp : List Addr), PE (X.blk s H scope (compEnvC scope cl C X.env) fp) kx tk)
    (he : ∀ (s : Shared) (H : Hp) (C : Addr) (cl : List (Str × Addr)) (fp : List Addr), PE (X.blk s H scope (compEnvC scope cl C X.env) fp) vx tv)
    (hs : ∀ x, foldedSetIterable iter X.env x = pure x := by intro _; rfl) :
    PE X (.DictComp kx vx [⟨tg, iter, [], 0⟩] scope pos) (tDcN X.prog X.w wi g tk tv (own.map (·.2))) := by
  constructor
  intro pins s σ H Q I h
  rw [arm_eval_DictComp]
  have cells : ∀ y ∈ scope.names, y.2 = .free → ∃ c, X.env.cells.lookup y.1 = some c := fun y hy e => I.ok.has _ (ok.free y hy e)
  refine wpAny_comprehension_free (use := none) rfl hs (closure_ok cells) ok.kind (fun y hy e => (ok.uniq y hy).trans (congrArg some e)) (thn (hi.run pins s σ H _ I h) fun xv s1 hx => thn hx fun itv s2 h2 => ?_)
  obtain ⟨it, fp, tn, J, H2, rfl, I2, T, st2, f2, q⟩ := h2
  refine wpAny_newObj_type (newEnv_comp ?_)
  -- D, the new dict
  obtain ⟨D, hD⟩ : ∃ D, D = s2.heap.objs.size := ⟨_, rfl⟩
  rw [← hD]
  have hDn : H2 D = none := I2.hok.fresh (Nat.le_of_eq hD.symm)
  obtain ⟨W, ⟨m0, w0⟩, turn⟩ := q D hDn
  obtain ⟨s3, hs3⟩ : ∃ s3 : Shared, s3 = { s2 with heap := s2.heap.push { cls := .type "dict", data := .dict #[] } } := ⟨_, rfl⟩
  rw [← hs3]
  have h3 : s3.heap = s2.heap.push { cls := .type "dict", data := .dict #[] } := by rw [hs3]
  obtain ⟨H3, hH3⟩ : ∃ H3, H3 = upd H2 D (.ext (ndOf X.prog X.w D [])) := ⟨_, rfl⟩
  rw [← hH3] at w0
  have I3 : Inv X pins σ H3 s3 := by
    rw [hs3, hH3]
    refine I2.laid (t' := s2.toks) (fun b o e => Heap.get?_push_of_some _ e) (Nat.le_of_eq hD.symm) ?_
    rw [hD]
    exact nd_empty s2.heap I2.big
  have low : ∀ b ∈ fp, b < s2.heap.objs.size := fun b hb => (T.obj _ _ st2 b hb).elim fun o e => Heap.lt_size e.1
  have f3 : ∀ b ∈ fp, FpOk X pins H3 b ∧ b < s3.heap.objs.size := fun b hb => by
    have hlt := low b hb
    have nb : b ≠ D := by rw [hD]; exact Nat.ne_of_lt hlt
    refine ⟨⟨?_, (f2 b hb).2⟩, ?_⟩
    · rw [hH3, upd_ne nb]; exact (f2 b hb).1
    · rw [h3, Heap.size_push]; exact Nat.lt_succ_of_lt hlt
  have st3 : tn 0 s3.heap := T.keep _ _ _ st2 fun b _ o e => by rw [h3]; exact Heap.get?_push_of_some _ e
  have I4 := block_start I3 ok hN f3
  have pg := hg s3 H3 s3.heap.objs.size (cellsFrom (s3.heap.objs.size + 1) scope.names (cloFrom X.env.cells scope.names [])) fp
  have pk := hk s3 H3 s3.heap.objs.size (cellsFrom (s3.heap.objs.size + 1) scope.names (cloFrom X.env.cells scope.names [])) fp
  have pe := he s3 H3 s3.heap.objs.size (cellsFrom (s3.heap.objs.size + 1) scope.names (cloFrom X.env.cells scope.names [])) fp
  have nfp : ∀ b ∈ fp, H3 b = none := fun b hb => (f3 b hb).1.1
  show codeAny _ _ (.compStart (.DictComp kx vx [⟨tg, iter, [], 0⟩] scope pos) 0 (.ref it) (.ref D) (compEnvC scope (cellsFrom (s3.heap.objs.size + 1) scope.names (cloFrom X.env.cells scope.names [])) s3.heap.objs.size X.env))
    (compPost (model X.prog X.w) X.A X.xe none (EP X pins σ Q) (.ref D) s3.heap.objs.size) { s3 with heap := pushCells (s3.heap.push { cls := .type "dict", data := .dict #[] }) scope.names }
  generalize hce : compEnvC scope (cellsFrom (s3.heap.objs.size + 1) scope.names (cloFrom X.env.cells scope.names [])) s3.heap.objs.size X.env = ce at I4 pg pk pe ⊢
  have cL : ce.locals = s3.heap.objs.size := by rw [← hce]; rfl
  generalize hs4 : ({ s3 with heap := pushCells (s3.heap.push { cls := .type "dict", data := .dict #[] }) scope.names } : Shared) = s4 at I4 ⊢
  have st4 : tn 0 s4.heap := T.keep _ _ _ st3 fun b _ o e => by rw [← hs4]; exact pushCells_keeps _ _ _ _ (Heap.get?_push_of_some _ e)
  have B : ∀ {σ' : L2.St} {H' : Hp} {s' : Shared}, Inv (X.blk s3 H3 scope ce fp) [] σ' H' s' → (∀ b ∈ fp, H' b = none) → ∀ b ∈ fp, FpOk (X.blk s3 H3 scope ce fp) [] H' b := by
    intro σ' H' s' I' hn b hb
    exact ⟨hn b hb, (I'.ok.exf b hb).1, I'.ok.exfs b hb, .inl hb, fun x c e => (I'.ok.exf b hb).2 x c e, fun p hp => by
      have z : p ∈ ([] : List (Addr × Obj)) ++ [] := hp
      simp at z⟩
  -- the loop
  have loop : codeAny (model X.prog X.w) X.A (.compLoop (.DictComp kx vx [⟨tg, iter, [], 0⟩] scope pos) 0 (.ref it) (.ref D) ce) (compPost (model X.prog X.w) X.A X.xe none (EP X pins σ Q) (.ref D) s3.heap.objs.size) s4 := by
    refine compLoop_anyD (fun n s' => ∃ i H', Inv (X.blk s3 H3 scope ce fp) [] (wipe σ (own.map (·.2))) H' s' ∧ tn i s'.heap ∧ (∀ b ∈ fp, H' b = none) ∧ W i n H') ?_ m0 ⟨0, H3, I4, st4, nfp, w0⟩
    rintro n s5 ⟨i, H5, I5, st5, n5, w5⟩
    rcases turn i n H5 w5 with ⟨stop, qq⟩ | ⟨go, Nx, hNx, step⟩
    · refine thnF (T.done (X.blk s3 H3 scope ce fp) rfl rfl rfl hc i [] s5 _ H5 (fun _ _ => False) I5 (B I5 n5) st5 stop) ?_
      rintro r s6 ⟨rfl, I6⟩
      have I7 : Inv X pins σ H5 s6 := I3.call' (ch := fp) I6.os I6.base I6.hok I6.bare fun b hb => let z := (f3 b hb).1; ⟨z.2.2.2.1, z.2.1, z.2.2.2.2.1, z.2.2.2.2.2⟩
      have nC : H5 s3.heap.objs.size = none := cL ▸ (show H5 ce.locals = none from I6.free)
      obtain ⟨m, hn, _⟩ := I6.loc
      have hn : s6.heap.Ns s3.heap.objs.size m := cL ▸ (show s6.heap.Ns ce.locals m from hn)
      obtain ⟨f0, f1, f2, f3', f4, f5⟩ := I3.fpOk (Nat.le_refl _) nC
      exact ⟨m, hn, fun h'' sb => ⟨.ref D, H5, I7.turned (t' := s6.toks) (fun b o hb e => (sb.2 b hb).trans e) f0 f1 f3' f4 f5, rfl, qq⟩⟩
    · refine thnF (T.item (X.blk s3 H3 scope ce fp) rfl rfl rfl hc i [] s5 _ H5 (fun _ _ => False) I5 (B I5 n5) st5 go) ?_
      rintro r s6 ⟨u, rfl, h6⟩
      refine thnF h6 ?_
      rintro _ s7 ⟨x, H7, I7, r7, y7, st7, n7⟩
      have I7' := I7.pinned (B I7 n7) (T.obj _ _ st7)
      refine thnF (pg.run _ s7 _ H7 x u _ I7' r7 (step x H7 y7)) ?_
      rintro _ s8 ⟨σ8, H8, I8, hw8, q8⟩
      refine thnF ((pts_nil (X := X.blk s3 H3 scope ce fp)).run _ s8 σ8 H8 _ I8 (show tYes σ8 H8 (fun b H9 => b = true ∧ H9 = H8) from ⟨rfl, rfl⟩)) ?_
      rintro b s9 ⟨H9, I9, rfl, rfl⟩
      show wpAny _ _ _ _ _ _
      refine thnF (pk.run _ s9 σ8 H9 _ I9 q8) ?_
      rintro z s10 ⟨yk, H10, I10, r10, q10⟩
      refine thnF (pe.run _ s10 σ8 H10 _ I10 q10) ?_
      rintro z2 s11 ⟨yv, H11, I11, r11, H12, put, nx⟩
      refine nd_dictSet (X := X.blk s3 H3 scope ce fp) hu I11 put r10 r11 fun s12 I12 => ?_
      obtain ⟨m', hm, w'⟩ := hNx H12 nx
      have pin : ∀ b ∈ fp, ∀ o, s7.heap.get? b = some o → s12.heap.get? b = some o ∧ H12 b = none := fun b hb o e => by
        have z := I12.pin (b, o) (List.mem_append_right _ (List.mem_append_right _ (mem_pinsAt hb e)))
        exact ⟨z.1, z.2.1⟩
      refine ⟨m', hm, i + 1, H12, (I12.unpinned (pins := [])).weak (by rw [← hw8, wipe_length]) (fun j v e => (wipe_some (hw8 ▸ e)).1), T.keep _ _ _ st7 fun b hb o e => (pin b hb o e).1, fun b hb => ?_, w'⟩
      obtain ⟨o, e, _⟩ := T.obj _ _ st7 b hb
      exact (pin b hb o e).2
  exact codeAny_compStart_dict loop (T.self X.A 0 _ _ _ st4 loop)
end
end Fx
namespace Fx
open PySem PySem.Spec PyProof.Rows L2
theorem u12 {k : Nat} {A : Around} (r : Room k A) : A.units + 12 < cLine := by have := r.un; omega
section
variable {X : Cx} {P : Program} {w : World}
theorem k_nin (eP : X.prog = P) (eW : X.w = w) (hu : X.A.units + 12 < cLine) : OpR X (compareOp .In) (rNIn P w) := by subst eP eW; exact op_nin hu
theorem k_nnotin (eP : X.prog = P) (eW : X.w = w) (hu : X.A.units + 12 < cLine) : OpR X (compareOp .NotIn) (rNNotIn P w) := by subst eP eW; exact op_nnotin hu
theorem k_nget {o i : Expr} {pos : Pos} {td ty : TE} (eP : X.prog = P) (eW : X.w = w) (hu : X.A.units + 12 < cLine) (ho : PE X o td) (hi : PE X i ty) (hs : NoSl i) : PE X (.Subscript o i pos) (tNGet P w td ty) := by subst eP eW; exact pe_nget hu ho hi hs
theorem k_nput {o i value : Expr} {pos pos' : Pos} {td ty tv : TE} (eP : X.prog = P) (eW : X.w = w) (hu : X.A.units + 12 < cLine) (ho : PE X o td) (hi : PE X i ty) (hv : PE X value tv) (hs : swapsWith value (some (.Subscript o i pos')) pos.line X.env = pure false) :
    PS X (.Assign [.Subscript o i pos'] value pos) (sNPut P w td ty tv) := by subst eP eW; exact ps_nput hu ho hi hv hs
theorem k_nget2 {o e f : Expr} {apos cpos : Pos} {td ty tx : TE} (eP : X.prog = P) (eW : X.w = w) (hu : X.A.units + 12 < cLine) (ho : PE X o td) (he : PE X e ty) (hf : PE X f tx) (m : M2 X o "get" apos e f cpos) :
    PE X (.Call (.Attribute o "get" apos) [e, f] [] cpos) (tNGet2 P w td ty tx) := by subst eP eW; exact pe_nget2 hu ho he hf m
theorem k_nlen (eP : X.prog = P) (eW : X.w = w) : CallR X (.builtin "len") (rNLen P w) := by subst eP eW; exact call_nlen
theorem k_nnew {pos : Pos} (eP : X.prog = P) (eW : X.w = w) : PE X (.Dict [] [] pos) (tNNew P w) := by subst eP eW; exact pe_nnew
end
end Fx
end

section
set_option Elab.async false
set_option linter.all false
set_option maxRecDepth 100000
set_option maxHeartbeats 4000000
/-! properties: their getters among the head's facts -/
namespace Fx
open PySem PySem.Spec PyProof.Rows L2
open He
/-- the getter of the property m of the class x -/
def gAd (K : PySem.W.Frag) (p : Str × Option Str) : Addr := match PySem.W.recIn K (fAd K p) "property" with
  | some (.ref g :: _) => g
  | _ => 0
def gW (K : PySem.W.Frag) (p : Str × Option Str) : FnW := match K.lookup (gAd K p) with
  | some ⟨_, _, .func fd, _⟩ => some (fd.name, fd.qualname, fd.params, fd.body, fd.scope, fd.globals, fd.closure, fd.builtins)
  | _ => none
def gCode (K : PySem.W.Frag) (d : DefD) : Bool := match K.lookup (gAd K d.at_) with
  | some ⟨_, _, .func fd, _⟩ => PySem.W.codeIn K fd.code d.qual && (dflB K fd.defaults [] && kwdB K fd.kwdefaults [])
  | _ => false
def gRec (K : PySem.W.Frag) (p : Str × Option Str) : Bool := match PySem.W.recIn K (fAd K p) "property" with
  | some (.ref _ :: _) => true
  | _ => false
def gProp (K : PySem.W.Frag) (x m : Str) : Bool := decide (PySem.W.findIn K (.ref (ga K x)) m = some (some (.ref (ma K (ga K x) m)))) && (decide (PySem.W.specialIn K (.ref (ma K (ga K x) m)) "__get__" = some (some (.builtin "property.__get__"))) &&
  (decide (PySem.W.takesIn K (.ref (ma K (ga K x) m)) = some true) && gRec K (x, some m)))
def gOk (K : PySem.W.Frag) (d : DefD) : Bool := PySem.W.keepIn K (.ref (gAd K d.at_)) && (gCode K d && (match d.at_.2 with
  | some m => gProp K d.at_.1 m
  | none => false))
def obsE (fa : List Fa) (fn gs : List DefD) (ex : PySem.W.Frag → Bool) (K : PySem.W.Frag) : AlD :=
  ((fa.all fun f => f.ok K) && ((fn.all fun d => d.ok K) && ((gs.all fun d => gOk K d) && ex K)), (fn.map fun d => fnW K d.at_) ++ gs.map fun d => gW K d.at_)
def valE (fn gs : List DefD) : AlD := (true, fn.map DefD.val ++ gs.map DefD.val)
def lookE (n : Nat) (fa : List Fa) (fn gs : List DefD) (ex : PySem.W.Frag → Bool) (g : Addr → Option Obj) : AlD := obsE fa fn gs ex (frG g (asD g n))
def hookE (n : Nat) (fa : List Fa) (fn gs : List DefD) (ex : PySem.W.Frag → Bool) : PySem.W.Hook where
  α := AlD
  obs := fun s => lookE n fa fn gs ex s.heap.get?
  val := fun _ => valE fn gs
  says := fun _ h => ∃ K : PySem.W.Frag, K.In h ∧ obsE fa fn gs ex K = valE fn gs
  of := fun _ _ e => ⟨_, frG_in, e⟩
  keeps := fun _ _ _ z k => z.elim fun K q => ⟨K, PySem.W.Frag.In.keeps q.1 k, q.2⟩
theorem lookE_eq {n : Nat} {fa : List Fa} {fn gs : List DefD} {ex : PySem.W.Frag → Bool} {g : Addr → Option Obj} {s : Shared} (h : ∀ a, g a = s.heap.get? a) : lookE n fa fn gs ex g = (hookE n fa fn gs ex).obs s := by
  obtain rfl : g = s.heap.get? := funext h
  rfl
section
variable {fa : List Fa} {fn gs : List DefD} {ex : PySem.W.Frag → Bool} {K : PySem.W.Frag}
theorem saysE_all (c : obsE fa fn gs ex K = valE fn gs) : (fa.all fun f => f.ok K) = true ∧ (fn.all fun d => d.ok K) = true ∧ (gs.all fun d => gOk K d) = true ∧ ex K = true := by
  have h1 : ((fa.all fun f => f.ok K) && ((fn.all fun d => d.ok K) && ((gs.all fun d => gOk K d) && ex K))) = true := congrArg (fun z : AlD => z.1) c
  have h2 := ba h1
  have h3 := ba h2.2
  have h4 := ba h3.2
  exact ⟨h2.1, h3.1, h4.1, h4.2⟩
theorem saysE_fact (c : obsE fa fn gs ex K = valE fn gs) (i : Nat) {f : Fa} (h : fa[i]? = some f := by rfl) : f.ok K = true := List.all_eq_true.mp (saysE_all c).1 f (List.mem_of_getElem? h)
theorem saysE_lists (c : obsE fa fn gs ex K = valE fn gs) : (fn.map fun d => fnW K d.at_) = fn.map DefD.val ∧ (gs.map fun d => gW K d.at_) = gs.map DefD.val :=
  List.append_inj (congrArg (fun z : AlD => z.2) c) (by simp)
theorem saysE_def (c : obsE fa fn gs ex K = valE fn gs) (i : Nat) {d : DefD} (h : fn[i]? = some d := by rfl) :
    FunD K d.name d.qual d.params d.body d.scope (d.dvs K) (d.kws K) (fAd K d.at_) (fdOf K (fAd K d.at_)) := by
  have e2 : (fn.map fun d => fnW K d.at_)[i]? = (fn.map DefD.val)[i]? := by rw [(saysE_lists c).1]
  rw [List.getElem?_map, List.getElem?_map, h] at e2
  obtain ⟨fd, F⟩ := DefD.funD (Option.some.inj e2) (List.all_eq_true.mp (saysE_all c).2.1 d (List.mem_of_getElem? h))
  rw [fdOf_eq F]
  exact F
theorem gFun {d : DefD} (e : gW K d.at_ = d.val) (c : gOk K d = true) : ∃ fd, FunD K d.name d.qual d.params d.body d.scope [] [] (gAd K d.at_) fd := by
  obtain ⟨kp, c2⟩ := ba c
  obtain ⟨cc, _⟩ := ba c2
  unfold gCode at cc
  unfold gW at e
  revert cc e
  cases q : K.lookup (gAd K d.at_) with
  | none => intro e cc; cases cc
  | some o =>
    obtain ⟨oc, od, dt, osl⟩ := o
    cases dt with
    | func fd =>
      intro e cc
      obtain ⟨a1, a2, a3, a4, a5, a6, a7, a8, a9, a10, a11, a12, a13, a14, a15⟩ := fd
      have e' : (some (a1, a2, a3, a4, a5, a6, a7, a15) : FnW) = some (d.name, d.qual, d.params, .stmts d.body, d.scope, mainGlobals, [], builtinsNs) := e
      injection e' with e'
      injection e' with x1 e'
      injection e' with x2 e'
      injection e' with x3 e'
      injection e' with x4 e'
      injection e' with x5 e'
      injection e' with x6 e'
      injection e' with x7 x8
      subst x1 x2 x3 x4 x5 x6 x7 x8
      obtain ⟨y1, y2⟩ := ba (show (PySem.W.codeIn K a13 d.qual && (dflB K a8 [] && kwdB K a9 [])) = true from cc)
      obtain ⟨y3, y4⟩ := ba y2
      exact ⟨_, ⟨oc, od, a8, a9, a10, a11, a12, a13, a14, osl, rfl, q, y1, dflB_ok y3, kwdB_ok y4⟩, kp⟩
    | _ => intro e cc; cases cc
theorem saysE_get (c : obsE fa fn gs ex K = valE fn gs) (i : Nat) {d : DefD} {x m : Str} (hx : d.at_ = (x, some m)) (h : gs[i]? = some d := by rfl) :
    FunD K d.name d.qual d.params d.body d.scope [] [] (gAd K (x, some m)) (fdOf K (gAd K (x, some m))) ∧ PropOf K (ga K x) m (ma K (ga K x) m) (gAd K (x, some m)) := by
  have e2 : (gs.map fun d => gW K d.at_)[i]? = (gs.map DefD.val)[i]? := by rw [(saysE_lists c).2]
  rw [List.getElem?_map, List.getElem?_map, h] at e2
  have ok := List.all_eq_true.mp (saysE_all c).2.2.1 d (List.mem_of_getElem? h)
  obtain ⟨fd, F⟩ := gFun (Option.some.inj e2) ok
  rw [hx] at F
  refine ⟨by rw [fdOf_eq F]; exact F, ?_⟩
  have z := (ba (ba ok).2).2
  rw [hx] at z
  obtain ⟨z1, z2⟩ := ba (show gProp K x m = true from z)
  obtain ⟨z3, z4⟩ := ba z2
  obtain ⟨z5, z6⟩ := ba z4
  refine ⟨of_decide_eq_true z1, of_decide_eq_true z3, of_decide_eq_true z5, ?_⟩
  unfold gRec at z6
  show ∃ rest, PySem.W.recIn K (fAd K (x, some m)) "property" = some (.ref (gAd K (x, some m)) :: rest)
  unfold gAd
  cases q : PySem.W.recIn K (fAd K (x, some m)) "property" with
  | none => rw [q] at z6; cases z6
  | some l =>
    rw [q] at z6
    cases l with
    | nil => cases z6
    | cons v r =>
      cases v with
      | ref g => exact ⟨r, rfl⟩
      | _ => cases z6
end
/-- a property that reads a field -/
theorem get_ok {P : Program} {w : World} {K : PySem.W.Frag} {mg : Str → Option Value} {base : Heap} {x name qual f : Str} {params : Arguments} {body : List Stmt} {scope : Scope} {g C : Addr} {N : List Str} {p1 p2 p3 : Pos}
    (F : FunD K name qual params body scope [] [] g (fdOf K g)) (S : FnScope N ["self"] scope) (hN : N[0]? = some ("self" : Str)) (hb : body = [.Return (some (.Attribute (.Name "self" p1) f p2)) p3]) (c : Cls K C) (n : NoAttr K C f) :
    FnOk P w K mg base CX0 1 g (fdOf K g) ["self"] (getSp C f) := by
  obtain ⟨oc, od, dV, kV, doc, pm, an, cdv, ct, osl, e, lk, hcd, _, _⟩ := F.ex
  rw [e] at lk ⊢
  exact fn_getter (k := 0) lk hcd S hN hb c n
end Fx
end

section
set_option Elab.async false
set_option linter.all false
set_option maxRecDepth 100000
set_option maxHeartbeats 4000000
/-! zip of a list and a tuple, either way -/
namespace Fx
open PySem PySem.Spec PyProof.Rows L2
/-- a tuple (true) or a list (false) of xs stands at a -/
def SqF (t : Bool) (K : PySem.W.Frag) (H : Hp) (a : Addr) (xs : List V) : Prop := match t with
  | true => SqT K H a xs
  | false => SqL K H a xs
def IsF (t : Bool) (h : Heap) (a : Addr) (items : Array Value) : Prop := match t with
  | true => h.IsTuple a items
  | false => h.IsList a items
def ItF (t : Bool) (h : Heap) (it a : Addr) (i : Nat) : Prop := match t with
  | true => h.IsTupleIter it a i
  | false => h.IsListIter it a i
def oF (t : Bool) (a : Addr) : Obj := match t with
  | true => { cls := .type "tuple_iterator", data := .fields #[.ref a, .int 0 0] }
  | false => { cls := .type "list_iterator", data := .fields #[.ref a, .int 0 0] }
theorem drawsF (t : Bool) {prog : Program} {w : World} {A : Around} (hh : A.handled = none) (it a : Addr) (hne : a ≠ it) (items : Array Value) :
    Draws prog w A it [it, a] items.size (fun i v => items[i]? = some v) (fun i h => ItF t h it a i ∧ IsF t h a items) := by
  cases t
  · exact Draws.list hh it a hne items
  · exact Draws.tuple hh it a hne items
theorem beginsF (t : Bool) (a : Addr) (items : Array Value) : Begins (.ref a) (oF t a) fun h => IsF t h a items := by
  cases t
  · exact begins_list a items
  · exact begins_tuple a items
theorem ItF.new {t : Bool} {h : Heap} {it a : Addr} (e : h.get? it = some (oF t a)) : ItF t h it a 0 := by
  cases t <;> exact ⟨_, e, rfl, rfl⟩
theorem ItF.at {t : Bool} {h h' : Heap} {it a : Addr} {i : Nat} (x : ItF t h it a i) (k : ∀ o, h.get? it = some o → h'.get? it = some o) : ItF t h' it a i := by
  cases t
  · exact Heap.IsListIter.at (h := h) x k
  · exact Heap.IsTupleIter.at (h := h) x k
theorem ItF.obj {t : Bool} {h : Heap} {it a : Addr} {i : Nat} (x : ItF t h it a i) : ∃ o fs, h.get? it = some o ∧ o.data = .fields fs := by
  cases t
  · obtain ⟨o, e, _, d⟩ := (show h.IsListIter it a i from x)
    exact ⟨o, _, e, d⟩
  · obtain ⟨o, e, _, d⟩ := (show h.IsTupleIter it a i from x)
    exact ⟨o, _, e, d⟩
section
variable {X : Cx} {pins : List (Addr × Obj)} {σ : L2.St} {H : Hp} {s : Shared} {t : Bool} {a : Addr} {xs ys : List V}
theorem seqF (I : Inv X pins σ H s) (h : SqF t X.K H a xs) : ∃ its : List Value, Vals xs its ∧ IsF t s.heap a its.toArray := by
  cases t
  · obtain ⟨its, r, p, _⟩ := I.list (show SqL X.K H a xs from h)
    exact ⟨its, r, p.isList⟩
  · obtain ⟨its, r, p, _⟩ := I.tuple (show SqT X.K H a xs from h)
    exact ⟨its, r, p⟩
theorem seqF_lt (I : Inv X pins σ H s) (h : SqF t X.K H a xs) : a < s.heap.objs.size := by
  cases t
  · obtain ⟨its, r, p, _⟩ := I.list (show SqL X.K H a xs from h)
    exact p.lt
  · obtain ⟨its, r, p, _⟩ := I.tuple (show SqT X.K H a xs from h)
    obtain ⟨_, e, _⟩ := p
    exact Heap.lt_size e
theorem seqF_inj (I : Inv X pins σ H s) (h : SqF t X.K H a xs) (h' : SqF t X.K H a ys) : xs = ys := by
  cases t
  · exact I.list_inj h h'
  · exact I.tuple_inj h h'
end
/-- both as they stand at each turn, the items in new pairs -/
def ItzM (K : PySem.W.Frag) (t u : Bool) (a b : Addr) : It :=
  ⟨fun i H => ∃ (xs ys : List V) (x y : V), SqF t K H a xs ∧ SqF u K H b ys ∧ xs[i]? = some x ∧ ys[i]? = some y,
    fun i H v H' => ∃ T x y, v = .ref T ∧ H T = none ∧ H' = upd H T (.tup [x, y]) ∧ (∀ xs, SqF t K H a xs → xs[i]? = some x) ∧ ∀ ys, SqF u K H b ys → ys[i]? = some y,
    fun i H => ∃ xs ys : List V, SqF t K H a xs ∧ SqF u K H b ys ∧ i ≤ xs.length ∧ i ≤ ys.length ∧ (i = xs.length ∨ i = ys.length)⟩
structure Apart5 (z TI TO i1 i2 a b : Addr) : Prop where
  S : ZipSep2 z TI TO i1 i2 [i1, a] [i2, b]
  n1 : a ≠ i1
  n2 : b ≠ i2
theorem turn_zipM {P : Program} {w : World} {K : PySem.W.Frag} {elts : List Expr} {kk : Nat} {tpos : Pos} {t u : Bool} {a b z TI TO i1 i2 : Addr} (D : Apart5 z TI TO i1 i2 a b) :
    Turn P w K (.Tuple elts kk tpos) (ItzM K t u a b) [z, TI, TO, i1, i2] z (fun i h => IsZip h z TI TO .none ∧ IsTupOf2 h TI (.ref i1) (.ref i2) ∧ (∃ x y, IsTupOf2 h TO x y) ∧ ItF t h i1 a i ∧ ItF u h i2 b i) where
  mem := by simp
  obj := fun i h st c hc => by
    obtain ⟨q1, q2, ⟨x, y, q3⟩, q4, q5⟩ := st
    have five : c = z ∨ c = TI ∨ c = TO ∨ c = i1 ∨ c = i2 := by simpa using hc
    rcases five with rfl | rfl | rfl | rfl | rfl
    · exact ⟨_, q1, fun v q => nomatch q⟩
    · exact ⟨_, q2, fun v q => nomatch q⟩
    · exact ⟨_, q3, fun v q => nomatch q⟩
    · obtain ⟨o, fs, e, d⟩ := q4.obj
      exact ⟨o, e, fun v q => by rw [d] at q; cases q⟩
    · obtain ⟨o, fs, e, d⟩ := q5.obj
      exact ⟨o, e, fun v q => by rw [d] at q; cases q⟩
  keep := fun i h h' st kp => by
    obtain ⟨q1, q2, ⟨x, y, q3⟩, q4, q5⟩ := st
    exact ⟨kp z (by simp) _ q1, kp TI (by simp) _ q2, ⟨x, y, kp TO (by simp) _ q3⟩, q4.at fun o q => kp i1 (by simp) o q, q5.at fun o q => kp i2 (by simp) o q⟩
  item := by
    intro X hP hw hK hc i pins s σ H E I hf st hg
    subst hP hw hK
    obtain ⟨q1, q2, ⟨x0, y0, q3⟩, q4, q5⟩ := st
    obtain ⟨xs, ys, x, y, hx, hy, gx, gy⟩ := hg
    obtain ⟨us, ru, pu⟩ := seqF I hx
    obtain ⟨ws, rw', pw⟩ := seqF I hy
    obtain ⟨v1, e1, r1⟩ := ru.get gx
    obtain ⟨v2, e2, r2⟩ := rw'.get gy
    have l1 : i < us.toArray.size := by have := lt_of_get e1; simpa using this
    have l2 : i < ws.toArray.size := by have := lt_of_get e2; simpa using this
    have hh : X.A.in1.handled = none := I.ok.hd hc
    have zl : z < s.heap.objs.size := Heap.lt_size q1
    refine wpAny_pyNext_zipD2_item D.S (drawsF t hh i1 a D.n1 us.toArray) (drawsF u hh i2 b D.n2 ws.toArray) q1 q2 q3 ⟨q4, pu⟩ ⟨q5, pw⟩ l1 l2 fun w1 w2 h' tk y1 y2 b1 b2 d1 d2 b5 b6 kp => ?_
    obtain rfl : w1 = v1 := by
      have g : us[i]? = some w1 := by simpa using y1
      rw [e1] at g; exact (Option.some.inj g).symm
    obtain rfl : w2 = v2 := by
      have g : ws[i]? = some w2 := by simpa using y2
      rw [e2] at g; exact (Option.some.inj g).symm
    refine ⟨_, rfl, wpAny_letOwnedTupleGo_zip (s := { s with heap := h', toks := tk }) b1 fun h2 z2 sb => ?_⟩
    have made : h2.get? s.heap.objs.size = some { cls := .type "tuple", data := .seq #[w1, w2] } := (sb.2 _ (Nat.ne_of_gt zl)).trans b5
    have ok : ObjOk X.prog X.w (upd H s.heap.objs.size (.tup [x, y])) h2 s.heap.objs.size (.tup [x, y]) := ⟨by show 2 ≤ sizeLine; decide, [w1, w2], .cons r1 (.cons r2 .nil), ⟨_, made, rfl, _, rfl⟩⟩
    have step : ∀ c o, c ≠ z → c ≠ TO → c ≠ i1 → c ≠ i2 → s.heap.get? c = some o → h2.get? c = some o := fun c o c1 c2 c3 c4 e => (sb.2 c c1).trans (kp c o c1 c2 c3 c4 e)
    have I2 : Inv X pins σ (upd H s.heap.objs.size (.tup [x, y])) { s with heap := h2, toks := tk } := by
      refine I.turnedNew (ch := [z, TI, TO, i1, i2]) (fun c o out e => ?_) hf (Nat.le_refl _) ok
      have no : ∀ d, d ∈ [z, TI, TO, i1, i2] → c ≠ d := fun d hd q => out (q ▸ hd)
      exact step c o (no z (by simp)) (no TO (by simp)) (no i1 (by simp)) (no i2 (by simp)) e
    refine ⟨.ref s.heap.objs.size, _, I2, rfl, ⟨_, x, y, rfl, I.hok.fresh (Nat.le_refl _), rfl, fun l hl => by rw [seqF_inj I hl hx]; exact gx, fun l hl => by rw [seqF_inj I hl hy]; exact gy⟩, ⟨z2, ?_, ⟨w1, w2, ?_⟩, ?_, ?_⟩, fun c hcm => ?_⟩
    · exact step _ _ D.S.TIz D.S.TITO D.S.TIi1 D.S.TIi2 q2
    · exact (sb.2 _ D.S.TOz).trans b2
    · exact d1.1.at fun o q => (sb.2 _ D.S.zi1.symm).trans q
    · exact d2.1.at fun o q => (sb.2 _ D.S.zi2.symm).trans q
    · have five : c = z ∨ c = TI ∨ c = TO ∨ c = i1 ∨ c = i2 := by simpa using hcm
      have lt : c < s.heap.objs.size := by
        rcases five with rfl | rfl | rfl | rfl | rfl
        · exact zl
        · exact Heap.lt_size q2
        · exact Heap.lt_size q3
        · obtain ⟨_, _, e, _⟩ := q4.obj; exact Heap.lt_size e
        · obtain ⟨_, _, e, _⟩ := q5.obj; exact Heap.lt_size e
      rw [upd_ne (Nat.ne_of_lt lt)]
      exact (hf c hcm).1
  done := by
    intro X hP hw hK hc i pins s σ H E I hf st hg
    subst hP hw hK
    obtain ⟨q1, q2, ⟨x0, y0, q3⟩, q4, q5⟩ := st
    obtain ⟨xs, ys, hx, hy, m1, m2, last⟩ := hg
    obtain ⟨us, ru, pu⟩ := seqF I hx
    obtain ⟨ws, rw', pw⟩ := seqF I hy
    have k1 := ru.length
    have k2 := rw'.length
    have hh : X.A.in1.handled = none := I.ok.hd hc
    refine wpAny_pyNext_zipD2_end D.S (drawsF t hh i1 a D.n1 us.toArray) (drawsF u hh i2 b D.n2 ws.toArray) q1 q2 q3 ⟨q4, pu⟩ ⟨q5, pw⟩ (by simp; omega) (by simp; omega) (by simp; omega) fun h' tk kp => ⟨rfl, ?_⟩
    refine I.turnedL (t' := tk) (ch := [z, TI, TO, i1, i2]) (fun c o out e => ?_) hf
    have no : ∀ d, d ∈ [z, TI, TO, i1, i2] → c ≠ d := fun d hd q => out (q ▸ hd)
    exact kp c o (no z (by simp)) (no TO (by simp)) (no i1 (by simp)) (no i2 (by simp)) e
  self := fun A i s Q E st h => wpAny_pyIter_zip st.1 h
def iZipM (K : PySem.W.Frag) (t u : Bool) (ta : TA) : TI := fun σ H R => ta σ H fun vs H1 => ∃ a b xs ys, vs = [.ref a, .ref b] ∧ SqF t K H1 a xs ∧ SqF u K H1 b ys ∧ R (ItzM K t u a b) H1
theorem n5add (n i j : Nat) (h : i ≠ j) : n + i ≠ n + j := by omega
theorem n5zero (n i : Nat) (h : 0 < i) : n + i ≠ n := by omega
theorem n5up (n i c : Nat) (h : c < n) : n + i ≠ c := by omega
theorem n5upz (n c : Nat) (h : c < n) : n ≠ c := by omega
theorem apart5 (n a b : Addr) (ha : a < n) (hb : b < n) : Apart5 (n + 4) (n + 2) (n + 3) n (n + 1) a b := by
  have no : ∀ {x y : Nat}, x ≠ y → ¬ ((x : Addr) = y) := fun h => h
  have out : ∀ {x y w : Nat}, x ≠ y → x ≠ w → ¬ ((x : Addr) ∈ [(y : Addr), w]) := fun h1 h2 h => by
    rcases List.mem_cons.mp h with e | e
    · exact h1 e
    · exact h2 (List.mem_singleton.mp e)
  have add : ∀ i j : Nat, i ≠ j → n + i ≠ n + j := fun i j h => n5add n i j h
  have zero : ∀ i : Nat, 0 < i → n + i ≠ n := fun i h => n5zero n i h
  have up : ∀ (i : Nat) (c : Addr), c < n → n + i ≠ c := fun i c h => n5up n i c h
  have upz : ∀ (c : Addr), c < n → n ≠ c := fun c h => n5upz n c h
  exact ⟨⟨no (add 2 4 (by decide)), no (add 3 4 (by decide)), no (add 2 3 (by decide)), no (zero 2 (by decide)), List.mem_cons_self .., out (zero 4 (by decide)) (up 4 a ha), out (zero 3 (by decide)) (up 3 a ha),
    no (add 2 1 (by decide)), List.mem_cons_self .., out (add 4 1 (by decide)) (up 4 b hb), out (add 3 1 (by decide)) (up 3 b hb), out (fun e => zero 1 (by decide) e.symm) (upz b hb), out (zero 1 (by decide)) (up 1 a ha)⟩,
    fun e => upz a ha e.symm, fun e => up 1 b hb e.symm⟩
theorem k_pizipM {X : Cx} {K : PySem.W.Frag} (t u : Bool) (eK : X.K = K) {x x2 : Expr} {ta : TA} {p pos tpos : Pos} {elts : List Expr} {kk : Nat} (hg : Gl X "zip") (hm : X.mg "zip" = none) (ha : PA X [x, x2] ta)
    (hs : starEach [x, x2] X.env = (false, eval x X.env) :: starEach [x2] X.env := by rfl) (hpl : (backTo pos (starEach [x2] X.env)).any (·.1) = false := by rfl) :
    PI X (.Tuple elts kk tpos) (.Call (.Name "zip" p) [x, x2] [] pos) (iZipM K t u ta) := by
  subst eK
  refine ⟨fun pins s σ H R I h => ?_⟩
  refine Call_ (ld_blt I hg hm PyProof.Rows.boot_zip (PyProof.Rows.callWith_type1 (thn (ha.run pos pins s σ H _ I h) fun us s1 ⟨vs, H1, I1, r1, a, b, xs, ys, ex, hx, hy, q⟩ => ?_) hs hpl))
  subst ex
  obtain ⟨u1, u2, rfl, e1, e2⟩ := vals2 r1
  cases (show u1 = Value.ref a from e1)
  cases (show u2 = Value.ref b from e2)
  obtain ⟨i1, _, p1⟩ := seqF I1 hx
  obtain ⟨i2, _, p2⟩ := seqF I1 hy
  have la := seqF_lt I1 hx
  have lb := seqF_lt I1 hy
  refine zip_begins2 (beginsF t a i1.toArray) (beginsF u b i2.toArray) p1 p2 fun h' hz hTI hTO o1 o2 hsz kp => wpAny_pyIter_zip hz ?_
  have I2 : Inv X pins σ H1 { s1 with heap := h' } := I1.kept (t' := s1.toks) kp
  refine ⟨s1.heap.objs.size + 4, [s1.heap.objs.size + 4, s1.heap.objs.size + 2, s1.heap.objs.size + 3, s1.heap.objs.size, s1.heap.objs.size + 1], _, _, H1, rfl, I2, turn_zipM (apart5 s1.heap.objs.size a b la lb), ⟨hz, hTI, ⟨_, _, hTO⟩, ItF.new o1, ItF.new o2⟩, fun c hcm => ?_, q⟩
  have five : c = s1.heap.objs.size + 4 ∨ c = s1.heap.objs.size + 2 ∨ c = s1.heap.objs.size + 3 ∨ c = s1.heap.objs.size ∨ c = s1.heap.objs.size + 1 := by simpa using hcm
  have up : s1.heap.objs.size ≤ c := by
    rcases five with z | z | z | z | z <;> rw [z]
    · exact Nat.le_add_right _ _
    · exact Nat.le_add_right _ _
    · exact Nat.le_add_right _ _
    · exact Nat.le_refl _
    · exact Nat.le_add_right _ _
  exact I1.fpOk up (I1.hok.fresh up)
theorem walk_zipM {K : PySem.W.Frag} {t u : Bool} {a b : Addr} {xs ys : List V} : Walk (ItzM K t u a b) (min xs.length ys.length) (fun H => SqF t K H a xs ∧ SqF u K H b ys) (YPair (fun i => xs[i]?) (fun i => ys[i]?)) := by
  refine ⟨fun i _ hi q => ⟨xs, ys, xs[i]'(by omega), ys[i]'(by omega), q.1, q.2, List.getElem?_eq_getElem _, List.getElem?_eq_getElem _⟩, fun _ q => ⟨xs, ys, q.1, q.2, by omega, by omega, by omega⟩, fun i H v H' _ q y => ?_⟩
  obtain ⟨T, x, z, h1, h2, h3, h4, h5⟩ := y
  exact ⟨T, x, z, h1, h2, h3, h4 xs q.1, h5 ys q.2⟩
end Fx
end

section
set_option Elab.async false
set_option linter.all false
set_option maxRecDepth 100000
set_option maxHeartbeats 4000000
/-! rules with their program and fragment named; own len and ==; repr of a list of dicts -/
namespace Fx
open PySem PySem.Spec PyProof.Rows L2
theorem u65 {k : Nat} {A : Around} (r : Room k A) : A.units + 65 < cLine := by have := r.un; omega
theorem u64 {k : Nat} {A : Around} (r : Room k A) : A.units + 64 < cLine := by have := r.un; omega
section
variable {X : Cx} {K : PySem.W.Frag} {P : Program} {w : World}
theorem k_inD (eK : X.K = K) (hu : X.A.units + 65 < cLine) : OpR X (compareOp .In) (rInD K) := by subst eK; exact op_inD hu
theorem k_notInD (eK : X.K = K) (hu : X.A.units + 65 < cLine) : OpR X (compareOp .NotIn) (rNotInD K) := by subst eK; exact op_notInD hu
theorem k_indexD (eK : X.K = K) (hu : X.A.units + 65 < cLine) : MtR X "list.index" (rIndexD K) := by subst eK; exact mt_indexD hu
theorem k_eqV (eK : X.K = K) (hu : X.A.units + 64 < cLine) : OpR X (compareOp .Eq) (rEqV K) := by subst eK; exact op_eqV hu
theorem k_sortedI (eK : X.K = K) : CallR X (.builtin "sorted") (rSorted K) := by subst eK; exact cr_sorted
theorem k_dcN {kx vx tg iter : Expr} {scope : Scope} {own : List (Str × Nat)} {pos : Pos} {wi : TI} {g : TG} {tk tv : TE} (eP : X.prog = P) (eW : X.w = w)
    (hc : X.calm = true) (hu : X.A.units + 12 < cLine) (hN : X.N.Nodup) (hi : PI X tg iter wi) (ok : BlkOk X.N X.env.scope scope own)
    (hg : ∀ (s : Shared) (H : Hp) (C : Addr) (cl : List (Str × Addr)) (fp : List Addr), PG (X.blk s H scope (compEnvC scope cl C X.env) fp) tg g)
    (hk : ∀ (s : Shared) (H : Hp) (C : Addr) (cl : List (Str × Addr)) (fp : List Addr), PE (X.blk s H scope (compEnvC scope cl C X.env) fp) kx tk)
    (he : ∀ (s : Shared) (H : Hp) (C : Addr) (cl : List (Str × Addr)) (fp : List Addr), PE (X.blk s H scope (compEnvC scope cl C X.env) fp) vx tv)
    (hs : ∀ x, foldedSetIterable iter X.env x = pure x := by intro _; rfl) :
    PE X (.DictComp kx vx [⟨tg, iter, [], 0⟩] scope pos) (tDcN P w wi g tk tv (own.map (·.2))) := by subst eP eW; exact pe_dcN hc hu hN hi ok hg hk he hs
end
section
variable {X : Cx} {k : Nat} {f C : Addr} {fd : FuncData} {ps : List Str} {sp : Sp}
/-- len of an instance, by its own def -/
def rOwnLen (C : Addr) (sp : Sp) : List V → Hp → VK → Prop := fun xs H Q => ∃ (a dx : Addr) (fs : List (Str × V)), xs = [.ref a] ∧ H a = some (.ins C dx fs) ∧ sp [.ref a] H (fun v H' => ∃ n : Int, v = .int n ∧ 0 ≤ n ∧ n < 2 ^ 63 ∧ Q v H') E0
theorem call_ownlen {K : PySem.W.Frag} (eK : X.K = K) (hs : PySem.W.findIn K (.ref C) "__len__" = some (some (.ref f))) (hfn : PySem.W.isFn K (.ref f) = true)
    (F : FnOk X.prog X.w X.K X.mg X.base CX0 k f fd ps sp) (hr : Room (k + 1) X.A) (hb : Binds X.K fd ps []) : CallR X (.builtin "len") (rOwnLen C sp) := by
  subst eK
  intro pins s σ H xs us Q I r h
  obtain ⟨a, dx, fs, rfl, ea, q⟩ := h
  obtain ⟨u, rfl, rx⟩ := vals1 r
  obtain rfl : u = Value.ref a := rx
  obtain ⟨mA, O, _⟩ := ins_get I.hok ea
  obtain ⟨od, J, _⟩ := O.look
  obtain ⟨m, fr⟩ := I.fr
  refine PySem.W.len_K fr I.ok.mod.kin J hs hfn (thn (run_in1 F hr hb I (.cons (show L2.RelV (.ref a) (.ref a) from rfl) .nil) q) ?_)
  rintro v s' ⟨x, H', I', rx', n, rfl, h0, h1, q'⟩
  obtain ⟨t, rfl⟩ := rx'
  exact ⟨⟨h0, h1⟩, .int n, H', I'.tok _, ⟨_, rfl⟩, q'⟩
/-- == of two instances, equal by their own def -/
theorem k_eqOwn {K : PySem.W.Frag} (eK : X.K = K) {R : Addr → Addr → Hp → Prop} (F : FnOk X.prog X.w X.K X.mg X.base CX0 k f fd ps (spEq R))
    (hs : PySem.W.findIn K (.ref C) "__eq__" = some (some (.ref f))) (hf : PySem.W.isFn K (.ref f) = true) (hb : Binds X.K fd ps []) (hr : Room k X.A) : OpR X (compareOp .Eq) (rEqG (DIns C R)) := by
  subst eK
  exact op_eqG (rcG_ins (E := E0) F hs hf hb pass0) hr
end
/-! ### repr of a list of dicts from texts to ints and None -/
abbrev RowD := List (Str × Option Int)
def oV : Option Int → V
  | none => .non
  | some i => .int i
def oD : Option Int → PyData
  | none => .none
  | some i => .int i
def rowV (r : RowD) : List (Key × V) := r.map fun p => (.inr p.1, oV p.2)
def rowP (r : RowD) : PyData := .dict (r.map fun p => (.str p.1, oD p.2))
theorem oV_reads {h : Heap} : ∀ {o : Option Int} {u : Value}, RelV (oV o) u → Reads h u (oD o) []
  | none, u, r => by
    cases (show u = Value.none from r)
    exact .none
  | some i, u, r => by
    obtain ⟨t, rfl⟩ := r
    exact .int i t
theorem row_reads {P : Program} {w : World} {h : Heap} : ∀ {r : RowD} {vs : List (Key × Value)} {es : List DictEntry}, KV (rowV r) vs → Pairs (mixKind P w) es vs →
    ReadsAll h (es.map (·.key)) ((r.map fun p => ((PyData.str p.1, oD p.2) : PyData × PyData)).map (·.1)) [] ∧ ReadsAll h (es.map (·.val)) ((r.map fun p => ((PyData.str p.1, oD p.2) : PyData × PyData)).map (·.2)) []
  | [], vs, es, k, p => by
    cases k
    cases p
    exact ⟨.nil, .nil⟩
  | (x, o) :: r, vs, es, k, p => by
    cases k with
    | @cons _ q _ qs h1 t1 =>
      cases p with
      | @cons e _ es' _ p1 p2 p3 =>
        obtain ⟨a, b⟩ := row_reads t1 p3
        obtain ⟨e1, e2⟩ := h1
        rw [← e1] at p1
        obtain ⟨t, ht⟩ := Value.isStrOf_shape (x := x) (v := e.key) p1
        have e2' : RelV (oV o) e.val := by rw [p2]; exact e2
        have k1 : Reads h e.key (.str x) [] := by rw [ht]; exact .str x t
        exact ⟨.cons (as := []) (bs := []) k1 a, .cons (as := []) (bs := []) (oV_reads e2') b⟩
theorem rowd_reads {P : Program} {w : World} {H : Hp} {h : Heap} (ok : HOk P w H h) {b : Addr} {r : RowD} (e : Rd H b (.dK (rowV r))) : Reads h (.ref b) (rowP r) [b] ∧ b ≠ sysModules := by
  obtain ⟨z, lo, vs, rel, o, es, ep, h1, h2, h3, h4, h5, h6⟩ := dk_rd ok e
  obtain ⟨x, y⟩ := row_reads (h := h) rel h5
  exact ⟨.dict (as := []) (bs := []) h1 h2.1 h3 x y, by simpa using lo⟩
theorem rowds_reads {P : Program} {w : World} {H : Hp} {h : Heap} (ok : HOk P w H h) : ∀ {bs : List Addr} {rs : List RowD} {us : List Value}, Paired (fun b r => Rd H b (.dK (rowV r))) bs rs → Vals (bs.map V.ref) us → ReadsAll h us (rs.map rowP) bs ∧ sysModules ∉ bs
  | [], rs, us, p, v => by
    cases p
    cases v
    exact ⟨.nil, by simp⟩
  | b :: bs, rs, us, p, v => by
    cases p with
    | @cons _ r _ rs' p1 p2 =>
      cases v with
      | @cons _ u _ us' v1 v2 =>
        obtain rfl : u = Value.ref b := v1
        obtain ⟨x, y⟩ := rowds_reads ok p2 v2
        obtain ⟨x1, y1⟩ := rowd_reads ok p1
        exact ⟨.cons (as := [b]) (bs := bs) x1 x, fun m => (List.mem_cons.mp m).elim (fun e => y1 e.symm) y⟩
theorem oD_depth (o : Option Int) : (oD o).depth = 0 := by cases o <;> simp [oD, PyData.depth]
theorem showKv : ∀ r : RowD, (∀ p ∈ r, (oD p.2).showable = true) → PyData.showableKv (r.map fun p => (PyData.str p.1, oD p.2)) = true
  | [], _ => rfl
  | p :: r, hs => by simp [PyData.showableKv, PyData.showable, hs p (List.mem_cons_self ..), showKv r fun q hq => hs q (List.mem_cons_of_mem _ hq)]
theorem depthKv0 : ∀ r : RowD, PyData.depthKv (r.map fun p => (PyData.str p.1, oD p.2)) = 0
  | [] => rfl
  | p :: r => by simp [PyData.depthKv, PyData.depth, oD_depth, depthKv0 r]
theorem showRows : ∀ rs : List RowD, (∀ r ∈ rs, ∀ p ∈ r, (oD p.2).showable = true) → PyData.showableAll (rs.map rowP) = true
  | [], _ => rfl
  | r :: rs, hs => by simp [PyData.showableAll, rowP, PyData.showable, showKv r (hs r (List.mem_cons_self ..)), showRows rs fun q hq => hs q (List.mem_cons_of_mem _ hq)]
theorem depthRows : ∀ rs : List RowD, PyData.depthAll (rs.map rowP) ≤ 1
  | [] => by simp [PyData.depthAll]
  | r :: rs => by
    have := depthRows rs
    simp only [List.map_cons, PyData.depthAll, rowP, PyData.depth, depthKv0]
    omega
/-- repr of a list of such dicts -/
def rReprRows (K : PySem.W.Frag) : List V → Hp → VK → Prop := fun xs H Q => ∃ (a : Addr) (bs : List Addr) (rs : List RowD), xs = [.ref a] ∧ SqL K H a (bs.map V.ref) ∧ Paired (fun b r => Rd H b (.dK (rowV r))) bs rs ∧ (∀ r ∈ rs, ∀ p ∈ r, (oD p.2).showable = true) ∧ (PyData.list (rs.map rowP)).shown.length ≤ sizeLine ∧ Q (.str (PyData.list (rs.map rowP)).shown) H
theorem k_reprRows {X : Cx} {K : PySem.W.Frag} (eK : X.K = K) (gd : X.A.guards = some []) (hu : X.A.units + 66 < cLine) : CallR X (.builtin "repr") (rReprRows K) := by
  subst eK
  intro pins s σ H xs us Q I r h
  obtain ⟨a, bs, rs, rfl, hl, hp, hsh, hz, q⟩ := h
  rw [Vals.ref1 r]
  obtain ⟨its, rv, pl, z⟩ := I.list hl
  obtain ⟨o, n, h1, h2, h3, h4⟩ := pl
  obtain ⟨h5, nm⟩ := rowds_reads I.hok hp rv
  have hz' : (listText (PyData.shownAll (rs.map rowP))).length ≤ sizeLine := by simpa only [PyData.shown] using hz
  have hr : Reads s.heap (.ref a) (.list (rs.map rowP)) (a :: bs) := .list h1 h2 h4 (by simpa using h5)
  obtain ⟨as, hb, hk⟩ := ReprAllK.of_readsAll (prog := X.prog) (w := X.w) h5 (showRows rs hsh) (fun _ => nm) (fun t ht => Nat.le_trans (listText_mem_le ht) hz')
  have hd := depthRows rs
  have hna : a ∉ as := not_mem_of_deeper hr (by simp only [PyData.depth]; omega) hb
  have hq : ∀ h' u tk, (∀ b o, s.heap.get? b = some o → h'.get? b = some o) → EP X pins σ Q (.str (PyData.list (rs.map rowP)).shown u) { s with heap := h', toks := tk } :=
    fun h' u tk hk => ⟨.str _, H, I.kept (t' := tk) hk, ⟨u, rfl⟩, q⟩
  refine call_repr_slot (by omega) ⟨o, h1, h2⟩ F.slot_list_repr.toG ?_
  simp only [PyData.shown] at hq
  cases its with
  | nil =>
    cases bs with
    | cons b bs => cases rv
    | nil =>
      cases hp
      simp only [List.map_nil, PyData.shownAll, listText_nil] at hq
      exact call_list_repr_empty ⟨o, h1, h2⟩ h1 h4 ⟨_, _, rfl, hq s.heap _ _ fun _ _ e => e⟩
  | cons x l =>
    exact call_list_reprK h1 h2 h4 hna (by simpa using hk.length_eq) (fun i y e => hk.item i y (by simpa using e)) gd (fun b _ => Clear.nil b) (by show X.A.units + 1 + _ < cLine; omega) (fun _ _ e => e) (fun h' u tk hk => ⟨_, _, rfl, hq h' u tk hk⟩) hz'
/-- two ways to iterate, whichever the heap allows -/
theorem pi_or {X : Cx} {tg l : Expr} {w1 w2 : TI} (h1 : PI X tg l w1) (h2 : PI X tg l w2) : PI X tg l (fun σ H R => w1 σ H R ∨ w2 σ H R) :=
  ⟨fun pins s σ H R I h => h.elim (h1.run pins s σ H R I) (h2.run pins s σ H R I)⟩
theorem cr_or {X : Cx} {f : Value} {r1 r2 : List V → Hp → VK → Prop} (h1 : CallR X f r1) (h2 : CallR X f r2) : CallR X f (fun xs H Q => r1 xs H Q ∨ r2 xs H Q) :=
  fun pins s σ H xs us Q I r h => h.elim (h1 pins s σ H xs us Q I r) (h2 pins s σ H xs us Q I r)
theorem or_op {X : Cx} {f : Value → Value → Sem Value} {r1 r2 : R2} (h1 : OpR X f r1) (h2 : OpR X f r2) : OpR X f (fun x y H Q => r1 x y H Q ∨ r2 x y H Q) :=
  fun pins s σ H x y v u Q I rx ry h => h.elim (h1 pins s σ H x y v u Q I rx ry) (h2 pins s σ H x y v u Q I rx ry)
def oS : Option Int → Str
  | none => "None"
  | some i => toString i
/-- repr of an int or None -/
def rReprO : List V → Hp → VK → Prop := fun xs H Q => ∃ o : Option Int, xs = [oV o] ∧ (oD o).showable = true ∧ Q (.str (oS o)) H
theorem call_reprO {X : Cx} : CallR X (.builtin "repr") rReprO := by
  intro pins s σ H xs us Q I r h
  obtain ⟨o, rfl, hs, q⟩ := h
  cases o with
  | none =>
    obtain ⟨u, rfl, rx⟩ := vals1 r
    cases (show u = Value.none from rx)
    exact PySem.P.repr_of_none ⟨.str _, H, I.tok _, ⟨_, rfl⟩, q⟩
  | some i => exact SkE.call_repr_int pins s σ H _ us Q I r ⟨i, rfl, by simpa [oD, PyData.showable] using hs, q⟩
end Fx
end

section
set_option Elab.async false
set_option linter.all false
set_option maxRecDepth 100000
set_option maxHeartbeats 4000000
/-! loops over zips of a list and a tuple -/
namespace Fx
open PySem PySem.Spec PyProof.Rows L2
section
variable {K : PySem.W.Frag} {t u : Bool} {a b : Addr} {xs ys : List V} {tgs : TGs} {tt : TT} {te : TE} {vs : List Nat} {σ : L2.St} {H H1 : Hp} {D : Addr} {Qd : Hp → Prop} {tb : TS} {D' : Ends}
theorem for_zipM (Pv : Nat → L2.St → Hp → Prop) (h0 : Pv 0 σ H) (hG : ∀ i σ H, i ≤ min xs.length ys.length → Pv i σ H → SqF t K H a xs ∧ SqF u K H b ys)
    (hs : ∀ i x y σ H T, xs[i]? = some x → ys[i]? = some y → Pv i σ H → H T = none → tgs [x, y] σ (upd H T (.tup [x, y])) fun σ2 H2 => tb { D' with nx := Pv (i + 1), ct := Pv (i + 1), bk := D'.nx } σ2 H2)
    (hd : ∀ σ H, Pv (min xs.length ys.length) σ H → D'.nx σ H) :
    ∃ W : Nat → Nat → L2.St → Hp → Prop, (∃ m, W 0 m σ H) ∧ ∀ i m σ H, W i m σ H →
      ((ItzM K t u a b).stop i H ∧ D'.nx σ H) ∨ ((ItzM K t u a b).go i H ∧ ∃ N : L2.St → Hp → Prop, (∀ σ' H', N σ' H' → ∃ m', m' < m ∧ W (i + 1) m' σ' H') ∧ ∀ x H', (ItzM K t u a b).yld i H x H' → gTup K 2 tgs x σ H' fun σ2 H2 => tb { D' with nx := N, ct := N, bk := D'.nx } σ2 H2) :=
  for_it walk_zipM Pv h0 hG (fun i v σ H H' hi p y => by
    obtain ⟨T, x, z, rfl, hT, rfl, hx, hz⟩ := y
    exact ⟨T, _, rfl, .inl (.inl upd_same), rfl, hs i x z σ H T hx hz p hT⟩) hd
theorem lc_zipM (Pv : Nat → Hp → Prop) (h0 : Pv 0 (upd H1 D (.lst []))) (hG : ∀ i H, i ≤ min xs.length ys.length → Pv i H → SqF t K H a xs ∧ SqF u K H b ys)
    (hs : ∀ i x y H T, xs[i]? = some x → ys[i]? = some y → Pv i H → H T = none → tgs [x, y] (wipe σ vs) (upd H T (.tup [x, y])) fun σ2 H2 => wipe σ2 vs = wipe σ vs ∧ tt σ2 H2 fun b H3 =>
      if b = true then te σ2 H3 fun y H4 => ∃ acc, H4 D = some (.lst acc) ∧ acc.length < sizeLine ∧ Pv (i + 1) (upd H4 D (.lst (acc ++ [y]))) else Pv (i + 1) H3) (hd : ∀ H, Pv (min xs.length ys.length) H → Qd H) :
    LcGoal (ItzM K t u a b) (gTup K 2 tgs) tt te vs σ H1 D Qd :=
  lc_it walk_zipM Pv h0 hG (fun i v H H' hi p y => by
    obtain ⟨T, x, z, rfl, hT, rfl, hx, hz⟩ := y
    exact ⟨T, _, rfl, .inl (.inl upd_same), rfl, hs i x z H T hx hz p hT⟩) hd
theorem lcm_zipM {j1 j2 : Nat} (I : Nat → List V → Hp → Prop) (h0 : I 0 [] (upd H1 D (.lst []))) (hI : ∀ i acc H, I i acc H → SqF t K H a xs ∧ SqF u K H b ys)
    (hs : ∀ i x y acc H T, xs[i]? = some x → ys[i]? = some y → I i acc H → H T = none → te (((wipe σ vs).set j1 (some x)).set j2 (some y)) (upd H T (.tup [x, y])) (App D (I (i + 1))))
    (hd : ∀ acc H, I (min xs.length ys.length) acc H → Qd H) (hw : ∀ x y, wipe (((wipe σ vs).set j1 (some x)).set j2 (some y)) vs = wipe σ vs := by intro _ _; rfl) :
    LcGoal (ItzM K t u a b) (gTup K 2 (gCons (gName j1) (gCons (gName j2) gNil))) tYes te vs σ H1 D Qd :=
  lc_zipM (fun i H => ∃ acc, I i acc H) ⟨[], h0⟩ (fun i H _ ⟨acc, h⟩ => hI i acc H h) (fun i x y H T hx hy ⟨acc, h⟩ hT =>
    ⟨_, _, rfl, _, _, rfl, rfl, hw x y, yesI (hs i x y acc H T hx hy h hT)⟩) (fun H ⟨acc, h⟩ => hd acc H h)
end
end Fx
end

section
set_option Elab.async false
set_option linter.all false
set_option maxRecDepth 100000
set_option maxHeartbeats 4000000
/-! a star in a target; str(x) by an own def; own in-place operators -/
namespace Fx
open PySem PySem.Spec PyProof.Rows L2 PySem.W
section
variable {prog : Program} {w : World} {A : Around} {E : Value → Shared → Prop} {s : Shared}
/-- a list unpacked with a star at place i of n: what stands before stays -/
theorem star_list {l : Addr} {xs : Array Value} {n i : Nat} {Q : List Value → Shared → Prop} (hl : s.heap.IsList l xs) (hh : A.handled = none) (hi : i < n) (hn : n ≤ xs.size + 1) (hz : xs.size ≤ sizeLine)
    (k : ∀ (g : Heap) (tk : Tok), (∀ b o, s.heap.get? b = some o → g.get? b = some o) →
      Q (xs.toList.take i ++ [.ref g.objs.size] ++ (xs.toList.drop i).drop (xs.size + 1 - n)) { s with heap := g.push { cls := .type "list", data := .seq ((xs.toList.drop i).take (xs.size + 1 - n)).toArray }, toks := tk }) : wpAny (model prog w) A (unpackItems (.ref l) n (some i)) Q E s := by
  have hll : l < s.heap.objs.size := by
    obtain ⟨o, ho, _⟩ := hl
    exact Heap.lt_size ho
  have hlt := Nat.ne_of_lt hll
  unfold unpackItems notIterableAtAll
  refine wpAny_bind (wpAny_bind (wpAny_specialOf hl.typeIs slot_list_iter.lookup (wpAny_pure ?_)))
  rw [if_neg (by simp)]
  refine wpAny_bind (wpAny_holding (wpAny_pyIter_list hl ?_))
  refine wpAny_bind (wpAny_holding (kun_draw hlt i 0 _ _ ⟨_, Heap.get?_push_size _ rfl, rfl, rfl⟩ (hl.push _) (by omega) fun g hg sg => ?_))
  have gl : g.IsList l xs := (hl.push _).extBut sg.extBut hlt
  rw [Nat.zero_add] at hg
  have hg2 := hg
  have gl2 := gl
  obtain ⟨oi, hoi, _⟩ := hg2
  obtain ⟨ol, hol, _⟩ := gl2
  have e1 : (List.take i (List.drop 0 xs.toList)).length = i := by rw [List.drop_zero, List.length_take, Array.length_toList]; omega
  rw [if_neg (by rw [e1]; omega), List.drop_zero]
  have e2 : (xs.toList.drop i).length = xs.size - i := by rw [List.length_drop, Array.length_toList]
  refine wpAny_bind (wpAny_holding (kun_collect (s := { s with heap := g }) (T := "list_iterator") (.inr (.inr (.inl rfl))) (Walks.list (A := A.in1) hh s.heap.objs.size l hlt xs) (fun _ _ st => st.1.typeIs) (k := i) (by omega) ⟨hg, gl⟩ (Heap.lt_size hoi) (Heap.lt_size hol) (fun g' tk kk => ?_) hz))
  have e3 : (xs.toList.drop i).length - (n - 1 - i) = xs.size + 1 - n := by rw [e2]; omega
  show wpAny _ _ (if (xs.toList.drop i).length < n - 1 - i then _ else _) _ _ _
  rw [if_neg (by rw [e2]; omega)]
  show wpAny _ _ (newList ((xs.toList.drop i).take ((xs.toList.drop i).length - (n - 1 - i))) >>= fun d => pure (xs.toList.take i ++ [d] ++ (xs.toList.drop i).drop ((xs.toList.drop i).length - (n - 1 - i)))) _ _ _
  rw [e3]
  have keep : ∀ b o, s.heap.get? b = some o → g'.get? b = some o := fun b o e => kk b o (Nat.ne_of_lt (Heap.lt_size e)) (sg.extBut b o (Nat.ne_of_lt (Heap.lt_size e)) (Heap.get?_push_of_some _ e))
  exact wpAny_bind (wpAny_newList (wpAny_pure (k g' tk keep)) (by rw [List.length_take, e2]; omega))
end
section
variable {X : Cx} {pos : Pos}
theorem pgs_star {e : Expr} {es : List Expr} {p : Pos} {t : TG} {u : TGs} (h1 : PG X e t) (h2 : PGs X es u)
    (hs : (assignEach (.Starred e p :: es) X.env).map (·.2) = assign e X.env :: (assignEach es X.env).map (·.2) := by rfl) : PGs X (.Starred e p :: es) (gCons t u) := by
  refine ⟨fun pins s σ H vs us Q I r ⟨v, vr, e1, h⟩ => ?_⟩
  subst e1
  cases r with
  | cons r rr =>
    rw [hs]
    refine assignInOrder_cons (thn (h1.run pins s σ H _ _ _ I r h) fun _ s1 ⟨σ1, H1, I1, q1⟩ => ?_)
    exact h2.run pins s1 σ1 H1 _ _ Q I1 rr q1
/-- a, *b, c = a list: n targets, the star at place i -/
def gStar (K : PySem.W.Frag) (n i : Nat) (t : TGs) : TG := fun v σ H Q => ∃ a xs, v = .ref a ∧ SqL K H a xs ∧ n ≤ xs.length + 1 ∧ ∀ D, H D = none → t (xs.take i ++ [.ref D] ++ (xs.drop i).drop (xs.length + 1 - n)) σ (upd H D (.lst ((xs.drop i).take (xs.length + 1 - n)))) Q
theorem pg_star {K : PySem.W.Frag} {es : List Expr} {k : Nat} {t : TGs} {n i : Nat} (eK : X.K = K) (hc : X.calm = true) (h : PGs X es t) (hi : i < n)
    (hn : (assignEach es X.env).length = n := by rfl) (hst : (assignEach es X.env).findIdx? (·.1) = some i := by rfl) : PG X (.Tuple es k pos) (gStar K n i t) := by
  subst eK
  refine ⟨fun pins s σ H v u Q I r ⟨a, xs, e1, hq, hl, hw⟩ => ?_⟩
  subst e1
  cases r
  obtain ⟨its, rv, pl, hz⟩ := I.list hq
  have hl' : s.heap.IsList a its.toArray := by
    obtain ⟨o, m, e, c, d, q⟩ := pl
    exact ⟨o, e, c, m, q⟩
  have elen : xs.length = its.length := rv.length
  rw [PyProof.Rows.assign_Tuple]
  refine wpAny_bind (wpAny_standAt ?_)
  unfold unpack
  rw [hn, hst]
  refine wpAny_bind (wpAny_holding (star_list hl' (I.ok.hd hc) hi (by rw [List.size_toArray]; omega) (by rw [List.size_toArray]; omega) fun g tk kk => ?_))
  have ok := I.hok.kept kk
  have hnone : H g.objs.size = none := ok.fresh (Nat.le_refl _)
  have hgn : s.heap.get? g.objs.size = none := by
    cases e : s.heap.get? g.objs.size with
    | none => rfl
    | some o => exact absurd (Heap.lt_size (kk _ _ e)) (Nat.lt_irrefl _)
  have hv1 : Vals ((xs.drop i).take (xs.length + 1 - n)) ((its.drop i).take (xs.length + 1 - n)) := (rv.drop i).take _
  rw [show its.toArray.size = xs.length by rw [List.size_toArray]; exact elen.symm]
  refine h.run pins _ σ _ _ _ Q (I.laidN (t' := tk) (a := g.objs.size) (o := .lst ((xs.drop i).take (xs.length + 1 - n))) (fun b o e => Heap.get?_push_of_some _ (kk b o e)) hgn hnone ?_) ?_ (hw _ hnone)
  · refine ⟨?_, _, _, hv1, Heap.get?_push_size _ rfl⟩
    rw [List.length_take, List.length_drop]; omega
  · exact ((rv.take i).append (.cons (show L2.RelV (.ref _) (.ref _) from rfl) .nil)).append ((rv.drop i).drop _)
end
section
variable {X : Cx} {k : Nat} {f C : Addr} {fd : FuncData} {ps : List Str} {sp : Sp}
theorem run_in2 {pins : List (Addr × Obj)} {σ : L2.St} {H : Hp} {s : Shared} {Q : VK} {us : List Value} {vs : List V}
    (F : FnOk X.prog X.w X.K X.mg X.base CX0 k f fd ps sp) (hr : Room (k + 2) X.A) (hb : Binds X.K fd ps [])
    (I : L2.Inv X pins σ H s) (r : Vals vs us) (h : sp vs H Q E0) :
    wpAny (model X.prog X.w) X.A.in1.in1 (call (.ref f) us) (EP X pins σ Q) X.xe s := by
  have hl : us.length = ps.length := by rw [← r.length]; exact F.len _ _ _ _ h
  have bd : BindsTo s fd ⟨us, []⟩ (ps.zip us) := by
    have z := hb s us I.kIn (by rw [List.append_nil]; exact hl)
    rw [List.append_nil] at z
    exact z
  have hr2 : Room k X.A.in1.in1 := (show Room (k + 1) X.A.in1 from Room.in1 hr).in1
  refine wpAny_call (codeAny_mono (F.run X.A.in1.in1 X.stack s H ⟨us, []⟩ us vs Q E0 hr2 I.env0.in1.in1 bd r h) ?_)
  rintro (e | fl) s' hq
  · exact hq.elim
  · cases fl <;> first | exact I.after hq | exact hq.elim
/-- str(x) by the class's own def -/
def rOwnStr (C : Addr) (sp : Sp) : List V → Hp → VK → Prop := fun xs H Q => ∃ (a dx : Addr) (fs : List (Str × V)), xs = [.ref a] ∧ H a = some (.ins C dx fs) ∧ sp [.ref a] H (fun v H' => ∃ z : Str, v = .str z ∧ Q v H') E0
theorem call_ownstr {K : PySem.W.Frag} (eK : X.K = K) (hs : PySem.W.findIn K (.ref C) "__str__" = some (some (.ref f))) (hfn : PySem.W.isFn K (.ref f) = true)
    (F : FnOk X.prog X.w X.K X.mg X.base CX0 k f fd ps sp) (hr : Room (k + 2) X.A) (hb : Binds X.K fd ps []) : CallR X (.type "str") (rOwnStr C sp) := by
  subst eK
  intro pins s σ H xs us Q I r ⟨a, dx, fs, e, ea, q⟩
  subst e
  obtain ⟨u, rfl, rx⟩ := vals1 r
  obtain rfl : u = Value.ref a := rx
  obtain ⟨mA, O, _⟩ := ins_get I.hok ea
  obtain ⟨od, J, _⟩ := O.look
  have hu : X.A.in1.in1.units < cLine := by have := hr.un; show X.A.units + 2 < _; omega
  refine kso_call hu I.kIn J hs hfn (thn (run_in2 F hr hb I (.cons (show L2.RelV (.ref a) (.ref a) from rfl) .nil) q) ?_)
  rintro v s' ⟨x, H', I', rx', z, rfl, q'⟩
  obtain ⟨t, rfl⟩ := rx'
  exact ⟨.str z, H', I', ⟨t, rfl⟩, q'⟩
/-- a op= b by the class's own def, that gives an instance back -/
def ipOwn (C : Addr) (sp : Sp) : TIp := fun x y H Q => ∃ (a dx : Addr) (fs : List (Str × V)), x = .ref a ∧ H a = some (.ins C dx fs) ∧ sp [.ref a, y] H (fun v H' => (∃ b, v = .ref b) ∧ Q v H') E0
theorem ip_own {K : PySem.W.Frag} {op : Operator} (eK : X.K = K) (hc : PySem.W.selfFirst K C = true) (hs : PySem.W.findIn K (.ref C) (dunderI op.info.2) = some (some (.ref f))) (hfn : PySem.W.isFn K (.ref f) = true)
    (F : FnOk X.prog X.w X.K X.mg X.base CX0 k f fd ps sp) (hr : Room k X.A) (hb : Binds X.K fd ps []) : PIp X op (ipOwn C sp) := by
  subst eK
  intro pins s σ H x y v u Q I r1 r2 ⟨a, dx, fs, e, ea, q⟩
  subst e
  obtain rfl : v = Value.ref a := r1
  obtain ⟨mA, O, _⟩ := ins_get I.hok ea
  obtain ⟨od, J, _⟩ := O.look
  obtain ⟨m, fr⟩ := I.fr
  refine ksp_inplace fr I.ok.mod.kin J hc hs hfn (thn (run_here F hr hb I (.cons (show L2.RelV (.ref a) (.ref a) from rfl) (.cons r2 .nil)) q) ?_)
  rintro v s' ⟨x, H', I', rx', ⟨b, rfl⟩, q'⟩
  obtain rfl : v = Value.ref b := rx'
  exact ⟨.ref b, H', I', rfl, q'⟩
end
end Fx
end

section
set_option Elab.async false
set_option linter.all false
set_option maxRecDepth 100000
set_option maxHeartbeats 4000000
/-! sorted(d) of a dict whose keys are pairs of texts -/
namespace Fx
open PySem PySem.Spec PyProof.Rows L2 PySem.W SrtO
abbrev Pr := Str × Str
abbrev stLt (a b : Str) : Prop := a.cps.toList < b.cps.toList
def prLt (p q : Pr) : Bool := if p.1 = q.1 then decide (stLt p.2 q.2) else decide (stLt p.1 q.1)
theorem st_inj {a b : Str} (h : a.cps.toList = b.cps.toList) : a = b := by
  cases a; cases b
  congr 1
  exact Array.toList_inj.mp h
theorem prLt_iff {p q : Pr} : prLt p q = true ↔ stLt p.1 q.1 ∨ (p.1 = q.1 ∧ stLt p.2 q.2) := by
  unfold prLt
  by_cases e : p.1 = q.1
  · rw [if_pos e, decide_eq_true_eq]
    exact ⟨fun h => .inr ⟨e, h⟩, fun h => h.elim (fun z => absurd z (by rw [e]; exact List.lt_irrefl _)) (·.2)⟩
  · rw [if_neg e, decide_eq_true_eq]
    exact ⟨.inl, fun h => h.elim id fun z => absurd z.1 e⟩
theorem stLt_or {a b : Str} (h : ¬ stLt a b) : a = b ∨ stLt b a := by
  by_cases e : a = b
  · exact .inl e
  · refine .inr ?_
    have h1 : b.cps.toList ≤ a.cps.toList := List.not_lt.mp h
    exact Classical.byContradiction fun z => e (st_inj (List.le_antisymm (List.not_lt.mp z) h1))
theorem prLt_no {p q : Pr} : prLt p q = false ↔ p = q ∨ stLt q.1 p.1 ∨ (p.1 = q.1 ∧ stLt q.2 p.2) := by
  constructor
  · intro h
    have h' : ¬ (stLt p.1 q.1 ∨ (p.1 = q.1 ∧ stLt p.2 q.2)) := fun z => by rw [prLt_iff.mpr z] at h; cases h
    rcases stLt_or (fun z => h' (.inl z)) with e | z
    · rcases stLt_or (fun z => h' (.inr ⟨e, z⟩)) with e2 | z
      · exact .inl (Prod.ext e e2)
      · exact .inr (.inr ⟨e, z⟩)
    · exact .inr (.inl z)
  · intro h
    cases e : prLt p q with
    | false => rfl
    | true =>
      exfalso
      rcases prLt_iff.mp e with z | ⟨z1, z2⟩
      · rcases h with rfl | y | ⟨y, _⟩
        · exact List.lt_irrefl _ z
        · exact List.lt_asymm z y
        · rw [y] at z; exact List.lt_irrefl _ z
      · rcases h with rfl | y | ⟨_, y⟩
        · exact List.lt_irrefl _ z2
        · rw [z1] at y; exact List.lt_irrefl _ y
        · exact List.lt_asymm z2 y
theorem swo_pr (k : Value → Pr) : Swo fun v u => prLt (k v) (k u) := by
  refine ⟨fun x y h => ?_, fun x y z h1 h2 => ?_⟩
  · rcases prLt_iff.mp h with a | a
    · exact prLt_no.mpr (.inr (.inl a))
    · exact prLt_no.mpr (.inr (.inr ⟨a.1.symm, a.2⟩))
  · refine prLt_no.mpr ?_
    rcases prLt_no.mp h1 with a | a | a
    · rcases prLt_no.mp h2 with b | b | b
      · exact .inl (b.trans a)
      · rw [a] at b; exact .inr (.inl b)
      · rw [a] at b; exact .inr (.inr b)
    · rcases prLt_no.mp h2 with b | b | b
      · rw [b]; exact .inr (.inl a)
      · exact .inr (.inl (List.lt_trans a b))
      · rw [b.1]; exact .inr (.inl a)
    · rcases prLt_no.mp h2 with b | b | b
      · rw [b]; exact .inr (.inr a)
      · rw [a.1] at b; exact .inr (.inl b)
      · exact .inr (.inr ⟨b.1.trans a.1, List.lt_trans a.2 b.2⟩)
/-- a tuple of two texts -/
def IsPr (h : Heap) (v : Value) (p : Pr) : Prop := ∃ (a : Addr) (o : Obj) (t u : Tok) (n : Nat), v = .ref a ∧ h.get? a = some o ∧ o.cls = .type "tuple" ∧ o.data = .seq #[.str p.1 t, .str p.2 u] n
theorem IsPr.keeps {h h' : Heap} {v : Value} {p : Pr} (x : IsPr h v p) (k : ∀ b o, h.get? b = some o → o.cls = .type "tuple" → h'.get? b = some o) : IsPr h' v p := by
  obtain ⟨a, o, t, u, n, e, ho, hc, hd⟩ := x
  exact ⟨a, o, t, u, n, e, k a o ho hc, hc, hd⟩
section
variable {prog : Program} {w : World} {A : Around} {E : Value → Shared → Prop} {s : Shared}
theorem oneLt_strs (c : Bool) {p q : Str} {t u : Tok} {Q : Bool → Shared → Prop} (h : Q (decide (stLt p q)) s) : wpAny (model prog w) A (oneLt' c (.str p t) (.str q u)) Q E s := by
  cases c with
  | true => exact oneLt_str h
  | false => exact kat_one _ _ (PyProof.Rows.lt_str h)
theorem pr_cmp {vs : List Value} {k : Value → Pr} (hp : ∀ v ∈ vs, IsPr s.heap v (k v)) : Cmp prog w A s (tuples' true) (fun p => p.1 ∈ vs) (lt2 fun v u => prLt (k v) (k u)) := by
  intro p q hm hm'
  have h1 := hp _ hm
  have h2 := hp _ hm'
  show wpAny (model prog w) A (keyLt' (tuples' true) p.1 q.1) (fun r s' => s' = s ∧ r = prLt (k p.1) (k q.1)) (fun _ _ => False) s
  generalize k p.1 = x at h1 ⊢
  generalize k q.1 = y at h2 ⊢
  obtain ⟨x1, x2⟩ := x
  obtain ⟨y1, y2⟩ := y
  obtain ⟨a, o, t, u, n, e, ho, hc, hd⟩ := h1
  obtain ⟨a', o', t', u', n', e', ho', hc', hd'⟩ := h2
  rw [e, e']
  refine kat_lt ho hd ho' hd' ?_
  refine kat_cons (SeqAt.EqAt.str_str x1 t y1 t' prog w _ _ ?_)
  refine kat_go (fun z => ?_) (fun z => ?_)
  · have ez : x1 = y1 := by simpa using z
    refine kat_yes (kat_cons (SeqAt.EqAt.str_str x2 u y2 u' prog w _ _ ?_))
    refine kat_go (fun z2 => ?_) (fun z2 => ?_)
    · have ez2 : x2 = y2 := by simpa using z2
      refine kat_yes (kat_nil ⟨rfl, ?_⟩)
      subst ez ez2
      show decide (2 < 2) = _
      rw [(prLt_no (p := (x1, x2)) (q := (x1, x2))).mpr (.inl rfl)]; rfl
    · refine kat_no (oneLt_strs _ ⟨rfl, ?_⟩)
      show _ = (if x1 = y1 then _ else _)
      rw [if_pos ez]
  · have ez : ¬ x1 = y1 := by simpa using z
    refine kat_no (oneLt_strs _ ⟨rfl, ?_⟩)
    show _ = (if x1 = y1 then _ else _)
    rw [if_neg ez]
theorem firsts_pr {h : Heap} {k : Value → Pr} : ∀ {vs : List Value}, (∀ v ∈ vs, IsPr h v (k v)) → ∃ fs : List Value, KatTups h vs fs ∧ fs.length = vs.length ∧ ∀ f ∈ fs, ∃ x t, f = Value.str x t
  | [], _ => ⟨[], KatTups.nil, rfl, fun _ m => by cases m⟩
  | v :: vs, hp => by
    obtain ⟨fs, h1, h2, h3⟩ := firsts_pr (vs := vs) fun u m => hp u (List.mem_cons_of_mem _ m)
    obtain ⟨a, o, t, u, n, e, ho, hc, hd⟩ := hp v (List.mem_cons_self ..)
    rw [e]
    refine ⟨.str (k v).1 t :: fs, KatTups.cons ho hc hd rfl h1, congrArg Nat.succ h2, fun f m => ?_⟩
    rcases List.mem_cons.mp m with rfl | m
    · exact ⟨_, _, rfl⟩
    · exact h3 f m
theorem prs_sortable {a : Addr} {vs : List Value} {k : Value → Pr} (h0 : 0 < vs.length) (hp : ∀ v ∈ vs, IsPr s.heap v (k v)) (ha : ∀ o, s.heap.get? a = some o → o.cls ≠ .type "tuple") : SortableO prog w A s a vs fun v u => prLt (k v) (k u) := by
  intro h' keep
  have hp' : ∀ v ∈ vs, IsPr h' v (k v) := fun v m => (hp v m).keeps fun b o e c => keep b o (fun z => ha o (by rw [← z]; exact e) c) e
  obtain ⟨fs, h1, h2, h3⟩ := firsts_pr hp'
  refine ⟨tuples' true, fun Q E hq => ?_, pr_cmp hp'⟩
  refine kat_kind (T := .type "str") h1 (by omega) (fun f m => ?_) (by rfl) ?_
  · obtain ⟨x, t, rfl⟩ := h3 f m
    exact Looks.now
  · rw [show (Value.type "str" != Value.type "tuple") = true by decide +kernel]
    exact hq
end
/-- pairs of texts, each a tuple -/
abbrev PrAt (H : Hp) : List Addr → List Pr → Prop := Paired fun b p => H b = some (.tup [.str p.1, .str p.2])
def prKey (p : Pr) : List Key := [.inr p.1, .inr p.2]
theorem prKey_inj {p q : Pr} (h : prKey p = prKey q) : p = q := by
  unfold prKey at h
  simp at h
  exact Prod.ext h.1 h.2
def prOf (H : Hp) (v : Value) : Pr := match v with
  | .ref a => (match H a with
    | some (.tup [.str x, .str y]) => (x, y)
    | _ => (Str.empty, Str.empty))
  | _ => (Str.empty, Str.empty)
theorem prOf_at {H : Hp} {a : Addr} {p : Pr} (h : H a = some (.tup [.str p.1, .str p.2])) : prOf H (.ref a) = p := by
  show (match H a with
    | some (.tup [.str x, .str y]) => (x, y)
    | _ => (Str.empty, Str.empty)) = p
  rw [h]
theorem isPr_at {P : Program} {w : World} {H : Hp} {h : Heap} (ok : HOk P w H h) {a : Addr} {p : Pr} (e : H a = some (.tup [.str p.1, .str p.2])) : IsPr h (.ref a) p := by
  obtain ⟨_, its, rv, o, ho, hc, n, hd⟩ := (show ObjOk P w H h a (.tup _) from ok a _ e)
  obtain ⟨u, v, rfl, ⟨t1, rfl⟩, ⟨t2, rfl⟩⟩ := rv.two
  exact ⟨a, o, t1, t2, n, rfl, ho, hc, hd⟩
theorem prAt_of {H : Hp} : ∀ {bs : List Addr}, (∀ b ∈ bs, ∃ p : Pr, H b = some (.tup [.str p.1, .str p.2])) → PrAt H bs (bs.map fun b => prOf H (.ref b))
  | [], _ => .nil
  | b :: bs, h => by
    obtain ⟨p, e⟩ := h b (List.mem_cons_self ..)
    refine .cons ?_ (prAt_of fun c m => h c (List.mem_cons_of_mem _ m))
    show H b = some (.tup [.str (prOf H (.ref b)).1, .str (prOf H (.ref b)).2])
    rw [prOf_at e]; exact e
theorem refs_addrs : ∀ {vs : List Value}, (∀ v ∈ vs, ∃ b, v = Value.ref b) → ∃ bs : List Addr, vs = bs.map Value.ref
  | [], _ => ⟨[], rfl⟩
  | v :: vs, h => by
    obtain ⟨b, rfl⟩ := h v (List.mem_cons_self ..)
    obtain ⟨bs, rfl⟩ := refs_addrs fun u m => h u (List.mem_cons_of_mem _ m)
    exact ⟨b :: bs, rfl⟩
def rSortedDT : List V → Hp → VK → Prop := fun vs H Q => ∃ (d : Addr) (kvs : List (List Key × V)) (ps : List Pr), vs = [.ref d] ∧ Rd H d (.dT kvs) ∧ kvs.map (·.1) = ps.map prKey ∧
  ∀ (ys : List Pr) (bs : List Addr) (l : Addr), ys.Perm ps → ys.Pairwise (fun p q => prLt q p = false) → H l = none → PrAt H bs ys → Q (.ref l) (upd H l (.lst (bs.map V.ref)))
theorem call_sortedDT {X : Cx} (hc : X.calm = true) : CallR X (.builtin "sorted") rSortedDT := by
  intro pins s σ H vs us Q I r ⟨d, kvs, ps, e, hd, hks, q⟩
  subst e
  obtain ⟨u, rfl, rx⟩ := vals1 r
  obtain rfl : u = Value.ref d := rx
  obtain ⟨z, lo, xs, pr, o, es, ep, ho, hx, hdt, he, hn⟩ := (show ObjOk X.prog X.w H s.heap d (.dT kvs) from hd.ok I.hok)
  have l1 : es.size = xs.length := size_of_entries he
  have l2 : kvs.length = xs.length := Paired.length pr
  have hxk : ∀ x ∈ xs, ∃ p ∈ ps, H x.2.1 = some (.tup [.str p.1, .str p.2]) := by
    have key : ∀ {kvs : List (List Key × V)} {xs : List (List Key × Addr × Value)}, Paired (fun (p : List Key × V) (q : List Key × Addr × Value) => p.1 = q.1 ∧ H q.2.1 = some (.tup (p.1.map kV)) ∧ L2.RelV p.2 q.2.2) kvs xs →
        (∀ k ∈ kvs, ∃ p ∈ ps, k.1 = prKey p) → ∀ x ∈ xs, ∃ p ∈ ps, H x.2.1 = some (.tup [.str p.1, .str p.2]) := by
      intro kvs xs pr
      induction pr with
      | nil => intro _ x m; cases m
      | @cons a b l1 l2 h t ih =>
        intro hk x m
        rcases List.mem_cons.mp m with rfl | m
        · obtain ⟨p, hp, e⟩ := hk a (List.mem_cons_self ..)
          refine ⟨p, hp, ?_⟩
          rw [h.2.1, e]; rfl
        · exact ih (fun k hk' => hk k (List.mem_cons_of_mem _ hk')) x m
    refine key pr fun k hk => ?_
    have : k.1 ∈ kvs.map (·.1) := List.mem_map.mpr ⟨k, hk, rfl⟩
    rw [hks] at this
    obtain ⟨p, hp, e⟩ := List.mem_map.mp this
    exact ⟨p, hp, e.symm⟩
  have hps : (xs.map fun x => prOf H (.ref x.2.1)) = ps := by
    have key : ∀ {kvs : List (List Key × V)} {xs : List (List Key × Addr × Value)} {ps : List Pr}, Paired (fun (p : List Key × V) (q : List Key × Addr × Value) => p.1 = q.1 ∧ H q.2.1 = some (.tup (p.1.map kV)) ∧ L2.RelV p.2 q.2.2) kvs xs →
        kvs.map (·.1) = ps.map prKey → (xs.map fun x => prOf H (.ref x.2.1)) = ps := by
      intro kvs xs ps pr
      induction pr generalizing ps with
      | nil =>
        intro h
        cases ps with
        | nil => rfl
        | cons p ps => cases h
      | @cons a b l1 l2 h t ih =>
        intro hk
        cases ps with
        | nil => cases hk
        | cons p ps =>
          have hk' : a.1 :: l1.map (·.1) = prKey p :: ps.map prKey := hk
          injection hk' with k1 k2
          rw [List.map_cons, ih k2]
          congr 1
          refine prOf_at ?_
          rw [h.2.1, k1]; rfl
    exact key pr hks
  refine Calls.call_function_entry kind_sorted plain_sorted entry_sorted (args_sorted1 _) ?_
  unfold Builtin.«sorted»
  refine wpAny_bind (m := checkCount "sorted" 1 1 _) (wpAny_pure ?_)
  refine wpAny_bind (kdu_collect (A := X.A.in1) (kdl_raw lo hx hdt) (I.ok.hd hc) ho (by omega) fun h' tk acc hk it => ?_)
  have ea : acc.toList = xs.map fun x => Value.ref x.2.1 := by
    apply List.ext_getElem?
    intro j
    rw [List.getElem?_map]
    rcases Nat.lt_or_ge j acc.size with hj | hj
    · have e1 : acc.toList[j]? = some acc[j] := by rw [Array.getElem?_toList]; exact Array.getElem?_eq_getElem hj
      obtain ⟨en, hen, hv⟩ := it.2 j _ (Array.getElem?_eq_getElem hj)
      have qe := entry_at he j
      rw [hen] at qe
      cases hb : xs[j]? with
      | none => rw [hb] at qe; cases qe
      | some b =>
        rw [hb] at qe
        have e2 : en = entryOfKey (tupleKind (mixKind X.prog X.w)) b := Option.some.inj qe
        rw [e1, hv, e2]; rfl
    · rw [List.getElem?_eq_none (by rw [Array.length_toList]; exact hj), List.getElem?_eq_none (by rw [← l1, ← it.1]; exact hj)]; rfl
  have I1 : L2.Inv X pins σ H { s with heap := h', toks := tk } := I.kept hk
  have hal : acc.toList.length = xs.length := by rw [ea, List.length_map]
  refine wpAny_bind (wpAny_newList ?_ (by rw [hal]; omega))
  have hoL : (h'.push (seqObj "list" acc.toList.toArray 0)).get? h'.objs.size = some (seqObj "list" acc.toList.toArray 0) := Heap.get?_push_size _ rfl
  have hpr : ∀ v ∈ acc.toList, IsPr (h'.push (seqObj "list" acc.toList.toArray 0)) v (prOf H v) := fun v hv => by
    rw [ea] at hv
    obtain ⟨x, hx', rfl⟩ := List.mem_map.mp hv
    obtain ⟨p, _, ep'⟩ := hxk x hx'
    rw [prOf_at ep']
    exact (isPr_at I1.hok ep').keeps fun b o e _ => Heap.get?_push_of_some _ e
  show wpAny _ _ _ _ _ { s with heap := h'.push (seqObj "list" acc.toList.toArray 0), toks := tk }
  refine wpAny_bind (wpAny_holding (wpAny_call_entry slot_list_sort ⟨_, hoL, rfl⟩ entry_list_sort
    (list_sort_ord (s := { s with heap := h'.push (seqObj "list" acc.toList.toArray 0), toks := tk }) (swo_pr (prOf H)) hoL (by rw [hal]; omega)
      (fun h2 => prs_sortable (by omega) hpr fun o e => by
        have e' : some o = some (seqObj "list" acc.toList.toArray 0) := e.symm.trans hoL
        cases e'
        intro c
        exact absurd (Value.type.inj c) (by decide)) fun out hs hb => ⟨_, rfl, ?_⟩) (args_list_sort _)))
  have hperm : out.Perm acc.toList := hb.perm
  obtain ⟨bs, rfl⟩ := refs_addrs (vs := out) fun v hv => by
    have := hperm.mem_iff.mp hv
    rw [ea] at this
    obtain ⟨x, _, rfl⟩ := List.mem_map.mp this
    exact ⟨_, rfl⟩
  obtain ⟨e', he'⟩ := sortedHeap_at (vs := acc.toList) (out := (bs.map Value.ref).toArray) hoL
  have hbl : bs.length = xs.length := by
    have := hperm.length_eq
    rw [List.length_map, hal] at this
    exact this
  have hbm : ∀ b ∈ bs, ∃ p : Pr, H b = some (.tup [.str p.1, .str p.2]) := fun b hb' => by
    have h1 : Value.ref b ∈ acc.toList := hperm.mem_iff.mp (List.mem_map.mpr ⟨b, hb', rfl⟩)
    rw [ea] at h1
    obtain ⟨x, hx', e3⟩ := List.mem_map.mp h1
    obtain ⟨p, _, ep'⟩ := hxk x hx'
    have : x.2.1 = b := Value.ref.inj e3
    exact ⟨p, by rw [← this]; exact ep'⟩
  have hys : (bs.map fun b => prOf H (.ref b)).Perm ps := by
    have h1 := hperm.map (prOf H)
    rw [List.map_map, ea, List.map_map] at h1
    have h2 : (xs.map (prOf H ∘ fun x => Value.ref x.2.1)) = ps := hps
    rw [h2] at h1
    exact h1
  refine wpAny_pure ⟨_, rfl, .ref h'.objs.size, upd H h'.objs.size (.lst (bs.map V.ref)), I1.laid (t' := tk) (fun b u e => ?_) (Nat.le_refl _)
    (show ObjOk X.prog X.w _ _ _ (.lst (bs.map V.ref)) from ⟨by rw [List.length_map, hbl]; omega, bs.map Value.ref, e', vals_refs bs, he'⟩), rfl, q _ bs _ hys ?_ (I1.hok.fresh (Nat.le_refl _)) (prAt_of hbm)⟩
  · have hb' : b < h'.objs.size := Heap.lt_size e
    rw [sortedHeap_old (Nat.ne_of_lt hb') (by rw [size_push']; exact Nat.lt_succ_of_lt hb')]
    exact Heap.get?_push_of_some _ e
  · rw [List.pairwise_map]
    have h1 : (bs.map Value.ref).Pairwise fun x y => prLt (prOf H y) (prOf H x) = false := hs
    rw [List.pairwise_map] at h1
    exact h1
end Fx
end

section
set_option Elab.async false
set_option linter.all false
set_option maxRecDepth 100000
set_option maxHeartbeats 4000000
/-! set(list of texts) and sorted of it -/
namespace Fx
open PySem PySem.Spec PyProof.Rows L2 PySem.W
def txOf (v : Value) : Str := match v with
  | .str x _ => x
  | _ => Str.empty
def kTx (e : Int × Value) : Str := txOf e.2
/-- the set of texts at a has just these members, each once -/
def SetX (P : Program) (w : World) (g : Heap) (a : Addr) (ms : List Str) : Prop := ∃ ob els ec tb, g.get? a = some ob ∧ ob.ExactSet ∧ ob.data = .set els ec tb ∧ ElemsOf (PySem.strKind P w) els.toList ∧
  (∀ e ∈ els.toList, ∃ x t, e.2 = Value.str x t) ∧ (els.toList.map kTx).Perm ms ∧ els.size < scanBound ∧ tb.fits els.size = true ∧ Ris tb.place.toList ∧ (w.params.followText "set-order" = true ∨ tb.led = true)
section
variable {P : Program} {w : World} {A : Around} {E : Value → Shared → Prop} {s : Shared} {a : Addr} {ms : List Str}
theorem SetX.at {g g' : Heap} (x : SetX P w g a ms) (k : ∀ o, g.get? a = some o → g'.get? a = some o) : SetX P w g' a ms := by
  obtain ⟨ob, els, ec, tb, h, r⟩ := x
  exact ⟨ob, els, ec, tb, k ob h, r⟩
theorem kTx_is {e : Int × Value} (h : ∃ x t, e.2 = Value.str x t) (y : Str) : (PySem.strKind P w).is y e.2 = true ↔ kTx e = y := by
  obtain ⟨x, t, h⟩ := h
  unfold kTx
  rw [h]
  constructor
  · intro z
    obtain ⟨u, hu⟩ := Value.isStrOf_shape (x := y) (v := .str x t) z
    injection hu
  · intro z
    have z : x = y := z
    rw [z]; exact strKind_is _ _ _ _
theorem putX {g : Heap} {ob : Obj} {els els' : Array (Int × Value)} {ec : Nat} {tb tb' : SetTable} (h : g.get? a = some ob) (hd : ob.data = .set els ec tb) : (g.update a (Obj.putSet els' tb')).get? a = some { ob with data := .set els' (ec + 1) tb' } := store_at h hd
/-- the end of an addition: the table stored, and laid anew where it is too full -/
theorem setX_tail {tell : Bool → Sem Unit} (ht : ∀ (b : Bool) (u : Shared) (Q : Unit → Shared → Prop), Q () u → wpAny (model P w) A (tell b) Q E u) {ob : Obj} {els : Array (Int × Value)} {ec : Nat} {tb : SetTable}
    (h : s.heap.get? a = some ob) (hx : ob.ExactSet) (hd : ob.data = .set els ec tb) {n1 : Array (Int × Value)} {tb2 : SetTable} (he : ElemsOf (PySem.strKind P w) n1.toList) (hs : ∀ e ∈ n1.toList, ∃ x t, e.2 = Value.str x t)
    (hm : (n1.toList.map kTx).Perm ms) (hb : n1.size < scanBound) (hf : tb2.fits n1.size = true) (hr : Ris tb2.place.toList) (hl : w.params.followText "set-order" = true ∨ tb2.led = true) {dm : Bool} {R : Option Bool → Shared → Prop}
    (k : ∀ g, Heap.SameBut a s.heap g → SetX P w g a ms → R (some true) { s with heap := g }) :
    wpAny (model P w) A (do
      storeSet a n1 tb2
      if (!dm && tb2.tooFull) = true then do
        tell (relayAll tb2 n1 (SetTable.grown n1.size)).2.2
        storeSet a (relayAll tb2 n1 (SetTable.grown n1.size)).1 (relayAll tb2 n1 (SetTable.grown n1.size)).2.1
        pure (some true)
      else pure (some true)) R E s := by
  refine wpAny_bind (wpAny_storeSet_of h hd ?_ (fits_of_scanBound hb))
  have h1 := putX (els' := n1) (tb' := tb2) h hd
  have sb := Heap.SameBut.update s.heap a (Obj.putSet n1 tb2)
  split
  · have p2 := relayAll_perm tb2 n1 (SetTable.grown n1.size)
    have f2 := relayAll_fits tb2 n1 (SetTable.grown n1.size)
    have r2 := relayAll_ris tb2 n1 (SetTable.grown n1.size)
    have l2 := relayAll_led tb2 n1 (SetTable.grown n1.size)
    generalize relayAll tb2 n1 (SetTable.grown n1.size) = T3 at p2 f2 r2 l2 ⊢
    obtain ⟨n2, tb3, gv⟩ := T3
    have z2 : n2.size = n1.size := by rw [← Array.length_toList, ← Array.length_toList]; exact p2.length_eq
    refine wpAny_bind (ht _ _ _ ?_)
    refine wpAny_bind (wpAny_storeSet_of h1 rfl ?_ (fits_of_scanBound (by show n2.size < _; rw [z2]; exact hb)))
    refine wpAny_pure (k _ (sb.trans (Heap.SameBut.update _ a _)) ?_)
    exact ⟨_, n2, _, tb3, putX h1 rfl, hx, rfl, he.perm p2, fun e m => hs e (p2.mem_iff.mp m), (p2.map kTx).trans hm, by rw [z2]; exact hb, f2, r2, hl.imp id fun y => by rw [l2]; exact y⟩
  · exact wpAny_pure (k _ sb ⟨_, n1, _, tb2, h1, hx, rfl, he, hs, hm, hb, hf, hr, hl⟩)
/-- one text more -/
def addX (ms : List Str) (x : Str) : List Str := if x ∈ ms then ms else ms ++ [x]
theorem setX_add {x : Str} {t : Tok} {Q : Bool → Shared → Prop} (R : SetX P w s.heap a ms) (room : ms.length + 1 < scanBound) (k : ∀ g b, Heap.SameBut a s.heap g → SetX P w g a (addX ms x) → Q b { s with heap := g }) :
    wpAny (model P w) A (setAddHashed a (.str x t) ((PySem.strKind P w).hash x)) Q E s := by
  obtain ⟨ob, els, ec, tb, h, hx, hd, he, hs, hm, hb, hf, hr, hl⟩ := R
  have hkey : (PySem.strKind P w).is x (.str x t) = true := strKind_is _ _ _ _
  have hsc : (Value.str x t).scannable = true := rfl
  have hml : els.size = ms.length := by rw [← Array.length_toList, ← hm.length_eq, List.length_map]
  unfold setAddHashed setAddHashedIn
  refine wpAny_holding (wpAny_bind (wpAny_setState_of h hd hf ?_))
  dsimp only
  rw [byScan_of hsc hb he, if_pos rfl]
  unfold setAddByScan
  refine wpAny_bind (wpAny_bind (wpAny_rule (wpAny_bind (wpAny_setScan_of hkey h hd hf he ?_))))
  cases hfi : List.findIdx? (fun e => (PySem.strKind P w).is x e.2) els.toList with
  | some j =>
    obtain ⟨hj, pj, _⟩ := List.findIdx?_eq_some_iff_getElem.mp hfi
    have hin : x ∈ ms := hm.mem_iff.mp (List.mem_map.mpr ⟨els.toList[j], List.getElem_mem hj, (kTx_is (P := P) (w := w) (hs _ (List.getElem_mem hj)) x).mp pj⟩)
    refine wpAny_pure (wpAny_pure (k s.heap _ (Heap.SameBut.refl a s.heap) ?_))
    unfold addX
    rw [if_pos hin]
    exact ⟨ob, els, ec, tb, h, hx, hd, he, hs, hm, hb, hf, hr, hl⟩
  | none =>
    have hin : x ∉ ms := fun z => by
      obtain ⟨e, m, ee⟩ := List.mem_map.mp (hm.mem_iff.mpr z)
      have c := List.findIdx?_eq_none_iff.mp hfi e m
      rw [(kTx_is (P := P) (w := w) (hs e m) x).mpr ee] at c
      cases c
    dsimp only
    have tell : ∀ (b : Bool) {u : Shared} {Q' : Unit → Shared → Prop}, Q' () u → wpAny (model P w) A (match b with | true => rule "set.scan.the-table-gave-way" | false => pure ()) Q' E u := fun b u Q' q => by
      cases b
      · exact wpAny_pure q
      · exact wpAny_rule q
    have p1 := layNew_perm tb els ((PySem.strKind P w).hash x) (.str x t)
    have f1 := layNew_fits tb els ((PySem.strKind P w).hash x) (.str x t)
    have r1 := layNew_ris tb els ((PySem.strKind P w).hash x) (.str x t) hr
    have l1 := layNew_led tb els ((PySem.strKind P w).hash x) (.str x t)
    generalize layNew tb els ((PySem.strKind P w).hash x) (.str x t) = T2 at p1 f1 r1 l1 ⊢
    obtain ⟨n1, tb1, dm, gv⟩ := T2
    dsimp only at p1 f1 r1 l1 ⊢
    rw [Array.toList_push] at p1
    have he1 : ElemsOf (PySem.strKind P w) n1.toList := (he.push hkey hsc).perm p1
    have hs1 : ∀ e ∈ n1.toList, ∃ x t, e.2 = Value.str x t := fun e m => by
      rcases List.mem_append.mp (p1.mem_iff.mp m) with z | z
      · exact hs e z
      · rw [List.mem_singleton.mp z]; exact ⟨x, t, rfl⟩
    have hm1 : (n1.toList.map kTx).Perm (addX ms x) := by
      unfold addX
      rw [if_neg hin]
      have q := p1.map kTx
      rw [List.map_append] at q
      exact q.trans (hm.append_right _)
    have z1 : n1.size = els.size + 1 := by rw [← Array.length_toList, p1.length_eq, List.length_append, Array.length_toList]; rfl
    have hb1 : n1.size < scanBound := by rw [z1, hml]; exact room
    have hl1 : w.params.followText "set-order" = true ∨ tb1.led = true := hl.imp id fun z => by rw [l1]; exact z
    refine wpAny_bind (tell _ ?_)
    split
    · refine wpAny_bind ?_
      rw [hashByValue_scannable 8 hsc]
      refine wpAny_pure (setX_tail (ms := addX ms x) ?_ h hx hd he1 hs1 hm1 hb1 ?_ ?_ ?_ ?_)
      · intro b u Q' q
        exact tell b q
      · split
        · exact f1
        · exact SetTable.fits_plain_off f1
      · split <;> exact r1
      · split <;> exact hl1
      · intro g sb r
        exact wpAny_pure (k g _ sb r)
    · refine wpAny_bind (wpAny_pure ?_)
      rw [if_pos rfl]
      refine setX_tail (ms := addX ms x) ?_ h hx hd he1 hs1 hm1 hb1 f1 r1 hl1 ?_
      · intro b u Q' q
        exact tell b q
      · intro g sb r
        exact wpAny_pure (k g _ sb r)
end
theorem strs_get : ∀ {us : List Value} {xs : List Str}, StrsAre us xs → ∀ (i : Nat) (v : Value), us[i]? = some v → ∃ t, v = .str (xs.getD i Str.empty) t
  | _, _, .nil, i, v, e => by cases e
  | _, _, .cons n t r, 0, v, e => ⟨t, (Option.some.inj e).symm⟩
  | _, _, .cons n t r, i + 1, v, e => strs_get r i v e
def allX (xs : List Str) : List Str := xs.foldl addX []
theorem allX_snoc (xs : List Str) (x : Str) : allX (xs ++ [x]) = addX (allX xs) x := by unfold allX; rw [List.foldl_append]; rfl
theorem addX_mem {ms : List Str} {x y : Str} : y ∈ addX ms x ↔ y ∈ ms ∨ y = x := by
  unfold addX
  split
  · rename_i h
    exact ⟨.inl, fun z => z.elim id fun e => e ▸ h⟩
  · simp
theorem addX_nd {ms : List Str} {x : Str} (h : ms.Nodup) : (addX ms x).Nodup := by
  unfold addX
  split
  · exact h
  · rename_i z
    rw [List.nodup_append]
    refine ⟨h, by simp, fun a ha b hb e => ?_⟩
    rw [List.mem_singleton] at hb
    exact z (hb ▸ e ▸ ha)
theorem addX_len {ms : List Str} {x : Str} : (addX ms x).length ≤ ms.length + 1 := by
  unfold addX
  split
  · omega
  · simp
theorem fold_mem {y : Str} : ∀ {xs ms : List Str}, y ∈ xs.foldl addX ms ↔ y ∈ ms ∨ y ∈ xs
  | [], ms => by simp
  | x :: xs, ms => by
    rw [List.foldl_cons, fold_mem (xs := xs), addX_mem, List.mem_cons, or_assoc]
theorem fold_nd : ∀ {xs ms : List Str}, ms.Nodup → (xs.foldl addX ms).Nodup
  | [], ms, h => h
  | x :: xs, ms, h => fold_nd (xs := xs) (addX_nd h)
theorem fold_len : ∀ {xs ms : List Str}, (xs.foldl addX ms).length ≤ ms.length + xs.length
  | [], ms => by simp
  | x :: xs, ms => by
    have h1 := fold_len (xs := xs) (ms := addX ms x)
    have h2 := addX_len (ms := ms) (x := x)
    rw [List.foldl_cons, List.length_cons]
    omega
theorem allX_mem {xs : List Str} {y : Str} : y ∈ allX xs ↔ y ∈ xs := by unfold allX; rw [fold_mem]; simp
theorem allX_nd (xs : List Str) : (allX xs).Nodup := fold_nd List.nodup_nil
theorem allX_len (xs : List Str) : (allX xs).length ≤ xs.length := by have := fold_len (xs := xs) (ms := []); simpa [allX] using this
section
variable {P : Program} {w : World} {A : Around} {E : Value → Shared → Prop} {s : Shared}
theorem setX_loop {I : Addr} {fp wr : List Addr} {G : Array GenState → Array GenState → Prop} {n : Nat} {Pv : Nat → Value → Prop} {St : Nat → Shared → Prop} {R : Result → Shared → Prop} (W : WalksS P w A.in1 I fp wr G n Pv St) (T : Addr) (hT : T ∉ fp)
    (xs : List Str) (hn : n = xs.length) (hb : xs.length + 1 < scanBound) (hv : ∀ i v, Pv i v → ∃ x t, xs[i]? = some x ∧ v = .str x t) :
    ∀ (m i : Nat) (s : Shared), n - i = m → i ≤ n → St i s → SetX P w s.heap T (allX (xs.take i)) → (∀ u, Moved (T :: wr) G s u → SetX P w u.heap T (allX xs) → R (.ok (.ret .none)) u) →
      codeAny (model P w) A (.builtin "set.update.loop" ⟨[.ref T, .ref I], []⟩) R s := by
  have hTw : T ∉ wr := fun z => hT (W.sub _ z)
  intro m
  induction m with
  | zero =>
    intro i s e1 hi hst hS k
    refine codeAny_builtin F.entry_set_update_loop ?_
    rw [Around.under_plainId F.plain_set_update_loop _]
    show wpAny _ A.in1 (pyNext (.ref I) >>= _) _ _ s
    have ei : i = n := by omega
    rw [List.take_of_length_le (by omega)] at hS
    subst ei
    refine wpAny_bind (W.done s _ _ hst fun u hm => ?_)
    exact wpAny_pure (k u (hm.mono fun b hb => List.mem_cons_of_mem _ hb) (hS.at fun o e => hm.heap T o hTw e))
  | succ m ih =>
    intro i s e1 hi hst hS k
    refine codeAny_builtin F.entry_set_update_loop ?_
    rw [Around.under_plainId F.plain_set_update_loop _]
    show wpAny _ A.in1 (pyNext (.ref I) >>= _) _ _ s
    refine wpAny_bind (W.item i s _ _ (by omega) hst fun v u hP hst' hm => ?_)
    obtain ⟨x, t, hx, rfl⟩ := hv i v hP
    have hS1 : SetX P w u.heap T (allX (xs.take i)) := hS.at fun o e => hm.heap T o hTw e
    show wpAny _ A.in1 (holding [Value.str x t] (setAdd T (.str x t)) >>= _) _ _ u
    unfold setAdd
    refine wpAny_bind (wpAny_holding (wpAny_holding (wpAny_bind ((PySem.strKind P w).pyHash (k := x) (strKind_is _ _ _ _) ?_))))
    have hroom : (allX (xs.take i)).length + 1 < scanBound := by
      have h1 := allX_len (xs.take i)
      rw [List.length_take] at h1
      omega
    refine setX_add (s := { u with toks := u.toks + 1 }) hS1 hroom fun g b sb hS2 => ?_
    have et : xs.take (i + 1) = xs.take i ++ [x] := by rw [List.take_add_one, hx]; rfl
    have hS3 : SetX P w g T (allX (xs.take (i + 1))) := by rw [et, allX_snoc]; exact hS2
    refine wpAny_pure ⟨plainId_quiet F.plain_set_update_loop _, ih (i + 1) _ (by omega) (by omega) (W.frame _ u _ _ hst' (Nat.le_succ _) fun b hb o e => ?_) hS3 fun u2 hm2 hS4 => ?_⟩
    · rw [sb.2 b fun z => hT (by rw [← z]; exact hb)]; exact e
    · refine k u2 (Moved.trans W.gtrans ((hm.mono fun b hb => List.mem_cons_of_mem _ hb).then_heap (Nat.le_succ _) fun b o hb e => ?_) hm2) hS4
      rw [sb.2 b fun z => hb (by rw [z]; exact List.mem_cons_self)]; exact e
set_option maxHeartbeats 8000000 in
/-- set(l) of a list of texts -/
theorem call_setX {l : Addr} {its : Array Value} (xs : List Str) {Q : Value → Shared → Prop} (hh : A.handled = none) (hl : s.heap.IsList l its) (hit : StrsAre its.toList xs) (hb : xs.length + 1 < scanBound)
    (k : ∀ (g : Heap) (tk : Nat), SetX P w g s.heap.objs.size (allX xs) → (∀ b o, s.heap.get? b = some o → g.get? b = some o) → Q (.ref s.heap.objs.size) { s with heap := g, toks := tk }) :
    wpAny (model P w) A (call (.type "set") [.ref l]) Q E s := by
  have hsz : its.size = xs.length := by rw [← StrsAre.len_eq hit, Array.length_toList]
  let o0 : Obj := { cls := .type "set", dict := none, data := .set #[] 0 (.fresh 0 0 (!w.params.followText "set-order")) }
  obtain ⟨mc, mt, mro⟩ := F.called_set.mro
  have c1 := F.called_set.made
  have c2 := F.called_set.sub
  refine wpAny_call (codeAny_of_tree ?_)
  show wpAny _ _ (callAny (.type "set") _) _ _ _
  refine wpAny_pure ⟨Code.quiet_builtin _ (by decide +kernel), codeAny_builtin PySem.F.entry_type_call ?_⟩
  rw [Around.under_plain (weight_type_call_type "set" [.ref l] []) rfl]
  have c3 := F.called_set.notType
  have c4 := F.called_set.canCreate
  have c5 := F.typeCall_set_1 (.ref l)
  repeat (any_goals (first | assumption | wp_step))
  refine codeAny_mono (code_set_led1 (.ref l) (E := E) (Q₁ := fun v u => v = .ref s.heap.objs.size ∧ u = { s with heap := s.heap.push o0 }) ⟨rfl, rfl⟩) fun r u hr => ?_
  cases r with
  | error e => exact hr
  | ok fl =>
    cases fl with
    | ret v =>
      obtain ⟨rfl, rfl⟩ := hr
      have hT : (s.heap.push o0).get? s.heap.objs.size = some o0 := Heap.get?_push_size _ rfl
      have tT : Shared.TypeIs { s with heap := s.heap.push o0 } (.ref s.heap.objs.size) "set" := ⟨_, hT, rfl⟩
      have c6 := F.called_set.init.lookup
      have c7 := F.called_set.init.bind (.ref s.heap.objs.size)
      repeat (any_goals (first | assumption | wp_step))
      refine codeAny_mono (codeAny_call_builtin (R := wants (fun r u => r = .none ∧ ∃ g tk, u = { s with heap := g, toks := tk } ∧ SetX P w g s.heap.objs.size (allX xs) ∧ (∀ b o, s.heap.get? b = some o → g.get? b = some o)) E)
        F.called_set.init.plain F.entry_set_init (check_set_init_1 tT ?_)) fun r2 u2 hr2 => ?_
      · obtain ⟨ol, hol, hcl, nl, hdl⟩ := hl
        obtain ⟨lc, ld, ldt, lsl⟩ := ol
        simp only at hcl hdl
        subst hcl; subst hdl
        have d1 := F.sub_list_set
        have d2 := F.sub_list_frozenset
        have d3 : (Value.type "list" == Value.type "dict") = false := by decide
        have hl1 : (s.heap.push o0).IsList l its := ⟨_, Heap.get?_push_of_some _ hol, rfl, nl, rfl⟩
        have hol1 : (s.heap.push o0).get? l = some { cls := .type "list", dict := ld, data := .seq its nl, slots := lsl } := Heap.get?_push_of_some _ hol
        unfold Builtin.«set.__init__» noKeywords Builtin.Frozenset.updateFrom
        generalize hPI : pyIter = PI
        wp_walk
        subst hPI
        refine wpAny_pyIter_list hl1 (wpAny_bind (wpAny_runValue ?_))
        have lt1 : l < s.heap.objs.size := Heap.lt_size hol
        have hh3 : A.in1.in1.in1.handled = none := by simp [hh]
        have z1 : (s.heap.push o0).objs.size = s.heap.objs.size + 1 := Heap.size_push ..
        have ne1 : l ≠ (s.heap.push o0).objs.size := fun e => Nat.ne_of_lt (Nat.lt_succ_of_lt lt1) (e.trans z1)
        have hT1 : s.heap.objs.size ∉ [(s.heap.push o0).objs.size, l] := fun m => by
          rcases List.mem_cons.mp m with e | e
          · exact Nat.ne_of_lt (Nat.lt_succ_self _) (e.trans z1)
          · exact Nat.ne_of_gt lt1 (List.mem_singleton.mp e)
        have hv : ∀ (i : Nat) (v : Value), its[i]? = some v → ∃ x t, xs[i]? = some x ∧ v = .str x t := fun i v e => by
          have hi : i < xs.length := by rw [← hsz]; exact (Array.getElem?_eq_some_iff.mp e).1
          obtain ⟨t, et⟩ := strs_get hit i v (by rw [Array.getElem?_toList]; exact e)
          refine ⟨xs[i], t, List.getElem?_eq_getElem hi, ?_⟩
          rw [et, List.getD_eq_getElem?_getD, List.getElem?_eq_getElem hi]; rfl
        refine setX_loop ((Walks.list hh3 _ l ne1 its).toS) s.heap.objs.size hT1 xs hsz hb hv (its.size - 0) 0 _ (by omega) (Nat.zero_le _) ⟨⟨_, Heap.get?_push_size _ rfl, rfl, rfl⟩, (hl1.push _)⟩ ?_ ?_
        · refine ⟨_, #[], 0, _, Heap.get?_push_of_some _ hT, ⟨rfl, rfl, rfl⟩, rfl, (fun e m => by simp at m), (fun e m => by simp at m), .nil, by decide, by rfl, List.Pairwise.nil, ?_⟩
          show _ ∨ (!w.params.followText "set-order") = true
          cases w.params.followText "set-order"
          · exact .inr rfl
          · exact .inl rfl
        · intro u hm hS
          obtain ⟨g, gs, dr, tk, os⟩ := u
          have e1 : gs = s.gens := hm.gens
          have e2 : dr = s.drawn := hm.drawn
          have e3 : os = s.os := hm.os
          subst e1 e2 e3
          refine wpAny_pure (wpAny_pure ⟨rfl, g, tk, rfl, hS, fun b o e => ?_⟩)
          have hb0 : b < s.heap.objs.size := Heap.lt_size e
          refine hm.heap b o (fun m => ?_) (Heap.get?_push_of_some _ (Heap.get?_push_of_some _ e))
          rcases List.mem_cons.mp m with e | e
          · exact Nat.ne_of_lt hb0 e
          · exact Nat.ne_of_lt (Nat.lt_succ_of_lt hb0) ((List.mem_singleton.mp e).trans z1)
      · cases r2 with
        | error e => exact hr2
        | ok fl2 =>
          cases fl2 with
          | ret r =>
            obtain ⟨rfl, g, tk, rfl, hS, hk⟩ := hr2
            repeat (any_goals (first | assumption | wp_step))
            exact k _ _ hS hk
          | _ => exact hr2.elim
    | _ => exact hr.elim
end
/-- a set of texts, tracked by what it holds -/
def SetXO (P : Program) (w : World) (a : Addr) (ms : List Str) : HO := .ext fun g => SetX P w g a ms
theorem setXO_new {P : Program} {w : World} {H : Hp} {g : Heap} {a : Addr} {ms : List Str} (x : SetX P w g a ms) : ObjOk P w H g a (SetXO P w a ms) := by
  have x2 := x
  obtain ⟨ob, els, ec, tb, h, r⟩ := x2
  exact ⟨x, ⟨ob, h⟩, fun h1 h2 y k => y.at k⟩
section
variable {X : Cx}
def rSetX (P : Program) (w : World) (K : PySem.W.Frag) : List V → Hp → VK → Prop := fun vs H Q => ∃ (l : Addr) (xs : List Str), vs = [.ref l] ∧ SqL K H l (xs.map V.str) ∧ xs.length ≤ 1000 ∧ ∀ p, H p = none → Q (.ref p) (upd H p (SetXO P w p (allX xs)))
theorem k_setX {P : Program} {w : World} {K : PySem.W.Frag} (eP : X.prog = P) (eW : X.w = w) (eK : X.K = K) (hc : X.calm = true) : CallR X (.type "set") (rSetX P w K) := by
  subst eP eW eK
  intro pins s σ H vs us Q I r ⟨l, xs, e, hl, hb, q⟩
  subst e
  obtain ⟨u, rfl, rx⟩ := vals1 r
  obtain rfl : u = Value.ref l := rx
  obtain ⟨its, rv, pl, hz⟩ := I.list hl
  have hsb : scanBound = 4096 := rfl
  refine call_setX xs (I.ok.hd hc) pl.isList (by simpa using rv.strs) (by omega) fun g tk hS hk => ?_
  have hn := I.hok.fresh (Nat.le_refl s.heap.objs.size)
  exact ⟨.ref s.heap.objs.size, _, I.laid (t' := tk) hk (Nat.le_refl _) (setXO_new hS), rfl, q _ hn⟩
def rSortedX (P : Program) (w : World) : List V → Hp → VK → Prop := fun vs H Q => ∃ (a : Addr) (ms : List Str), vs = [.ref a] ∧ H a = some (SetXO P w a ms) ∧ ms.length < 64 ∧ ∀ (ys : List Str) (p : Addr), ys.Perm ms → sortedS ys = true → H p = none → Q (.ref p) (upd H p (.lst (ys.map V.str)))
theorem strs_all : ∀ {vs : List Value}, (∀ v ∈ vs, ∃ x t, v = Value.str x t) → StrsAre vs (vs.map txOf)
  | [], _ => .nil
  | v :: vs, h => by
    obtain ⟨x, t, rfl⟩ := h v (List.mem_cons_self ..)
    exact .cons x t (strs_all fun u m => h u (List.mem_cons_of_mem _ m))
theorem k_sortedX {P : Program} {w : World} (eP : X.prog = P) (eW : X.w = w) (hc : X.calm = true) : CallR X (.builtin "sorted") (rSortedX P w) := by
  subst eP eW
  intro pins s σ H vs us Q I r ⟨a, ms, e, ha, h64, q⟩
  subst e
  obtain ⟨u, rfl, rx⟩ := vals1 r
  obtain rfl : u = Value.ref a := rx
  obtain ⟨ob, els, ec, tb, ho, hx, hd, he, hs, hm, hb, hf, hr, hl⟩ := (I.hok a _ ha).1
  refine Calls.call_function_entry kind_sorted plain_sorted entry_sorted (args_sorted1 _) ?_
  unfold Builtin.«sorted»
  refine wpAny_bind (m := checkCount "sorted" 1 1 _) (wpAny_pure ?_)
  refine wpAny_bind (collect_set (A := X.A.in1) (I.ok.hd hc) ⟨ob, ho, hx.1, hd⟩ hf hb hr hl fun u vs k1 hz g1 o1 pm => ?_)
  have pk : (vs.map txOf).Perm ms := by
    have z := pm.map txOf
    rw [List.map_map] at z
    exact z.trans hm
  have hvl : vs.length = ms.length := by rw [← pk.length_eq, List.length_map]
  have hS : StrsAre vs (vs.map txOf) := strs_all fun v m => by
    obtain ⟨e, he', rfl⟩ := List.mem_map.mp (pm.mem_iff.mp m)
    exact hs e he'
  obtain ⟨gh, gg, gd, gt, go⟩ := u
  have g1 : gg = s.gens := g1
  have o1 : go = s.os := o1
  subst g1 o1
  refine wpAny_bind (wpAny_newList ?_ (by rw [hvl, sizeLine_eq]; omega))
  have hoL : (gh.push (seqObj "list" vs.toArray 0)).get? gh.objs.size = some (seqObj "list" vs.toArray 0) := Heap.get?_push_size _ rfl
  refine wpAny_bind (wpAny_holding (wpAny_call_entry slot_list_sort ⟨_, hoL, rfl⟩ entry_list_sort
    (list_sort_treeK strKind_oneLt (s := { s with heap := gh.push (seqObj "list" vs.toArray 0), drawn := gd, toks := gt }) hoL hS.keysOf (fun v₁ v₂ rest e => keyKind_strs (by rw [← e]; exact hS)) (by rw [hvl]; exact h64) fun st hp hss => ⟨_, rfl, ?_⟩) (args_list_sort _)))
  obtain ⟨ys, y1, y2, y3⟩ := sorted_out_str hS hp hss
  obtain ⟨c, hc'⟩ := sortedHeap_at (vs := vs) (out := (arrOf st).map (·.2)) hoL
  have hp2 : ys.Perm ms := y2.trans pk
  have hzz : s.heap.objs.size ≤ gh.objs.size := hz
  have hn : H gh.objs.size = none := I.hok.fresh hzz
  have kk : ∀ b o, s.heap.get? b = some o → (sortedHeap (gh.push (seqObj "list" vs.toArray 0)) gh.objs.size vs ((arrOf st).map (·.2))).get? b = some o := fun b o e => by
    have z := k1 b o e
    have hlt := Heap.lt_size z
    rw [sortedHeap_old (Nat.ne_of_lt hlt) (by rw [size_push']; exact Nat.lt_succ_of_lt hlt)]
    exact Heap.get?_push_of_some _ z
  have hlen : (ys.map V.str).length ≤ sizeLine := by rw [List.length_map, hp2.length_eq, sizeLine_eq]; omega
  have J : L2.Inv X pins σ (upd H gh.objs.size (.lst (ys.map V.str))) { s with heap := sortedHeap (gh.push (seqObj "list" vs.toArray 0)) gh.objs.size vs ((arrOf st).map (·.2)), gens := s.gens, drawn := gd, toks := gt } :=
    I.call (ch := []) (Un.laid kk hzz hn) (I.hok.laid kk hzz ⟨hlen, ((arrOf st).map (·.2)).toList, c, vals_of_strs y1, by rw [Array.toArray_toList]; exact hc'⟩) I.bare (fun _ z => nomatch z)
  exact wpAny_pure ⟨_, rfl, .ref gh.objs.size, _, J, rfl, q ys _ hp2 y3 hn⟩
end
end Fx
end

section
set_option Elab.async false
set_option linter.all false
set_option maxRecDepth 100000
set_option maxHeartbeats 4000000
/-! for i, x in enumerate(list, start=k) -/
namespace Fx
open PySem PySem.Spec PyProof.Rows L2
section
variable {M : Model} {A : Around} {E : Value → Shared → Prop} {s : Shared} {env : Env}
theorem callWith_ty {pos : Pos} {T : String} {first : List Value} {as : List (Bool × Sem Value)} {ks : List (Option Str × Sem Value)} {Q : Value → Shared → Prop} (h1 : as.any (·.1) = false) (h2 : ks.any (·.1.isNone) = false)
    (h : wpAny M A (evalArgs (.type T) true as ks) (fun a u => wpAny M A (call (.type T) (first ++ a.pos) a.kw) Q E u) E s) : wpAny M A (callWith pos (.type T) first as ks) Q E s := by
  unfold callWith
  refine wpAny_bind (wpAny_holding (wpAny_mono h (fun a u z => wpAny_bind (wpAny_standAt ?_)) fun _ _ x => x))
  simp only [h1, h2, Bool.or_false]
  exact wpAny_bind (wpAny_pure (wpAny_bind (wpAny_mono z (fun r v y => wpAny_bind (wpAny_holding (wpAny_point (wpAny_pure y)))) fun _ _ x => x)))
/-- T(e, k = f) -/
theorem callWith_ty1k {pos kp : Pos} {T : String} {e f : Expr} {k : Str} {Q : Value → Shared → Prop} (he : starEach [e] env = [(false, eval e env)])
    (h : wpAny M A (spliced (backTo pos (starEach [e] env))) (fun vs u => wpAny M A (eval f env) (fun v u2 => wpAny M A (call (.type T) vs [(k, v)]) Q E u2) E u) E s) :
    wpAny M A (callWith pos (.type T) [] (backTo pos (starEach [e] env)) (backToKw pos (keywordEach [⟨some k, f, kp⟩] env))) Q E s := by
  rw [he] at h ⊢
  refine callWith_ty rfl rfl (evalArgs_kwB rfl (wpAny_mono h (fun vs u z => ?_) fun _ _ x => x))
  exact kws_cons (wpAny_mono z (fun v u2 y => kws_nil y) fun _ _ x => x)
end
/-- the list at a, each item in a new pair, counted from c on -/
def IteS (K : PySem.W.Frag) (c : Int) (a : Addr) : It :=
  ⟨fun i H => ∃ (xs : List V) (x : V), SqL K H a xs ∧ xs[i]? = some x, fun i H v H' => ∃ T x, v = .ref T ∧ H T = none ∧ H' = upd H T (.tup [.int (c + (i : Nat)), x]) ∧ ∀ xs, SqL K H a xs → xs[i]? = some x, fun i H => ∃ xs : List V, SqL K H a xs ∧ xs.length = i⟩
theorem turn_enumS {P : Program} {w : World} {K : PySem.W.Frag} {elts : List Expr} {kk : Nat} {tpos : Pos} (c : Int) (a e it : Addr) :
    Turn P w K (.Tuple elts kk tpos) (IteS K c a) [e, it] e (fun i h => (∃ old, IsEnum h e it (c + (i : Nat)) old) ∧ h.IsListIter it a i ∧ e ≠ it ∧ e ≠ a ∧ a ≠ it) where
  mem := by simp
  obj := fun i h st b hb => by
    obtain ⟨⟨old, he⟩, ⟨o, ho, hc, hd⟩, _⟩ := st
    rcases (show b = e ∨ b = it by simpa using hb) with z | z
    · rw [z]
      exact ⟨_, he, fun v q => nomatch q⟩
    · rw [z]
      exact ⟨o, ho, fun v q => by rw [hd] at q; cases q⟩
  keep := fun i h h' st k => let ⟨⟨old, he⟩, hi, hne⟩ := st; ⟨⟨old, k e (by simp) _ he⟩, hi.at fun o q => k it (by simp) o q, hne⟩
  item := by
    intro X hP hw hK hc i pins s σ H E I hf st hg
    subst hP hw hK
    obtain ⟨⟨old, he⟩, hit, hne, hea, hai⟩ := st
    obtain ⟨xs, x, hq, hx⟩ := hg
    obtain ⟨its, rv, pl, hz⟩ := I.list hq
    obtain ⟨u, hu, ru⟩ := rv.get hx
    have hel : e < s.heap.objs.size := Heap.lt_size he
    have hil : it < s.heap.objs.size := let ⟨_, q, _⟩ := hit; Heap.lt_size q
    have hlt : i < its.toArray.size := by have := lt_of_get hu; simpa using this
    refine wpAny_pyNext_enum_itemC (Draws.list (show X.A.in1.handled = none from I.ok.hd hc) it a hai its.toArray) he ⟨hit, pl.isList⟩ hlt hne (by simp [hne, hea]) fun u' h' tk hu' ho hst' hT hsz hk => ?_
    have eu : u' = u := by
      have z : its[i]? = some u' := by simpa using hu'
      rw [hu] at z
      exact (Option.some.inj z).symm
    subst eu
    refine ⟨_, rfl, wpAny_letOwnedTupleGo_enum (s := { s with heap := h', toks := tk + 1 }) ho fun g he' sb => ?_⟩
    have hT2 : g.get? s.heap.objs.size = some { cls := .type "tuple", data := .seq #[.int (c + (i : Nat)) tk, u'] } := (sb.2 _ (Nat.ne_of_gt hel)).trans hT
    have I1 : Inv X pins σ (upd H s.heap.objs.size (.tup [.int (c + (i : Nat)), x])) { s with heap := g, toks := tk + 1 } :=
      I.turnedNew (ch := [e, it]) (fun b ob hb q => (sb.2 b (fun z => hb (by simp [z]))).trans (hk b ob (fun z => hb (by simp [z])) (fun z => hb (by simp [z])) q)) hf (Nat.le_refl _)
        ⟨by show 2 ≤ sizeLine; decide, [.int (c + (i : Nat)) tk, u'], .cons ⟨_, rfl⟩ (.cons ru .nil), ⟨_, hT2, rfl, _, rfl⟩⟩
    refine ⟨.ref s.heap.objs.size, _, I1, rfl, ⟨_, x, rfl, I.hok.fresh (Nat.le_refl _), rfl, fun ys hy => by rw [I.list_inj hy hq]; exact hx⟩, ⟨⟨u', ?_⟩, hst'.1.at fun o q => (sb.2 it (Ne.symm hne)).trans q, hne, hea, hai⟩, fun b hb => ?_⟩
    · rw [show c + ((i + 1 : Nat) : Int) = c + (i : Nat) + 1 by omega]
      exact he'
    · have hb' : b < s.heap.objs.size := by
        rcases (show b = e ∨ b = it by simpa using hb) with z | z
        · rw [z]; exact hel
        · rw [z]; exact hil
      rw [upd_ne (Nat.ne_of_lt hb')]
      exact (hf b hb).1
  done := by
    intro X hP hw hK hc i pins s σ H E I hf st hg
    subst hP hw hK
    obtain ⟨⟨old, he⟩, hit, hne, hea, hai⟩ := st
    obtain ⟨xs, hq, hx⟩ := hg
    obtain ⟨its, rv, pl, hz⟩ := I.list hq
    obtain ⟨f0, f1, f2, f3, f4, f5⟩ := hf it (by simp)
    have hz' : its.toArray.size = i := by rw [List.size_toArray, ← rv.length]; exact hx
    refine wpAny_pyNext_enum_endD (Draws.list (show X.A.in1.handled = none from I.ok.hd hc) it a hai its.toArray) he (by rw [hz']; exact ⟨hit, pl.isList⟩) fun h' eb => ?_
    exact ⟨rfl, I.turned (t' := s.toks) (fun b o hb q => eb b o hb q) f0 f1 f3 f4 f5⟩
  self := fun A i s Q E st h => let ⟨⟨_, he⟩, _⟩ := st; wpAny_pyIter_enum he h
def iEnumS (K : PySem.W.Frag) (ta : TA) (te : TE) : TI := fun σ H R => ta σ H fun vs H1 => te σ H1 fun c H2 => ∃ (a : Addr) (xs : List V) (k : Int), vs = [.ref a] ∧ c = .int k ∧ -(2 ^ 63) ≤ k ∧ k < 2 ^ 63 ∧ SqL K H2 a xs ∧ R (IteS K k a) H2
theorem k_pienumS {X : Cx} {K : PySem.W.Frag} (eK : X.K = K) {e f : Expr} {ta : TA} {te : TE} {p pos tpos kp : Pos} {elts : List Expr} {kk : Nat} (hg : Gl X "enumerate") (hm : X.mg "enumerate" = none) (ha : PA X [e] ta) (hf : PE X f te) (hs : starEach [e] X.env = [(false, eval e X.env)] := by rfl) :
    PI X (.Tuple elts kk tpos) (.Call (.Name "enumerate" p) [e] [⟨some (Str.ofString "start"), f, kp⟩] pos) (iEnumS K ta te) := by
  subst eK
  refine ⟨fun pins s σ H R I h => ?_⟩
  refine wpAny_Call_Name_kw (ld_blt I hg hm boot_enumerate ?_)
  refine callWith_ty1k (k := Str.ofString "start") (f := f) (kp := kp) hs ?_
  refine thn (ha.run pos pins s σ H _ I h) ?_
  rintro us s1 ⟨vs, H1, I1, r1, q1⟩
  refine thn (hf.run pins s1 σ H1 _ I1 q1) ?_
  rintro w s2 ⟨c, H2, I2, r2, q2⟩
  obtain ⟨a, xs, k, rfl, rfl, k0, k1, hq, q⟩ := q2
  obtain ⟨t, rfl⟩ := r2
  obtain ⟨u, rfl, rx⟩ := vals1 r1
  obtain rfl : u = Value.ref a := rx
  obtain ⟨its, rv, pl, hz⟩ := I2.list hq
  have hlt : a < s2.heap.objs.size := let ⟨_, ho, _⟩ := pl.isList; Heap.lt_size ho
  refine enum_begins_start (begins_list a its.toArray) pl.isList k0 k1 fun h' he hit hsz hk => wpAny_pyIter_enum he ?_
  have I3 : Inv X pins σ H2 { s2 with heap := h' } := I2.kept (t' := s2.toks) hk
  refine ⟨s2.heap.objs.size + 1, [s2.heap.objs.size + 1, s2.heap.objs.size], _, _, H2, rfl, I3, turn_enumS k a (s2.heap.objs.size + 1) s2.heap.objs.size,
    ⟨⟨.none, by rw [show k + ((0 : Nat) : Int) = k by omega]; exact he⟩, ⟨_, hit, rfl, rfl⟩, Nat.succ_ne_self _, Nat.ne_of_gt (Nat.lt_succ_of_lt hlt), Nat.ne_of_lt hlt⟩, fun b hb => ?_, q⟩
  have hle : s2.heap.objs.size ≤ b := by
    rcases (show b = s2.heap.objs.size + 1 ∨ b = s2.heap.objs.size by simpa using hb) with z | z
    · rw [z]; exact Nat.le_add_right _ _
    · rw [z]; exact Nat.le_refl _
  exact I2.fpOk hle (I2.hok.fresh hle)
theorem walk_enumS {K : PySem.W.Frag} {c : Int} {a : Addr} {xs : List V} : Walk (IteS K c a) xs.length (fun H => SqL K H a xs) (YPair (fun i => some (.int (c + (i : Nat)))) (fun i => xs[i]?)) := by
  refine ⟨fun i _ hi q => ⟨xs, xs[i], q, by simp [hi]⟩, fun _ q => ⟨xs, q, rfl⟩, fun i H v H' _ q y => ?_⟩
  obtain ⟨T, x, h1, h2, h3, h4⟩ := y
  exact ⟨T, .int (c + (i : Nat)), x, h1, h2, h3, rfl, h4 xs q⟩
section
variable {K : PySem.W.Frag} {c : Int} {a : Addr} {xs : List V} {tgs : TGs} {tb : TS} {D : Ends} {σ : L2.St} {H : Hp}
theorem for_enumS (Pv : Nat → L2.St → Hp → Prop) (h0 : Pv 0 σ H) (hG : ∀ i σ H, i ≤ xs.length → Pv i σ H → SqL K H a xs)
    (hs : ∀ i x σ H T, xs[i]? = some x → Pv i σ H → H T = none → tgs [.int (c + (i : Nat)), x] σ (upd H T (.tup [.int (c + (i : Nat)), x])) fun σ2 H2 => tb { D with nx := Pv (i + 1), ct := Pv (i + 1), bk := D.nx } σ2 H2)
    (hd : ∀ σ H, Pv xs.length σ H → D.nx σ H) :
    ∃ W : Nat → Nat → L2.St → Hp → Prop, (∃ m, W 0 m σ H) ∧ ∀ i m σ H, W i m σ H →
      ((IteS K c a).stop i H ∧ D.nx σ H) ∨ ((IteS K c a).go i H ∧ ∃ N : L2.St → Hp → Prop, (∀ σ' H', N σ' H' → ∃ m', m' < m ∧ W (i + 1) m' σ' H') ∧ ∀ x H', (IteS K c a).yld i H x H' → gTup K 2 tgs x σ H' fun σ2 H2 => tb { D with nx := N, ct := N, bk := D.nx } σ2 H2) :=
  for_it walk_enumS Pv h0 hG (fun i v σ H H' hi p y => by
    obtain ⟨T, x, z, rfl, hT, rfl, hx, hz⟩ := y
    cases hx
    exact ⟨T, _, rfl, .inl (.inl upd_same), rfl, hs i z σ H T hz p hT⟩) hd
end
end Fx
end

section
set_option Elab.async false
set_option linter.all false
set_option maxRecDepth 100000
set_option maxHeartbeats 4000000
/-! own exceptions over ValueError: what the head must say; a def that may raise -/
namespace Fx
open PySem PySem.Spec PyProof.Rows L2
/-- an own exception class over ValueError, by its object -/
def oexO (C : Addr) : Option Obj → Bool
  | some ⟨.type ty, _, .cls ⟨_, _, .ref c :: r, _, _, hd, _, _, _, _, del⟩, ⟨[_, _, _, _, some (.builtin id), _]⟩⟩ => ty == "type" && (id == "ValueError.__new__" && (c == C && (hd && (!del && PySem.HandSPX.refsVE r))))
  | _ => false
theorem oexO_ok {C : Addr} {o : Option Obj} (h : oexO C o = true) : ∃ nm q N bs bm sn sub ab col dd k0 k1 k2 k3 k5, o = some (excClassObj nm q C N bs bm true sn sub ab col dd k0 k1 k2 k3 k5 "ValueError.__new__") ∧ PySem.HandSPX.refsVE bm = true := by
  unfold oexO at h
  split at h
  · rename_i ty dd nm bs c r N q hd sn sub ab col del k0 k1 k2 k3 id k5
    simp only [Bool.and_eq_true, beq_iff_eq, Bool.not_eq_true'] at h
    obtain ⟨rfl, rfl, rfl, rfl, rfl, h⟩ := h
    exact ⟨nm, q, N, bs, r, sn, sub, ab, col, dd, k0, k1, k2, k3, k5, rfl, h⟩
  · cases h
/-- what the head says of such a class, its __init__ at fI -/
def oexB (K : PySem.W.Frag) (C fI : Addr) : Bool := oexO C (K.lookup C) && (decide (PySem.W.findIn K (.ref C) "__setattr__" = some (some (.builtin "object.__setattr__"))) && (decide (PySem.W.subIn K (.ref C) (.type "BaseException") = some true) &&
  (decide (PySem.W.typeIn K (.ref C) = some (.type "type")) && (PySem.W.keepIn K (.ref C) && (decide (PySem.W.findIn K (.ref C) "__init__" = some (some (.ref fI))) && decide (PySem.W.typeIn K (.ref fI) = some (.type "function")))))))
theorem oexB_ok {K : PySem.W.Frag} {C fI : Addr} (h : oexB K C fI = true) : OexC K C ∧ PySem.W.findIn K (.ref C) "__init__" = some (some (.ref fI)) ∧ PySem.W.typeIn K (.ref fI) = some (.type "function") := by
  unfold oexB at h
  simp only [Bool.and_eq_true, decide_eq_true_eq] at h
  obtain ⟨h1, h2, h3, h4, h5, h6, h7⟩ := h
  exact ⟨⟨oexO_ok h1, h2, h3, h4, h5⟩, h6, h7⟩
/-- what isinstance asks of it -/
def excB (K : PySem.W.Frag) (D : Addr) : Bool := xfB K D && (decide (PySem.W.findIn K (.ref D) "__class__" = some (some (.builtin "object.__class__"))) && (decide (PySem.W.specialIn K (.builtin "object.__class__") "__get__" = some (some (.builtin "getset_descriptor.__get__"))) &&
  (decide (PySem.W.takesIn K (.builtin "object.__class__") = some true) && decide (PySem.W.mroIn K D (.type "object") = some true))))
theorem excB_ok {K : PySem.W.Frag} {D : Addr} (h : excB K D = true) : XfC K D ∧ ExcC K D := by
  unfold excB at h
  simp only [Bool.and_eq_true, decide_eq_true_eq] at h
  obtain ⟨h1, h2, h3, h4, h5⟩ := h
  have x := xfB_ok h1
  exact ⟨x, ⟨x.ga, x.gg, x.exC, x.hdC, h2, h3, h4, h5⟩⟩
/-- the def found by a path keeps a promise that may be an exception -/
abbrev OkX (P : Program) (w : World) (K : PySem.W.Frag) (mg : Str → Option Value) (base : Heap) (k : Nat) (p : Str × Option Str) (ps : List Str) (sp : Sp) : Prop :=
  FnOk P w K mg base (L2.CX P w) k (He.fAd K p) (fdOf K (He.fAd K p)) ps sp
theorem passX {X : Cx} {E : XK} (h : ∀ cls d H, ¬ E cls d H := by intro _ _ _ z; exact z) : Passes (L2.CX X.prog X.w) X E := fun _ _ _ _ _ _ _ y => by
  obtain ⟨_, _, _, _, _, _, _, _, _, _, _, _, z⟩ := y
  exact absurd z (h _ _ _)
end Fx
end

section
set_option Elab.async false
set_option linter.all false
set_option maxRecDepth 100000
set_option maxHeartbeats 4000000
/-! the head's facts over a told list of addresses (growing the list costs the kernel gigabytes) -/
namespace Fx
open PySem PySem.Spec PyProof.Rows L2
open He
def lookL (as : List Addr) (fa : List Fa) (fn gs : List DefD) (ex : PySem.W.Frag → Bool) (g : Addr → Option Obj) : AlD := obsE fa fn gs ex (frG g as)
def hookL (as : List Addr) (fa : List Fa) (fn gs : List DefD) (ex : PySem.W.Frag → Bool) : PySem.W.Hook where
  α := AlD
  obs := fun s => lookL as fa fn gs ex s.heap.get?
  val := fun _ => valE fn gs
  says := fun _ h => ∃ K : PySem.W.Frag, K.In h ∧ obsE fa fn gs ex K = valE fn gs
  of := fun _ _ e => ⟨_, frG_in, e⟩
  keeps := fun _ _ _ z k => z.elim fun K q => ⟨K, PySem.W.Frag.In.keeps q.1 k, q.2⟩
theorem lookL_eq {as : List Addr} {fa : List Fa} {fn gs : List DefD} {ex : PySem.W.Frag → Bool} {g : Addr → Option Obj} {s : Shared} (h : ∀ a, g a = s.heap.get? a) : lookL as fa fn gs ex g = (hookL as fa fn gs ex).obs s := by
  obtain rfl : g = s.heap.get? := funext h
  rfl
end Fx
end

section
set_option Elab.async false
set_option linter.all false
set_option maxRecDepth 100000
set_option maxHeartbeats 4000000
/-! written dicts with text keys; tuples of texts in order; isinstance of a caught exception with fields; a def that knows its code object -/
namespace Fx
open PySem PySem.Spec PyProof.Rows L2
section
variable {X : Cx} {K : PySem.W.Frag} {w : World}
theorem k_inKd {d : Addr} (eK : X.K = K) (eW : X.w = w) (D : ∃ es n, KDict K w d es n) : OpR X (compareOp .In) (fun x y H Q => ∃ (z : Str) (r : Option Value), x = .str z ∧ y = .ref d ∧ PySem.W.nsIn K d z = some r ∧ Q (.bl r.isSome) H) := by
  subst eK eW
  obtain ⟨es, n, D⟩ := D
  exact op_in_kd D
theorem k_notInKd {d : Addr} (eK : X.K = K) (eW : X.w = w) (D : ∃ es n, KDict K w d es n) : OpR X (compareOp .NotIn) (fun x y H Q => ∃ (z : Str) (r : Option Value), x = .str z ∧ y = .ref d ∧ PySem.W.nsIn K d z = some r ∧ Q (.bl (!r.isSome)) H) := by
  subst eK eW
  obtain ⟨es, n, D⟩ := D
  exact op_notIn_kd D
theorem k_ixKd (eK : X.K = K) (eW : X.w = w) : IxR X (rIxD K w) := by
  subst eK eW
  exact ix_kdict
theorem rc_le_str {A : Around} {s : Shared} (a b : Str) (t u : Tok) : Ob.RcOp .LtE A s (.str a t) (.str b u) (!decide (b.cps.toList < a.cps.toList)) := fun _ _ _ _ h => PySem.P.le_str h
/-- the order of lists of texts, <= -/
def lexLeS : List Str → List Str → Bool
  | [], _ => true
  | _ :: _, [] => false
  | x :: xs, y :: ys => if x = y then lexLeS xs ys else !decide (y.cps.toList < x.cps.toList)
theorem lexAt_S : ∀ (xs ys : List Str) (e r : Nat → Bool) (i : Nat), (∀ j, j < xs.length → j < ys.length → e (i + j) = decide (xs.getD j Str.empty = ys.getD j Str.empty)) →
    (∀ j, j < xs.length → j < ys.length → r (i + j) = !decide ((ys.getD j Str.empty).cps.toList < (xs.getD j Str.empty).cps.toList)) →
    Ob.lexAt e r (decide (xs.length ≤ ys.length)) i (min xs.length ys.length) = lexLeS xs ys
  | [], ys, e, r, i, _, _ => by simp [Ob.lexAt_zero, lexLeS]
  | x :: xs, [], e, r, i, _, _ => by simp [Ob.lexAt_zero, lexLeS]
  | x :: xs, y :: ys, e, r, i, h1, h2 => by
    have e0 := h1 0 (by simp) (by simp)
    have r0 := h2 0 (by simp) (by simp)
    simp only [List.length_cons, Nat.add_zero, List.getD_cons_zero] at e0 r0
    rw [show min (x :: xs).length (y :: ys).length = min xs.length ys.length + 1 by simp only [List.length_cons]; omega, Ob.lexAt_succ]
    have ih := lexAt_S xs ys e r (i + 1) (fun j a b => by have := h1 (j + 1) (by simpa using a) (by simpa using b); rw [show i + 1 + j = i + (j + 1) by omega, this]; simp) (fun j a b => by have := h2 (j + 1) (by simpa using a) (by simpa using b); rw [show i + 1 + j = i + (j + 1) by omega, this]; simp)
    rw [show decide ((x :: xs).length ≤ (y :: ys).length) = decide (xs.length ≤ ys.length) by simp, ih, e0, r0]
    show _ = if x = y then lexLeS xs ys else !decide (y.cps.toList < x.cps.toList)
    by_cases q : x = y
    · rw [if_pos (decide_eq_true q), if_pos q]
    · rw [if_neg (by simpa using q), if_neg q]
theorem beq_dec (a b : Str) : (a == b) = decide (a = b) := by
  by_cases q : a = b
  · rw [decide_eq_true q]; exact beq_iff_eq.mpr q
  · rw [decide_eq_false q]; exact beq_eq_false_iff_ne.mpr q
def rLeTS (K : PySem.W.Frag) : R2 := fun x y H Q => ∃ (a b : Addr) (xs ys : List Str), x = .ref a ∧ y = .ref b ∧ SqT K H a (xs.map V.str) ∧ SqT K H b (ys.map V.str) ∧ Q (.bl (lexLeS xs ys)) H
theorem strs_getD : ∀ {us : List Value} {xs : List Str}, StrsAre us xs → ∀ (j : Nat) (h : j < us.length), ∃ t, us[j] = Value.str (xs.getD j Str.empty) t
  | _, _, .cons x t r, 0, _ => ⟨t, rfl⟩
  | _, _, .cons x t r, j + 1, h => by
    obtain ⟨u, e⟩ := strs_getD r j (by simpa using h)
    exact ⟨u, by simpa using e⟩
theorem k_leTS (eK : X.K = K) (hu : X.A.units < cLine) : OpR X (compareOp .LtE) (rLeTS K) := by
  subst eK
  intro pins s σ H x y v u Q I rx ry h
  obtain ⟨a, b, xs, ys, rfl, rfl, ha, hb, q⟩ := h
  cases rx
  cases ry
  obtain ⟨its, r1, p1, _⟩ := I.tuple ha
  obtain ⟨its2, r2, p2, _⟩ := I.tuple hb
  have i1 : StrsAre its xs := Vals.strs r1
  have i2 : StrsAre its2 ys := Vals.strs r2
  have l1 : its.length = xs.length := by have := r1.length; simpa using this.symm
  have l2 : its2.length = ys.length := by have := r2.length; simpa using this.symm
  have e1 : its.toArray.size = xs.length := by rw [List.size_toArray]; exact l1
  have e2 : its2.toArray.size = ys.length := by rw [List.size_toArray]; exact l2
  have R := Ob.RcOp.tuples_le (A := X.A) (s := s) (e := fun j => xs.getD j Str.empty == ys.getD j Str.empty) (r := fun j => !decide ((ys.getD j Str.empty).cps.toList < (xs.getD j Str.empty).cps.toList)) p1 p2 hu (fun j h1 h2 => by
    have k1 : j < its.length := by simpa using h1
    have k2 : j < its2.length := by simpa using h2
    obtain ⟨t, et⟩ := strs_getD i1 j k1
    obtain ⟨t', et'⟩ := strs_getD i2 j k2
    rw [show its.toArray[j] = its[j]'k1 from by simp, show its2.toArray[j] = its2[j]'k2 from by simp, et, et']
    exact SeqAt.EqAt.str_str _ _ _ _) (fun j h1 h2 _ => by
    have k1 : j < its.length := by simpa using h1
    have k2 : j < its2.length := by simpa using h2
    obtain ⟨t, et⟩ := strs_getD i1 j k1
    obtain ⟨t', et'⟩ := strs_getD i2 j k2
    rw [show its.toArray[j] = its[j]'k1 from by simp, show its2.toArray[j] = its2[j]'k2 from by simp, et, et']
    exact rc_le_str _ _ _ _)
  rw [e1, e2, lexAt_S xs ys _ _ 0 (fun j _ _ => by rw [Nat.zero_add]; exact beq_dec _ _) (fun j _ _ => by rw [Nat.zero_add])] at R
  have z : wpAny (model X.prog X.w) X.A (compareOp .LtE (.ref a) (.ref b)) (EP X pins σ Q) X.xe s := R X.prog X.w X.xe (EP X pins σ Q) ⟨.bl _, H, I, rfl, q⟩
  exact z
/-- isinstance(e, c), e the exception that the suite holds, with or without a dict of its own -/
theorem call_isED {a D : Addr} {oe : Obj} {cls : Value} {d : Option Addr} {pn : List (Addr × Obj)} (C : ExcC X.K D) (hz : Zc cls d oe) (hf : ∃ vs, oe.data = .fields vs) :
    CallR (X.suite a ((a, oe) :: pn)) (.builtin "isinstance") (fun xs H Q => cls = .ref D ∧ (∃ (dd : Addr) (fs : List (Str × V)), d = some dd ∧ H dd = some (.xd fs)) ∧ rIsE X.K D a xs H Q) := by
  intro pins s σ H xs us Q I r h
  obtain ⟨hcl, ⟨dd, fs, hdd, hxd⟩, c, cv, b, rfl, hcv, e, q⟩ := h
  subst hcl hdd
  cases r with
  | cons rx rr =>
    cases rr with
    | cons rt rr =>
      cases rr
      cases rx
      have ec := hcv _ rt
      subst ec
      obtain ⟨hget, _⟩ := I.pin (a, oe) (List.mem_append.mpr (.inl List.mem_cons_self))
      obtain ⟨vs, hv⟩ := hf
      have hx : ObjOk X.prog X.w H s.heap dd (.xd fs) := I.hok dd _ hxd
      obtain ⟨mA, hns, hr⟩ := hx
      obtain ⟨od, ho, hl⟩ := lookIn_ns hns
      have J : PySem.W.InstAt s.heap a oe D (some od) := ⟨hget, hz.1, by unfold PySem.W.notCls; rw [hv] <;> rfl, by rw [hz.2]; exact ho⟩
      have hcl : (PySem.W.clsIn X.K D).isSome = true := by
        obtain ⟨cd, hc, _⟩ := PySem.W.any_some C.hd
        rw [hc]; rfl
      exact PySem.W.kia_one (PySem.W.kitx_exc (od := some od) hcl C.hg C.hk C.hs C.ha C.hn C.ht C.hm) I.kIn J e (fun z => nomatch z) fun tk => ⟨.bl b, H, I.kept (t' := tk) fun _ _ z => z, rfl, q⟩
end
section
variable {P : Program} {w : World} {K : PySem.W.Frag} {mg : Str → Option Value} {base : Heap}
/-- as okG, the code object told -/
theorem okGC {x qual : Str} {params : Arguments} {body : List Stmt} {scope : Scope} {dvs : List V} {kws : List (Str × V)} {p : Str × Option Str} {fd : FuncData}
    {CX : CXT} {N ps : List Str} {k : Nat} {sp : Sp} (F : FunD K x qual params body scope dvs kws (He.fAd K p) fd) (S : FnScope N ps scope) (len : ∀ vs H Q E, sp vs H Q E → vs.length = ps.length)
    (hbody : ∀ (cdv : Value) (A : Around) (outer : List Env) (s : Shared) (H : Hp) (vs : List V) (Q : VK) (E : XK), cdv = .ref (He.codeOf K p) → (A.deeper (envOfC qual scope s.heap.objs.size (He.fAd K p) cdv)).guards = some [] → Room k (A.deeper (envOfC qual scope s.heap.objs.size (He.fAd K p) cdv)) → sp vs H Q E →
      ∃ t, PSs (cxOf CX P w K mg base N qual scope (He.fAd K p) cdv A outer s H E) body t ∧ t { nx := fun _ H' => Q .non H', rt := Q } (start N vs) H) : FnOkG P w K mg base CX (k + 1) (He.fAd K p) fd ps sp := by
  obtain ⟨oc, od, dV, kV, doc, pm, an, cdv, ct, osl, rfl, lk, hcd, _, _⟩ := F.ex
  refine fn_ofG lk hcd S len fun A outer s H vs Q E hg hr hsp => hbody cdv A outer s H vs Q E ?_ hg hr hsp
  obtain ⟨c, e⟩ := He.codeIn_ref hcd
  rw [He.codeOf_eq lk e]
  exact e
end
end Fx
end

section
set_option Elab.async false
set_option linter.all false
set_option maxRecDepth 100000
set_option maxHeartbeats 4000000
/-! the head: a told list of addresses, getters, dicts with text keys, empty tables of code objects -/
namespace Fx
open PySem PySem.Spec PyProof.Rows L2
open He LamX
/-! ### what stands in a written dict with text keys -/
theorem keys_find {P : Params} {x : Str} : ∀ {l : List DictEntry} {ks : List Str}, l.map He.keyOf = keysIn P ks → (l.any (·.refKey) = false) ∧ ((l.find? (·.key.isStr x)).isSome = decide (x ∈ ks))
  | [], [], _ => ⟨rfl, rfl⟩
  | [], _ :: _, h => by cases h
  | _ :: _, [], h => by cases h
  | e :: l, k :: ks, h => by
    have h1 : He.keyOf e :: l.map He.keyOf = some (k, PyData.keyHash P k) :: keysIn P ks := h
    injection h1 with h2 h3
    obtain ⟨i1, i2⟩ := keys_find (x := x) h3
    unfold He.keyOf at h2
    split at h2
    · rename_i z t q
      obtain ⟨h5, h6⟩ := Prod.mk.inj (Option.some.inj h2)
      subst h5
      have r1 : e.refKey = false := by unfold DictEntry.refKey; rw [q]
      refine ⟨by rw [List.any_cons, r1, i1]; try rfl, ?_⟩
      rw [List.find?_cons]
      have r2 : e.key.isStr x = (z == x) := by rw [q]; try rfl
      rw [r2]
      by_cases y : z = x
      · rw [beq_iff_eq.mpr y]
        simp [y]
      · rw [beq_eq_false_iff_ne.mpr y]
        dsimp only
        rw [i2]
        exact decide_eq_decide.mpr ⟨fun m => List.mem_cons_of_mem _ m, fun m => (List.mem_cons.mp m).elim (fun e => absurd e.symm y) id⟩
    · cases h2
theorem dicW_ns {K : PySem.W.Frag} {P : Params} {a : Addr} {ks : List Str} (h : dicW K a = some (keysIn P ks)) (x : Str) : ∃ r, PySem.W.nsIn K a x = some r ∧ r.isSome = decide (x ∈ ks) := by
  unfold dicW at h
  unfold PySem.W.nsIn
  cases q : K.lookup a with
  | none => rw [q] at h; cases h
  | some o =>
    obtain ⟨oc, od, dt, osl⟩ := o
    rw [q] at h
    cases oc with
    | type c =>
      cases od with
      | none =>
        cases dt with
        | dict es n =>
          have h1 : (match decide (c = "dict") && (osl.isEmpty && !(a == sysModules)) with
            | true => some (es.toList.map He.keyOf)
            | false => none) = some (keysIn P ks) := h
          cases z : decide (c = "dict") && (osl.isEmpty && !(a == sysModules)) with
          | false => rw [z] at h1; cases h1
          | true =>
            rw [z] at h1
            obtain ⟨i1, i2⟩ := keys_find (x := x) (Option.some.inj h1)
            dsimp only
            cases y : es.toList.find? (·.key.isStr x) with
            | none =>
              rw [y] at i2
              dsimp only
              rw [i1]
              exact ⟨none, rfl, i2⟩
            | some e =>
              rw [y] at i2
              exact ⟨some e.val, rfl, i2⟩
        | _ => cases h
      | some b => cases dt <;> cases h
    | _ => cases od <;> cases dt <;> cases h
theorem dicW_at {K : PySem.W.Frag} {w : World} {a : Addr} {ks : List Str} {kvs : List (Str × Dv)} (h : dicW K a = some (keysIn w.params ks)) (v : valsB K a kvs = true) {q : Str × Dv} (hq : q ∈ kvs) : KDct K w a q.1 (q.2.v K) := by
  obtain ⟨es, n, D⟩ := dicW_ok h
  obtain ⟨u, e, r⟩ := valsB_ok v hq
  exact ⟨es, n, u, D.at_, D.lit, e, r⟩
/-! ### the hook -/
structure SaysL (fa : List Fa) (fn gs : List DefD) (ts : List Tab) (tf : List Defn) (ex : PySem.W.Frag → Bool) (w : World) (h : Heap) (K : PySem.W.Frag) : Prop where
  c : obsE fa fn gs ex K = valE fn gs
  t : (ts.map fun t => dicW K (t.1 K)) = ts.map fun t => some (keysIn w.params t.2)
  hd : ∀ p ∈ tf, PySem.W.codeHdIn K (cT K p).1 (cT K p).2 = true
  out : ∀ p ∈ tf, K.lookup (cT K p).2 = none
  empty : ∀ p ∈ tf, h.get? (cT K p).2 = some { cls := .none, data := .fields #[] }
abbrev AlL : Type := AlD × (List (Option (List (Option (Str × Int)))) × Bool)
def lookT (as : List Addr) (fa : List Fa) (fn gs : List DefD) (ts : List Tab) (tf : List Defn) (ex : PySem.W.Frag → Bool) (g : Addr → Option Obj) : AlL :=
  (obsE fa fn gs ex (frT g as), (ts.map fun t => dicW (frT g as) (t.1 (frT g as))), tabsB g tf (frT g as))
def valL (fn gs : List DefD) (ts : List Tab) (w : World) : AlL := (valE fn gs, (ts.map fun t => some (keysIn w.params t.2)), true)
theorem saysL_of {as : List Addr} {fa : List Fa} {fn gs : List DefD} {ts : List Tab} {tf : List Defn} {ex : PySem.W.Frag → Bool} {w : World} {h : Heap} (e : lookT as fa fn gs ts tf ex h.get? = valL fn gs ts w) : SaysL fa fn gs ts tf ex w h (frT h.get? as) := by
  have e1 := congrArg (fun z : AlL => z.1) e
  have e2 := congrArg (fun z : AlL => z.2.1) e
  have e3 : tabsB h.get? tf (frT h.get? as) = true := congrArg (fun z : AlL => z.2.2) e
  have key : ∀ p ∈ tf, PySem.W.codeHdIn (frT h.get? as) (cT (frT h.get? as) p).1 (cT (frT h.get? as) p).2 = true ∧ ∃ o, h.get? (cT (frT h.get? as) p).2 = some o ∧ emptyTab o = true := fun p hp => by
    obtain ⟨h3, h4⟩ := ba (List.all_eq_true.mp e3 p hp)
    refine ⟨h3, ?_⟩
    cases q : h.get? (cT (frT h.get? as) p).2 with
    | none => rw [q] at h4; cases h4
    | some o => rw [q] at h4; exact ⟨o, rfl, h4⟩
  exact ⟨e1, e2, fun p hp => (key p hp).1, fun p hp => by
    obtain ⟨_, o, q, z⟩ := key p hp
    exact frT_none q z, fun p hp => by
    obtain ⟨_, o, q, z⟩ := key p hp
    rw [q, emptyTab_eq z]⟩
def hookT (as : List Addr) (fa : List Fa) (fn gs : List DefD) (ts : List Tab) (tf : List Defn) (ex : PySem.W.Frag → Bool) : PySem.W.Hook where
  α := AlL
  obs := fun s => lookT as fa fn gs ts tf ex s.heap.get?
  val := fun w => valL fn gs ts w
  says := fun w h => ∃ K : PySem.W.Frag, K.In h ∧ SaysL fa fn gs ts tf ex w h K
  of := fun _ _ e => ⟨_, frT_in, saysL_of e⟩
  keeps := fun _ _ _ z k => z.elim fun K q => ⟨K, PySem.W.Frag.In.keeps q.1 k, ⟨q.2.c, q.2.t, q.2.hd, q.2.out, fun p hp => k _ _ (q.2.empty p hp)⟩⟩
theorem lookT_eq {as : List Addr} {fa : List Fa} {fn gs : List DefD} {ts : List Tab} {tf : List Defn} {ex : PySem.W.Frag → Bool} {g : Addr → Option Obj} {s : Shared} (h : ∀ a, g a = s.heap.get? a) : lookT as fa fn gs ts tf ex g = (hookT as fa fn gs ts tf ex).obs s := by
  obtain rfl : g = s.heap.get? := funext h
  rfl
theorem SaysL.tab {fa : List Fa} {fn gs : List DefD} {ts : List Tab} {tf : List Defn} {ex : PySem.W.Frag → Bool} {w : World} {h : Heap} {K : PySem.W.Frag} (c : SaysL fa fn gs ts tf ex w h K) (i : Nat) {t : Tab} (e : ts[i]? = some t := by rfl) : dicW K (t.1 K) = some (keysIn w.params t.2) := by
  have e2 : (ts.map fun t => dicW K (t.1 K))[i]? = (ts.map fun t => some (keysIn w.params t.2))[i]? := by rw [c.t]
  rw [List.getElem?_map, List.getElem?_map, e] at e2
  exact Option.some.inj e2
end Fx
end

section
set_option Elab.async false
set_option linter.all false
set_option maxRecDepth 100000
set_option maxHeartbeats 4000000
/-! a law's end: tables of code objects, and no repr under way -/
namespace Fx
open PySem PySem.Spec PyProof.Rows L2 LamX
section
variable {P : Program} {w : World} {K : PySem.W.Frag} {mg mb : Str → Option Value} {k : Nat} {f q : Addr} {fd : FuncData} {x : Str} {sp : Sp} {st : Shared} {us : List Value} {is : List Int} {cs : List (Addr × Addr)}
/-- from one abstract heap that tracks the tables and at most the script -/
theorem callTG_core (H : Hp) (inK : K.In st.heap) (glob : st.heap.Ns mainGlobals mg) (blt : st.heap.Ns builtinsNs mb) (bltIs : ∀ x : Str, x ≠ "__name__" → mb x = bootBuiltins x) (noLim : st.heap.NoLimit) (noGen : st.gens = #[])
    (emp : ∀ p ∈ cs, st.heap.get? p.2 = some { cls := .none, data := .fields #[] }) (out : ∀ p ∈ cs, K.lookup p.2 = none) (hd : ∀ p ∈ cs, PySem.W.CodeHd st.heap p.1 p.2)
    (bmod : ∃ (bm : Addr) (ob : Obj), mg "__builtins__" = some (.ref bm) ∧ bm ≠ builtinsNs ∧ st.heap.get? bm = some ob ∧ ob.cls = .type "module" ∧ ob.dict = some builtinsNs ∧ ob.data = .plain)
    (obj : st.heap.get? q = some { cls := .type "list", data := .seq us.toArray }) (room : Room k callerA)
    (F : ∀ base : Heap, K.In base → base.Ns mainGlobals mg → (∀ p ∈ cs, TabB base mg p.1 p.2) → FnOkG P w K mg base CX0 k f fd [x] sp) (bind : ∀ (s : Shared) (u : Value), BindsTo s fd ⟨[u], []⟩ [(x, u)])
    (tabs : ∀ p ∈ cs, H p.2 = some (.tbl #[])) (only : ∀ b, H b = none ∨ (∃ p ∈ cs, p.2 = b) ∨ ∃ o xs, H b = some (.frz o (.lst xs))) (holds : HOk P w H st.heap) (at_ : ∀ b, H b ≠ none → b = q ∨ ∃ p ∈ cs, p.2 = b) (off : H q ≠ none → K.lookup q = none)
    (pr : sp [.ref q] H (fun v _ => v = .bl true) fun _ _ _ => False) :
    codeAny (model P w) callerA (.call (.ref f) ⟨[.ref q], []⟩) (fun r t => r = .ok (.ret (.bool true)) ∧ OldK st.heap t.heap ∧ t.os = st.os ∧ AllBare t.gens) st := by
  -- what is neither the script nor an empty table is not tracked
  have free : ∀ {b : Addr} {o : Obj}, st.heap.get? b = some o → (∀ vs n, o.data ≠ .seq vs n) → o.data ≠ .fields #[] → H b = none := fun {b o} e h1 h2 => Classical.byContradiction fun z => by
    rcases at_ b z with rfl | ⟨p, hp, rfl⟩
    · rw [obj] at e
      cases e
      exact h1 _ _ rfl
    · rw [emp p hp] at e
      cases e
      exact h2 rfl
  have ns : ∀ {b : Addr} {m : Str → Option Value}, st.heap.Ns b m → (hidT st.heap H).Ns b m := fun {b m} z => by
    obtain ⟨o, es, ep, e, d, r⟩ := z
    exact ⟨o, es, ep, hidT_get e (free e (fun vs n y => by rw [d] at y; cases y) (fun y => by rw [d] at y; cases y)), d, r⟩
  have inB : K.In (hidT st.heap H) := fun b o e => by
    refine hidT_get (inK b o e) (Classical.byContradiction fun z => ?_)
    rcases at_ b z with rfl | ⟨p, hp, rfl⟩
    · rw [off z] at e; cases e
    · rw [out p hp] at e; cases e
  have mod : Mod K mg (hidT st.heap H) := by
    obtain ⟨mc, l1, l2⟩ := noLim
    exact ⟨inB, ns glob, ⟨mb, ns blt, bltIs⟩, mc, ns l1, l2⟩
  have TB : ∀ p ∈ cs, TabB (hidT st.heap H) mg p.1 p.2 := fun p hp => by
    have hT := emp p hp
    refine ⟨?_, ?_, fun z => ?_⟩
    · obtain ⟨o, vs, file, tf, flags, tg, inF, text, tt, e1, r1, r2, r3, r4, r5, r6, r7, r8, hne⟩ := hd p hp
      refine ⟨o, vs, file, tf, flags, tg, inF, text, tt, hidT_get e1 (free e1 (fun _ _ y => by rw [r2] at y; cases y) (fun y => ?_)), r1, r2, r3, r4, r5, r6, r7, r8, hne⟩
      rw [r2] at y
      cases y
      simp at r3
    · obtain ⟨bm, ob, b1, b2, b3, b4, b5, b6⟩ := bmod
      refine ⟨bm, ob, b1, b2, fun y => ?_, fun y => ?_, hidT_get b3 (free b3 (fun _ _ y => by rw [b6] at y; cases y) (fun y => by rw [b6] at y; cases y)), b4, b5, b6⟩
      · obtain ⟨o, es, ep, e, d, _⟩ := glob
        rw [y, e] at b3
        cases b3
        rw [d] at b6; cases b6
      · rw [y, hT] at b3
        cases b3
        cases b6
    · obtain ⟨o, es, ep, e, d, _⟩ := glob
      rw [z, hT] at e
      cases e
      cases d
  have env : Env0 P w K mg (hidT st.heap H) callerA [] st H := by
    refine ⟨rfl, mod, fun b o e => of_hidT e, Nat.le_of_eq (hidT_size _ _), trivial, ?_, holds, .of_eq noGen⟩
    intro b hb
    cases (show b ∈ ([] : List Addr) from hb)
  have go := (F _ inB (ns glob) TB).run callerA [] st H ⟨[.ref q], []⟩ [.ref q] [.ref q] _ _ rfl room env (bind st (.ref q)) (.cons rfl .nil) pr
  refine codeAny_mono go ?_
  intro r t h
  match r, h with
  | .error e, h => exact (show False from h).elim
  | .ok .next, h => exact False.elim h
  | .ok .brk, h => exact False.elim h
  | .ok .cont, h => exact False.elim h
  | .ok (.ret u), h =>
    obtain ⟨v, H2, eo, ba, un, ok2, rv, tr⟩ := h
    have tr' : v = .bl true := tr
    subst tr'
    cases (show u = Value.bool true from rv)
    have stay : ∀ b o, (¬ ∃ p ∈ cs, p.2 = b) → st.heap.get? b = some o → t.heap.get? b = some o := fun b o nb e => by
      by_cases hq : H b = none
      · refine un.keep b o e hq ?_ (by simp)
        intro z
        cases (show b ∈ ([] : List Addr) from z)
      · obtain ⟨u, hu⟩ := Option.ne_none_iff_exists'.mp hq
        rcases only b with z | z | ⟨o2, xs, z⟩
        · exact absurd z hq
        · exact absurd z nb
        · have e1 := (holds b _ z).1
          rw [e] at e1
          cases e1
          exact (ok2 b _ (un.frzs b _ _ z)).1
    have grown : ∀ p ∈ cs, ∃ more : Array Value, t.heap.get? p.2 = some { cls := .none, data := .fields more } := fun p hp => by
      obtain ⟨more, z⟩ := un.tbls p.2 #[] (tabs p hp)
      exact ⟨_, ok2 p.2 _ z⟩
    refine ⟨rfl, ⟨fun b o e => ?_, fun b o e => ?_⟩, eo, ba⟩
    · by_cases hb : ∃ p ∈ cs, p.2 = b
      · obtain ⟨p, hp, rfl⟩ := hb
        obtain ⟨more, hm⟩ := grown p hp
        have e2 := emp p hp
        rw [e2] at e
        cases e
        exact .inr (.inl ⟨((hd p hp).tab e2).isCodeTable, rfl, #[], more, rfl, by rw [Array.empty_append]; exact hm⟩)
      · exact .inl (stay b o hb e)
    · by_cases hb : ∃ p ∈ cs, p.2 = b
      · obtain ⟨p, hp, rfl⟩ := hb
        obtain ⟨more, hm⟩ := grown p hp
        exact ⟨_, hm⟩
      · exact ⟨o, stay b o hb e⟩
theorem law_callTG (inK : K.In st.heap) (glob : st.heap.Ns mainGlobals mg) (blt : st.heap.Ns builtinsNs mb) (bltIs : ∀ x : Str, x ≠ "__name__" → mb x = bootBuiltins x) (noLim : st.heap.NoLimit) (noGen : st.gens = #[])
    (emp : ∀ p ∈ cs, st.heap.get? p.2 = some { cls := .none, data := .fields #[] }) (out : ∀ p ∈ cs, K.lookup p.2 = none) (hd : ∀ p ∈ cs, PySem.W.CodeHd st.heap p.1 p.2)
    (bmod : ∃ (bm : Addr) (ob : Obj), mg "__builtins__" = some (.ref bm) ∧ bm ≠ builtinsNs ∧ st.heap.get? bm = some ob ∧ ob.cls = .type "module" ∧ ob.dict = some builtinsNs ∧ ob.data = .plain)
    (obj : st.heap.get? q = some { cls := .type "list", data := .seq us.toArray }) (intsOf : IntsAre us is) (len : is.length ≤ sizeLine) (room : Room k callerA)
    (F : ∀ base : Heap, K.In base → base.Ns mainGlobals mg → (∀ p ∈ cs, TabB base mg p.1 p.2) → FnOkG P w K mg base CX0 k f fd [x] sp) (bind : ∀ (s : Shared) (u : Value), BindsTo s fd ⟨[u], []⟩ [(x, u)])
    (pr : ∀ H : Hp, (∀ p ∈ cs, H p.2 = some (.tbl #[])) → SqL K H q (is.map V.int) → sp [.ref q] H (fun v _ => v = .bl true) fun _ _ _ => False) :
    codeAny (model P w) callerA (.call (.ref f) ⟨[.ref q], []⟩) (fun r t => r = .ok (.ret (.bool true)) ∧ OldK st.heap t.heap ∧ t.os = st.os ∧ AllBare t.gens) st := by
  have rel := vals_ints intsOf
  have same := intsOf.length
  have qT : ∀ p ∈ cs, p.2 ≠ q := fun p hp e => by
    have z := emp p hp
    rw [e, obj] at z
    cases z
  have key : ∀ b, (∃ p ∈ cs, p.2 = b) → st.heap.get? b = some { cls := .none, data := .fields #[] } := fun b ⟨p, hp, e⟩ => e ▸ emp p hp
  let T : Addr → Prop := fun b => ∃ p ∈ cs, p.2 = b
  haveI : DecidablePred T := fun b => Classical.propDecidable _
  by_cases hk : K.lookup q = none
  · let H : Hp := fun b => if b = q then some (.frz { cls := .type "list", data := .seq us.toArray } (.lst (is.map V.int))) else if T b then some (.tbl #[]) else none
    have yes : H q = some (.frz { cls := .type "list", data := .seq us.toArray } (.lst (is.map V.int))) := if_pos rfl
    have tab : ∀ b, T b → H b = some (.tbl #[]) := fun b hb => by
      obtain ⟨p, hp, e⟩ := hb
      have : b ≠ q := e ▸ qT p hp
      exact (if_neg this).trans (if_pos ⟨p, hp, e⟩)
    have no : ∀ b, b ≠ q → ¬ T b → H b = none := fun b n1 n2 => (if_neg n1).trans (if_neg n2)
    refine callTG_core H inK glob blt bltIs noLim noGen emp out hd bmod obj room F bind (fun p hp => tab _ ⟨p, hp, rfl⟩) (fun b => ?_) ?_ (fun b z => ?_) (fun _ => hk) (pr H (fun p hp => tab _ ⟨p, hp, rfl⟩) (.inl (.inr ⟨_, yes⟩)))
    · by_cases h : b = q
      · subst h; exact .inr (.inr ⟨_, _, yes⟩)
      · by_cases h2 : T b
        · exact .inr (.inl h2)
        · exact .inl (no b h h2)
    · intro b u e
      by_cases h : b = q
      · subst h
        rw [yes] at e
        cases e
        exact ⟨obj, by rw [List.length_map]; exact len, us, _, rel, obj⟩
      · by_cases h2 : T b
        · rw [tab b h2] at e
          cases e
          exact key b h2
        · rw [no b h h2] at e
          cases e
    · by_cases h : b = q
      · exact .inl h
      · by_cases h2 : T b
        · exact .inr h2
        · exact absurd (no b h h2) z
  · obtain ⟨o, ho⟩ := Option.ne_none_iff_exists'.mp hk
    have e := inK q o ho
    rw [obj] at e
    cases e
    let H : Hp := fun b => if T b then some (.tbl #[]) else none
    have tab : ∀ b, T b → H b = some (.tbl #[]) := fun b hb => if_pos hb
    have no : ∀ b, ¬ T b → H b = none := fun b n => if_neg n
    have nq : ¬ T q := fun ⟨p, hp, e⟩ => qT p hp e
    refine callTG_core H inK glob blt bltIs noLim noGen emp out hd bmod obj room F bind (fun p hp => tab _ ⟨p, hp, rfl⟩) (fun b => ?_) ?_ (fun b z => ?_) (fun z => absurd (no q nq) z) (pr H (fun p hp => tab _ ⟨p, hp, rfl⟩) ?_)
    · by_cases h2 : T b
      · exact .inr (.inl h2)
      · exact .inl (no b h2)
    · intro b u e
      by_cases h2 : T b
      · rw [tab b h2] at e
        cases e
        exact key b h2
      · rw [no b h2] at e
        cases e
    · by_cases h2 : T b
      · exact .inr h2
      · exact absurd (no b h2) z
    · exact .inr ⟨_, us.toArray, _, ho, rfl, rfl, rfl, by rw [List.size_toArray, same]; exact len, by simpa using rel⟩
end
/-- the end of a law with tables, its promise leaning on no repr being under way -/
theorem walk_ofTG {l : PySem.W.OpenLaw} {n k : Nat} {q : Program} {loose : List Str} {XP : (Str → Option Value) → Heap → Prop} {YP : World → Heap → Prop} {d : DefRec} {x : Str}
    (hn : l.most = some n) (hn2 : n ≤ sizeLine) (hdf : d.params.defaults = []) (hr : Room k callerA)
    (F : ∀ (w : World) (mg : Str → Option Value) (fa : Addr) (h : Heap), YP w h → h.Ns mainGlobals mg → mg d.name = some (.ref fa) →
      ∃ (K : PySem.W.Frag) (fd : FuncData) (cs : List (Addr × Addr)) (sp : Sp), K.In h ∧ (∀ p ∈ cs, h.get? p.2 = some { cls := .none, data := .fields #[] }) ∧ (∀ p ∈ cs, K.lookup p.2 = none) ∧ (∀ p ∈ cs, PySem.W.CodeHd h p.1 p.2) ∧ (∀ (s : Shared) (u : Value), BindsTo s fd ⟨[u], []⟩ [(x, u)]) ∧
        (∀ (H : Hp) (a : Addr) (ns : List Int), ns.length ≤ n → (∀ p ∈ cs, H p.2 = some (.tbl #[])) → SqL K H a (ns.map V.int) → sp [.ref a] H (fun v _ => v = .bl true) fun _ _ _ => False) ∧
        ∀ base : Heap, K.In base → base.Ns mainGlobals mg → (∀ p ∈ cs, TabB base mg p.1 p.2) → FnOkG l.prog w K mg base CX0 k fa fd [x] sp) :
    PySem.W.WalkO q loose XP YP l.row.toRowW d [] (fun f vs => PySem.call f vs) := by
  refine Att.attach_callB hn hdf ?_
  intro w s0 st mg mb fa o pm cd doc a vs ns G Y _ _ _ named obj intsOf len bits noGen
  obtain ⟨K, fd, cs, sp, inK, emp, out, hd, bind, pr, hF⟩ := F w mg fa _ Y G.T.g named
  exact law_callTG inK G.T.g G.T.b G.T.builtins G.T.nolimit noGen emp out hd G.T.bmain obj intsOf (Nat.le_trans len hn2) hr hF bind fun H hT hS => pr H a ns len hT hS
end Fx
end

section
set_option Elab.async false
set_option linter.all false
set_option maxRecDepth 100000
set_option maxHeartbeats 4000000
namespace T85
open PySem PySem.Spec PyProof.Rows L2 Fx LamX
/-- the default of Row's names -/
def rowDfl (K : PySem.W.Frag) : Addr := match K.lookup (He.fAd K ("Row", some "__init__")) with
  | some ⟨_, _, .func fd, _⟩ => (match fd.defaults with
    | .ref T => (match K.lookup T with
      | some ⟨_, _, .seq its _, _⟩ => (match its.toList with
        | .ref a :: _ => a
        | _ => 0)
      | _ => 0)
    | _ => 0)
  | _ => 0
def told : He.Defn := ("_law_told", none)
def tf : List He.Defn := [("_law_book_right", none), ("_law_row_right", none), ("_law_right", none)]
def wordsT : He.Tab := (fun K => He.ga K "RESTS_BY_WORDS", ["2", "3", "4", "6"])
/-- the tables and the names of the lambdas -/
def tabsL (K : PySem.W.Frag) : List (Addr × PySem.Str) := tf.map fun p => ((He.cT K p).2, (p.1 ++ ".<locals>.<lambda>" : PySem.Str))
def top (i : Nat) : Stmt := PySem.Challenge.pw_fixrest_k91_wrong_lines.main.body.getD i (.Pass ⟨0, 0, 0, 0⟩)
abbrev s_is_integer : Stmt := top 20
abbrev N_is_integer : List Str := ["value"]
theorem sc_is_integer : FnScope N_is_integer ["value"] (defScope s_is_integer) := ⟨rfl, rfl, rfl, by decide +kernel, rfl, by decide +kernel, by decide +kernel⟩
abbrev s_is_list : Stmt := top 22
abbrev N_is_list : List Str := ["value"]
theorem sc_is_list : FnScope N_is_list ["value"] (defScope s_is_list) := ⟨rfl, rfl, rfl, by decide +kernel, rfl, by decide +kernel, by decide +kernel⟩
abbrev s_is_name : Stmt := top 23
abbrev N_is_name : List Str := ["value", "sign"]
theorem sc_is_name : FnScope N_is_name ["value"] (defScope s_is_name) := ⟨rfl, rfl, rfl, by decide +kernel, rfl, by decide +kernel, by decide +kernel⟩
abbrev s_want_few_runs : Stmt := top 24
abbrev N_want_few_runs : List Str := ["many"]
theorem sc_want_few_runs : FnScope N_want_few_runs ["many"] (defScope s_want_few_runs) := ⟨rfl, rfl, rfl, by decide +kernel, rfl, by decide +kernel, by decide +kernel⟩
abbrev s_Rowdd_initdd : Stmt := inClass (top 25) 1
abbrev N_Rowdd_initdd : List Str := ["self", "names", "position", "name"]
theorem sc_Rowdd_initdd : FnScope N_Rowdd_initdd ["self", "names"] (defScope s_Rowdd_initdd) := ⟨rfl, rfl, rfl, by decide +kernel, rfl, by decide +kernel, by decide +kernel⟩
abbrev s_Row_names : Stmt := inClass (top 25) 3
abbrev N_Row_names : List Str := ["self"]
theorem sc_Row_names : FnScope N_Row_names ["self"] (defScope s_Row_names) := ⟨rfl, rfl, rfl, by decide +kernel, rfl, by decide +kernel, by decide +kernel⟩
abbrev s_Rowdd_eqdd : Stmt := inClass (top 25) 22
abbrev N_Rowdd_eqdd : List Str := ["self", "other"]
theorem sc_Rowdd_eqdd : FnScope N_Rowdd_eqdd ["self", "other"] (defScope s_Rowdd_eqdd) := ⟨rfl, rfl, rfl, by decide +kernel, rfl, by decide +kernel, by decide +kernel⟩
abbrev s_is_rest : Stmt := top 30
abbrev N_is_rest : List Str := ["value"]
theorem sc_is_rest : FnScope N_is_rest ["value"] (defScope s_is_rest) := ⟨rfl, rfl, rfl, by decide +kernel, rfl, by decide +kernel, by decide +kernel⟩
abbrev s_pairs_among : Stmt := top 34
abbrev N_pairs_among : List Str := ["names", "at", "a", "b"]
theorem sc_pairs_among : FnScope N_pairs_among ["names"] (defScope s_pairs_among) := ⟨rfl, rfl, rfl, by decide +kernel, rfl, by decide +kernel, by decide +kernel⟩
abbrev s_Bookdd_initdd : Stmt := inClass (top 35) 2
abbrev N_Bookdd_initdd : List Str := ["self", "fixers", "rests", "position", "name", "given", "pair"]
theorem sc_Bookdd_initdd : FnScope N_Bookdd_initdd ["self", "fixers", "rests"] (defScope s_Bookdd_initdd) := ⟨rfl, rfl, rfl, by decide +kernel, rfl, by decide +kernel, by decide +kernel⟩
abbrev s_Book_fixers : Stmt := inClass (top 35) 3
abbrev N_Book_fixers : List Str := ["self"]
theorem sc_Book_fixers : FnScope N_Book_fixers ["self"] (defScope s_Book_fixers) := ⟨rfl, rfl, rfl, by decide +kernel, rfl, by decide +kernel, by decide +kernel⟩
abbrev s_Book_pair_of : Stmt := inClass (top 35) 4
abbrev N_Book_pair_of : List Str := ["self", "a", "b", "value"]
theorem sc_Book_pair_of : FnScope N_Book_pair_of ["self", "a", "b"] (defScope s_Book_pair_of) := ⟨rfl, rfl, rfl, by decide +kernel, rfl, by decide +kernel, by decide +kernel⟩
abbrev s_Book_put : Stmt := inClass (top 35) 5
abbrev N_Book_put : List Str := ["self", "a", "b", "rest", "pair"]
theorem sc_Book_put : FnScope N_Book_put ["self", "a", "b", "rest"] (defScope s_Book_put) := ⟨rfl, rfl, rfl, by decide +kernel, rfl, by decide +kernel, by decide +kernel⟩
abbrev s_Book_pairs : Stmt := inClass (top 35) 6
abbrev N_Book_pairs : List Str := ["self", "a", "b"]
theorem sc_Book_pairs : FnScope N_Book_pairs ["self"] (defScope s_Book_pairs) := ⟨rfl, rfl, rfl, by decide +kernel, rfl, by decide +kernel, by decide +kernel⟩
abbrev s_Bookdd_setitemdd : Stmt := inClass (top 35) 12
abbrev N_Bookdd_setitemdd : List Str := ["self", "at", "worth", "a", "b"]
theorem sc_Bookdd_setitemdd : FnScope N_Bookdd_setitemdd ["self", "at", "worth"] (defScope s_Bookdd_setitemdd) := ⟨rfl, rfl, rfl, by decide +kernel, rfl, by decide +kernel, by decide +kernel⟩
abbrev s_InvalidTextdd_initdd : Stmt := inClass (top 8) 0
abbrev N_InvalidTextdd_initdd : List Str := ["self", "line"]
theorem sc_InvalidTextdd_initdd : FnScope N_InvalidTextdd_initdd ["self", "line"] (defScope s_InvalidTextdd_initdd) := ⟨rfl, rfl, rfl, by decide +kernel, rfl, by decide +kernel, by decide +kernel⟩
abbrev s_row_in : Stmt := top 40
abbrev N_row_in : List Str := ["text", "names", "name"]
theorem sc_row_in : FnScope N_row_in ["text"] (defScope s_row_in) := ⟨rfl, rfl, rfl, by decide +kernel, rfl, by decide +kernel, by decide +kernel⟩
abbrev s_read_row : Stmt := top 41
abbrev N_read_row : List Str := ["text", "row"]
theorem sc_read_row : FnScope N_read_row ["text"] (defScope s_read_row) := ⟨rfl, rfl, rfl, by decide +kernel, rfl, by decide +kernel, by decide +kernel⟩
abbrev s_book_text : Stmt := top 42
abbrev N_book_text : List Str := ["book", "lines", "a", "b", "rest", "line"]
theorem sc_book_text : FnScope N_book_text ["book"] (defScope s_book_text) := ⟨rfl, rfl, rfl, by decide +kernel, rfl, by decide +kernel, by decide +kernel⟩
abbrev s_fixers_in : Stmt := top 43
abbrev N_fixers_in : List Str := ["line", "word", "names", "name"]
theorem sc_fixers_in : FnScope N_fixers_in ["line"] (defScope s_fixers_in) := ⟨rfl, rfl, rfl, by decide +kernel, rfl, by decide +kernel, by decide +kernel⟩
abbrev s_fact_in : Stmt := top 44
abbrev N_fact_in : List Str := ["line", "fixers", "words"]
theorem sc_fact_in : FnScope N_fact_in ["line", "fixers"] (defScope s_fact_in) := ⟨rfl, rfl, rfl, by decide +kernel, rfl, by decide +kernel, by decide +kernel⟩
abbrev s_put_facts : Stmt := top 45
abbrev N_put_facts : List Str := ["book", "lines", "last", "number", "line", "fact"]
theorem sc_put_facts : FnScope N_put_facts ["book", "lines"] (defScope s_put_facts) := ⟨rfl, rfl, rfl, by decide +kernel, rfl, by decide +kernel, by decide +kernel⟩
abbrev s_read_book : Stmt := top 46
abbrev N_read_book : List Str := ["text", "whole", "rest", "fixers", "found"]
theorem sc_read_book : FnScope N_read_book ["text"] (defScope s_read_book) := ⟨rfl, rfl, rfl, by decide +kernel, rfl, by decide +kernel, by decide +kernel⟩
abbrev s__law_pot : Stmt := top 48
abbrev N__law_pot : List Str := ["_law_script", "_law_k", "_law_cell"]
theorem sc__law_pot : FnScope N__law_pot ["_law_script", "_law_k"] (defScope s__law_pot) := ⟨rfl, rfl, rfl, by decide +kernel, rfl, by decide +kernel, by decide +kernel⟩
abbrev s__law_draw : Stmt := top 49
abbrev N__law_draw : List Str := ["_law_pot_here", "_law_many", "_law_digit"]
theorem sc__law_draw : FnScope N__law_draw ["_law_pot_here", "_law_many"] (defScope s__law_draw) := ⟨rfl, rfl, rfl, by decide +kernel, rfl, by decide +kernel, by decide +kernel⟩
abbrev s__law_pick : Stmt := top 50
abbrev N__law_pick : List Str := ["_law_pot_here", "_law_some"]
theorem sc__law_pick : FnScope N__law_pick ["_law_pot_here", "_law_some"] (defScope s__law_pick) := ⟨rfl, rfl, rfl, by decide +kernel, rfl, by decide +kernel, by decide +kernel⟩
abbrev s__law_names : Stmt := top 51
abbrev N__law_names : List Str := ["_law_pot_here", "_law_many", "_law_letters", "_law_found", "_law_turn", "_law_word", "_law_sign", "_law_spare", "_law_letter", "_law_one"]
theorem sc__law_names : FnScope N__law_names ["_law_pot_here", "_law_many"] (defScope s__law_names) := ⟨rfl, rfl, rfl, by decide +kernel, rfl, by decide +kernel, by decide +kernel⟩
abbrev s__law_drawn_book : Stmt := top 52
abbrev N__law_drawn_book : List Str := ["_law_pot_here", "_law_most", "_law_names_here", "_law_facts", "_law_tome", "_law_at", "_law_this", "_law_that", "_law_fact"]
theorem sc__law_drawn_book : FnScope N__law_drawn_book ["_law_pot_here", "_law_most"] (defScope s__law_drawn_book) := ⟨rfl, rfl, rfl, by decide +kernel, rfl, by decide +kernel, by decide +kernel⟩
abbrev s__law_is_name : Stmt := top 53
abbrev N__law_is_name : List Str := ["_law_word", "_law_sign"]
theorem sc__law_is_name : FnScope N__law_is_name ["_law_word"] (defScope s__law_is_name) := ⟨rfl, rfl, rfl, by decide +kernel, rfl, by decide +kernel, by decide +kernel⟩
abbrev s__law_lines : Stmt := top 54
abbrev N__law_lines : List Str := ["_law_text", "_law_found", "_law_line", "_law_sign"]
theorem sc__law_lines : FnScope N__law_lines ["_law_text"] (defScope s__law_lines) := ⟨rfl, rfl, rfl, by decide +kernel, rfl, by decide +kernel, by decide +kernel⟩
abbrev s__law_meant : Stmt := top 55
abbrev N__law_meant : List Str := ["_law_text", "_law_names_here", "_law_facts", "_law_last", "_law_place", "_law_line", "_law_words", "_law_is_right", "_law_word"]
theorem sc__law_meant : FnScope N__law_meant ["_law_text"] (defScope s__law_meant) := ⟨rfl, rfl, rfl, by decide +kernel, rfl, by decide +kernel, by decide +kernel⟩
abbrev s__law_bent : Stmt := top 57
abbrev N__law_bent : List Str := ["_law_pot_here", "_law_text", "_law_names_here", "_law_at", "_law_way", "_law_lines_here", "_law_put", "_law_spot", "_law_ahead", "_law_later", "_law_two", "_law_more", "_law_found"]
theorem sc__law_bent : FnScope N__law_bent ["_law_pot_here", "_law_text", "_law_names_here"] (defScope s__law_bent) := ⟨rfl, rfl, rfl, by decide +kernel, rfl, by decide +kernel, by decide +kernel⟩
abbrev s__law_book_right : Stmt := top 58
abbrev N__law_book_right : List Str := ["_law_text", "_law_due", "_law_told_here", "_law_names_here", "_law_facts", "_law_pairs", "_law_pair"]
theorem sc__law_book_right : FnScope N__law_book_right ["_law_text"] (defScope s__law_book_right) := ⟨rfl, rfl, rfl, by decide +kernel, rfl, by decide +kernel, by decide +kernel⟩
abbrev s__law_row_right : Stmt := top 59
abbrev N__law_row_right : List Str := ["_law_text", "_law_told_here", "_law_words", "_law_word"]
theorem sc__law_row_right : FnScope N__law_row_right ["_law_text"] (defScope s__law_row_right) := ⟨rfl, rfl, rfl, by decide +kernel, rfl, by decide +kernel, by decide +kernel⟩
abbrev s__law_right : Stmt := top 60
abbrev N__law_right : List Str := ["_law_pot_here", "_law_names_here", "_law_facts", "_law_tome", "_law_text", "_law_turn", "_law_bent_here", "_law_more", "_law_runs", "_law_k", "_law_odd", "_law_told_here", "_law_nine", "_law_seven"]
theorem sc__law_right : FnScope N__law_right ["_law_pot_here"] (defScope s__law_right) := ⟨rfl, rfl, rfl, by decide +kernel, rfl, by decide +kernel, by decide +kernel⟩
abbrev s_law : Stmt := top 61
abbrev N_law : List Str := ["_law_script", "_law_k"]
theorem sc_law : FnScope N_law ["_law_script"] (defScope s_law) := ⟨rfl, rfl, rfl, by decide +kernel, rfl, by decide +kernel, by decide +kernel⟩
abbrev s__law_told : Stmt := top 56
abbrev N__law_told : List Str := ["_law_call", "e"]
theorem sc__law_told : FnScope N__law_told ["_law_call"] (defScope s__law_told) := ⟨rfl, rfl, rfl, by decide +kernel, rfl, by decide +kernel, by decide +kernel⟩
def gsl : List He.DefD := [⟨("Row", some "names"), "names", "Row.names", defArgs s_Row_names, defBody s_Row_names, defScope s_Row_names, [], []⟩, ⟨("Book", some "fixers"), "fixers", "Book.fixers", defArgs s_Book_fixers, defBody s_Book_fixers, defScope s_Book_fixers, [], []⟩]
def fn : List He.DefD := [
  ⟨("is_integer", none), "is_integer", "is_integer", defArgs s_is_integer, defBody s_is_integer, defScope s_is_integer, [], []⟩,
  ⟨("is_list", none), "is_list", "is_list", defArgs s_is_list, defBody s_is_list, defScope s_is_list, [], []⟩,
  ⟨("is_name", none), "is_name", "is_name", defArgs s_is_name, defBody s_is_name, defScope s_is_name, [], []⟩,
  ⟨("want_few_runs", none), "want_few_runs", "want_few_runs", defArgs s_want_few_runs, defBody s_want_few_runs, defScope s_want_few_runs, [], []⟩,
  ⟨("Row", some "__init__"), "__init__", "Row.__init__", defArgs s_Rowdd_initdd, defBody s_Rowdd_initdd, defScope s_Rowdd_initdd, [.adr rowDfl], []⟩,
  ⟨("Row", some "__eq__"), "__eq__", "Row.__eq__", defArgs s_Rowdd_eqdd, defBody s_Rowdd_eqdd, defScope s_Rowdd_eqdd, [], []⟩,
  ⟨("is_rest", none), "is_rest", "is_rest", defArgs s_is_rest, defBody s_is_rest, defScope s_is_rest, [], []⟩,
  ⟨("pairs_among", none), "pairs_among", "pairs_among", defArgs s_pairs_among, defBody s_pairs_among, defScope s_pairs_among, [], []⟩,
  ⟨("Book", some "__init__"), "__init__", "Book.__init__", defArgs s_Bookdd_initdd, defBody s_Bookdd_initdd, defScope s_Bookdd_initdd, [.non], []⟩,
  ⟨("Book", some "pair_of"), "pair_of", "Book.pair_of", defArgs s_Book_pair_of, defBody s_Book_pair_of, defScope s_Book_pair_of, [], []⟩,
  ⟨("Book", some "put"), "put", "Book.put", defArgs s_Book_put, defBody s_Book_put, defScope s_Book_put, [], []⟩,
  ⟨("Book", some "pairs"), "pairs", "Book.pairs", defArgs s_Book_pairs, defBody s_Book_pairs, defScope s_Book_pairs, [], []⟩,
  ⟨("Book", some "__setitem__"), "__setitem__", "Book.__setitem__", defArgs s_Bookdd_setitemdd, defBody s_Bookdd_setitemdd, defScope s_Bookdd_setitemdd, [], []⟩,
  ⟨("InvalidText", some "__init__"), "__init__", "InvalidText.__init__", defArgs s_InvalidTextdd_initdd, defBody s_InvalidTextdd_initdd, defScope s_InvalidTextdd_initdd, [], []⟩,
  ⟨("row_in", none), "row_in", "row_in", defArgs s_row_in, defBody s_row_in, defScope s_row_in, [], []⟩,
  ⟨("read_row", none), "read_row", "read_row", defArgs s_read_row, defBody s_read_row, defScope s_read_row, [], []⟩,
  ⟨("book_text", none), "book_text", "book_text", defArgs s_book_text, defBody s_book_text, defScope s_book_text, [], []⟩,
  ⟨("fixers_in", none), "fixers_in", "fixers_in", defArgs s_fixers_in, defBody s_fixers_in, defScope s_fixers_in, [], []⟩,
  ⟨("fact_in", none), "fact_in", "fact_in", defArgs s_fact_in, defBody s_fact_in, defScope s_fact_in, [], []⟩,
  ⟨("put_facts", none), "put_facts", "put_facts", defArgs s_put_facts, defBody s_put_facts, defScope s_put_facts, [], []⟩,
  ⟨("read_book", none), "read_book", "read_book", defArgs s_read_book, defBody s_read_book, defScope s_read_book, [], []⟩,
  ⟨("_law_pot", none), "_law_pot", "_law_pot", defArgs s__law_pot, defBody s__law_pot, defScope s__law_pot, [], []⟩,
  ⟨("_law_draw", none), "_law_draw", "_law_draw", defArgs s__law_draw, defBody s__law_draw, defScope s__law_draw, [], []⟩,
  ⟨("_law_pick", none), "_law_pick", "_law_pick", defArgs s__law_pick, defBody s__law_pick, defScope s__law_pick, [], []⟩,
  ⟨("_law_names", none), "_law_names", "_law_names", defArgs s__law_names, defBody s__law_names, defScope s__law_names, [], []⟩,
  ⟨("_law_drawn_book", none), "_law_drawn_book", "_law_drawn_book", defArgs s__law_drawn_book, defBody s__law_drawn_book, defScope s__law_drawn_book, [], []⟩,
  ⟨("_law_is_name", none), "_law_is_name", "_law_is_name", defArgs s__law_is_name, defBody s__law_is_name, defScope s__law_is_name, [], []⟩,
  ⟨("_law_lines", none), "_law_lines", "_law_lines", defArgs s__law_lines, defBody s__law_lines, defScope s__law_lines, [], []⟩,
  ⟨("_law_meant", none), "_law_meant", "_law_meant", defArgs s__law_meant, defBody s__law_meant, defScope s__law_meant, [], []⟩,
  ⟨("_law_bent", none), "_law_bent", "_law_bent", defArgs s__law_bent, defBody s__law_bent, defScope s__law_bent, [], []⟩,
  ⟨("_law_book_right", none), "_law_book_right", "_law_book_right", defArgs s__law_book_right, defBody s__law_book_right, defScope s__law_book_right, [], []⟩,
  ⟨("_law_row_right", none), "_law_row_right", "_law_row_right", defArgs s__law_row_right, defBody s__law_row_right, defScope s__law_row_right, [], []⟩,
  ⟨("_law_right", none), "_law_right", "_law_right", defArgs s__law_right, defBody s__law_right, defScope s__law_right, [], []⟩,
  ⟨("law", none), "law", "law", defArgs s_law, defBody s_law, defScope s_law, [], []⟩,
  ⟨("_law_told", none), "_law_told", "_law_told", defArgs s__law_told, defBody s__law_told, defScope s__law_told, [], []⟩]
def fa0 : List He.Fa := [.free "isinstance", .free "int", .free "bool", .free "list", .free "tuple", .free "str", .free "len", .int "MOST_LETTERS" (8), .str "LETTERS" "abcdefghijklmnopqrstuvwxyz", .free "all", .int "MOST_RUNS" (400), .glo "is_list", .free "enumerate", .glo "is_name", .glo "want_few_runs", .noat "Row" "own_names", .glo "Row", .glo "is_integer", .glo "TOLD_RESTS", .int "MOST_FIXERS_books" (6), .free "sorted", .noat "Book" "own_fixers", .glo "pairs_among", .meth "Book" "pair_of", .cls "Book", .glo "is_rest", .noat "Book" "own_rests", .meth "Book" "put", .str "EMPTY" "-", .free "zip"]
def fa1 : List He.Fa := [.glo "InvalidText", .glo "row_in", .str "FIRST_WORD" "fixers", .meth "Book" "pairs", .free "set", .glo "fact_in", .glo "fixers_in", .mkr "Book", .glo "Book", .glo "put_facts", .free "abs", .free "max", .free "divmod", .glo "_law_draw", .free "range", .glo "_law_pick", .glo "_law_names", .meth "Book" "__setitem__", .glo "_law_lines", .glo "_law_meant", .glo "_law_drawn_book", .glo "book_text", .glo "_law_book_right", .glo "_law_bent", .glo "_law_row_right", .mkr "Row", .cls "Row", .free "min", .glo "_law_pot", .glo "_law_right"]
def fa2 : List He.Fa := [.glo "RESTS_BY_WORDS", .glo "_law_is_name", .glo "read_book", .free "repr", .glo "read_row", .meth "Row" "__eq__", .glo "law", .glo "_law_told", .glo "FixError"]
def fa : List He.Fa := fa0 ++ fa1 ++ fa2
def clsOk (K : PySem.W.Frag) (C : Addr) : Bool := decide (PySem.W.findIn K (.ref C) "__class__" = some (some (.builtin "object.__class__"))) && (decide (PySem.W.specialIn K (.builtin "object.__class__") "__get__" = some (some (.builtin "getset_descriptor.__get__"))) &&
  (decide (PySem.W.takesIn K (.builtin "object.__class__") = some true) && decide (PySem.W.mroIn K C (.type "object") = some true)))
def tabsNe (K : PySem.W.Frag) : Bool := decide ((He.cT K ("_law_book_right", none)).2 ≠ (He.cT K ("_law_row_right", none)).2) && (decide ((He.cT K ("_law_book_right", none)).2 ≠ (He.cT K ("_law_right", none)).2) && decide ((He.cT K ("_law_row_right", none)).2 ≠ (He.cT K ("_law_right", none)).2))
def excs (K : PySem.W.Frag) : Bool := oexB K (He.ga K "InvalidText") (He.fAd K ("InvalidText", some "__init__")) && (excB K (He.ga K "InvalidText") && (decide (PySem.W.findIn K (.ref (He.ga K "InvalidText")) "line" = some none) &&
  (decide (PySem.W.kitOne K (.ref (He.ga K "InvalidText")) (.ref (He.ga K "FixError")) = some true) && decide (PySem.W.exmOne K (.ref (He.ga K "InvalidText")) (.ref (He.ga K "InvalidText")) = some true))))
def chkK (K : PySem.W.Frag) : Bool := PySem.W.noSeq K (He.ga K "Book") && (He.tupB K "TOLD_RESTS" [.int 2, .int 3, .int 4, .int 6] && (clsOk K (He.ga K "Book") && (clsOk K (He.ga K "Row") && (tupIn K (rowDfl K) [] && (tabsNe K && (excs K && (He.valsB K (He.ga K "RESTS_BY_WORDS") [("2", .int 2), ("3", .int 3), ("4", .int 4), ("6", .int 6)] && (decide (PySem.W.kitOne K (.ref (He.ga K "Row")) (.type "str") = some false) && decide (PySem.W.kitOne K (.ref (He.ga K "Book")) (.type "str") = some false)))))))))
def chk : PySem.W.Frag → Bool := chkK
/-- what the walk knows of the top -/
structure Says (w : World) (K : PySem.W.Frag) (mg : Str → Option Value) : Prop where
  tb : He.dicW K (He.ga K "RESTS_BY_WORDS") = some (He.keysIn w.params ["2", "3", "4", "6"])
  c : obsE fa fn gsl chk K = valE fn gsl
  m : ∃ h : Heap, K.In h ∧ h.Ns mainGlobals mg
section
variable {w : World} {K : PySem.W.Frag} {mg : Str → Option Value}
theorem Says.glo_ (T : Says w K mg) (i : Nat) {x : Str} (h : fa[i]? = some (.glo x) := by rfl) : mg x = some (.ref (He.ga K x)) := let ⟨_, X, G⟩ := T.m; He.glo_ok X G (saysE_fact T.c i h)
theorem Says.free_ (T : Says w K mg) (i : Nat) {x : Str} (h : fa[i]? = some (.free x) := by rfl) : mg x = none := let ⟨_, X, G⟩ := T.m; He.free_ok X G (saysE_fact T.c i h)
theorem Says.int_ (T : Says w K mg) (i : Nat) {x : Str} {n : Int} (h : fa[i]? = some (.int x n) := by rfl) : ∃ t, mg x = some (.int n t) := let ⟨_, X, G⟩ := T.m; He.int_ok X G (saysE_fact T.c i h)
theorem Says.str_ (T : Says w K mg) (i : Nat) {x z : Str} (h : fa[i]? = some (.str x z) := by rfl) : ∃ t, mg x = some (.str z t) := let ⟨_, X, G⟩ := T.m; He.str_ok X G (saysE_fact T.c i h)
theorem Says.cls_ (T : Says w K mg) (i : Nat) {x : Str} (h : fa[i]? = some (.cls x) := by rfl) : Cls K (He.ga K x) := He.cls_ok (saysE_fact T.c i h)
theorem Says.noat_ (T : Says w K mg) (i : Nat) {x f : Str} (h : fa[i]? = some (.noat x f) := by rfl) : NoAttr K (He.ga K x) f := He.noat_ok (saysE_fact T.c i h)
theorem Says.meth_ (T : Says w K mg) (i : Nat) {x m : Str} (h : fa[i]? = some (.meth x m) := by rfl) : Meth K (He.ga K x) m (He.ma K (He.ga K x) m) := He.meth_ok (saysE_fact T.c i h)
theorem Says.mkr_ (T : Says w K mg) (i : Nat) {x : Str} (h : fa[i]? = some (.mkr x) := by rfl) : Mk K (He.ga K x) (He.ma K (He.ga K x) "__init__") := He.mkr_ok (saysE_fact T.c i h)
theorem Says.chk_ (T : Says w K mg) : chk K = true := (saysE_all T.c).2.2.2
theorem na_Row_own_names (T : Says w K mg) : NoAttr K (He.ga K "Row") "own_names" := T.noat_ 15
theorem na_Book_own_fixers (T : Says w K mg) : NoAttr K (He.ga K "Book") "own_fixers" := T.noat_ 21
theorem cl_Book (T : Says w K mg) : Cls K (He.ga K "Book") := T.cls_ 24
theorem na_Book_own_rests (T : Says w K mg) : NoAttr K (He.ga K "Book") "own_rests" := T.noat_ 26
theorem cl_Row (T : Says w K mg) : Cls K (He.ga K "Row") := T.cls_ 56
theorem d_is_integer (T : Says w K mg) : FunD K "is_integer" "is_integer" (defArgs s_is_integer) (defBody s_is_integer) (defScope s_is_integer) (([] : List He.Dv).map (He.Dv.v K)) [] (He.fAd K ("is_integer", none)) (fdOf K (He.fAd K ("is_integer", none))) := saysE_def T.c 0
theorem b_is_integer (T : Says w K mg) : Binds K (fdOf K (He.fAd K ("is_integer", none))) ["value"] [] := (d_is_integer T).bindsN fun _ _ _ _ _ _ us hl => match us, hl with | [_], _ => rfl
theorem d_is_list (T : Says w K mg) : FunD K "is_list" "is_list" (defArgs s_is_list) (defBody s_is_list) (defScope s_is_list) (([] : List He.Dv).map (He.Dv.v K)) [] (He.fAd K ("is_list", none)) (fdOf K (He.fAd K ("is_list", none))) := saysE_def T.c 1
theorem b_is_list (T : Says w K mg) : Binds K (fdOf K (He.fAd K ("is_list", none))) ["value"] [] := (d_is_list T).bindsN fun _ _ _ _ _ _ us hl => match us, hl with | [_], _ => rfl
theorem d_is_name (T : Says w K mg) : FunD K "is_name" "is_name" (defArgs s_is_name) (defBody s_is_name) (defScope s_is_name) (([] : List He.Dv).map (He.Dv.v K)) [] (He.fAd K ("is_name", none)) (fdOf K (He.fAd K ("is_name", none))) := saysE_def T.c 2
theorem b_is_name (T : Says w K mg) : Binds K (fdOf K (He.fAd K ("is_name", none))) ["value"] [] := (d_is_name T).bindsN fun _ _ _ _ _ _ us hl => match us, hl with | [_], _ => rfl
theorem d_want_few_runs (T : Says w K mg) : FunD K "want_few_runs" "want_few_runs" (defArgs s_want_few_runs) (defBody s_want_few_runs) (defScope s_want_few_runs) (([] : List He.Dv).map (He.Dv.v K)) [] (He.fAd K ("want_few_runs", none)) (fdOf K (He.fAd K ("want_few_runs", none))) := saysE_def T.c 3
theorem b_want_few_runs (T : Says w K mg) : Binds K (fdOf K (He.fAd K ("want_few_runs", none))) ["many"] [] := (d_want_few_runs T).bindsN fun _ _ _ _ _ _ us hl => match us, hl with | [_], _ => rfl
theorem d_Rowdd_initdd (T : Says w K mg) : FunD K "__init__" "Row.__init__" (defArgs s_Rowdd_initdd) (defBody s_Rowdd_initdd) (defScope s_Rowdd_initdd) (([.adr rowDfl] : List He.Dv).map (He.Dv.v K)) [] (He.fAd K ("Row", some "__init__")) (fdOf K (He.fAd K ("Row", some "__init__"))) := saysE_def T.c 4
theorem d_Rowdd_eqdd (T : Says w K mg) : FunD K "__eq__" "Row.__eq__" (defArgs s_Rowdd_eqdd) (defBody s_Rowdd_eqdd) (defScope s_Rowdd_eqdd) (([] : List He.Dv).map (He.Dv.v K)) [] (He.fAd K ("Row", some "__eq__")) (fdOf K (He.fAd K ("Row", some "__eq__"))) := saysE_def T.c 5
theorem b_Rowdd_eqdd (T : Says w K mg) : Binds K (fdOf K (He.fAd K ("Row", some "__eq__"))) ["self", "other"] [] := (d_Rowdd_eqdd T).bindsN fun _ _ _ _ _ _ us hl => match us, hl with | [_, _], _ => rfl
theorem d_is_rest (T : Says w K mg) : FunD K "is_rest" "is_rest" (defArgs s_is_rest) (defBody s_is_rest) (defScope s_is_rest) (([] : List He.Dv).map (He.Dv.v K)) [] (He.fAd K ("is_rest", none)) (fdOf K (He.fAd K ("is_rest", none))) := saysE_def T.c 6
theorem b_is_rest (T : Says w K mg) : Binds K (fdOf K (He.fAd K ("is_rest", none))) ["value"] [] := (d_is_rest T).bindsN fun _ _ _ _ _ _ us hl => match us, hl with | [_], _ => rfl
theorem d_pairs_among (T : Says w K mg) : FunD K "pairs_among" "pairs_among" (defArgs s_pairs_among) (defBody s_pairs_among) (defScope s_pairs_among) (([] : List He.Dv).map (He.Dv.v K)) [] (He.fAd K ("pairs_among", none)) (fdOf K (He.fAd K ("pairs_among", none))) := saysE_def T.c 7
theorem b_pairs_among (T : Says w K mg) : Binds K (fdOf K (He.fAd K ("pairs_among", none))) ["names"] [] := (d_pairs_among T).bindsN fun _ _ _ _ _ _ us hl => match us, hl with | [_], _ => rfl
theorem d_Bookdd_initdd (T : Says w K mg) : FunD K "__init__" "Book.__init__" (defArgs s_Bookdd_initdd) (defBody s_Bookdd_initdd) (defScope s_Bookdd_initdd) (([.non] : List He.Dv).map (He.Dv.v K)) [] (He.fAd K ("Book", some "__init__")) (fdOf K (He.fAd K ("Book", some "__init__"))) := saysE_def T.c 8
theorem d_Book_pair_of (T : Says w K mg) : FunD K "pair_of" "Book.pair_of" (defArgs s_Book_pair_of) (defBody s_Book_pair_of) (defScope s_Book_pair_of) (([] : List He.Dv).map (He.Dv.v K)) [] (He.fAd K ("Book", some "pair_of")) (fdOf K (He.fAd K ("Book", some "pair_of"))) := saysE_def T.c 9
theorem b_Book_pair_of (T : Says w K mg) : Binds K (fdOf K (He.fAd K ("Book", some "pair_of"))) ["self", "a", "b"] [] := (d_Book_pair_of T).bindsN fun _ _ _ _ _ _ us hl => match us, hl with | [_, _, _], _ => rfl
theorem d_Book_put (T : Says w K mg) : FunD K "put" "Book.put" (defArgs s_Book_put) (defBody s_Book_put) (defScope s_Book_put) (([] : List He.Dv).map (He.Dv.v K)) [] (He.fAd K ("Book", some "put")) (fdOf K (He.fAd K ("Book", some "put"))) := saysE_def T.c 10
theorem b_Book_put (T : Says w K mg) : Binds K (fdOf K (He.fAd K ("Book", some "put"))) ["self", "a", "b", "rest"] [] := (d_Book_put T).bindsN fun _ _ _ _ _ _ us hl => match us, hl with | [_, _, _, _], _ => rfl
theorem d_Book_pairs (T : Says w K mg) : FunD K "pairs" "Book.pairs" (defArgs s_Book_pairs) (defBody s_Book_pairs) (defScope s_Book_pairs) (([] : List He.Dv).map (He.Dv.v K)) [] (He.fAd K ("Book", some "pairs")) (fdOf K (He.fAd K ("Book", some "pairs"))) := saysE_def T.c 11
theorem b_Book_pairs (T : Says w K mg) : Binds K (fdOf K (He.fAd K ("Book", some "pairs"))) ["self"] [] := (d_Book_pairs T).bindsN fun _ _ _ _ _ _ us hl => match us, hl with | [_], _ => rfl
theorem d_Bookdd_setitemdd (T : Says w K mg) : FunD K "__setitem__" "Book.__setitem__" (defArgs s_Bookdd_setitemdd) (defBody s_Bookdd_setitemdd) (defScope s_Bookdd_setitemdd) (([] : List He.Dv).map (He.Dv.v K)) [] (He.fAd K ("Book", some "__setitem__")) (fdOf K (He.fAd K ("Book", some "__setitem__"))) := saysE_def T.c 12
theorem b_Bookdd_setitemdd (T : Says w K mg) : Binds K (fdOf K (He.fAd K ("Book", some "__setitem__"))) ["self", "at", "worth"] [] := (d_Bookdd_setitemdd T).bindsN fun _ _ _ _ _ _ us hl => match us, hl with | [_, _, _], _ => rfl
theorem d_InvalidTextdd_initdd (T : Says w K mg) : FunD K "__init__" "InvalidText.__init__" (defArgs s_InvalidTextdd_initdd) (defBody s_InvalidTextdd_initdd) (defScope s_InvalidTextdd_initdd) (([] : List He.Dv).map (He.Dv.v K)) [] (He.fAd K ("InvalidText", some "__init__")) (fdOf K (He.fAd K ("InvalidText", some "__init__"))) := saysE_def T.c 13
theorem b_InvalidTextdd_initdd (T : Says w K mg) : Binds K (fdOf K (He.fAd K ("InvalidText", some "__init__"))) ["self", "line"] [] := (d_InvalidTextdd_initdd T).bindsN fun _ _ _ _ _ _ us hl => match us, hl with | [_, _], _ => rfl
theorem d_row_in (T : Says w K mg) : FunD K "row_in" "row_in" (defArgs s_row_in) (defBody s_row_in) (defScope s_row_in) (([] : List He.Dv).map (He.Dv.v K)) [] (He.fAd K ("row_in", none)) (fdOf K (He.fAd K ("row_in", none))) := saysE_def T.c 14
theorem b_row_in (T : Says w K mg) : Binds K (fdOf K (He.fAd K ("row_in", none))) ["text"] [] := (d_row_in T).bindsN fun _ _ _ _ _ _ us hl => match us, hl with | [_], _ => rfl
theorem d_read_row (T : Says w K mg) : FunD K "read_row" "read_row" (defArgs s_read_row) (defBody s_read_row) (defScope s_read_row) (([] : List He.Dv).map (He.Dv.v K)) [] (He.fAd K ("read_row", none)) (fdOf K (He.fAd K ("read_row", none))) := saysE_def T.c 15
theorem b_read_row (T : Says w K mg) : Binds K (fdOf K (He.fAd K ("read_row", none))) ["text"] [] := (d_read_row T).bindsN fun _ _ _ _ _ _ us hl => match us, hl with | [_], _ => rfl
theorem d_book_text (T : Says w K mg) : FunD K "book_text" "book_text" (defArgs s_book_text) (defBody s_book_text) (defScope s_book_text) (([] : List He.Dv).map (He.Dv.v K)) [] (He.fAd K ("book_text", none)) (fdOf K (He.fAd K ("book_text", none))) := saysE_def T.c 16
theorem b_book_text (T : Says w K mg) : Binds K (fdOf K (He.fAd K ("book_text", none))) ["book"] [] := (d_book_text T).bindsN fun _ _ _ _ _ _ us hl => match us, hl with | [_], _ => rfl
theorem d_fixers_in (T : Says w K mg) : FunD K "fixers_in" "fixers_in" (defArgs s_fixers_in) (defBody s_fixers_in) (defScope s_fixers_in) (([] : List He.Dv).map (He.Dv.v K)) [] (He.fAd K ("fixers_in", none)) (fdOf K (He.fAd K ("fixers_in", none))) := saysE_def T.c 17
theorem b_fixers_in (T : Says w K mg) : Binds K (fdOf K (He.fAd K ("fixers_in", none))) ["line"] [] := (d_fixers_in T).bindsN fun _ _ _ _ _ _ us hl => match us, hl with | [_], _ => rfl
theorem d_fact_in (T : Says w K mg) : FunD K "fact_in" "fact_in" (defArgs s_fact_in) (defBody s_fact_in) (defScope s_fact_in) (([] : List He.Dv).map (He.Dv.v K)) [] (He.fAd K ("fact_in", none)) (fdOf K (He.fAd K ("fact_in", none))) := saysE_def T.c 18
theorem b_fact_in (T : Says w K mg) : Binds K (fdOf K (He.fAd K ("fact_in", none))) ["line", "fixers"] [] := (d_fact_in T).bindsN fun _ _ _ _ _ _ us hl => match us, hl with | [_, _], _ => rfl
theorem d_put_facts (T : Says w K mg) : FunD K "put_facts" "put_facts" (defArgs s_put_facts) (defBody s_put_facts) (defScope s_put_facts) (([] : List He.Dv).map (He.Dv.v K)) [] (He.fAd K ("put_facts", none)) (fdOf K (He.fAd K ("put_facts", none))) := saysE_def T.c 19
theorem b_put_facts (T : Says w K mg) : Binds K (fdOf K (He.fAd K ("put_facts", none))) ["book", "lines"] [] := (d_put_facts T).bindsN fun _ _ _ _ _ _ us hl => match us, hl with | [_, _], _ => rfl
theorem d_read_book (T : Says w K mg) : FunD K "read_book" "read_book" (defArgs s_read_book) (defBody s_read_book) (defScope s_read_book) (([] : List He.Dv).map (He.Dv.v K)) [] (He.fAd K ("read_book", none)) (fdOf K (He.fAd K ("read_book", none))) := saysE_def T.c 20
theorem b_read_book (T : Says w K mg) : Binds K (fdOf K (He.fAd K ("read_book", none))) ["text"] [] := (d_read_book T).bindsN fun _ _ _ _ _ _ us hl => match us, hl with | [_], _ => rfl
theorem d__law_pot (T : Says w K mg) : FunD K "_law_pot" "_law_pot" (defArgs s__law_pot) (defBody s__law_pot) (defScope s__law_pot) (([] : List He.Dv).map (He.Dv.v K)) [] (He.fAd K ("_law_pot", none)) (fdOf K (He.fAd K ("_law_pot", none))) := saysE_def T.c 21
theorem b__law_pot (T : Says w K mg) : Binds K (fdOf K (He.fAd K ("_law_pot", none))) ["_law_script", "_law_k"] [] := (d__law_pot T).bindsN fun _ _ _ _ _ _ us hl => match us, hl with | [_, _], _ => rfl
theorem d__law_draw (T : Says w K mg) : FunD K "_law_draw" "_law_draw" (defArgs s__law_draw) (defBody s__law_draw) (defScope s__law_draw) (([] : List He.Dv).map (He.Dv.v K)) [] (He.fAd K ("_law_draw", none)) (fdOf K (He.fAd K ("_law_draw", none))) := saysE_def T.c 22
theorem b__law_draw (T : Says w K mg) : Binds K (fdOf K (He.fAd K ("_law_draw", none))) ["_law_pot_here", "_law_many"] [] := (d__law_draw T).bindsN fun _ _ _ _ _ _ us hl => match us, hl with | [_, _], _ => rfl
theorem d__law_pick (T : Says w K mg) : FunD K "_law_pick" "_law_pick" (defArgs s__law_pick) (defBody s__law_pick) (defScope s__law_pick) (([] : List He.Dv).map (He.Dv.v K)) [] (He.fAd K ("_law_pick", none)) (fdOf K (He.fAd K ("_law_pick", none))) := saysE_def T.c 23
theorem b__law_pick (T : Says w K mg) : Binds K (fdOf K (He.fAd K ("_law_pick", none))) ["_law_pot_here", "_law_some"] [] := (d__law_pick T).bindsN fun _ _ _ _ _ _ us hl => match us, hl with | [_, _], _ => rfl
theorem d__law_names (T : Says w K mg) : FunD K "_law_names" "_law_names" (defArgs s__law_names) (defBody s__law_names) (defScope s__law_names) (([] : List He.Dv).map (He.Dv.v K)) [] (He.fAd K ("_law_names", none)) (fdOf K (He.fAd K ("_law_names", none))) := saysE_def T.c 24
theorem b__law_names (T : Says w K mg) : Binds K (fdOf K (He.fAd K ("_law_names", none))) ["_law_pot_here", "_law_many"] [] := (d__law_names T).bindsN fun _ _ _ _ _ _ us hl => match us, hl with | [_, _], _ => rfl
theorem d__law_drawn_book (T : Says w K mg) : FunD K "_law_drawn_book" "_law_drawn_book" (defArgs s__law_drawn_book) (defBody s__law_drawn_book) (defScope s__law_drawn_book) (([] : List He.Dv).map (He.Dv.v K)) [] (He.fAd K ("_law_drawn_book", none)) (fdOf K (He.fAd K ("_law_drawn_book", none))) := saysE_def T.c 25
theorem b__law_drawn_book (T : Says w K mg) : Binds K (fdOf K (He.fAd K ("_law_drawn_book", none))) ["_law_pot_here", "_law_most"] [] := (d__law_drawn_book T).bindsN fun _ _ _ _ _ _ us hl => match us, hl with | [_, _], _ => rfl
theorem d__law_is_name (T : Says w K mg) : FunD K "_law_is_name" "_law_is_name" (defArgs s__law_is_name) (defBody s__law_is_name) (defScope s__law_is_name) (([] : List He.Dv).map (He.Dv.v K)) [] (He.fAd K ("_law_is_name", none)) (fdOf K (He.fAd K ("_law_is_name", none))) := saysE_def T.c 26
theorem b__law_is_name (T : Says w K mg) : Binds K (fdOf K (He.fAd K ("_law_is_name", none))) ["_law_word"] [] := (d__law_is_name T).bindsN fun _ _ _ _ _ _ us hl => match us, hl with | [_], _ => rfl
theorem d__law_lines (T : Says w K mg) : FunD K "_law_lines" "_law_lines" (defArgs s__law_lines) (defBody s__law_lines) (defScope s__law_lines) (([] : List He.Dv).map (He.Dv.v K)) [] (He.fAd K ("_law_lines", none)) (fdOf K (He.fAd K ("_law_lines", none))) := saysE_def T.c 27
theorem b__law_lines (T : Says w K mg) : Binds K (fdOf K (He.fAd K ("_law_lines", none))) ["_law_text"] [] := (d__law_lines T).bindsN fun _ _ _ _ _ _ us hl => match us, hl with | [_], _ => rfl
theorem d__law_meant (T : Says w K mg) : FunD K "_law_meant" "_law_meant" (defArgs s__law_meant) (defBody s__law_meant) (defScope s__law_meant) (([] : List He.Dv).map (He.Dv.v K)) [] (He.fAd K ("_law_meant", none)) (fdOf K (He.fAd K ("_law_meant", none))) := saysE_def T.c 28
theorem b__law_meant (T : Says w K mg) : Binds K (fdOf K (He.fAd K ("_law_meant", none))) ["_law_text"] [] := (d__law_meant T).bindsN fun _ _ _ _ _ _ us hl => match us, hl with | [_], _ => rfl
theorem d__law_bent (T : Says w K mg) : FunD K "_law_bent" "_law_bent" (defArgs s__law_bent) (defBody s__law_bent) (defScope s__law_bent) (([] : List He.Dv).map (He.Dv.v K)) [] (He.fAd K ("_law_bent", none)) (fdOf K (He.fAd K ("_law_bent", none))) := saysE_def T.c 29
theorem b__law_bent (T : Says w K mg) : Binds K (fdOf K (He.fAd K ("_law_bent", none))) ["_law_pot_here", "_law_text", "_law_names_here"] [] := (d__law_bent T).bindsN fun _ _ _ _ _ _ us hl => match us, hl with | [_, _, _], _ => rfl
theorem d__law_book_right (T : Says w K mg) : FunD K "_law_book_right" "_law_book_right" (defArgs s__law_book_right) (defBody s__law_book_right) (defScope s__law_book_right) (([] : List He.Dv).map (He.Dv.v K)) [] (He.fAd K ("_law_book_right", none)) (fdOf K (He.fAd K ("_law_book_right", none))) := saysE_def T.c 30
theorem b__law_book_right (T : Says w K mg) : Binds K (fdOf K (He.fAd K ("_law_book_right", none))) ["_law_text"] [] := (d__law_book_right T).bindsN fun _ _ _ _ _ _ us hl => match us, hl with | [_], _ => rfl
theorem d__law_row_right (T : Says w K mg) : FunD K "_law_row_right" "_law_row_right" (defArgs s__law_row_right) (defBody s__law_row_right) (defScope s__law_row_right) (([] : List He.Dv).map (He.Dv.v K)) [] (He.fAd K ("_law_row_right", none)) (fdOf K (He.fAd K ("_law_row_right", none))) := saysE_def T.c 31
theorem b__law_row_right (T : Says w K mg) : Binds K (fdOf K (He.fAd K ("_law_row_right", none))) ["_law_text"] [] := (d__law_row_right T).bindsN fun _ _ _ _ _ _ us hl => match us, hl with | [_], _ => rfl
theorem d__law_right (T : Says w K mg) : FunD K "_law_right" "_law_right" (defArgs s__law_right) (defBody s__law_right) (defScope s__law_right) (([] : List He.Dv).map (He.Dv.v K)) [] (He.fAd K ("_law_right", none)) (fdOf K (He.fAd K ("_law_right", none))) := saysE_def T.c 32
theorem b__law_right (T : Says w K mg) : Binds K (fdOf K (He.fAd K ("_law_right", none))) ["_law_pot_here"] [] := (d__law_right T).bindsN fun _ _ _ _ _ _ us hl => match us, hl with | [_], _ => rfl
theorem d_law (T : Says w K mg) : FunD K "law" "law" (defArgs s_law) (defBody s_law) (defScope s_law) (([] : List He.Dv).map (He.Dv.v K)) [] (He.fAd K ("law", none)) (fdOf K (He.fAd K ("law", none))) := saysE_def T.c 33
theorem b_law (T : Says w K mg) : Binds K (fdOf K (He.fAd K ("law", none))) ["_law_script"] [] := (d_law T).bindsN fun _ _ _ _ _ _ us hl => match us, hl with | [_], _ => rfl
theorem d__law_told (T : Says w K mg) : FunD K "_law_told" "_law_told" (defArgs s__law_told) (defBody s__law_told) (defScope s__law_told) (([] : List He.Dv).map (He.Dv.v K)) [] (He.fAd K ("_law_told", none)) (fdOf K (He.fAd K ("_law_told", none))) := saysE_def T.c 34
theorem b__law_told (T : Says w K mg) : Binds K (fdOf K (He.fAd K ("_law_told", none))) ["_law_call"] [] := (d__law_told T).bindsN fun _ _ _ _ _ _ us hl => match us, hl with | [_], _ => rfl
theorem d_Row_names (T : Says w K mg) : FunD K "names" "Row.names" (defArgs s_Row_names) (defBody s_Row_names) (defScope s_Row_names) [] [] (gAd K ("Row", some "names")) (fdOf K (gAd K ("Row", some "names"))) := (saysE_get T.c 0 rfl).1
theorem pr_Row_names (T : Says w K mg) : PropOf K (He.ga K "Row") "names" (He.ma K (He.ga K "Row") "names") (gAd K ("Row", some "names")) := (saysE_get T.c 0 rfl).2
theorem b_Row_names (T : Says w K mg) : Binds K (fdOf K (gAd K ("Row", some "names"))) ["self"] [] := (d_Row_names T).bindsN fun _ _ _ _ _ _ us hl => match us, hl with | [_], _ => rfl
theorem d_Book_fixers (T : Says w K mg) : FunD K "fixers" "Book.fixers" (defArgs s_Book_fixers) (defBody s_Book_fixers) (defScope s_Book_fixers) [] [] (gAd K ("Book", some "fixers")) (fdOf K (gAd K ("Book", some "fixers"))) := (saysE_get T.c 1 rfl).1
theorem pr_Book_fixers (T : Says w K mg) : PropOf K (He.ga K "Book") "fixers" (He.ma K (He.ga K "Book") "fixers") (gAd K ("Book", some "fixers")) := (saysE_get T.c 1 rfl).2
theorem b_Book_fixers (T : Says w K mg) : Binds K (fdOf K (gAd K ("Book", some "fixers"))) ["self"] [] := (d_Book_fixers T).bindsN fun _ _ _ _ _ _ us hl => match us, hl with | [_], _ => rfl
end
section
variable {w : World} {K : PySem.W.Frag} {mg : Str → Option Value}
theorem chk1 (T : Says w K mg) : PySem.W.noSeq K (He.ga K "Book") = true := (He.ba T.chk_).1
theorem chk_noseq_Book (T : Says w K mg) : PySem.W.noSeq K (He.ga K "Book") = true := (He.ba T.chk_).1
theorem chk_TOLD (T : Says w K mg) (H : Hp) : SqT K H (He.ga K "TOLD_RESTS") [.int 2, .int 3, .int 4, .int 6] := He.tupB_ok (He.ba (He.ba T.chk_).2).1 H
theorem chk_Book (T : Says w K mg) : clsOk K (He.ga K "Book") = true := (He.ba ((He.ba (He.ba T.chk_).2).2)).1
theorem chk_Row (T : Says w K mg) : clsOk K (He.ga K "Row") = true := (He.ba (He.ba ((He.ba (He.ba T.chk_).2).2)).2).1
theorem chk_dfl (T : Says w K mg) : tupIn K (rowDfl K) [] = true := (He.ba (He.ba (He.ba ((He.ba (He.ba T.chk_).2).2)).2).2).1
theorem chk_tabs (T : Says w K mg) : tabsNe K = true := (He.ba ((He.ba (He.ba (He.ba ((He.ba (He.ba T.chk_).2).2)).2).2).2)).1
theorem chk_excs (T : Says w K mg) : excs K = true := (He.ba (He.ba ((He.ba (He.ba (He.ba ((He.ba (He.ba T.chk_).2).2)).2).2).2)).2).1
theorem chk_vals (T : Says w K mg) : He.valsB K (He.ga K "RESTS_BY_WORDS") [("2", .int 2), ("3", .int 3), ("4", .int 4), ("6", .int 6)] = true := (He.ba (He.ba (He.ba ((He.ba (He.ba (He.ba ((He.ba (He.ba T.chk_).2).2)).2).2).2)).2).2).1
theorem kit_Row (T : Says w K mg) : PySem.W.kitOne K (.ref (He.ga K "Row")) (.type "str") = some false := of_decide_eq_true (He.ba (He.ba (He.ba (He.ba ((He.ba (He.ba (He.ba ((He.ba (He.ba T.chk_).2).2)).2).2).2)).2).2).2).1
theorem kit_Book (T : Says w K mg) : PySem.W.kitOne K (.ref (He.ga K "Book")) (.type "str") = some false := of_decide_eq_true (He.ba (He.ba (He.ba (He.ba ((He.ba (He.ba (He.ba ((He.ba (He.ba T.chk_).2).2)).2).2).2)).2).2).2).2
theorem tb_RESTS_BY_WORDS (T : Says w K mg) : ∃ es n, KDict K w (He.ga K "RESTS_BY_WORDS") es n := He.dicW_ok T.tb
theorem tb_has (T : Says w K mg) (x : Str) : ∃ r, PySem.W.nsIn K (He.ga K "RESTS_BY_WORDS") x = some r ∧ r.isSome = decide (x ∈ (["2", "3", "4", "6"] : List Str)) := dicW_ns T.tb x
theorem tb_at (T : Says w K mg) {q : Str × He.Dv} (hq : q ∈ ([("2", .int 2), ("3", .int 3), ("4", .int 4), ("6", .int 6)] : List (Str × He.Dv))) : KDct K w (He.ga K "RESTS_BY_WORDS") q.1 (q.2.v K) := dicW_at T.tb (chk_vals T) hq
theorem oex_InvalidText (T : Says w K mg) : OexC K (He.ga K "InvalidText") := (oexB_ok (He.ba (chk_excs T)).1).1
theorem ini_InvalidText (T : Says w K mg) : PySem.W.findIn K (.ref (He.ga K "InvalidText")) "__init__" = some (some (.ref (He.fAd K ("InvalidText", some "__init__")))) := (oexB_ok (He.ba (chk_excs T)).1).2.1
theorem ity_InvalidText (T : Says w K mg) : PySem.W.typeIn K (.ref (He.fAd K ("InvalidText", some "__init__"))) = some (.type "function") := (oexB_ok (He.ba (chk_excs T)).1).2.2
theorem xf_InvalidText (T : Says w K mg) : XfC K (He.ga K "InvalidText") := (excB_ok (He.ba (He.ba (chk_excs T)).2).1).1
theorem exc_InvalidText (T : Says w K mg) : ExcC K (He.ga K "InvalidText") := (excB_ok (He.ba (He.ba (chk_excs T)).2).1).2
theorem no_line (T : Says w K mg) : PySem.W.findIn K (.ref (He.ga K "InvalidText")) "line" = some none := of_decide_eq_true (He.ba (He.ba (He.ba (chk_excs T)).2).2).1
theorem kit_FixError (T : Says w K mg) : PySem.W.kitOne K (.ref (He.ga K "InvalidText")) (.ref (He.ga K "FixError")) = some true := of_decide_eq_true (He.ba (He.ba (He.ba (He.ba (chk_excs T)).2).2).2).1
theorem exm_InvalidText (T : Says w K mg) : PySem.W.exmOne K (.ref (He.ga K "InvalidText")) (.ref (He.ga K "InvalidText")) = some true := of_decide_eq_true (He.ba (He.ba (He.ba (He.ba (chk_excs T)).2).2).2).2
theorem clsOk_ins {C : Addr} (c : clsOk K C = true) (cl : Cls K C) {H : Hp} {a dx : Addr} {fs : List (Str × V)} (e : H a = some (.ins C dx fs)) : TyX K H (.ref a) (.ref C) :=
  .base (.ins e cl (of_decide_eq_true (He.ba c).1) (of_decide_eq_true (He.ba (He.ba c).2).1) (of_decide_eq_true (He.ba (He.ba (He.ba c).2).2).1) (of_decide_eq_true (He.ba (He.ba (He.ba c).2).2).2))
theorem b_Rowdd_initdd (T : Says w K mg) : Binds K (fdOf K (He.fAd K ("Row", some "__init__"))) ["self", "names"] [] := by
  obtain ⟨ds, hv, hb⟩ := (d_Rowdd_initdd T).binds1 (ps := ["self", "names"]) 2 1 (by simp) rfl fun _ _ _ _ _ _ _ us its hl hi => match us, its, hl, hi with | [_, _], [_], _, _ => ⟨_, rfl, by kernel_rfl⟩
  cases hv
  exact hb
theorem rd_init (T : Says w K mg) : ∃ ds, Vals [.ref (rowDfl K)] ds ∧ Binds K (fdOf K (He.fAd K ("Row", some "__init__"))) ["self", "names"] ds :=
  (d_Rowdd_initdd T).binds1 1 0 (by simp) rfl fun _ _ _ _ _ _ _ us its hl hi => match us, its, hl, hi with | [_], [_], _, _ => ⟨_, rfl, rfl⟩
theorem dv_Rowdd_initdd0 (T : Says w K mg) : Vals [.ref (rowDfl K)] (rd_init T).choose := (rd_init T).choose_spec.1
theorem b_Rowdd_initdd0 (T : Says w K mg) : Binds K (fdOf K (He.fAd K ("Row", some "__init__"))) ["self", "names"] (rd_init T).choose := (rd_init T).choose_spec.2
theorem bd_init (T : Says w K mg) : ∃ ds, Vals [.non] ds ∧ Binds K (fdOf K (He.fAd K ("Book", some "__init__"))) ["self", "fixers", "rests"] ds :=
  (d_Bookdd_initdd T).binds1 2 0 (by simp) rfl fun _ _ _ _ _ _ _ us its hl hi => match us, its, hl, hi with | [_, _], [_], _, _ => ⟨_, rfl, rfl⟩
theorem dv_Bookdd_initdd1 (T : Says w K mg) : Vals [.non] (bd_init T).choose := (bd_init T).choose_spec.1
theorem b_Bookdd_initdd1 (T : Says w K mg) : Binds K (fdOf K (He.fAd K ("Book", some "__init__"))) ["self", "fixers", "rests"] (bd_init T).choose := (bd_init T).choose_spec.2
end
end T85
end

section
set_option Elab.async false
set_option linter.all false
set_option maxRecDepth 100000
set_option maxHeartbeats 0
namespace T85
open PySem PySem.W PySem.Calls PyProof.Rows Fx
abbrev R : OpenRow := OpenLaw.row PySem.Challenge.rw_fixrest_k91_wrong_lines
abbrev qv : Program := view R.prog [61]
def loose0 : List PySem.Str := ["_wall", "FixError", "InvalidRow", "InvalidFixers", "InvalidRest", "InvalidCount", "InvalidPosition", "InvalidText", "MissingError", "UnknownFixer", "StateError", "SameFixer", "OtherFixers", "LimitError", "TooMany", "LETTERS", "MOST_LETTERS", "MOST_RUNS", "is_integer", "is_count", "is_list", "is_name", "want_few_runs", "Row", "MOST_FIXERS_books", "TOLD_RESTS", "NEVER_TOLD", "is_rest", "length_of", "stronger"]
def loose1 : List PySem.Str := ["weaker", "pairs_among", "Book", "EMPTY", "FIRST_WORD", "RESTS_BY_WORDS", "row_in", "read_row", "book_text", "fixers_in", "fact_in", "put_facts", "read_book", "_law_pot", "_law_draw", "_law_pick", "_law_names", "_law_drawn_book", "_law_is_name", "_law_lines", "_law_meant", "_law_told", "_law_bent", "_law_book_right", "_law_row_right", "_law_right"]
def loose : List PySem.Str := loose0 ++ loose1
def asL0 : List Addr := [3, 6, 4, 21, 31, 51, 70, 89, 108, 127, 146, 158, 178, 190, 210, 229, 241, 261, 270, 277, 284, 289, 296, 481, 486, 493, 500, 507, 514, 519, 678, 683, 688, 695, 700, 705, 712, 719, 726, 733, 740, 747, 752, 759, 764, 771, 776, 783, 790, 795, 800, 805, 810, 0, 20, 30, 50, 69, 88, 107, 126, 145, 157, 177, 189, 209, 228, 240, 260, 269, 276, 283, 288, 295, 480, 492, 499, 506, 513, 518, 677, 687, 694, 699, 704, 711, 718, 725, 732, 739, 746, 751, 758, 763, 770, 775, 782, 789, 794, 799]
def asL1 : List Addr := [804, 809, 15, 16, 17, 18, 19, 29, 32, 48, 49, 67, 68, 86, 87, 105, 106, 124, 125, 143, 144, 156, 159, 175, 176, 188, 191, 207, 208, 226, 227, 239, 242, 258, 259, 264, 265, 266, 267, 268, 271, 272, 273, 274, 275, 278, 279, 280, 281, 282, 285, 286, 287, 290, 291, 292, 293, 294, 312, 321, 330, 338, 345, 352, 359, 366, 373, 380, 387, 394, 401, 408, 415, 422, 429, 436, 443, 450, 457, 464, 471, 478, 479, 482, 483, 487, 488, 489, 490, 491, 494, 495, 496, 497, 498, 501, 502, 503, 504, 505]
def asL2 : List Addr := [508, 509, 510, 511, 512, 515, 516, 517, 527, 533, 541, 548, 555, 560, 567, 574, 581, 588, 595, 602, 609, 616, 623, 628, 633, 640, 647, 654, 661, 668, 675, 676, 679, 680, 684, 685, 686, 689, 690, 691, 692, 693, 696, 697, 698, 701, 702, 703, 706, 707, 708, 709, 710, 713, 714, 715, 716, 717, 720, 721, 722, 723, 724, 727, 728, 729, 730, 731, 734, 735, 736, 737, 738, 741, 742, 743, 744, 745, 748, 749, 750, 753, 754, 755, 756, 757, 760, 761, 762, 765, 766, 767, 768, 769, 772, 773, 774, 777, 778, 779]
def asL3 : List Addr := [780, 781, 784, 785, 786, 787, 788, 791, 792, 793, 796, 797, 798, 801, 802, 803, 806, 807, 808, 47, 66, 85, 104, 123, 142, 174, 206, 225, 257, 311, 305, 319, 320, 329, 337, 344, 351, 358, 365, 372, 379, 386, 393, 400, 407, 414, 421, 428, 435, 442, 449, 456, 463, 470, 477, 532, 528, 540, 547, 554, 559, 566, 573, 580, 587, 594, 601, 608, 615, 622, 627, 632, 639, 646, 653, 660, 667, 674, 42, 43, 44, 45, 46, 61, 62, 63, 64, 65, 80, 81, 82, 83, 84, 99, 100, 101, 102, 103, 118, 119]
def asL4 : List Addr := [120, 121, 122, 137, 138, 139, 140, 141, 169, 170, 171, 172, 173, 201, 202, 203, 204, 205, 220, 221, 222, 223, 224, 252, 253, 254, 255, 256, 306, 307, 308, 309, 310, 304, 318, 322, 328, 336, 339, 340, 341, 342, 343, 346, 347, 348, 349, 350, 353, 354, 355, 356, 357, 360, 361, 362, 363, 364, 367, 368, 369, 370, 371, 374, 375, 376, 377, 378, 381, 382, 383, 384, 385, 388, 389, 390, 391, 392, 395, 396, 397, 398, 399, 402, 403, 404, 405, 406, 409, 410, 411, 412, 413, 416, 417, 418, 419, 420, 423, 424]
def asL5 : List Addr := [425, 426, 427, 430, 431, 432, 433, 434, 437, 438, 439, 440, 441, 444, 445, 446, 447, 448, 451, 452, 453, 454, 455, 458, 459, 460, 461, 462, 465, 466, 467, 468, 469, 472, 473, 474, 475, 476, 529, 530, 531, 539, 542, 543, 544, 545, 546, 549, 550, 551, 552, 553, 556, 557, 558, 561, 562, 563, 564, 565, 568, 569, 570, 571, 572, 575, 576, 577, 578, 579, 582, 583, 584, 585, 586, 589, 590, 591, 592, 593, 596, 597, 598, 599, 600, 603, 604, 605, 606, 607, 610, 611, 612, 613, 614, 617, 618, 619, 620, 621]
def asL6 : List Addr := [624, 625, 626, 629, 630, 631, 634, 635, 636, 637, 638, 641, 642, 643, 644, 645, 648, 649, 650, 651, 652, 655, 656, 657, 658, 659, 662, 663, 664, 665, 666, 669, 670, 671, 672, 673]
def asL : List Addr := asL0 ++ asL1 ++ asL2 ++ asL3 ++ asL4 ++ asL5 ++ asL6
abbrev hk : Hook := hookT asL fa fn gsl [wordsT] tf chk
def ob (s : SharedT) : AlL := lookT asL fa fn gsl [wordsT] tf chk (HandSHeadRun.getT s)
theorem ob_eq (s : SharedT) : ob s = hk.obs s.abs := lookT_eq (HandSHeadRun.getT_eq s)
theorem run_f (w : World) : HandSHeadRun.RunEq R qv hk ob 8000 loose (w.withFollow "special-get-raises" false) := by
  intro os
  kernel_rfl
theorem run_t (w : World) : HandSHeadRun.RunEq R qv hk ob 8000 loose (w.withFollow "special-get-raises" true) := by
  intro os
  kernel_rfl
theorem run (w : World) : HandSHeadRun.RunEq R qv hk ob 8000 loose w :=
  byRow2 (P := fun w => HandSHeadRun.RunEq R qv hk ob 8000 loose w) "special-get-raises" run_f run_t w
end T85
end

section
set_option Elab.async false
set_option linter.all false
set_option maxRecDepth 100000
set_option maxHeartbeats 4000000
namespace T85
open PySem PySem.Spec L2 Fx
/-! ### small things of readings -/
theorem hu0_of {u n : Nat} (h : u + n < cLine) : u < cLine := Nat.lt_of_le_of_lt (Nat.le_add_right _ _) h
theorem ty_sqt {K : PySem.W.Frag} {H : Hp} {a : Addr} {xs : List V} (h : SqT K H a xs) : TyX K H (.ref a) (.type "tuple") := by
  rcases h with (h | ⟨o, h⟩) | ⟨o, its, n, h, c, _⟩
  · exact .base (.tup h)
  · exact .fTuple h
  · exact .kTuple h c
theorem ty_sql {K : PySem.W.Frag} {H : Hp} {a : Addr} {xs : List V} (h : SqL K H a xs) : TyX K H (.ref a) (.type "list") := by
  rcases h with (h | ⟨o, h⟩) | ⟨o, its, n, h, c, _⟩
  · exact .base (.lst h)
  · exact .base (.frz h)
  · exact .kList h c
section
variable {P : Program} {w : World} {K : PySem.W.Frag} {mg : Str → Option Value} {base : Heap}
def spInt1 (f : Int → Bool) : Sp := fun vs H Q _ => ∃ i : Int, vs = [.int i] ∧ Q (.bl (f i)) H
theorem ok_is_integer (T : Says w K mg) : Ok P w K mg base 1 ("is_integer", none) ["value"] (spInt1 fun _ => true) := by
  refine FunD.ok (d_is_integer T) sc_is_integer (fun vs H Q E h => ?len) (fun cdv A outer s H vs Q E hr h => ?bod)
  case len =>
    obtain ⟨i, rfl, _⟩ := h; rfl
  case bod =>
    obtain ⟨i, rfl, k⟩ := h
    refine ⟨_, PSs.nox (pss_one (ps_ret (pe_and (pe_callB (k_isi (K := K) (by rfl)) (by rfl) (T.free_ 0) (by decide +kernel) (pa_cons (pv 0) (pa_cons (pe_bltn (v := .ty "int") (u := .type "int") (by rfl) (T.free_ 1) (by decide +kernel) rfl) pa_nil))) (pe_one (pe_not (pe_callB (k_isi (K := K) (by rfl)) (by rfl) (T.free_ 0) (by decide +kernel) (pa_cons (pv 0) (pa_cons (pe_bltn (v := .ty "bool") (u := .type "bool") (by rfl) (T.free_ 2) (by decide +kernel) rfl) pa_nil)))))))), ?_⟩
    refine ⟨_, rfl, _, _, _, _, true, rfl, .ty "int", .base (.int i), kit_ty (by decide +kernel), true, rfl, iteT ?_⟩
    exact ⟨_, rfl, _, _, _, _, false, rfl, .ty "bool", .base (.int i), kit_ty (by decide +kernel), false, rfl, k⟩
/-! ### is_list, is_name, is_rest -/
def spIsList (K : PySem.W.Frag) : Sp := fun vs H Q _ => ∃ a : Addr, vs = [.ref a] ∧ ((∃ xs, SqL K H a xs) ∨ ∃ xs, SqT K H a xs) ∧ ∀ H', Same H H' → Q (.bl true) H'
theorem ok_is_list (T : Says w K mg) : Ok P w K mg base 1 ("is_list", none) ["value"] (spIsList K) := by
  refine FunD.ok (d_is_list T) sc_is_list (fun vs H Q E h => ?len) (fun cdv A outer s H vs Q E hr h => ?bod)
  case len =>
    obtain ⟨a, rfl, _⟩ := h; rfl
  case bod =>
    obtain ⟨a, rfl, ha, k⟩ := h
    refine ⟨_, PSs.nox (pss_one (ps_ret (pe_callB (k_isiT (K := K) (by rfl)) (by rfl) (T.free_ 0) (by decide +kernel) (pa_cons (pv 0) (pa_cons (pe_tup (pa_cons (pe_bltn (v := .ty "list") (u := .type "list") (by rfl) (T.free_ 3) (by decide +kernel) rfl) (pa_cons (pe_bltn (v := .ty "tuple") (u := .type "tuple") (by rfl) (T.free_ 4) (by decide +kernel) rfl) pa_nil))) pa_nil))))), ?_⟩
    refine ⟨_, rfl, by show 2 ≤ sizeLine; decide, fun tp htp => ?_⟩
    have st : Same H (upd H tp (.tup [.ty "list", .ty "tuple"])) := same_new htp
    rcases ha with ⟨xs, ha⟩ | ⟨xs, ha⟩
    · exact ⟨.ref a, tp, _, _, _, true, rfl, upd_same, .cons (.ty "list") (.cons (.ty "tuple") .nil), ty_sql (seq_mono st ha), kitAny_cons (b := true) (kit_ty (by decide +kernel)) (fun z => by cases z) (fun _ => rfl), k _ st⟩
    · exact ⟨.ref a, tp, _, _, _, true, rfl, upd_same, .cons (.ty "list") (.cons (.ty "tuple") .nil), ty_sqt (sqt_mono st ha), kitAny_cons (b := false) (kit_ty (by decide +kernel)) (fun _ => kitAny_cons (b := true) (kit_ty (by decide +kernel)) (fun z => by cases z) (fun _ => rfl)) (fun z => by cases z), k _ st⟩
/-- a fixer's name -/
def NameOk (x : Str) : Prop := 1 ≤ x.cps.size ∧ x.cps.size ≤ 8 ∧ ∀ c ∈ x.cps.toList, c ∈ (Str.ofString "abcdefghijklmnopqrstuvwxyz").cps.toList
instance (x : Str) : Decidable (NameOk x) := inferInstanceAs (Decidable (_ ∧ _ ∧ _))
def nameB (x : Str) : Bool := decide (NameOk x)
theorem name_true {x : Str} (h : NameOk x) : nameB x = true := decide_eq_true h
theorem name_len {x : Str} (h : NameOk x) : x.length ≤ 1000000 := Nat.le_trans h.2.1 (by decide)
theorem nameB_all (x : Str) (h1 : 1 ≤ x.cps.size) (h8 : x.cps.size ≤ 8) : nameB x = x.cps.toList.all fun c => decide (c ∈ (Str.ofString "abcdefghijklmnopqrstuvwxyz").cps.toList) := by
  unfold nameB
  rw [Bool.eq_iff_iff, decide_eq_true_iff, List.all_eq_true]
  exact ⟨fun h c m => decide_eq_true (h.2.2 c m), fun h => ⟨h1, h8, fun c m => of_decide_eq_true (h c m)⟩⟩
theorem nameB_no (x : Str) (h : ¬ (1 ≤ x.cps.size ∧ x.cps.size ≤ 8)) : nameB x = false := decide_eq_false fun z => h ⟨z.1, z.2.1⟩
/-- the list of bools that a comprehension over signs makes -/
def signsB (x : Str) : List Bool := x.cps.toList.map fun c => decide (c ∈ (Str.ofString "abcdefghijklmnopqrstuvwxyz").cps.toList)
def spIsName : Sp := fun vs H Q _ => ∃ (x : Str) (b : Bool), vs = [.str x] ∧ x.length ≤ 1000000 ∧ nameB x = b ∧ ∀ H', Same H H' → Q (.bl b) H'
theorem ok_is_name (T : Says w K mg) : Ok P w K mg base 1 ("is_name", none) ["value"] (spIsName) := by
  refine FunD.ok (d_is_name T) sc_is_name (fun vs H Q E h => ?len) (fun cdv A outer s H vs Q E hr h => ?bod)
  case len =>
    obtain ⟨x, b, rfl, _⟩ := h; rfl
  case bod =>
    obtain ⟨x, b, rfl, hx, rfl, k⟩ := h
    refine ⟨_, PSs.nox (pss_cons (ps_if (pw_or (pt_not (pt_val (pe_callB (k_isi (K := K) (by rfl)) (by rfl) (T.free_ 0) (by decide +kernel) (pa_cons (pv 0) (pa_cons (pe_bltn (v := .ty "str") (u := .type "str") (by rfl) (T.free_ 5) (by decide +kernel) rfl) pa_nil))))) (pw_or1 (pt_not (pt_chain op_le op_le pe_int (pe_callB call_len_str (by rfl) (T.free_ 6) (by decide +kernel) (pa_cons (pv 0) pa_nil)) (pe_globI (by rfl) (T.int_ 7)))))).pt (pss_one (ps_ret pe_bl)) pss_nil)
      (pss_one (ps_ret (pe_callB (k_all (K := K) (by rfl) rfl) (by rfl) (T.free_ 9) (by decide +kernel) (pa_cons (pe_lc (own := [("sign", 1)]) rfl sc_is_name.nd (pi_str (pv 0)) (blkOk_by (N := N_is_name) (sc := defScope s_is_name) (by decide +kernel)) (fun _ _ _ _ _ => (pg_name (i := 1) sc_is_name.nd rfl (Or.inl rfl))) (fun _ _ _ _ _ => pts_nil) (fun _ _ _ _ _ => (pe_cmpR op_in_sign (pv 1) (pe_globS (by rfl) (T.str_ 8)) (by rfl)))) pa_nil))))), ?_⟩
    have hs : x.length ≤ sizeLine := Nat.le_trans hx (by decide)
    refine ⟨_, rfl, _, _, _, _, true, rfl, .ty "str", .base (.str x), kit_ty (by decide +kernel), true, rfl, iteF ?_⟩
    by_cases h1 : 1 ≤ x.cps.size
    case neg =>
      refine ⟨_, rfl, x, rfl, hs, _, _, rfl, rfl, false, ?_, iteF ?_⟩
      · show V.bl (decide ((1 : Int) ≤ (x.cps.size : Nat))) = _; rw [decide_eq_false (by omega)]
      · refine ⟨false, rfl, iteT ?_⟩
        show Q (.bl false) H
        have z := k H (Same.refl H)
        rw [nameB_no x (fun y => h1 y.1)] at z
        exact z
    by_cases h8 : x.cps.size ≤ 8
    case neg =>
      refine ⟨_, rfl, x, rfl, hs, _, _, rfl, rfl, true, ?_, iteT ⟨_, _, rfl, rfl, false, ?_, iteT ?_⟩⟩
      · show V.bl (decide ((1 : Int) ≤ (x.cps.size : Nat))) = _; rw [decide_eq_true (by omega)]
      · show V.bl (decide (((x.cps.size : Nat) : Int) ≤ 8)) = _; rw [decide_eq_false (by omega)]
      · show Q (.bl false) H
        have z := k H (Same.refl H)
        rw [nameB_no x (fun y => h8 y.2)] at z
        exact z
    refine ⟨_, rfl, x, rfl, hs, _, _, rfl, rfl, true, ?_, iteT ⟨_, _, rfl, rfl, true, ?_, iteF ?_⟩⟩
    · show V.bl (decide ((1 : Int) ≤ (x.cps.size : Nat))) = _; rw [decide_eq_true (by omega)]
    · show V.bl (decide (((x.cps.size : Nat) : Int) ≤ 8)) = _; rw [decide_eq_true (by omega)]
    refine ⟨_, rfl, x, rfl, fun D hD => lcm_str
      (fun q acc H2 => Same H H2 ∧ H2 D = some (.lst acc) ∧ acc = ((signsB x).take q).map V.bl)
      ⟨same_new hD, upd_same, rfl⟩ ?_ ?_⟩
    · rintro q c acc H2 hq ⟨s2, hD2, rfl⟩
      have hq' : x.cps.toList[q]? = some c := by simpa using hq
      refine ⟨_, rfl, c, _, rfl, rfl, _, hD2, by have := (Array.getElem?_eq_some_iff.mp hq).1; rw [List.length_map, List.length_take]; exact small1000 (by omega), _, same_upd s2 hD, upd_same, ?_⟩
      rw [take_of_get (show (signsB x)[q]? = some _ by unfold signsB; rw [List.getElem?_map, hq']; rfl), List.map_append]; rfl
    · rintro acc H2 ⟨s2, hD2, rfl⟩
      refine ⟨D, _, rfl, SqL.of hD2, ?_⟩
      have e : ((signsB x).take x.cps.size).all id = nameB x := by
        rw [List.take_of_length_le (by unfold signsB; simp), nameB_all x h1 h8]
        unfold signsB
        rw [List.all_map]; rfl
      rw [e]
      exact k _ s2
def okRest (r : Option Int) : Prop := r = none ∨ r = some 2 ∨ r = some 3 ∨ r = some 4 ∨ r = some 6
def optI : Option Int → V
  | none => .non
  | some i => .int i
def spIsRest : Sp := fun vs H Q _ => ∃ r : Option Int, vs = [optI r] ∧ okRest r ∧ Q (.bl true) H
theorem ok_is_rest (T : Says w K mg) : Ok P w K mg base 2 ("is_rest", none) ["value"] (spIsRest) := by
  have G_is_integer := FnOk.mono (k := 1) (ok_is_integer (P := P) (w := w) (base := base) T) (by decide)
  refine FunD.ok (d_is_rest T) sc_is_rest (fun vs H Q E h => ?len) (fun cdv A outer s H vs Q E hr h => ?bod)
  case len =>
    obtain ⟨x, rfl, _⟩ := h; rfl
  case bod =>
    obtain ⟨r, rfl, hr0, k⟩ := h
    refine ⟨_, PSs.nox (pss_one (ps_ret (pe_or (pe_cmpR op_isN (pv 0) pe_non (nomark _)) (pe_one (pe_and (pe_call G_is_integer hr (by rfl) (T.glo_ 17) (d_is_integer T).kp (b_is_integer T) .nil pass0 (pa_cons (pv 0) pa_nil)) (pe_one (pe_cmpR (k_in (K := K) (by rfl)) (pv 0) (pe_glob (v := .ref (He.ga K "TOLD_RESTS")) (by rfl) (T.glo_ 18) rfl) (by rfl)))))))), ?_⟩
    cases r with
    | none => exact ⟨_, rfl, rfl, true, rfl, iteT k⟩
    | some i =>
      have hin : inV (.int i) [.int 2, .int 3, .int 4, .int 6] = true := by
        rcases hr0 with h | h | h | h | h
        · cases h
        all_goals (cases h; rfl)
      refine ⟨_, rfl, rfl, false, rfl, iteF ⟨_, rfl, i, rfl, true, rfl, iteT ⟨_, rfl, _, _, rfl, .inr (chk_TOLD T H), rfl, rfl, ?_⟩⟩⟩
      show Q (.bl (inV (.int i) [.int 2, .int 3, .int 4, .int 6])) H
      rw [hin]; exact k
/-- the pairs of fixers, in order -/
def pairsL : List Str → List (Str × Str)
  | [] => []
  | a :: r => r.map (fun b => (a, b)) ++ pairsL r
theorem pairsL_len : ∀ {l : List Str} {n : Nat}, l.length ≤ n → (pairsL l).length ≤ n * n
  | [], n, _ => Nat.zero_le _
  | a :: r, n, h => by
    rw [List.length_cons] at h
    obtain ⟨m, rfl⟩ : ∃ m, n = m + 1 := ⟨n - 1, by omega⟩
    have := pairsL_len (l := r) (n := m) (by omega)
    rw [pairsL, List.length_append, List.length_map]
    have e : (m + 1) * (m + 1) = m * m + m + m + 1 := by rw [Nat.add_mul, Nat.mul_add]; omega
    omega
/-- tuples of two texts at addresses -/
abbrev PairsAt (H : Hp) : List Addr → List (Str × Str) → Prop := Each fun r p => H r = some (.tup [.str p.1, .str p.2])
theorem PairsAt.mono {H H' : Hp} {rs : List Addr} {xs : List (Str × Str)} (h : PairsAt H rs xs) (s : Same H H') : PairsAt H' rs xs := Each.mono h fun _ _ q => s _ _ q
theorem PairsAt.put {H : Hp} {D : Addr} {o : HO} {l : List V} {rs : List Addr} {xs : List (Str × Str)} (h : PairsAt H rs xs) (hD : H D = some (.lst l)) : PairsAt (upd H D o) rs xs :=
  Each.mono h fun _ _ q => by rw [upd_ne (ne_of q hD (by intro z; cases z))]; exact q
def spPairs (K : PySem.W.Frag) : Sp := fun vs H Q _ => ∃ (a : Addr) (names : List Str), vs = [.ref a] ∧ SqT K H a (names.map V.str) ∧ names.length ≤ 6 ∧
  ∀ H' l rs, Same H H' → H l = none → H' l = some (.lst (rs.map V.ref)) → PairsAt H' rs (pairsL names) → Q (.ref l) H'
theorem ok_pairs_among (T : Says w K mg) : Ok P w K mg base 1 ("pairs_among", none) ["names"] (spPairs K) := by
  refine FunD.ok (d_pairs_among T) sc_pairs_among (fun vs H Q E h => ?len) (fun cdv A outer s H vs Q E hr h => ?bod)
  case len =>
    obtain ⟨a, names, rfl, _⟩ := h; rfl
  case bod =>
    obtain ⟨a, names, rfl, ha, hl, k⟩ := h
    refine ⟨_, PSs.nox (pss_one (ps_ret (pe_lc2 (own := [("at", 1), ("a", 2), ("b", 3)]) (vs1 := [3]) rfl sc_pairs_among.nd (k_pienumT (K := K) (by rfl) (by rfl) (T.free_ 12) (pa_cons (pv 0) pa_nil)) (blkOk_by (N := N_pairs_among) (sc := defScope s_pairs_among) (by decide +kernel)) (by decide) (fun _ _ _ _ _ => (k_tup (K := K) (n := 2) (by rfl) rfl (pgs_cons (pg_name (i := 1) sc_pairs_among.nd rfl (Or.inl rfl)) (pgs_cons (pg_name (i := 2) sc_pairs_among.nd rfl (Or.inl rfl)) pgs_nil)))) (fun _ _ _ _ _ => pts_nil) (fun _ _ _ _ _ => (k_pit (K := K) (by rfl) (pe_slice (k_slT (K := K) (by rfl)) (pv 0) (po_some (pe_op op_add (pv 1) pe_int)) po_none))) (fun _ _ _ _ _ => (pg_name (i := 3) sc_pairs_among.nd rfl (Or.inl rfl))) (fun _ _ _ _ _ => pts_nil) (fun _ _ _ _ _ => (pe_tup (pa_cons (pv 2) (pa_cons (pv 3) pa_nil))))))), ?_⟩
    refine ⟨_, rfl, a, _, rfl, ha, fun D hD => lcw walk_enumT
      (fun i H2 => ∃ (rs : List Addr) (ps : List (Str × Str)), Same H H2 ∧ H2 D = some (.lst (rs.map V.ref)) ∧ PairsAt H2 rs ps ∧ ps ++ pairsL (names.drop i) = pairsL names)
      ⟨[], [], same_new hD, upd_same, .nil, rfl⟩ (fun i H2 _ ⟨_, _, s, _⟩ => sqt_mono s ha) ?_ ?_⟩
    · rintro i v H2 H' hi ⟨rs, ps, s2, hD2, hP, hg⟩ ⟨T', u, z, rfl, hT, rfl, hu, hz⟩
      cases hu
      obtain ⟨n, hn, rfl⟩ := getElem?_map_some hz
      rw [drop_of_get hn] at hg
      have sT : Same H (upd H2 T' (.tup [.int (i : Nat), .str n])) := same_upd s2 (s2.free hT)
      refine ⟨T', _, rfl, .inl (.inl upd_same), rfl, _, _, rfl, _, _, rfl, rfl, rfl, yesI ?_⟩
      have hz0 : HT.sIx (names.map V.str).length 0 (some ((i : Int) + 1)) = i + 1 := by
        have e : ((i : Int) + 1) = ((i + 1 : Nat) : Int) := by omega
        rw [e, HT.sIx_nat]; omega
      have ecut : cutV (names.map V.str) (some ((i : Int) + 1)) none = (names.drop (i + 1)).map V.str := by
        unfold cutV
        rw [hz0, HT.sIx_none, List.take_of_length_le (by simp), List.map_drop]
      refine ⟨_, rfl, _, rfl, _, _, rfl, rfl, _, rfl, a, _, rfl, sqt_mono sT ha, (fun h => by rw [hz0] at h; exact absurd h.1 (by omega)), fun _ p hp => ⟨p, rfl, ⟨_, .inl (.inl upd_same)⟩, ?_⟩⟩
      rw [ecut]
      have sp : Same H2 (upd (upd H2 T' (.tup [.int (i : Nat), .str n])) p (.tup ((names.drop (i + 1)).map V.str))) := same_upd (same_new hT) ((same_new hT).free hp)
      have hps : ps.length ≤ 36 := by
        have h1 := pairsL_len hl
        rw [← hg, List.length_append] at h1; omega
      refine lcw (walk_tup (xs := (names.drop (i + 1)).map V.str)) (fun j H3 => ∃ (us : List Addr), Same H H3 ∧ H3 p = some (.tup ((names.drop (i + 1)).map V.str)) ∧ H3 D = some (.lst (us.map V.ref)) ∧ PairsAt H3 us (ps ++ ((names.drop (i + 1)).take j).map fun b => (n, b)))
        ⟨rs, s2.trans sp, upd_same, sp _ _ hD2, by simpa using hP.mono sp⟩ (fun j H3 _ ⟨_, _, h, _⟩ => .inl (.inl h)) ?_ ?_
      · rintro j v H9 H3 hj ⟨us, s3, hp3, hD3, hU⟩ ⟨rfl, hv⟩
        obtain ⟨b, hb, rfl⟩ := getElem?_map_some hv
        refine ⟨rfl, yesI ⟨_, rfl, _, rfl, by show 2 ≤ sizeLine; decide, fun t ht => ?_⟩⟩
        have st : Same H3 (upd H3 t (.tup [.str n, .str b])) := same_new ht
        have hj6 : j < 6 := by have := lt_of_get hb; rw [List.length_drop] at this; omega
        refine ⟨_, st _ _ hD3, by rw [List.length_map, hU.1, List.length_append, List.length_map, List.length_take]; exact small1000 (by omega), us ++ [t], same_upd (s3.trans st) hD, ?_, by rw [upd_same, List.map_append]; rfl, ?_⟩
        · rw [upd_ne (ne_of (st _ _ hp3) (st _ _ hD3) (by intro z; cases z))]; exact st _ _ hp3
        · rw [take_of_get hb, List.map_append, ← List.append_assoc]
          exact Each.snoc ((hU.mono st).put (st _ _ hD3)) (by rw [upd_ne (ne_of (upd_same (H := H3) (a := t)) (st _ _ hD3) (by intro z; cases z))]; exact upd_same)
      · rintro H3 ⟨us, s3, hp3, hD3, hU⟩
        rw [List.length_map, List.take_length] at hU
        exact ⟨us, _, s3, hD3, hU, by rw [List.append_assoc, ← hg]; rfl⟩
    · rintro H2 ⟨rs, ps, s2, hD2, hP, hg⟩
      rw [List.length_map, List.drop_length] at hg
      exact k _ _ rs s2 hD hD2 (by rw [← hg]; simpa [pairsL] using hP)
/-! ### texts in order -/
abbrev leS (a b : Str) : Prop := a.cps.toList ≤ b.cps.toList
abbrev ltS (a b : Str) : Prop := a.cps.toList < b.cps.toList
abbrev Srt (l : List Str) : Prop := l.Pairwise ltS
theorem str_ext {a b : Str} (h : a.cps.toList = b.cps.toList) : a = b := by
  cases a; cases b; congr 1; exact Array.toList_inj.mp h
theorem ltS_irrefl (a : Str) : ¬ ltS a a := List.lt_irrefl _
theorem ltS_ne {a b : Str} (h : ltS a b) : a ≠ b := fun e => ltS_irrefl b (e ▸ h)
theorem ltS_asymm {a b : Str} (h : ltS a b) : ¬ ltS b a := fun k => ltS_irrefl a (List.lt_trans h k)
theorem ltS_or {a b : Str} (n : a ≠ b) : ltS a b ∨ ltS b a := by
  by_cases h : ltS a b
  · exact .inl h
  · by_cases k : ltS b a
    · exact .inr k
    · exact absurd (str_ext (List.le_antisymm (List.not_lt.mp k) (List.not_lt.mp h))) n
theorem rising_pw : ∀ {l : List Str} {p : Str}, PyProof.Rows.risingS p l = true → (p :: l).Pairwise leS
  | [], p, _ => .cons (by simp) .nil
  | x :: r, p, h => by
    have h' : (!ltCps x.cps.toList p.cps.toList && PyProof.Rows.risingS x r) = true := h
    rw [Bool.and_eq_true] at h'
    have h2 := rising_pw h'.2
    have h1 : leS p x := by
      have z := h'.1
      rw [PyProof.Rows.ltCps_eq] at z
      exact List.not_lt.mp (by simpa using z)
    refine .cons (fun y hy => ?_) h2
    rcases List.mem_cons.mp hy with rfl | hy
    · exact h1
    · exact List.le_trans h1 (List.rel_of_pairwise_cons h2 hy)
theorem sorted_pw {l : List Str} (h : PyProof.Rows.sortedS l = true) : l.Pairwise leS := by
  cases l with
  | nil => exact .nil
  | cons x r => exact rising_pw h
theorem Srt.le {l : List Str} (h : Srt l) : l.Pairwise leS := List.Pairwise.imp (fun z => List.not_lt.mp (ltS_asymm z)) h
theorem sorted_eq {ys xs : List Str} (p : ys.Perm xs) (h : PyProof.Rows.sortedS ys = true) (s : Srt xs) : ys = xs :=
  List.Perm.eq_of_pairwise (le := leS) (fun a b _ _ h1 h2 => str_ext (List.le_antisymm h1 h2)) (sorted_pw h) s.le p
theorem srt_of {ys : List Str} (h : PyProof.Rows.sortedS ys = true) (n : ys.Nodup) : Srt ys := by
  have z := List.Pairwise.and (sorted_pw h) n
  exact z.imp fun ⟨h1, h2⟩ => (ltS_or h2).elim id fun k => absurd (str_ext (List.le_antisymm h1 (List.not_lt.mp (ltS_asymm k)))) h2
theorem Srt.nodup {l : List Str} (h : Srt l) : l.Nodup := List.Pairwise.imp (fun z => ltS_ne z) h
theorem not_mem_take {l : List Str} (h : l.Nodup) {i : Nat} {x : Str} (hx : l[i]? = some x) : x ∉ l.take i := by
  intro k
  have e : l.take i ++ x :: l.drop (i + 1) = l := by rw [← drop_of_get hx, List.take_append_drop]
  rw [← e] at h
  exact (List.nodup_append.mp h).2.2 x k x (List.mem_cons_self ..) rfl
theorem cut_take {xs : List V} {i : Nat} (h : i ≤ xs.length) : cutV xs none (some (i : Int)) = xs.take i := by
  unfold cutV
  rw [HT.sIx_none, HT.sIx_nat, List.drop_zero, Nat.sub_zero, Nat.min_eq_left h]
end
end T85
end

section
set_option Elab.async false
set_option linter.all false
set_option maxRecDepth 100000
set_option maxHeartbeats 4000000
namespace T85
open PySem PySem.Spec L2 Fx
section
variable {P : Program} {w : World} {K : PySem.W.Frag} {mg : Str → Option Value} {base : Heap}
/-! ### a Book -/
abbrev Rs := Str → Str → Option Int
def kvOf (R : Rs) (ps : List (Str × Str)) : List (List Key × V) := ps.map fun p => ([.inr p.1, .inr p.2], optI (R p.1 p.2))
/-- a Book at p, its tuple of names at t, its dict at q -/
structure BookAt (K : PySem.W.Frag) (H : Hp) (p t q : Addr) (names : List Str) (R : Rs) : Prop where
  ins : ∃ dx, H p = some (.ins (He.ga K "Book") dx [("own_fixers", .ref t), ("own_rests", .ref q)])
  tups : H t = some (.tup (names.map V.str))
  dic : H q = some (.dT (kvOf R (pairsL names)))
theorem BookAt.mono {H H' : Hp} {p t q : Addr} {names : List Str} {R : Rs} (b : BookAt K H p t q names R) (s : Same H H') : BookAt K H' p t q names R :=
  ⟨let ⟨dx, h⟩ := b.ins; ⟨dx, s _ _ h⟩, s _ _ b.tups, s _ _ b.dic⟩
theorem BookAt.tup {H : Hp} {p t q : Addr} {names : List Str} {R : Rs} (b : BookAt K H p t q names R) : SqT K H t (names.map V.str) := .inl (.inl b.tups)
theorem kv_get (R : Rs) (a b : Str) : ∀ {ps : List (Str × Str)}, (a, b) ∈ ps → valV (kvOf R ps) [.inr a, .inr b] = some (optI (R a b))
  | p :: ps, h => by
    by_cases e : p = (a, b)
    · subst e; exact valV_pos rfl
    · have h2 : (a, b) ∈ ps := (List.mem_cons.mp h).elim (fun z => absurd z.symm e) id
      have e2 : ¬ ([Sum.inr p.1, Sum.inr p.2] : List Key) = [.inr a, .inr b] := fun z => by
        simp at z; exact e (Prod.ext z.1 z.2)
      show valV (_ :: kvOf R ps) _ = _
      rw [valV_neg e2]; exact kv_get R a b h2
theorem kv_none (R : Rs) (a b : Str) : ∀ {ps : List (Str × Str)}, (a, b) ∉ ps → valV (kvOf R ps) [.inr a, .inr b] = none
  | [], _ => rfl
  | p :: ps, h => by
    have e2 : ¬ ([Sum.inr p.1, Sum.inr p.2] : List Key) = [.inr a, .inr b] := fun z => by
      simp at z; exact h (by rw [← z.1, ← z.2]; exact List.mem_cons_self ..)
    show valV (_ :: kvOf R ps) _ = _
    rw [valV_neg e2]; exact kv_none R a b fun z => h (List.mem_cons_of_mem _ z)
def putR (R : Rs) (a b : Str) (r : Option Int) : Rs := fun x y => if x = a ∧ y = b then r else R x y
theorem kv_put {R : Rs} {a b : Str} {r : Option Int} {ps : List (Str × Str)} (h : (a, b) ∈ ps) : putK (kvOf R ps) [.inr a, .inr b] (optI r) = kvOf (putR R a b r) ps := by
  unfold putK
  rw [if_pos (by
    rw [List.any_eq_true]
    exact ⟨([.inr a, .inr b], optI (R a b)), List.mem_map.mpr ⟨(a, b), h, rfl⟩, by simp⟩)]
  unfold kvOf
  rw [List.map_map]
  refine List.map_congr_left fun p _ => ?_
  show (if ([Sum.inr p.1, Sum.inr p.2] : List Key) = [.inr a, .inr b] then _ else _) = _
  unfold putR
  by_cases e : p.1 = a ∧ p.2 = b
  · rw [if_pos (by rw [e.1, e.2]), if_pos e]
  · rw [if_neg (fun z => by simp at z; exact e z), if_neg e]
theorem kv_getP (R : Rs) {p : Str × Str} {ps : List (Str × Str)} (h : p ∈ ps) : valV (kvOf R ps) [.inr p.1, .inr p.2] = some (optI (R p.1 p.2)) := kv_get R p.1 p.2 h
theorem kv_putP {R : Rs} {p : Str × Str} {r : Option Int} {ps : List (Str × Str)} (h : p ∈ ps) : putK (kvOf R ps) [.inr p.1, .inr p.2] (optI r) = kvOf (putR R p.1 p.2 r) ps := kv_put h
/-- the two in order -/
def ordP (a b : Str) : Str × Str := if a.cps.toList < b.cps.toList then (a, b) else (b, a)
theorem mem_pairs {a b : Str} : ∀ {l : List Str}, Srt l → a ∈ l → b ∈ l → ltS a b → (a, b) ∈ pairsL l
  | x :: r, s, ha, hb, h => by
    have s2 := (List.pairwise_cons.mp s).2
    have s1 := (List.pairwise_cons.mp s).1
    rw [pairsL, List.mem_append]
    rcases List.mem_cons.mp ha with e | ha2
    · rcases List.mem_cons.mp hb with e2 | hb2
      · exact absurd h (by rw [e, e2]; exact ltS_irrefl _)
      · exact .inl (List.mem_map.mpr ⟨b, hb2, by rw [e]⟩)
    · rcases List.mem_cons.mp hb with e2 | hb2
      · exact absurd h (by rw [e2]; exact ltS_asymm (s1 a ha2))
      · exact .inr (mem_pairs s2 ha2 hb2 h)
theorem ord_mem {a b : Str} {l : List Str} (s : Srt l) (ha : a ∈ l) (hb : b ∈ l) (n : a ≠ b) : ordP a b ∈ pairsL l := by
  unfold ordP
  by_cases h : ltS a b
  · rw [if_pos h]; exact mem_pairs s ha hb h
  · rw [if_neg h]; exact mem_pairs s hb ha ((ltS_or n).resolve_left h)
theorem pairsL_mem {l : List Str} {p : Str × Str} : p ∈ pairsL l → p.1 ∈ l ∧ p.2 ∈ l := by
  induction l with
  | nil => intro h; cases h
  | cons x r ih =>
    intro h
    rw [pairsL, List.mem_append] at h
    rcases h with h | h
    · obtain ⟨b, hb, rfl⟩ := List.mem_map.mp h
      exact ⟨List.mem_cons_self .., List.mem_cons_of_mem _ hb⟩
    · exact ⟨List.mem_cons_of_mem _ (ih h).1, List.mem_cons_of_mem _ (ih h).2⟩
theorem pairsL_nodup : ∀ {l : List Str}, Srt l → (pairsL l).Nodup
  | [], _ => .nil
  | x :: r, s => by
    have s2 := (List.pairwise_cons.mp s).2
    have s1 := (List.pairwise_cons.mp s).1
    rw [pairsL, List.nodup_append]
    refine ⟨?_, pairsL_nodup s2, ?_⟩
    · unfold List.Nodup
      rw [List.pairwise_map]
      exact (Srt.nodup s2).imp fun h e => h (Prod.mk.inj e).2
    · intro a ha b hb e
      subst e
      obtain ⟨c, _, rfl⟩ := List.mem_map.mp ha
      exact ltS_irrefl x (s1 x (pairsL_mem hb).1)
theorem kv_small {R : Rs} {names : List Str} (h : names.length ≤ 6) : (kvOf R (pairsL names)).length < sizeLine := by
  have := pairsL_len h
  unfold kvOf; rw [List.length_map]; exact small1000 (by omega)
def spPairOf (K : PySem.W.Frag) : Sp := fun vs H Q _ => ∃ (p t q : Addr) (names : List Str) (R : Rs) (a b : Str), vs = [.ref p, .str a, .str b] ∧ BookAt K H p t q names R ∧ a ∈ names ∧ b ∈ names ∧ a ≠ b ∧
  ∀ H' u, Same H H' → H u = none → H' u = some (.tup [.str (ordP a b).1, .str (ordP a b).2]) → Q (.ref u) H'
theorem ok_Book_pair_of (T : Says w K mg) : Ok P w K mg base 1 ("Book", some "pair_of") ["self", "a", "b"] (spPairOf K) := by
  refine FunD.ok (d_Book_pair_of T) sc_Book_pair_of (fun vs H Q E h => ?len) (fun cdv A outer s H vs Q E hr h => ?bod)
  case len =>
    obtain ⟨p, t, q, names, R, a, b, rfl, _⟩ := h; rfl
  case bod =>
    obtain ⟨p, t, q, names, R, a, b, rfl, hB, ha, hb, hn, k⟩ := h
    refine ⟨_, PSs.nox (pss_cons (ps_for PassesOwn.never rfl (k_pit (K := K) (by rfl) (pe_tup (pa_cons (pv 1) (pa_cons (pv 2) pa_nil)))) (pg_name (i := 3) sc_Book_pair_of.nd rfl (Or.inl rfl))
      (pss_one (ps_if (pw_or (pt_not (pt_val (pe_callB (k_isi (K := K) (by rfl)) (by rfl) (T.free_ 0) (by decide +kernel) (pa_cons (pv 3) (pa_cons (pe_bltn (v := .ty "str") (u := .type "str") (by rfl) (T.free_ 5) (by decide +kernel) rfl) pa_nil))))) (pw_or1 (pt_cmpR (k_notIn (K := K) (by rfl)) (pv 3) (k_fld (K := K) (by rfl) (pv 0) rfl) (by rfl)))).pt (pss_one ps_never) pss_nil)))
      (pss_cons (ps_if (pt_cmpR op_eq (pv 1) (pv 2) (nomark _)) (pss_one ps_never) pss_nil)
      (pss_one (ps_ret (pe_ifExp (pt_cmpR op_lt_str (pv 1) (pv 2) (nomark _)) (pe_tup (pa_cons (pv 1) (pa_cons (pv 2) pa_nil))) (pe_tup (pa_cons (pv 2) (pa_cons (pv 1) pa_nil)))))))), ?_⟩
    refine ⟨_, rfl, _, rfl, by show 2 ≤ sizeLine; decide, fun u hu1 => ⟨u, rfl, ⟨_, .inl (.inl upd_same)⟩, ?_⟩⟩
    have su : Same H (upd H u (.tup [.str a, .str b])) := same_new hu1
    refine for_tup (xs := [.str a, .str b]) (fun i σ H2 => ∃ (v3 : Option V), σ = [some (.ref p), some (.str a), some (.str b), v3] ∧ H2 = upd H u (.tup [.str a, .str b])) ⟨none, rfl, rfl⟩ (fun i σ H2 _ ⟨_, _, e⟩ => by subst e; exact .inl (.inl upd_same)) ?_ ?_
    · rintro i y σ H2 hy ⟨v3, rfl, rfl⟩
      have hy' : ∃ z : Str, y = .str z ∧ z ∈ names := by
        match i, hy with
        | 0, h => cases h; exact ⟨a, rfl, ha⟩
        | 1, h => cases h; exact ⟨b, rfl, hb⟩
      obtain ⟨z, rfl, hz⟩ := hy'
      have hB' := hB.mono su
      obtain ⟨dx, hi⟩ := hB'.ins
      refine ⟨_, rfl, _, _, _, _, true, rfl, .ty "str", .base (.str z), kit_ty (by decide +kernel), true, rfl, iteF ?_⟩
      refine ⟨_, rfl, _, rfl, p, _, dx, _, .ref t, rfl, hi, cl_Book T, na_Book_own_fixers T, rfl, t, _, rfl, .inr hB'.tup, rfl, flat_strs _, false, ?_, iteF ⟨_, rfl, rfl⟩⟩
      show V.bl (!inV (.str z) (names.map V.str)) = _
      rw [inV_str, decide_eq_true hz]; rfl
    · rintro σ H2 ⟨v3, rfl, rfl⟩
      refine ⟨_, rfl, _, rfl, rfl, false, ?_, iteF ?_⟩
      · show V.bl (decide (V.str a = V.str b)) = _
        rw [decide_eq_false (fun e => hn (V.str.inj e))]
      · have fin : ∀ (c d : Str) (w2 : Addr), (c, d) = ordP a b → (upd H u (.tup [.str a, .str b])) w2 = none → Q (.ref w2) (upd (upd H u (.tup [.str a, .str b])) w2 (.tup [.str c, .str d])) := by
          intro c d w2 e hw2
          exact k _ _ (same_upd su (su.free hw2)) (su.free hw2) (by rw [upd_same, ← e])
        refine ⟨_, rfl, _, rfl, a, b, rfl, rfl, _, rfl, ?_⟩
        by_cases hlt : a.cps.toList < b.cps.toList
        · rw [decide_eq_true hlt]
          exact iteT ⟨_, rfl, _, rfl, by show 2 ≤ sizeLine; decide, fun w2 hw2 => fin a b w2 (by unfold ordP; rw [if_pos hlt]) hw2⟩
        · rw [decide_eq_false hlt]
          exact iteF ⟨_, rfl, _, rfl, by show 2 ≤ sizeLine; decide, fun w2 hw2 => fin b a w2 (by unfold ordP; rw [if_neg hlt]) hw2⟩
def spPut (K : PySem.W.Frag) : Sp := fun vs H Q _ => ∃ (p t q : Addr) (names : List Str) (R : Rs) (a b : Str) (r : Option Int), vs = [.ref p, .str a, .str b, optI r] ∧ BookAt K H p t q names R ∧ a ∈ names ∧ b ∈ names ∧ a ≠ b ∧ Srt names ∧ names.length ≤ 6 ∧ okRest r ∧
  ∀ H', SameX [q] H H' → H' q = some (.dT (kvOf (putR R (ordP a b).1 (ordP a b).2 r) (pairsL names))) → Q (.ref p) H'
theorem ok_Book_put (T : Says w K mg) : Ok P w K mg base 3 ("Book", some "put") ["self", "a", "b", "rest"] (spPut K) := by
  have G_Book_pair_of := FnOk.mono (k := 2) (ok_Book_pair_of (P := P) (w := w) (base := base) T) (by decide)
  have G_is_rest := FnOk.mono (k := 2) (ok_is_rest (P := P) (w := w) (base := base) T) (by decide)
  refine FunD.ok (d_Book_put T) sc_Book_put (fun vs H Q E h => ?len) (fun cdv A outer s H vs Q E hr h => ?bod)
  case len =>
    obtain ⟨p, t, q, names, R, a, b, r, rfl, _⟩ := h; rfl
  case bod =>
    obtain ⟨p, t, q, names, R, a, b, r, rfl, hB, ha, hb, hn, hS, hl, hok, k⟩ := h
    have hu := hu_of hr
    refine ⟨_, PSs.nox (pss_cons (ps_set (i := 4) sc_Book_put.nd rfl (Or.inl rfl) (pe_meth (pv 0) (T.cls_ 24) (T.meth_ 23) G_Book_pair_of hr (b_Book_pair_of T) .nil pass0 (pa_cons (pv 1) (pa_cons (pv 2) pa_nil))))
      (pss_cons (ps_if (pt_not (pt_val (pe_call G_is_rest hr (by rfl) (T.glo_ 25) (d_is_rest T).kp (b_is_rest T) .nil pass0 (pa_cons (pv 3) pa_nil)))) (pss_one ps_never) pss_nil)
      (pss_cons (ps_dput hu (k_fld (K := K) (by rfl) (pv 0) rfl) (pv 4) (pv 3) rfl)
      (pss_one (ps_ret (pv 0)))))), ?_⟩
    obtain ⟨dx, hi⟩ := hB.ins
    refine ⟨_, rfl, p, dx, _, rfl, hi, rfl, _, rfl, _, rfl, p, t, q, names, R, a, b, rfl, hB, ha, hb, hn, fun H1 u s1 hnu hu1 => ?_⟩
    refine ⟨_, rfl, r, rfl, hok, true, rfl, iteF ?_⟩
    have hB1 := hB.mono s1
    obtain ⟨dx1, hi1⟩ := hB1.ins
    refine ⟨_, rfl, _, rfl, p, _, dx1, _, _, rfl, hi1, cl_Book T, na_Book_own_rests T, rfl, _, rfl, q, _, rfl, DPut.t (k := [.inr (ordP a b).1, .inr (ordP a b).2]) hB1.dic hu1 (kv_small hl), _, rfl, ?_⟩
    refine k _ (samex_upd (same_toX s1 _) (.inl (by simp))) ?_
    rw [upd_same, kv_putP (ord_mem hS ha hb hn)]
def spSetItem (K : PySem.W.Frag) : Sp := fun vs H Q _ => ∃ (p t q u : Addr) (names : List Str) (R : Rs) (a b : Str) (r : Option Int), vs = [.ref p, .ref u, optI r] ∧ SqT K H u [.str a, .str b] ∧ BookAt K H p t q names R ∧ a ∈ names ∧ b ∈ names ∧ a ≠ b ∧ Srt names ∧ names.length ≤ 6 ∧ okRest r ∧
  ∀ H', SameX [q] H H' → H' q = some (.dT (kvOf (putR R (ordP a b).1 (ordP a b).2 r) (pairsL names))) → Q .non H'
theorem ok_Bookdd_setitemdd (T : Says w K mg) : Ok P w K mg base 4 ("Book", some "__setitem__") ["self", "at", "worth"] (spSetItem K) := by
  have G_Book_put := FnOk.mono (k := 3) (ok_Book_put (P := P) (w := w) (base := base) T) (by decide)
  refine FunD.ok (d_Bookdd_setitemdd T) sc_Bookdd_setitemdd (fun vs H Q E h => ?len) (fun cdv A outer s H vs Q E hr h => ?bod)
  case len =>
    obtain ⟨p, t, q, u, names, R, a, b, r, rfl, _⟩ := h; rfl
  case bod =>
    obtain ⟨p, t, q, u, names, R, a, b, r, rfl, hu0, hB, ha, hb, hn, hS, hl, hok, k⟩ := h
    have hu := hu_of hr
    obtain ⟨dx, hi⟩ := hB.ins
    refine ⟨_, PSs.nox (pss_cons (ps_asg (pv 1) (k_tup (K := K) (n := 2) (by rfl) rfl (pgs_cons (pg_name (i := 3) sc_Bookdd_setitemdd.nd rfl (Or.inl rfl)) (pgs_cons (pg_name (i := 4) sc_Bookdd_setitemdd.nd rfl (Or.inl rfl)) pgs_nil))))
      (pss_one (ps_expr (pe_meth (pv 0) (T.cls_ 24) (T.meth_ 27) G_Book_put hr (b_Book_put T) .nil pass0 (pa_cons (pv 3) (pa_cons (pv 4) (pa_cons (pv 2) pa_nil))))))), ?_⟩
    refine ⟨_, rfl, u, _, rfl, hu0, rfl, _, _, rfl, _, _, rfl, rfl, ?_⟩
    refine ⟨_, rfl, p, dx, _, rfl, hi, rfl, _, rfl, _, rfl, _, rfl, p, t, q, names, R, a, b, r, rfl, hB, ha, hb, hn, hS, hl, hok, fun H1 s1 h1 => k _ s1 h1⟩
/-! ### Book.__init__ -/
def spBookInit (K : PySem.W.Frag) : Sp := fun vs H Q _ => ∃ (p dx a : Addr) (fs : List Str), vs = [.ref p, .ref a, .non] ∧ H p = some (.ins (He.ga K "Book") dx []) ∧ SqL K H a (fs.map V.str) ∧ 1 ≤ fs.length ∧ fs.length ≤ 6 ∧ (∀ x ∈ fs, NameOk x) ∧ fs.Nodup ∧
  ∀ H' t q ys, SameX [p] H H' → H q = none → ys.Perm fs → Srt ys → BookAt K H' p t q ys (fun _ _ => none) → Q .non H'
theorem ok_Bookdd_initdd (T : Says w K mg) : Ok P w K mg base 2 ("Book", some "__init__") ["self", "fixers", "rests"] (spBookInit K) := by
  have G_is_list := FnOk.mono (k := 1) (ok_is_list (P := P) (w := w) (base := base) T) (by decide)
  have G_is_name := FnOk.mono (k := 1) (ok_is_name (P := P) (w := w) (base := base) T) (by decide)
  have G_pairs_among := FnOk.mono (k := 1) (ok_pairs_among (P := P) (w := w) (base := base) T) (by decide)
  refine FunD.ok (d_Bookdd_initdd T) sc_Bookdd_initdd (fun vs H Q E h => ?len) (fun cdv A outer s H vs Q E hr h => ?bod)
  case len =>
    obtain ⟨p, dx, a, fs, rfl, _⟩ := h; rfl
  case bod =>
    obtain ⟨p, dx, a, fs, rfl, hi, ha, hl1, hl, hN, hD, k⟩ := h
    have hu := hu_of hr
    have hu0 := hu0_of hu
    refine ⟨_, PSs.nox (pss_cons (ps_if (pw_or (pt_not (pt_val (pe_call G_is_list hr (by rfl) (T.glo_ 11) (d_is_list T).kp (b_is_list T) .nil pass0 (pa_cons (pv 1) pa_nil)))) (pw_or1 (pt_cmpR op_eq (pe_callB (k_len (K := K) (by rfl)) (by rfl) (T.free_ 6) (by decide +kernel) (pa_cons (pv 1) pa_nil)) pe_int (nomark _)))).pt (pss_one ps_never) pss_nil)
      (pss_cons (ps_for PassesOwn.never rfl (k_pienum (K := K) (by rfl) (by rfl) (T.free_ 12) (pa_cons (pv 1) pa_nil)) (k_tup (K := K) (n := 2) (by rfl) rfl (pgs_cons (pg_name (i := 3) sc_Bookdd_initdd.nd rfl (Or.inl rfl)) (pgs_cons (pg_name (i := 4) sc_Bookdd_initdd.nd rfl (Or.inl rfl)) pgs_nil)))
      (pss_one (ps_if (pw_or (pt_not (pt_val (pe_call G_is_name hr (by rfl) (T.glo_ 13) (d_is_name T).kp (b_is_name T) .nil pass0 (pa_cons (pv 4) pa_nil)))) (pw_or1 (pt_cmpR (k_in (K := K) (by rfl)) (pv 4) (pe_slice (k_slL (K := K) (by rfl)) (pv 1) po_none (po_some (pv 3))) (by rfl)))).pt (pss_one ps_never) pss_nil)))
      (pss_cons (ps_if (pt_cmpR op_gt (pe_callB (k_len (K := K) (by rfl)) (by rfl) (T.free_ 6) (by decide +kernel) (pa_cons (pv 1) pa_nil)) (pe_globI (by rfl) (T.int_ 19)) (nomark _)) (pss_one ps_never) pss_nil)
      (pss_cons (ps_fld (pv 0) (pe_callTy (k_tupleOf (K := K) (by rfl)) (by rfl) (T.free_ 4) (by decide +kernel) (pa_cons (pe_callB (k_sortedS (K := K) (by rfl)) (by rfl) (T.free_ 20) (by decide +kernel) (pa_cons (pv 1) pa_nil)) pa_nil)) rfl)
      (pss_cons (ps_set (i := 5) sc_Bookdd_initdd.nd rfl (Or.inr rfl) (pe_ifExp (pt_cmpR op_isN (pv 2) pe_non (nomark _)) pe_dnewT (pv 2)))
      (pss_one (ps_fld (pv 0) (pe_dcP (o0 := .dT []) (own := [("pair", 6)]) (.inr rfl) rfl hu0 sc_Bookdd_initdd.nd (k_pil (K := K) (by rfl) (pe_call G_pairs_among hr (by rfl) (T.glo_ 22) (d_pairs_among T).kp (b_pairs_among T) .nil pass0 (pa_cons (k_fld (K := K) (by rfl) (pv 0) rfl) pa_nil))) (blkOk_by (N := N_Bookdd_initdd) (sc := defScope s_Bookdd_initdd) (by decide +kernel)) (fun _ _ _ _ _ => (pg_name (i := 6) sc_Bookdd_initdd.nd rfl (Or.inl rfl))) (fun _ _ _ _ _ => (pv 6)) (fun _ _ _ _ _ => (pe_dget2 hu (pv 5) (pv 6) pe_non ⟨rfl, rfl, rfl, rfl⟩))) rfl))))))), ?_⟩
    refine ⟨_, rfl, a, rfl, .inl ⟨_, ha⟩, fun H1 s1 => ⟨true, rfl, iteF ⟨_, rfl, a, _, rfl, .inl (seq_mono s1 ha), rfl, false, ?_, iteF ⟨_, rfl, a, _, rfl, seq_mono s1 ha, ?_⟩⟩⟩⟩
    · show V.bl (decide (V.int (((fs.map V.str).length : Nat) : Int) = V.int 0)) = _
      rw [decide_eq_false (fun e => by have := V.int.inj e; rw [List.length_map] at this; omega)]
    refine for_enumL (xs := fs.map V.str) (fun i σ H2 => ∃ (v3 v4 v5 v6 : Option V), σ = [some (.ref p), some (.ref a), some .non, v3, v4, v5, v6] ∧ Same H H2)
      ⟨none, none, none, none, rfl, s1⟩ (fun i σ H2 _ ⟨_, _, _, _, _, s⟩ => seq_mono s ha) ?_ ?_
    · rintro i y σ H2 T' hy ⟨v3, v4, v5, v6, rfl, s2⟩ hT
      obtain ⟨n, hn, rfl⟩ := getElem?_map_some hy
      have sT : Same H (upd H2 T' (.tup [.int (i : Nat), .str n])) := same_upd s2 (s2.free hT)
      refine ⟨_, _, rfl, _, _, rfl, rfl, ?_⟩
      refine ⟨_, rfl, n, true, rfl, name_len (hN n (List.mem_of_getElem? hn)), name_true (hN n (List.mem_of_getElem? hn)), fun H3 s3 => ⟨true, rfl, iteF ?_⟩⟩
      have hi : i < fs.length := lt_of_get hn
      refine ⟨_, rfl, _, rfl, _, rfl, _, rfl, a, _, rfl, seq_mono (sT.trans s3) ha, fun p2 hp2 => ?_⟩
      rw [cut_take (by rw [List.length_map]; omega), ← List.map_take]
      refine ⟨p2, _, rfl, .inl (SqL.of upd_same), rfl, flat_strs _, false, ?_, iteF ⟨_, _, _, _, rfl, same_upd (sT.trans s3) ((sT.trans s3).free hp2)⟩⟩
      show V.bl (inV (.str n) ((fs.take i).map V.str)) = _
      rw [inV_str, decide_eq_false (not_mem_take hD hn)]
    · rintro σ H2 ⟨v3, v4, v5, v6, rfl, s2⟩
      refine ⟨_, rfl, a, _, rfl, .inl (seq_mono s2 ha), _, _, rfl, rfl, false, ?_, iteF ?_⟩
      · show V.bl (decide ((6 : Int) < (((fs.map V.str).length : Nat) : Int))) = _
        rw [decide_eq_false (by rw [List.length_map]; omega)]
      -- own_fixers
      refine ⟨_, rfl, a, fs, rfl, seq_mono s2 ha, by omega, fun ys pn hperm hsort hpn => ⟨pn, _, rfl, .inl ⟨SqL.of upd_same, fun t ht => ?_⟩⟩⟩
      have hS : Srt ys := srt_of hsort (hperm.nodup_iff.mpr hD)
      have s3 : Same H2 (upd (upd H2 pn (.lst (ys.map V.str))) t (.tup (ys.map V.str))) := same_upd (same_new hpn) ((same_new hpn).free ht)
      generalize hH3 : upd (upd H2 pn (.lst (ys.map V.str))) t (.tup (ys.map V.str)) = H3 at s3 ⊢
      have ht3 : H3 t = some (.tup (ys.map V.str)) := by rw [← hH3]; exact upd_same
      have hi3 := s3 _ _ (s2 _ _ hi)
      have htp : t ≠ p := fun e => by rw [e, hi3] at ht3; cases ht3
      refine ⟨_, rfl, p, _, dx, _, rfl, hi3, cl_Book T, na_Book_own_fixers T, (by show 0 < 1000; decide), ?_⟩
      -- given
      refine ⟨_, rfl, rfl, true, rfl, iteT fun g hg => ?_⟩
      have hgp : g ≠ p := fun e => by rw [e, upd_same] at hg; cases hg
      have hg3 : H3 g = none := by rw [upd_ne hgp] at hg; exact hg
      have hgt : t ≠ g := fun e => by rw [e, hg3] at ht3; cases ht3
      have sX : SameX [p] H (upd (upd H3 p (.ins (He.ga K "Book") dx (putF "own_fixers" (.ref t) []))) g (.dT [])) := samex_upd (samex_upd (same_toX (s2.trans s3) _) (.inl (by simp))) (.inr ((s2.trans s3).free hg3))
      generalize hH4 : upd (upd H3 p (.ins (He.ga K "Book") dx (putF "own_fixers" (.ref t) []))) g (.dT []) = H4 at sX
      have hi4 : H4 p = some (.ins (He.ga K "Book") dx [("own_fixers", .ref t)]) := by rw [← hH4, upd_ne hgp.symm, upd_same]; rfl
      have hg4 : H4 g = some (.dT []) := by rw [← hH4]; exact upd_same
      have ht4 : H4 t = some (.tup (ys.map V.str)) := by rw [← hH4, upd_ne hgt, upd_ne htp]; exact ht3
      have hyl : ys.length ≤ 6 := by rw [hperm.length_eq]; exact hl
      -- own_rests
      refine ⟨_, rfl, p, _, dx, _, _, rfl, hi4, cl_Book T, na_Book_own_fixers T, rfl, t, ys, rfl, .inl (.inl ht4), hyl, fun H5 l rs s5 hl4 hL hP => ⟨l, rfl, ⟨_, SqL.of hL⟩, fun D hD5 => ?_⟩⟩
      refine lcw (walk_list (xs := rs.map V.ref)) (fun i H6 => Same H5 H6 ∧ H6 D = some (.dT (kvOf (fun _ _ => none) ((pairsL ys).take i))))
        ⟨same_new hD5, upd_same⟩ (fun i H6 _ h => SqL.of (h.1 _ _ hL)) ?_ ?_
      · rintro i v H6 H7 hi' ⟨s6, hD6⟩ ⟨rfl, hv⟩
        obtain ⟨r, hr1, rfl⟩ := getElem?_map_some hv
        obtain ⟨pr, hpr, hrp⟩ := hP.get hr1
        have hg6 := s6 _ _ (s5 _ _ hg4)
        have hr6 := s6 _ _ hrp
        have hil := lt_of_get hpr
        have hlen := pairsL_len hyl
        have hnm : pr ∉ (pairsL ys).take i := by
          intro kk
          have e : (pairsL ys).take i ++ pr :: (pairsL ys).drop (i + 1) = pairsL ys := by rw [← drop_of_get hpr, List.take_append_drop]
          have nd := pairsL_nodup hS
          rw [← e] at nd
          exact (List.nodup_append.mp nd).2.2 pr kk pr (List.mem_cons_self ..) rfl
        refine ⟨rfl, _, rfl, _, rfl, g, rfl, .inr ⟨[], .inl hg6⟩, _, rfl, none, DGet.t (k := [.inr pr.1, .inr pr.2]) hg6 hr6, ?_⟩
        refine ⟨_, DPut.t (k := [.inr pr.1, .inr pr.2]) hD6 hr6 (by unfold kvOf; rw [List.length_map, List.length_take]; exact small1000 (by omega)), same_upd s6 hD5, ?_⟩
        rw [upd_same, putK_new _ (kv_none _ _ _ hnm), take_of_get hpr]
        unfold kvOf
        rw [List.map_append]; rfl
      · rintro H6 ⟨s6, hD6⟩
        rw [List.length_map, hP.1, List.take_length] at hD6
        have hi6 := s6 _ _ (s5 _ _ hi4)
        have hDp : D ≠ p := fun e => by rw [e, s5 _ _ hi4] at hD5; cases hD5
        refine ⟨_, rfl, p, _, dx, _, rfl, hi6, cl_Book T, na_Book_own_rests T, (by show 1 < 1000; decide), ?_⟩
        have sE : SameX [p] H (upd H6 p (.ins (He.ga K "Book") dx (putF "own_rests" (.ref D) [("own_fixers", .ref t)]))) := samex_upd (sX.trans (same_toX (s5.trans s6) _)) (.inl (by simp))
        refine k _ t D ys sE ?_ hperm hS ⟨⟨dx, upd_same⟩, ?_, ?_⟩
        · cases e : H D with
          | none => rfl
          | some o => have z := s5 _ _ (sX D o (by simp [hDp]) e); rw [hD5] at z; cases z
        · rw [upd_ne htp]; exact s6 _ _ (s5 _ _ ht4)
        · rw [upd_ne hDp]; exact hD6
/-! ### Row -/
def spWantFew : Sp := fun vs H Q _ => ∃ i : Int, vs = [.int i] ∧ i ≤ 400 ∧ Q .non H
theorem ok_want_few_runs (T : Says w K mg) : Ok P w K mg base 1 ("want_few_runs", none) ["many"] (spWantFew) := by
  refine FunD.ok (d_want_few_runs T) sc_want_few_runs (fun vs H Q E h => ?len) (fun cdv A outer s H vs Q E hr h => ?bod)
  case len =>
    obtain ⟨i, rfl, _⟩ := h; rfl
  case bod =>
    obtain ⟨i, rfl, h1, k⟩ := h
    refine ⟨_, PSs.nox (pss_one (ps_if (pt_cmpR op_gt (pv 0) (pe_globI (by rfl) (T.int_ 10)) (nomark _)) (pss_one ps_never) pss_nil)), ?_⟩
    refine ⟨_, rfl, _, _, rfl, rfl, false, ?_, iteF k⟩
    show V.bl (decide (400 < i)) = _; rw [decide_eq_false (by omega)]
/-- a Row at p, its names in the tuple at t -/
def RowAt (K : PySem.W.Frag) (H : Hp) (p : Addr) (xs : List Str) : Prop := ∃ dx t, H p = some (.ins (He.ga K "Row") dx [("own_names", .ref t)]) ∧ SqT K H t (xs.map V.str)
theorem RowAt.mono {H H' : Hp} {p : Addr} {xs : List Str} (h : RowAt K H p xs) (s : Same H H') : RowAt K H' p xs := let ⟨dx, t, h1, h2⟩ := h; ⟨dx, t, s _ _ h1, sqt_mono s h2⟩
def spRowInit (K : PySem.W.Frag) : Sp := fun vs H Q _ => ∃ (p dx a : Addr) (xs : List Str), vs = [.ref p, .ref a] ∧ H p = some (.ins (He.ga K "Row") dx []) ∧ (SqL K H a (xs.map V.str) ∨ SqT K H a (xs.map V.str)) ∧ xs.length ≤ 400 ∧ (∀ x ∈ xs, NameOk x) ∧
  ∀ H' t, SameX [p] H H' → H' p = some (.ins (He.ga K "Row") dx [("own_names", .ref t)]) → SqT K H' t (xs.map V.str) → Q .non H'
theorem seqt_mono {H H' : Hp} {a : Addr} {xs : List V} (s : Same H H') (h : SqL K H a xs ∨ SqT K H a xs) : SqL K H' a xs ∨ SqT K H' a xs := h.elim (fun z => .inl (seq_mono s z)) fun z => .inr (sqt_mono s z)
theorem sqt_ins {H : Hp} {p a C dx : Addr} {fs : List (Str × V)} {o : HO} {xs : List V} (h : SqT K H a xs) (hp : H p = some (.ins C dx fs)) : SqT K (upd H p o) a xs := by
  rcases h with (h | ⟨o', h⟩) | h
  · exact .inl (.inl (by rw [upd_ne (ne_of h hp (by intro z; cases z))]; exact h))
  · exact .inl (.inr ⟨o', by rw [upd_ne (ne_of h hp (by intro z; cases z))]; exact h⟩)
  · exact .inr h
theorem sql_ins {H : Hp} {p a C dx : Addr} {fs : List (Str × V)} {o : HO} {xs : List V} (h : SqL K H a xs) (hp : H p = some (.ins C dx fs)) : SqL K (upd H p o) a xs := by
  rcases h with (h | ⟨o', h⟩) | h
  · exact .inl (.inl (by rw [upd_ne (ne_of h hp (by intro z; cases z))]; exact h))
  · exact .inl (.inr ⟨o', by rw [upd_ne (ne_of h hp (by intro z; cases z))]; exact h⟩)
  · exact .inr h
theorem ok_Rowdd_initdd (T : Says w K mg) : Ok P w K mg base 2 ("Row", some "__init__") ["self", "names"] (spRowInit K) := by
  have G_is_list := FnOk.mono (k := 1) (ok_is_list (P := P) (w := w) (base := base) T) (by decide)
  have G_is_name := FnOk.mono (k := 1) (ok_is_name (P := P) (w := w) (base := base) T) (by decide)
  have G_want_few_runs := FnOk.mono (k := 1) (ok_want_few_runs (P := P) (w := w) (base := base) T) (by decide)
  refine FunD.ok (d_Rowdd_initdd T) sc_Rowdd_initdd (fun vs H Q E h => ?len) (fun cdv A outer s H vs Q E hr h => ?bod)
  case len =>
    obtain ⟨p, dx, a, xs, rfl, _⟩ := h; rfl
  case bod =>
    obtain ⟨p, dx, a, xs, rfl, hi, ha, hl, hN, k⟩ := h
    refine ⟨_, PSs.nox (pss_cons (ps_if (pt_not (pt_val (pe_call G_is_list hr (by rfl) (T.glo_ 11) (d_is_list T).kp (b_is_list T) .nil pass0 (pa_cons (pv 1) pa_nil)))) (pss_one ps_never) pss_nil)
      (pss_cons (ps_for PassesOwn.never rfl (pi_or (k_pienum (K := K) (by rfl) (by rfl) (T.free_ 12) (pa_cons (pv 1) pa_nil)) (k_pienumT (K := K) (by rfl) (by rfl) (T.free_ 12) (pa_cons (pv 1) pa_nil))) (k_tup (K := K) (n := 2) (by rfl) rfl (pgs_cons (pg_name (i := 2) sc_Rowdd_initdd.nd rfl (Or.inl rfl)) (pgs_cons (pg_name (i := 3) sc_Rowdd_initdd.nd rfl (Or.inl rfl)) pgs_nil)))
      (pss_one (ps_if (pt_not (pt_val (pe_call G_is_name hr (by rfl) (T.glo_ 13) (d_is_name T).kp (b_is_name T) .nil pass0 (pa_cons (pv 3) pa_nil)))) (pss_one ps_never) pss_nil)))
      (pss_cons (ps_expr (pe_call G_want_few_runs hr (by rfl) (T.glo_ 14) (d_want_few_runs T).kp (b_want_few_runs T) .nil pass0 (pa_cons (pe_callB (k_lenV (K := K) (by rfl)) (by rfl) (T.free_ 6) (by decide +kernel) (pa_cons (pv 1) pa_nil)) pa_nil)))
      (pss_one (ps_fld (pv 0) (pe_callTy (k_tupleOf (K := K) (by rfl)) (by rfl) (T.free_ 4) (by decide +kernel) (pa_cons (pv 1) pa_nil)) rfl))))), ?_⟩
    refine ⟨_, rfl, a, rfl, ha.elim (fun z => .inl ⟨_, z⟩) (fun z => .inr ⟨_, z⟩), fun H1 s1 => ⟨true, rfl, iteF ?_⟩⟩
    rcases ha with ha | ha
    · refine .inl ⟨_, rfl, a, _, rfl, seq_mono s1 ha, ?_⟩
      refine for_enumL (xs := xs.map V.str) (fun i σ H2 => ∃ (v2 v3 : Option V), σ = [some (.ref p), some (.ref a), v2, v3] ∧ Same H H2) ⟨none, none, rfl, s1⟩ (fun i σ H2 _ ⟨_, _, _, s⟩ => seq_mono s ha) ?_ ?_
      · rintro i y σ H2 T' hy ⟨v2, v3, rfl, s2⟩ hT
        obtain ⟨n, hn, rfl⟩ := getElem?_map_some hy
        exact ⟨_, _, rfl, _, _, rfl, rfl, _, rfl, n, true, rfl, name_len (hN n (List.mem_of_getElem? hn)), name_true (hN n (List.mem_of_getElem? hn)), fun H3 s3 => ⟨true, rfl, iteF ⟨_, _, rfl, (same_upd s2 (s2.free hT)).trans s3⟩⟩⟩
      · rintro σ H2 ⟨v2, v3, rfl, s2⟩
        have hi2 := s2 _ _ hi
        refine ⟨_, rfl, _, xs.length, rfl, .inl ⟨_, seq_mono s2 ha, by rw [List.length_map]⟩, _, rfl, by omega, ?_⟩
        refine ⟨_, rfl, a, _, rfl, .inl ⟨seq_mono s2 ha, fun t ht => ?_⟩⟩
        have s3 := same_upd (o := .tup (xs.map V.str)) s2 (s2.free ht)
        have tp : t ≠ p := fun e => by rw [e, hi2] at ht; cases ht
        refine ⟨_, rfl, p, _, dx, _, rfl, s3 _ _ hi, cl_Row T, na_Row_own_names T, (by show 0 < 1000; decide), ?_⟩
        exact k _ t (samex_upd (same_toX s3 _) (.inl (by simp))) upd_same (.inl (.inl (by rw [upd_ne tp]; exact upd_same)))
    · refine .inr ⟨_, rfl, a, _, rfl, sqt_mono s1 ha, ?_⟩
      refine for_enumT (xs := xs.map V.str) (fun i σ H2 => ∃ (v2 v3 : Option V), σ = [some (.ref p), some (.ref a), v2, v3] ∧ Same H H2) ⟨none, none, rfl, s1⟩ (fun i σ H2 _ ⟨_, _, _, s⟩ => sqt_mono s ha) ?_ ?_
      · rintro i y σ H2 T' hy ⟨v2, v3, rfl, s2⟩ hT
        obtain ⟨n, hn, rfl⟩ := getElem?_map_some hy
        exact ⟨_, _, rfl, _, _, rfl, rfl, _, rfl, n, true, rfl, name_len (hN n (List.mem_of_getElem? hn)), name_true (hN n (List.mem_of_getElem? hn)), fun H3 s3 => ⟨true, rfl, iteF ⟨_, _, rfl, (same_upd s2 (s2.free hT)).trans s3⟩⟩⟩
      · rintro σ H2 ⟨v2, v3, rfl, s2⟩
        have hi2 := s2 _ _ hi
        refine ⟨_, rfl, _, xs.length, rfl, .inr ⟨_, sqt_mono s2 ha, by rw [List.length_map]⟩, _, rfl, by omega, ?_⟩
        refine ⟨_, rfl, a, _, rfl, .inr ⟨sqt_mono s2 ha, ?_⟩⟩
        refine ⟨_, rfl, p, _, dx, _, rfl, hi2, cl_Row T, na_Row_own_names T, (by show 0 < 1000; decide), ?_⟩
        exact k _ a (samex_upd (same_toX s2 _) (.inl (by simp))) upd_same (sqt_ins (sqt_mono s2 ha) hi2)
theorem ok_Row_names (T : Says w K mg) : FnOk P w K mg base CX0 1 (gAd K ("Row", some "names")) (fdOf K (gAd K ("Row", some "names"))) ["self"] (getSp (He.ga K "Row") "own_names") := get_ok (x := "") (d_Row_names T) sc_Row_names rfl rfl (cl_Row T) (na_Row_own_names T)
theorem ok_Book_fixers (T : Says w K mg) : FnOk P w K mg base CX0 1 (gAd K ("Book", some "fixers")) (fdOf K (gAd K ("Book", some "fixers"))) ["self"] (getSp (He.ga K "Book") "own_fixers") := get_ok (x := "") (d_Book_fixers T) sc_Book_fixers rfl rfl (cl_Book T) (na_Book_own_fixers T)
end
end T85
end

section
set_option Elab.async false
set_option linter.all false
set_option maxRecDepth 100000
set_option maxHeartbeats 4000000
namespace T85
open PySem PySem.Spec L2 Fx
section
variable {P : Program} {w : World} {K : PySem.W.Frag} {mg : Str → Option Value} {base : Heap}
theorem ne_of_none' {H : Hp} {l D : Addr} {o : HO} (h : H l = some o) (hn : H D = none) : D ≠ l := fun e => by rw [e, h] at hn; cases hn
/-! ### texts as data -/
theorem dp_strs {H : Hp} : ∀ {l : List Str}, DpAll K H (l.map V.str) (l.map PyData.str)
  | [] => .nil
  | x :: r => .cons (.str x) (dp_strs (l := r))
theorem depth_strs : ∀ l : List Str, PyData.depthAll (l.map PyData.str) = 0
  | [] => rfl
  | x :: r => by
    show max 0 (PyData.depthAll (r.map PyData.str)) = 0
    rw [depth_strs r]; rfl
theorem can_strs : ∀ {l : List Str}, (∀ x ∈ l, PyData.strOk x = true) → PyData.canLayAll0 (l.map PyData.str) = true
  | [], _ => rfl
  | x :: r, h => by
    show (PyData.canLay0 (.str x) && PyData.canLayAll0 (r.map PyData.str)) = true
    rw [can_strs fun y hy => h y (List.mem_cons_of_mem _ hy), Bool.and_true]
    exact h x (List.mem_cons_self ..)
theorem shaped_tup {l : List Str} (h : ∀ x ∈ l, PyData.strOk x = true) : SeqAt.shaped (.tuple (l.map PyData.str)) = true := by
  show (PyData.canLayAll0 (l.map PyData.str) && decide (PyData.depthAll (l.map PyData.str) + 1 ≤ 64)) = true
  rw [can_strs h, depth_strs]; rfl
theorem shaped_lst {l : List Str} (h : ∀ x ∈ l, PyData.strOk x = true) : SeqAt.shaped (.list (l.map PyData.str)) = true := by
  show (PyData.canLayAll0 (l.map PyData.str) && decide (PyData.depthAll (l.map PyData.str) + 1 ≤ 64)) = true
  rw [can_strs h, depth_strs]; rfl
theorem letters_ok : ∀ c ∈ (Str.ofString "abcdefghijklmnopqrstuvwxyz").cps.toList, c < 0x110000 := by decide +kernel
theorem NameOk.ok {x : Str} (h : NameOk x) : PyData.strOk x = true := by
  unfold PyData.strOk
  rw [Array.all_eq_true]
  intro i hi
  exact decide_eq_true (letters_ok _ (h.2.2 _ (by simp)))
theorem eqvAll_strs : ∀ xs ys : List Str, PyData.eqvAll (xs.map PyData.str) (ys.map PyData.str) = decide (xs = ys)
  | [], [] => by simp [PyData.eqvAll]
  | [], y :: ys => by simp [PyData.eqvAll]
  | x :: xs, [] => by simp [PyData.eqvAll]
  | x :: xs, y :: ys => by
    rw [List.map_cons, List.map_cons, PyData.eqvAll, eqvAll_strs xs ys]
    by_cases e : x = y
    · subst e; simp [PyData.eqv]
    · simp [PyData.eqv, e]
theorem eqv_tup (xs ys : List Str) : PyData.eqv (.tuple (xs.map PyData.str)) (.tuple (ys.map PyData.str)) = decide (xs = ys) := by
  rw [PyData.eqv, eqvAll_strs]
theorem eqv_lst (xs ys : List Str) : PyData.eqv (.list (xs.map PyData.str)) (.list (ys.map PyData.str)) = decide (xs = ys) := by
  rw [PyData.eqv, eqvAll_strs]
/-! ### Row == Row -/
def spRowEq (K : PySem.W.Frag) : Sp := fun vs H Q _ => ∃ (a b : Addr) (xs ys : List Str), vs = [.ref a, .ref b] ∧ RowAt K H a xs ∧ RowAt K H b ys ∧ (∀ x ∈ xs, NameOk x) ∧ (∀ x ∈ ys, NameOk x) ∧ Q (.bl (decide (xs = ys))) H
theorem ok_Rowdd_eqdd (T : Says w K mg) : Ok P w K mg base 1 ("Row", some "__eq__") ["self", "other"] (spRowEq K) := by
  refine FunD.ok (d_Rowdd_eqdd T) sc_Rowdd_eqdd (fun vs H Q E h => ?len) (fun cdv A outer s H vs Q E hr h => ?bod)
  case len =>
    obtain ⟨a, b, xs, ys, rfl, _⟩ := h; rfl
  case bod =>
    obtain ⟨a, b, xs, ys, rfl, ⟨dx, t, hi, ht⟩, ⟨dx', t', hi', ht'⟩, hx, hy, k⟩ := h
    refine ⟨_, PSs.nox (pss_one (ps_ret (pe_and (pe_callB (k_isi (K := K) (by rfl)) (by rfl) (T.free_ 0) (by decide +kernel) (pa_cons (pv 1) (pa_cons (pe_glob (v := .ref (He.ga K "Row")) (by rfl) (T.glo_ 16) rfl) pa_nil))) (pe_one (pe_cmpR (k_eqD (K := K) (by rfl) hr.units) (k_fld (K := K) (by rfl) (pv 0) rfl) (k_fld (K := K) (by rfl) (pv 1) rfl) (nomark _)))))), ?_⟩
    refine ⟨_, rfl, .ref b, .ref (He.ga K "Row"), .ref (He.ga K "Row"), .ref (He.ga K "Row"), true, rfl, .own _, clsOk_ins (chk_Row T) (cl_Row T) hi', ?_, ?_⟩
    · unfold PySem.W.kitOne
      rw [if_pos (by simp)]
    refine ⟨true, rfl, iteT ?_⟩
    refine ⟨_, rfl, a, _, dx, _, _, rfl, hi, cl_Row T, na_Row_own_names T, rfl, _, rfl, b, _, dx', _, _, rfl, hi', cl_Row T, na_Row_own_names T, rfl, _, _, .tup ht dp_strs, .tup ht' dp_strs, shaped_tup (fun x h => (hx x h).ok), shaped_tup (fun x h => (hy x h).ok), ?_⟩
    rw [eqv_tup]
    exact k
/-! ### Book.pairs -/
abbrev Fc := Str × Str × Int
def factsL (R : Rs) (ps : List (Str × Str)) : List Fc := ps.filterMap fun p => (R p.1 p.2).map fun r => (p.1, p.2, r)
abbrev FactsAt (H : Hp) : List Addr → List Fc → Prop := Each fun r (x : Fc) => H r = some (.tup [.str x.1, .str x.2.1, .int x.2.2])
theorem factsL_len (R : Rs) (ps : List (Str × Str)) : (factsL R ps).length ≤ ps.length := List.length_filterMap_le _ _
theorem factsL_snoc (R : Rs) (l : List (Str × Str)) (p : Str × Str) : factsL R (l ++ [p]) = factsL R l ++ (match R p.1 p.2 with | none => [] | some r => [(p.1, p.2, r)]) := by
  unfold factsL
  rw [List.filterMap_append]
  cases h : R p.1 p.2 with
  | none => simp [h]
  | some r => simp [h]
theorem kv_at {R : Rs} {ps : List (Str × Str)} {i : Nat} {k : List Key} {v : V} (h : (kvOf R ps)[i]? = some (k, v)) : ∃ p, ps[i]? = some p ∧ k = [.inr p.1, .inr p.2] ∧ v = optI (R p.1 p.2) := by
  unfold kvOf at h
  rw [List.getElem?_map] at h
  cases q : ps[i]? with
  | none => rw [q] at h; cases h
  | some p => rw [q] at h; cases h; exact ⟨p, rfl, rfl, rfl⟩
theorem dget_f {H : Hp} {a b : Addr} {od : Obj} {kvs : List (List Key × V)} {k : List Key} {v : V} (e : H a = some (.frz od (.dT kvs))) (eb : H b = some (.tup (k.map kV))) (hv : valV kvs k = some v) : DGet H a (.ref b) (some v) := by
  rw [← hv]; exact .inr ⟨kvs, k, b, .inr ⟨od, e⟩, rfl, eb, rfl⟩
def spBPairs (K : PySem.W.Frag) : Sp := fun vs H Q _ => ∃ (p t q : Addr) (names : List Str) (R : Rs), vs = [.ref p] ∧ BookAt K H p t q names R ∧ names.length ≤ 6 ∧
  ∀ H' l rs, Same H H' → H l = none → H' l = some (.lst (rs.map V.ref)) → FactsAt H' rs (factsL R (pairsL names)) → Q (.ref l) H'
theorem ok_Book_pairs (T : Says w K mg) : Ok P w K mg base 1 ("Book", some "pairs") ["self"] (spBPairs K) := by
  refine FunD.ok (d_Book_pairs T) sc_Book_pairs (fun vs H Q E h => ?len) (fun cdv A outer s H vs Q E hr h => ?bod)
  case len =>
    obtain ⟨p, t, q, names, R, rfl, _⟩ := h; rfl
  case bod =>
    obtain ⟨p, t, q, names, R, rfl, hB, hl, k⟩ := h
    have hu := hu_of hr
    obtain ⟨dx, hi⟩ := hB.ins
    have hd := hB.dic
    have hpq : p ≠ q := fun e => by rw [e, hd] at hi; cases hi
    have hln := pairsL_len hl
    refine ⟨_, PSs.nox (pss_one (ps_ret (pe_lock (pe_lc (own := [("a", 1), ("b", 2)]) rfl sc_Book_pairs.nd (pi_keys (k_fld (K := K) (by rfl) (pv 0) rfl)) (blkOk_by (N := N_Book_pairs) (sc := defScope s_Book_pairs) (by decide +kernel)) (fun _ _ _ _ _ => (k_tup (K := K) (n := 2) (by rfl) rfl (pgs_cons (pg_name (i := 1) sc_Book_pairs.nd rfl (Or.inl rfl)) (pgs_cons (pg_name (i := 2) sc_Book_pairs.nd rfl (Or.inl rfl)) pgs_nil)))) (fun _ _ _ _ _ => (pts_one (pt_cmpR op_notN (pe_dget hu (k_fld (K := K) (by rfl) (pv 0) rfl) (pe_tup (pa_cons (pv 1) (pa_cons (pv 2) pa_nil))) (fun _ _ => rfl)) pe_non (nomark _)))) (fun _ _ _ _ _ => (pe_tup (pa_cons (pv 1) (pa_cons (pv 2) (pa_cons (pe_dget hu (k_fld (K := K) (by rfl) (pv 0) rfl) (pe_tup (pa_cons (pv 1) (pa_cons (pv 2) pa_nil))) (fun _ _ => rfl)) pa_nil))))))))), ?_⟩
    refine ⟨q, _, hd, trivial, fun od => ⟨_, rfl, p, _, dx, _, _, rfl, by rw [upd_ne hpq]; exact hi, cl_Book T, na_Book_own_rests T, rfl, q, od, rfl, .inr ⟨_, upd_same, fun D hD => lcw walk_keysT
      (fun j H2 => ∃ us : List Addr, Same (upd H q (.frz od (.dT (kvOf R (pairsL names))))) H2 ∧ H2 D = some (.lst (us.map V.ref)) ∧ FactsAt H2 us (factsL R ((pairsL names).take j)))
      ⟨[], same_new hD, upd_same, .nil⟩ (fun j H2 _ ⟨_, s2, _⟩ => s2 _ _ upd_same) ?_ ?_⟩⟩⟩
    · rintro j v H9 H2 hj ⟨us, s2, hD2, hU⟩ ⟨rfl, kk, vv, q2, hkv, rfl, hq2⟩
      obtain ⟨pr, hpr, rfl, rfl⟩ := kv_at hkv
      have hp2 : H2 p = some (.ins (He.ga K "Book") dx [("own_fixers", .ref t), ("own_rests", .ref q)]) := s2 _ _ (by rw [upd_ne hpq]; exact hi)
      have hd2 : H2 q = some (.frz od (.dT (kvOf R (pairsL names)))) := s2 _ _ upd_same
      have hm := List.mem_of_getElem? hpr
      have hus : us.length ≤ 36 := by
        rw [hU.1]
        have h1 := factsL_len R ((pairsL names).take j)
        rw [List.length_take] at h1
        omega
      refine ⟨q2, _, rfl, .inl (.inl hq2), rfl, _, _, rfl, _, _, rfl, rfl, rfl, ?_⟩
      refine ⟨_, rfl, p, _, dx, _, _, rfl, hp2, cl_Book T, na_Book_own_rests T, rfl, _, rfl, _, rfl, by show 2 ≤ sizeLine; decide, fun u hu1 => ?_⟩
      have s3 : Same H2 (upd H2 u (.tup [.str pr.1, .str pr.2])) := same_new hu1
      refine ⟨q, optI (R pr.1 pr.2), rfl, dget_f (k := [.inr pr.1, .inr pr.2]) (s3 _ _ hd2) upd_same (kv_getP R hm), rfl, _, rfl, ?_⟩
      show if (!decide (optI (R pr.1 pr.2) = V.non)) = true then _ else _
      cases hR : R pr.1 pr.2 with
      | none =>
        refine iteF ⟨us, s2.trans s3, s3 _ _ hD2, ?_⟩
        rw [take_of_get hpr, factsL_snoc, hR, List.append_nil]
        exact Each.mono hU fun _ _ z => s3 _ _ z
      | some r =>
        refine iteT ?_
        refine ⟨_, rfl, _, rfl, _, rfl, p, _, dx, _, _, rfl, s3 _ _ hp2, cl_Book T, na_Book_own_rests T, rfl, _, rfl, _, rfl, by show 2 ≤ sizeLine; decide, fun u2 hu2 => ?_⟩
        have s4 := s3.trans (same_new (o := .tup [.str pr.1, .str pr.2]) hu2)
        refine ⟨q, .int r, rfl, dget_f (k := [.inr pr.1, .inr pr.2]) (s4 _ _ hd2) upd_same (by rw [kv_getP R hm, hR]; rfl), by show 3 ≤ sizeLine; decide, fun u3 hu3 => ?_⟩
        have s5 := s4.trans (same_new (o := .tup [.str pr.1, .str pr.2, .int r]) hu3)
        refine ⟨_, s5 _ _ hD2, by rw [List.length_map]; exact small1000 (by omega), us ++ [u3], same_upd (s2.trans s5) hD, by rw [upd_same, List.map_append]; rfl, ?_⟩
        rw [take_of_get hpr, factsL_snoc, hR]
        have nt : ∀ {b : Addr} {xs : List V} {H3 : Hp}, H3 D = some (.lst (us.map V.ref)) → H3 b = some (.tup xs) → (upd H3 D (.lst (us.map V.ref ++ [.ref u3]))) b = some (.tup xs) := by
          intro b xs H3 h1 hb
          rw [upd_ne (ne_of hb h1 (by intro z; cases z))]; exact hb
        exact Each.snoc (Each.mono hU fun _ _ z => nt (s5 _ _ hD2) (s5 _ _ z)) (nt (s5 _ _ hD2) upd_same)
    · rintro H2 ⟨us, s2, hD2, hU⟩
      have hlk : (kvOf R (pairsL names)).length = (pairsL names).length := by unfold kvOf; rw [List.length_map]
      rw [hlk, List.take_length] at hU
      have nDd : D ≠ q := ne_of_none' upd_same hD
      have hfd : H2 q = some (.frz od (.dT (kvOf R (pairsL names)))) := s2 _ _ upd_same
      refine ⟨hfd, ?_⟩
      have s6 : Same H (upd H2 q (.dT (kvOf R (pairsL names)))) := fun b o e => by
        by_cases c : b = q
        · rw [c, upd_same]; rw [c, hd] at e; exact e
        · rw [upd_ne c]; exact s2 b o (by rw [upd_ne c]; exact e)
      refine k _ D us s6 ?_ (by rw [upd_ne nDd]; exact hD2) ?_
      · rw [upd_ne nDd] at hD; exact hD
      · exact Each.mono hU fun u e z => by rw [upd_ne (ne_of z hfd (by intro z; cases z))]; exact z
end
end T85
end

section
set_option Elab.async false
set_option linter.all false
set_option maxRecDepth 100000
set_option maxHeartbeats 4000000
namespace T85
open PySem PySem.Spec L2 Fx
/-! ### names from signs -/
abbrev ltr : Str := "abcdefghijklmnopqrstuvwxyz"
def sgn (c : Nat) : Str := ⟨#[c]⟩
theorem app_list (x y : Str) : (x ++ y).cps.toList = x.cps.toList ++ y.cps.toList := by
  show (x.cps ++ y.cps).toList = _
  simp
theorem join_sgn : ∀ cs : List Nat, (Str.join "" (cs.map sgn)).cps.toList = cs
  | [] => rfl
  | [c] => rfl
  | c :: d :: r => by
    show (sgn c ++ (Str.ofString "") ++ Str.join "" ((d :: r).map sgn)).cps.toList = _
    rw [app_list, app_list, join_sgn (d :: r)]; rfl
/-- a list without doubles is no longer than one that holds it -/
theorem nodup_le {α : Type} [DecidableEq α] : ∀ {l m : List α}, l.Nodup → (∀ x ∈ l, x ∈ m) → l.length ≤ m.length
  | [], _, _, _ => Nat.zero_le _
  | x :: r, m, nd, h => by
    have nd' := List.nodup_cons.mp nd
    have hx := h x (List.mem_cons_self ..)
    have h2 : ∀ y ∈ r, y ∈ m.erase x := fun y hy => by
      have hne : y ≠ x := fun e => nd'.1 (e ▸ hy)
      exact (List.mem_erase_of_ne hne).mpr (h y (List.mem_cons_of_mem _ hy))
    have h3 := nodup_le nd'.2 h2
    rw [List.length_erase_of_mem hx] at h3
    have := List.length_pos_of_mem hx
    rw [List.length_cons]; omega
/-- the spare names -/
def spareL (z : Str) : List Str := z :: ltr.cps.toList.map fun c => cutS z none (some 2) ++ sgn c
section
variable {P : Program} {w : World} {K : PySem.W.Frag} {mg : Str → Option Value} {base : Heap}
/-! ### the law's pot -/
def PotOk (H : Hp) (p : Addr) : Prop := ∃ a b : Int, H p = some (.lst [.int a, .int b]) ∧ 0 ≤ a ∧ 0 ≤ b ∧ b < 2 ^ 32
def spDraw : Sp := fun vs H Q _ => ∃ (p : Addr) (m : Int), vs = [.ref p, .int m] ∧ PotOk H p ∧ 1 ≤ m ∧ m ≤ 100000 ∧ ∀ H' (d : Int), SameX [p] H H' → PotOk H' p → 0 ≤ d → d < m → Q (.int d) H'
theorem ok__law_draw (T : Says w K mg) : Ok P w K mg base 1 ("_law_draw", none) ["_law_pot_here", "_law_many"] (spDraw) := by
  refine FunD.ok (d__law_draw T) sc__law_draw (fun vs H Q E h => ?len) (fun cdv A outer s H vs Q E hr h => ?bod)
  case len =>
    obtain ⟨p, m, rfl, _⟩ := h; rfl
  case bod =>
    obtain ⟨p, m, rfl, ⟨a, b, hp, ha, hb, hb32⟩, hm1, hm, k⟩ := h
    refine ⟨_, PSs.nox (pss_cons (ps_if (pt_cmpR op_gt (pe_ix (k_ixL (K := K) (by rfl)) (pv 0) pe_int (fun _ _ => rfl)) pe_int (nomark _)) (pss_cons (ps_asg (pe_callB call_divmod (by rfl) (T.free_ 42) (by decide +kernel) (pa_cons (pe_ix (k_ixL (K := K) (by rfl)) (pv 0) pe_int (fun _ _ => rfl)) (pa_cons (pv 1) pa_nil))) (k_tup (K := K) (n := 2) (by rfl) rfl (pgs_cons (pg_sub (pv 0) pe_int set_list) (pgs_cons (pg_name (i := 2) sc__law_draw.nd rfl (Or.inl rfl)) pgs_nil))))
      (pss_one (ps_ret (pv 2)))) pss_nil)
      (pss_cons (ps_asg (pe_op op_mod (pe_callTy call_int1 (by rfl) (T.free_ 1) (by decide +kernel) (pa_cons (pe_op op_add (pe_op op_mul (pe_ix (k_ixL (K := K) (by rfl)) (pv 0) pe_int (fun _ _ => rfl)) pe_int) pe_int) pa_nil)) pe_int) (pg_sub (pv 0) pe_int set_list))
      (pss_one (ps_ret (pe_op op_mod (pe_callTy call_int1 (by rfl) (T.free_ 1) (by decide +kernel) (pa_cons (pe_op op_fdiv (pe_op op_mod (pe_callTy call_int1 (by rfl) (T.free_ 1) (by decide +kernel) (pa_cons (pe_op op_mul (pe_ix (k_ixL (K := K) (by rfl)) (pv 0) pe_int (fun _ _ => rfl)) (pe_ix (k_ixL (K := K) (by rfl)) (pv 0) pe_int (fun _ _ => rfl))) pa_nil)) pe_int) pe_int) pa_nil)) (pv 1)))))), ?_⟩
    have at0 : ∀ {x y : Int}, atI [V.int x, V.int y] 0 = some (V.int x) := fun {x y} => atI_of (j := 0) rfl rfl
    have at1 : ∀ {x y : Int}, atI [V.int x, V.int y] 1 = some (V.int y) := fun {x y} => atI_of (j := 1) rfl rfl
    refine ⟨_, rfl, p, _, 0, .int a, rfl, rfl, SqL.of hp, at0, _, _, rfl, rfl, _, rfl, ?_⟩
    by_cases h0 : 0 < a
    · rw [decide_eq_true h0]
      refine iteT ⟨_, rfl, p, _, 0, .int a, rfl, rfl, SqL.of hp, at0, _, rfl, a, m, rfl, ⟨by omega, by omega⟩, fun pt hpt => ?_⟩
      have sp : Same H (upd H pt (.tup [.int (a / m), .int (a % m)])) := same_new hpt
      refine ⟨pt, _, rfl, .inl (.inl upd_same), rfl, _, _, rfl, _, rfl, p, _, 0, 0, rfl, rfl, sp _ _ hp, rfl, _, _, rfl, rfl, _, rfl, ?_⟩
      exact k _ _ (samex_upd (same_toX sp _) (.inl (by simp))) ⟨a / m, b, by rw [upd_same]; rfl, Int.ediv_nonneg ha (by omega), hb, hb32⟩ (Int.emod_nonneg _ (by omega)) (Int.emod_lt_of_pos _ (by omega))
    · rw [decide_eq_false h0]
      have hc1 : (0 : Int) ≤ (b * 48271 + 11071) % 2147483587 := Int.emod_nonneg _ (by decide)
      have hc2 : (b * 48271 + 11071) % 2147483587 < 2147483587 := Int.emod_lt_of_pos _ (by decide)
      have hp2 : ∀ v : V, (upd H p (.lst ([V.int a, V.int b].set 1 v))) p = some (.lst [.int a, v]) := fun v => by rw [upd_same]; rfl
      have sx : ∀ v : V, SameX [p] H (upd H p (.lst ([V.int a, V.int b].set 1 v))) := fun v => samex_upd (SameX.refl _ _) (.inl (by simp))
      refine iteF ⟨_, rfl, p, _, 1, .int b, rfl, rfl, SqL.of hp, at1, _, _, rfl, rfl, .inl (by omega), _, _, rfl, rfl, .inl ⟨_, rfl, _, _, rfl, rfl, (by show (0 : Int) < 2147483587; decide), _, rfl, p, _, 1, 1, rfl, rfl, hp, rfl, ?_⟩⟩
      refine ⟨_, rfl, p, _, 1, .int ((b * 48271 + 11071) % 2147483587), rfl, rfl, SqL.of (hp2 _), at1, _, rfl, p, _, 1, .int ((b * 48271 + 11071) % 2147483587), rfl, rfl, SqL.of (hp2 _), at1, _, _, rfl, rfl, .inl (by omega), .inl ⟨_, rfl, _, _, rfl, rfl, (by show (0 : Int) < 2147483549; decide), _, _, rfl, rfl, ⟨by decide, by decide⟩, .inl ⟨_, rfl, _, rfl, _, _, rfl, rfl, (by show (0 : Int) < m; omega), ?_⟩⟩⟩
      exact k _ _ (sx _) ⟨a, _, hp2 _, ha, hc1, by omega⟩ (Int.emod_nonneg _ (by omega)) (Int.emod_lt_of_pos _ (by omega))
/-- one of a text's signs, one of a list's items -/
def spPick (K : PySem.W.Frag) : Sp := fun vs H Q _ => ∃ (p : Addr) (s : V), vs = [.ref p, s] ∧ PotOk H p ∧
  ((∃ z : Str, s = .str z ∧ 1 ≤ z.cps.size ∧ z.cps.size ≤ 100 ∧ ∀ H' c, SameX [p] H H' → PotOk H' p → c ∈ z.cps.toList → Q (.str ⟨#[c]⟩) H') ∨
   ∃ (a : Addr) (xs : List V), s = .ref a ∧ SqL K (hide [p] H) a xs ∧ 1 ≤ xs.length ∧ xs.length ≤ 100 ∧ ∀ H' x, SameX [p] H H' → PotOk H' p → x ∈ xs → Q x H')
theorem ok__law_pick (T : Says w K mg) : Ok P w K mg base 2 ("_law_pick", none) ["_law_pot_here", "_law_some"] (spPick K) := by
  have G__law_draw := FnOk.mono (k := 1) (ok__law_draw (P := P) (w := w) (base := base) T) (by decide)
  refine FunD.ok (d__law_pick T) sc__law_pick (fun vs H Q E h => ?len) (fun cdv A outer s H vs Q E hr h => ?bod)
  case len =>
    obtain ⟨p, s, rfl, _⟩ := h; rfl
  case bod =>
    obtain ⟨p, s, rfl, hp, hs⟩ := h
    refine ⟨_, PSs.nox (pss_one (ps_ret (pe_ix (k_ixQ (K := K) (by rfl)) (pv 1) (pe_call G__law_draw hr (by rfl) (T.glo_ 43) (d__law_draw T).kp (b__law_draw T) .nil pass0 (pa_cons (pv 0) (pa_cons (pe_callB (k_lenV (K := K) (by rfl)) (by rfl) (T.free_ 6) (by decide +kernel) (pa_cons (pv 1) pa_nil)) pa_nil))) (fun _ _ => rfl)))), ?_⟩
    rcases hs with ⟨z, rfl, h1, h2, k⟩ | ⟨a, xs, rfl, hx, h1, h2, k⟩
    · refine ⟨_, rfl, _, rfl, _, rfl, _, z.length, rfl, ⟨Nat.le_trans h2 (by decide), rfl⟩, p, _, rfl, hp, by show (1 : Int) ≤ (z.cps.size : Nat); omega, by show ((z.cps.size : Nat) : Int) ≤ 100000; omega, fun H' d sx hp' hd0 hd => ?_⟩
      obtain ⟨n, rfl⟩ : ∃ n : Nat, d = n := ⟨d.toNat, by omega⟩
      have hd' : n < z.cps.toList.length := by
        have : (n : Int) < (z.cps.size : Nat) := hd
        rw [Array.length_toList]; omega
      exact .inr (.inr ⟨z, n, z.cps.toList[n], rfl, rfl, Nat.le_trans h2 (by decide), atI_nat (List.getElem?_eq_getElem hd'), k H' _ sx hp' (List.getElem_mem hd')⟩)
    · refine ⟨_, rfl, _, rfl, _, rfl, _, xs.length, rfl, .inl ⟨xs, seq_mono (hide_sub _ _) hx, rfl⟩, p, _, rfl, hp, by omega, by omega, fun H' d sx hp' hd0 hd => ?_⟩
      have hd' : d.toNat < xs.length := by omega
      refine .inl ⟨a, xs, d, xs[d.toNat], rfl, rfl, seq_mono (hide_sub [p] _) (seq_mono (hide_samex (W := [p]) sx (by simp)) hx), atI_of (j := d.toNat) (by omega) (List.getElem?_eq_getElem hd'), k H' _ sx hp' (List.getElem_mem hd')⟩
def spPot (K : PySem.W.Frag) : Sp := fun vs H Q _ => ∃ (a : Addr) (ns : List Int) (k : Nat), vs = [.ref a, .int k] ∧ SqL K H a (ns.map V.int) ∧ k ≤ 1000 ∧ ∀ H' p, Same H H' → H p = none → PotOk H' p → Q (.ref p) H'
theorem ok__law_pot (T : Says w K mg) : Ok P w K mg base 1 ("_law_pot", none) ["_law_script", "_law_k"] (spPot K) := by
  refine FunD.ok (d__law_pot T) sc__law_pot (fun vs H Q E h => ?len) (fun cdv A outer s H vs Q E hr h => ?bod)
  case len =>
    obtain ⟨a, ns, k, rfl, _⟩ := h; rfl
  case bod =>
    obtain ⟨a, ns, k, rfl, ha, hk, kk⟩ := h
    refine ⟨_, PSs.nox (pss_cons (ps_set (i := 2) sc__law_pot.nd rfl (Or.inl rfl) (pe_ifExp (pt_cmpR op_lt (pv 1) (pe_callB (k_len (K := K) (by rfl)) (by rfl) (T.free_ 6) (by decide +kernel) (pa_cons (pv 0) pa_nil)) (nomark _)) (pe_callB call_abs (by rfl) (T.free_ 40) (by decide +kernel) (pa_cons (pe_ix (k_ixL (K := K) (by rfl)) (pv 0) (pv 1) (fun _ _ => rfl)) pa_nil)) pe_int))
      (pss_one (ps_ret (pe_lst (pa_cons (pe_callB (call_max2 rfl) (by rfl) (T.free_ 41) (by decide +kernel) (pa_cons pe_int (pa_cons (pe_op op_sub (pv 2) (pe_op op_pow pe_int pe_int)) pa_nil))) (pa_cons (pe_op op_add (pe_op op_mod (pe_callTy call_int1 (by rfl) (T.free_ 1) (by decide +kernel) (pa_cons (pe_op op_add (pe_op op_add (pe_op op_mul (pe_op op_mod (pe_callTy call_int1 (by rfl) (T.free_ 1) (by decide +kernel) (pa_cons (pv 2) pa_nil)) pe_int) pe_int) (pe_op op_mul pe_int (pv 1))) pe_int) pa_nil)) pe_int) pe_int) pa_nil)))))), ?_⟩
    refine ⟨_, rfl, _, rfl, a, _, rfl, .inl ha, _, _, rfl, rfl, _, rfl, ?_⟩
    rw [List.length_map]
    by_cases hkl : k < ns.length
    · rw [decide_eq_true (by omega)]
      refine iteT ⟨_, rfl, _, rfl, a, _, k, .int (ns.getD k 0), rfl, rfl, ha, atI_of (j := k) rfl (get_map (get_getD hkl)), _, rfl, ?_⟩
      have hc0 : (0 : Int) ≤ (if ns.getD k 0 < 0 then -ns.getD k 0 else ns.getD k 0) := by split <;> omega
      generalize (if ns.getD k 0 < 0 then -ns.getD k 0 else ns.getD k 0) = cell at hc0 ⊢
      refine ⟨_, rfl, _, _, rfl, rfl, ⟨by decide, by decide, by decide⟩, _, _, rfl, rfl, _, _, rfl, _, rfl, .inl ⟨_, rfl, _, _, rfl, rfl, (by show (0 : Int) < 2147483549; decide), _, _, rfl, rfl, .inr ⟨by decide, by decide⟩, _, rfl, _, _, rfl, rfl, .inl ⟨by decide, by decide⟩, _, _, rfl, rfl, _, _, rfl, rfl, .inl ⟨_, rfl, _, _, rfl, rfl, (by show (0 : Int) < 2147483629; decide), _, _, rfl, rfl, by show 2 ≤ sizeLine; decide, fun p hp => ?_⟩⟩⟩
      refine kk _ p (same_new hp) hp ⟨_, _, upd_same, ?_, ?_, ?_⟩
      · split <;> omega
      · have := fun x : Int => Int.emod_nonneg x (show (2147483629 : Int) ≠ 0 by decide)
        exact Int.add_nonneg (this _) (by decide)
      · have := fun x : Int => Int.emod_lt_of_pos x (show (0 : Int) < 2147483629 by decide)
        refine Int.lt_trans (Int.add_lt_add_right (this _) 1) (by decide)
    · rw [decide_eq_false (by omega)]
      refine iteF ?_
      have hc0 : (0 : Int) ≤ 0 := by omega
      refine ⟨_, rfl, _, _, rfl, rfl, ⟨by decide, by decide, by decide⟩, _, _, rfl, rfl, _, _, rfl, _, rfl, .inl ⟨_, rfl, _, _, rfl, rfl, (by show (0 : Int) < 2147483549; decide), _, _, rfl, rfl, .inr ⟨by decide, by decide⟩, _, rfl, _, _, rfl, rfl, .inl ⟨by decide, by decide⟩, _, _, rfl, rfl, _, _, rfl, rfl, .inl ⟨_, rfl, _, _, rfl, rfl, (by show (0 : Int) < 2147483629; decide), _, _, rfl, rfl, by show 2 ≤ sizeLine; decide, fun p hp => ?_⟩⟩⟩
      refine kk _ p (same_new hp) hp ⟨_, _, upd_same, ?_, ?_, ?_⟩
      · split <;> omega
      · have := fun x : Int => Int.emod_nonneg x (show (2147483629 : Int) ≠ 0 by decide)
        exact Int.add_nonneg (this _) (by decide)
      · have := fun x : Int => Int.emod_lt_of_pos x (show (0 : Int) < 2147483629 by decide)
        refine Int.lt_trans (Int.add_lt_add_right (this _) 1) (by decide)
end
end T85
end

section
set_option Elab.async false
set_option linter.all false
set_option maxRecDepth 100000
set_option maxHeartbeats 4000000
namespace T85
open PySem PySem.Spec L2 Fx
section
variable {P : Program} {w : World} {K : PySem.W.Frag} {mg : Str → Option Value} {base : Heap}
def spNames (K : PySem.W.Frag) : Sp := fun vs H Q _ => ∃ (p : Addr) (m : Nat), vs = [.ref p, .int m] ∧ PotOk H p ∧ m ≤ 6 ∧
  ∀ (H' : Hp) (l : Addr) (fs : List Str), SameX [p] H H' → PotOk H' p → H l = none → H' l = some (.lst (fs.map V.str)) → fs.length = m → fs.Nodup → (∀ x ∈ fs, NameOk x) → Q (.ref l) H'
theorem cut7 (z : Str) : (cutS z none (some 2)).cps.toList = z.cps.toList.take (min 2 z.cps.size) := by
  unfold cutS
  rw [HT.sIx_none, show (some (2 : Int)) = some (((2 : Nat) : Int)) from rfl, HT.sIx_nat, List.drop_zero, Nat.sub_zero]
  rfl
theorem spare_ok {z : Str} (h : NameOk z) : ∀ x ∈ spareL z, NameOk x := by
  intro x hx
  rcases List.mem_cons.mp hx with rfl | hx
  · exact h
  · obtain ⟨c, hc, rfl⟩ := List.mem_map.mp hx
    have e : (cutS z none (some 2) ++ sgn c).cps.toList = z.cps.toList.take (min 2 z.cps.size) ++ [c] := by rw [app_list, cut7]; rfl
    have e2 : (cutS z none (some 2) ++ sgn c).cps.size = min 2 z.cps.size + 1 := by
      rw [← Array.length_toList, e, List.length_append, List.length_take, Array.length_toList, List.length_singleton]; omega
    refine ⟨by omega, by omega, fun d hd => ?_⟩
    rw [e] at hd
    rcases List.mem_append.mp hd with hd | hd
    · exact h.2.2 d (List.mem_of_mem_take hd)
    · have : d = c := by simpa using hd
      rw [this]; exact hc
theorem spare_new {z : Str} {found : List Str} (h : found.length ≤ 25) : ∃ x r, (spareL z).filter (fun x => !decide (x ∈ found)) = x :: r := by
  cases e : (spareL z).filter (fun x => !decide (x ∈ found)) with
  | cons x r => exact ⟨x, r, rfl⟩
  | nil =>
    exfalso
    have hall : ∀ x ∈ ltr.cps.toList.map (fun c => cutS z none (some 2) ++ sgn c), x ∈ found := by
      intro x hx
      have hm : x ∈ spareL z := List.mem_cons_of_mem _ hx
      have hn := List.filter_eq_nil_iff.mp e x hm
      simpa using hn
    have hnd : (ltr.cps.toList.map (fun c => cutS z none (some 2) ++ sgn c)).Nodup := by
      unfold List.Nodup
      rw [List.pairwise_map]
      have hl : ltr.cps.toList.Nodup := by decide +kernel
      refine List.Pairwise.imp (fun {a b} hab he => hab ?_) hl
      have z1 := congrArg (fun s : Str => s.cps.toList) he
      simp only [app_list] at z1
      have z2 := List.append_cancel_left z1
      exact (List.cons.inj z2).1
    have := nodup_le hnd hall
    rw [List.length_map] at this
    have h26 : ltr.cps.toList.length = 26 := by decide +kernel
    omega
theorem PotOk.upd {H : Hp} {p D : Addr} {o : HO} (h : PotOk H p) (n : p ≠ D) : PotOk (upd H D o) p := let ⟨a, b, h1, r⟩ := h; ⟨a, b, by rw [upd_ne n]; exact h1, r⟩
theorem PotOk.mono {H H' : Hp} {p : Addr} (h : PotOk H p) (s : Same H H') : PotOk H' p := let ⟨a, b, h1, r⟩ := h; ⟨a, b, s _ _ h1, r⟩
theorem PotOk.ne {H : Hp} {p D : Addr} (h : PotOk H p) (hD : H D = none) : p ≠ D := fun e => by
  obtain ⟨a, b, h, _⟩ := h; rw [e, hD] at h; cases h
theorem ok__law_names (T : Says w K mg) : Ok P w K mg base 3 ("_law_names", none) ["_law_pot_here", "_law_many"] (spNames K) := by
  have G__law_draw := FnOk.mono (k := 2) (ok__law_draw (P := P) (w := w) (base := base) T) (by decide)
  have G__law_pick := FnOk.mono (k := 2) (ok__law_pick (P := P) (w := w) (base := base) T) (by decide)
  refine FunD.ok (d__law_names T) sc__law_names (fun vs H Q E h => ?len) (fun cdv A outer s H vs Q E hr h => ?bod)
  case len =>
    obtain ⟨p, m, rfl, _⟩ := h; rfl
  case bod =>
    obtain ⟨p, m, rfl, hp, hm, k⟩ := h
    refine ⟨_, PSs.nox (pss_cons (ps_asg (pe_tup (pa_cons pe_str (pa_cons (pe_lst pa_nil) pa_nil))) (k_tup (K := K) (n := 2) (by rfl) rfl (pgs_cons (pg_name (i := 2) sc__law_names.nd rfl (Or.inr rfl)) (pgs_cons (pg_name (i := 3) sc__law_names.nd rfl (Or.inr rfl)) pgs_nil))))
      (pss_cons (ps_for PassesOwn.never rfl (pi_range1 (by rfl) (T.free_ 44) (pa_cons (pv 1) pa_nil)) (pg_name (i := 4) sc__law_names.nd rfl (Or.inl rfl))
      (pss_cons (ps_set (i := 5) sc__law_names.nd rfl (Or.inr rfl) (pe_bm PySem.F.plainAttrs_str PySem.F.slot_str_join PySem.F.type_str_join (k_join (K := K) (by rfl)) pe_str (pa_cons (pe_lc (own := [("_law_sign", 6)]) rfl sc__law_names.nd (pi_range1 (by rfl) (T.free_ 44) (pa_cons (pe_op op_add pe_int (pe_call G__law_draw hr (by rfl) (T.glo_ 43) (d__law_draw T).kp (b__law_draw T) .nil pass0 (pa_cons (pv 0) (pa_cons pe_int pa_nil)))) pa_nil)) (blkOk_by (N := N__law_names) (sc := defScope s__law_names) (by decide +kernel)) (fun _ _ _ _ _ => (pg_name (i := 6) sc__law_names.nd rfl (Or.inl rfl))) (fun _ _ _ _ _ => pts_nil) (fun _ _ _ _ _ => (pe_call G__law_pick hr (by rfl) (T.glo_ 45) (d__law_pick T).kp (b__law_pick T) .nil pass0 (pa_cons (pv 0) (pa_cons (pv 2) pa_nil))))) pa_nil)))
      (pss_cons (ps_set (i := 7) sc__law_names.nd rfl (Or.inl rfl) (pe_op op_cat (pe_lst (pa_cons (pv 5) pa_nil)) (pe_lc (own := [("_law_letter", 8)]) rfl sc__law_names.nd (pi_str (pv 2)) (blkOk_by (N := N__law_names) (sc := defScope s__law_names) (by decide +kernel)) (fun _ _ _ _ _ => (pg_name (i := 8) sc__law_names.nd rfl (Or.inl rfl))) (fun _ _ _ _ _ => pts_nil) (fun _ _ _ _ _ => (pe_op op_add_str (pe_slice sl_str (pv 5) po_none (po_some pe_int)) (pv 8))))))
      (pss_one (ps_expr (pe_bm PySem.F.plainAttrs_list PySem.F.slot_list_append PySem.F.type_list_append mt_append (pv 3) (pa_cons (pe_ix (k_ixL (K := K) (by rfl)) (pe_lc (own := [("_law_one", 9)]) rfl sc__law_names.nd (k_pil (K := K) (by rfl) (pv 7)) (blkOk_by (N := N__law_names) (sc := defScope s__law_names) (by decide +kernel)) (fun _ _ _ _ _ => (pg_name (i := 9) sc__law_names.nd rfl (Or.inl rfl))) (fun _ _ _ _ _ => (pts_one (pt_cmpR (k_notIn (K := K) (by rfl)) (pv 9) (pv 3) (by rfl)))) (fun _ _ _ _ _ => (pv 9))) pe_int (fun _ _ => rfl)) pa_nil)))))))
      (pss_one (ps_ret (pv 3))))), ?_⟩
    refine ⟨by show 0 ≤ sizeLine; decide, fun l hl => ⟨by show 2 ≤ sizeLine; decide, fun tp htp => ?_⟩⟩
    have sl : Same H (upd (upd H l (.lst [])) tp (.tup [.str ltr, .ref l])) := same_upd (same_new hl) ((same_new hl).free htp)
    refine ⟨tp, _, rfl, .inl (.inl upd_same), rfl, _, _, rfl, _, _, rfl, rfl, ?_⟩
    have hl1 : (upd (upd H l (.lst [])) tp (.tup [.str ltr, .ref l])) l = some (.lst (([] : List Str).map V.str)) := by rw [upd_ne (ne_of_none' upd_same htp).symm]; exact upd_same
    generalize upd (upd H l (.lst [])) tp (.tup [.str ltr, .ref l]) = H1 at sl hl1 ⊢
    have hpl : p ≠ l := fun e => by obtain ⟨a, b, h, _⟩ := hp; rw [e, hl] at h; cases h
    refine ⟨_, rfl, _, rfl, by omega, by omega, for_range (lo := 0) (n := m)
      (fun i σ H' => ∃ (v4 v5 v6 v7 v8 v9 : Option V) (fs : List Str), σ = [some (.ref p), some (.int m), some (.str ltr), some (.ref l), v4, v5, v6, v7, v8, v9] ∧ SameX [p] H H' ∧ PotOk H' p ∧ H' l = some (.lst (fs.map V.str)) ∧ fs.length = i ∧ fs.Nodup ∧ ∀ x ∈ fs, NameOk x)
      ⟨none, none, none, none, none, none, [], rfl, same_toX sl _, (let ⟨a, b, h, r⟩ := hp; ⟨a, b, sl _ _ h, r⟩), hl1, rfl, .nil, by simp⟩ ?_ ?_⟩
    · rintro i σ H' hi ⟨v4, v5, v6, v7, v8, v9, fs, rfl, sx, hp', hL, hfl, hnd, hok⟩
      refine ⟨rfl, _, rfl, p, 3, rfl, hp', by decide, by decide, fun H2 d s2 hp2 hd0 hd8 => ⟨_, _, rfl, rfl, _, rfl, by omega, by omega, fun D hD => ?_⟩⟩
      have hpD := hp2.ne hD
      have hL2 := s2 l _ (by simp [hpl.symm]) hL
      have hDl : l ≠ D := ne_of_none hL2 hD
      refine lcm_range (n := (1 + d).toNat) (fun j acc H3 => ∃ cs : List Nat, SameX [p] H2 H3 ∧ PotOk H3 p ∧ H3 D = some (.lst acc) ∧ acc = (cs.map sgn).map V.str ∧ cs.length = j ∧ ∀ c ∈ cs, c ∈ ltr.cps.toList)
        ⟨[], same_toX (same_new hD) _, hp2.upd hpD, upd_same, rfl, rfl, by simp⟩ ?_ ?_
      · rintro j acc H3 hj ⟨cs, s3, hp3, hD3, rfl, hcl, hcm⟩
        refine ⟨_, rfl, _, rfl, p, .str ltr, rfl, hp3, .inl ⟨ltr, rfl, by decide +kernel, by decide +kernel, fun H4 c s4 hp4 hc => ?_⟩⟩
        refine ⟨_, s4 D _ (by simp [hpD.symm]) hD3, by simp; exact small1000 (by omega), _, cs ++ [c], samex_upd (s3.trans s4) (.inr hD), hp4.upd hpD, upd_same, by simp [sgn], by simp [hcl], ?_⟩
        intro x hx
        rcases List.mem_append.mp hx with h | h
        · exact hcm x h
        · rw [show x = c by simpa using h]; exact hc
      · rintro acc H3 ⟨cs, s3, hp3, hD3, rfl, hcl, hcm⟩
        have hsum : ((cs.map sgn).map (·.length)).sum = cs.length := by
          rw [List.map_map]
          have : ((fun s : Str => s.length) ∘ sgn) = fun _ => 1 := rfl
          rw [this, List.map_const', List.sum_replicate_nat]; omega
        refine ⟨_, D, cs.map sgn, rfl, rfl, .inl (SqL.of hD3), ?_, ?_⟩
        · rw [hsum, show (Str.ofString "").length = 0 from rfl, Nat.mul_zero]; omega
        have hzl : (Txt.join (Str.ofString "") (cs.map sgn)).cps.toList = cs := by rw [TL.join_eq]; exact join_sgn cs
        generalize Txt.join (Str.ofString "") (cs.map sgn) = z at hzl
        have hzs : z.cps.size = cs.length := by rw [← Array.length_toList, hzl]
        have hzok : NameOk z := ⟨by omega, by omega, by rw [hzl]; exact hcm⟩
        have hz8 : z.length ≤ 8 := by show z.cps.size ≤ 8; omega
        -- spare
        have hL3 := s3 l _ (by simp [hpl.symm]) hL2
        refine ⟨_, rfl, by show 1 ≤ sizeLine; decide, fun l5 hl5 => ?_⟩
        have s5 : Same H3 (upd H3 l5 (.lst [.str z])) := same_new hl5
        refine ⟨_, rfl, ltr, rfl, fun D2 hD2 => lcm_str (fun q acc H5 => Same (upd H3 l5 (.lst [.str z])) H5 ∧ H5 D2 = some (.lst acc) ∧ acc = ((ltr.cps.toList.take q).map fun c => cutS z none (some 2) ++ sgn c).map V.str)
          ⟨same_new hD2, upd_same, rfl⟩ ?_ ?_⟩
        · rintro q c acc H5 hq ⟨s6, hD5, rfl⟩
          have hq' : ltr.cps.toList[q]? = some c := by simpa using hq
          have hq26 : q < 26 := by have := lt_of_get hq'; exact this
          refine ⟨_, rfl, _, rfl, z, rfl, Nat.le_trans hz8 (by decide), _, rfl, _, _, rfl, rfl, ?_, ?_⟩
          · have h1 := cutS_length z none (some 2)
            have h2 : (⟨#[c]⟩ : Str).length = 1 := rfl
            rw [h2]
            exact Nat.le_trans (show _ ≤ 9 by omega) (by decide)
          · refine ⟨_, hD5, by simp; exact small1000 (by omega), _, same_upd s6 hD2, upd_same, ?_⟩
            rw [take_of_get hq', List.map_append, List.map_append]; rfl
        · rintro acc H5 ⟨s6, hD5, rfl⟩
          have etake : ltr.cps.toList.take ltr.cps.size = ltr.cps.toList := List.take_of_length_le (by simp)
          rw [etake] at hD5
          have hl55 := s6 _ _ (show (upd H3 l5 (.lst [.str z])) l5 = _ from upd_same)
          refine ⟨l5, D2, _, _, rfl, rfl, hl55, hD5, by rw [List.length_map, List.length_map, show ltr.cps.toList.length = 26 by decide +kernel]; show 1 + 26 ≤ sizeLine; decide, fun l6 hl6 => ?_⟩
          have hsp : ([V.str z] ++ (ltr.cps.toList.map fun c => cutS z none (some 2) ++ sgn c).map V.str) = (spareL z).map V.str := rfl
          rw [hsp]
          have s36 : Same H3 (upd H5 l6 (.lst ((spareL z).map V.str))) := same_upd (s5.trans s6) (s5.free (s6.free hl6))
          have hl66 : (upd H5 l6 (.lst ((spareL z).map V.str))) l6 = some (.lst ((spareL z).map V.str)) := upd_same
          generalize upd H5 l6 (.lst ((spareL z).map V.str)) = H6 at s36 hl66
          have hL6 := s36 _ _ hL3
          have hp6 := hp3.mono s36
          have hsl : (spareL z).length = 27 := by unfold spareL; rw [List.length_cons, List.length_map]; decide +kernel
          -- found.append
          refine ⟨_, rfl, .inl ⟨rfl, _, SqL.of hL6⟩, _, rfl, l6, rfl, ⟨_, SqL.of hl66⟩, fun D3 hD3' => lcf_list (xs := (spareL z).map V.str)
            (fun q acc H7 => Same H6 H7 ∧ H7 D3 = some (.lst acc) ∧ acc = (((spareL z).take q).filter fun x => !decide (x ∈ fs)).map V.str)
            ⟨same_new hD3', upd_same, rfl⟩ (fun q acc H7 h => SqL.of (h.1 _ _ hl66)) ?_ ?_⟩
          · rintro q y acc H7 hy ⟨s7, hD7, rfl⟩
            obtain ⟨x, hx, rfl⟩ := getElem?_map_some hy
            have hq27 : q < 27 := by have := lt_of_get hx; omega
            have hfl2 := List.length_filter_le (fun x => !decide (x ∈ fs)) ((spareL z).take q)
            rw [List.length_take] at hfl2
            refine ⟨_, rfl, _, rfl, l, _, rfl, .inl (SqL.of (s7 _ _ hL6)), rfl, flat_strs _, !decide (x ∈ fs), ?_, ?_⟩
            · show V.bl (!inV (.str x) (fs.map V.str)) = _
              rw [inV_str]
            · by_cases e : x ∈ fs
              · rw [decide_eq_true e]
                refine iteF ⟨_, s7, hD7, ?_⟩
                rw [take_of_get hx, List.filter_append]; simp [e]
              · rw [decide_eq_false e]
                refine iteT ⟨_, rfl, _, hD7, by rw [List.length_map]; exact small1000 (by omega), _, same_upd s7 hD3', upd_same, ?_⟩
                rw [take_of_get hx, List.filter_append, List.map_append]; simp [e]
          · rintro acc H7 ⟨s7, hD7, rfl⟩
            rw [List.length_map, List.take_length] at hD7
            obtain ⟨x, r, hxr⟩ := spare_new (z := z) (found := fs) (by omega)
            rw [hxr] at hD7
            have hxm : x ∈ (spareL z).filter (fun x => !decide (x ∈ fs)) := by rw [hxr]; exact List.mem_cons_self ..
            have hx1 := (List.mem_filter.mp hxm).1
            have hx2 : x ∉ fs := by have := (List.mem_filter.mp hxm).2; simpa using this
            refine ⟨D3, _, 0, .str x, rfl, rfl, SqL.of hD7, atI_of (j := 0) rfl rfl, l, _, _, rfl, rfl, s7 _ _ hL6, by rw [List.length_map]; exact small1000 (by omega), ?_⟩
            refine ⟨_, _, _, _, _, _, fs ++ [x], rfl, samex_upd ((((sx.trans s2).trans s3).trans (same_toX s36 _)).trans (same_toX s7 _)) (.inr hl), (hp6.mono s7).upd hpl, by rw [upd_same, List.map_append]; rfl, by simp [hfl], ?_, ?_⟩
            · rw [List.nodup_append]
              refine ⟨hnd, by simp, fun a ha b hb e => ?_⟩
              have : b = x := by simpa using hb
              exact hx2 (this ▸ e ▸ ha)
            · intro y hy
              rcases List.mem_append.mp hy with h | h
              · exact hok y h
              · rw [show y = x by simpa using h]; exact spare_ok hzok x hx1
    · rintro σ H' ⟨v4, v5, v6, v7, v8, v9, fs, rfl, sx, hp', hL, hfl, hnd, hok⟩
      exact ⟨_, rfl, k H' l fs sx hp' hl hL hfl hnd hok⟩
end
end T85
end

section
set_option Elab.async false
set_option linter.all false
set_option maxRecDepth 100000
set_option maxHeartbeats 4000000
namespace T85
open PySem PySem.Spec L2 Fx
section
variable {P : Program} {w : World} {K : PySem.W.Frag} {mg : Str → Option Value} {base : Heap}
theorem BookAt.x {H H' : Hp} {pp p t q : Addr} {names : List Str} {R : Rs} (b : BookAt K H p t q names R) (hp : PotOk H pp) (s : SameX [pp] H H') : BookAt K H' p t q names R := by
  obtain ⟨dx, hi⟩ := b.ins
  obtain ⟨x, y, hl, _⟩ := hp
  have n1 : p ≠ pp := ne_of hi hl (by intro z; cases z)
  have n2 : t ≠ pp := ne_of b.tups hl (by intro z; cases z)
  have n3 : q ≠ pp := ne_of b.dic hl (by intro z; cases z)
  exact ⟨⟨dx, s _ _ (by simp [n1]) hi⟩, s _ _ (by simp [n2]) b.tups, s _ _ (by simp [n3]) b.dic⟩
theorem BookAt.put' {H H' : Hp} {p t q : Addr} {names : List Str} {R R' : Rs} (b : BookAt K H p t q names R) (s : SameX [q] H H') (h : H' q = some (.dT (kvOf R' (pairsL names)))) : BookAt K H' p t q names R' := by
  obtain ⟨dx, hi⟩ := b.ins
  have n1 : p ≠ q := ne_of hi b.dic (by intro z; cases z)
  have n2 : t ≠ q := ne_of b.tups b.dic (by intro z; cases z)
  exact ⟨⟨dx, s _ _ (by simp [n1]) hi⟩, s _ _ (by simp [n2]) b.tups, h⟩
theorem keep_x {H H' : Hp} {p r : Addr} {xs : List V} (s : SameX [p] H H') (n : r ≠ p) (h : H r = some (.lst xs)) : H' r = some (.lst xs) := s r _ (by simp [n]) h
theorem samex_q {H H' H'' : Hp} {p q : Addr} (s : SameX [p] H H') (x : SameX [q] H' H'') (hq : H q = none) : SameX [p] H H'' := fun b o n e => x b o (by
  simp only [List.mem_singleton]
  intro z; rw [z, hq] at e; cases e) (s b o n e)
theorem same_x1 {H H' H1 : Hp} {p : Addr} (s : Same H H') (x : SameX [p] H' H1) (hp : H p = none) : Same H H1 := fun a o e => x a o (by
  simp only [List.mem_singleton]
  intro z; rw [z, hp] at e; cases e) (s a o e)
theorem BookAt.dput {H : Hp} {p t q fd : Addr} {names : List Str} {R : Rs} {kvs : List (List Key × V)} {o : HO} (b : BookAt K H p t q names R) (hf : H fd = some (.dT kvs)) (n : fd ≠ q) : BookAt K (upd H fd o) p t q names R := by
  obtain ⟨dx, hi⟩ := b.ins
  exact ⟨⟨dx, by rw [upd_ne (ne_of hi hf (by intro z; cases z))]; exact hi⟩, by rw [upd_ne (ne_of b.tups hf (by intro z; cases z))]; exact b.tups, by rw [upd_ne n.symm]; exact b.dic⟩
theorem x_free {H H' : Hp} {p a : Addr} (s : SameX [p] H H') (hp : PotOk H' p) (h : H' a = none) : H a = none := by
  cases e : H a with
  | none => rfl
  | some o =>
    by_cases q : a = p
    · obtain ⟨x, y, z, _⟩ := hp; rw [q, z] at h; cases h
    · have := s a o (by simp [q]) e; rw [h] at this; cases this
theorem putK_len {κ : Type} [DecidableEq κ] (c : List (κ × V)) (k : κ) (x : V) : (putK c k x).length ≤ c.length + 1 := by
  unfold putK
  split
  · rw [List.length_map]; omega
  · rw [List.length_append]; exact Nat.le_refl _
def okR (R : Rs) : Prop := ∀ a b, okRest (R a b)
theorem okR.put {R : Rs} (h : okR R) {r : Option Int} (hr : okRest r) (a b : Str) : okR (putR R a b r) := fun x y => by
  unfold putR; split
  · exact hr
  · exact h x y
def spDrawn (K : PySem.W.Frag) : Sp := fun vs H Q _ => ∃ (p : Addr), vs = [.ref p, .int 6] ∧ PotOk H p ∧
  ∀ (H' : Hp) (t l d bp bt bq : Addr) (ns : List Str) (R : Rs), SameX [p] H H' → PotOk H' p → H' t = some (.tup [.ref l, .ref d, .ref bp]) → H' l = some (.lst (ns.map V.str)) → BookAt K H' bp bt bq ns R → Srt ns → (∀ x ∈ ns, NameOk x) → 1 ≤ ns.length → ns.length ≤ 6 → okR R → l ≠ p → Q (.ref t) H'
theorem ok__law_drawn_book (T : Says w K mg) : Ok P w K mg base 5 ("_law_drawn_book", none) ["_law_pot_here", "_law_most"] (spDrawn K) := by
  have G__law_draw := FnOk.mono (k := 4) (ok__law_draw (P := P) (w := w) (base := base) T) (by decide)
  have G__law_names := FnOk.mono (k := 4) (ok__law_names (P := P) (w := w) (base := base) T) (by decide)
  have G_Bookdd_initdd := FnOk.mono (k := 3) (ok_Bookdd_initdd (P := P) (w := w) (base := base) T) (by decide)
  have G__law_pick := FnOk.mono (k := 4) (ok__law_pick (P := P) (w := w) (base := base) T) (by decide)
  have G_Bookdd_setitemdd := FnOk.mono (k := 4) (ok_Bookdd_setitemdd (P := P) (w := w) (base := base) T) (by decide)
  refine FunD.ok (d__law_drawn_book T) sc__law_drawn_book (fun vs H Q E h => ?len) (fun cdv A outer s H vs Q E hr h => ?bod)
  case len =>
    obtain ⟨p, rfl, _⟩ := h; rfl
  case bod =>
    obtain ⟨p, rfl, hp, k⟩ := h
    have hu := hu_of hr
    refine ⟨_, PSs.nox (pss_cons (ps_par (i := 2) (j := 3) rfl sc__law_drawn_book.nd rfl rfl (by decide) rfl rfl (pa_cons (pe_callB (k_sortedS (K := K) (by rfl)) (by rfl) (T.free_ 20) (by decide +kernel) (pa_cons (pe_call G__law_names hr (by rfl) (T.glo_ 46) (d__law_names T).kp (b__law_names T) .nil pass0 (pa_cons (pv 0) (pa_cons (pe_op op_add pe_int (pe_call G__law_draw hr (by rfl) (T.glo_ 43) (d__law_draw T).kp (b__law_draw T) .nil pass0 (pa_cons (pv 0) (pa_cons (pv 1) pa_nil)))) pa_nil))) pa_nil)) (pa_cons pe_dnewT pa_nil)) (by rfl))
      (pss_cons (ps_set (i := 4) sc__law_drawn_book.nd rfl (Or.inl rfl) (pe_make (T.mkr_ 37) G_Bookdd_initdd hr (by rfl) (T.glo_ 38) (b_Bookdd_initdd1 T) (dv_Bookdd_initdd1 T) pass0 (pa_cons (pe_revL (pv 2)) pa_nil)))
      (pss_cons (ps_for PassesOwn.never rfl (k_pienum (K := K) (by rfl) (by rfl) (T.free_ 12) (pa_cons (pv 2) pa_nil)) (k_tup (K := K) (n := 2) (by rfl) rfl (pgs_cons (pg_name (i := 5) sc__law_drawn_book.nd rfl (Or.inl rfl)) (pgs_cons (pg_name (i := 6) sc__law_drawn_book.nd rfl (Or.inl rfl)) pgs_nil)))
      (pss_one (ps_for PassesOwn.never rfl (k_pil (K := K) (by rfl) (pe_slice (k_slL (K := K) (by rfl)) (pv 2) po_none (po_some (pv 5)))) (pg_name (i := 7) sc__law_drawn_book.nd rfl (Or.inl rfl))
      (pss_cons (ps_set (i := 8) sc__law_drawn_book.nd rfl (Or.inl rfl) (pe_call G__law_pick hr (by rfl) (T.glo_ 45) (d__law_pick T).kp (b__law_pick T) .nil pass0 (pa_cons (pv 0) (pa_cons (pe_lst (pa_cons pe_int (pa_cons pe_int (pa_cons pe_int (pa_cons pe_int (pa_cons pe_int (pa_cons pe_int (pa_cons pe_non pa_nil)))))))) pa_nil))))
      (pss_cons (ps_asg (pe_tup (pa_cons (pv 8) (pa_cons (pv 8) pa_nil))) (k_tup (K := K) (n := 2) (by rfl) rfl (pgs_cons (pg_sub (pv 3) (pe_tup (pa_cons (pv 6) (pa_cons (pv 7) pa_nil))) (set_dict hu)) (pgs_cons (pg_sub (pv 3) (pe_tup (pa_cons (pv 7) (pa_cons (pv 6) pa_nil))) (set_dict hu)) pgs_nil))))
      (pss_one (ps_asg (pv 8) (pg_sub (pv 4) (pe_tup (pa_cons (pv 6) (pa_cons (pv 7) pa_nil))) (set_own (chk_noseq_Book T) (T.meth_ 47).at_ (T.meth_ 47).fn G_Bookdd_setitemdd hr (b_Bookdd_setitemdd T))))))))))
      (pss_one (ps_ret (pe_tup (pa_cons (pv 2) (pa_cons (pv 3) (pa_cons (pv 4) pa_nil))))))))), ?_⟩
    refine ⟨_, rfl, _, rfl, _, rfl, p, 6, rfl, hp, by decide, by decide, fun H1 d s1 hp1 hd0 hd6 => ?_⟩
    obtain ⟨m, hm⟩ : ∃ m : Nat, (m : Int) = 1 + d := ⟨(1 + d).toNat, by omega⟩
    refine ⟨_, _, rfl, rfl, p, m, by rw [hm]; rfl, hp1, by omega, fun H2 l0 fs sx2 hp2 hl1 hl2 hfl hfn hfok => ?_⟩
    refine ⟨l0, fs, rfl, SqL.of hl2, by omega, fun ys l hperm hsort hl => ?_⟩
    have hS : Srt ys := srt_of hsort (hperm.nodup_iff.mpr hfn)
    have hyl : ys.length = m := by rw [hperm.length_eq]; exact hfl
    have hyok : ∀ x ∈ ys, NameOk x := fun x hx => hfok x (hperm.mem_iff.mp hx)
    have sl : Same H2 (upd H2 l (.lst (ys.map V.str))) := same_new hl
    intro fd hfd
    have s2 : Same H2 (upd (upd H2 l (.lst (ys.map V.str))) fd (.dT [])) := same_upd sl (sl.free hfd)
    have hl3 : (upd (upd H2 l (.lst (ys.map V.str))) fd (.dT [])) l = some (.lst (ys.map V.str)) := same_new hfd _ _ upd_same
    have hf3 : (upd (upd H2 l (.lst (ys.map V.str))) fd (.dT [])) fd = some (.dT []) := upd_same
    have hfH : H fd = none := x_free (s1.trans sx2) hp2 (sl.free hfd)
    have hlp : l ≠ p := (hp2.ne hl).symm
    have hp3 := hp2.mono s2
    generalize upd (upd H2 l (.lst (ys.map V.str))) fd (.dT []) = H3 at s2 hl3 hf3 hp3 ⊢
    refine ⟨_, _, rfl, ?_⟩
    refine ⟨_, rfl, l, _, rfl, SqL.of hl3, fun r hr0 => ?_⟩
    have s4 : Same H3 (upd H3 r (.lst (ys.map V.str).reverse)) := same_new hr0
    have hr4 : (upd H3 r (.lst (ys.map V.str).reverse)) r = some (.lst (ys.reverse.map V.str)) := by rw [upd_same, List.map_reverse]
    generalize upd H3 r (.lst (ys.map V.str).reverse) = H4 at s4 hr4 ⊢
    intro bk dx hbk hdx hne
    have s5 : Same H4 (upd (upd H4 dx (.own bk)) bk (.ins (He.ga K "Book") dx [])) := same_upd (same_new hdx) hbk
    refine ⟨bk, dx, r, ys.reverse, rfl, upd_same, SqL.of (s5 _ _ hr4), by rw [List.length_reverse]; omega, by rw [List.length_reverse]; omega, fun x hx => hyok x (List.mem_reverse.mp hx), (by unfold List.Nodup; rw [List.pairwise_reverse]; exact hS.nodup.imp fun h => h.symm), fun H6 bt bq ys' sx6 hq hperm' hS' hB => ⟨rfl, ?_⟩⟩
    obtain rfl : ys = ys' := sorted_eq ((List.reverse_perm ys).symm.trans hperm'.symm) hsort hS'
    have s46 := same_x1 s5 sx6 hbk
    have s26 := (s2.trans s4).trans s46
    have h06 : SameX [p] H H6 := (s1.trans sx2).trans (same_toX s26 _)
    have hp6 := hp2.mono s26
    have hfq : fd ≠ bq := fun e => by have z := s5.free hq; rw [← e, s4 _ _ hf3] at z; cases z
    have hqH : H bq = none := x_free (s1.trans sx2) hp2 ((s2.trans s4).free (s5.free hq))
    have hl6 := s46 _ _ (s4 _ _ hl3)
    have hf6 := s46 _ _ (s4 _ _ hf3)
    clear hq s46 s26 sx6 s5 hbk hdx hr4 s4 hr0 hp3 hf3 hl3 s2
    refine ⟨_, rfl, l, _, rfl, SqL.of hl6, ?_⟩
    refine for_enumL (xs := ys.map V.str) (fun i σ H' => ∃ (v5 v6 v7 v8 : Option V) (kvs : List (List Key × V)) (R : Rs), σ = [some (.ref p), some (.int 6), some (.ref l), some (.ref fd), some (.ref bk), v5, v6, v7, v8] ∧ PotOk H' p ∧ SameX [p] H H' ∧ H' l = some (.lst (ys.map V.str)) ∧ H' fd = some (.dT kvs) ∧ kvs.length ≤ 12 * i ∧ BookAt K H' bk bt bq ys R ∧ okR R)
      ⟨none, none, none, none, [], _, rfl, hp6, h06, hl6, hf6, by simp, hB, fun _ _ => .inl rfl⟩ (fun i σ H' _ ⟨_, _, _, _, _, _, _, _, _, h, _⟩ => SqL.of h) ?_ ?_
    · rintro i y σ H7 Tu hy ⟨v5, v6, v7, v8, kvs, R, rfl, hp7, h07, hl7, hf7, hk7, hB7, hR7⟩ hTu
      obtain ⟨n, hn, rfl⟩ := getElem?_map_some hy
      have hi := lt_of_get hn
      have sT : Same H7 (upd H7 Tu (.tup [.int (i : Nat), .str n])) := same_new hTu
      have hp8 := hp7.mono sT
      have hl8 := sT _ _ hl7
      have hf8 := sT _ _ hf7
      have hB8 := hB7.mono sT
      have h08 := h07.trans (same_toX sT _)
      generalize upd H7 Tu (.tup [.int (i : Nat), .str n]) = H8 at sT hp8 hl8 hf8 hB8 h08 ⊢
      refine ⟨_, _, rfl, _, _, rfl, rfl, ?_⟩
      refine ⟨_, rfl, _, rfl, _, rfl, l, _, rfl, SqL.of hl8, fun c hc => ?_⟩
      rw [cut_take (by rw [List.length_map]; omega), ← List.map_take]
      have sc : Same H8 (upd H8 c (.lst ((ys.take i).map V.str))) := same_new hc
      have hc9 : (upd H8 c (.lst ((ys.take i).map V.str))) c = some (.lst ((ys.take i).map V.str)) := upd_same
      have hp9 := hp8.mono sc
      have hl9 := sc _ _ hl8
      have hf9 := sc _ _ hf8
      have hB9 := hB8.mono sc
      have h09 := h08.trans (same_toX sc _)
      have hcp : c ≠ p := (hp8.ne hc).symm
      have hcf : c ≠ fd := fun e => by rw [e, hf8] at hc; cases hc
      generalize upd H8 c (.lst ((ys.take i).map V.str)) = H9 at sc hc9 hp9 hl9 hf9 hB9 h09 ⊢
      refine ⟨c, rfl, ⟨_, SqL.of hc9⟩, for_list (xs := (ys.take i).map V.str) (fun j σ H' => ∃ (v7 v8 : Option V) (kvs : List (List Key × V)) (R : Rs), σ = [some (.ref p), some (.int 6), some (.ref l), some (.ref fd), some (.ref bk), some (.int (i : Nat)), some (.str n), v7, v8] ∧ PotOk H' p ∧ SameX [p] H H' ∧ H' l = some (.lst (ys.map V.str)) ∧ H' c = some (.lst ((ys.take i).map V.str)) ∧ H' fd = some (.dT kvs) ∧ kvs.length ≤ 12 * i + 2 * j ∧ BookAt K H' bk bt bq ys R ∧ okR R)
        ⟨v7, v8, kvs, R, rfl, hp9, h09, hl9, hc9, hf9, by omega, hB9, hR7⟩ (fun i σ H' _ ⟨_, _, _, _, _, _, _, _, h, _⟩ => SqL.of h) ?_ ?_⟩
      · rintro j z σ H10 hz ⟨v7, v8, kvs, R, rfl, hp10, h010, hl10, hc10, hf10, hk10, hB10, hR10⟩
        obtain ⟨o, ho, rfl⟩ := getElem?_map_some hz
        have hj := lt_of_get ho
        rw [List.length_take] at hj
        have hno : n ≠ o := fun e => not_mem_take hS.nodup hn (e ▸ List.mem_of_getElem? ho)
        have hny := List.mem_of_getElem? hn
        have hoy := List.mem_of_mem_take (List.mem_of_getElem? ho)
        refine ⟨_, rfl, by show 7 ≤ sizeLine; decide, fun q hq => ?_⟩
        have sq := same_new (o := .lst [.int 2, .int 2, .int 3, .int 3, .int 4, .int 6, .non]) hq
        refine ⟨p, .ref q, rfl, hp10.mono sq, .inr ⟨q, [.int 2, .int 2, .int 3, .int 3, .int 4, .int 6, .non], rfl, SqL.of ?_, by decide, by decide, fun H11 x s11 hp11 hx => ?_⟩⟩
        · have qp : q ≠ p := (hp10.ne hq).symm
          unfold hide
          simp only [List.mem_singleton, qp, if_false]
          exact upd_same
        obtain ⟨r, rfl, hr1⟩ : ∃ r, x = optI r ∧ okRest r := by
          simp only [List.mem_cons, List.not_mem_nil, or_false] at hx
          rcases hx with rfl | rfl | rfl | rfl | rfl | rfl | rfl
          · exact ⟨some 2, rfl, by simp [okRest]⟩
          · exact ⟨some 2, rfl, by simp [okRest]⟩
          · exact ⟨some 3, rfl, by simp [okRest]⟩
          · exact ⟨some 3, rfl, by simp [okRest]⟩
          · exact ⟨some 4, rfl, by simp [okRest]⟩
          · exact ⟨some 6, rfl, by simp [okRest]⟩
          · exact ⟨none, rfl, by simp [okRest]⟩
        have h011 := (h010.trans (same_toX sq _)).trans s11
        have hl11 := keep_x s11 hlp (sq _ _ hl10)
        have hc11 := keep_x s11 hcp (sq _ _ hc10)
        have hfp : fd ≠ p := fun e => by obtain ⟨a, b, h, _⟩ := hp10; rw [← e, hf10] at h; cases h
        have hf11 := s11 fd _ (by simp [hfp]) (sq _ _ hf10)
        have hB11 := (hB10.mono sq).x (hp10.mono sq) s11
        clear s11 sq
        refine ⟨_, rfl, _, rfl, by show 2 ≤ sizeLine; decide, fun u hu1 => ⟨u, _, rfl, .inl (.inl upd_same), rfl, _, _, rfl, _, rfl, _, rfl, _, rfl, by show 2 ≤ sizeLine; decide, fun u2 hu2 => ?_⟩⟩
        have su := same_upd (o := .tup [.str n, .str o]) (same_new (o := .tup [optI r, optI r]) hu1) ((same_new (o := .tup [optI r, optI r]) hu1).free hu2)
        have hp12 := hp11.mono su
        have hl12 := su _ _ hl11
        have hc12 := su _ _ hc11
        have hf12 := su _ _ hf11
        have hB12 := hB11.mono su
        have h012 := h011.trans (same_toX su _)
        have hu12 : (upd (upd H11 u (.tup [optI r, optI r])) u2 (.tup [.str n, .str o])) u2 = some (.tup [.str n, .str o]) := upd_same
        generalize upd (upd H11 u (.tup [optI r, optI r])) u2 (.tup [.str n, .str o]) = H12 at hp12 hl12 hc12 hf12 hB12 h012 hu12 ⊢
        refine ⟨fd, _, rfl, DPut.t (k := [.inr n, .inr o]) hf12 hu12 (small1000 (by omega)), ?_⟩
        have hpf : p ≠ fd := hfp.symm
        have hlf : l ≠ fd := fun e => by rw [e, hf12] at hl12; cases hl12
        have hp13 := PotOk.upd (o := .dT (putK kvs [.inr n, .inr o] (optI r))) hp12 hpf
        have hB13 := hB12.dput (o := .dT (putK kvs [.inr n, .inr o] (optI r))) hf12 hfq
        have hf13 : (upd H12 fd (.dT (putK kvs [.inr n, .inr o] (optI r)))) fd = some (.dT (putK kvs [.inr n, .inr o] (optI r))) := upd_same
        have hl13 : (upd H12 fd (.dT (putK kvs [.inr n, .inr o] (optI r)))) l = _ := (upd_ne hlf).trans hl12
        have hc13 : (upd H12 fd (.dT (putK kvs [.inr n, .inr o] (optI r)))) c = _ := (upd_ne hcf).trans hc12
        have h013 := samex_upd (o := .dT (putK kvs [.inr n, .inr o] (optI r))) h012 (.inr hfH)
        generalize upd H12 fd (.dT (putK kvs [.inr n, .inr o] (optI r))) = H13 at hp13 hB13 hf13 hl13 hc13 h013 ⊢
        refine ⟨_, _, rfl, _, rfl, _, rfl, _, rfl, by show 2 ≤ sizeLine; decide, fun u3 hu3 => ?_⟩
        have s14 := same_new (o := .tup [.str o, .str n]) hu3
        have hk1 := putK_len kvs [.inr n, .inr o] (optI r)
        generalize putK kvs [.inr n, .inr o] (optI r) = kvs1 at hf13 hk1 ⊢
        refine ⟨fd, _, rfl, DPut.t (k := [.inr o, .inr n]) (s14 _ _ hf13) upd_same (small1000 (by omega)), rfl, ?_⟩
        have hp14 := PotOk.upd (o := .dT (putK kvs1 [.inr o, .inr n] (optI r))) (hp13.mono s14) hpf
        have hB14 := (hB13.mono s14).dput (o := .dT (putK kvs1 [.inr o, .inr n] (optI r))) (s14 _ _ hf13) hfq
        have hf14 : (upd (upd H13 u3 (.tup [.str o, .str n])) fd (.dT (putK kvs1 [.inr o, .inr n] (optI r)))) fd = some (.dT (putK kvs1 [.inr o, .inr n] (optI r))) := upd_same
        have hl14 : (upd (upd H13 u3 (.tup [.str o, .str n])) fd (.dT (putK kvs1 [.inr o, .inr n] (optI r)))) l = _ := (upd_ne hlf).trans (s14 _ _ hl13)
        have hc14 : (upd (upd H13 u3 (.tup [.str o, .str n])) fd (.dT (putK kvs1 [.inr o, .inr n] (optI r)))) c = _ := (upd_ne hcf).trans (s14 _ _ hc13)
        have h014 := samex_upd (o := .dT (putK kvs1 [.inr o, .inr n] (optI r))) (h013.trans (same_toX s14 _)) (.inr hfH)
        generalize upd (upd H13 u3 (.tup [.str o, .str n])) fd (.dT (putK kvs1 [.inr o, .inr n] (optI r))) = H14 at hp14 hB14 hf14 hl14 hc14 h014 ⊢
        have hk2 := putK_len kvs1 [.inr o, .inr n] (optI r)
        generalize putK kvs1 [.inr o, .inr n] (optI r) = kvs2 at hf14 hk2 ⊢
        refine ⟨_, rfl, _, rfl, _, rfl, _, rfl, by show 2 ≤ sizeLine; decide, fun u4 hu4 => ?_⟩
        have s15 := same_new (o := .tup [.str n, .str o]) hu4
        have hB15 := hB14.mono s15
        obtain ⟨dx15, hi15⟩ := hB15.ins
        refine ⟨bk, dx15, _, rfl, hi15, bk, bt, bq, u4, ys, _, n, o, r, rfl, .inl (.inl upd_same), hB15, hny, hoy, hno, hS, by omega, hr1, fun H16 s16 hq16 => ?_⟩
        have hB16 := hB15.put' s16 hq16
        have h016 := samex_q (h014.trans (same_toX s15 _)) s16 hqH
        have hqd := hB15.dic
        have kq : ∀ {r : Addr} {xs : List V}, H14 r = some (.lst xs) → H16 r = some (.lst xs) := fun {r xs} h => keep_x s16 (ne_of (s15 _ _ h) hqd (by intro z; cases z)) (s15 _ _ h)
        have hp16 : PotOk H16 p := by
          obtain ⟨a, b, hpl, h1⟩ := hp14
          exact ⟨a, b, kq hpl, h1⟩
        exact ⟨_, _, kvs2, _, rfl, hp16, h016, kq hl14, kq hc14, s16 fd _ (by simp [hfq]) (s15 _ _ hf14), by omega, hB16, hR10.put hr1 _ _⟩
      · rintro σ H10 ⟨v7, v8, kvs, R, rfl, hp10, h010, hl10, hc10, hf10, hk10, hB10, hR10⟩
        rw [List.length_map, List.length_take] at hk10
        exact ⟨_, _, _, _, kvs, R, rfl, hp10, h010, hl10, hf10, by omega, hB10, hR10⟩
    · rintro σ H7 ⟨v5, v6, v7, v8, kvs, R, rfl, hp7, h07, hl7, hf7, hk7, hB7, hR7⟩
      refine ⟨_, rfl, _, rfl, _, rfl, by show 3 ≤ sizeLine; decide, fun t ht => ?_⟩
      have st := same_new (o := .tup [.ref l, .ref fd, .ref bk]) ht
      exact k _ t l fd bk bt bq ys R (h07.trans (same_toX st _)) (hp7.mono st) upd_same (st _ _ hl7) (hB7.mono st) hS hyok (by omega) (by omega) hR7 hlp
end
end T85
end

section
set_option Elab.async false
set_option linter.all false
set_option maxRecDepth 100000
set_option maxHeartbeats 4000000
/-! splitting a text at one sign -/
namespace T85
open PySem PySem.Spec L2 Fx
/-- l cut at each s -/
def sp1 (s : Nat) : List Nat → List Nat → List (List Nat)
  | acc, [] => [acc]
  | acc, c :: r => if c = s then acc :: sp1 s [] r else sp1 s (acc ++ [c]) r
def mk (l : List Nat) : Str := ⟨l.toArray⟩
theorem mk_list (l : List Nat) : (mk l).cps.toList = l := rfl
theorem mk_of (x : Str) : mk x.cps.toList = x := by
  cases x; rfl
theorem mk_inj {a b : List Nat} (h : mk a = mk b) : a = b := by
  have := congrArg (fun z : Str => z.cps.toList) h
  exact this
theorem spl_sp1 (s : Nat) : ∀ (l acc : List Nat), TL.spl [s] 0 acc l = sp1 s acc l
  | [], acc => TL.spl_nil _ _ _
  | c :: r, acc => by
    by_cases e : c = s
    · subst e
      rw [TL.spl_hit (by unfold TL.pre; simp)]
      show acc :: TL.spl [c] 0 [] r = _
      rw [spl_sp1 c r, sp1, if_pos rfl]
    · rw [TL.spl_miss (by unfold TL.pre; simp [e]), spl_sp1 s r, sp1, if_neg e]
theorem split1 (x : Str) {s : Nat} (hs : s < 256) : Txt.split x ⟨#[s]⟩ = (sp1 s [] x.cps.toList).map mk := by
  have h := TL.split_spl x ⟨#[s]⟩ (by unfold TL.tl; simp) (TL.kind_ok (by simp [hs]))
  rw [show TL.tl ⟨#[s]⟩ = [s] from rfl, spl_sp1] at h
  rw [show sp1 s [] x.cps.toList = sp1 s [] (TL.tl x) from rfl, ← h, List.map_map]
  have e : (mk ∘ TL.tl) = id := funext fun z => mk_of z
  rw [e, List.map_id]
theorem sp1_len (s : Nat) : ∀ (l acc : List Nat), ∀ p ∈ sp1 s acc l, p.length ≤ acc.length + l.length
  | [], acc, p, h => by
    rw [sp1, List.mem_singleton] at h
    subst h; exact Nat.le_add_right _ _
  | c :: r, acc, p, h => by
    rw [sp1] at h
    split at h
    · rcases List.mem_cons.mp h with h | h
      · subst h; exact Nat.le_add_right _ _
      · have := sp1_len s r [] p h
        simp only [List.length_nil, List.length_cons] at this ⊢; omega
    · have := sp1_len s r _ p h
      simp only [List.length_append, List.length_cons, List.length_nil] at this ⊢; omega
theorem sp1_many (s : Nat) : ∀ (l acc : List Nat), (sp1 s acc l).length ≤ l.length + 1
  | [], acc => by simp [sp1]
  | c :: r, acc => by
    rw [sp1]
    split
    · have := sp1_many s r []
      simp only [List.length_cons]; omega
    · have := sp1_many s r (acc ++ [c])
      simp only [List.length_cons]; omega
theorem sp1_ne (s : Nat) : ∀ (l acc : List Nat), sp1 s acc l ≠ []
  | [], acc => by simp [sp1]
  | c :: r, acc => by
    rw [sp1]
    split
    · simp
    · exact sp1_ne s r _
/-- the words of a line, the parts of a text -/
def wordsS (x : Str) : List Str := (sp1 32 [] x.cps.toList).map mk
def partsS (x : Str) : List Str := (sp1 10 [] x.cps.toList).map mk
theorem wordsS_eq (x : Str) : Txt.split x (Str.ofString " ") = wordsS x := split1 x (s := 32) (by decide)
theorem partsS_eq (x : Str) : Txt.split x (Str.ofString "\n") = partsS x := split1 x (s := 10) (by decide)
theorem cut_len {s : Nat} {x p : Str} (h : p ∈ (sp1 s [] x.cps.toList).map mk) : p.length ≤ x.length := by
  obtain ⟨l, hl, rfl⟩ := List.mem_map.mp h
  have := sp1_len s x.cps.toList [] l hl
  show l.toArray.size ≤ x.cps.size
  simpa using this
theorem wordsS_len {x p : Str} (h : p ∈ wordsS x) : p.length ≤ x.length := cut_len h
theorem partsS_len {x p : Str} (h : p ∈ partsS x) : p.length ≤ x.length := cut_len h
theorem wordsS_many (x : Str) : (wordsS x).length ≤ x.length + 1 := by
  unfold wordsS; rw [List.length_map]
  have := sp1_many 32 x.cps.toList []
  simpa [Str.length] using this
theorem partsS_many (x : Str) : (partsS x).length ≤ x.length + 1 := by
  unfold partsS; rw [List.length_map]
  have := sp1_many 10 x.cps.toList []
  simpa [Str.length] using this
theorem partsS_ne (x : Str) : partsS x ≠ [] := by
  unfold partsS
  have := sp1_ne 10 x.cps.toList []
  simpa using this
theorem wordsS_ne (x : Str) : wordsS x ≠ [] := by
  unfold wordsS
  have := sp1_ne 32 x.cps.toList []
  simpa using this
end T85
end

section
set_option Elab.async false
set_option linter.all false
set_option maxRecDepth 100000
set_option maxHeartbeats 4000000
namespace T85
open PySem PySem.Spec L2 Fx
section
variable {P : Program} {w : World} {K : PySem.W.Frag} {mg : Str → Option Value} {base : Heap}
/-! ### InvalidText -/
def spExInit (K : PySem.W.Frag) : Sp := fun vs H Q _ => ∃ (a : Addr) (v : V), vs = [.ref a, v] ∧ H a = some (exo a (He.ga K "InvalidText") none) ∧ ∀ dx, H dx = none → dx ≠ a → Q .non (upd (upd H dx (exd dx [("line", v)])) a (exo a (He.ga K "InvalidText") (some dx)))
theorem ok_InvalidTextdd_initdd (T : Says w K mg) : Ok P w K mg base 1 ("InvalidText", some "__init__") ["self", "line"] (spExInit K) := by
  refine FunD.ok (d_InvalidTextdd_initdd T) sc_InvalidTextdd_initdd (fun vs H Q E h => ?len) (fun cdv A outer s H vs Q E hr h => ?bod)
  case len =>
    obtain ⟨a, v, rfl, _⟩ := h; rfl
  case bod =>
    obtain ⟨a, v, rfl, hi, k⟩ := h
    refine ⟨_, PSs.nox (pss_one (ps_ost (pv 0) (pv 1))), ?_⟩
    exact ⟨_, rfl, _, rfl, a, _, rfl, oex_InvalidText T, no_line T, .inl ⟨hi, fun dx h1 h2 => k dx h1 h2⟩⟩
/-- [is_name(x) for x in a list] -/
theorem lc_names {spN : Sp} (hsp : spN = spIsName) {j : Nat} {σ : L2.St} {H1 : Hp} {D a : Addr} {xs : List Str} {Qd : Hp → Prop} (ha : SqL K H1 a (xs.map V.str)) (hD : H1 D = none) (hx : ∀ x ∈ xs, x.length ≤ 1000000) (hl : xs.length ≤ 1000)
    (hv : ∀ x : V, ((wipe σ [j]).set j (some x))[j]? = some (some x)) (hw : ∀ x, wipe ((wipe σ [j]).set j (some x)) [j] = wipe σ [j])
    (hd : ∀ H3, Same H1 H3 → H3 D = some (.lst ((xs.map nameB).map V.bl)) → Qd H3) : LcGoal (Itl K a) (gName j) tYes (tCall spN [] E0 (tCons (tVar j) tNil)) [j] σ H1 D Qd := by
  subst hsp
  refine lcm_list (xs := xs.map V.str) (fun q acc H2 => Same H1 H2 ∧ H2 D = some (.lst acc) ∧ acc = ((xs.take q).map nameB).map V.bl) ⟨same_new hD, upd_same, rfl⟩ (fun q acc H h => seq_mono h.1 ha) ?_ ?_ hw
  · rintro q y acc H2 hy ⟨s2, hD2, rfl⟩
    obtain ⟨x, hxq, rfl⟩ := getElem?_map_some hy
    refine ⟨_, hv _, x, _, rfl, hx x (List.mem_of_getElem? hxq), rfl, fun H3 s3 => ⟨_, s3 _ _ hD2, by rw [List.length_map, List.length_map, List.length_take]; exact small1000 (by omega), _, same_upd (s2.trans s3) hD, upd_same, ?_⟩⟩
    rw [take_of_get hxq, List.map_append, List.map_append]; rfl
  · rintro acc H2 ⟨s2, hD2, rfl⟩
    rw [List.length_map, List.take_length] at hD2
    exact hd _ s2 hD2
def spLawIsName : Sp := spIsName
theorem ok__law_is_name (T : Says w K mg) : Ok P w K mg base 1 ("_law_is_name", none) ["_law_word"] (spLawIsName) := by
  refine FunD.ok (d__law_is_name T) sc__law_is_name (fun vs H Q E h => ?len) (fun cdv A outer s H vs Q E hr h => ?bod)
  case len =>
    obtain ⟨x, b, rfl, _⟩ := h; rfl
  case bod =>
    obtain ⟨x, b, rfl, hx, rfl, k⟩ := h
    refine ⟨_, PSs.nox (pss_one (ps_ret (pe_and (pe_chain op_le op_le pe_int (pe_callB call_len_str (by rfl) (T.free_ 6) (by decide +kernel) (pa_cons (pv 0) pa_nil)) pe_int) (pe_one (pe_callB (k_all (K := K) (by rfl) rfl) (by rfl) (T.free_ 9) (by decide +kernel) (pa_cons (pe_lc (own := [("_law_sign", 1)]) rfl sc__law_is_name.nd (pi_str (pv 0)) (blkOk_by (N := N__law_is_name) (sc := defScope s__law_is_name) (by decide +kernel)) (fun _ _ _ _ _ => (pg_name (i := 1) sc__law_is_name.nd rfl (Or.inl rfl))) (fun _ _ _ _ _ => pts_nil) (fun _ _ _ _ _ => (pe_cmpR op_in_sign (pv 1) pe_str (by rfl)))) pa_nil)))))), ?_⟩
    have hs : x.length ≤ sizeLine := Nat.le_trans hx (by decide)
    by_cases h1 : 1 ≤ x.cps.size
    case neg =>
      refine ⟨_, rfl, x, rfl, hs, _, _, rfl, rfl, false, ?_, iteF ?_⟩
      · show V.bl (decide ((1 : Int) ≤ (x.cps.size : Nat))) = _; rw [decide_eq_false (by omega)]
      · refine ⟨false, rfl, iteF ?_⟩
        have z := k H (Same.refl H)
        rw [nameB_no x (fun y => h1 y.1)] at z
        exact z
    by_cases h8 : x.cps.size ≤ 8
    case neg =>
      refine ⟨_, rfl, x, rfl, hs, _, _, rfl, rfl, true, ?_, iteT ⟨_, _, rfl, rfl, false, ?_, iteF ?_⟩⟩
      · show V.bl (decide ((1 : Int) ≤ (x.cps.size : Nat))) = _; rw [decide_eq_true (by omega)]
      · show V.bl (decide (((x.cps.size : Nat) : Int) ≤ 8)) = _; rw [decide_eq_false (by omega)]
      · have z := k H (Same.refl H)
        rw [nameB_no x (fun y => h8 y.2)] at z
        exact z
    refine ⟨_, rfl, x, rfl, hs, _, _, rfl, rfl, true, ?_, iteT ⟨_, _, rfl, rfl, true, ?_, iteT ?_⟩⟩
    · show V.bl (decide ((1 : Int) ≤ (x.cps.size : Nat))) = _; rw [decide_eq_true (by omega)]
    · show V.bl (decide (((x.cps.size : Nat) : Int) ≤ 8)) = _; rw [decide_eq_true (by omega)]
    refine ⟨_, rfl, x, rfl, fun D hD => lcm_str
      (fun q acc H2 => Same H H2 ∧ H2 D = some (.lst acc) ∧ acc = ((signsB x).take q).map V.bl)
      ⟨same_new hD, upd_same, rfl⟩ ?_ ?_⟩
    · rintro q c acc H2 hq ⟨s2, hD2, rfl⟩
      have hq' : x.cps.toList[q]? = some c := by simpa using hq
      refine ⟨_, rfl, c, _, rfl, rfl, _, hD2, by have := (Array.getElem?_eq_some_iff.mp hq).1; rw [List.length_map, List.length_take]; exact small1000 (by omega), _, same_upd s2 hD, upd_same, ?_⟩
      rw [take_of_get (show (signsB x)[q]? = some _ by unfold signsB; rw [List.getElem?_map, hq']; rfl), List.map_append]; rfl
    · rintro acc H2 ⟨s2, hD2, rfl⟩
      refine ⟨D, _, rfl, SqL.of hD2, ?_⟩
      have e : ((signsB x).take x.cps.size).all id = nameB x := by
        rw [List.take_of_length_le (by unfold signsB; simp), nameB_all x h1 h8]
        unfold signsB
        rw [List.all_map]; rfl
      rw [e]
      exact k _ s2
/-- the row that a text tells -/
def rowWords (x : Str) : List Str := if x = Str.ofString "-" then [] else wordsS x
def rowOf (x : Str) : Option (List Str) := if (rowWords x).length ≤ 400 ∧ (rowWords x).all nameB = true then some (rowWords x) else none
theorem rowWords_len {x y : Str} (h : y ∈ rowWords x) : y.length ≤ x.length := by
  unfold rowWords at h
  split at h
  · cases h
  · exact wordsS_len h
def spRowIn (K : PySem.W.Frag) : Sp := fun vs H Q _ => ∃ (x : Str), vs = [.str x] ∧ x.length ≤ 100000 ∧ (rowOf x = none → ∀ H', Same H H' → Q .non H') ∧ ∀ ws, rowOf x = some ws → ∀ H' p, Same H H' → H p = none → RowAt K H' p ws → Q (.ref p) H'
theorem ok_row_in (T : Says w K mg) : Ok P w K mg base 4 ("row_in", none) ["text"] (spRowIn K) := by
  have G_is_name := FnOk.mono (k := 3) (ok_is_name (P := P) (w := w) (base := base) T) (by decide)
  have G_Rowdd_initdd := FnOk.mono (k := 2) (ok_Rowdd_initdd (P := P) (w := w) (base := base) T) (by decide)
  refine FunD.ok (d_row_in T) sc_row_in (fun vs H Q E h => ?len) (fun cdv A outer s H vs Q E hr h => ?bod)
  case len =>
    obtain ⟨x, rfl, _⟩ := h; rfl
  case bod =>
    obtain ⟨x, rfl, hx, kn, ks⟩ := h
    refine ⟨_, PSs.nox (pss_cons (ps_set (i := 1) sc_row_in.nd rfl (Or.inl rfl) (pe_ifExp (pt_cmpR op_eq (pv 0) (pe_globS (by rfl) (T.str_ 28)) (nomark _)) (pe_lst pa_nil) (pe_bm PySem.F.plainAttrs_str PySem.F.slot_str_split PySem.F.type_str_split mt_split (pv 0) (pa_cons pe_str pa_nil))))
      (pss_cons (ps_if (pw_or (pt_cmpR op_gt (pe_callB (k_len (K := K) (by rfl)) (by rfl) (T.free_ 6) (by decide +kernel) (pa_cons (pv 1) pa_nil)) (pe_globI (by rfl) (T.int_ 10)) (nomark _)) (pw_or1 (pt_not (pt_val (pe_callB (k_all (K := K) (by rfl) rfl) (by rfl) (T.free_ 9) (by decide +kernel) (pa_cons (pe_lc (own := [("name", 2)]) rfl sc_row_in.nd (k_pil (K := K) (by rfl) (pv 1)) (blkOk_by (N := N_row_in) (sc := defScope s_row_in) (by decide +kernel)) (fun _ _ _ _ _ => (pg_name (i := 2) sc_row_in.nd rfl (Or.inl rfl))) (fun _ _ _ _ _ => pts_nil) (fun _ _ _ _ _ => (pe_call G_is_name hr (by rfl) (T.glo_ 13) (d_is_name T).kp (b_is_name T) .nil pass0 (pa_cons (pv 2) pa_nil)))) pa_nil)))))).pt (pss_one (ps_ret pe_non)) pss_nil)
      (pss_one (ps_ret (pe_make (T.mkr_ 55) G_Rowdd_initdd hr (by rfl) (T.glo_ 16) (b_Rowdd_initdd T) .nil pass0 (pa_cons (pv 1) pa_nil)))))), ?_⟩
    refine ⟨_, rfl, rfl, decide (x = Str.ofString "-"), ?_, ?_⟩
    · show V.bl (decide (V.str x = V.str _)) = _
      by_cases e : x = Str.ofString "-"
      · rw [decide_eq_true e, decide_eq_true (congrArg V.str e)]
      · rw [decide_eq_false e, decide_eq_false fun z => e (V.str.inj z)]
    have hx2 : x.length + 2 ≤ sizeLine := Nat.le_trans (Nat.add_le_add_right hx 2) (by decide)
    have hfin : ∀ (l : Addr) (H1 : Hp), H l = none → H1 = upd H l (.lst ((rowWords x).map V.str)) → Same H H1 ∧ H1 l = some (.lst ((rowWords x).map V.str)) := fun l H1 h1 h2 => by subst h2; exact ⟨same_new h1, upd_same⟩
    by_cases e : x = Str.ofString "-"
    · rw [decide_eq_true e]
      refine iteT ⟨by show 0 ≤ sizeLine; decide, fun l hl => ?_⟩
      have hw : ([] : List V) = (rowWords x).map V.str := by unfold rowWords; rw [if_pos e]; rfl
      obtain ⟨s1, hl1⟩ := hfin l (upd H l (.lst [])) hl (by rw [← hw])
      generalize upd H l (.lst []) = H1 at s1 hl1 ⊢
      refine ⟨_, rfl, l, _, rfl, .inl (SqL.of hl1), _, _, rfl, rfl, decide (400 < (rowWords x).length), by rw [List.length_map]; show V.bl (decide ((400 : Int) < ((rowWords x).length : Nat))) = _; congr 1; exact decide_eq_decide.mpr (by omega), ?_⟩
      by_cases h4 : 400 < (rowWords x).length
      · rw [decide_eq_true h4]
        exact iteT (kn (by unfold rowOf; rw [if_neg (fun z => by omega)]) _ s1)
      rw [decide_eq_false h4]
      refine iteF ⟨_, rfl, l, rfl, ⟨_, SqL.of hl1⟩, fun D hD => lc_names (σ := [some (.str x), some (.ref l), none]) rfl (SqL.of hl1) hD (fun y hy => Nat.le_trans (rowWords_len hy) (Nat.le_trans hx (by decide))) (by omega) (fun _ => rfl) (fun _ => rfl) fun H3 s3 hD3 => ?_⟩
      refine ⟨D, _, rfl, SqL.of hD3, ((rowWords x).map nameB).all id, rfl, ?_⟩
      rw [List.all_map, show (id ∘ nameB) = nameB from rfl]
      cases hn : (rowWords x).all nameB with
      | false => exact iteT (kn (by unfold rowOf; rw [if_neg (fun z => by rw [hn] at z; cases z.2)]) _ (s1.trans s3))
      | true =>
        refine iteF ⟨_, rfl, fun p dx hp hdx hne => ?_⟩
        have s4 : Same H3 (upd (upd H3 dx (.own p)) p (.ins (He.ga K "Row") dx [])) := same_upd (same_new hdx) hp
        refine ⟨p, dx, l, rowWords x, rfl, upd_same, .inl (SqL.of (s4 _ _ (s3 _ _ hl1))), by omega, fun y hy => of_decide_eq_true (List.all_eq_true.mp hn y hy), fun H5 t sx hp5 ht => ⟨rfl, ?_⟩⟩
        have s5 := same_x1 s4 sx hp
        exact ks _ (by unfold rowOf; rw [if_pos ⟨by omega, hn⟩]) _ p ((s1.trans s3).trans s5) ((s1.trans s3).free hp) ⟨dx, t, hp5, ht⟩
    · rw [decide_eq_false e]
      refine iteF ⟨_, rfl, rfl, x, _, rfl, rfl, rfl, hx2, ?_⟩
      rw [wordsS_eq]
      intro l hl
      have hw : (wordsS x).map V.str = (rowWords x).map V.str := by unfold rowWords; rw [if_neg e]
      rw [hw]
      obtain ⟨s1, hl1⟩ := hfin l _ hl rfl
      generalize upd H l (.lst ((rowWords x).map V.str)) = H1 at s1 hl1 ⊢
      refine ⟨_, rfl, l, _, rfl, .inl (SqL.of hl1), _, _, rfl, rfl, decide (400 < (rowWords x).length), by rw [List.length_map]; show V.bl (decide ((400 : Int) < ((rowWords x).length : Nat))) = _; congr 1; exact decide_eq_decide.mpr (by omega), ?_⟩
      by_cases h4 : 400 < (rowWords x).length
      · rw [decide_eq_true h4]
        exact iteT (kn (by unfold rowOf; rw [if_neg (fun z => by omega)]) _ s1)
      rw [decide_eq_false h4]
      refine iteF ⟨_, rfl, l, rfl, ⟨_, SqL.of hl1⟩, fun D hD => lc_names (σ := [some (.str x), some (.ref l), none]) rfl (SqL.of hl1) hD (fun y hy => Nat.le_trans (rowWords_len hy) (Nat.le_trans hx (by decide))) (by omega) (fun _ => rfl) (fun _ => rfl) fun H3 s3 hD3 => ?_⟩
      refine ⟨D, _, rfl, SqL.of hD3, ((rowWords x).map nameB).all id, rfl, ?_⟩
      rw [List.all_map, show (id ∘ nameB) = nameB from rfl]
      cases hn : (rowWords x).all nameB with
      | false => exact iteT (kn (by unfold rowOf; rw [if_neg (fun z => by rw [hn] at z; cases z.2)]) _ (s1.trans s3))
      | true =>
        refine iteF ⟨_, rfl, fun p dx hp hdx hne => ?_⟩
        have s4 : Same H3 (upd (upd H3 dx (.own p)) p (.ins (He.ga K "Row") dx [])) := same_upd (same_new hdx) hp
        refine ⟨p, dx, l, rowWords x, rfl, upd_same, .inl (SqL.of (s4 _ _ (s3 _ _ hl1))), by omega, fun y hy => of_decide_eq_true (List.all_eq_true.mp hn y hy), fun H5 t sx hp5 ht => ⟨rfl, ?_⟩⟩
        have s5 := same_x1 s4 sx hp
        exact ks _ (by unfold rowOf; rw [if_pos ⟨by omega, hn⟩]) _ p ((s1.trans s3).trans s5) ((s1.trans s3).free hp) ⟨dx, t, hp5, ht⟩
/-- what InvalidText with a line says: l the line, or None -/
def errT (K : PySem.W.Frag) (E : XK) (H : Hp) (l : V) : Prop := ∀ H' d, Same H H' → H d = none → H' d = some (.xd [("line", l)]) → E (.ref (He.ga K "InvalidText")) (some d) H'
/-- the making of InvalidText: what the rule asks -/
theorem errT_mk {E : XK} {H H1 : Hp} {l : V} (k : errT K E H l) (s : Same H H1) : (1 ≤ 1000) ∧ ∀ a, H1 a = none → spExInit K (.ref a :: ([l] ++ [])) (upd H1 a (exo a (He.ga K "InvalidText") none))
    (fun v H2 => v = .non ∧ ∃ (d : Addr) (fs : List (Str × V)), H2 a = some (exo a (He.ga K "InvalidText") (some d)) ∧ H2 d = some (exd d fs) ∧ H1 d = none ∧ E (.ref (He.ga K "InvalidText")) (some d) (upd (del H2 a) d (.xd fs))) (fun _ _ _ => False) := by
  refine ⟨by decide, fun a ha => ⟨a, l, rfl, upd_same, fun dx hdx hne => ⟨rfl, dx, _, upd_same, by rw [upd_ne hne]; exact upd_same, by rw [upd_ne hne] at hdx; exact hdx, ?_⟩⟩⟩
  have h1 : H1 dx = none := by rw [upd_ne hne] at hdx; exact hdx
  refine k _ dx (fun b o e => ?_) (s.free h1) upd_same
  have e1 := s b o e
  have nb : b ≠ dx := fun z => by rw [z, h1] at e1; cases e1
  have na : b ≠ a := fun z => by rw [z, ha] at e1; cases e1
  rw [upd_ne nb, del_ne na, upd_ne na, upd_ne nb, upd_ne na]
  exact e1
def spReadRow (K : PySem.W.Frag) : Sp := fun vs H Q E => (∃ (x : Str), vs = [.str x] ∧ x.length ≤ 100000 ∧ (rowOf x = none → errT K E H (.int 1)) ∧ ∀ ws, rowOf x = some ws → ∀ H' p, Same H H' → H p = none → RowAt K H' p ws → Q (.ref p) H') ∨
  ∃ (v : V) (t : Value), vs = [v] ∧ TyX K H v t ∧ PySem.W.kitOne K t (.type "str") = some false ∧ errT K E H .non
theorem ok_read_row (T : Says w K mg) : OkX P w K mg base 5 ("read_row", none) ["text"] (spReadRow K) := by
  have G_InvalidTextdd_initdd := FnOk.mono (k := 3) (ok_InvalidTextdd_initdd (P := P) (w := w) (base := base) T) (by decide)
  have G_row_in := FnOk.mono (k := 4) (ok_row_in (P := P) (w := w) (base := base) T) (by decide)
  refine FunD.ok (d_read_row T) sc_read_row (fun vs H Q E h => ?len) (fun cdv A outer s H vs Q E hr h => ?bod)
  case len =>
    rcases h with ⟨x, rfl, _⟩ | ⟨x, t, rfl, _⟩ <;> rfl
  case bod =>
    have tk : Takes (cxOf (L2.CX P w) P w K mg base N_read_row "read_row" (defScope s_read_row) (He.fAd K ("read_row", none)) cdv A outer s H E) (fun cls d _ H => E cls d H) := takes_of rfl rfl rfl rfl
    refine ⟨_, (pss_cons (ps_if (pt_not (pt_val (pe_callB (k_isi (K := K) (by rfl)) (by rfl) (T.free_ 0) (by decide +kernel) (pa_cons (pv 0) (pa_cons (pe_bltn (v := .ty "str") (u := .type "str") (by rfl) (T.free_ 5) (by decide +kernel) rfl) pa_nil))))) (pss_one (ps_raise rfl tk (pmk_oex (oex_InvalidText T) (ini_InvalidText T) (ity_InvalidText T) G_InvalidTextdd_initdd hr (b_InvalidTextdd_initdd T) .nil pass0 (by rfl) (T.glo_ 30) (pa_cons pe_non pa_nil)))) pss_nil)
      (pss_cons (ps_set (i := 1) sc_read_row.nd rfl (Or.inl rfl) (pe_call G_row_in hr (by rfl) (T.glo_ 31) (d_row_in T).kp (b_row_in T) .nil pass0 (pa_cons (pv 0) pa_nil)))
      (pss_cons (ps_if (pt_cmpR op_isN (pv 1) pe_non (nomark _)) (pss_one (ps_raise rfl tk (pmk_oex (oex_InvalidText T) (ini_InvalidText T) (ity_InvalidText T) G_InvalidTextdd_initdd hr (b_InvalidTextdd_initdd T) .nil pass0 (by rfl) (T.glo_ 30) (pa_cons pe_int pa_nil)))) pss_nil)
      (pss_one (ps_ret (pv 1)))))), ?_⟩
    rcases h with ⟨x, rfl, hx, kn, ks⟩ | ⟨v, t, rfl, ht, hk, ke⟩
    · refine ⟨_, rfl, _, _, _, _, true, rfl, .ty "str", .base (.str x), kit_ty (by decide +kernel), true, rfl, iteF ?_⟩
      refine ⟨_, rfl, x, rfl, hx, fun hr0 H1 s1 => ?_, fun ws hws H1 p s1 hp hR => ?_⟩
      · exact ⟨_, rfl, rfl, true, rfl, iteT (errT_mk (kn hr0) s1)⟩
      · exact ⟨_, rfl, rfl, false, rfl, iteF ⟨_, rfl, ks ws hws H1 p s1 hp hR⟩⟩
    · exact ⟨_, rfl, _, _, _, _, false, rfl, .ty "str", ht, hk, false, rfl, iteT (errT_mk ke (Same.refl _))⟩
end
end T85
end

section
set_option Elab.async false
set_option linter.all false
set_option maxRecDepth 100000
set_option maxHeartbeats 4000000
namespace T85
open PySem PySem.Spec L2 Fx
/-! ### what a first line tells -/
def fixersOf (x : Str) : Option (List Str) := match wordsS x with
  | [] => none
  | f :: ns => if f = Str.ofString "fixers" ∧ 1 ≤ ns.length ∧ ns.length ≤ 6 ∧ ns.all nameB = true ∧ Srt ns then some ns else none
/-- the sorted list of the members is the list itself just if that rises -/
theorem set_sorted {ns ys : List Str} (p : ys.Perm (allX ns)) (h : PyProof.Rows.sortedS ys = true) : decide (ns = ys) = decide (Srt ns) := by
  have hS : Srt ys := srt_of h (p.nodup_iff.mpr (allX_nd ns))
  refine decide_eq_decide.mpr ⟨fun e => e ▸ hS, fun s => ?_⟩
  refine (sorted_eq ?_ h s).symm
  refine p.trans ?_
  refine (List.perm_ext_iff_of_nodup (allX_nd ns) s.nodup).mpr fun a => ?_
  exact allX_mem
theorem iteT' {b : Bool} {A B : Prop} (h : b = true) (k : A) : if b = true then A else B := by rw [if_pos h]; exact k
theorem eqS (a b : Str) : decide (V.str a = V.str b) = decide (a = b) := decide_eq_decide.mpr ⟨V.str.inj, congrArg V.str⟩
section
variable {P : Program} {w : World} {K : PySem.W.Frag} {mg : Str → Option Value} {base : Heap}
def spFixersIn (K : PySem.W.Frag) : Sp := fun vs H Q _ => ∃ (x : Str), vs = [.str x] ∧ x.length ≤ 100000 ∧ (fixersOf x = none → ∀ H', Same H H' → Q .non H') ∧ ∀ ns, fixersOf x = some ns → ∀ H' l, Same H H' → H l = none → H' l = some (.lst (ns.map V.str)) → Q (.ref l) H'
theorem ok_fixers_in (T : Says w K mg) : Ok P w K mg base 2 ("fixers_in", none) ["line"] (spFixersIn K) := by
  have G_is_name := FnOk.mono (k := 1) (ok_is_name (P := P) (w := w) (base := base) T) (by decide)
  refine FunD.ok (d_fixers_in T) sc_fixers_in (fun vs H Q E h => ?len) (fun cdv A outer s H vs Q E hr h => ?bod)
  case len =>
    obtain ⟨x, rfl, _⟩ := h; rfl
  case bod =>
    obtain ⟨x, rfl, hx, kn, ks⟩ := h
    refine ⟨_, PSs.nox (pss_cons (ps_asg (pe_bm PySem.F.plainAttrs_str PySem.F.slot_str_split PySem.F.type_str_split mt_split (pv 0) (pa_cons pe_str pa_nil)) (pg_star (K := K) (n := 2) (i := 1) (by rfl) rfl (pgs_cons (pg_name (i := 1) sc_fixers_in.nd rfl (Or.inl rfl)) (pgs_star (pg_name (i := 2) sc_fixers_in.nd rfl (Or.inl rfl)) pgs_nil)) (by decide)))
      (pss_cons (ps_if (pw_or (pt_cmpR op_ne (pv 1) (pe_globS (by rfl) (T.str_ 32)) (nomark _)) (pw_or1 (pt_not (pt_chain op_le op_le pe_int (pe_callB (k_len (K := K) (by rfl)) (by rfl) (T.free_ 6) (by decide +kernel) (pa_cons (pv 2) pa_nil)) (pe_globI (by rfl) (T.int_ 19)))))).pt (pss_one (ps_ret pe_non)) pss_nil)
      (pss_cons (ps_if (pw_or (pt_not (pt_val (pe_callB (k_all (K := K) (by rfl) rfl) (by rfl) (T.free_ 9) (by decide +kernel) (pa_cons (pe_lc (own := [("name", 3)]) rfl sc_fixers_in.nd (k_pil (K := K) (by rfl) (pv 2)) (blkOk_by (N := N_fixers_in) (sc := defScope s_fixers_in) (by decide +kernel)) (fun _ _ _ _ _ => (pg_name (i := 3) sc_fixers_in.nd rfl (Or.inl rfl))) (fun _ _ _ _ _ => pts_nil) (fun _ _ _ _ _ => (pe_call G_is_name hr (by rfl) (T.glo_ 13) (d_is_name T).kp (b_is_name T) .nil pass0 (pa_cons (pv 3) pa_nil)))) pa_nil)))) (pw_or1 (pt_cmpR (k_neD (K := K) (by rfl) hr.units) (pv 2) (pe_callB (k_sortedX (P := P) (w := w) (by rfl) (by rfl) (by rfl)) (by rfl) (T.free_ 20) (by decide +kernel) (pa_cons (pe_callTy (k_setX (P := P) (w := w) (K := K) (by rfl) (by rfl) (by rfl) (by rfl)) (by rfl) (T.free_ 34) (by decide +kernel) (pa_cons (pv 2) pa_nil)) pa_nil)) (nomark _)))).pt (pss_one (ps_ret pe_non)) pss_nil)
      (pss_one (ps_ret (pv 2)))))), ?_⟩
    have hx2 : x.length + 2 ≤ sizeLine := Nat.le_trans (Nat.add_le_add_right hx 2) (by decide)
    refine ⟨_, rfl, rfl, x, _, rfl, rfl, rfl, hx2, ?_⟩
    rw [wordsS_eq]
    have hwl : ∀ y ∈ wordsS x, y.length ≤ x.length := fun y hy => wordsS_len hy
    obtain ⟨f, ns, hw⟩ : ∃ f ns, wordsS x = f :: ns := by
      cases h : wordsS x with
      | nil => exact absurd h (wordsS_ne x)
      | cons f ns => exact ⟨f, ns, rfl⟩
    unfold fixersOf at kn ks
    rw [hw] at kn ks hwl ⊢
    dsimp only at kn ks
    intro l hl
    have s1 : Same H (upd H l (.lst ((f :: ns).map V.str))) := same_new hl
    refine ⟨l, _, rfl, SqL.of upd_same, by rw [List.length_map, List.length_cons]; omega, fun D hD => ?_⟩
    have e1 : (((f :: ns).map V.str).drop 1).take (((f :: ns).map V.str).length + 1 - 2) = ns.map V.str := by
      rw [List.map_cons, List.drop_one, List.tail_cons]
      exact List.take_of_length_le (by rw [List.length_cons]; omega)
    have e2 : ((f :: ns).map V.str).take 1 ++ [V.ref D] ++ (((f :: ns).map V.str).drop 1).drop (((f :: ns).map V.str).length + 1 - 2) = [.str f, .ref D] := by
      rw [List.map_cons, List.drop_one, List.tail_cons, List.drop_of_length_le (by rw [List.length_cons]; omega)]; rfl
    rw [e1, e2]
    have s2 : Same H (upd (upd H l (.lst ((f :: ns).map V.str))) D (.lst (ns.map V.str))) := s1.trans (same_new hD)
    have hD2 : (upd (upd H l (.lst ((f :: ns).map V.str))) D (.lst (ns.map V.str))) D = some (.lst (ns.map V.str)) := upd_same
    have hDH : H D = none := s1.free hD
    generalize upd (upd H l (.lst ((f :: ns).map V.str))) D (.lst (ns.map V.str)) = H2 at s2 hD2 ⊢
    refine ⟨_, _, rfl, _, _, rfl, rfl, ?_⟩
    refine ⟨_, rfl, rfl, !decide (f = Str.ofString "fixers"), by show V.bl (!decide (V.str f = V.str _)) = _; rw [eqS], ?_⟩
    by_cases hf : f = Str.ofString "fixers"
    case neg => 
      rw [decide_eq_false hf]
      exact iteT (kn (if_neg fun z => hf z.1) _ s2)
    rw [decide_eq_true hf]
    refine iteF ⟨_, rfl, D, _, rfl, .inl (SqL.of hD2), _, _, rfl, rfl, decide (1 ≤ ns.length), by rw [List.length_map]; show V.bl (decide ((1 : Int) ≤ (ns.length : Nat))) = _; congr 1; exact decide_eq_decide.mpr (by omega), ?_⟩
    by_cases h1 : 1 ≤ ns.length
    case neg =>
      rw [decide_eq_false h1]
      exact iteF ⟨false, rfl, iteT (kn (if_neg fun z => h1 z.2.1) _ s2)⟩
    rw [decide_eq_true h1]
    refine iteT ⟨_, _, rfl, rfl, decide (ns.length ≤ 6), by rw [List.length_map]; show V.bl (decide (((ns.length : Nat) : Int) ≤ 6)) = _; congr 1; exact decide_eq_decide.mpr (by omega), ?_⟩
    by_cases h6 : ns.length ≤ 6
    case neg =>
      rw [decide_eq_false h6]
      exact iteT (kn (if_neg fun z => h6 z.2.2.1) _ s2)
    rw [decide_eq_true h6]
    refine iteF ?_
    refine ⟨_, rfl, D, rfl, ⟨_, SqL.of hD2⟩, fun D2 hD2' => lc_names (σ := [some (.str x), some (.str f), some (.ref D), none]) rfl (SqL.of hD2) hD2' (fun y hy => Nat.le_trans (hwl y (List.mem_cons_of_mem _ hy)) (Nat.le_trans hx (by decide))) (by omega) (fun _ => rfl) (fun _ => rfl) fun H3 s3 hD3 => ?_⟩
    refine ⟨D2, _, rfl, SqL.of hD3, (ns.map nameB).all id, rfl, ?_⟩
    rw [List.all_map, show (id ∘ nameB) = nameB from rfl]
    cases hn : ns.all nameB with
    | false => exact iteT (kn (if_neg fun z => by rw [hn] at z; cases z.2.2.2.1) _ (s2.trans s3))
    | true =>
      refine iteF ?_
      have hD4 := s3 _ _ hD2
      have s23 := s2.trans s3
      refine ⟨_, rfl, _, rfl, D, ns, rfl, SqL.of hD4, by omega, fun p hp => ?_⟩
      have s4 := same_new (o := SetXO P w p (allX ns)) hp
      refine ⟨p, allX ns, rfl, upd_same, Nat.lt_of_le_of_lt (allX_len ns) (by omega), fun ys q hperm hsort hq => ?_⟩
      have s5 := s4.trans (same_new (o := .lst (ys.map V.str)) hq)
      have hnok : ∀ y ∈ ns, NameOk y := fun y hy => of_decide_eq_true (List.all_eq_true.mp hn y hy)
      refine ⟨_, _, .lst (SqL.of (s5 _ _ hD4)) dp_strs, .lst (SqL.of upd_same) dp_strs, shaped_lst (fun y hy => (hnok y hy).ok), shaped_lst (fun y hy => (hnok y (allX_mem.mp (hperm.mem_iff.mp hy))).ok), !decide (Srt ns), by rw [eqv_lst, set_sorted hperm hsort], ?_⟩
      by_cases hs : Srt ns
      · rw [decide_eq_true hs]
        exact iteF ⟨_, rfl, ks ns (if_pos ⟨hf, h1, h6, hn, hs⟩) _ D (s23.trans s5) hDH (s5 _ _ hD4)⟩
      · rw [decide_eq_false hs]
        exact iteT (kn (if_neg fun z => hs z.2.2.2.2) _ (s23.trans s5))
/-! ### what a further line tells -/
def wordsR : List Str := ["2", "3", "4", "6"]
def restOf (r : Str) : Int := if r = "2" then 2 else if r = "3" then 3 else if r = "4" then 4 else 6
def factOf (names : List Str) (x : Str) : Option Fc := match wordsS x with
  | [a, b, r] => if a ∈ names ∧ b ∈ names ∧ r ∈ wordsR ∧ ltS a b then some (a, b, restOf r) else none
  | _ => none
def spFactIn (K : PySem.W.Frag) : Sp := fun vs H Q _ => ∃ (x : Str) (t : Addr) (ns : List Str), vs = [.str x, .ref t] ∧ x.length ≤ 100000 ∧ SqT K H t (ns.map V.str) ∧ (factOf ns x = none → ∀ H', Same H H' → Q .non H') ∧ ∀ f, factOf ns x = some f → ∀ H' u, Same H H' → H u = none → H' u = some (.tup [.str f.1, .str f.2.1, .int f.2.2]) → Q (.ref u) H'
theorem ok_fact_in (T : Says w K mg) : Ok P w K mg base 1 ("fact_in", none) ["line", "fixers"] (spFactIn K) := by
  refine FunD.ok (d_fact_in T) sc_fact_in (fun vs H Q E h => ?len) (fun cdv A outer s H vs Q E hr h => ?bod)
  case len =>
    obtain ⟨x, t, ns, rfl, _⟩ := h; rfl
  case bod =>
    obtain ⟨x, t, ns, rfl, hx, ht, kn, ks⟩ := h
    refine ⟨_, PSs.nox (pss_cons (ps_set (i := 2) sc_fact_in.nd rfl (Or.inl rfl) (pe_bm PySem.F.plainAttrs_str PySem.F.slot_str_split PySem.F.type_str_split mt_split (pv 0) (pa_cons pe_str pa_nil)))
      (pss_cons (ps_if (pw_or (pt_cmpR op_ne (pe_callB (k_len (K := K) (by rfl)) (by rfl) (T.free_ 6) (by decide +kernel) (pa_cons (pv 2) pa_nil)) pe_int (nomark _)) (pw_or (pt_cmpR (k_notIn (K := K) (by rfl)) (pe_ix (k_ixL (K := K) (by rfl)) (pv 2) pe_int (fun _ _ => rfl)) (pv 1) (by rfl)) (pw_or (pt_cmpR (k_notIn (K := K) (by rfl)) (pe_ix (k_ixL (K := K) (by rfl)) (pv 2) pe_int (fun _ _ => rfl)) (pv 1) (by rfl)) (pw_or1 (pt_cmpR (k_notInKd (K := K) (w := w) (by rfl) (by rfl) (tb_RESTS_BY_WORDS T)) (pe_ix (k_ixL (K := K) (by rfl)) (pv 2) pe_int (fun _ _ => rfl)) (pe_glob (v := .ref (He.ga K "RESTS_BY_WORDS")) (by rfl) (T.glo_ 60) rfl) (by rfl)))))).pt (pss_one (ps_ret pe_non)) pss_nil)
      (pss_one (ps_ret (pe_ifExp (pt_cmpR op_lt_str (pe_ix (k_ixL (K := K) (by rfl)) (pv 2) pe_int (fun _ _ => rfl)) (pe_ix (k_ixL (K := K) (by rfl)) (pv 2) pe_int (fun _ _ => rfl)) (nomark _)) (pe_tup (pa_cons (pe_ix (k_ixL (K := K) (by rfl)) (pv 2) pe_int (fun _ _ => rfl)) (pa_cons (pe_ix (k_ixL (K := K) (by rfl)) (pv 2) pe_int (fun _ _ => rfl)) (pa_cons (pe_ix (k_ixKd (K := K) (w := w) (by rfl) (by rfl)) (pe_glob (v := .ref (He.ga K "RESTS_BY_WORDS")) (by rfl) (T.glo_ 60) rfl) (pe_ix (k_ixL (K := K) (by rfl)) (pv 2) pe_int (fun _ _ => rfl)) (fun _ _ => rfl)) pa_nil)))) pe_non))))), ?_⟩
    have hx2 : x.length + 2 ≤ sizeLine := Nat.le_trans (Nat.add_le_add_right hx 2) (by decide)
    refine ⟨_, rfl, rfl, x, _, rfl, rfl, rfl, hx2, ?_⟩
    rw [wordsS_eq]
    unfold factOf at kn ks
    generalize wordsS x = ws at kn ks ⊢
    intro l hl
    have s1 : Same H (upd H l (.lst (ws.map V.str))) := same_new hl
    have hl1 : (upd H l (.lst (ws.map V.str))) l = some (.lst (ws.map V.str)) := upd_same
    generalize upd H l (.lst (ws.map V.str)) = H1 at s1 hl1 ⊢
    have ht1 := sqt_mono s1 ht
    refine ⟨_, rfl, l, _, rfl, .inl (SqL.of hl1), rfl, !decide (ws.length = 3), ?_, ?_⟩
    · rw [List.length_map]
      show V.bl (!decide (V.int ((ws.length : Nat) : Int) = V.int 3)) = _
      congr 2
      exact decide_eq_decide.mpr ⟨fun e => by have := V.int.inj e; omega, fun e => by rw [e]; rfl⟩
    match ws, kn, ks, hl1 with
    | [], kn, ks, hl1 => exact iteT (kn rfl _ s1)
    | [_], kn, ks, hl1 => exact iteT (kn rfl _ s1)
    | [_, _], kn, ks, hl1 => exact iteT (kn rfl _ s1)
    | _ :: _ :: _ :: _ :: _, kn, ks, hl1 =>
      refine iteT' ?_ (kn rfl _ s1)
      simp
    | [a, b, r], kn, ks, hl1 =>
      have i0 : atI ([a, b, r].map V.str) 0 = some (.str a) := atI_of (j := 0) rfl rfl
      have i1 : atI ([a, b, r].map V.str) 1 = some (.str b) := atI_of (j := 1) rfl rfl
      have i2 : atI ([a, b, r].map V.str) 2 = some (.str r) := atI_of (j := 2) rfl rfl
      have hq := SqL.of (K := K) hl1
      refine iteF ⟨_, rfl, l, _, _, .str a, rfl, rfl, hq, i0, _, rfl, t, _, rfl, .inr ht1, rfl, flat_strs _, !decide (a ∈ ns), by show V.bl (!inV (.str a) (ns.map V.str)) = _; rw [inV_str], ?_⟩
      by_cases ha : a ∈ ns
      case neg =>
        rw [decide_eq_false ha]
        exact iteT (kn (if_neg fun z => ha z.1) _ s1)
      rw [decide_eq_true ha]
      refine iteF ⟨_, rfl, l, _, _, .str b, rfl, rfl, hq, i1, _, rfl, t, _, rfl, .inr ht1, rfl, flat_strs _, !decide (b ∈ ns), by show V.bl (!inV (.str b) (ns.map V.str)) = _; rw [inV_str], ?_⟩
      by_cases hb : b ∈ ns
      case neg =>
        rw [decide_eq_false hb]
        exact iteT (kn (if_neg fun z => hb z.2.1) _ s1)
      rw [decide_eq_true hb]
      obtain ⟨rr, hr1, hr2⟩ := tb_has T r
      refine iteF ⟨_, rfl, l, _, _, .str r, rfl, rfl, hq, i2, r, rr, rfl, rfl, hr1, !decide (r ∈ wordsR), by rw [hr2]; rfl, ?_⟩
      by_cases hrw : r ∈ wordsR
      case neg =>
        rw [decide_eq_false hrw]
        exact iteT (kn (if_neg fun z => hrw z.2.2.1) _ s1)
      rw [decide_eq_true hrw]
      refine iteF ⟨_, rfl, l, _, _, .str a, rfl, rfl, hq, i0, _, rfl, l, _, _, .str b, rfl, rfl, hq, i1, a, b, rfl, rfl, _, rfl, ?_⟩
      by_cases hlt : a.cps.toList < b.cps.toList
      case neg =>
        rw [decide_eq_false hlt]
        exact iteF (kn (if_neg fun z => hlt z.2.2.2) _ s1)
      rw [decide_eq_true hlt]
      refine iteT ?_
      have hat : KDct K w (He.ga K "RESTS_BY_WORDS") r (.int (restOf r)) := by
        have hm : r = "2" ∨ r = "3" ∨ r = "4" ∨ r = "6" := by
          unfold wordsR at hrw
          simpa using hrw
        rcases hm with rfl | rfl | rfl | rfl
        · exact tb_at T (q := ("2", .int 2)) (by simp)
        · exact tb_at T (q := ("3", .int 3)) (by simp)
        · exact tb_at T (q := ("4", .int 4)) (by simp)
        · exact tb_at T (q := ("6", .int 6)) (by simp)
      refine ⟨_, rfl, l, _, _, .str a, rfl, rfl, hq, i0, _, rfl, l, _, _, .str b, rfl, rfl, hq, i1, _, rfl, l, _, _, .str r, rfl, rfl, hq, i2, _, r, .int (restOf r), rfl, rfl, hat, by show 3 ≤ sizeLine; decide, fun u hu1 => ?_⟩
      exact ks (a, b, restOf r) (if_pos ⟨ha, hb, hrw, hlt⟩) _ u (s1.trans (same_new hu1)) (s1.free hu1) upd_same
end
end T85
end

section
set_option Elab.async false
set_option linter.all false
set_option maxRecDepth 100000
set_option maxHeartbeats 4000000
namespace T85
open PySem PySem.Spec L2 Fx
/-! ### the lines behind the first one -/
def blocks (last : Option (Str × Str)) (f : Fc) : Bool := match last with
  | none => false
  | some l => lexLeS [f.1, f.2.1] [l.1, l.2]
/-- the facts of lines, or the number of the wrong one -/
def factsFrom (names : List Str) : Option (Str × Str) → Int → List Str → Except Int (List Fc)
  | _, _, [] => .ok []
  | last, n, x :: r => match factOf names x with
    | none => .error n
    | some f => if blocks last f = true then .error n else (factsFrom names (some (f.1, f.2.1)) (n + 1) r).map (f :: ·)
def putAll (R : Rs) (fs : List Fc) : Rs := fs.foldl (fun R f => putR R f.1 f.2.1 (some f.2.2)) R
theorem factOf_ok {names : List Str} {x : Str} {f : Fc} (h : factOf names x = some f) : f.1 ∈ names ∧ f.2.1 ∈ names ∧ ltS f.1 f.2.1 ∧ okRest (some f.2.2) := by
  unfold factOf at h
  split at h
  · rename_i a b r _
    split at h
    · rename_i hc
      cases h
      refine ⟨hc.1, hc.2.1, hc.2.2.2, ?_⟩
      show okRest (some (restOf r))
      unfold restOf
      split
      · exact .inr (.inl rfl)
      split
      · exact .inr (.inr (.inl rfl))
      split
      · exact .inr (.inr (.inr (.inl rfl)))
      · exact .inr (.inr (.inr (.inr rfl)))
    · cases h
  · cases h
section
variable {P : Program} {w : World} {K : PySem.W.Frag} {mg : Str → Option Value} {base : Heap}
theorem sql_x {H H' : Hp} {q a : Addr} {u : HO} {xs : List V} (h : SqL K H a xs) (hq : H q = some u) (h1 : ∀ xs, u ≠ .lst xs) (h2 : ∀ o x, u ≠ .frz o x) (s : SameX [q] H H') : SqL K H' a xs := by
  rcases h with (h | ⟨o, h⟩) | h
  · exact .inl (.inl (s a _ (by simp only [List.mem_singleton]; intro z; rw [z, hq] at h; exact h1 _ (Option.some.inj h)) h))
  · exact .inl (.inr ⟨o, s a _ (by simp only [List.mem_singleton]; intro z; rw [z, hq] at h; exact h2 _ _ (Option.some.inj h)) h⟩)
  · exact .inr h
def LastAt (H : Hp) : Option (Str × Str) → V → Prop
  | none, v => v = .non
  | some l, v => ∃ a : Addr, v = .ref a ∧ H a = some (.tup [.str l.1, .str l.2])
theorem LastAt.mono {H H' : Hp} {l : Option (Str × Str)} {v : V} (h : LastAt H l v) (s : Same H H') : LastAt H' l v := by
  cases l with
  | none => exact h
  | some l => obtain ⟨a, e, h⟩ := h; exact ⟨a, e, s _ _ h⟩
theorem emap {α β γ : Type} (e : Except Int α) (f : α → β) (g : β → γ) : (e.map f).map g = e.map fun x => g (f x) := by cases e <;> rfl
theorem emap_id {α : Type} (e : Except Int (List α)) : e.map (([] : List α) ++ ·) = e := by cases e <;> rfl
def nilR : Rs := fun _ _ => none
def spPutFacts (K : PySem.W.Frag) : Sp := fun vs H Q E => ∃ (p t q l : Addr) (names xs : List Str) (R : Rs), vs = [.ref p, .ref l] ∧ BookAt K H p t q names R ∧ SqL K H l (xs.map V.str) ∧ (∀ x ∈ xs, x.length ≤ 100000) ∧ xs.length ≤ 100001 ∧ Srt names ∧ names.length ≤ 6 ∧
  (∀ n, factsFrom names none 2 xs = .error n → ∀ H', SameX [q] H H' → errT K E H' (.int n)) ∧
  (∀ fs, factsFrom names none 2 xs = .ok fs → ∀ H', SameX [q] H H' → BookAt K H' p t q names (putAll R fs) → Q .non H')
theorem ok_put_facts (T : Says w K mg) : OkX P w K mg base 4 ("put_facts", none) ["book", "lines"] (spPutFacts K) := by
  have G_Book_fixers := FnOk.mono (k := 2) (ok_Book_fixers (P := P) (w := w) (base := base) T) (by decide)
  have G_fact_in := FnOk.mono (k := 3) (ok_fact_in (P := P) (w := w) (base := base) T) (by decide)
  have G_InvalidTextdd_initdd := FnOk.mono (k := 2) (ok_InvalidTextdd_initdd (P := P) (w := w) (base := base) T) (by decide)
  have G_Book_put := FnOk.mono (k := 3) (ok_Book_put (P := P) (w := w) (base := base) T) (by decide)
  refine FunD.ok (d_put_facts T) sc_put_facts (fun vs H Q E h => ?len) (fun cdv A outer s H vs Q E hr h => ?bod)
  case len =>
    obtain ⟨p, t, q, l, names, xs, R, rfl, _⟩ := h; rfl
  case bod =>
    obtain ⟨p, t, q, l, names, xs, R, rfl, hB, hl, hxl, hxs, hS, h6, ke, ko⟩ := h
    have tk : Takes (cxOf (L2.CX P w) P w K mg base N_put_facts "put_facts" (defScope s_put_facts) (He.fAd K ("put_facts", none)) cdv A outer s H E) (fun cls d _ H => E cls d H) := takes_of rfl rfl rfl rfl
    refine ⟨_, (pss_cons (ps_set (i := 2) sc_put_facts.nd rfl (Or.inl rfl) pe_non)
      (pss_one (ps_for (passes_of rfl) rfl (k_pienumS (K := K) (by rfl) (by rfl) (T.free_ 12) (pa_cons (pv 1) pa_nil) pe_int) (k_tup (K := K) (n := 2) (by rfl) rfl (pgs_cons (pg_name (i := 3) sc_put_facts.nd rfl (Or.inl rfl)) (pgs_cons (pg_name (i := 4) sc_put_facts.nd rfl (Or.inl rfl)) pgs_nil)))
      (pss_cons (ps_set (i := 5) sc_put_facts.nd rfl (Or.inl rfl) (pe_call G_fact_in hr (by rfl) (T.glo_ 35) (d_fact_in T).kp (b_fact_in T) .nil pass0 (pa_cons (pv 4) (pa_cons (pe_prop (pv 0) (T.cls_ 24) (pr_Book_fixers T) G_Book_fixers hr (b_Book_fixers T) .nil pass0 rfl) pa_nil))))
      (pss_cons (ps_if (pw_or (pt_cmpR op_isN (pv 5) pe_non (nomark _)) (pw_or1 (pw_and (pt_cmpR op_notN (pv 2) pe_non (nomark _)) (pw_and1 (pt_cmpR (k_leTS (K := K) (by rfl) hr.units0) (pe_slice (k_slT (K := K) (by rfl)) (pv 5) po_none (po_some pe_int)) (pv 2) (nomark _)))).pt)).pt (pss_one (ps_raise rfl tk (pmk_oex (oex_InvalidText T) (ini_InvalidText T) (ity_InvalidText T) G_InvalidTextdd_initdd hr (b_InvalidTextdd_initdd T) .nil pass0 (by rfl) (T.glo_ 30) (pa_cons (pv 3) pa_nil)))) pss_nil)
      (pss_cons (ps_expr (pe_meth (pv 0) (T.cls_ 24) (T.meth_ 27) G_Book_put hr (b_Book_put T) .nil pass0 (pa_cons (pe_ix (k_ixT (K := K) (by rfl)) (pv 5) pe_int (fun _ _ => rfl)) (pa_cons (pe_ix (k_ixT (K := K) (by rfl)) (pv 5) pe_int (fun _ _ => rfl)) (pa_cons (pe_ix (k_ixT (K := K) (by rfl)) (pv 5) pe_int (fun _ _ => rfl)) pa_nil)))))
      (pss_one (ps_set (i := 2) sc_put_facts.nd rfl (Or.inl rfl) (pe_slice (k_slT (K := K) (by rfl)) (pv 5) po_none (po_some pe_int)))))))))), ?_⟩
    have hqd := hB.dic
    have sqx : ∀ {H' : Hp}, SameX [q] H H' → SqL K H' l (xs.map V.str) := fun s => sql_x hl hqd (by intro _ z; cases z) (by intro _ _ z; cases z) s
    refine ⟨_, rfl, l, _, 2, rfl, rfl, by decide, by decide, hl, ?_⟩
    refine for_enumS (xs := xs.map V.str) (fun i σ H2 => ∃ (v3 v4 v5 : Option V) (last : Option (Str × Str)) (vl : V) (fs : List Fc), σ = [some (.ref p), some (.ref l), some vl, v3, v4, v5] ∧ SameX [q] H H2 ∧ BookAt K H2 p t q names (putAll R fs) ∧ LastAt H2 last vl ∧ factsFrom names none 2 xs = (factsFrom names last (2 + i) (xs.drop i)).map (fs ++ ·))
      ⟨none, none, none, none, .non, [], rfl, SameX.refl _ _, hB, rfl, by rw [emap_id]; rfl⟩ (fun i σ H2 _ ⟨_, _, _, _, _, _, _, s, _⟩ => sqx s) ?_ ?_
    · rintro i y σ H2 Tu hy ⟨v3, v4, v5, last, vl, fs, rfl, sx, hB2, hLt, hrun⟩ hTu
      obtain ⟨x, hx, rfl⟩ := getElem?_map_some hy
      rw [drop_of_get hx] at hrun
      have sT : Same H2 (upd H2 Tu (.tup [.int (2 + (i : Nat)), .str x])) := same_new hTu
      have hB3 := hB2.mono sT
      have hL3 := hLt.mono sT
      have sx3 := sx.trans (same_toX sT _)
      generalize upd H2 Tu (.tup [.int (2 + (i : Nat)), .str x]) = H3 at sT hB3 hL3 sx3 ⊢
      obtain ⟨dx, hi⟩ := hB3.ins
      refine ⟨_, _, rfl, _, _, rfl, rfl, ?_⟩
      refine ⟨_, rfl, _, rfl, p, dx, _, rfl, hi, ⟨p, dx, _, .ref t, rfl, hi, rfl, x, t, names, rfl, hxl x (List.mem_of_getElem? hx), hB3.tup, fun hn H4 s4 => ?_, fun f hf H4 u s4 huH hu4 => ?_⟩⟩
      · -- no fact
        have hrun2 : factsFrom names none 2 xs = .error (2 + (i : Nat)) := by rw [hrun, factsFrom, hn]; rfl
        exact ⟨_, rfl, rfl, true, rfl, iteT ⟨_, rfl, errT_mk (ke _ hrun2 _ (sx3.trans (same_toX s4 _))) (Same.refl _)⟩⟩
      · have hL4 := hL3.mono s4
        have hB4 := hB3.mono s4
        have sx4 := sx3.trans (same_toX s4 _)
        have hbl : blocks last f = true → factsFrom names none 2 xs = .error (2 + (i : Nat)) := fun hb => by rw [hrun, factsFrom, hf]; dsimp only; rw [if_pos hb]; rfl
        obtain ⟨f1, f2, f3, f4⟩ := factOf_ok hf
        have hne : f.1 ≠ f.2.1 := ltS_ne f3
        refine ⟨_, rfl, rfl, false, rfl, iteF ?_⟩
        cases last with
        | none =>
          cases hL4
          refine ⟨_, rfl, rfl, false, rfl, iteF (iteF ?_)⟩
          have hb : blocks none f = false := rfl
          have hB5 := hB4
          have hu5 := hu4
          have sx5 := sx4
          have hok : factsFrom names none 2 xs = (factsFrom names (some (f.1, f.2.1)) (2 + ((i + 1 : Nat) : Int)) (xs.drop (i + 1))).map ((fs ++ [f]) ++ ·) := by
            rw [hrun, factsFrom, hf]
            dsimp only
            rw [if_neg (by rw [hb]; exact Bool.false_ne_true), emap, show (2 : Int) + (i : Int) + 1 = 2 + ((i + 1 : Nat) : Int) by omega]
            congr 1
            funext z
            rw [List.append_assoc]; rfl
          obtain ⟨dx5, hi5⟩ := hB5.ins
          have hqd5 := hB5.dic
          have huq : u ≠ q := ne_of hu5 hqd5 (by intro z; cases z)
          refine ⟨_, rfl, p, dx5, _, rfl, hi5, rfl, _, rfl, u, _, 0, .str f.1, rfl, rfl, .inl (.inl hu5), atI_of (j := 0) rfl rfl, _, rfl, u, _, 1, .str f.2.1, rfl, rfl, .inl (.inl hu5), atI_of (j := 1) rfl rfl, _, rfl, u, _, 2, .int f.2.2, rfl, rfl, .inl (.inl hu5), atI_of (j := 2) rfl rfl, p, t, q, names, _, f.1, f.2.1, some f.2.2, rfl, hB5, f1, f2, hne, hS, h6, f4, fun H6 s6 hq6 => ?_⟩
          have eo : ordP f.1 f.2.1 = (f.1, f.2.1) := by unfold ordP; rw [if_pos f3]
          rw [eo] at hq6
          have hB6 := hB5.put' s6 hq6
          have hu6 := s6 u _ (by simp [huq]) hu5
          have sx6 := sx5.trans s6
          refine ⟨_, rfl, _, rfl, u, _, rfl, .inl (.inl hu6), fun h => absurd h.2 (show ¬ HT.sIx 3 3 (some 2) = 3 by decide), fun _ s2 hs2 => ?_⟩
          have st := same_new (o := .tup [.str f.1, .str f.2.1]) hs2
          exact ⟨_, _, _, some (f.1, f.2.1), .ref s2, fs ++ [f], rfl, sx6.trans (same_toX st _), by unfold putAll; rw [List.foldl_append]; exact hB6.mono st, ⟨s2, rfl, upd_same⟩, hok⟩
        | some ls =>
          obtain ⟨la, rfl, hla⟩ := hL4
          refine ⟨_, rfl, rfl, true, rfl, iteT ⟨_, rfl, _, rfl, u, _, rfl, .inl (.inl hu4), fun h => absurd h.2 (show ¬ HT.sIx 3 3 (some 2) = 3 by decide), fun _ sl hsl => ⟨_, rfl, sl, la, [f.1, f.2.1], [ls.1, ls.2], rfl, rfl, .inl (.inl upd_same), .inl (.inl (same_new hsl _ _ hla)), blocks (some ls) f, rfl, ?_⟩⟩⟩
          cases hb : blocks (some ls) f with
          | true => exact iteT ⟨_, rfl, errT_mk (ke _ (hbl hb) _ (sx4.trans (same_toX (same_new hsl) _))) (Same.refl _)⟩
          | false =>
          refine iteF ?_
          have hu5 := same_new (o := .tup [.str f.1, .str f.2.1]) hsl _ _ hu4
          have hB5 := hB4.mono (same_new (o := .tup [.str f.1, .str f.2.1]) hsl)
          have sx5 := sx4.trans (same_toX (same_new (o := .tup [.str f.1, .str f.2.1]) hsl) _)
          have hok : factsFrom names none 2 xs = (factsFrom names (some (f.1, f.2.1)) (2 + ((i + 1 : Nat) : Int)) (xs.drop (i + 1))).map ((fs ++ [f]) ++ ·) := by
            rw [hrun, factsFrom, hf]
            dsimp only
            rw [if_neg (by rw [hb]; exact Bool.false_ne_true), emap, show (2 : Int) + (i : Int) + 1 = 2 + ((i + 1 : Nat) : Int) by omega]
            congr 1
            funext z
            rw [List.append_assoc]; rfl
          obtain ⟨dx5, hi5⟩ := hB5.ins
          have hqd5 := hB5.dic
          have huq : u ≠ q := ne_of hu5 hqd5 (by intro z; cases z)
          refine ⟨_, rfl, p, dx5, _, rfl, hi5, rfl, _, rfl, u, _, 0, .str f.1, rfl, rfl, .inl (.inl hu5), atI_of (j := 0) rfl rfl, _, rfl, u, _, 1, .str f.2.1, rfl, rfl, .inl (.inl hu5), atI_of (j := 1) rfl rfl, _, rfl, u, _, 2, .int f.2.2, rfl, rfl, .inl (.inl hu5), atI_of (j := 2) rfl rfl, p, t, q, names, _, f.1, f.2.1, some f.2.2, rfl, hB5, f1, f2, hne, hS, h6, f4, fun H6 s6 hq6 => ?_⟩
          have eo : ordP f.1 f.2.1 = (f.1, f.2.1) := by unfold ordP; rw [if_pos f3]
          rw [eo] at hq6
          have hB6 := hB5.put' s6 hq6
          have hu6 := s6 u _ (by simp [huq]) hu5
          have sx6 := sx5.trans s6
          refine ⟨_, rfl, _, rfl, u, _, rfl, .inl (.inl hu6), fun h => absurd h.2 (show ¬ HT.sIx 3 3 (some 2) = 3 by decide), fun _ s2 hs2 => ?_⟩
          have st := same_new (o := .tup [.str f.1, .str f.2.1]) hs2
          exact ⟨_, _, _, some (f.1, f.2.1), .ref s2, fs ++ [f], rfl, sx6.trans (same_toX st _), by unfold putAll; rw [List.foldl_append]; exact hB6.mono st, ⟨s2, rfl, upd_same⟩, hok⟩
    · rintro σ H2 ⟨v3, v4, v5, last, vl, fs, rfl, sx, hB2, hLt, hrun⟩
      rw [List.length_map, List.drop_length] at hrun
      exact ko fs (by rw [hrun]; show Except.ok (fs ++ []) = _; rw [List.append_nil]) _ sx hB2
end
end T85
end

section
set_option Elab.async false
set_option linter.all false
set_option maxRecDepth 100000
set_option maxHeartbeats 4000000
namespace T85
open PySem PySem.Spec L2 Fx
/-! ### reading a book -/
/-- the book that the lines whole and the last part rest tell, or the wrong line -/
def readL (whole : List Str) (rest : Str) : Except Int (List Str × List Fc) := match whole with
  | [] => .error 1
  | l0 :: ls => match fixersOf l0 with
    | none => .error 1
    | some ns => match factsFrom ns none 2 ls with
      | .error n => .error n
      | .ok fs => if rest = Str.ofString "" then .ok (ns, fs) else .error (whole.length + 1)
def readOf (x : Str) : Except Int (List Str × List Fc) := readL (partsS x).dropLast ((partsS x).getLast (partsS_ne x))
theorem fixersOf_ok {x : Str} {ns : List Str} (h : fixersOf x = some ns) : 1 ≤ ns.length ∧ ns.length ≤ 6 ∧ (∀ y ∈ ns, NameOk y) ∧ Srt ns := by
  unfold fixersOf at h
  split at h
  · cases h
  · split at h
    · rename_i hc
      cases h
      exact ⟨hc.2.1, hc.2.2.1, fun y hy => of_decide_eq_true (List.all_eq_true.mp hc.2.2.2.1 y hy), hc.2.2.2.2⟩
    · cases h
/-- all signs are signs -/
def OkS (x : Str) : Prop := ∀ c ∈ x.cps.toList, c < 0x110000
theorem OkS.ok {x : Str} (h : OkS x) : PyData.strOk x = true := by
  unfold PyData.strOk
  rw [Array.all_eq_true]
  intro i hi
  exact decide_eq_true (h _ (by simp))
theorem sp1_mem (s : Nat) : ∀ (l acc : List Nat), ∀ p ∈ sp1 s acc l, ∀ c ∈ p, c ∈ acc ∨ c ∈ l
  | [], acc, p, h, c, hc => by
    rw [sp1, List.mem_singleton] at h
    subst h; exact .inl hc
  | d :: r, acc, p, h, c, hc => by
    rw [sp1] at h
    split at h
    · rcases List.mem_cons.mp h with h | h
      · subst h; exact .inl hc
      · exact (sp1_mem s r [] p h c hc).elim (fun z => by cases z) fun z => .inr (List.mem_cons_of_mem _ z)
    · rcases sp1_mem s r _ p h c hc with z | z
      · rcases List.mem_append.mp z with z | z
        · exact .inl z
        · exact .inr (by rw [List.mem_singleton.mp z]; exact List.mem_cons_self ..)
      · exact .inr (List.mem_cons_of_mem _ z)
theorem OkS.parts {x : Str} (h : OkS x) : ∀ p ∈ partsS x, OkS p := fun p hp c hc => by
  obtain ⟨l, hl, rfl⟩ := List.mem_map.mp hp
  exact (sp1_mem 10 _ _ l hl c hc).elim (fun z => by cases z) fun z => h c z
section
variable {P : Program} {w : World} {K : PySem.W.Frag} {mg : Str → Option Value} {base : Heap}
theorem cut_drop {xs : List V} {i : Nat} (h : i ≤ xs.length) : cutV xs (some (i : Int)) none = xs.drop i := by
  unfold cutV
  rw [HT.sIx_none, HT.sIx_nat, Nat.min_eq_left h]
  exact List.take_of_length_le (by simp)
theorem srt_eq {a b : List Str} (h1 : Srt a) (h2 : Srt b) (p : a.Perm b) : a = b :=
  List.Perm.eq_of_pairwise (le := leS) (fun a b _ _ h1 h2 => str_ext (List.le_antisymm h1 h2)) h1.le h2.le p
theorem errT.mono {E : XK} {H H' : Hp} {l : V} (k : errT K E H l) (s : Same H H') : errT K E H' l := fun H2 d s2 hd h => k H2 d (s.trans s2) (s.free hd) h
def spReadBook (K : PySem.W.Frag) : Sp := fun vs H Q E => (∃ (x : Str), vs = [.str x] ∧ x.length ≤ 100000 ∧ OkS x ∧ (∀ n, readOf x = .error n → errT K E H (.int n)) ∧
    ∀ ns fs, readOf x = .ok (ns, fs) → ∀ H' p t q, Same H H' → H p = none → BookAt K H' p t q ns (putAll nilR fs) → Q (.ref p) H') ∨
  ∃ (v : V) (t : Value), vs = [v] ∧ TyX K H v t ∧ PySem.W.kitOne K t (.type "str") = some false ∧ errT K E H .non
theorem ok_read_book (T : Says w K mg) : OkX P w K mg base 5 ("read_book", none) ["text"] (spReadBook K) := by
  have G_InvalidTextdd_initdd := FnOk.mono (k := 3) (ok_InvalidTextdd_initdd (P := P) (w := w) (base := base) T) (by decide)
  have G_fixers_in := FnOk.mono (k := 4) (ok_fixers_in (P := P) (w := w) (base := base) T) (by decide)
  have G_Bookdd_initdd := FnOk.mono (k := 3) (ok_Bookdd_initdd (P := P) (w := w) (base := base) T) (by decide)
  have G_put_facts := FnOk.mono (k := 4) (ok_put_facts (P := P) (w := w) (base := base) T) (by decide)
  refine FunD.ok (d_read_book T) sc_read_book (fun vs H Q E h => ?len) (fun cdv A outer s H vs Q E hr h => ?bod)
  case len =>
    rcases h with ⟨x, rfl, _⟩ | ⟨x, t, rfl, _⟩ <;> rfl
  case bod =>
    have tk : Takes (cxOf (L2.CX P w) P w K mg base N_read_book "read_book" (defScope s_read_book) (He.fAd K ("read_book", none)) cdv A outer s H E) (fun cls d _ H => E cls d H) := takes_of rfl rfl rfl rfl
    refine ⟨_, (pss_cons (ps_if (pt_not (pt_val (pe_callB (k_isi (K := K) (by rfl)) (by rfl) (T.free_ 0) (by decide +kernel) (pa_cons (pv 0) (pa_cons (pe_bltn (v := .ty "str") (u := .type "str") (by rfl) (T.free_ 5) (by decide +kernel) rfl) pa_nil))))) (pss_one (ps_raise rfl tk (pmk_oex (oex_InvalidText T) (ini_InvalidText T) (ity_InvalidText T) G_InvalidTextdd_initdd hr (b_InvalidTextdd_initdd T) .nil pass0 (by rfl) (T.glo_ 30) (pa_cons pe_non pa_nil)))) pss_nil)
      (pss_cons (ps_asg (pe_bm PySem.F.plainAttrs_str PySem.F.slot_str_split PySem.F.type_str_split mt_split (pv 0) (pa_cons pe_str pa_nil)) (pg_star (K := K) (n := 2) (i := 0) (by rfl) rfl (pgs_star (pg_name (i := 1) sc_read_book.nd rfl (Or.inl rfl)) (pgs_cons (pg_name (i := 2) sc_read_book.nd rfl (Or.inl rfl)) pgs_nil)) (by decide)))
      (pss_cons (ps_set (i := 3) sc_read_book.nd rfl (Or.inl rfl) (pe_ifExp (pt_cmpR (k_neD (K := K) (by rfl) hr.units) (pv 1) (pe_lst pa_nil) (nomark _)) (pe_call G_fixers_in hr (by rfl) (T.glo_ 36) (d_fixers_in T).kp (b_fixers_in T) .nil pass0 (pa_cons (pe_ix (k_ixL (K := K) (by rfl)) (pv 1) pe_int (fun _ _ => rfl)) pa_nil)) pe_non))
      (pss_cons (ps_if (pt_cmpR op_isN (pv 3) pe_non (nomark _)) (pss_one (ps_raise rfl tk (pmk_oex (oex_InvalidText T) (ini_InvalidText T) (ity_InvalidText T) G_InvalidTextdd_initdd hr (b_InvalidTextdd_initdd T) .nil pass0 (by rfl) (T.glo_ 30) (pa_cons pe_int pa_nil)))) pss_nil)
      (pss_cons (ps_set (i := 4) sc_read_book.nd rfl (Or.inl rfl) (pe_make (T.mkr_ 37) G_Bookdd_initdd hr (by rfl) (T.glo_ 38) (b_Bookdd_initdd1 T) (dv_Bookdd_initdd1 T) pass0 (pa_cons (pv 3) pa_nil)))
      (pss_cons (ps_expr (pe_call (E := E) G_put_facts hr (by rfl) (T.glo_ 39) (d_put_facts T).kp (b_put_facts T) .nil (passes_call tk fun _ _ _ _ h => h) (pa_cons (pv 4) (pa_cons (pe_slice (k_slL (K := K) (by rfl)) (pv 1) (po_some pe_int) po_none) pa_nil))))
      (pss_cons (ps_if (pt_cmpR op_ne (pv 2) pe_str (nomark _)) (pss_one (ps_raise rfl tk (pmk_oex (oex_InvalidText T) (ini_InvalidText T) (ity_InvalidText T) G_InvalidTextdd_initdd hr (b_InvalidTextdd_initdd T) .nil pass0 (by rfl) (T.glo_ 30) (pa_cons (pe_op op_add (pe_callB (k_len (K := K) (by rfl)) (by rfl) (T.free_ 6) (by decide +kernel) (pa_cons (pv 1) pa_nil)) pe_int) pa_nil)))) pss_nil)
      (pss_one (ps_ret (pv 4)))))))))), ?_⟩
    rcases h with ⟨x, rfl, hx, hok, ke, ko⟩ | ⟨v, t, rfl, ht, hk, ke⟩
    · refine ⟨_, rfl, _, _, _, _, true, rfl, .ty "str", .base (.str x), kit_ty (by decide +kernel), true, rfl, iteF ?_⟩
      have hx2 : x.length + 2 ≤ sizeLine := Nat.le_trans (Nat.add_le_add_right hx 2) (by decide)
      refine ⟨_, rfl, rfl, x, _, rfl, rfl, rfl, hx2, ?_⟩
      rw [partsS_eq]
      obtain ⟨W, rs, hp⟩ : ∃ W rs, partsS x = W ++ [rs] := ⟨_, _, (List.dropLast_concat_getLast (partsS_ne x)).symm⟩
      have hro : readOf x = readL W rs := by
        unfold readOf
        congr 1
        · rw [hp, List.dropLast_concat]
        · simp [hp]
      have hpl : ∀ y ∈ W, y.length ≤ 100000 := fun y hy => Nat.le_trans (partsS_len (x := x) (by rw [hp]; exact List.mem_append_left _ hy)) hx
      have hpm : W.length ≤ 100001 := by
        have := partsS_many x
        rw [hp, List.length_append, List.length_singleton] at this
        omega
      have hpo : ∀ y ∈ W, PyData.strOk y = true := fun y hy => (hok.parts y (by rw [hp]; exact List.mem_append_left _ hy)).ok
      rw [hro] at ke ko
      rw [hp]
      intro l hl
      have s1 : Same H (upd H l (.lst ((W ++ [rs]).map V.str))) := same_new hl
      refine ⟨l, _, rfl, SqL.of upd_same, by rw [List.length_map, List.length_append, List.length_singleton]; omega, fun D hD => ?_⟩
      have e1 : (((W ++ [rs]).map V.str).drop 0).take (((W ++ [rs]).map V.str).length + 1 - 2) = W.map V.str := by
        rw [List.drop_zero, List.map_append, List.take_append_of_le_length (by rw [List.length_append, List.length_map, List.length_map, List.length_singleton]; omega), List.take_of_length_le (by rw [List.length_append, List.length_map, List.length_map, List.length_singleton]; omega)]
      have e2 : ((W ++ [rs]).map V.str).take 0 ++ [V.ref D] ++ (((W ++ [rs]).map V.str).drop 0).drop (((W ++ [rs]).map V.str).length + 1 - 2) = [.ref D, .str rs] := by
        rw [List.drop_zero, List.map_append, List.length_append, List.length_map, List.length_map, List.length_singleton, show W.length + 1 + 1 - 2 = (W.map V.str).length by rw [List.length_map]; omega, List.drop_left]; rfl
      rw [e1, e2]
      have s2 : Same H (upd (upd H l (.lst ((W ++ [rs]).map V.str))) D (.lst (W.map V.str))) := s1.trans (same_new hD)
      have hD2 : (upd (upd H l (.lst ((W ++ [rs]).map V.str))) D (.lst (W.map V.str))) D = some (.lst (W.map V.str)) := upd_same
      generalize upd (upd H l (.lst ((W ++ [rs]).map V.str))) D (.lst (W.map V.str)) = H2 at s2 hD2 ⊢
      refine ⟨_, _, rfl, _, _, rfl, rfl, ?_⟩
      refine ⟨_, rfl, by show 0 ≤ sizeLine; decide, fun z hz => ⟨_, _, .lst (SqL.of (same_new hz _ _ hD2)) dp_strs, .lst (SqL.of upd_same) (dp_strs (l := [])), shaped_lst hpo, shaped_lst (by simp), !decide (W = []), by rw [eqv_lst], ?_⟩⟩
      have s3 := s2.trans (same_new (o := .lst []) hz)
      have hD3 := same_new (o := .lst []) hz _ _ hD2
      generalize upd H2 z (.lst []) = H3 at s3 hD3 ⊢
      cases W with
      | nil =>
        refine iteF ⟨_, rfl, rfl, true, rfl, iteT (errT_mk (ke 1 rfl) s3)⟩
      | cons l0 ls =>
        rw [show decide (l0 :: ls = []) = false from rfl]
        have h0m := hpl l0 (List.mem_cons_self ..)
        refine iteT ⟨_, rfl, D, _, _, .str l0, rfl, rfl, SqL.of hD3, atI_of (j := 0) rfl rfl, l0, rfl, h0m, fun hn H4 s4 => ?_, fun ns hns H4 lf s4 hlf hlf4 => ?_⟩
        · exact ⟨_, rfl, rfl, true, rfl, iteT (errT_mk (ke 1 (by rw [readL, hn])) (s3.trans s4))⟩
        · obtain ⟨g1, g6, gok, gS⟩ := fixersOf_ok hns
          have hD4 := s4 _ _ hD3
          refine ⟨_, rfl, rfl, false, rfl, iteF ⟨_, rfl, fun bk dx hbk hdx hne => ?_⟩⟩
          have s5 : Same H4 (upd (upd H4 dx (.own bk)) bk (.ins (He.ga K "Book") dx [])) := same_upd (same_new hdx) hbk
          refine ⟨bk, dx, lf, ns, rfl, upd_same, SqL.of (s5 _ _ hlf4), g1, g6, gok, gS.nodup, fun H6 t q ys sx6 hq hperm hS hB => ⟨rfl, ?_⟩⟩
          obtain rfl : ys = ns := srt_eq hS gS hperm
          have s46 := same_x1 s5 sx6 hbk
          have s06 := (s3.trans s4).trans s46
          have hqH : H q = none := (s3.trans s4).free (s5.free hq)
          have hqD : D ≠ q := fun e => by have := s5.free hq; rw [← e, hD4] at this; cases this
          have hbkH : H bk = none := (s3.trans s4).free hbk
          have hD6 := s46 _ _ hD4
          refine ⟨_, rfl, _, rfl, _, rfl, D, _, rfl, SqL.of hD6, fun c hc => ?_⟩
          rw [show (some (1 : Int)) = some ((1 : Nat) : Int) from rfl, cut_drop (by rw [List.length_map, List.length_cons]; omega), ← List.map_drop, List.drop_one, List.tail_cons]
          have sc := same_new (o := .lst (ls.map V.str)) hc
          have hrl : ∀ r, factsFrom ys none 2 ls = r → readL (l0 :: ls) rs = (match r with | .error n => .error n | .ok fs => if rs = Str.ofString "" then .ok (ys, fs) else .error ((l0 :: ls).length + 1)) := fun r hr0 => by rw [← hr0, readL, hns]
          refine ⟨bk, t, q, c, ys, ls, nilR, rfl, hB.mono sc, SqL.of upd_same, fun y hy => hpl y (List.mem_cons_of_mem _ hy), by rw [List.length_cons] at hpm; omega, hS, g6, fun n hn H7 sx7 => (ke n (by rw [hrl _ hn])).mono (same_x1 (s06.trans sc) sx7 hqH), fun fs hfs H7 sx7 hB7 => ?_⟩
          have s07 := same_x1 (s06.trans sc) sx7 hqH
          have hD7 := sx7 D _ (by simp [hqD]) (sc _ _ hD6)
          refine ⟨_, rfl, rfl, !decide (rs = Str.ofString ""), by show V.bl (!decide (V.str rs = V.str _)) = _; rw [eqS], ?_⟩
          by_cases hrs : rs = Str.ofString ""
          · rw [decide_eq_true hrs]
            exact iteF ⟨_, rfl, ko ys fs (by rw [hrl _ hfs]; exact if_pos hrs) _ bk t q s07 hbkH hB7⟩
          · rw [decide_eq_false hrs]
            refine iteT ⟨_, rfl, D, _, rfl, .inl (SqL.of hD7), _, _, rfl, rfl, ?_⟩
            rw [List.length_map]
            exact errT_mk (ke _ (by rw [hrl _ hfs]; exact if_neg hrs)) s07
    · exact ⟨_, rfl, _, _, _, _, false, rfl, .ty "str", ht, hk, false, rfl, iteT (errT_mk ke (Same.refl _))⟩
end
end T85
end

section
set_option Elab.async false
set_option linter.all false
set_option maxRecDepth 100000
set_option maxHeartbeats 4000000
namespace T85
open PySem PySem.Spec L2 Fx
/-! ### the text of a book -/
def restS (r : Int) : Str := Str.ofString (toString r)
def lineS (f : Fc) : Str := Str.empty ++ f.1 ++ Str.ofString " " ++ f.2.1 ++ Str.ofString " " ++ restS f.2.2
def headS (names : List Str) : Str := Txt.join (Str.ofString " ") (Str.ofString "fixers" :: names)
def textOf (names : List Str) (fs : List Fc) : Str := Txt.join (Str.ofString "") ((headS names :: fs.map lineS).map (· ++ Str.ofString "\n"))
theorem restS_len {r : Int} (h : okRest (some r)) : (restS r).length = 1 := by
  rcases h with h | h | h | h | h
  · cases h
  all_goals (cases h; rfl)
def FcOk (f : Fc) : Prop := f.1.length ≤ 8 ∧ f.2.1.length ≤ 8 ∧ okRest (some f.2.2)
theorem lineS_len {f : Fc} (h : FcOk f) : (lineS f).length ≤ 19 := by
  unfold lineS
  rw [Str.length_append, Str.length_append, Str.length_append, Str.length_append, Str.length_append, restS_len h.2.2]
  have e1 : (Str.ofString " ").length = 1 := rfl
  have e0 : Str.empty.length = 0 := rfl
  have := h.1; have := h.2.1
  omega
theorem facts_ok {names : List Str} {R : Rs} (hn : ∀ x ∈ names, NameOk x) (hR : okR R) : ∀ f ∈ factsL R (pairsL names), FcOk f := by
  intro f hf
  obtain ⟨p, hp, h⟩ := List.mem_filterMap.mp hf
  cases e : R p.1 p.2 with
  | none => rw [e] at h; cases h
  | some r =>
    rw [e] at h
    cases h
    have hm := pairsL_mem hp
    exact ⟨(hn _ hm.1).2.1, (hn _ hm.2).2.1, e ▸ hR p.1 p.2⟩
theorem sum_le {l : List Str} {n : Nat} (h : ∀ x ∈ l, x.length ≤ n) : (l.map (·.length)).sum ≤ n * l.length := by
  induction l with
  | nil => simp
  | cons x r ih =>
    have h1 := h x (List.mem_cons_self ..)
    have h2 := ih fun y hy => h y (List.mem_cons_of_mem _ hy)
    rw [List.map_cons, List.sum_cons, List.length_cons, Nat.mul_add]
    omega
section
variable {P : Program} {w : World} {K : PySem.W.Frag} {mg : Str → Option Value} {base : Heap}
def spBookText (K : PySem.W.Frag) : Sp := fun vs H Q _ => ∃ (p t q : Addr) (names : List Str) (R : Rs), vs = [.ref p] ∧ BookAt K H p t q names R ∧ names.length ≤ 6 ∧ (∀ x ∈ names, NameOk x) ∧ okR R ∧
  ∀ H', Same H H' → Q (.str (textOf names (factsL R (pairsL names)))) H'
theorem ok_book_text (T : Says w K mg) : Ok P w K mg base 3 ("book_text", none) ["book"] (spBookText K) := by
  have G_Book_fixers := FnOk.mono (k := 1) (ok_Book_fixers (P := P) (w := w) (base := base) T) (by decide)
  have G_Book_pairs := FnOk.mono (k := 2) (ok_Book_pairs (P := P) (w := w) (base := base) T) (by decide)
  refine FunD.ok (d_book_text T) sc_book_text (fun vs H Q E h => ?len) (fun cdv A outer s H vs Q E hr h => ?bod)
  case len =>
    obtain ⟨p, t, q, names, R, rfl, _⟩ := h; rfl
  case bod =>
    obtain ⟨p, t, q, names, R, rfl, hB, h6, hn, hR, k⟩ := h
    obtain ⟨dx, hi⟩ := hB.ins
    have hfo := facts_ok hn hR
    have hfl : (factsL R (pairsL names)).length ≤ 36 := by
      have := factsL_len R (pairsL names)
      have := pairsL_len h6
      omega
    refine ⟨_, PSs.nox (pss_cons (ps_set (i := 1) sc_book_text.nd rfl (Or.inl rfl) (pe_lst (pa_cons (pe_bm PySem.F.plainAttrs_str PySem.F.slot_str_join PySem.F.type_str_join (k_join (K := K) (by rfl)) pe_str (pa_cons (pe_op op_cat (pe_lst (pa_cons (pe_globS (by rfl) (T.str_ 32)) pa_nil)) (pe_callTy (k_listOf (K := K) (by rfl)) (by rfl) (T.free_ 3) (by decide +kernel) (pa_cons (pe_prop (pv 0) (T.cls_ 24) (pr_Book_fixers T) G_Book_fixers hr (b_Book_fixers T) .nil pass0 rfl) pa_nil))) pa_nil)) pa_nil)))
      (pss_cons (ps_expr (pe_bm PySem.F.plainAttrs_list PySem.F.slot_list_extend PySem.F.type_list_extend mt_extend (pv 1) (pa_cons (pe_lc (own := [("a", 2), ("b", 3), ("rest", 4)]) rfl sc_book_text.nd (k_pil (K := K) (by rfl) (pe_meth0 (pv 0) (T.cls_ 24) (T.meth_ 33) G_Book_pairs hr (b_Book_pairs T) .nil pass0)) (blkOk_by (N := N_book_text) (sc := defScope s_book_text) (by decide +kernel)) (fun _ _ _ _ _ => (k_tup (K := K) (n := 3) (by rfl) rfl (pgs_cons (pg_name (i := 2) sc_book_text.nd rfl (Or.inl rfl)) (pgs_cons (pg_name (i := 3) sc_book_text.nd rfl (Or.inl rfl)) (pgs_cons (pg_name (i := 4) sc_book_text.nd rfl (Or.inl rfl)) pgs_nil))))) (fun _ _ _ _ _ => pts_nil) (fun _ _ _ _ _ => (pe_joined (.cons (pe_fmt (pv 2)) (.cons pe_str (.cons (pe_fmt (pv 3)) (.cons pe_str (.cons (pe_fmt (pv 4)) .nil)))))))) pa_nil)))
      (pss_one (ps_ret (pe_bm PySem.F.plainAttrs_str PySem.F.slot_str_join PySem.F.type_str_join (k_join (K := K) (by rfl)) pe_str (pa_cons (pe_lc (own := [("line", 5)]) rfl sc_book_text.nd (k_pil (K := K) (by rfl) (pv 1)) (blkOk_by (N := N_book_text) (sc := defScope s_book_text) (by decide +kernel)) (fun _ _ _ _ _ => (pg_name (i := 5) sc_book_text.nd rfl (Or.inl rfl))) (fun _ _ _ _ _ => pts_nil) (fun _ _ _ _ _ => (pe_op op_add_str (pv 5) pe_str))) pa_nil)))))), ?_⟩
    refine ⟨rfl, by show 1 ≤ sizeLine; decide, fun l1 hl1 => ⟨_, rfl, p, dx, _, rfl, same_new hl1 _ _ hi, ⟨p, dx, _, .ref t, rfl, same_new hl1 _ _ hi, rfl, t, _, rfl, .inr (hB.mono (same_new hl1)).tup, fun l2 hl2 => ?_⟩⟩⟩
    have s1 := same_new (o := .lst [.str (Str.ofString "fixers")]) hl1
    have s2 := same_new (o := .lst (names.map V.str)) hl2
    refine ⟨l1, l2, _, _, rfl, rfl, s2 _ _ upd_same, upd_same, by rw [List.length_map]; exact Nat.le_of_lt (small1000 (by simp; omega)), fun l3 hl3 => ⟨_, l3, Str.ofString "fixers" :: names, rfl, rfl, .inl (SqL.of upd_same), ?_, by show 1 ≤ sizeLine; decide, fun l4 hl4 => ?_⟩⟩
    · have h1 := sum_le (l := names) (n := 8) (fun x hx => (hn x hx).2.1)
      rw [List.map_cons, List.sum_cons, List.length_cons]
      have e1 : (Str.ofString " ").length = 1 := rfl
      have e2 : (Str.ofString "fixers").length = 6 := rfl
      rw [e1, e2]; omega
    rw [show Txt.join (Str.ofString " ") (Str.ofString "fixers" :: names) = headS names from rfl]
    have s4 : Same H (upd (upd (upd (upd H l1 (.lst [.str (Str.ofString "fixers")])) l2 (.lst (names.map V.str))) l3 (.lst ([V.str (Str.ofString "fixers")] ++ names.map V.str))) l4 (.lst [.str (headS names)])) := ((s1.trans s2).trans (same_new hl3)).trans (same_new hl4)
    have hl44 : (upd (upd (upd (upd H l1 (.lst [.str (Str.ofString "fixers")])) l2 (.lst (names.map V.str))) l3 (.lst ([V.str (Str.ofString "fixers")] ++ names.map V.str))) l4 (.lst [.str (headS names)])) l4 = some (.lst [.str (headS names)]) := upd_same
    have hl4H := ((s1.trans s2).trans (same_new hl3)).free hl4
    have hjl : (headS names).length ≤ 1000 := by
      have h1 := sum_le (l := names) (n := 8) (fun x hx => (hn x hx).2.1)
      have h2 := StrLaws.join_length_le (Str.ofString " ") (Str.ofString "fixers" :: names)
      rw [List.map_cons, List.sum_cons, List.length_cons] at h2
      have e1 : (Str.ofString " ").length = 1 := rfl
      have e2 : (Str.ofString "fixers").length = 6 := rfl
      rw [e1, e2] at h2
      unfold headS
      rw [TL.join_eq]; omega
    clear hl2 hl1 hl3 s1 s2
    generalize upd (upd (upd (upd H l1 (.lst [.str (Str.ofString "fixers")])) l2 (.lst (names.map V.str))) l3 (.lst ([V.str (Str.ofString "fixers")] ++ names.map V.str))) l4 (.lst [.str (headS names)]) = H4 at s4 hl44 ⊢
    refine ⟨_, rfl, .inl ⟨rfl, _, SqL.of hl44⟩, _, rfl, p, dx, _, rfl, s4 _ _ hi, rfl, p, t, q, names, R, rfl, hB.mono s4, h6, fun H5 l5 rs s5 hl5 hL5 hF5 => ?_⟩
    have hl45 := s5 _ _ hl44
    have s05 := s4.trans s5
    generalize factsL R (pairsL names) = fs at hfo hfl hF5 k ⊢
    refine ⟨l5, rfl, ⟨_, SqL.of hL5⟩, fun D hD => lcw (walk_list (xs := rs.map V.ref)) (fun j H6 => Same H5 H6 ∧ H6 D = some (.lst (((fs.take j).map lineS).map V.str)))
      ⟨same_new hD, upd_same⟩ (fun i H6 _ h => SqL.of (h.1 _ _ hL5)) ?_ ?_⟩
    · rintro j v H6 H7 hj ⟨s6, hD6⟩ ⟨rfl, hv⟩
      obtain ⟨r, hr1, rfl⟩ := getElem?_map_some hv
      obtain ⟨f, hf, hrf⟩ := hF5.get hr1
      obtain ⟨g1, g2, g3⟩ := hfo f (List.mem_of_getElem? hf)
      have hj36 := lt_of_get hf
      have hll := lineS_len (hfo f (List.mem_of_getElem? hf))
      unfold lineS at hll
      simp only [Str.length_append] at hll
      refine ⟨r, _, rfl, .inl (.inl (s6 _ _ hrf)), rfl, _, _, rfl, _, _, rfl, _, _, rfl, rfl, rfl, yesI ?_⟩
      refine ⟨_, rfl, .inl ⟨f.1, rfl, Nat.le_trans g1 (by decide), f.1, rfl, ?_, _, rfl, ?_, _, rfl, .inl ⟨f.2.1, rfl, Nat.le_trans g2 (by decide), f.2.1, rfl, ?_, _, rfl, ?_, _, rfl, .inr ⟨f.2.2, rfl, ?_, _, rfl, ?_, _, hD6, ?_, same_upd s6 hD, ?_⟩⟩⟩⟩
      · simp only [Str.length_append]; exact Nat.le_trans (show _ ≤ 19 by omega) (by decide)
      · simp only [Str.length_append]; exact Nat.le_trans (show _ ≤ 19 by omega) (by decide)
      · simp only [Str.length_append]; exact Nat.le_trans (show _ ≤ 19 by omega) (by decide)
      · simp only [Str.length_append]; exact Nat.le_trans (show _ ≤ 19 by omega) (by decide)
      · rcases g3 with h | h | h | h | h
        · cases h
        all_goals (rw [Option.some.inj h]; decide)
      · simp only [Str.length_append]; exact Nat.le_trans (show _ ≤ 19 by unfold restS at hll; omega) (by decide)
      · rw [List.length_map, List.length_map, List.length_take]; exact small1000 (by omega)
      · rw [upd_same, take_of_get hf, List.map_append, List.map_append]; rfl
    · rintro H6 ⟨s6, hD6⟩
      rw [List.length_map, hF5.1, List.take_length] at hD6
      have hl46 := s6 _ _ hl45
      have s06 := s05.trans s6
      refine ⟨l4, D, _, _, rfl, rfl, hl46, hD6, by rw [List.length_map, List.length_map]; exact Nat.le_of_lt (small1000 (by simp; omega)), ?_⟩
      have s07 : Same H (upd H6 l4 (.lst ([V.str (headS names)] ++ (fs.map lineS).map V.str))) := same_upd s06 hl4H
      have hl47 : (upd H6 l4 (.lst ([V.str (headS names)] ++ (fs.map lineS).map V.str))) l4 = some (.lst ((headS names :: fs.map lineS).map V.str)) := upd_same
      generalize upd H6 l4 (.lst ([V.str (headS names)] ++ (fs.map lineS).map V.str)) = H7 at s07 hl47 ⊢
      have hal : ∀ y ∈ headS names :: fs.map lineS, y.length ≤ 1000 := by
        intro y hy
        rcases List.mem_cons.mp hy with rfl | hy
        · exact hjl
        · obtain ⟨f, hf, rfl⟩ := List.mem_map.mp hy
          exact Nat.le_trans (lineS_len (hfo f hf)) (by decide)
      have hcl : (headS names :: fs.map lineS).length ≤ 37 := by rw [List.length_cons, List.length_map]; omega
      unfold textOf at k
      generalize headS names :: fs.map lineS = ls at k hl47 hal hcl ⊢
      refine ⟨rfl, _, rfl, l4, rfl, ⟨_, SqL.of hl47⟩, fun D2 hD2 => lcm_list (xs := ls.map V.str) (fun j acc H8 => Same H7 H8 ∧ H8 D2 = some (.lst acc) ∧ acc = ((ls.take j).map (· ++ Str.ofString "\n")).map V.str)
        ⟨same_new hD2, upd_same, rfl⟩ (fun j acc H8 h => SqL.of (h.1 _ _ hl47)) ?_ ?_⟩
      · rintro j y acc H8 hy ⟨s8, hD8, rfl⟩
        obtain ⟨x, hx, rfl⟩ := getElem?_map_some hy
        have hj := lt_of_get hx
        refine ⟨_, rfl, x, _, rfl, rfl, Nat.le_trans (Nat.add_le_add_right (hal x (List.mem_of_getElem? hx)) 1) (by decide), _, hD8, by rw [List.length_map, List.length_map, List.length_take]; exact small1000 (by omega), _, same_upd s8 hD2, upd_same, ?_⟩
        rw [take_of_get hx, List.map_append, List.map_append]; rfl
      · rintro acc H8 ⟨s8, hD8, rfl⟩
        rw [List.length_map, List.take_length] at hD8
        refine ⟨_, D2, _, rfl, rfl, .inl (SqL.of hD8), ?_, k _ (s07.trans s8)⟩
        have h1 := sum_le (l := ls.map (· ++ Str.ofString "\n")) (n := 1001) (by
          intro x hx
          obtain ⟨y, hy, rfl⟩ := List.mem_map.mp hx
          rw [Str.length_append]
          exact Nat.add_le_add_right (hal y hy) 1)
        rw [List.length_map] at h1 ⊢
        have e0 : (Str.ofString "").length = 0 := rfl
        rw [e0]
        omega
end
end T85
end

section
set_option Elab.async false
set_option linter.all false
set_option maxRecDepth 100000
set_option maxHeartbeats 4000000
/-! the law's lines and the parts of a text -/
namespace T85
open PySem PySem.Spec L2 Fx
/-- the lines of a text, each with its line feed -/
def lawL : List Nat → List Nat → List (List Nat)
  | acc, [] => if acc = [] then [] else [acc]
  | acc, c :: r => if c = 10 then (acc ++ [10]) :: lawL [] r else lawL (acc ++ [c]) r
def linesS (x : Str) : List Str := (lawL [] x.cps.toList).map mk
theorem lawL_sp1 : ∀ (l acc : List Nat), ∃ ps z, sp1 10 acc l = ps ++ [z] ∧ lawL acc l = ps.map (· ++ [10]) ++ (if z = [] then [] else [z])
  | [], acc => ⟨[], acc, rfl, rfl⟩
  | c :: r, acc => by
    rw [sp1, lawL]
    by_cases e : c = 10
    · rw [if_pos e, if_pos e]
      obtain ⟨ps, z, h1, h2⟩ := lawL_sp1 r []
      exact ⟨acc :: ps, z, by rw [h1]; rfl, by rw [h2]; rfl⟩
    · rw [if_neg e, if_neg e]
      exact lawL_sp1 r _
theorem lawL_many : ∀ (l acc : List Nat), (lawL acc l).length ≤ l.length + 1
  | [], acc => by rw [lawL]; split <;> simp
  | c :: r, acc => by
    rw [lawL]
    split
    · have := lawL_many r []
      simp only [List.length_cons]; omega
    · have := lawL_many r (acc ++ [c])
      simp only [List.length_cons]; omega
theorem lawL_len : ∀ (l acc : List Nat), ∀ p ∈ lawL acc l, p.length ≤ acc.length + l.length ∧ p ≠ []
  | [], acc, p, h => by
    rw [lawL] at h
    split at h
    · cases h
    · rename_i hne
      rw [List.mem_singleton.mp h]; exact ⟨Nat.le_add_right _ _, hne⟩
  | c :: r, acc, p, h => by
    rw [lawL] at h
    split at h
    · rcases List.mem_cons.mp h with h | h
      · subst h; simp
      · have := lawL_len r [] p h
        simp only [List.length_nil, List.length_cons] at this ⊢; exact ⟨by omega, this.2⟩
    · have := lawL_len r _ p h
      simp only [List.length_append, List.length_cons, List.length_nil] at this ⊢; exact ⟨by omega, this.2⟩
theorem linesS_len {x y : Str} (h : y ∈ linesS x) : y.length ≤ x.length ∧ 1 ≤ y.length := by
  obtain ⟨l, hl, rfl⟩ := List.mem_map.mp h
  have := lawL_len x.cps.toList [] l hl
  have h2 : 0 < l.length := List.length_pos_iff.mpr this.2
  show l.toArray.size ≤ x.cps.size ∧ 1 ≤ l.toArray.size
  simp only [List.length_nil, Array.length_toList, List.size_toArray] at this ⊢
  exact ⟨by omega, h2⟩
theorem linesS_many (x : Str) : (linesS x).length ≤ x.length + 1 := by
  unfold linesS; rw [List.length_map]
  have := lawL_many x.cps.toList []
  simpa [Str.length] using this
/-- what lawL does, sign by sign: the lines found, the line under way -/
def stepL (s : List (List Nat) × List Nat) (c : Nat) : List (List Nat) × List Nat := if c = 10 then (s.1 ++ [s.2 ++ [10]], []) else (s.1, s.2 ++ [c])
theorem lawL_fold : ∀ (l : List Nat) (f : List (List Nat)) (acc : List Nat), (f ++ lawL acc l) = (let s := l.foldl stepL (f, acc); if s.2 = [] then s.1 else s.1 ++ [s.2])
  | [], f, acc => by
    rw [lawL]
    show _ = if acc = [] then f else f ++ [acc]
    split
    · rw [List.append_nil]
    · rfl
  | c :: r, f, acc => by
    rw [lawL, List.foldl_cons]
    unfold stepL
    split
    · rename_i e
      have := lawL_fold r (f ++ [acc ++ [10]]) []
      rw [List.append_assoc] at this
      exact this
    · exact lawL_fold r f (acc ++ [c])
end T85
end

section
set_option Elab.async false
set_option linter.all false
set_option maxRecDepth 100000
set_option maxHeartbeats 4000000
namespace T85
open PySem PySem.Spec L2 Fx
section
variable {P : Program} {w : World} {K : PySem.W.Frag} {mg : Str → Option Value} {base : Heap}
def spLines (K : PySem.W.Frag) : Sp := fun vs H Q _ => ∃ (x : Str), vs = [.str x] ∧ x.length ≤ 100000 ∧ ∀ H' l, Same H H' → H l = none → H' l = some (.lst ((linesS x).map V.str)) → Q (.ref l) H'
theorem sgn_app (l : List Nat) (c : Nat) : mk l ++ ⟨#[c]⟩ = mk (l ++ [c]) := by
  refine st_inj ?_
  show ((mk l).cps ++ #[c]).toList = _
  simp [mk]
theorem take_fold {l : List Nat} {i c : Nat} (h : l[i]? = some c) (s : List (List Nat) × List Nat) : (l.take (i + 1)).foldl stepL s = stepL ((l.take i).foldl stepL s) c := by
  rw [take_of_get h, List.foldl_append]; rfl
theorem fold_small : ∀ (l : List Nat) (f : List (List Nat)) (acc : List Nat), (l.foldl stepL (f, acc)).1.length ≤ f.length + l.length ∧ (l.foldl stepL (f, acc)).2.length ≤ acc.length + l.length
  | [], f, acc => ⟨Nat.le_refl _, Nat.le_refl _⟩
  | c :: r, f, acc => by
    rw [List.foldl_cons]
    by_cases e : c = 10
    · rw [show stepL (f, acc) c = (f ++ [acc ++ [10]], []) from if_pos e]
      have := fold_small r (f ++ [acc ++ [10]]) []
      simp only [List.length_append, List.length_cons, List.length_nil] at this ⊢; omega
    · rw [show stepL (f, acc) c = (f, acc ++ [c]) from if_neg e]
      have := fold_small r f (acc ++ [c])
      simp only [List.length_append, List.length_cons, List.length_nil] at this ⊢; omega
theorem ok__law_lines (T : Says w K mg) : Ok P w K mg base 1 ("_law_lines", none) ["_law_text"] (spLines K) := by
  refine FunD.ok (d__law_lines T) sc__law_lines (fun vs H Q E h => ?len) (fun cdv A outer s H vs Q E hr h => ?bod)
  case len =>
    obtain ⟨x, rfl, _⟩ := h; rfl
  case bod =>
    obtain ⟨x, rfl, hx, k⟩ := h
    refine ⟨_, PSs.nox (pss_cons (ps_par (i := 1) (j := 2) rfl sc__law_lines.nd rfl rfl (by decide) rfl rfl (pa_cons (pe_lst pa_nil) (pa_cons pe_str pa_nil)) (by rfl))
      (pss_cons (ps_for PassesOwn.never rfl (pi_str (pv 0)) (pg_name (i := 3) sc__law_lines.nd rfl (Or.inl rfl))
      (pss_cons (ps_set (i := 2) sc__law_lines.nd rfl (Or.inl rfl) (pe_op op_add_str (pv 2) (pv 3)))
      (pss_one (ps_if (pt_cmpR op_eq (pv 3) pe_str (nomark _)) (pss_cons (ps_expr (pe_bm PySem.F.plainAttrs_list PySem.F.slot_list_append PySem.F.type_list_append mt_append (pv 1) (pa_cons (pv 2) pa_nil)))
      (pss_one (ps_set (i := 2) sc__law_lines.nd rfl (Or.inl rfl) pe_str))) pss_nil))))
      (pss_one (ps_ret (pe_ifExp (pt_cmpR op_ne (pv 2) pe_str (nomark _)) (pe_op op_cat (pv 1) (pe_lst (pa_cons (pv 2) pa_nil))) (pv 1)))))), ?_⟩
    refine ⟨by show 0 ≤ sizeLine; decide, fun l hl => ⟨_, _, rfl, ?_⟩⟩
    have hxs : x.cps.toList.length ≤ 100000 := by rw [Array.length_toList]; exact hx
    refine ⟨_, rfl, x, rfl, ?_⟩
    refine for_it walk_str (fun i σ H2 => ∃ (v3 : Option V) (s : List (List Nat) × List Nat), σ = [some (.str x), some (.ref l), some (.str (mk s.2)), v3] ∧ Same H H2 ∧ H2 l = some (.lst ((s.1.map mk).map V.str)) ∧ s = (x.cps.toList.take i).foldl stepL ([], []))
      ⟨none, ([], []), rfl, same_new hl, upd_same, rfl⟩ (fun _ _ _ _ _ => trivial) ?_ ?_
    · rintro i y σ H2 H2' hi ⟨v3, s, rfl, s2, hL, hs⟩ ⟨rfl, c, hc, rfl⟩
      have hc' : x.cps.toList[i]? = some c := by simpa using hc
      have hsm := fold_small (x.cps.toList.take i) [] []
      rw [← hs] at hsm
      simp only [List.length_nil, List.length_take] at hsm
      have e := take_fold hc' ([], [])
      rw [← hs] at e
      refine ⟨_, rfl, _, rfl, mk s.2, _, rfl, rfl, Nat.le_trans (show s.2.length + 1 ≤ 100001 by omega) (by decide), ?_⟩
      rw [sgn_app]
      refine ⟨_, rfl, rfl, decide (c = 10), ?_, ?_⟩
      · show V.bl (decide (V.str ⟨#[c]⟩ = V.str (mk [10]))) = _
        rw [eqS]
        congr 1
        refine decide_eq_decide.mpr ⟨fun z => ?_, fun z => by rw [z]; rfl⟩
        have := mk_inj (a := [c]) (b := [10]) z
        simpa using this
      by_cases hc10 : c = 10
      · rw [decide_eq_true hc10]
        have e2 : stepL s c = (s.1 ++ [s.2 ++ [10]], []) := if_pos hc10
        refine iteT ⟨_, rfl, .inl ⟨rfl, _, SqL.of hL⟩, _, rfl, l, _, _, rfl, rfl, hL, by rw [List.length_map, List.length_map]; exact Nat.lt_of_le_of_lt (show s.1.length ≤ 100000 by omega) (by decide), ?_⟩
        refine ⟨_, (s.1 ++ [s.2 ++ [10]], []), rfl, same_upd s2 hl, ?_, by rw [e, e2]⟩
        rw [upd_same, hc10, List.map_append, List.map_append]; rfl
      · rw [decide_eq_false hc10]
        have e2 : stepL s c = (s.1, s.2 ++ [c]) := if_neg hc10
        exact iteF ⟨_, (s.1, s.2 ++ [c]), rfl, s2, hL, by rw [e, e2]⟩
    · rintro σ H2 ⟨v3, s, rfl, s2, hL, hs⟩
      have hsm := fold_small (x.cps.toList.take x.cps.size) [] []
      rw [← hs] at hsm
      simp only [List.length_nil, List.length_take] at hsm
      rw [List.take_of_length_le (by simp)] at hs
      have hfin := lawL_fold x.cps.toList [] []
      rw [List.nil_append, ← hs] at hfin
      dsimp only at hfin
      refine ⟨_, rfl, rfl, !decide (s.2 = []), ?_, ?_⟩
      · show V.bl (!decide (V.str (mk s.2) = V.str (mk []))) = _
        rw [eqS]
        congr 2
        exact decide_eq_decide.mpr ⟨fun z => mk_inj z, fun z => by rw [z]⟩
      by_cases hz : s.2 = []
      · rw [decide_eq_true hz]
        rw [if_pos hz] at hfin
        refine iteF ⟨_, rfl, k _ l s2 hl ?_⟩
        rw [hL]; unfold linesS; rw [hfin]
      · rw [decide_eq_false hz]
        rw [if_neg hz] at hfin
        refine iteT ⟨_, rfl, _, rfl, by show 1 ≤ sizeLine; decide, fun l2 hl2 => ⟨l, l2, _, _, rfl, rfl, same_new hl2 _ _ hL, upd_same, by rw [List.length_map, List.length_map]; exact Nat.le_trans (show s.1.length + 1 ≤ 100001 by omega) (by decide), fun l3 hl3 => ?_⟩⟩
        refine k _ l3 ((s2.trans (same_new hl2)).trans (same_new hl3)) ((s2.trans (same_new hl2)).free hl3) ?_
        rw [upd_same]; unfold linesS; rw [hfin, List.map_append, List.map_append]; rfl
end
end T85
end

section
set_option Elab.async false
set_option linter.all false
set_option maxRecDepth 100000
set_option maxHeartbeats 4000000
namespace T85
open PySem PySem.Spec L2 Fx
/-! ### what the law finds in lines -/
def endsNl (x : Str) : Bool := decide (x.cps.toList.getLast? = some 10)
def chop (x : Str) : Str := mk x.cps.toList.dropLast
def meantFrom (names : List Str) : Str × Str → Int → List Str → Except Int (List Fc)
  | _, _, [] => .ok []
  | last, n, x :: r => if endsNl x = true then (match factOf names (chop x) with
    | none => .error n
    | some f => if lexLeS [f.1, f.2.1] [last.1, last.2] = true then .error n else (meantFrom names (f.1, f.2.1) (n + 1) r).map (f :: ·)) else .error n
def meantL : List Str → Except Int (List Str × List Fc)
  | [] => .error 1
  | x :: r => if endsNl x = true then (match fixersOf (chop x) with
    | none => .error 1
    | some ns => (meantFrom ns (Str.ofString "", Str.ofString "") 2 r).map fun fs => (ns, fs)) else .error 1
theorem at_last {xs : List Nat} (h : 1 ≤ xs.length) : ∃ c, atI xs (-1) = some c ∧ xs.getLast? = some c := by
  have hl : xs.length - 1 < xs.length := by omega
  refine ⟨xs[xs.length - 1], ?_, ?_⟩
  · unfold atI ixN
    rw [if_neg (by omega), if_pos (by omega)]
    show xs[((-1 : Int) + (xs.length : Nat)).toNat]? = _
    rw [show ((-1 : Int) + (xs.length : Nat)).toNat = xs.length - 1 by omega]
    exact List.getElem?_eq_getElem hl
  · rw [List.getLast?_eq_getElem?]; exact List.getElem?_eq_getElem hl
theorem cut_chop {x : Str} (h : 1 ≤ x.length) : cutS x none (some (-1)) = chop x := by
  refine st_inj ?_
  unfold cutS
  show ((x.cps.toList.drop 0).take (((-1 : Int) + (x.length : Nat)).toNat - 0)) = x.cps.toList.dropLast
  rw [List.drop_zero, List.dropLast_eq_take, Array.length_toList]
  congr 1
  show ((-1 : Int) + (x.cps.size : Nat)).toNat - 0 = _
  have : 1 ≤ x.cps.size := h
  omega
theorem chop_len (x : Str) : (chop x).length ≤ x.length := by
  show x.cps.toList.dropLast.toArray.size ≤ x.cps.size
  simp
def kvF (fs : List Fc) : List (List Key × V) := fs.map fun f => ([.inr f.1, .inr f.2.1], .int f.2.2)
theorem kvF_none {a b : Str} : ∀ {fs : List Fc}, (∀ f ∈ fs, ¬ (f.1 = a ∧ f.2.1 = b)) → valV (kvF fs) [.inr a, .inr b] = none
  | [], _ => rfl
  | f :: fs, h => by
    have e2 : ¬ ([Sum.inr f.1, Sum.inr f.2.1] : List Key) = [.inr a, .inr b] := fun z => by
      simp at z; exact h f (List.mem_cons_self ..) z
    show valV (_ :: kvF fs) _ = _
    rw [valV_neg e2]; exact kvF_none fun g hg => h g (List.mem_cons_of_mem _ hg)
theorem lexLe_pr (a b c d : Str) : lexLeS [a, b] [c, d] = !prLt (c, d) (a, b) := by
  unfold lexLeS prLt
  by_cases e : a = c
  · subst e
    rw [if_pos rfl, if_pos rfl]
    unfold lexLeS
    by_cases e2 : b = d
    · subst e2
      rw [if_pos rfl]
      unfold lexLeS
      rw [decide_eq_false (List.lt_irrefl _)]; rfl
    · rw [if_neg e2]
  · rw [if_neg e, if_neg (fun z => e z.symm)]
abbrev keyF (f : Fc) : Str × Str := (f.1, f.2.1)
def Asc (last : Str × Str) (fs : List Fc) : Prop := ∀ f ∈ fs, keyF f = last ∨ prLt (keyF f) last = true
theorem prLt_trans {p q r : Str × Str} (h1 : prLt p q = true) (h2 : prLt q r = true) : prLt p r = true := by
  rw [prLt_iff] at *
  rcases h1 with h1 | ⟨e1, h1⟩
  · rcases h2 with h2 | ⟨e2, h2⟩
    · exact .inl (List.lt_trans h1 h2)
    · exact .inl (e2 ▸ h1)
  · rcases h2 with h2 | ⟨e2, h2⟩
    · exact .inl (e1 ▸ h2)
    · exact .inr ⟨e1.trans e2, List.lt_trans h1 h2⟩
theorem prLt_irr (p : Str × Str) : prLt p p = false := by
  unfold prLt; rw [if_pos rfl]; exact decide_eq_false (List.lt_irrefl _)
theorem Asc.snoc {last : Str × Str} {fs : List Fc} {f : Fc} (h : Asc last fs) (hl : prLt last (keyF f) = true) : Asc (keyF f) (fs ++ [f]) := fun g hg => by
  rcases List.mem_append.mp hg with hg | hg
  · rcases h g hg with e | e
    · exact .inr (e ▸ hl)
    · exact .inr (prLt_trans e hl)
  · rw [List.mem_singleton.mp hg]; exact .inl rfl
theorem Asc.new {last : Str × Str} {fs : List Fc} {f : Fc} (h : Asc last fs) (hl : prLt last (keyF f) = true) : ∀ g ∈ fs, ¬ (g.1 = f.1 ∧ g.2.1 = f.2.1) := fun g hg z => by
  have e : keyF g = keyF f := Prod.ext z.1 z.2
  rcases h g hg with h | h
  · rw [← h, e, prLt_irr] at hl; cases hl
  · rw [e] at h
    have := prLt_trans h hl
    rw [prLt_irr] at this; cases this
section
variable {P : Program} {w : World} {K : PySem.W.Frag} {mg : Str → Option Value} {base : Heap}
def spMeant (K : PySem.W.Frag) : Sp := fun vs H Q _ => ∃ (x : Str), vs = [.str x] ∧ x.length ≤ 100000 ∧ (∀ n, meantL (linesS x) = .error n → ∀ H', Same H H' → Q (.int n) H') ∧
  ∀ ns fs, meantL (linesS x) = .ok (ns, fs) → ∀ H' u l d, Same H H' → H' u = some (.tup [.ref l, .ref d]) → H' l = some (.lst (ns.map V.str)) → H' d = some (.dT (kvF fs)) → Q (.ref u) H'
theorem ok__law_meant (T : Says w K mg) : Ok P w K mg base 2 ("_law_meant", none) ["_law_text"] (spMeant K) := by
  have G__law_lines := FnOk.mono (k := 1) (ok__law_lines (P := P) (w := w) (base := base) T) (by decide)
  have G__law_is_name := FnOk.mono (k := 1) (ok__law_is_name (P := P) (w := w) (base := base) T) (by decide)
  refine FunD.ok (d__law_meant T) sc__law_meant (fun vs H Q E h => ?len) (fun cdv A outer s H vs Q E hr h => ?bod)
  case len =>
    obtain ⟨x, rfl, _⟩ := h; rfl
  case bod =>
    obtain ⟨x, rfl, hx, ke, ko⟩ := h
    have hu := hu_of hr
    refine ⟨_, PSs.nox (pss_cons (ps_par3 (i := 1) (j := 2) (l := 3) rfl sc__law_meant.nd rfl rfl rfl (by decide) (by decide) (by decide) rfl rfl rfl (pa_cons (pe_lst pa_nil) (pa_cons pe_dnewT (pa_cons (pe_tup (pa_cons pe_str (pa_cons pe_str pa_nil))) pa_nil))) (by rfl))
      (pss_cons (ps_for PassesOwn.never rfl (k_pienum (K := K) (by rfl) (by rfl) (T.free_ 12) (pa_cons (pe_call G__law_lines hr (by rfl) (T.glo_ 48) (d__law_lines T).kp (b__law_lines T) .nil pass0 (pa_cons (pv 0) pa_nil)) pa_nil)) (k_tup (K := K) (n := 2) (by rfl) rfl (pgs_cons (pg_name (i := 4) sc__law_meant.nd rfl (Or.inl rfl)) (pgs_cons (pg_name (i := 5) sc__law_meant.nd rfl (Or.inl rfl)) pgs_nil)))
      (pss_cons (ps_set (i := 6) sc__law_meant.nd rfl (Or.inl rfl) (pe_bm PySem.F.plainAttrs_str PySem.F.slot_str_split PySem.F.type_str_split mt_split (pe_slice sl_str (pv 5) po_none (po_some (pe_un un_neg pe_int))) (pa_cons pe_str pa_nil)))
      (pss_cons (ps_if (pt_cmpR op_ne (pe_ix ix_str (pv 5) (pe_un un_neg pe_int) (fun _ _ => rfl)) pe_str (nomark _)) (pss_one (ps_ret (pe_op op_add (pv 4) pe_int))) pss_nil)
      (pss_one (ps_if (pt_cmpR op_eq (pv 4) pe_int (nomark _)) (pss_cons (ps_set (i := 1) sc__law_meant.nd rfl (Or.inl rfl) (pe_slice (k_slL (K := K) (by rfl)) (pv 6) (po_some pe_int) po_none))
      (pss_cons (ps_set (i := 7) sc__law_meant.nd rfl (Or.inl rfl) (pe_and (pe_cmpR op_eq (pe_ix (k_ixL (K := K) (by rfl)) (pv 6) pe_int (fun _ _ => rfl)) pe_str (nomark _)) (pe_and (pe_chain op_le op_le pe_int (pe_callB (k_len (K := K) (by rfl)) (by rfl) (T.free_ 6) (by decide +kernel) (pa_cons (pv 1) pa_nil)) pe_int) (pe_one (pe_callB (k_all (K := K) (by rfl) rfl) (by rfl) (T.free_ 9) (by decide +kernel) (pa_cons (pe_lc (own := [("_law_word", 8)]) rfl sc__law_meant.nd (k_pil (K := K) (by rfl) (pv 1)) (blkOk_by (N := N__law_meant) (sc := defScope s__law_meant) (by decide +kernel)) (fun _ _ _ _ _ => (pg_name (i := 8) sc__law_meant.nd rfl (Or.inl rfl))) (fun _ _ _ _ _ => pts_nil) (fun _ _ _ _ _ => (pe_call G__law_is_name hr (by rfl) (T.glo_ 61) (d__law_is_name T).kp (b__law_is_name T) .nil pass0 (pa_cons (pv 8) pa_nil)))) pa_nil))))))
      (pss_one (ps_if (pw_or (pt_not (pt_val (pv 7))) (pw_or1 (pt_cmpR (k_neD (K := K) (by rfl) hr.units) (pv 1) (pe_callB (k_sortedX (P := P) (w := w) (by rfl) (by rfl) (by rfl)) (by rfl) (T.free_ 20) (by decide +kernel) (pa_cons (pe_callTy (k_setX (P := P) (w := w) (K := K) (by rfl) (by rfl) (by rfl) (by rfl)) (by rfl) (T.free_ 34) (by decide +kernel) (pa_cons (pv 1) pa_nil)) pa_nil)) (nomark _)))).pt (pss_one (ps_ret pe_int)) pss_nil)))) (pss_cons (ps_if (pw_or (pt_cmpR op_ne (pe_callB (k_len (K := K) (by rfl)) (by rfl) (T.free_ 6) (by decide +kernel) (pa_cons (pv 6) pa_nil)) pe_int (nomark _)) (pw_or (pt_cmpR (k_notIn (K := K) (by rfl)) (pe_ix (k_ixL (K := K) (by rfl)) (pv 6) pe_int (fun _ _ => rfl)) (pv 1) (by rfl)) (pw_or1 (pt_cmpR (k_notIn (K := K) (by rfl)) (pe_ix (k_ixL (K := K) (by rfl)) (pv 6) pe_int (fun _ _ => rfl)) (pv 1) (by rfl))))).pt (pss_one (ps_ret (pe_op op_add (pv 4) pe_int))) pss_nil)
      (pss_cons (ps_if (pt_cmpR (k_notIn (K := K) (by rfl)) (pe_ix (k_ixL (K := K) (by rfl)) (pv 6) pe_int (fun _ _ => rfl)) (pe_lst (pa_cons pe_str (pa_cons pe_str (pa_cons pe_str (pa_cons pe_str pa_nil))))) (by rfl)) (pss_one (ps_ret (pe_op op_add (pv 4) pe_int))) pss_nil)
      (pss_cons (ps_if (pw_or (pt_cmpR op_ge_str (pe_ix (k_ixL (K := K) (by rfl)) (pv 6) pe_int (fun _ _ => rfl)) (pe_ix (k_ixL (K := K) (by rfl)) (pv 6) pe_int (fun _ _ => rfl)) (nomark _)) (pw_or1 (pt_cmpR (k_leTS (K := K) (by rfl) hr.units0) (pe_tup (pa_cons (pe_ix (k_ixL (K := K) (by rfl)) (pv 6) pe_int (fun _ _ => rfl)) (pa_cons (pe_ix (k_ixL (K := K) (by rfl)) (pv 6) pe_int (fun _ _ => rfl)) pa_nil))) (pv 3) (nomark _)))).pt (pss_one (ps_ret (pe_op op_add (pv 4) pe_int))) pss_nil)
      (pss_cons (ps_set (i := 3) sc__law_meant.nd rfl (Or.inl rfl) (pe_tup (pa_cons (pe_ix (k_ixL (K := K) (by rfl)) (pv 6) pe_int (fun _ _ => rfl)) (pa_cons (pe_ix (k_ixL (K := K) (by rfl)) (pv 6) pe_int (fun _ _ => rfl)) pa_nil))))
      (pss_one (ps_dput hu (pv 2) (pv 3) (pe_callTy call_int_str (by rfl) (T.free_ 1) (by decide +kernel) (pa_cons (pe_ix (k_ixL (K := K) (by rfl)) (pv 6) pe_int (fun _ _ => rfl)) pa_nil)) rfl)))))))))))
      (pss_one (ps_ret (pe_ifExp (pt_cmpR (k_neD (K := K) (by rfl) hr.units) (pv 1) (pe_lst pa_nil) (nomark _)) (pe_tup (pa_cons (pv 1) (pa_cons (pv 2) pa_nil))) pe_int))))), ?_⟩
    refine ⟨by show 0 ≤ sizeLine; decide, fun nl hnl => fun d hd => ⟨by show 2 ≤ sizeLine; decide, fun tl htl => ⟨_, _, _, rfl, ?_⟩⟩⟩
    have s1 : Same H (upd (upd (upd H nl (.lst [])) d (.dT [])) tl (.tup [.str (Str.ofString ""), .str (Str.ofString "")])) := ((same_new hnl).trans (same_new hd)).trans (same_new htl)
    have hnl1 : (upd (upd (upd H nl (.lst [])) d (.dT [])) tl (.tup [.str (Str.ofString ""), .str (Str.ofString "")])) nl = some (.lst (([] : List Str).map V.str)) := same_new htl _ _ (same_new hd _ _ upd_same)
    have hd1 : (upd (upd (upd H nl (.lst [])) d (.dT [])) tl (.tup [.str (Str.ofString ""), .str (Str.ofString "")])) d = some (.dT (kvF [])) := same_new htl _ _ upd_same
    have htl1 : (upd (upd (upd H nl (.lst [])) d (.dT [])) tl (.tup [.str (Str.ofString ""), .str (Str.ofString "")])) tl = some (.tup [.str (Str.ofString ""), .str (Str.ofString "")]) := upd_same
    have hdH : H d = none := (same_new hnl).free hd
    generalize upd (upd (upd H nl (.lst [])) d (.dT [])) tl (.tup [.str (Str.ofString ""), .str (Str.ofString "")]) = H1 at s1 hnl1 hd1 htl1 ⊢
    refine ⟨_, rfl, x, rfl, hx, fun H2 ll s2 hll hL2 => ⟨ll, _, rfl, SqL.of hL2, ?_⟩⟩
    have hlm := linesS_many x
    have hle := fun (y : Str) (h : y ∈ linesS x) => linesS_len (x := x) h
    generalize linesS x = lines at hL2 hlm hle ke ko ⊢
    have hlld : ll ≠ d := fun e => by rw [e, hd1] at hll; cases hll
    refine for_enumL (xs := lines.map V.str) (fun i σ H3 => ∃ (nl tl : Addr) (v4 v5 v6 v7 v8 : Option V) (names : List Str) (last : Str × Str) (fs : List Fc), σ = [some (.str x), some (.ref nl), some (.ref d), some (.ref tl), v4, v5, v6, v7, v8] ∧ Same H H3 ∧ H3 ll = some (.lst (lines.map V.str)) ∧ H3 nl = some (.lst (names.map V.str)) ∧ H3 d = some (.dT (kvF fs)) ∧ H3 tl = some (.tup [.str last.1, .str last.2]) ∧ fs.length ≤ i ∧
        ((i = 0 ∧ names = [] ∧ fs = [] ∧ last = (Str.ofString "", Str.ofString "")) ∨
         (1 ≤ i ∧ meantL lines = (meantFrom names last (1 + (i : Nat)) (lines.drop i)).map (fun gs => (names, fs ++ gs)) ∧ (1 ≤ names.length ∧ ∀ y ∈ names, NameOk y) ∧ Asc last fs)))
      ⟨nl, tl, none, none, none, none, none, [], _, [], rfl, s1.trans s2, hL2, s2 _ _ hnl1, s2 _ _ hd1, s2 _ _ htl1, by simp, .inl ⟨rfl, rfl, rfl, rfl⟩⟩ (fun i σ H' _ ⟨_, _, _, _, _, _, _, _, _, _, _, _, h, _⟩ => SqL.of h) ?_ ?_
    · rintro i yv σ H3 Tu hy ⟨nl, tl, v4, v5, v6, v7, v8, names, last, fs, rfl, s3, hll3, hnl3, hd3, htl3, hfl, hph⟩ hTu
      obtain ⟨y, hyl, rfl⟩ := getElem?_map_some hy
      have sT := same_new (o := .tup [.int (i : Nat), .str y]) hTu
      have s4 := s3.trans sT
      have hll4 := sT _ _ hll3
      have hnl4 := sT _ _ hnl3
      have hd4 := sT _ _ hd3
      have htl4 := sT _ _ htl3
      generalize upd H3 Tu (.tup [.int (i : Nat), .str y]) = H4 at s4 hll4 hnl4 hd4 htl4 ⊢
      obtain ⟨hy1, hy2⟩ := hle y (List.mem_of_getElem? hyl)
      have hi := lt_of_get hyl
      refine ⟨_, _, rfl, _, _, rfl, rfl, ?_⟩
      have hylen : y.length ≤ 100000 := Nat.le_trans hy1 hx
      have hdr := drop_of_get hyl
      have hbad : endsNl y = false → meantL lines = .error ((i : Int) + 1) := fun hb => by
        rcases hph with ⟨rfl, _, _, _⟩ | ⟨_, hrun, _⟩
        · rw [List.drop_zero] at hdr
          rw [hdr, meantL, if_neg (by rw [hb]; exact Bool.false_ne_true)]; rfl
        · rw [hrun, hdr, meantFrom, if_neg (by rw [hb]; exact Bool.false_ne_true), Int.add_comm]; rfl
      have hcl : (chop y).length + 2 ≤ sizeLine := Nat.le_trans (Nat.add_le_add_right (Nat.le_trans (chop_len y) hylen) 2) (by decide)
      refine ⟨_, rfl, _, rfl, _, rfl, y, rfl, Nat.le_trans hylen (by decide), ?_⟩
      rw [cut_chop hy2]
      refine ⟨rfl, chop y, _, rfl, rfl, rfl, hcl, ?_⟩
      rw [wordsS_eq]
      intro wl hwl
      have sw := same_new (o := .lst ((wordsS (chop y)).map V.str)) hwl
      have hwl5 : (upd H4 wl (.lst ((wordsS (chop y)).map V.str))) wl = some (.lst ((wordsS (chop y)).map V.str)) := upd_same
      have s5 := s4.trans sw
      have hll5 := sw _ _ hll4
      have hnl5 := sw _ _ hnl4
      have hd5 := sw _ _ hd4
      have htl5 := sw _ _ htl4
      generalize upd H4 wl (.lst ((wordsS (chop y)).map V.str)) = H5 at sw hwl5 s5 hll5 hnl5 hd5 htl5 ⊢
      obtain ⟨c, hat, hlast⟩ := at_last (xs := y.cps.toList) (by rw [Array.length_toList]; exact hy2)
      refine ⟨_, rfl, _, rfl, y, _, c, rfl, rfl, Nat.le_trans hylen (by decide), hat, rfl, !endsNl y, ?_, ?_⟩
      · show V.bl (!decide (V.str (mk [c]) = V.str (mk [10]))) = _
        rw [eqS]
        unfold endsNl
        rw [hlast]
        congr 2
        refine decide_eq_decide.mpr ⟨fun z => ?_, fun z => by rw [Option.some.inj z]⟩
        have := mk_inj z
        rw [show c = 10 by simpa using this]
      cases hend : endsNl y with
      | false => exact iteT ⟨_, rfl, _, _, rfl, rfl, ke _ (hbad hend) _ s5⟩
      | true =>
      refine iteF ?_
      refine ⟨_, rfl, rfl, decide (i = 0), ?_, ?_⟩
      · show V.bl (decide (V.int (i : Nat) = V.int 0)) = _
        congr 1
        exact decide_eq_decide.mpr ⟨fun z => by have := V.int.inj z; omega, fun z => by rw [z]; rfl⟩
      have hwlen : ∀ z ∈ wordsS (chop y), z.length ≤ 1000000 := fun z hz => Nat.le_trans (wordsS_len hz) (Nat.le_trans (chop_len y) (Nat.le_trans hylen (by decide)))
      rcases hph with ⟨rfl, rfl, rfl, rfl⟩ | ⟨h1, hrun, hnm, hasc⟩
      · rw [List.drop_zero] at hdr
        have hml : meantL lines = (match fixersOf (chop y) with
          | none => .error 1
          | some ns => (meantFrom ns (Str.ofString "", Str.ofString "") 2 (lines.drop 1)).map fun fs => (ns, fs)) := by
          rw [hdr, meantL, if_pos hend]; rfl
        refine iteT ?_
        obtain ⟨f, ns, hw⟩ : ∃ f ns, wordsS (chop y) = f :: ns := by
          cases h : wordsS (chop y) with
          | nil => exact absurd h (wordsS_ne _)
          | cons f ns => exact ⟨f, ns, rfl⟩
        unfold fixersOf at hml
        rw [hw] at hml hwl5 hwlen
        dsimp only at hml
        refine ⟨_, rfl, _, rfl, wl, _, rfl, SqL.of hwl5, fun nl2 hnl2 => ?_⟩
        have ec : cutV ((f :: ns).map V.str) (some 1) none = ns.map V.str := by
          rw [show (some (1 : Int)) = some ((1 : Nat) : Int) from rfl, cut_drop (by simp)]; rfl
        rw [ec]
        have sn := same_new (o := .lst (ns.map V.str)) hnl2
        have hn6 : (upd H5 nl2 (.lst (ns.map V.str))) nl2 = some (.lst (ns.map V.str)) := upd_same
        have s6 := s5.trans sn
        have hll6 := sn _ _ hll5
        have hd6 := sn _ _ hd5
        have htl6 := sn _ _ htl5
        have hwl6 := sn _ _ hwl5
        generalize upd H5 nl2 (.lst (ns.map V.str)) = H6 at sn hn6 s6 hll6 hd6 htl6 hwl6 ⊢
        have bad : ¬ (f = Str.ofString "fixers" ∧ 1 ≤ ns.length ∧ ns.length ≤ 6 ∧ ns.all nameB = true ∧ Srt ns) → meantL lines = .error 1 := fun h => by rw [hml, if_neg h]
        refine ⟨_, rfl, wl, _, _, .str f, rfl, rfl, SqL.of hwl6, atI_of (j := 0) rfl rfl, rfl, decide (f = Str.ofString "fixers"), by show V.bl (decide (V.str f = V.str _)) = _; rw [eqS], ?_⟩
        by_cases hf : f = Str.ofString "fixers"
        case neg =>
          rw [decide_eq_false hf]
          exact iteF ⟨_, rfl, false, rfl, iteT (ke 1 (bad fun z => hf z.1) _ s6)⟩
        rw [decide_eq_true hf]
        refine iteT ⟨_, rfl, nl2, _, rfl, .inl (SqL.of hn6), _, _, rfl, rfl, decide (1 ≤ ns.length), by rw [List.length_map]; show V.bl (decide ((1 : Int) ≤ (ns.length : Nat))) = _; congr 1; exact decide_eq_decide.mpr (by omega), ?_⟩
        by_cases h1 : 1 ≤ ns.length
        case neg =>
          rw [decide_eq_false h1]
          exact iteF ⟨false, rfl, iteF ⟨_, rfl, false, rfl, iteT (ke 1 (bad fun z => h1 z.2.1) _ s6)⟩⟩
        rw [decide_eq_true h1]
        refine iteT ⟨_, _, rfl, rfl, decide (ns.length ≤ 6), by rw [List.length_map]; show V.bl (decide (((ns.length : Nat) : Int) ≤ 6)) = _; congr 1; exact decide_eq_decide.mpr (by omega), ?_⟩
        by_cases h6 : ns.length ≤ 6
        case neg =>
          rw [decide_eq_false h6]
          exact iteF ⟨_, rfl, false, rfl, iteT (ke 1 (bad fun z => h6 z.2.2.1) _ s6)⟩
        rw [decide_eq_true h6]
        refine iteT ⟨_, rfl, nl2, rfl, ⟨_, SqL.of hn6⟩, fun D hD => lc_names (σ := [some (.str x), some (.ref nl2), some (.ref d), some (.ref tl), some (.int ((0 : Nat) : Int)), some (.str y), some (.ref wl), v7, v8]) rfl (SqL.of hn6) hD (fun z hz => hwlen z (List.mem_cons_of_mem _ hz)) (by omega) (fun _ => rfl) (fun _ => rfl) fun H7 s7 hD7 => ?_⟩
        refine ⟨D, _, rfl, SqL.of hD7, ?_⟩
        refine ⟨_, rfl, (ns.map nameB).all id, rfl, ?_⟩
        rw [List.all_map, show (id ∘ nameB) = nameB from rfl]
        cases hn : ns.all nameB with
        | false => exact iteT (ke 1 (bad fun z => by rw [hn] at z; cases z.2.2.2.1) _ (s6.trans s7))
        | true =>
        have hn7 := s7 _ _ hn6
        refine iteF ⟨_, rfl, _, rfl, nl2, ns, rfl, SqL.of hn7, by omega, fun p hp => ?_⟩
        have s8 := same_new (o := SetXO P w p (allX ns)) hp
        refine ⟨p, allX ns, rfl, upd_same, Nat.lt_of_le_of_lt (allX_len ns) (by omega), fun ys q hperm hsort hq => ?_⟩
        have s9 := s8.trans (same_new (o := .lst (ys.map V.str)) hq)
        have hnok : ∀ y ∈ ns, NameOk y := fun y hy => of_decide_eq_true (List.all_eq_true.mp hn y hy)
        refine ⟨_, _, .lst (SqL.of (s9 _ _ hn7)) dp_strs, .lst (SqL.of upd_same) dp_strs, shaped_lst (fun y hy => (hnok y hy).ok), shaped_lst (fun y hy => (hnok y (allX_mem.mp (hperm.mem_iff.mp hy))).ok), !decide (Srt ns), by rw [eqv_lst, set_sorted hperm hsort], ?_⟩
        have s79 := s7.trans s9
        by_cases hs : Srt ns
        · rw [decide_eq_true hs]
          exact iteF ⟨nl2, tl, _, _, _, _, _, ns, _, [], rfl, s6.trans s79, s79 _ _ hll6, s79 _ _ hn6, s79 _ _ hd6, s79 _ _ htl6, by simp, .inr ⟨by omega, by rw [hml, if_pos ⟨hf, h1, h6, hn, hs⟩]; rfl, ⟨h1, hnok⟩, fun g hg => by cases hg⟩⟩
        · rw [decide_eq_false hs]
          exact iteT (ke 1 (bad fun z => hs z.2.2.2.2) _ (s6.trans s79))
      · rw [decide_eq_false (show ¬ i = 0 by omega)]
        rw [hdr, meantFrom, if_pos hend] at hrun
        refine iteF ?_
        have hbn : factOf names (chop y) = none → meantL lines = .error ((i : Int) + 1) := fun h => by rw [hrun, h]; show Except.error (1 + (i : Int)) = _; rw [Int.add_comm]
        have hbb : ∀ f, factOf names (chop y) = some f → lexLeS [f.1, f.2.1] [last.1, last.2] = true → meantL lines = .error ((i : Int) + 1) := fun f h h2 => by rw [hrun, h]; dsimp only; rw [if_pos h2]; show Except.error (1 + (i : Int)) = _; rw [Int.add_comm]
        have hbo : ∀ f, factOf names (chop y) = some f → lexLeS [f.1, f.2.1] [last.1, last.2] = false → meantL lines = (meantFrom names (f.1, f.2.1) (1 + ((i + 1 : Nat) : Int)) (lines.drop (i + 1))).map (fun gs => (names, (fs ++ [f]) ++ gs)) := fun f h h2 => by
          rw [hrun, h]
          dsimp only
          rw [if_neg (by rw [h2]; exact Bool.false_ne_true), emap, show (1 : Int) + (i : Int) + 1 = 1 + ((i + 1 : Nat) : Int) by omega]
          congr 1
          funext z
          rw [List.append_assoc]; rfl
        clear hrun
        unfold factOf at hbn hbb hbo
        generalize wordsS (chop y) = ws at hbn hbb hbo hwl5 ⊢
        refine ⟨_, rfl, wl, _, rfl, .inl (SqL.of hwl5), rfl, !decide (ws.length = 3), ?_, ?_⟩
        · rw [List.length_map]
          show V.bl (!decide (V.int ((ws.length : Nat) : Int) = V.int 3)) = _
          congr 2
          exact decide_eq_decide.mpr ⟨fun e => by have := V.int.inj e; omega, fun e => by rw [e]; rfl⟩
        match ws, hbn, hbb, hbo, hwl5 with
        | [], hbn, _, _, _ => exact iteT ⟨_, rfl, _, _, rfl, rfl, ke _ (hbn rfl) _ s5⟩
        | [_], hbn, _, _, _ => exact iteT ⟨_, rfl, _, _, rfl, rfl, ke _ (hbn rfl) _ s5⟩
        | [_, _], hbn, _, _, _ => exact iteT ⟨_, rfl, _, _, rfl, rfl, ke _ (hbn rfl) _ s5⟩
        | _ :: _ :: _ :: _ :: _, hbn, _, _, _ =>
          refine iteT' ?_ ⟨_, rfl, _, _, rfl, rfl, ke _ (hbn rfl) _ s5⟩
          simp
        | [a, b, r], hbn, hbb, hbo, hwl5 =>
        have i0 : atI ([a, b, r].map V.str) 0 = some (.str a) := atI_of (j := 0) rfl rfl
        have i1 : atI ([a, b, r].map V.str) 1 = some (.str b) := atI_of (j := 1) rfl rfl
        have i2 : atI ([a, b, r].map V.str) 2 = some (.str r) := atI_of (j := 2) rfl rfl
        have hq := SqL.of (K := K) hwl5
        have hnq := SqL.of (K := K) hnl5
        dsimp only at hbn hbb hbo
        refine iteF ⟨_, rfl, wl, _, _, .str a, rfl, rfl, hq, i0, _, rfl, nl, _, rfl, .inl hnq, rfl, flat_strs _, !decide (a ∈ names), by show V.bl (!inV (.str a) (names.map V.str)) = _; rw [inV_str], ?_⟩
        by_cases ha : a ∈ names
        case neg =>
          rw [decide_eq_false ha]
          exact iteT ⟨_, rfl, _, _, rfl, rfl, ke _ (hbn (if_neg fun z => ha z.1)) _ s5⟩
        rw [decide_eq_true ha]
        refine iteF ⟨_, rfl, wl, _, _, .str b, rfl, rfl, hq, i1, _, rfl, nl, _, rfl, .inl hnq, rfl, flat_strs _, !decide (b ∈ names), by show V.bl (!inV (.str b) (names.map V.str)) = _; rw [inV_str], ?_⟩
        by_cases hb : b ∈ names
        case neg =>
          rw [decide_eq_false hb]
          exact iteT ⟨_, rfl, _, _, rfl, rfl, ke _ (hbn (if_neg fun z => hb z.2.1)) _ s5⟩
        rw [decide_eq_true hb]
        refine iteF ⟨_, rfl, wl, _, _, .str r, rfl, rfl, hq, i2, by show 4 ≤ sizeLine; decide, fun z hz => ⟨z, wordsR.map V.str, rfl, .inl (SqL.of upd_same), rfl, flat_strs _, !decide (r ∈ wordsR), by show V.bl (!inV (.str r) (wordsR.map V.str)) = _; rw [inV_str], ?_⟩⟩
        have sz := same_new (o := .lst [.str "2", .str "3", .str "4", .str "6"]) hz
        have s6 := s5.trans sz
        have hll6 := sz _ _ hll5
        have hnl6 := sz _ _ hnl5
        have hd6 := sz _ _ hd5
        have htl6 := sz _ _ htl5
        have hwl6 := sz _ _ hwl5
        generalize upd H5 z (.lst [.str "2", .str "3", .str "4", .str "6"]) = H6 at sz s6 hll6 hnl6 hd6 htl6 hwl6 ⊢
        by_cases hrw : r ∈ wordsR
        case neg =>
          rw [decide_eq_false hrw]
          exact iteT ⟨_, rfl, _, _, rfl, rfl, ke _ (hbn (if_neg fun z => hrw z.2.2.1)) _ s6⟩
        rw [decide_eq_true hrw]
        have hq6 := SqL.of (K := K) hwl6
        refine iteF ⟨_, rfl, wl, _, _, .str a, rfl, rfl, hq6, i0, _, rfl, wl, _, _, .str b, rfl, rfl, hq6, i1, a, b, rfl, rfl, !decide (a.cps.toList < b.cps.toList), rfl, ?_⟩
        by_cases hlt : a.cps.toList < b.cps.toList
        case neg =>
          rw [decide_eq_false hlt]
          exact iteT ⟨_, rfl, _, _, rfl, rfl, ke _ (hbn (if_neg fun z => hlt z.2.2.2)) _ s6⟩
        rw [decide_eq_true hlt]
        have hfo : (if a ∈ names ∧ b ∈ names ∧ r ∈ wordsR ∧ ltS a b then some (a, b, restOf r) else none) = some ((a, b, restOf r) : Fc) := if_pos ⟨ha, hb, hrw, hlt⟩
        refine iteF ⟨_, rfl, wl, _, _, .str a, rfl, rfl, hq6, i0, _, rfl, wl, _, _, .str b, rfl, rfl, hq6, i1, by show 2 ≤ sizeLine; decide, fun u hu1 => ?_⟩
        have su := same_new (o := .tup [.str a, .str b]) hu1
        refine ⟨_, rfl, u, tl, [a, b], [last.1, last.2], rfl, rfl, .inl (.inl upd_same), .inl (.inl (su _ _ htl6)), lexLeS [a, b] [last.1, last.2], rfl, ?_⟩
        cases hle2 : lexLeS [a, b] [last.1, last.2] with
        | true => exact iteT ⟨_, rfl, _, _, rfl, rfl, ke _ (hbb _ hfo hle2) _ (s6.trans su)⟩
        | false =>
        refine iteF ⟨_, rfl, wl, _, _, .str a, rfl, rfl, SqL.of (su _ _ hwl6), i0, _, rfl, wl, _, _, .str b, rfl, rfl, SqL.of (su _ _ hwl6), i1, by show 2 ≤ sizeLine; decide, fun u2 hu2 => ?_⟩
        have su2 := su.trans (same_new (o := .tup [.str a, .str b]) hu2)
        have hu22 : (upd (upd H6 u (.tup [.str a, .str b])) u2 (.tup [.str a, .str b])) u2 = some (.tup [.str a, .str b]) := upd_same
        have s7 := s6.trans su2
        have hll7 := su2 _ _ hll6
        have hnl7 := su2 _ _ hnl6
        have hd7 := su2 _ _ hd6
        have hwl7 := su2 _ _ hwl6
        generalize upd (upd H6 u (.tup [.str a, .str b])) u2 (.tup [.str a, .str b]) = H7 at su2 hu22 s7 hll7 hnl7 hd7 hwl7 ⊢
        have hit : intText? r = some (restOf r) ∧ r.length ≤ 640 := by
          have hm : r = "2" ∨ r = "3" ∨ r = "4" ∨ r = "6" := by
            unfold wordsR at hrw
            simpa using hrw
          rcases hm with rfl | rfl | rfl | rfl <;> exact ⟨by decide +kernel, by decide⟩
        have hlp : prLt last (a, b) = true := by
          rw [lexLe_pr] at hle2
          simpa using hle2
        refine ⟨_, rfl, wl, _, _, .str r, rfl, rfl, SqL.of hwl7, i2, r, restOf r, rfl, hit.1, hit.2, _, rfl, _, rfl, d, _, rfl, DPut.t (k := [.inr a, .inr b]) hd7 hu22 (by unfold kvF; rw [List.length_map]; exact Nat.lt_of_le_of_lt (show fs.length ≤ 100001 by omega) (by decide)), ?_⟩
        have ek : putK (kvF fs) [.inr a, .inr b] (.int (restOf r)) = kvF (fs ++ [(a, b, restOf r)]) := by
          rw [putK_new _ (kvF_none (hasc.new (f := (a, b, restOf r)) hlp))]
          unfold kvF; rw [List.map_append]; rfl
        rw [ek]
        have nd : ∀ {v : Addr} {o o' : HO}, H7 v = some o → o ≠ .dT (kvF fs) → (upd H7 d o') v = some o := fun {v o o'} h1 h2 => by
          rw [upd_ne (ne_of h1 hd7 h2)]; exact h1
        exact ⟨nl, u2, _, _, _, _, _, names, (a, b), fs ++ [(a, b, restOf r)], rfl, same_upd s7 hdH, nd hll7 (by intro z; cases z), nd hnl7 (by intro z; cases z), upd_same, nd hu22 (by intro z; cases z), by rw [List.length_append, List.length_singleton]; omega, .inr ⟨by omega, hbo _ hfo hle2, hnm, hasc.snoc (f := (a, b, restOf r)) hlp⟩⟩
    · rintro σ H3 ⟨nl, tl, v4, v5, v6, v7, v8, names, last, fs, rfl, s3, hll3, hnl3, hd3, htl3, hfl, hph⟩
      rw [List.length_map] at hph
      rw [List.drop_length] at hph
      have hok : ∀ y ∈ names, PyData.strOk y = true := by
        rcases hph with ⟨_, rfl, _, _⟩ | ⟨_, _, h, _⟩
        · intro y hy; cases hy
        · exact fun y hy => (h.2 y hy).ok
      refine ⟨_, rfl, by show 0 ≤ sizeLine; decide, fun z hz => ⟨_, _, .lst (SqL.of (same_new hz _ _ hnl3)) dp_strs, .lst (SqL.of upd_same) (dp_strs (l := [])), shaped_lst hok, shaped_lst (by simp), !decide (names = []), by rw [eqv_lst], ?_⟩⟩
      have sz := same_new (o := .lst []) hz
      rcases hph with ⟨hl0, rfl, _, _⟩ | ⟨h1, hrun, hnm, _⟩
      · have : lines = [] := List.length_eq_zero_iff.mp hl0
        subst this
        exact iteF (ke 1 rfl _ (s3.trans sz))
      · have hne : names ≠ [] := fun e => by rw [e] at hnm; exact absurd hnm.1 (by decide)
        rw [decide_eq_false hne]
        refine iteT ⟨_, rfl, _, rfl, by show 2 ≤ sizeLine; decide, fun u hu1 => ?_⟩
        have su := sz.trans (same_new (o := .tup [.ref nl, .ref d]) hu1)
        exact ko names fs (by rw [hrun]; show Except.ok (names, fs ++ []) = _; rw [List.append_nil]) _ u nl d (s3.trans su) upd_same (su _ _ hnl3) (su _ _ hd3)
end
end T85
end

section
set_option Elab.async false
set_option linter.all false
set_option maxRecDepth 100000
set_option maxHeartbeats 4000000
namespace T85
open PySem PySem.Spec L2 Fx
/-! ### signs and lengths -/
theorem lawL_flat : ∀ (l acc : List Nat), (lawL acc l).flatten = acc ++ l
  | [], acc => by
    rw [lawL]
    split
    · rename_i h; rw [h]; rfl
    · simp
  | c :: r, acc => by
    rw [lawL]
    split
    · rename_i h
      rw [List.flatten_cons, lawL_flat r [], h]; simp
    · rw [lawL_flat r (acc ++ [c])]; simp
theorem OkS.mk {l : List Nat} (h : ∀ c ∈ l, c < 0x110000) : OkS (mk l) := h
theorem OkS.app {a b : Str} (ha : OkS a) (hb : OkS b) : OkS (a ++ b) := fun c hc => by
  rw [app_list] at hc
  exact (List.mem_append.mp hc).elim (ha c) (hb c)
theorem OkS.cut {a : Str} (ha : OkS a) (lo hi : Option Int) : OkS (cutS a lo hi) := fun c hc => ha c (List.mem_of_mem_drop (List.mem_of_mem_take hc))
theorem OkS.join {y : Str} (hy : OkS y) : ∀ {l : List Str}, (∀ x ∈ l, OkS x) → OkS (Str.join y l)
  | [], _ => fun c hc => by cases hc
  | [x], h => h x (List.mem_cons_self ..)
  | x :: z :: r, h => by
    show OkS (x ++ y ++ Str.join y (z :: r))
    exact ((h x (List.mem_cons_self ..)).app hy).app (OkS.join hy fun w hw => h w (List.mem_cons_of_mem _ hw))
theorem NameOk.oks {x : Str} (h : NameOk x) : OkS x := fun c hc => letters_ok _ (h.2.2 c hc)
/-- lines with such signs, at most n in all -/
structure LnOk (n c : Nat) (ls : List Str) : Prop where
  ok : ∀ y ∈ ls, OkS y
  sum : (ls.map (·.length)).sum ≤ n
  many : ls.length ≤ c
theorem sum_sub {a b : List Str} (h : a.Sublist b) : (a.map (·.length)).sum ≤ (b.map (·.length)).sum := by
  induction h with
  | slnil => exact Nat.le_refl _
  | cons x _ ih => rw [List.map_cons, List.sum_cons]; omega
  | cons_cons x _ ih => rw [List.map_cons, List.map_cons, List.sum_cons, List.sum_cons]; omega
theorem LnOk.sub {n c : Nat} {a b : List Str} (h : LnOk n c b) (s : a.Sublist b) : LnOk n c a := ⟨fun y hy => h.ok y (s.mem hy), Nat.le_trans (sum_sub s) h.sum, Nat.le_trans s.length_le h.many⟩
theorem LnOk.app {n m c d : Nat} {a b : List Str} (h : LnOk n c a) (g : LnOk m d b) : LnOk (n + m) (c + d) (a ++ b) :=
  ⟨fun y hy => (List.mem_append.mp hy).elim (h.ok y) (g.ok y), by rw [List.map_append, List.sum_append]; exact Nat.add_le_add h.sum g.sum, by rw [List.length_append]; exact Nat.add_le_add h.many g.many⟩
theorem LnOk.le {n m c d : Nat} {a : List Str} (h : LnOk n c a) (hn : n ≤ m) (hc : c ≤ d) : LnOk m d a := ⟨h.ok, Nat.le_trans h.sum hn, Nat.le_trans h.many hc⟩
theorem sum_flat : ∀ l : List (List Nat), ((l.map mk).map (·.length)).sum = l.flatten.length
  | [] => rfl
  | x :: r => by
    rw [List.map_cons, List.map_cons, List.sum_cons, sum_flat r, List.flatten_cons, List.length_append]; rfl
theorem lines_ok {x : Str} (h : OkS x) : LnOk x.length (x.length + 1) (linesS x) := by
  have hf := lawL_flat x.cps.toList []
  refine ⟨fun y hy => ?_, ?_, linesS_many x⟩
  · obtain ⟨l, hl, rfl⟩ := List.mem_map.mp hy
    intro c hc
    have : c ∈ (lawL [] x.cps.toList).flatten := List.mem_flatten.mpr ⟨l, hl, hc⟩
    rw [hf] at this
    exact h c this
  · unfold linesS
    rw [sum_flat, hf, List.nil_append, Array.length_toList]; exact Nat.le_refl _
theorem cut_ex (ls : List Str) (lo hi : Option Int) : ∃ ls' : List Str, cutV (ls.map V.str) lo hi = ls'.map V.str ∧ ls'.Sublist ls := by
  unfold cutV
  refine ⟨(ls.drop (HT.sIx (ls.map V.str).length 0 lo)).take (HT.sIx (ls.map V.str).length (ls.map V.str).length hi - HT.sIx (ls.map V.str).length 0 lo), ?_, (List.take_sublist _ _).trans (List.drop_sublist _ _)⟩
  rw [List.map_take, List.map_drop]
theorem eqI (i j : Int) : decide (V.int i = V.int j) = decide (i = j) := decide_eq_decide.mpr ⟨V.int.inj, congrArg V.int⟩
theorem LnOk.join {n c : Nat} {ls : List Str} (h : LnOk n c ls) : OkS (Txt.join (Str.ofString "") ls) ∧ (Txt.join (Str.ofString "") ls).length ≤ n := by
  rw [TL.join_eq]
  refine ⟨OkS.join (fun c hc => by cases hc) h.ok, ?_⟩
  have := StrLaws.join_length_le (Str.ofString "") ls
  have e0 : (Str.ofString "").length = 0 := rfl
  rw [e0] at this
  have := h.sum
  omega
section
variable {P : Program} {w : World} {K : PySem.W.Frag} {mg : Str → Option Value} {base : Heap}
theorem hide_l {H : Hp} {q p : Addr} {xs : List V} (h : H q = some (.lst xs)) (n : q ≠ p) : SqL K (hide [p] H) q xs := SqL.of (by unfold hide; simp only [List.mem_singleton, n, if_false]; exact h)
def spBent (K : PySem.W.Frag) : Sp := fun vs H Q _ => ∃ (p nl : Addr) (x : Str) (names : List Str), vs = [.ref p, .str x, .ref nl] ∧ PotOk H p ∧ H nl = some (.lst (names.map V.str)) ∧ nl ≠ p ∧ 1 ≤ names.length ∧ names.length ≤ 6 ∧ (∀ y ∈ names, NameOk y) ∧ OkS x ∧ x.length ≤ 20000 ∧
  ∀ H' z, SameX [p] H H' → PotOk H' p → OkS z → z.length ≤ 4 * x.length + 40 → Q (.str z) H'
theorem ok__law_bent (T : Says w K mg) : Ok P w K mg base 3 ("_law_bent", none) ["_law_pot_here", "_law_text", "_law_names_here"] (spBent K) := by
  have G__law_draw := FnOk.mono (k := 2) (ok__law_draw (P := P) (w := w) (base := base) T) (by decide)
  have G__law_lines := FnOk.mono (k := 2) (ok__law_lines (P := P) (w := w) (base := base) T) (by decide)
  have G__law_pick := FnOk.mono (k := 2) (ok__law_pick (P := P) (w := w) (base := base) T) (by decide)
  refine FunD.ok (d__law_bent T) sc__law_bent (fun vs H Q E h => ?len) (fun cdv A outer s H vs Q E hr h => ?bod)
  case len =>
    obtain ⟨p, nl, x, names, rfl, _⟩ := h; rfl
  case bod =>
    obtain ⟨p, nl, x, names, rfl, hp, hnl, hnp, hn1, hn6, hnok, hok, hx, k⟩ := h
    refine ⟨_, PSs.nox (pss_cons (ps_par (i := 3) (j := 4) rfl sc__law_bent.nd rfl rfl (by decide) rfl rfl (pa_cons (pe_call G__law_draw hr (by rfl) (T.glo_ 43) (d__law_draw T).kp (b__law_draw T) .nil pass0 (pa_cons (pv 0) (pa_cons (pe_op op_add (pe_callB call_len_str (by rfl) (T.free_ 6) (by decide +kernel) (pa_cons (pv 1) pa_nil)) pe_int) pa_nil))) (pa_cons (pe_call G__law_draw hr (by rfl) (T.glo_ 43) (d__law_draw T).kp (b__law_draw T) .nil pass0 (pa_cons (pv 0) (pa_cons pe_int pa_nil))) pa_nil)) (by rfl))
      (pss_cons (ps_set (i := 5) sc__law_bent.nd rfl (Or.inl rfl) (pe_call G__law_lines hr (by rfl) (T.glo_ 48) (d__law_lines T).kp (b__law_lines T) .nil pass0 (pa_cons (pv 1) pa_nil)))
      (pss_cons (ps_if (pt_cmpR op_lt (pv 4) pe_int (nomark _)) (pss_cons (ps_set (i := 6) sc__law_bent.nd rfl (Or.inl rfl) (pe_call G__law_pick hr (by rfl) (T.glo_ 45) (d__law_pick T).kp (b__law_pick T) .nil pass0 (pa_cons (pv 0) (pa_cons (pe_lst (pa_cons pe_str (pa_cons pe_str (pa_cons pe_str (pa_cons pe_str (pa_cons pe_str (pa_cons pe_str (pa_cons pe_str (pa_cons pe_str (pa_cons pe_str (pa_cons pe_str pa_nil))))))))))) pa_nil))))
      (pss_one (ps_ret (pe_op op_add_str (pe_op op_add_str (pe_slice sl_str (pv 1) po_none (po_some (pv 3))) (pv 6)) (pe_slice sl_str (pv 1) (po_some (pe_op op_add (pv 3) (pe_callTy call_int1 (by rfl) (T.free_ 1) (by decide +kernel) (pa_cons (pe_cmpR op_gt (pv 4) pe_int (nomark _)) pa_nil)))) po_none))))) pss_nil)
      (pss_cons (ps_if (pt_cmpR (k_eqD (K := K) (by rfl) hr.units) (pv 5) (pe_lst pa_nil) (nomark _)) (pss_one (ps_ret (pv 1))) pss_nil)
      (pss_cons (ps_set (i := 7) sc__law_bent.nd rfl (Or.inl rfl) (pe_call G__law_draw hr (by rfl) (T.glo_ 43) (d__law_draw T).kp (b__law_draw T) .nil pass0 (pa_cons (pv 0) (pa_cons (pe_callB (k_len (K := K) (by rfl)) (by rfl) (T.free_ 6) (by decide +kernel) (pa_cons (pv 5) pa_nil)) pa_nil))))
      (pss_cons (ps_if (pt_cmpR op_eq (pv 4) pe_int (nomark _)) (pss_one (ps_set (i := 5) sc__law_bent.nd rfl (Or.inl rfl) (pe_op op_cat (pe_slice (k_slL (K := K) (by rfl)) (pv 5) po_none (po_some (pv 7))) (pe_slice (k_slL (K := K) (by rfl)) (pv 5) (po_some (pe_op op_add (pv 7) pe_int)) po_none)))) pss_nil)
      (pss_cons (ps_if (pt_cmpR op_eq (pv 4) pe_int (nomark _)) (pss_one (ps_set (i := 5) sc__law_bent.nd rfl (Or.inl rfl) (pe_op op_cat (pe_slice (k_slL (K := K) (by rfl)) (pv 5) po_none (po_some (pe_op op_add (pv 7) pe_int))) (pe_slice (k_slL (K := K) (by rfl)) (pv 5) (po_some (pv 7)) po_none)))) pss_nil)
      (pss_cons (ps_if (pt_cmpR op_eq (pv 4) pe_int (nomark _)) (pss_cons (ps_par (i := 8) (j := 9) rfl sc__law_bent.nd rfl rfl (by decide) rfl rfl (pa_cons (pe_slice (k_slL (K := K) (by rfl)) (pv 5) po_none (po_some (pv 7))) (pa_cons (pe_slice (k_slL (K := K) (by rfl)) (pv 5) (po_some (pe_op op_add (pv 7) pe_int)) po_none) pa_nil)) (by rfl))
      (pss_cons (ps_set (i := 8) sc__law_bent.nd rfl (Or.inl rfl) (pe_op op_cat (pv 8) (pe_slice (k_slL (K := K) (by rfl)) (pv 5) (po_some (pe_op op_add (pv 7) pe_int)) (po_some (pe_op op_add (pv 7) pe_int)))))
      (pss_one (ps_set (i := 5) sc__law_bent.nd rfl (Or.inl rfl) (pe_op op_cat (pe_op op_cat (pv 8) (pe_slice (k_slL (K := K) (by rfl)) (pv 5) (po_some (pv 7)) (po_some (pe_op op_add (pv 7) pe_int)))) (pv 9)))))) pss_nil)
      (pss_cons (ps_if (pt_cmpR op_eq (pv 4) pe_int (nomark _)) (pss_cons (ps_set (i := 10) sc__law_bent.nd rfl (Or.inl rfl) (pe_lst (pa_cons (pe_call G__law_pick hr (by rfl) (T.glo_ 45) (d__law_pick T).kp (b__law_pick T) .nil pass0 (pa_cons (pv 0) (pa_cons (pv 2) pa_nil))) (pa_cons (pe_call G__law_pick hr (by rfl) (T.glo_ 45) (d__law_pick T).kp (b__law_pick T) .nil pass0 (pa_cons (pv 0) (pa_cons (pe_op op_cat (pv 2) (pe_lst (pa_cons pe_str pa_nil))) pa_nil))) pa_nil))))
      (pss_cons (ps_set (i := 11) sc__law_bent.nd rfl (Or.inl rfl) (pe_lst (pa_cons (pe_op op_add_str (pe_bm PySem.F.plainAttrs_str PySem.F.slot_str_join PySem.F.type_str_join (k_join (K := K) (by rfl)) pe_str (pa_cons (pv 10) pa_nil)) pe_str) (pa_cons (pe_op op_add_str (pe_bm PySem.F.plainAttrs_str PySem.F.slot_str_join PySem.F.type_str_join (k_join (K := K) (by rfl)) pe_str (pa_cons (pv 10) pa_nil)) pe_str) (pa_cons (pe_op op_add_str (pe_bm PySem.F.plainAttrs_str PySem.F.slot_str_join PySem.F.type_str_join (k_join (K := K) (by rfl)) pe_str (pa_cons (pv 10) pa_nil)) pe_str) (pa_cons pe_str (pa_cons pe_str (pa_cons pe_str pa_nil))))))))
      (pss_one (ps_set (i := 5) sc__law_bent.nd rfl (Or.inl rfl) (pe_op op_cat (pe_op op_cat (pe_slice (k_slL (K := K) (by rfl)) (pv 5) po_none (po_some (pv 7))) (pe_lst (pa_cons (pe_call G__law_pick hr (by rfl) (T.glo_ 45) (d__law_pick T).kp (b__law_pick T) .nil pass0 (pa_cons (pv 0) (pa_cons (pv 11) pa_nil))) pa_nil))) (pe_slice (k_slL (K := K) (by rfl)) (pv 5) (po_some (pv 7)) po_none)))))) pss_nil)
      (pss_cons (ps_set (i := 12) sc__law_bent.nd rfl (Or.inl rfl) (pe_bm PySem.F.plainAttrs_str PySem.F.slot_str_join PySem.F.type_str_join (k_join (K := K) (by rfl)) pe_str (pa_cons (pv 5) pa_nil)))
      (pss_one (ps_ret (pe_ifExp (pt_cmpR op_eq (pv 4) pe_int (nomark _)) (pe_slice sl_str (pv 12) po_none (po_some (pe_un un_neg pe_int))) (pv 12)))))))))))))), ?_⟩
    have hxz : x.length ≤ sizeLine := Nat.le_trans hx (by decide)
    refine ⟨_, rfl, _, rfl, x, rfl, hxz, _, _, rfl, rfl, p, _, rfl, hp, by show (1 : Int) ≤ (x.length : Nat) + 1; omega, by show ((x.length : Nat) : Int) + 1 ≤ 100000; omega, fun H1 d1 s1 hp1 a0 a1 => ⟨_, rfl, p, 8, rfl, hp1, by decide, by decide, fun H2 d2 s2 hp2 b0 b8 => ⟨_, _, rfl, ?_⟩⟩⟩
    have hnl2 := keep_x (s1.trans s2) hnp hnl
    refine ⟨_, rfl, x, rfl, by omega, fun H3 l s3 hl hL => ?_⟩
    have hp3 := hp2.mono s3
    have hnl3 := s3 _ _ hnl2
    have h03 := (s1.trans s2).trans (same_toX s3 _)
    have hlp : l ≠ p := (hp2.ne hl).symm
    have hlk := lines_ok hok
    refine ⟨_, rfl, _, _, rfl, rfl, decide (d2 < 3), rfl, ?_⟩
    by_cases hw3 : d2 < 3
    · rw [decide_eq_true hw3]
      refine iteT ⟨_, rfl, by show 10 ≤ sizeLine; decide, fun q hq => ?_⟩
      have sq := same_new (o := .lst [.str (Str.ofString ""), .str (Str.ofString " "), .str (Str.ofString "a"), .str (Str.ofString "\n"), .str (Str.ofString "3"), .str (Str.ofString "5"), .str (Str.ofString "-"), .str (Str.ofString "A"), .str (Str.ofString "  "), .str (Str.ofString "0")]) hq
      refine ⟨p, .ref q, rfl, hp3.mono sq, .inr ⟨q, [.str (Str.ofString ""), .str (Str.ofString " "), .str (Str.ofString "a"), .str (Str.ofString "\n"), .str (Str.ofString "3"), .str (Str.ofString "5"), .str (Str.ofString "-"), .str (Str.ofString "A"), .str (Str.ofString "  "), .str (Str.ofString "0")], rfl, SqL.of ?_, by decide, by decide, fun H4 v s4 hp4 hv => ?_⟩⟩
      · have qp : q ≠ p := (hp3.ne hq).symm
        unfold hide
        simp only [List.mem_singleton, qp, if_false]
        exact upd_same
      obtain ⟨z, rfl, hz1, hz2⟩ : ∃ z : Str, v = .str z ∧ OkS z ∧ z.length ≤ 2 := by
        simp only [List.mem_cons, List.not_mem_nil, or_false] at hv
        rcases hv with rfl | rfl | rfl | rfl | rfl | rfl | rfl | rfl | rfl | rfl
        all_goals exact ⟨_, rfl, by unfold OkS; decide, by decide⟩
      have l1 := cutS_length x none (some d1)
      have hcat : (cutS x none (some d1)).length + z.length ≤ sizeLine := Nat.le_trans (show _ ≤ 20002 by omega) (by decide)
      refine ⟨_, rfl, _, rfl, _, rfl, x, rfl, hxz, _, rfl, _, _, rfl, rfl, hcat, _, rfl, _, rfl, _, rfl, _, _, rfl, rfl, .inr ⟨_, rfl, _, _, rfl, rfl, _, rfl, x, rfl, hxz, _, _, rfl, rfl, ?_, ?_⟩⟩
      · have l2 := cutS_length x (some (d1 + if decide (0 < d2) = true then 1 else 0)) none
        rw [Str.length_append]
        exact Nat.le_trans (show _ ≤ 40002 by omega) (by decide)
      · refine k _ _ ((h03.trans (same_toX sq _)).trans s4) hp4 (((hok.cut _ _).app hz1).app (hok.cut _ _)) ?_
        have l2 := cutS_length x (some (d1 + if decide (0 < d2) = true then 1 else 0)) none
        rw [Str.length_append, Str.length_append]
        omega
    rw [decide_eq_false hw3]
    refine iteF ?_
    have hlo := hlk.ok
    refine ⟨_, rfl, by show 0 ≤ sizeLine; decide, fun z hz => ⟨_, _, .lst (SqL.of (same_new hz _ _ hL)) dp_strs, .lst (SqL.of upd_same) (dp_strs (l := [])), shaped_lst (fun y hy => (hlo y hy).ok), shaped_lst (by simp), decide (linesS x = []), by rw [eqv_lst], ?_⟩⟩
    have sz := same_new (o := .lst []) hz
    have hp4 := hp3.mono sz
    have hnl4 := sz _ _ hnl3
    have hL4 := sz _ _ hL
    have h04 := h03.trans (same_toX sz _)
    generalize upd H3 z (.lst []) = H4 at sz hp4 hnl4 hL4 h04 ⊢
    generalize linesS x = ls at hL4 hlk hlo ⊢
    by_cases hls : ls = []
    · rw [decide_eq_true hls]
      exact iteT ⟨_, rfl, k _ _ h04 hp4 hok (by omega)⟩
    rw [decide_eq_false hls]
    have hl1 : 1 ≤ ls.length := by
      cases ls with
      | nil => exact absurd rfl hls
      | cons _ _ => simp
    have hlm := hlk.many
    refine iteF ⟨_, rfl, _, rfl, l, _, rfl, .inl (SqL.of hL4), p, _, rfl, hp4, by rw [List.length_map]; omega, by rw [List.length_map]; omega, fun H5 d3 s5 hp5 c0 c1 => ?_⟩
    have hL5 := keep_x s5 hlp hL4
    have hnl5 := keep_x s5 hnp hnl4
    have h05 := h04.trans s5
    have hq5 := SqL.of (K := K) hL5
    have fN : ∀ {a b : Int}, a ≠ b → V.bl (decide (V.int a = V.int b)) = V.bl false := fun h => by rw [eqI, decide_eq_false h]
    have fY : ∀ {a : Int}, V.bl (decide (V.int a = V.int a)) = V.bl true := fun {a} => by rw [eqI, decide_eq_true rfl]
    have hw37 : d2 = 3 ∨ d2 = 4 ∨ d2 = 5 ∨ d2 = 6 ∨ d2 = 7 := by omega
    have hLen : ∀ {a b : List Str}, a.Sublist ls → b.Sublist ls → (a.map V.str).length + (b.map V.str).length ≤ sizeLine := fun ha hb => by
      have := ha.length_le
      have := hb.length_le
      rw [List.length_map, List.length_map]
      exact Nat.le_trans (show _ ≤ 50000 by omega) (by decide)
    rcases hw37 with rfl | rfl | rfl | rfl | rfl
    · -- way 3
      obtain ⟨A1, eA, sA⟩ := cut_ex ls none (some d3)
      obtain ⟨B1, eB, sB⟩ := cut_ex ls (some (d3 + 1)) none
      refine ⟨_, rfl, rfl, true, fY, iteT ⟨_, rfl, _, rfl, _, rfl, l, _, rfl, hq5, fun a ha => ?_⟩⟩
      rw [eA]
      have sa := same_new (o := .lst (A1.map V.str)) ha
      refine ⟨_, rfl, _, rfl, _, _, rfl, rfl, _, rfl, l, _, rfl, SqL.of (sa _ _ hL5), fun b hb => ?_⟩
      rw [eB]
      have sb := same_new (o := .lst (B1.map V.str)) hb
      refine ⟨a, b, _, _, rfl, rfl, sb _ _ upd_same, upd_same, hLen sA sB, fun l9 hc => ?_⟩
      have s9 := (sa.trans sb).trans (same_new (o := .lst (A1.map V.str ++ B1.map V.str)) hc)
      have hp9 := hp5.mono s9
      have h9 := h05.trans (same_toX s9 _)
      have hL9 : (upd (upd (upd H5 a (.lst (A1.map V.str))) b (.lst (B1.map V.str))) l9 (.lst (A1.map V.str ++ B1.map V.str))) l9 = some (.lst ((A1 ++ B1).map V.str)) := by rw [upd_same, List.map_append]
      generalize upd (upd (upd H5 a (.lst (A1.map V.str))) b (.lst (B1.map V.str))) l9 (.lst (A1.map V.str ++ B1.map V.str)) = H9 at s9 hp9 h9 hL9 ⊢
      have hk9 : LnOk (4 * x.length + 40) 100000 (A1 ++ B1) := ((hlk.sub sA).app (hlk.sub sB)).le (by omega) (by omega)
      generalize A1 ++ B1 = ls9 at hL9 hk9 ⊢
      refine ⟨_, rfl, rfl, false, fN (by decide), iteF ⟨_, rfl, rfl, false, fN (by decide), iteF ⟨_, rfl, rfl, false, fN (by decide), iteF ?_⟩⟩⟩
      have hj := hk9.join
      have hjz : (Txt.join (Str.ofString "") ls9).length ≤ sizeLine := Nat.le_trans hj.2 (Nat.le_trans (show 4 * x.length + 40 ≤ 80040 by omega) (by decide))
      refine ⟨rfl, _, rfl, _, l9, ls9, rfl, rfl, .inl (SqL.of hL9), ?_, ?_⟩
      · have e0 : (Str.ofString "").length = 0 := rfl
        have := hk9.sum
        rw [e0]; omega
      exact ⟨_, rfl, rfl, false, fN (by decide), iteF ⟨_, rfl, k _ _ h9 hp9 hj.1 hj.2⟩⟩
    · -- way 4
      obtain ⟨A1, eA, sA⟩ := cut_ex ls none (some (d3 + 1))
      obtain ⟨B1, eB, sB⟩ := cut_ex ls (some d3) none
      refine ⟨_, rfl, rfl, false, fN (by decide), iteF ⟨_, rfl, rfl, true, fY, iteT ⟨_, rfl, _, rfl, _, _, rfl, rfl, _, rfl, l, _, rfl, hq5, fun a ha => ?_⟩⟩⟩
      rw [eA]
      have sa := same_new (o := .lst (A1.map V.str)) ha
      refine ⟨_, rfl, _, rfl, _, rfl, l, _, rfl, SqL.of (sa _ _ hL5), fun b hb => ?_⟩
      rw [eB]
      have sb := same_new (o := .lst (B1.map V.str)) hb
      refine ⟨a, b, _, _, rfl, rfl, sb _ _ upd_same, upd_same, hLen sA sB, fun l9 hc => ?_⟩
      have s9 := (sa.trans sb).trans (same_new (o := .lst (A1.map V.str ++ B1.map V.str)) hc)
      have hp9 := hp5.mono s9
      have h9 := h05.trans (same_toX s9 _)
      have hL9 : (upd (upd (upd H5 a (.lst (A1.map V.str))) b (.lst (B1.map V.str))) l9 (.lst (A1.map V.str ++ B1.map V.str))) l9 = some (.lst ((A1 ++ B1).map V.str)) := by rw [upd_same, List.map_append]
      generalize upd (upd (upd H5 a (.lst (A1.map V.str))) b (.lst (B1.map V.str))) l9 (.lst (A1.map V.str ++ B1.map V.str)) = H9 at s9 hp9 h9 hL9 ⊢
      have hk9 : LnOk (4 * x.length + 40) 100000 (A1 ++ B1) := ((hlk.sub sA).app (hlk.sub sB)).le (by omega) (by omega)
      generalize A1 ++ B1 = ls9 at hL9 hk9 ⊢
      refine ⟨_, rfl, rfl, false, fN (by decide), iteF ⟨_, rfl, rfl, false, fN (by decide), iteF ?_⟩⟩
      have hj := hk9.join
      have hjz : (Txt.join (Str.ofString "") ls9).length ≤ sizeLine := Nat.le_trans hj.2 (Nat.le_trans (show 4 * x.length + 40 ≤ 80040 by omega) (by decide))
      refine ⟨rfl, _, rfl, _, l9, ls9, rfl, rfl, .inl (SqL.of hL9), ?_, ?_⟩
      · have e0 : (Str.ofString "").length = 0 := rfl
        have := hk9.sum
        rw [e0]; omega
      exact ⟨_, rfl, rfl, false, fN (by decide), iteF ⟨_, rfl, k _ _ h9 hp9 hj.1 hj.2⟩⟩
    · -- way 5
      obtain ⟨A1, eA, sA⟩ := cut_ex ls none (some d3)
      obtain ⟨B1, eB, sB⟩ := cut_ex ls (some (d3 + 2)) none
      obtain ⟨C1, eC, sC⟩ := cut_ex ls (some (d3 + 1)) (some (d3 + 2))
      obtain ⟨D1, eD, sD⟩ := cut_ex ls (some d3) (some (d3 + 1))
      refine ⟨_, rfl, rfl, false, fN (by decide), iteF ⟨_, rfl, rfl, false, fN (by decide), iteF ⟨_, rfl, rfl, true, fY, iteT ⟨_, rfl, _, rfl, _, rfl, l, _, rfl, hq5, fun a ha => ?_⟩⟩⟩⟩
      rw [eA]
      have sa := same_new (o := .lst (A1.map V.str)) ha
      refine ⟨_, rfl, _, rfl, _, _, rfl, rfl, _, rfl, l, _, rfl, SqL.of (sa _ _ hL5), fun b hb => ?_⟩
      rw [eB]
      have sb := same_new (o := .lst (B1.map V.str)) hb
      refine ⟨_, _, rfl, ?_⟩
      have s6 := sa.trans sb
      have ha6 : (upd (upd H5 a (.lst (A1.map V.str))) b (.lst (B1.map V.str))) a = some (.lst (A1.map V.str)) := sb _ _ upd_same
      have hb6 : (upd (upd H5 a (.lst (A1.map V.str))) b (.lst (B1.map V.str))) b = some (.lst (B1.map V.str)) := upd_same
      generalize upd (upd H5 a (.lst (A1.map V.str))) b (.lst (B1.map V.str)) = H6 at s6 ha6 hb6 ⊢
      refine ⟨_, rfl, _, rfl, _, rfl, _, _, rfl, rfl, _, rfl, _, rfl, _, _, rfl, rfl, _, rfl, l, _, rfl, SqL.of (s6 _ _ hL5), fun c hc => ?_⟩
      rw [eC]
      have sc := same_new (o := .lst (C1.map V.str)) hc
      refine ⟨a, c, _, _, rfl, rfl, sc _ _ ha6, upd_same, hLen sA sC, fun e he => ?_⟩
      have s7 := sc.trans (same_new (o := .lst (A1.map V.str ++ C1.map V.str)) he)
      have he7 : (upd (upd H6 c (.lst (C1.map V.str))) e (.lst (A1.map V.str ++ C1.map V.str))) e = some (.lst (A1.map V.str ++ C1.map V.str)) := upd_same
      have hb7 := s7 _ _ hb6
      have s57 := s6.trans s7
      generalize upd (upd H6 c (.lst (C1.map V.str))) e (.lst (A1.map V.str ++ C1.map V.str)) = H7 at s7 he7 hb7 s57 ⊢
      refine ⟨_, rfl, _, rfl, _, rfl, _, rfl, _, rfl, _, _, rfl, rfl, _, rfl, l, _, rfl, SqL.of (s57 _ _ hL5), fun f hf => ?_⟩
      rw [eD]
      have sf := same_new (o := .lst (D1.map V.str)) hf
      have lA := sA.length_le
      have lB := sB.length_le
      have lC := sC.length_le
      have lD := sD.length_le
      refine ⟨e, f, _, _, rfl, rfl, sf _ _ he7, upd_same, by rw [List.length_append, List.length_map, List.length_map, List.length_map]; exact Nat.le_trans (show _ ≤ 100000 by omega) (by decide), fun g hg => ?_⟩
      have sg := sf.trans (same_new (o := .lst (A1.map V.str ++ C1.map V.str ++ D1.map V.str)) hg)
      refine ⟨_, rfl, g, b, _, _, rfl, rfl, upd_same, sg _ _ hb7, by rw [List.length_append, List.length_append, List.length_map, List.length_map, List.length_map, List.length_map]; exact Nat.le_trans (show _ ≤ 100000 by omega) (by decide), fun l9 hh => ?_⟩
      have s9 := (s57.trans sg).trans (same_new (o := .lst (A1.map V.str ++ C1.map V.str ++ D1.map V.str ++ B1.map V.str)) hh)
      have hp9 := hp5.mono s9
      have h9 := h05.trans (same_toX s9 _)
      have hL9 : (upd (upd (upd H7 f (.lst (D1.map V.str))) g (.lst (A1.map V.str ++ C1.map V.str ++ D1.map V.str))) l9 (.lst (A1.map V.str ++ C1.map V.str ++ D1.map V.str ++ B1.map V.str))) l9 = some (.lst ((A1 ++ C1 ++ D1 ++ B1).map V.str)) := by rw [upd_same, List.map_append, List.map_append, List.map_append]
      generalize upd (upd (upd H7 f (.lst (D1.map V.str))) g (.lst (A1.map V.str ++ C1.map V.str ++ D1.map V.str))) l9 (.lst (A1.map V.str ++ C1.map V.str ++ D1.map V.str ++ B1.map V.str)) = H9 at s9 hp9 h9 hL9 ⊢
      have hk9 : LnOk (4 * x.length + 40) 100000 (A1 ++ C1 ++ D1 ++ B1) := ((((hlk.sub sA).app (hlk.sub sC)).app (hlk.sub sD)).app (hlk.sub sB)).le (by omega) (by omega)
      generalize A1 ++ C1 ++ D1 ++ B1 = ls9 at hL9 hk9 ⊢
      refine ⟨_, rfl, rfl, false, fN (by decide), iteF ?_⟩
      have hj := hk9.join
      have hjz : (Txt.join (Str.ofString "") ls9).length ≤ sizeLine := Nat.le_trans hj.2 (Nat.le_trans (show 4 * x.length + 40 ≤ 80040 by omega) (by decide))
      refine ⟨rfl, _, rfl, _, l9, ls9, rfl, rfl, .inl (SqL.of hL9), ?_, ?_⟩
      · have e0 : (Str.ofString "").length = 0 := rfl
        have := hk9.sum
        rw [e0]; omega
      exact ⟨_, rfl, rfl, false, fN (by decide), iteF ⟨_, rfl, k _ _ h9 hp9 hj.1 hj.2⟩⟩
    · -- way 6
      refine ⟨_, rfl, rfl, false, fN (by decide), iteF ⟨_, rfl, rfl, false, fN (by decide), iteF ⟨_, rfl, rfl, false, fN (by decide), iteF ⟨_, rfl, rfl, true, fY, iteT ?_⟩⟩⟩⟩
      refine ⟨_, rfl, _, rfl, p, .ref nl, rfl, hp5, .inr ⟨nl, _, rfl, hide_l hnl5 hnp, by rw [List.length_map]; exact hn1, by rw [List.length_map]; omega, fun H6 v s6 hp6 hv => ?_⟩⟩
      obtain ⟨z1, hz1, rfl⟩ := List.mem_map.mp hv
      have hnl6 := keep_x s6 hnp hnl5
      have hL6 := keep_x s6 hlp hL5
      have h06 := h05.trans s6
      refine ⟨_, rfl, _, rfl, by show 1 ≤ sizeLine; decide, fun n1 hn1' => ?_⟩
      have sn := same_new (o := .lst [.str (Str.ofString "none")]) hn1'
      refine ⟨nl, n1, _, _, rfl, rfl, sn _ _ hnl6, upd_same, by rw [List.length_map]; exact Nat.le_trans (show names.length + 1 ≤ 7 by omega) (by decide), fun n2 hn2 => ?_⟩
      have s7 := sn.trans (same_new (o := .lst (names.map V.str ++ [.str (Str.ofString "none")])) hn2)
      have hp7 := hp6.mono s7
      have hn27 : (upd (upd H6 n1 (.lst [.str (Str.ofString "none")])) n2 (.lst (names.map V.str ++ [.str (Str.ofString "none")]))) n2 = some (.lst (names.map V.str ++ [.str (Str.ofString "none")])) := upd_same
      have hL7 := s7 _ _ hL6
      have h07 := h06.trans (same_toX s7 _)
      have hn2p : n2 ≠ p := ((hp6.mono sn).ne hn2).symm
      generalize upd (upd H6 n1 (.lst [.str (Str.ofString "none")])) n2 (.lst (names.map V.str ++ [.str (Str.ofString "none")])) = H7 at s7 hp7 hn27 hL7 h07 ⊢
      refine ⟨p, .ref n2, rfl, hp7, .inr ⟨n2, _, rfl, hide_l hn27 hn2p, by rw [List.length_append]; exact Nat.le_add_left _ _, by rw [List.length_append, List.length_map]; show names.length + 1 ≤ 100; omega, fun H8 v2 s8 hp8 hv2 => ?_⟩⟩
      obtain ⟨z2, rfl, hz2, hz2l⟩ : ∃ z2 : Str, v2 = .str z2 ∧ OkS z2 ∧ z2.length ≤ 8 := by
        rcases List.mem_append.mp hv2 with h | h
        · obtain ⟨z2, hmem, rfl⟩ := List.mem_map.mp h
          exact ⟨z2, rfl, (hnok z2 hmem).oks, (hnok z2 hmem).2.1⟩
        · rw [List.mem_singleton.mp h]
          exact ⟨_, rfl, by unfold OkS; decide, by decide⟩
      have hz1o := (hnok z1 hz1).oks
      have hz1l : z1.length ≤ 8 := (hnok z1 hz1).2.1
      have hL8 := keep_x s8 hlp hL7
      have h08 := h07.trans s8
      refine ⟨by show 2 ≤ sizeLine; decide, fun two htwo => ?_⟩
      have st := same_new (o := .lst [.str z1, .str z2]) htwo
      have htw : (upd H8 two (.lst [.str z1, .str z2])) two = some (.lst ([z1, z2].map V.str)) := upd_same
      have hp9 := hp8.mono st
      have hL9' := st _ _ hL8
      have h09 := h08.trans (same_toX st _)
      generalize upd H8 two (.lst [.str z1, .str z2]) = H9 at st htw hp9 hL9' h09 ⊢
      have hjl : (Txt.join (Str.ofString " ") [z1, z2]).length ≤ 18 := by
        rw [TL.join_eq]
        have := StrLaws.join_length_le (Str.ofString " ") [z1, z2]
        have e1 : (Str.ofString " ").length = 1 := rfl
        simp only [List.map_cons, List.map_nil, List.sum_cons, List.sum_nil, List.length_cons, List.length_nil, e1] at this
        omega
      have hjo : OkS (Txt.join (Str.ofString " ") [z1, z2]) := by
        rw [TL.join_eq]
        refine OkS.join (by unfold OkS; decide) fun w hw => ?_
        rcases List.mem_cons.mp hw with rfl | hw
        · exact hz1o
        · rw [List.mem_singleton.mp hw]; exact hz2
      have hjs : ([z1, z2].map (·.length)).sum + [z1, z2].length * (Str.ofString " ").length ≤ 16777216 := by
        have e1 : (Str.ofString " ").length = 1 := rfl
        simp only [List.map_cons, List.map_nil, List.sum_cons, List.sum_nil, List.length_cons, List.length_nil, e1]
        omega
      refine ⟨rfl, _, rfl, _, two, [z1, z2], rfl, rfl, .inl (SqL.of htw), hjs, _, _, rfl, rfl, Nat.le_trans (Nat.add_le_add_right hjl _) (by decide), rfl, _, rfl, _, two, [z1, z2], rfl, rfl, .inl (SqL.of htw), hjs, _, _, rfl, rfl, Nat.le_trans (Nat.add_le_add_right hjl _) (by decide), rfl, _, rfl, _, two, [z1, z2], rfl, rfl, .inl (SqL.of htw), hjs, _, _, rfl, rfl, Nat.le_trans (Nat.add_le_add_right hjl _) (by decide), by show 6 ≤ sizeLine; decide, fun m hm => ?_⟩
      generalize Txt.join (Str.ofString " ") [z1, z2] = J at hjl hjo ⊢
      obtain ⟨mo, hmo⟩ : ∃ mo : List V, mo = [.str (J ++ Str.ofString " 3\n"), .str (J ++ Str.ofString " None\n"), .str (J ++ Str.ofString "\n"), .str (Str.ofString "\n"), .str (Str.ofString "fixers a\n"), .str (Str.ofString "fixers\n")] := ⟨_, rfl⟩
      have hmok : ∀ v ∈ mo, ∃ z : Str, v = .str z ∧ OkS z ∧ z.length ≤ 24 := by
        intro v hv
        rw [hmo] at hv
        simp only [List.mem_cons, List.not_mem_nil, or_false] at hv
        have e3 : (Str.ofString " 3\n").length = 3 := rfl
        have e6 : (Str.ofString " None\n").length = 6 := rfl
        have e1 : (Str.ofString "\n").length = 1 := rfl
        rcases hv with rfl | rfl | rfl | rfl | rfl | rfl
        · exact ⟨_, rfl, hjo.app (by unfold OkS; decide), by rw [Str.length_append, e3]; omega⟩
        · exact ⟨_, rfl, hjo.app (by unfold OkS; decide), by rw [Str.length_append, e6]; omega⟩
        · exact ⟨_, rfl, hjo.app (by unfold OkS; decide), by rw [Str.length_append, e1]; omega⟩
        · exact ⟨_, rfl, by unfold OkS; decide, by decide⟩
        · exact ⟨_, rfl, by unfold OkS; decide, by decide⟩
        · exact ⟨_, rfl, by unfold OkS; decide, by decide⟩
      have hml : mo.length = 6 := by rw [hmo]; rfl
      rw [← hmo]
      have sm := same_new (o := .lst mo) hm
      have hm10 : (upd H9 m (.lst mo)) m = some (.lst mo) := upd_same
      have hp10 := hp9.mono sm
      have hL10 := sm _ _ hL9'
      have h010 := h09.trans (same_toX sm _)
      have hmp : m ≠ p := (hp9.ne hm).symm
      generalize upd H9 m (.lst mo) = H10 at sm hm10 hp10 hL10 h010 ⊢
      obtain ⟨A1, eA, sA⟩ := cut_ex ls none (some d3)
      obtain ⟨B1, eB, sB⟩ := cut_ex ls (some d3) none
      refine ⟨_, rfl, _, rfl, _, rfl, l, _, rfl, SqL.of hL10, fun a ha => ?_⟩
      rw [eA]
      have sa := same_new (o := .lst (A1.map V.str)) ha
      have ha11 : (upd H10 a (.lst (A1.map V.str))) a = some (.lst (A1.map V.str)) := upd_same
      have hap : a ≠ p := (hp10.ne ha).symm
      have hp11 := hp10.mono sa
      have hL11 := sa _ _ hL10
      have hm11 := sa _ _ hm10
      have h011 := h010.trans (same_toX sa _)
      generalize upd H10 a (.lst (A1.map V.str)) = H11 at sa ha11 hp11 hL11 hm11 h011 ⊢
      refine ⟨_, rfl, _, rfl, p, .ref m, rfl, hp11, .inr ⟨m, mo, rfl, hide_l hm11 hmp, by omega, by omega, fun H12 v3 s12 hp12 hv3 => ?_⟩⟩
      obtain ⟨z3, rfl, hz3, hz3l⟩ := hmok v3 hv3
      have ha12 := keep_x s12 hap ha11
      have hL12 := keep_x s12 hlp hL11
      have h012 := h011.trans s12
      refine ⟨by show 1 ≤ sizeLine; decide, fun b hb => ?_⟩
      have sb := same_new (o := .lst [.str z3]) hb
      have lA := sA.length_le
      have lB := sB.length_le
      refine ⟨a, b, _, _, rfl, rfl, sb _ _ ha12, upd_same, by rw [List.length_map]; exact Nat.le_trans (show A1.length + 1 ≤ 50000 by omega) (by decide), fun c hc => ?_⟩
      have s13 := sb.trans (same_new (o := .lst (A1.map V.str ++ [.str z3])) hc)
      have hc13 : (upd (upd H12 b (.lst [.str z3])) c (.lst (A1.map V.str ++ [.str z3]))) c = some (.lst (A1.map V.str ++ [.str z3])) := upd_same
      generalize upd (upd H12 b (.lst [.str z3])) c (.lst (A1.map V.str ++ [.str z3])) = H13 at s13 hc13 ⊢
      refine ⟨_, rfl, _, rfl, _, rfl, l, _, rfl, SqL.of (s13 _ _ hL12), fun e he => ?_⟩
      rw [eB]
      have se := same_new (o := .lst (B1.map V.str)) he
      refine ⟨c, e, _, _, rfl, rfl, se _ _ hc13, upd_same, by rw [List.length_append, List.length_map, List.length_map]; exact Nat.le_trans (show A1.length + 1 + B1.length ≤ 50000 by omega) (by decide), fun l9 hh => ?_⟩
      have s9 := (s13.trans se).trans (same_new (o := .lst (A1.map V.str ++ [.str z3] ++ B1.map V.str)) hh)
      have hp9 := hp12.mono s9
      have h9 := h012.trans (same_toX s9 _)
      have hL9 : (upd (upd H13 e (.lst (B1.map V.str))) l9 (.lst (A1.map V.str ++ [.str z3] ++ B1.map V.str))) l9 = some (.lst ((A1 ++ [z3] ++ B1).map V.str)) := by rw [upd_same, List.map_append, List.map_append]; rfl
      clear hp10 hL9' st htw
      generalize upd (upd H13 e (.lst (B1.map V.str))) l9 (.lst (A1.map V.str ++ [.str z3] ++ B1.map V.str)) = H9' at s9 hp9 h9 hL9 ⊢
      have hk3 : LnOk 24 1 [z3] := ⟨fun y hy => by rw [List.mem_singleton.mp hy]; exact hz3, by simpa using hz3l, Nat.le_refl _⟩
      have hk9 : LnOk (4 * x.length + 40) 100000 (A1 ++ [z3] ++ B1) := (((hlk.sub sA).app hk3).app (hlk.sub sB)).le (by omega) (by omega)
      generalize A1 ++ [z3] ++ B1 = ls9 at hL9 hk9 ⊢
      have hj := hk9.join
      have hjz : (Txt.join (Str.ofString "") ls9).length ≤ sizeLine := Nat.le_trans hj.2 (Nat.le_trans (show 4 * x.length + 40 ≤ 80040 by omega) (by decide))
      refine ⟨rfl, _, rfl, _, l9, ls9, rfl, rfl, .inl (SqL.of hL9), ?_, ?_⟩
      · have e0 : (Str.ofString "").length = 0 := rfl
        have := hk9.sum
        rw [e0]; omega
      exact ⟨_, rfl, rfl, false, fN (by decide), iteF ⟨_, rfl, k _ _ h9 hp9 hj.1 hj.2⟩⟩
    · -- way 7
      have hp9 := hp5
      have h9 := h05
      have hL9 := hL5
      have hk9 : LnOk (4 * x.length + 40) 100000 ls := hlk.le (by omega) (by omega)
      generalize H5 = H9 at hp9 h9 hL9 ⊢
      generalize l = l9, ls = ls9 at hL9 hk9 ⊢
      refine ⟨_, rfl, rfl, false, fN (by decide), iteF ⟨_, rfl, rfl, false, fN (by decide), iteF ⟨_, rfl, rfl, false, fN (by decide), iteF ⟨_, rfl, rfl, false, fN (by decide), iteF ?_⟩⟩⟩⟩
      have hj := hk9.join
      have hjz : (Txt.join (Str.ofString "") ls9).length ≤ sizeLine := Nat.le_trans hj.2 (Nat.le_trans (show 4 * x.length + 40 ≤ 80040 by omega) (by decide))
      refine ⟨rfl, _, rfl, _, l9, ls9, rfl, rfl, .inl (SqL.of hL9), ?_, ?_⟩
      · have e0 : (Str.ofString "").length = 0 := rfl
        have := hk9.sum
        rw [e0]; omega
      refine ⟨_, rfl, rfl, true, fY, iteT ⟨_, rfl, _, rfl, _, rfl, _, rfl, hjz, k _ _ h9 hp9 (hj.1.cut _ _) ?_⟩⟩
      have := cutS_length (Txt.join (Str.ofString "") ls9) none (some (-1))
      exact Nat.le_trans this hj.2
end
end T85
end

section
set_option Elab.async false
set_option linter.all false
set_option maxRecDepth 100000
set_option maxHeartbeats 4000000
namespace T85
open PySem PySem.Spec L2 Fx LamX
section
variable {P : Program} {w : World} {K : PySem.W.Frag} {mg : Str → Option Value} {base : Heap}
theorem takes_len {X : Cx} {W : WX} (tk : Takes X W) : Takes X (fun cls d σ H => σ.length = X.N.length → W cls d σ H) := fun u s' ⟨a, B, sI, pins, σ, H, cls, d, e, I, nb, up, sky, na, os, ag, w⟩ =>
  tk u s' ⟨a, B, sI, pins, σ, H, cls, d, e, I, nb, up, sky, na, os, ag, w I.len⟩
/-! ### told: what the lambda gives, or ["wrong", line, True] -/
def TT91 (K : PySem.W.Frag) : (XK → Hp → VK → Prop) → Hp → VK → Prop := fun tl H Q =>
  tl (fun cls d H' => cls = .ref (He.ga K "InvalidText") ∧ ∃ (dd : Addr) (v : V), d = some dd ∧ H' dd = some (.xd [("line", v)]) ∧ ∀ l, H' l = none → Q (.ref l) (upd H' l (.lst [.str "wrong", v, .bl true]))) H Q
theorem told_gives {X : Cx} {cdg : Value} {q : Str} (T : Says w X.K X.mg) : GivesTo X N__law_told "_law_told" (defScope s__law_told) (He.fAd X.K told) cdg (defBody s__law_told) "_law_call" q (TT91 X.K) := by
  intro f c' s H Q tl act hc h
  refine ⟨_, pss_one (ps_try_as (i := 1) (n := "e") (x := "InvalidText") (c := .ref (He.ga X.K "InvalidText")) (Wout := fun _ _ _ _ => False) (ts := fun a cls d => tRet (tLst (tCons (tC (.str "wrong")) (tCons (tXf a cls d (He.ga X.K "InvalidText") "line" (tVar 1)) (tCons (tCB (fun xs H Q => cls = .ref (He.ga X.K "InvalidText") ∧ (∃ (dd : Addr) (fs : List (Str × V)), d = some dd ∧ H dd = some (.xd fs)) ∧ rIsE X.K (He.ga X.K "InvalidText") a xs H Q) (tCons (tVar 1) (tCons (tC (.ref (He.ga X.K "FixError"))) tNil))) tNil)))))
    (tb := fun W D σ H => ∃ Ech : XK, (∀ cls d σ' H', Ech cls d H' → σ'.length = 2 → W cls d σ' H') ∧ σ[0]? = some (some (.ref f)) ∧ H c' = some (CodeO c' q) ∧ tl Ech H D.rt)
    rfl rfl sc__law_told.nd rfl rfl ⟨rfl, rfl, .inl (T.glo_ 30)⟩ LamX.takes0
    (fun W pn xe tk _ => ?body) (fun a oe cls d pn hz hf => pss_one (ps_ret (pe_lst (pa_cons pe_str (pa_cons (pe_xf (xf_InvalidText T) (no_line T) hz hf (pv 1)) (pa_cons (pe_callB (call_isED (exc_InvalidText T) hz hf) (by rfl) (T.free_ 0) (by decide +kernel) (pa_cons (pv 1) (pa_cons (pe_glob (v := .ref (He.ga X.K "FixError")) (by rfl) (T.glo_ 68) rfl) pa_nil))) pa_nil))))))), ?_⟩
  case body =>
    refine ⟨fun pins s' σ H' D I h' => ?_⟩
    obtain ⟨Ech, hW, h1, h2, h3⟩ := h'
    exact (pss_one (ps_ret (act _ pn xe Ech _ _ (takes_len tk) hW))).run pins s' σ H' D I ⟨h1, h2, h3⟩
  · refine ⟨_, fun cls d σ' H' hh hsl => ?_, rfl, hc, h⟩
    obtain ⟨rfl, dd, v, rfl, hdd, k⟩ := hh
    refine ⟨true, exm_InvalidText T, fun _ a ha => ?_, fun z => by cases z⟩
    have hget : (σ'.set 1 (some (V.ref a)))[1]? = some (some (V.ref a)) := by rw [List.getElem?_set_self (by omega)]
    exact ⟨_, hget, rfl, rfl, dd, _, v, rfl, hdd, rfl, _, hget, rfl, ⟨dd, _, rfl, hdd⟩, _, _, true, rfl, fun u h => h, kit_FixError T, by show 3 ≤ sizeLine; decide, fun l hl => k l hl⟩
end
end T85
end

section
set_option Elab.async false
set_option linter.all false
set_option maxRecDepth 100000
set_option maxHeartbeats 4000000
/-! the program's reading and the law's are one -/
namespace T85
open PySem PySem.Spec L2 Fx
theorem sp1_free (s : Nat) : ∀ (l acc : List Nat), s ∉ acc → ∀ p ∈ sp1 s acc l, s ∉ p
  | [], acc, h, p, hp => by
    rw [sp1, List.mem_singleton] at hp
    subst hp; exact h
  | c :: r, acc, h, p, hp => by
    rw [sp1] at hp
    split at hp
    · rcases List.mem_cons.mp hp with hp | hp
      · subst hp; exact h
      · exact sp1_free s r [] (by simp) p hp
    · rename_i hc
      exact sp1_free s r _ (fun z => (List.mem_append.mp z).elim h fun z => hc (List.mem_singleton.mp z).symm) p hp
/-- x by its parts: all with a line feed but the last one -/
theorem parts_lines (x : Str) : ∃ (ps : List (List Nat)) (z : List Nat), partsS x = ps.map mk ++ [mk z] ∧ linesS x = (ps.map fun p => mk (p ++ [10])) ++ (if z = [] then [] else [mk z]) ∧ 10 ∉ z ∧ x.cps.toList = (ps.map (· ++ [10])).flatten ++ z := by
  obtain ⟨ps, z, h1, h2⟩ := lawL_sp1 x.cps.toList []
  refine ⟨ps, z, ?_, ?_, sp1_free 10 x.cps.toList [] (by simp) z (by rw [h1]; simp), ?_⟩
  · unfold partsS; rw [h1, List.map_append]; rfl
  · unfold linesS
    rw [h2, List.map_append, List.map_map]
    congr 1
    split <;> rfl
  · have := lawL_flat x.cps.toList []
    rw [h2, List.flatten_append, List.nil_append] at this
    rw [← this]
    congr 1
    split
    · rename_i e; rw [e]; rfl
    · simp
theorem ends_nl (p : List Nat) : endsNl (mk (p ++ [10])) = true := by
  unfold endsNl
  exact decide_eq_true (by rw [mk_list]; simp)
theorem ends_no {z : List Nat} (h : 10 ∉ z) : endsNl (mk z) = false := by
  unfold endsNl
  refine decide_eq_false fun e => h ?_
  rw [mk_list] at e
  exact List.mem_of_getLast? e
theorem chop_nl (p : List Nat) : chop (mk (p ++ [10])) = mk p := by
  unfold chop
  rw [mk_list, List.dropLast_concat]
theorem meant_facts {ns : List Str} {z : List Nat} (hz : 10 ∉ z) : ∀ (ps : List (List Nat)) (last : Str × Str) (lo : Option (Str × Str)) (n : Int), (∀ f : Fc, f.1 ∈ ns → blocks lo f = lexLeS [f.1, f.2.1] [last.1, last.2]) →
    meantFrom ns last n ((ps.map fun p => mk (p ++ [10])) ++ (if z = [] then [] else [mk z])) = (match factsFrom ns lo n (ps.map mk) with
      | .error k => .error k
      | .ok fs => if z = [] then .ok fs else .error (n + ps.length))
  | [], last, lo, n, _ => by
    rw [List.map_nil, List.map_nil, List.nil_append, factsFrom]
    by_cases e : z = []
    · rw [if_pos e, meantFrom]; dsimp only; rw [if_pos e]
    · rw [if_neg e, meantFrom, if_neg (by rw [ends_no hz]; exact Bool.false_ne_true)]
      dsimp only
      rw [if_neg e]
      show Except.error n = Except.error (n + 0)
      rw [Int.add_zero]
  | p :: ps, last, lo, n, hb => by
    rw [List.map_cons, List.cons_append, meantFrom, if_pos (ends_nl p), chop_nl, List.map_cons, factsFrom]
    cases hf : factOf ns (mk p) with
    | none => rfl
    | some f =>
      dsimp only
      rw [hb f (factOf_ok hf).1]
      by_cases hl : lexLeS [f.1, f.2.1] [last.1, last.2] = true
      · rw [if_pos hl, if_pos hl]
      · rw [if_neg hl, if_neg hl, meant_facts hz ps (f.1, f.2.1) (some (f.1, f.2.1)) (n + 1) (fun g _ => rfl)]
        cases factsFrom ns (some (f.1, f.2.1)) (n + 1) (ps.map mk) with
        | error k => rfl
        | ok fs =>
          dsimp only
          by_cases e : z = []
          · rw [if_pos e]; show _ = if z = [] then _ else _; rw [if_pos e]; rfl
          · rw [if_neg e]; show _ = if z = [] then _ else _; rw [if_neg e, List.length_cons]
            show Except.error _ = Except.error _
            congr 1
            omega
theorem read_parts {x : Str} {ps : List (List Nat)} {z : List Nat} (h : partsS x = ps.map mk ++ [mk z]) : readOf x = readL (ps.map mk) (mk z) := by
  unfold readOf
  congr 1
  · rw [h, List.dropLast_concat]
  · simp [h]
theorem mk_empty {z : List Nat} : mk z = Str.ofString "" ↔ z = [] := ⟨fun e => mk_inj (b := []) e, fun e => by rw [e]; rfl⟩
/-- P1 -/
theorem meant_read (x : Str) : meantL (linesS x) = readOf x := by
  obtain ⟨ps, z, h1, h2, hz, _⟩ := parts_lines x
  rw [read_parts h1, h2]
  cases ps with
  | nil =>
    rw [List.map_nil, List.map_nil, List.nil_append, readL]
    by_cases e : z = []
    · rw [if_pos e, meantL]
    · rw [if_neg e, meantL, if_neg (by rw [ends_no hz]; exact Bool.false_ne_true)]
  | cons p ps =>
    rw [List.map_cons, List.cons_append, meantL, if_pos (ends_nl p), chop_nl, List.map_cons, readL]
    cases hf : fixersOf (mk p) with
    | none => rfl
    | some ns =>
      dsimp only
      obtain ⟨_, _, hok, _⟩ := fixersOf_ok hf
      rw [meant_facts hz ps _ none 2 (fun f hm => by
        rw [lexLe_pr]
        show false = _
        have : prLt (Str.ofString "", Str.ofString "") (f.1, f.2.1) = true := prLt_iff.mpr (.inl ?_)
        · rw [this]; rfl
        · have h1 := (hok _ hm).1
          show ([] : List Nat) < f.1.cps.toList
          cases h : f.1.cps.toList with
          | nil => rw [← Array.length_toList, h] at h1; cases h1
          | cons c r => exact List.nil_lt_cons _ _)]
      cases factsFrom ns none 2 (ps.map mk) with
      | error k => rfl
      | ok fs =>
        dsimp only
        by_cases e : z = []
        · rw [if_pos e, if_pos (mk_empty.mpr e)]; rfl
        · rw [if_neg e, if_neg (fun h => e (mk_empty.mp h))]
          show Except.error _ = Except.error _
          congr 1
          rw [List.length_cons, List.length_map]; omega
/-! ### what a read book holds -/
abbrev AscF (fs : List Fc) : Prop := fs.Pairwise fun f g => prLt (keyF f) (keyF g) = true
theorem facts_asc {ns : List Str} : ∀ {ls : List Str} {lo : Option (Str × Str)} {n : Int} {fs : List Fc}, factsFrom ns lo n ls = .ok fs → AscF fs ∧ (∀ f ∈ fs, f.1 ∈ ns ∧ f.2.1 ∈ ns ∧ ltS f.1 f.2.1 ∧ okRest (some f.2.2)) ∧ ∀ l, lo = some l → ∀ f ∈ fs, prLt l (keyF f) = true
  | [], lo, n, fs, h => by
    rw [factsFrom] at h
    cases h
    exact ⟨.nil, by simp, by simp⟩
  | x :: r, lo, n, fs, h => by
    rw [factsFrom] at h
    cases hf : factOf ns x with
    | none => rw [hf] at h; cases h
    | some f =>
      rw [hf] at h
      dsimp only at h
      by_cases hb : blocks lo f = true
      · rw [if_pos hb] at h; cases h
      · rw [if_neg hb] at h
        cases hr : factsFrom ns (some (f.1, f.2.1)) (n + 1) r with
        | error k => rw [hr] at h; cases h
        | ok gs =>
          rw [hr] at h
          have e : f :: gs = fs := by injection h
          subst e
          obtain ⟨i1, i2, i3⟩ := facts_asc hr
          have hl : ∀ l, lo = some l → prLt l (keyF f) = true := fun l hl => by
            subst hl
            have hb' : lexLeS [f.1, f.2.1] [l.1, l.2] = false := by simpa [blocks] using hb
            rw [lexLe_pr] at hb'
            simpa using hb'
          refine ⟨List.pairwise_cons.mpr ⟨fun g hg => i3 _ rfl g hg, i1⟩, fun g hg => ?_, fun l hlo g hg => ?_⟩
          · rcases List.mem_cons.mp hg with rfl | hg
            · exact factOf_ok hf
            · exact i2 g hg
          · rcases List.mem_cons.mp hg with rfl | hg
            · exact hl l hlo
            · exact prLt_trans (hl l hlo) (i3 _ rfl g hg)
theorem asc_ne {f g : Fc} (h : prLt (keyF f) (keyF g) = true) : keyF f ≠ keyF g := fun e => by rw [e, prLt_irr] at h; cases h
theorem put_other {a b : Str} : ∀ {fs : List Fc} {R : Rs}, (∀ f ∈ fs, keyF f ≠ (a, b)) → putAll R fs a b = R a b
  | [], _, _ => rfl
  | f :: fs, R, h => by
    show putAll (putR R f.1 f.2.1 (some f.2.2)) fs a b = _
    rw [put_other fun g hg => h g (List.mem_cons_of_mem _ hg)]
    unfold putR
    rw [if_neg (fun z => h f (List.mem_cons_self ..) (Prod.ext z.1.symm z.2.symm))]
theorem put_this : ∀ {fs : List Fc} {R : Rs} {f : Fc}, AscF fs → f ∈ fs → putAll R fs f.1 f.2.1 = some f.2.2
  | g :: fs, R, f, h, hf => by
    show putAll (putR R g.1 g.2.1 (some g.2.2)) fs f.1 f.2.1 = _
    rcases List.mem_cons.mp hf with e | hf
    · subst e
      rw [put_other (fun k hk e => asc_ne (List.rel_of_pairwise_cons h hk) e.symm)]
      unfold putR
      rw [if_pos ⟨rfl, rfl⟩]
    · exact put_this (List.pairwise_cons.mp h).2 hf
theorem pairs_asc : ∀ {l : List Str}, Srt l → (pairsL l).Pairwise fun p q => prLt p q = true
  | [], _ => .nil
  | a :: r, s => by
    have s2 := (List.pairwise_cons.mp s).2
    have s1 := (List.pairwise_cons.mp s).1
    rw [pairsL, List.pairwise_append]
    refine ⟨?_, pairs_asc s2, fun p hp q hq => ?_⟩
    · rw [List.pairwise_map]
      exact List.Pairwise.imp (R := ltS) (S := fun b c => prLt (a, b) (a, c) = true) (fun {p q} h => prLt_iff.mpr (.inr ⟨rfl, h⟩)) s2
    · obtain ⟨b, _, rfl⟩ := List.mem_map.mp hp
      exact prLt_iff.mpr (.inl (s1 _ (pairsL_mem hq).1))
theorem asc_eq {fs gs : List Fc} (h1 : AscF fs) (h2 : AscF gs) (h : ∀ f, f ∈ fs ↔ f ∈ gs) : fs = gs := by
  have n1 : fs.Nodup := h1.imp fun z e => asc_ne z (congrArg keyF e)
  have n2 : gs.Nodup := h2.imp fun z e => asc_ne z (congrArg keyF e)
  refine List.Perm.eq_of_pairwise (le := fun f g : Fc => prLt (keyF f) (keyF g) = true) (fun a b _ _ z1 z2 => ?_) h1 h2 ((List.perm_ext_iff_of_nodup n1 n2).mpr h)
  have := prLt_trans z1 z2
  rw [prLt_irr] at this; cases this
/-- P2 -/
theorem facts_back {ns : List Str} {fs : List Fc} (hS : Srt ns) (h1 : AscF fs) (h2 : ∀ f ∈ fs, f.1 ∈ ns ∧ f.2.1 ∈ ns ∧ ltS f.1 f.2.1 ∧ okRest (some f.2.2)) : factsL (putAll nilR fs) (pairsL ns) = fs := by
  refine asc_eq ?_ h1 fun f => ⟨fun hf => ?_, fun hf => ?_⟩
  · unfold factsL AscF
    rw [List.pairwise_filterMap]
    refine (pairs_asc hS).imp fun {p q} z f hf g hg => ?_
    cases e1 : putAll nilR fs p.1 p.2 with
    | none => rw [e1] at hf; cases hf
    | some r =>
      cases e2 : putAll nilR fs q.1 q.2 with
      | none => rw [e2] at hg; cases hg
      | some r' => rw [e1] at hf; rw [e2] at hg; cases hf; cases hg; exact z
  · obtain ⟨p, hp, e⟩ := List.mem_filterMap.mp hf
    by_cases hk : ∃ g ∈ fs, keyF g = p
    · obtain ⟨g, hg, rfl⟩ := hk
      rw [put_this h1 hg] at e
      cases e
      exact hg
    · rw [put_other (a := p.1) (b := p.2) (fun g hg z => hk ⟨g, hg, z⟩)] at e
      cases e
  · obtain ⟨a, b, c, _⟩ := h2 f hf
    refine List.mem_filterMap.mpr ⟨(f.1, f.2.1), mem_pairs hS a b c, ?_⟩
    rw [put_this h1 hf]; rfl
theorem okR_all {fs : List Fc} : ∀ {R : Rs}, okR R → (∀ f ∈ fs, okRest (some f.2.2)) → okR (putAll R fs) := by
  induction fs with
  | nil => exact fun h _ => h
  | cons f fs ih => exact fun h h2 => ih (h.put (h2 f (List.mem_cons_self ..)) _ _) fun g hg => h2 g (List.mem_cons_of_mem _ hg)
theorem okR_nil : okR nilR := fun _ _ => .inl rfl
/-- P4 -/
theorem keys_sorted {fs : List Fc} {ys : List Pr} (h : AscF fs) (p : ys.Perm (fs.map keyF)) (s : ys.Pairwise fun p q => prLt q p = false) : ys = fs.map keyF := by
  refine List.Perm.eq_of_pairwise (le := fun p q : Pr => prLt q p = false) (fun a b _ _ z1 z2 => ?_) s ?_ p
  · rcases prLt_no.mp z1 with e | e | e
    · exact e.symm
    · exact absurd (prLt_iff.mpr (.inl e)) (by rw [z2]; exact Bool.false_ne_true)
    · exact absurd (prLt_iff.mpr (.inr ⟨e.1.symm, e.2⟩)) (by rw [z2]; exact Bool.false_ne_true)
  · rw [List.pairwise_map]
    refine h.imp fun {f g} z => ?_
    cases e : prLt (keyF g) (keyF f) with
    | false => rfl
    | true => have := prLt_trans z e; rw [prLt_irr] at this; cases this
/-! ### P3: the text of what is read is the text -/
theorem joinL_sp1 (s : Nat) : ∀ (l acc : List Nat), TL.joinL [s] (sp1 s acc l) = acc ++ l
  | [], acc => by rw [sp1]; simp [TL.joinL]
  | c :: r, acc => by
    rw [sp1]
    split
    · rename_i e
      have ih := joinL_sp1 s r []
      have hne := sp1_ne s r []
      cases h : sp1 s [] r with
      | nil => exact absurd h hne
      | cons p ps =>
        rw [h] at ih
        show acc ++ ([s] ++ TL.joinL [s] (p :: ps)) = _
        rw [ih, e]; simp
    · rw [joinL_sp1 s r (acc ++ [c])]; simp
theorem join_words (x : Str) : Txt.join (Str.ofString " ") (wordsS x) = x := by
  rw [TL.join_eq]
  refine TL.ext_tl ?_
  rw [TL.tl_join]
  unfold wordsS
  rw [List.map_map, show (TL.tl ∘ mk) = id from funext fun l => rfl, List.map_id, show TL.tl (Str.ofString " ") = [32] from rfl, joinL_sp1]
  rfl
theorem head_back {x : Str} {ns : List Str} (h : fixersOf x = some ns) : headS ns = x := by
  unfold fixersOf at h
  split at h
  · cases h
  · rename_i f ms hw
    split at h
    · rename_i hc
      cases h
      unfold headS
      rw [← hc.1, ← hw, join_words]
    · cases h
theorem rest_back {r : Str} (h : r ∈ wordsR) : restS (restOf r) = r := by
  have hm : r = "2" ∨ r = "3" ∨ r = "4" ∨ r = "6" := by
    unfold wordsR at h
    simpa using h
  rcases hm with rfl | rfl | rfl | rfl <;> decide +kernel
theorem line_back {ns : List Str} {x : Str} {f : Fc} (h : factOf ns x = some f) : lineS f = x := by
  unfold factOf at h
  split at h
  · rename_i a b r hw
    split at h
    · rename_i hc
      cases h
      rw [← join_words x, hw]
      unfold lineS
      rw [rest_back hc.2.2.1]
      rw [TL.join_eq]
      refine TL.ext_tl ?_
      rw [TL.tl_join]
      simp only [TL.tl_append]
      show ([] ++ TL.tl a ++ [32] ++ TL.tl b ++ [32] ++ TL.tl r) = TL.tl a ++ ([32] ++ (TL.tl b ++ ([32] ++ TL.tl r)))
      simp
    · cases h
  · cases h
theorem lines_back {ns : List Str} : ∀ {ls : List Str} {lo : Option (Str × Str)} {n : Int} {fs : List Fc}, factsFrom ns lo n ls = .ok fs → fs.map lineS = ls
  | [], lo, n, fs, h => by
    rw [factsFrom] at h
    cases h; rfl
  | x :: r, lo, n, fs, h => by
    rw [factsFrom] at h
    cases hf : factOf ns x with
    | none => rw [hf] at h; cases h
    | some f =>
      rw [hf] at h
      dsimp only at h
      by_cases hb : blocks lo f = true
      · rw [if_pos hb] at h; cases h
      · rw [if_neg hb] at h
        cases hr : factsFrom ns (some (f.1, f.2.1)) (n + 1) r with
        | error k => rw [hr] at h; cases h
        | ok gs =>
          rw [hr] at h
          have e : f :: gs = fs := by injection h
          subst e
          rw [List.map_cons, line_back hf, lines_back hr]
theorem joinL_nil : ∀ ls : List (List Nat), TL.joinL [] ls = ls.flatten
  | [] => rfl
  | [x] => by simp [TL.joinL]
  | x :: y :: r => by
    show x ++ ([] ++ TL.joinL [] (y :: r)) = _
    rw [joinL_nil (y :: r)]; simp
/-- what readOf finds: the names, the facts, and the text again -/
theorem read_ok {x : Str} {ns : List Str} {fs : List Fc} (h : readOf x = .ok (ns, fs)) : (1 ≤ ns.length ∧ ns.length ≤ 6 ∧ (∀ y ∈ ns, NameOk y) ∧ Srt ns) ∧ AscF fs ∧ (∀ f ∈ fs, f.1 ∈ ns ∧ f.2.1 ∈ ns ∧ ltS f.1 f.2.1 ∧ okRest (some f.2.2)) ∧ textOf ns fs = x := by
  obtain ⟨ps, z, h1, _, _, hx⟩ := parts_lines x
  rw [read_parts h1] at h
  cases ps with
  | nil => rw [List.map_nil, readL] at h; cases h
  | cons p ps =>
    rw [List.map_cons, readL] at h
    cases hf : fixersOf (mk p) with
    | none => rw [hf] at h; cases h
    | some ms =>
      rw [hf] at h
      dsimp only at h
      cases hr : factsFrom ms none 2 (ps.map mk) with
      | error k => rw [hr] at h; cases h
      | ok gs =>
        rw [hr] at h
        dsimp only at h
        by_cases e : mk z = Str.ofString ""
        · rw [if_pos e] at h
          have e2 : (ms, gs) = (ns, fs) := by injection h
          cases e2
          obtain ⟨i1, i2, _⟩ := facts_asc hr
          refine ⟨fixersOf_ok hf, i1, i2, ?_⟩
          rw [mk_empty.mp e, List.append_nil] at hx
          unfold textOf
          rw [head_back hf, lines_back hr, TL.join_eq]
          refine TL.ext_tl ?_
          rw [TL.tl_join, show TL.tl (Str.ofString "") = [] from rfl, joinL_nil]
          show _ = x.cps.toList
          rw [hx, ← List.map_cons, List.map_map, List.map_map]
          congr 1
          refine List.map_congr_left fun l _ => ?_
          show TL.tl (mk l ++ Str.ofString "\n") = l ++ [10]
          rw [TL.tl_append]; rfl
        · rw [if_neg e] at h; cases h
end T85
end

section
set_option Elab.async false
set_option linter.all false
set_option maxRecDepth 100000
set_option maxHeartbeats 4000000
namespace T85
open PySem PySem.Spec L2 Fx LamX
section
variable {P : Program} {w : World} {K : PySem.W.Frag} {mg : Str → Option Value} {base : Heap}
/-- _law_told(lambda: body) -/
theorem pe_told {X : Cx} {p : He.Defn} {k : Nat} {params : Arguments} {body : Expr} {scope : Scope} {lpos pp pos : Pos} {t : XK → TE} (T : Says w X.K X.mg) (TBs : ∀ p ∈ tf, TabB X.base X.mg (He.cT X.K p).1 (He.cT X.K p).2) (hp : p ∈ tf)
    (hcode : X.env.code = .ref (He.codeOf X.K p)) (hmT : ((He.cT X.K p).2, X.env.qual ++ "<lambda>") ∈ tabsL X.K) (hu : ∀ q ∈ tabsL X.K, q.1 = (He.cT X.K p).2 → q.2 = X.env.qual ++ "<lambda>") (hr : Room (k + 2) X.A) (hg : Gl X "_law_told") (L : LamS X.env.scope scope) (hdef : defaultsOf params X.env = ([], []))
    (hbind : ∀ (q : Str) (cl : List (Str × Addr)) (pm cv ctv : Value), bindArgs (PySem.W.kla_fn "<lambda>" q params body scope cl pm cv ctv) ⟨[], []⟩ = pure [])
    (hbody : ∀ (A : Around) (outer : List Env) (s : Shared) (H : Hp) (E : XK) (f c' : Addr), Room k (A.deeper (lamEnv X scope s.heap.objs.size f c')) → PE (lamCx X A outer s H E scope f c') body (t E)) :
    PE X (.Call (.Name "_law_told" pp) [.Lambda params body scope lpos] [] pos) (tLam (tabsL X.K) (TT91 X.K) t) := by
  have F := d__law_told T
  have hb := F.bindsA (ps := ["_law_call"]) fun _ _ _ _ _ _ us hl => match us, hl with | [_], _ => rfl
  obtain ⟨oc, od, dV, kV, doc, pm, an, cdv, ct, osl, e, lk, hcd, _, _⟩ := F.ex
  rw [e] at lk
  have hb' : L2.Binds X.K (PySem.W.fnOf "_law_told" "_law_told" (defArgs s__law_told) (defBody s__law_told) (defScope s__law_told) dV kV doc pm an cdv ct) ["_law_call"] [] := by
    rw [← e]; exact b__law_told T
  exact pe_lamcall hg (T.glo_ 67) F.kp lk hcd hb' sc__law_told rfl (.inl rfl) (told_gives T) (TBs p hp) hcode hmT hu hr L hdef hbind hbody
theorem tabs_ne (T : Says w K mg) : (He.cT K ("_law_book_right", none)).2 ≠ (He.cT K ("_law_row_right", none)).2 ∧ (He.cT K ("_law_book_right", none)).2 ≠ (He.cT K ("_law_right", none)).2 ∧ (He.cT K ("_law_row_right", none)).2 ≠ (He.cT K ("_law_right", none)).2 := by
  have z := chk_tabs T
  unfold tabsNe at z
  simp only [Bool.and_eq_true, decide_eq_true_eq] at z
  exact ⟨z.1, z.2.1, z.2.2⟩
theorem tab_in {p : He.Defn} (hp : p ∈ tf) {nm : Str} (hn : p.1 ++ Str.ofString ".<locals>.<lambda>" = nm) : ((He.cT K p).2, nm) ∈ tabsL K := List.mem_map.mpr ⟨p, hp, by rw [← hn]⟩
theorem tab_un (T : Says w K mg) {p : He.Defn} (hp : p ∈ tf) {nm : Str} (hn : p.1 ++ Str.ofString ".<locals>.<lambda>" = nm) : ∀ q ∈ tabsL K, q.1 = (He.cT K p).2 → q.2 = nm := by
  intro q hq e
  obtain ⟨p', hp', rfl⟩ := List.mem_map.mp hq
  obtain ⟨n1, n2, n3⟩ := tabs_ne T
  have hpp : p' = p := by
    simp only [tf, List.mem_cons, List.not_mem_nil, or_false] at hp hp'
    rcases hp' with rfl | rfl | rfl <;> rcases hp with rfl | rfl | rfl
    · rfl
    · exact absurd e n1
    · exact absurd e n2
    · exact absurd e.symm n1
    · rfl
    · exact absurd e n3
    · exact absurd e.symm n2
    · exact absurd e.symm n3
    · rfl
  rw [hpp]; exact hn
theorem cat_get {H : Hp} {a b : Addr} {xs ys : List V} {Q : VK} (ha : SqT K H a xs) (hb : SqT K H b ys) (hl : xs.length + ys.length ≤ 1000) (k : ∀ H' p, Same H H' → SqT K H' p (xs ++ ys) → Q (.ref p) H') : rCatA K (.ref a) (.ref b) H Q := by
  refine ⟨a, b, xs, ys, rfl, rfl, ha, hb, Nat.le_of_lt (small1000 (by omega)), fun e => ?_, fun _ e => ?_, fun _ _ p hp => ?_⟩
  · subst e; exact k H b (Same.refl _) (by simpa using hb)
  · subst e; exact k H a (Same.refl _) (by simpa using ha)
  · exact k _ p (same_new hp) (.inl (.inl upd_same))
theorem sl_get {H : Hp} {a : Addr} {xs : List V} {lo hi : Option Int} {Q : VK} (ha : SqT K H a xs) (k : ∀ H' p, Same H H' → SqT K H' p (cutV xs lo hi) → Q (.ref p) H') : rSlA K (.ref a) lo hi H Q := by
  refine ⟨a, xs, rfl, ha, fun e => ?_, fun _ p hp => ?_⟩
  · refine k H a (Same.refl _) ?_
    have : cutV xs lo hi = xs := by unfold cutV; rw [e.1, e.2, List.drop_zero, Nat.sub_zero, List.take_length]
    rw [this]; exact ha
  · exact k _ p (same_new hp) (.inl (.inl upd_same))
theorem cat_getH {H : Hp} {a b : Addr} {xs ys : List V} {Q : VK} (ha : H a = some (.tup xs)) (hb : H b = some (.tup ys)) (hl : xs.length + ys.length ≤ 1000) (k : ∀ H' p, Same H H' → H' p = some (.tup (xs ++ ys)) → Q (.ref p) H') : rCatA K (.ref a) (.ref b) H Q := by
  refine ⟨a, b, xs, ys, rfl, rfl, .inl (.inl ha), .inl (.inl hb), Nat.le_of_lt (small1000 (by omega)), fun e => ?_, fun _ e => ?_, fun _ _ p hp => ?_⟩
  · subst e; exact k H b (Same.refl _) (by simpa using hb)
  · subst e; exact k H a (Same.refl _) (by simpa using ha)
  · exact k _ p (same_new hp) upd_same
theorem paired_get {α β : Type} {R : α → β → Prop} : ∀ {as : List α} {bs : List β}, Paired R as bs → as.length = bs.length ∧ ∀ (j : Nat) (a : α), as[j]? = some a → ∃ b, bs[j]? = some b ∧ R a b := by
  intro as bs h
  induction h with
  | nil => exact ⟨rfl, fun j a h => by cases h⟩
  | cons h _ ih =>
    refine ⟨by simp [ih.1], fun j a hj => ?_⟩
    cases j with
    | zero => cases hj; exact ⟨_, rfl, h⟩
    | succ j => exact ih.2 j a hj
theorem kvF_get : ∀ {fs : List Fc} {f : Fc}, AscF fs → f ∈ fs → valV (kvF fs) [.inr f.1, .inr f.2.1] = some (.int f.2.2)
  | g :: fs, f, h, hf => by
    show valV (([Sum.inr g.1, Sum.inr g.2.1], V.int g.2.2) :: kvF fs) _ = _
    rcases List.mem_cons.mp hf with e | hf
    · subst e; exact valV_pos rfl
    · have hne := asc_ne (List.rel_of_pairwise_cons h hf)
      rw [valV_neg (fun z => by simp at z; exact hne (Prod.ext z.1 z.2))]
      exact kvF_get (List.pairwise_cons.mp h).2 hf
/-- facts as data -/
def fcD (f : Fc) : PyData := .tuple [.str f.1, .str f.2.1, .int f.2.2]
theorem dp_facts {H : Hp} : ∀ {rs : List Addr} {fs : List Fc}, FactsAt H rs fs → DpAll K H (rs.map V.ref) (fs.map fcD)
  | [], [], _ => .nil
  | [], _ :: _, h => by have := h.1; simp at this
  | _ :: _, [], h => by have := h.1; simp at this
  | r :: rs, f :: fs, h => .cons (.tup (.inl (.inl (h.2 0 r f rfl rfl))) (.cons (.str _) (.cons (.str _) (.cons (.int _) .nil)))) (dp_facts ⟨by simpa using h.1, fun j => h.2 (j + 1)⟩)
/-! ### what repr asks -/
def errD (v : PyData) : PyData := .list [.str (Str.ofString "wrong"), v, .bool true]
theorem errD_int {n : Int} (h0 : 0 ≤ n) (h : n ≤ 1000000) : (errD (.int n)).showable = true ∧ (errD (.int n)).hasDict = false ∧ (errD (.int n)).depth ≤ 64 ∧ (errD (.int n)).shown.length ≤ sizeLine := by
  have hl : (PyData.shown (.int n)).length ≤ 8 := PyProof.Rows.toString_length_le (k := 8) h0 (by decide) (Int.lt_of_le_of_lt h (by decide))
  have hs : (PyData.int n).showable = true := by
    refine decide_eq_true ?_
    have h3 : n.natAbs < 2 ^ 1920 := by
      have : (1000000 : Int) < 2 ^ 1920 := by decide +kernel
      omega
    by_cases h0 : n.natAbs = 0
    · rw [h0]; decide
    · exact (Nat.log2_lt h0).mpr h3
  refine ⟨?_, rfl, by show 1 ≤ 64; decide, ?_⟩
  · show (_ && _) = true
    show ((PyData.str (Str.ofString "wrong")).showable && ((PyData.int n).showable && ((PyData.bool true).showable && true))) = true
    rw [hs]; rfl
  · refine PyData.shown_fits_bulk (B := 8) (Nat.le_refl _) (by decide) ?_ (by show (5 + 1 + (0 + 1 + (0 + 1 + 0))) ≤ 2 ^ 20; decide)
    show ((PyData.str (Str.ofString "wrong")).leavesShort 8 && (decide ((PyData.shown (.int n)).length ≤ 8) && ((PyData.bool true).leavesShort 8 && true))) = true
    rw [decide_eq_true hl]; decide +kernel
theorem dp_err {H : Hp} {l : Addr} {v : V} {d : PyData} (h : H l = some (.lst [.str (Str.ofString "wrong"), v, .bl true])) (hd : Dp K H v d) : Dp K H (.ref l) (errD d) :=
  .lst (SqL.of h) (.cons (.str _) (.cons hd (.cons (.bl true) .nil)))
theorem facts_err {ns : List Str} : ∀ {ls : List Str} {lo : Option (Str × Str)} {n k : Int}, factsFrom ns lo n ls = .error k → n ≤ k ∧ k < n + ls.length
  | [], lo, n, k, h => by rw [factsFrom] at h; cases h
  | x :: r, lo, n, k, h => by
    rw [factsFrom] at h
    rw [List.length_cons]
    cases hf : factOf ns x with
    | none => rw [hf] at h; cases h; omega
    | some f =>
      rw [hf] at h
      dsimp only at h
      by_cases hb : blocks lo f = true
      · rw [if_pos hb] at h; cases h; omega
      · rw [if_neg hb] at h
        cases hr : factsFrom ns (some (f.1, f.2.1)) (n + 1) r with
        | error j =>
          rw [hr] at h
          have e : j = k := by injection h
          have := facts_err hr
          omega
        | ok gs => rw [hr] at h; cases h
theorem read_err {x : Str} {n : Int} (h : readOf x = .error n) : 0 ≤ n ∧ n ≤ x.length + 3 := by
  obtain ⟨ps, z, h1, _, _, _⟩ := parts_lines x
  have hm := partsS_many x
  rw [h1, List.length_append, List.length_map, List.length_singleton] at hm
  rw [read_parts h1] at h
  cases ps with
  | nil => rw [List.map_nil, readL] at h; cases h; omega
  | cons p ps =>
    rw [List.map_cons, readL] at h
    rw [List.length_cons] at hm
    cases hf : fixersOf (mk p) with
    | none => rw [hf] at h; cases h; omega
    | some ms =>
      rw [hf] at h
      dsimp only at h
      cases hr : factsFrom ms none 2 (ps.map mk) with
      | error k =>
        rw [hr] at h
        have e : k = n := by injection h
        have := facts_err hr
        rw [List.length_map] at this
        omega
      | ok gs =>
        rw [hr] at h
        dsimp only at h
        by_cases e : mk z = Str.ofString ""
        · rw [if_pos e] at h; cases h
        · rw [if_neg e] at h
          have e2 := Except.error.inj h
          rw [List.length_cons, List.length_map] at e2
          omega
theorem NameOk.lt8 {x : Str} (h : NameOk x) : ∀ c ∈ x.cps.toList, c < 16 ^ 8 := fun c hc => Nat.lt_trans (letters_ok _ (h.2.2 c hc)) (by decide)
theorem name_leaf {x : Str} (h : NameOk x) : (PyData.str x).leavesShort 8 = true := by
  rw [PyData.leavesShort, List.all_eq_true]; exact fun c hc => decide_eq_true (h.lt8 c hc)
theorem names_facts : ∀ {ns : List Str}, (∀ y ∈ ns, NameOk y) → PyData.showableAll (ns.map PyData.str) = true ∧ PyData.hasDictAll (ns.map PyData.str) = false ∧ PyData.leavesShortAll 8 (ns.map PyData.str) = true ∧ PyData.bulkAll (ns.map PyData.str) ≤ 9 * ns.length
  | [], _ => ⟨rfl, rfl, rfl, Nat.le_refl _⟩
  | x :: r, h => by
    obtain ⟨h1, h2, h3, h4⟩ := names_facts (ns := r) fun y hy => h y (List.mem_cons_of_mem _ hy)
    have hx := h x (List.mem_cons_self ..)
    have h8 := hx.2.1
    refine ⟨?_, ?_, ?_, ?_⟩
    · show ((PyData.str x).showable && _) = true
      rw [h1]; rfl
    · show ((PyData.str x).hasDict || _) = false
      rw [h2]; rfl
    · show (_ && _) = true
      rw [name_leaf hx, h3]; rfl
    · simp only [List.map_cons, PyData.bulkAll, PyData.bulk, List.length_cons]; omega
theorem tupD_ok {ns : List Str} (h : ∀ y ∈ ns, NameOk y) (hl : ns.length ≤ 400) : (PyData.tuple (ns.map PyData.str)).showable = true ∧ (PyData.tuple (ns.map PyData.str)).hasDict = false ∧ (PyData.tuple (ns.map PyData.str)).depth ≤ 64 ∧ (PyData.tuple (ns.map PyData.str)).shown.length ≤ sizeLine := by
  obtain ⟨h1, h2, h3, h4⟩ := names_facts h
  refine ⟨h1, h2, ?_, ?_⟩
  · show PyData.depthAll (ns.map PyData.str) + 1 ≤ 64
    rw [depth_strs]; decide
  · exact PyData.shown_fits_bulk (B := 8) (Nat.le_refl _) (by decide) h3 (Nat.le_trans h4 (Nat.le_trans (Nat.mul_le_mul_left 9 hl) (by decide)))
def FsOk (f : Fc) : Prop := NameOk f.1 ∧ NameOk f.2.1 ∧ okRest (some f.2.2)
theorem rest_small {r : Int} (h : okRest (some r)) : (PyData.int r).showable = true ∧ (PyData.shown (.int r)).length ≤ 8 := by
  rcases h with h | h | h | h | h
  · cases h
  all_goals (cases h; exact ⟨by decide +kernel, by decide +kernel⟩)
theorem fc_facts : ∀ {fs : List Fc}, (∀ f ∈ fs, FsOk f) → PyData.showableAll (fs.map fcD) = true ∧ PyData.hasDictAll (fs.map fcD) = false ∧ PyData.leavesShortAll 8 (fs.map fcD) = true ∧ PyData.bulkAll (fs.map fcD) ≤ 20 * fs.length ∧ PyData.depthAll (fs.map fcD) ≤ 1
  | [], _ => ⟨rfl, rfl, rfl, Nat.le_refl _, Nat.zero_le _⟩
  | f :: r, h => by
    obtain ⟨h1, h2, h3, h4, h5⟩ := fc_facts (fs := r) fun y hy => h y (List.mem_cons_of_mem _ hy)
    obtain ⟨a, b, c⟩ := h f (List.mem_cons_self ..)
    obtain ⟨c1, c2⟩ := rest_small c
    refine ⟨?_, ?_, ?_, ?_, ?_⟩
    · show (((PyData.str f.1).showable && ((PyData.str f.2.1).showable && ((PyData.int f.2.2).showable && true))) && PyData.showableAll (r.map fcD)) = true
      rw [h1, c1]; rfl
    · show ((fcD f).hasDict || PyData.hasDictAll (r.map fcD)) = false
      rw [h2]; rfl
    · show (((PyData.str f.1).leavesShort 8 && ((PyData.str f.2.1).leavesShort 8 && (decide ((PyData.shown (.int f.2.2)).length ≤ 8) && true))) && PyData.leavesShortAll 8 (r.map fcD)) = true
      rw [h3, name_leaf a, name_leaf b, decide_eq_true c2]; rfl
    · have := a.2.1
      have := b.2.1
      simp only [List.map_cons, fcD, PyData.bulkAll, PyData.bulk, List.length_cons]; omega
    · show max (PyData.depthAll [.str f.1, .str f.2.1, .int f.2.2] + 1) (PyData.depthAll (r.map fcD)) ≤ 1
      exact Nat.max_le.mpr ⟨Nat.le_refl _, h5⟩
theorem lstD_ok {fs : List Fc} (h : ∀ f ∈ fs, FsOk f) (hl : fs.length ≤ 36) : (PyData.list (fs.map fcD)).showable = true ∧ (PyData.list (fs.map fcD)).hasDict = false ∧ (PyData.list (fs.map fcD)).depth ≤ 64 ∧ (PyData.list (fs.map fcD)).shown.length ≤ sizeLine := by
  obtain ⟨h1, h2, h3, h4, h5⟩ := fc_facts h
  refine ⟨h1, h2, ?_, ?_⟩
  · show PyData.depthAll (fs.map fcD) + 1 ≤ 64
    omega
  · exact PyData.shown_fits_bulk (B := 8) (Nat.le_refl _) (by decide) h3 (Nat.le_trans h4 (Nat.le_trans (Nat.mul_le_mul_left 20 hl) (by decide)))
def spBookRight (K : PySem.W.Frag) : Sp := fun vs H Q _ => ∃ (x : Str), vs = [.str x] ∧ x.length ≤ 100000 ∧ OkS x ∧ Tabs (tabsL K) H ∧ ∀ H', ExtN H H' → Tabs (tabsL K) H' → Q (.bl true) H'
theorem ok__law_book_right (T : Says w K mg) (TBs : ∀ p ∈ tf, TabB base mg (He.cT K p).1 (He.cT K p).2) : OkG P w K mg base 8 ("_law_book_right", none) ["_law_text"] (spBookRight K) := by
  have G__law_meant := FnOk.mono (k := 7) (ok__law_meant (P := P) (w := w) (base := base) T) (by decide)
  have G_read_book := FnOk.mono (k := 5) (ok_read_book (P := P) (w := w) (base := base) T) (by decide)
  have G_Book_fixers := FnOk.mono (k := 6) (ok_Book_fixers (P := P) (w := w) (base := base) T) (by decide)
  have G_Book_pairs := FnOk.mono (k := 7) (ok_Book_pairs (P := P) (w := w) (base := base) T) (by decide)
  have G_book_text := FnOk.mono (k := 7) (ok_book_text (P := P) (w := w) (base := base) T) (by decide)
  refine okGC (d__law_book_right T) sc__law_book_right (fun vs H Q E h => ?len) (fun cdv A outer s H vs Q E hcd gd hr h => ?bod)
  case len =>
    obtain ⟨x, rfl, _⟩ := h; rfl
  case bod =>
    obtain ⟨x, rfl, hx, hok, htb, k⟩ := h
    have hu := hu_of hr
    have hpt : (("_law_book_right", none) : He.Defn) ∈ tf := by simp [tf]
    have hmT := tab_in (K := K) hpt (nm := Str.ofString "_law_book_right" ++ Str.ofString ".<locals>." ++ Str.ofString "<lambda>") (by decide +kernel)
    have huT := tab_un T hpt (nm := Str.ofString "_law_book_right" ++ Str.ofString ".<locals>." ++ Str.ofString "<lambda>") (by decide +kernel)
    refine ⟨_, PSs.nox (pss_cons (ps_par (i := 1) (j := 2) rfl sc__law_book_right.nd rfl rfl (by decide) rfl rfl (pa_cons (pe_call G__law_meant hr (by rfl) (T.glo_ 49) (d__law_meant T).kp (b__law_meant T) .nil pass0 (pa_cons (pv 0) pa_nil)) (pa_cons (pe_told T TBs hpt hcd hmT huT hr (by rfl) (lamS_by (sc := defScope s__law_book_right) (by decide +kernel)) (by rfl) (fun _ _ _ _ _ => rfl) fun A outer s H E f c hr => (pe_call (E := E) G_read_book hr (by rfl) (T.glo_ 62) (d_read_book T).kp (b_read_book T) .nil (passes_call (takes_of rfl rfl rfl rfl) fun _ _ _ _ h => h) (pa_cons (pv 0) pa_nil))) pa_nil)) (by rfl))
      (pss_cons (ps_if (pt_val (pe_callB (k_isi (K := K) (by rfl)) (by rfl) (T.free_ 0) (by decide +kernel) (pa_cons (pv 1) (pa_cons (pe_bltn (v := .ty "int") (u := .type "int") (by rfl) (T.free_ 1) (by decide +kernel) rfl) pa_nil)))) (pss_one (ps_ret (pe_cmpR op_eq (pe_callB (k_reprD (K := K) (by rfl) gd (u66 hr)) (by rfl) (T.free_ 63) (by decide +kernel) (pa_cons (pv 2) pa_nil)) (pe_callB (k_reprD (K := K) (by rfl) gd (u66 hr)) (by rfl) (T.free_ 63) (by decide +kernel) (pa_cons (pe_lst (pa_cons pe_str (pa_cons (pv 1) (pa_cons pe_bl pa_nil)))) pa_nil)) (nomark _)))) pss_nil)
      (pss_cons (ps_asg (pv 1) (k_tup (K := K) (n := 2) (by rfl) rfl (pgs_cons (pg_name (i := 3) sc__law_book_right.nd rfl (Or.inl rfl)) (pgs_cons (pg_name (i := 4) sc__law_book_right.nd rfl (Or.inr rfl)) pgs_nil))))
      (pss_cons (ps_if (pw_or (pt_not (pt_val (pe_callB (k_isi (K := K) (by rfl)) (by rfl) (T.free_ 0) (by decide +kernel) (pa_cons (pv 2) (pa_cons (pe_glob (v := .ref (He.ga K "Book")) (by rfl) (T.glo_ 38) rfl) pa_nil))))) (pw_or1 (pt_cmpR op_ne (pe_callB (k_reprD (K := K) (by rfl) gd (u66 hr)) (by rfl) (T.free_ 63) (by decide +kernel) (pa_cons (pe_prop (pv 2) (T.cls_ 24) (pr_Book_fixers T) G_Book_fixers hr (b_Book_fixers T) .nil pass0 rfl) pa_nil)) (pe_callB (k_reprD (K := K) (by rfl) gd (u66 hr)) (by rfl) (T.free_ 63) (by decide +kernel) (pa_cons (pe_callTy (k_tupleOf (K := K) (by rfl)) (by rfl) (T.free_ 4) (by decide +kernel) (pa_cons (pv 3) pa_nil)) pa_nil)) (nomark _)))).pt (pss_one (ps_ret pe_bl)) pss_nil)
      (pss_cons (ps_setLc (i := 5) (own := [("_law_pair", 6)]) rfl sc__law_book_right.nd rfl rfl (sw_true rfl rfl rfl (by decide +kernel)) (k_pil (K := K) (by rfl) (pe_callB (call_sortedDT (by rfl)) (by rfl) (T.free_ 20) (by decide +kernel) (pa_cons (pv 4) pa_nil))) (blkOk_by (N := N__law_book_right) (sc := defScope s__law_book_right) (by decide +kernel)) (fun _ _ _ _ _ => (pg_name (i := 6) sc__law_book_right.nd rfl (Or.inl rfl))) (fun _ _ _ _ _ => pts_nil) (fun _ _ _ _ _ => (pe_op (k_catT (K := K) (by rfl)) (pv 6) (pe_tup (pa_cons (pe_dget hu (pv 4) (pv 6) (fun _ _ => rfl)) pa_nil)))))
      (pss_one (ps_ret (pe_and (pe_cmpR op_eq (pe_callB (k_reprD (K := K) (by rfl) gd (u66 hr)) (by rfl) (T.free_ 63) (by decide +kernel) (pa_cons (pe_meth0 (pv 2) (T.cls_ 24) (T.meth_ 33) G_Book_pairs hr (b_Book_pairs T) .nil pass0) pa_nil)) (pe_callB (k_reprD (K := K) (by rfl) gd (u66 hr)) (by rfl) (T.free_ 63) (by decide +kernel) (pa_cons (pv 5) pa_nil)) (nomark _)) (pe_one (pe_cmpR op_eq (pe_call G_book_text hr (by rfl) (T.glo_ 51) (d_book_text T).kp (b_book_text T) .nil pass0 (pa_cons (pv 2) pa_nil)) (pv 0) (nomark _))))))))))), ?_⟩
    have hmr := meant_read x
    refine ⟨_, rfl, x, rfl, hx, fun n hn H1 s1 => ?_, fun ns fs hnf H1 u l d s1 hu1 hl1 hd1 => ?_⟩
    · rw [hmr] at hn
      obtain ⟨n0, n1⟩ := read_err hn
      refine ⟨htb.ext s1, fun H2 e2 tb2 => ?_⟩
      refine ⟨_, rfl, .inl ⟨x, rfl, hx, hok, fun m hm H3 dd s3 hdd hd3 => ?_, fun ns fs h => by rw [hn] at h; cases h⟩⟩
      obtain rfl : n = m := by rw [hn] at hm; injection hm
      refine ⟨rfl, dd, .int n, rfl, hd3, fun l hl => ?_⟩
      have e9 : ExtN H (upd H3 l (.lst [.str (Str.ofString "wrong"), .int n, .bl true])) := (((ExtN.of s1).trans e2).trans (ExtN.of s3)).trans (ExtN.of (same_new hl))
      have t9 : Tabs (tabsL K) (upd H3 l (.lst [.str (Str.ofString "wrong"), .int n, .bl true])) := (tb2.ext s3).ext (same_new hl)
      have hl9 : (upd H3 l (.lst [.str (Str.ofString "wrong"), .int n, .bl true])) l = some (.lst [.str (Str.ofString "wrong"), .int n, .bl true]) := upd_same
      generalize upd H3 l (.lst [.str (Str.ofString "wrong"), .int n, .bl true]) = H9 at e9 t9 hl9 ⊢
      obtain ⟨q1, q2, q3, q4⟩ := errD_int n0 (show n ≤ 1000000 by omega)
      refine ⟨_, _, rfl, ?_⟩
      refine ⟨_, rfl, _, _, _, _, true, rfl, .ty "int", .base (.int n), kit_ty (by decide +kernel), true, rfl, iteT ?_⟩
      refine ⟨_, rfl, l, errD (.int n), rfl, dp_err hl9 (.int n), q1, q2, q3, q4, _, rfl, by show 3 ≤ sizeLine; decide, fun l2 hl2 => ⟨l2, errD (.int n), rfl, dp_err upd_same (.int n), q1, q2, q3, q4, rfl, ?_⟩⟩
      show Q (V.bl (decide (V.str _ = V.str _))) _
      rw [decide_eq_true rfl]
      exact k _ (e9.trans (ExtN.of (same_new hl2))) (t9.ext (same_new hl2))
    · rw [hmr] at hnf
      obtain ⟨⟨g1, g6, gok, gS⟩, gA, gF, gT⟩ := read_ok hnf
      have hfb := facts_back gS gA gF
      refine ⟨htb.ext s1, fun H2 e2 tb2 => ?_⟩
      refine ⟨_, rfl, .inl ⟨x, rfl, hx, hok, (fun m hm => by rw [hnf] at hm; cases hm), fun ns' fs' h' H3 p t q s3 hp hB => ?_⟩⟩
      rw [hnf] at h'
      cases h'
      have hu2 := e2 _ _ hu1 (by intro ps z; cases z)
      have hl2 := e2 _ _ hl1 (by intro ps z; cases z)
      have hd2 := e2 _ _ hd1 (by intro ps z; cases z)
      have hu3 := s3 _ _ hu2
      have hl3 := s3 _ _ hl2
      have hd3 := s3 _ _ hd2
      have e3 : ExtN H H3 := ((ExtN.of s1).trans e2).trans (ExtN.of s3)
      have t3 : Tabs (tabsL K) H3 := tb2.ext s3
      clear hu1 hl1 hd1 hu2 hl2 hd2 s1 e2 tb2 s3 hp
      obtain ⟨dx, hi⟩ := hB.ins
      refine ⟨_, _, rfl, ?_⟩
      refine ⟨_, rfl, _, _, _, _, false, rfl, .ty "int", ty_sqt (.inl (.inl hu3)), kit_ty (by decide +kernel), false, rfl, iteF ?_⟩
      refine ⟨_, rfl, u, _, rfl, .inl (.inl hu3), rfl, _, _, rfl, _, _, rfl, rfl, ?_⟩
      refine ⟨_, rfl, .ref p, .ref (He.ga K "Book"), .ref (He.ga K "Book"), .ref (He.ga K "Book"), true, rfl, .own _, clsOk_ins (chk_Book T) (cl_Book T) hi, ?_, ?_⟩
      · unfold PySem.W.kitOne
        rw [if_pos (by simp)]
      refine ⟨true, rfl, iteF ?_⟩
      obtain ⟨q1, q2, q3, q4⟩ := tupD_ok gok (by omega)
      refine ⟨_, rfl, p, dx, _, rfl, hi, ⟨p, dx, _, .ref t, rfl, hi, rfl, t, _, rfl, .tup hB.tup dp_strs, q1, q2, q3, q4, _, rfl, l, _, rfl, .inl ⟨SqL.of hl3, fun t2 ht2 => ⟨t2, _, rfl, .tup (.inl (.inl upd_same)) dp_strs, q1, q2, q3, q4, rfl, false, ?_, iteF ?_⟩⟩⟩⟩
      · show V.bl (!decide (V.str _ = V.str _)) = _
        rw [decide_eq_true rfl]; rfl
      have s4 := same_new (o := .tup (ns.map V.str)) ht2
      have e4 := e3.trans (ExtN.of s4)
      have t4 := t3.ext s4
      have hd4 := s4 _ _ hd3
      have hB4 := hB.mono s4
      generalize upd H3 t2 (.tup (ns.map V.str)) = H4 at s4 e4 t4 hd4 hB4 ⊢
      have hkk : (kvF fs).map (·.1) = (fs.map keyF).map prKey := by
        unfold kvF
        rw [List.map_map, List.map_map]; rfl
      refine ⟨_, rfl, d, kvF fs, fs.map keyF, rfl, .inl hd4, hkk, fun ys bs l5 hperm hsrt hl5 hPr => ?_⟩
      obtain rfl : ys = fs.map keyF := keys_sorted gA hperm hsrt
      have s5 := same_new (o := .lst (bs.map V.ref)) hl5
      have hl55 : (upd H4 l5 (.lst (bs.map V.ref))) l5 = some (.lst (bs.map V.ref)) := upd_same
      have e5 := e4.trans (ExtN.of s5)
      have t5 := t4.ext s5
      have hd5 := s5 _ _ hd4
      have hB5 := hB4.mono s5
      obtain ⟨hbl, hbg⟩ := paired_get hPr
      rw [List.length_map] at hbl
      have hbg5 : ∀ (j : Nat) (b : Addr), bs[j]? = some b → ∃ f, fs[j]? = some f ∧ (upd H4 l5 (.lst (bs.map V.ref))) b = some (.tup [.str f.1, .str f.2.1]) := fun j b hj => by
        obtain ⟨k', h1, h2⟩ := hbg j b hj
        obtain ⟨f, hf, rfl⟩ := getElem?_map_some h1
        exact ⟨f, hf, s5 _ _ h2⟩
      generalize upd H4 l5 (.lst (bs.map V.ref)) = H5 at s5 hl55 e5 t5 hd5 hB5 hbg5 ⊢
      have hfs36 : fs.length ≤ 36 := by
        have h1 := factsL_len (putAll nilR fs) (pairsL ns)
        rw [hfb] at h1
        have := pairsL_len g6
        omega
      refine ⟨l5, rfl, ⟨_, SqL.of hl55⟩, fun D hD => lcm_list (xs := bs.map V.ref) (fun j acc H6 => ∃ us : List Addr, Same H5 H6 ∧ H6 D = some (.lst acc) ∧ acc = us.map V.ref ∧ FactsAt H6 us (fs.take j))
        ⟨[], same_new hD, upd_same, rfl, .nil⟩ (fun j acc H6 ⟨_, h, _⟩ => SqL.of (h _ _ hl55)) ?_ ?_⟩
      · rintro j y acc H6 hy ⟨us, s6, hD6, rfl, hU⟩
        obtain ⟨b, hb, rfl⟩ := getElem?_map_some hy
        obtain ⟨f, hf, hbt⟩ := hbg5 j b hb
        have hus : us.length ≤ 36 := by rw [hU.1, List.length_take]; omega
        have hgd := DGet.t (k := [.inr f.1, .inr f.2.1]) (s6 _ _ hd5) (s6 _ _ hbt)
        rw [kvF_get gA (List.mem_of_getElem? hf)] at hgd
        refine ⟨_, rfl, _, rfl, _, rfl, d, .int f.2.2, rfl, hgd, by show 1 ≤ sizeLine; decide, fun t6 ht6 => ?_⟩
        have st := same_new (o := .tup [.int f.2.2]) ht6
        refine cat_getH (st _ _ (s6 _ _ hbt)) upd_same (by show 3 ≤ 1000; decide) fun H7 p7 s7 hp7 => ?_
        have s67 := st.trans s7
        refine ⟨_, s67 _ _ hD6, by rw [List.length_map]; exact small1000 (by omega), _, us ++ [p7], same_upd (s6.trans s67) hD, upd_same, by rw [List.map_append]; rfl, ?_⟩
        rw [take_of_get hf]
        have nt : ∀ {b : Addr} {xs : List V} {o : HO}, H7 b = some (.tup xs) → (upd H7 D o) b = some (.tup xs) := by
          intro b xs o hb
          rw [upd_ne (ne_of hb (s67 _ _ hD6) (by intro z; cases z))]; exact hb
        exact Each.snoc (Each.mono hU fun _ _ z => nt (s67 _ _ z)) (nt hp7)
      · rintro acc H6 ⟨us, s6, hD6, rfl, hU⟩
        rw [List.length_map, hbl, List.take_length] at hU
        have hB6 := hB5.mono s6
        obtain ⟨dx6, hi6⟩ := hB6.ins
        have hFs : ∀ f ∈ fs, FsOk f := fun f hf => ⟨gok _ (gF f hf).1, gok _ (gF f hf).2.1, (gF f hf).2.2.2⟩
        obtain ⟨r1, r2, r3, r4⟩ := lstD_ok hFs hfs36
        refine ⟨_, rfl, p, dx6, _, rfl, hi6, rfl, p, t, q, ns, _, rfl, hB6, g6, fun H7 l7 rs s7 hl7 hL7 hF7 => ?_⟩
        rw [hfb] at hF7
        refine ⟨l7, _, rfl, .lst (SqL.of hL7) (dp_facts hF7), r1, r2, r3, r4, _, rfl, D, _, rfl, .lst (SqL.of (s7 _ _ hD6)) (dp_facts (Each.mono hU fun _ _ z => s7 _ _ z)), r1, r2, r3, r4, rfl, true, ?_, iteT ?_⟩
        · show V.bl (decide (V.str _ = V.str _)) = _
          rw [decide_eq_true rfl]
        refine ⟨_, rfl, p, t, q, ns, _, rfl, hB6.mono s7, g6, gok, okR_all okR_nil (fun f hf => (gF f hf).2.2.2), fun H8 s8 => ⟨_, rfl, rfl, ?_⟩⟩
        rw [hfb, gT]
        show Q (V.bl (decide (V.str _ = V.str _))) _
        rw [decide_eq_true rfl]
        have s58 := (s6.trans s7).trans s8
        exact k _ (e5.trans (ExtN.of s58)) (t5.ext s58)
end
end T85
end

section
set_option Elab.async false
set_option linter.all false
set_option maxRecDepth 100000
set_option maxHeartbeats 4000000
namespace T85
open PySem PySem.Spec L2 Fx LamX
section
variable {P : Program} {w : World} {K : PySem.W.Frag} {mg : Str → Option Value} {base : Heap}
def SameRow (K : PySem.W.Frag) : Addr → Addr → Hp → Prop := fun a b H => ∃ xs, RowAt K H a xs ∧ RowAt K H b xs ∧ ∀ x ∈ xs, NameOk x
def spRowRight (K : PySem.W.Frag) : Sp := fun vs H Q _ => ∃ (x : Str), vs = [.str x] ∧ x.length ≤ 100000 ∧ Tabs (tabsL K) H ∧ ∀ H', ExtN H H' → Tabs (tabsL K) H' → Q (.bl true) H'
theorem rowOf_ok {x : Str} {ws : List Str} (h : rowOf x = some ws) : ws = rowWords x ∧ ws.length ≤ 400 ∧ ∀ y ∈ ws, NameOk y := by
  unfold rowOf at h
  split at h
  · rename_i hc
    cases h
    exact ⟨rfl, hc.1, fun y hy => of_decide_eq_true (List.all_eq_true.mp hc.2 y hy)⟩
  · cases h
theorem ok__law_row_right (T : Says w K mg) (TBs : ∀ p ∈ tf, TabB base mg (He.cT K p).1 (He.cT K p).2) : OkG P w K mg base 8 ("_law_row_right", none) ["_law_text"] (spRowRight K) := by
  have G_read_row := FnOk.mono (k := 5) (ok_read_row (P := P) (w := w) (base := base) T) (by decide)
  have G_Rowdd_initdd := FnOk.mono (k := 6) (ok_Rowdd_initdd (P := P) (w := w) (base := base) T) (by decide)
  have G_Rowdd_eqdd := FnOk.mono (k := 7) (ok_Rowdd_eqdd (P := P) (w := w) (base := base) T) (by decide)
  have G__law_is_name := FnOk.mono (k := 7) (ok__law_is_name (P := P) (w := w) (base := base) T) (by decide)
  have G_Row_names := FnOk.mono (k := 6) (ok_Row_names (P := P) (w := w) (base := base) T) (by decide)
  refine okGC (d__law_row_right T) sc__law_row_right (fun vs H Q E h => ?len) (fun cdv A outer s H vs Q E hcd gd hr h => ?bod)
  case len =>
    obtain ⟨x, rfl, _⟩ := h; rfl
  case bod =>
    obtain ⟨x, rfl, hx, htb, k⟩ := h
    have hu := hu_of hr
    have hpt : (("_law_row_right", none) : He.Defn) ∈ tf := by simp [tf]
    have hmT := tab_in (K := K) hpt (nm := Str.ofString "_law_row_right" ++ Str.ofString ".<locals>." ++ Str.ofString "<lambda>") (by decide +kernel)
    have huT := tab_un T hpt (nm := Str.ofString "_law_row_right" ++ Str.ofString ".<locals>." ++ Str.ofString "<lambda>") (by decide +kernel)
    have hx2 : x.length + 2 ≤ sizeLine := Nat.le_trans (Nat.add_le_add_right hx 2) (by decide)
    have G_Rowdd_eqdd : FnOk P w K mg base CX0 7 (He.fAd K ("Row", some "__eq__")) (fdOf K (He.fAd K ("Row", some "__eq__"))) ["self", "other"] (spEq (SameRow K)) := G_Rowdd_eqdd.imp fun vs H Q E h => by
      obtain ⟨a, b, rfl, ⟨xs, h1, h2, h3⟩, k⟩ := h
      exact ⟨a, b, xs, xs, rfl, h1, h2, h3, h3, by rw [decide_eq_true rfl]; exact k H Ext.rfl'⟩
    refine ⟨_, PSs.nox (pss_cons (ps_par (i := 1) (j := 2) rfl sc__law_row_right.nd rfl rfl (by decide) rfl rfl (pa_cons (pe_told T TBs hpt hcd hmT huT hr (by rfl) (lamS_by (sc := defScope s__law_row_right) (by decide +kernel)) (by rfl) (fun _ _ _ _ _ => rfl) fun A outer s H E f c hr => (pe_call (E := E) G_read_row hr (by rfl) (T.glo_ 64) (d_read_row T).kp (b_read_row T) .nil (passes_call (takes_of rfl rfl rfl rfl) fun _ _ _ _ h => h) (pa_cons (pv 0) pa_nil))) (pa_cons (pe_bm PySem.F.plainAttrs_str PySem.F.slot_str_split PySem.F.type_str_split mt_split (pv 0) (pa_cons pe_str pa_nil)) pa_nil)) (by rfl))
      (pss_cons (ps_if (pt_cmpR op_eq (pv 0) pe_str (nomark _)) (pss_one (ps_ret (pe_cmpR (k_eqOwn (K := K) (by rfl) G_Rowdd_eqdd (T.meth_ 65).at_ (T.meth_ 65).fn (b_Rowdd_eqdd T) hr) (pv 1) (pe_make0 (T.mkr_ 55) G_Rowdd_initdd hr (by rfl) (T.glo_ 16) (b_Rowdd_initdd0 T) (dv_Rowdd_initdd0 T) pass0) (nomark _)))) pss_nil)
      (pss_cons (ps_if (pw_or (pt_cmpR op_gt (pe_callB (k_len (K := K) (by rfl)) (by rfl) (T.free_ 6) (by decide +kernel) (pa_cons (pv 2) pa_nil)) pe_int (nomark _)) (pw_or1 (pt_not (pt_val (pe_callB (k_all (K := K) (by rfl) rfl) (by rfl) (T.free_ 9) (by decide +kernel) (pa_cons (pe_lc (own := [("_law_word", 3)]) rfl sc__law_row_right.nd (k_pil (K := K) (by rfl) (pv 2)) (blkOk_by (N := N__law_row_right) (sc := defScope s__law_row_right) (by decide +kernel)) (fun _ _ _ _ _ => (pg_name (i := 3) sc__law_row_right.nd rfl (Or.inl rfl))) (fun _ _ _ _ _ => pts_nil) (fun _ _ _ _ _ => (pe_call G__law_is_name hr (by rfl) (T.glo_ 61) (d__law_is_name T).kp (b__law_is_name T) .nil pass0 (pa_cons (pv 3) pa_nil)))) pa_nil)))))).pt (pss_one (ps_ret (pe_cmpR op_eq (pe_callB (k_reprD (K := K) (by rfl) gd (u66 hr)) (by rfl) (T.free_ 63) (by decide +kernel) (pa_cons (pv 1) pa_nil)) (pe_callB (k_reprD (K := K) (by rfl) gd (u66 hr)) (by rfl) (T.free_ 63) (by decide +kernel) (pa_cons (pe_lst (pa_cons pe_str (pa_cons pe_int (pa_cons pe_bl pa_nil)))) pa_nil)) (nomark _)))) pss_nil)
      (pss_one (ps_ret (pe_and (pe_callB (k_isi (K := K) (by rfl)) (by rfl) (T.free_ 0) (by decide +kernel) (pa_cons (pv 1) (pa_cons (pe_glob (v := .ref (He.ga K "Row")) (by rfl) (T.glo_ 16) rfl) pa_nil))) (pe_one (pe_cmpR op_eq (pe_callB (k_reprD (K := K) (by rfl) gd (u66 hr)) (by rfl) (T.free_ 63) (by decide +kernel) (pa_cons (pe_prop (pv 1) (T.cls_ 56) (pr_Row_names T) G_Row_names hr (b_Row_names T) .nil pass0 rfl) pa_nil)) (pe_callB (k_reprD (K := K) (by rfl) gd (u66 hr)) (by rfl) (T.free_ 63) (by decide +kernel) (pa_cons (pe_callTy (k_tupleOf (K := K) (by rfl)) (by rfl) (T.free_ 4) (by decide +kernel) (pa_cons (pv 2) pa_nil)) pa_nil)) (nomark _))))))))), ?_⟩
    refine ⟨htb, fun H2 e2 tb2 => ?_⟩
    refine ⟨_, rfl, .inl ⟨x, rfl, hx, fun hn H3 dd s3 hdd hd3 => ?_, fun ws hws H3 p s3 hp hR => ?_⟩⟩
    · have hne : x ≠ Str.ofString "-" := fun e => by
        rw [e] at hn
        exact absurd hn (by decide +kernel)
      have hww : rowWords x = wordsS x := by unfold rowWords; rw [if_neg hne]
      refine ⟨rfl, dd, .int 1, rfl, hd3, fun l hl => ?_⟩
      have e9 : ExtN H (upd H3 l (.lst [.str (Str.ofString "wrong"), .int 1, .bl true])) := (e2.trans (ExtN.of s3)).trans (ExtN.of (same_new hl))
      have t9 : Tabs (tabsL K) (upd H3 l (.lst [.str (Str.ofString "wrong"), .int 1, .bl true])) := (tb2.ext s3).ext (same_new hl)
      have hl9 : (upd H3 l (.lst [.str (Str.ofString "wrong"), .int 1, .bl true])) l = some (.lst [.str (Str.ofString "wrong"), .int 1, .bl true]) := upd_same
      generalize upd H3 l (.lst [.str (Str.ofString "wrong"), .int 1, .bl true]) = H9 at e9 t9 hl9 ⊢
      obtain ⟨q1, q2, q3, q4⟩ := errD_int (n := 1) (by decide) (by decide)
      refine ⟨_, rfl, rfl, x, _, rfl, rfl, rfl, hx2, ?_⟩
      rw [wordsS_eq]
      intro wl hwl
      have sw := same_new (o := .lst ((wordsS x).map V.str)) hwl
      have hwl1 : (upd H9 wl (.lst ((wordsS x).map V.str))) wl = some (.lst ((wordsS x).map V.str)) := upd_same
      have fin : ∀ (H' : Hp), Same (upd H9 wl (.lst ((wordsS x).map V.str))) H' → ExtN H H' ∧ Tabs (tabsL K) H' ∧ H' l = some (.lst [.str (Str.ofString "wrong"), .int 1, .bl true]) := fun H' s => ⟨e9.trans (ExtN.of (sw.trans s)), t9.ext (sw.trans s), (sw.trans s) _ _ hl9⟩
      generalize upd H9 wl (.lst ((wordsS x).map V.str)) = HA at sw hwl1 fin ⊢
      refine ⟨_, _, rfl, ?_⟩
      refine ⟨_, rfl, rfl, false, ?_, iteF ?_⟩
      · show V.bl (decide (V.str x = V.str _)) = _
        rw [eqS, decide_eq_false hne]
      refine ⟨_, rfl, wl, _, rfl, .inl (SqL.of hwl1), _, _, rfl, rfl, decide (400 < (wordsS x).length), by rw [List.length_map]; show V.bl (decide ((400 : Int) < ((wordsS x).length : Nat))) = _; congr 1; exact decide_eq_decide.mpr (by omega), ?_⟩
      by_cases h4 : 400 < (wordsS x).length
      · rw [decide_eq_true h4]
        obtain ⟨f1, f2, f3⟩ := fin HA (Same.refl _)
        refine iteT ⟨_, rfl, l, errD (.int 1), rfl, dp_err f3 (.int 1), q1, q2, q3, q4, by show 3 ≤ sizeLine; decide, fun l2 hl2 => ⟨l2, errD (.int 1), rfl, dp_err upd_same (.int 1), q1, q2, q3, q4, rfl, ?_⟩⟩
        show Q (V.bl (decide (V.str _ = V.str _))) _
        rw [decide_eq_true rfl]
        exact k _ (f1.trans (ExtN.of (same_new hl2))) (f2.ext (same_new hl2))
      rw [decide_eq_false h4]
      refine iteF ⟨_, rfl, wl, rfl, ⟨_, SqL.of hwl1⟩, fun D hD => lc_names (σ := [some (.str x), some (.ref l), some (.ref wl), none]) rfl (SqL.of hwl1) hD (fun y hy => Nat.le_trans (wordsS_len hy) (Nat.le_trans hx (by decide))) (by omega) (fun _ => rfl) (fun _ => rfl) fun HB sB hDB => ?_⟩
      refine ⟨D, _, rfl, SqL.of hDB, ((wordsS x).map nameB).all id, rfl, ?_⟩
      rw [List.all_map, show (id ∘ nameB) = nameB from rfl]
      have hna : (wordsS x).all nameB = false := by
        cases h : (wordsS x).all nameB with
        | false => rfl
        | true =>
          unfold rowOf at hn
          rw [hww, if_pos ⟨by omega, h⟩] at hn
          cases hn
      rw [hna]
      obtain ⟨f1, f2, f3⟩ := fin HB sB
      refine iteT ⟨_, rfl, l, errD (.int 1), rfl, dp_err f3 (.int 1), q1, q2, q3, q4, by show 3 ≤ sizeLine; decide, fun l2 hl2 => ⟨l2, errD (.int 1), rfl, dp_err upd_same (.int 1), q1, q2, q3, q4, rfl, ?_⟩⟩
      show Q (V.bl (decide (V.str _ = V.str _))) _
      rw [decide_eq_true rfl]
      exact k _ (f1.trans (ExtN.of (same_new hl2))) (f2.ext (same_new hl2))
    · obtain ⟨rfl, h400, hnok⟩ := rowOf_ok hws
      have e9 : ExtN H H3 := e2.trans (ExtN.of s3)
      have t9 : Tabs (tabsL K) H3 := tb2.ext s3
      refine ⟨_, rfl, rfl, x, _, rfl, rfl, rfl, hx2, ?_⟩
      rw [wordsS_eq]
      intro wl hwl
      have sw := same_new (o := .lst ((wordsS x).map V.str)) hwl
      have hwl1 : (upd H3 wl (.lst ((wordsS x).map V.str))) wl = some (.lst ((wordsS x).map V.str)) := upd_same
      have hR1 := hR.mono sw
      have eA := e9.trans (ExtN.of sw)
      have tA := t9.ext sw
      generalize upd H3 wl (.lst ((wordsS x).map V.str)) = HA at sw hwl1 hR1 eA tA ⊢
      refine ⟨_, _, rfl, ?_⟩
      refine ⟨_, rfl, rfl, decide (x = Str.ofString "-"), ?_, ?_⟩
      · show V.bl (decide (V.str x = V.str _)) = _
        rw [eqS]
      by_cases hne : x = Str.ofString "-"
      · rw [decide_eq_true hne]
        have hw0 : rowWords x = [] := by unfold rowWords; rw [if_pos hne]
        rw [hw0] at hR1
        refine iteT ⟨_, rfl, fun r dx hr0 hdx hne2 => ?_⟩
        have s4 : Same HA (upd (upd HA dx (.own r)) r (.ins (He.ga K "Row") dx [])) := same_upd (same_new hdx) hr0
        refine ⟨r, dx, rowDfl K, [], rfl, upd_same, .inr (tupIn_ok (chk_dfl T) _), by decide, by simp, fun H5 t sx hr5 ht => ⟨rfl, ?_⟩⟩
        have s5 := same_x1 s4 sx hr0
        have hR5 := hR1.mono s5
        obtain ⟨dxp, tp, hip, htp⟩ := hR5
        exact ⟨⟨p, r, _, _, _, _, rfl, rfl, hip, hr5, [], ⟨dxp, tp, hip, htp⟩, ⟨dx, t, hr5, ht⟩, by simp⟩, fun H' ext => k _ ((eA.trans (ExtN.of s5)).trans (ExtN.of ext)) ((tA.ext s5).ext ext)⟩
      · rw [decide_eq_false hne]
        have hww : rowWords x = wordsS x := by unfold rowWords; rw [if_neg hne]
        rw [hww] at hR1 h400 hnok
        refine iteF ⟨_, rfl, wl, _, rfl, .inl (SqL.of hwl1), _, _, rfl, rfl, false, by rw [List.length_map]; show V.bl (decide ((400 : Int) < ((wordsS x).length : Nat))) = _; rw [decide_eq_false (by omega)], iteF ?_⟩
        refine ⟨_, rfl, wl, rfl, ⟨_, SqL.of hwl1⟩, fun D hD => lc_names (σ := [some (.str x), some (.ref p), some (.ref wl), none]) rfl (SqL.of hwl1) hD (fun y hy => Nat.le_trans (wordsS_len hy) (Nat.le_trans hx (by decide))) (by omega) (fun _ => rfl) (fun _ => rfl) fun HB sB hDB => ?_⟩
        refine ⟨D, _, rfl, SqL.of hDB, true, ?_, ?_⟩
        · rw [List.all_map, show (id ∘ nameB) = nameB from rfl, List.all_eq_true.mpr fun y hy => name_true (hnok y hy)]
        refine iteF ?_
        obtain ⟨dx, t, hi, ht⟩ := hR1.mono sB
        obtain ⟨q1, q2, q3, q4⟩ := tupD_ok hnok h400
        refine ⟨_, rfl, .ref p, .ref (He.ga K "Row"), .ref (He.ga K "Row"), .ref (He.ga K "Row"), true, rfl, .own _, clsOk_ins (chk_Row T) (cl_Row T) hi, ?_, ?_⟩
        · unfold PySem.W.kitOne
          rw [if_pos (by simp)]
        refine ⟨true, rfl, iteT ?_⟩
        refine ⟨_, rfl, p, dx, _, rfl, hi, ⟨p, dx, _, .ref t, rfl, hi, rfl, t, _, rfl, .tup ht dp_strs, q1, q2, q3, q4, _, rfl, wl, _, rfl, .inl ⟨SqL.of (sB _ _ hwl1), fun t2 ht2 => ⟨t2, _, rfl, .tup (.inl (.inl upd_same)) dp_strs, q1, q2, q3, q4, rfl, ?_⟩⟩⟩⟩
        show Q (V.bl (decide (V.str _ = V.str _))) _
        rw [decide_eq_true rfl]
        have s9 := sB.trans (same_new (o := .tup ((wordsS x).map V.str)) ht2)
        exact k _ (eA.trans (ExtN.of s9)) (tA.ext s9)
end
end T85
end

section
set_option Elab.async false
set_option linter.all false
set_option maxRecDepth 100000
set_option maxHeartbeats 4000000
namespace T85
open PySem PySem.Spec L2 Fx LamX
/-- all stays but the pot and the tables -/
def Sx (p : Addr) (H H' : Hp) : Prop := ∀ b o, b ≠ p → H b = some o → (∀ ps, o ≠ .tbl ps) → H' b = some o
section
variable {K : PySem.W.Frag}
theorem tabs_x {H H' : Hp} {p : Addr} (t : Tabs (tabsL K) H) (hp : PotOk H p) (s : SameX [p] H H') : Tabs (tabsL K) H' := fun q hq => by
  obtain ⟨ps, h1, h2, h3⟩ := t q hq
  obtain ⟨x, y, hl, _⟩ := hp
  have n1 : q.1 ≠ p := fun e => by rw [e, hl] at h1; cases h1
  refine ⟨ps, s _ _ (by simp [n1]) h1, h2, fun pos cv hc => ?_⟩
  obtain ⟨c, e1, e2⟩ := h3 pos cv hc
  have n2 : c ≠ p := fun e => by rw [e, hl] at e2; unfold CodeO at e2; cases e2
  exact ⟨c, e1, s _ _ (by simp [n2]) e2⟩
theorem tabs_put {H : Hp} {m : Addr} {xs ys : List V} (t : Tabs (tabsL K) H) (hm : H m = some (.lst xs)) : Tabs (tabsL K) (upd H m (.lst ys)) := fun q hq => by
  obtain ⟨ps, h1, h2, h3⟩ := t q hq
  have n1 : q.1 ≠ m := fun e => by rw [e, hm] at h1; cases h1
  refine ⟨ps, by rw [upd_ne n1]; exact h1, h2, fun pos cv hc => ?_⟩
  obtain ⟨c, e1, e2⟩ := h3 pos cv hc
  have n2 : c ≠ m := fun e => by rw [e, hm] at e2; unfold CodeO at e2; cases e2
  exact ⟨c, e1, by rw [upd_ne n2]; exact e2⟩
/-- what is kept all along -/
structure Bx (K : PySem.W.Frag) (p l bp : Addr) (ns : List Str) (H H' : Hp) : Prop where
  sx : Sx p H H'
  pot : PotOk H' p
  tb : Tabs (tabsL K) H'
  nm : H' l = some (.lst (ns.map V.str))
  ins : ∃ dx fs, H' bp = some (.ins (He.ga K "Book") dx fs)
variable {p l bp : Addr} {ns : List Str} {H H' H'' : Hp}
theorem Bx.same (b : Bx K p l bp ns H H') (s : Same H' H'') : Bx K p l bp ns H H'' :=
  ⟨fun c o n h t => s _ _ (b.sx c o n h t), b.pot.mono s, b.tb.ext s, s _ _ b.nm, let ⟨dx, fs, h⟩ := b.ins; ⟨dx, fs, s _ _ h⟩⟩
theorem Bx.x (b : Bx K p l bp ns H H') (s : SameX [p] H' H'') (hp : PotOk H'' p) (n : l ≠ p) : Bx K p l bp ns H H'' := by
  obtain ⟨dx, fs, h⟩ := b.ins
  obtain ⟨x, y, hl, _⟩ := id b.pot
  have n2 : bp ≠ p := ne_of h hl (by intro z; cases z)
  exact ⟨fun c o nn h t => s _ _ (by simp [nn]) (b.sx c o nn h t), hp, tabs_x b.tb b.pot s, s _ _ (by simp [n]) b.nm, dx, fs, s _ _ (by simp [n2]) h⟩
theorem Bx.ext (b : Bx K p l bp ns H H') (e : ExtN H' H'') (t : Tabs (tabsL K) H'') : Bx K p l bp ns H H'' := by
  obtain ⟨dx, fs, h⟩ := b.ins
  obtain ⟨x, y, hl, r⟩ := b.pot
  exact ⟨fun c o nn h t => e _ _ (b.sx c o nn h t) t, ⟨x, y, e _ _ hl (by intro ps z; cases z), r⟩, t, e _ _ b.nm (by intro ps z; cases z), dx, fs, e _ _ h (by intro ps z; cases z)⟩
/-- values that are no texts -/
def OddV (K : PySem.W.Frag) (H : Hp) (v : V) : Prop := v = .non ∨ v = .int 0 ∨ v = .bl true ∨ (∃ a xs, v = .ref a ∧ H a = some (.lst xs)) ∨ (∃ a xs, v = .ref a ∧ H a = some (.tup xs)) ∨ (∃ a kvs, v = .ref a ∧ H a = some (.dT kvs)) ∨
  (∃ a dx fs, v = .ref a ∧ H a = some (.ins (He.ga K "Row") dx fs)) ∨ ∃ a dx fs, v = .ref a ∧ H a = some (.ins (He.ga K "Book") dx fs)
theorem OddV.ext {v : V} (h : OddV K H v) (e : ExtN H H') : OddV K H' v := by
  rcases h with h | h | h | ⟨a, xs, r, h⟩ | ⟨a, xs, r, h⟩ | ⟨a, xs, r, h⟩ | ⟨a, dx, fs, r, h⟩ | ⟨a, dx, fs, r, h⟩
  · exact .inl h
  · exact .inr (.inl h)
  · exact .inr (.inr (.inl h))
  · exact .inr (.inr (.inr (.inl ⟨a, xs, r, e _ _ h (by intro ps z; cases z)⟩)))
  · exact .inr (.inr (.inr (.inr (.inl ⟨a, xs, r, e _ _ h (by intro ps z; cases z)⟩))))
  · exact .inr (.inr (.inr (.inr (.inr (.inl ⟨a, xs, r, e _ _ h (by intro ps z; cases z)⟩)))))
  · exact .inr (.inr (.inr (.inr (.inr (.inr (.inl ⟨a, dx, fs, r, e _ _ h (by intro ps z; cases z)⟩))))))
  · exact .inr (.inr (.inr (.inr (.inr (.inr (.inr ⟨a, dx, fs, r, e _ _ h (by intro ps z; cases z)⟩))))))
variable {w : World} {mg : Str → Option Value}
theorem OddV.ty (T : Says w K mg) {v : V} (h : OddV K H v) : ∃ t, TyX K H v t ∧ PySem.W.kitOne K t (.type "str") = some false := by
  rcases h with rfl | rfl | rfl | ⟨a, xs, rfl, h⟩ | ⟨a, xs, rfl, h⟩ | ⟨a, xs, rfl, h⟩ | ⟨a, dx, fs, rfl, h⟩ | ⟨a, dx, fs, rfl, h⟩
  · exact ⟨_, .base .non, kit_ty (by decide +kernel)⟩
  · exact ⟨_, .base (.int 0), kit_ty (by decide +kernel)⟩
  · exact ⟨_, .base (.bl true), kit_ty (by decide +kernel)⟩
  · exact ⟨_, .base (.lst h), kit_ty (by decide +kernel)⟩
  · exact ⟨_, .base (.tup h), kit_ty (by decide +kernel)⟩
  · exact ⟨_, .base (.dT h), kit_ty (by decide +kernel)⟩
  · exact ⟨_, clsOk_ins (chk_Row T) (cl_Row T) h, kit_Row T⟩
  · exact ⟨_, clsOk_ins (chk_Book T) (cl_Book T) h, kit_Book T⟩
end
theorem errN_ok : (errD .none).showable = true ∧ (PyData.list [errD .none, errD .none]).showable = true ∧ (PyData.list [errD .none, errD .none]).hasDict = false ∧ (PyData.list [errD .none, errD .none]).depth ≤ 64 ∧ (PyData.list [errD .none, errD .none]).shown.length ≤ sizeLine := by
  refine ⟨by decide +kernel, by decide +kernel, rfl, by decide +kernel, ?_⟩
  exact PyData.shown_fits_bulk (B := 8) (Nat.le_refl _) (by decide) (by decide +kernel) (by decide +kernel)
theorem line_oks {f : Fc} (h : FsOk f) : OkS (lineS f) := by
  unfold lineS
  have hsp : OkS (Str.ofString " ") := by unfold OkS; decide
  have hr : OkS (restS f.2.2) := by
    rcases h.2.2 with e | e | e | e | e
    · cases e
    all_goals (rw [Option.some.inj e]; unfold OkS; decide +kernel)
  have h0 : OkS Str.empty := fun c hc => by cases hc
  exact ((((h0.app h.1.oks).app hsp).app h.2.1.oks).app hsp).app hr
theorem text_oks {ns : List Str} {fs : List Fc} (hn : ∀ y ∈ ns, NameOk y) (h6 : ns.length ≤ 6) (hf : ∀ f ∈ fs, FsOk f) (hl : fs.length ≤ 36) : OkS (textOf ns fs) ∧ (textOf ns fs).length ≤ 800 := by
  have hnl : OkS (Str.ofString "\n") := by unfold OkS; decide
  have hsp : OkS (Str.ofString " ") := by unfold OkS; decide
  have hho : OkS (headS ns) := by
    unfold headS
    rw [TL.join_eq]
    refine OkS.join hsp fun x hx => ?_
    rcases List.mem_cons.mp hx with rfl | hx
    · unfold OkS; decide
    · exact (hn x hx).oks
  have hhl : (headS ns).length ≤ 61 := by
    have h1 := sum_le (l := ns) (n := 8) (fun x hx => (hn x hx).2.1)
    have h2 := StrLaws.join_length_le (Str.ofString " ") (Str.ofString "fixers" :: ns)
    rw [List.map_cons, List.sum_cons, List.length_cons] at h2
    have e1 : (Str.ofString " ").length = 1 := rfl
    have e2 : (Str.ofString "fixers").length = 6 := rfl
    rw [e1, e2] at h2
    unfold headS
    rw [TL.join_eq]; omega
  have hk : LnOk 800 40 ((headS ns :: fs.map lineS).map (· ++ Str.ofString "\n")) := by
    refine ⟨fun y hy => ?_, ?_, by rw [List.length_map, List.length_cons, List.length_map]; omega⟩
    · obtain ⟨z, hz, rfl⟩ := List.mem_map.mp hy
      rcases List.mem_cons.mp hz with rfl | hz
      · exact hho.app hnl
      · obtain ⟨f, hf', rfl⟩ := List.mem_map.mp hz
        exact (line_oks (hf f hf')).app hnl
    · have h3 := sum_le (l := (fs.map lineS).map (· ++ Str.ofString "\n")) (n := 20) (by
        intro y hy
        obtain ⟨z, hz, rfl⟩ := List.mem_map.mp hy
        obtain ⟨f, hf', rfl⟩ := List.mem_map.mp hz
        rw [Str.length_append]
        have := lineS_len (f := f) ⟨(hf f hf').1.2.1, (hf f hf').2.1.2.1, (hf f hf').2.2⟩
        have e1 : (Str.ofString "\n").length = 1 := rfl
        omega)
      rw [List.length_map, List.length_map] at h3
      rw [List.map_cons, List.map_cons, List.sum_cons, Str.length_append]
      have e1 : (Str.ofString "\n").length = 1 := rfl
      omega
  exact hk.join
def bnd : Nat → Nat
  | 0 => 800
  | 1 => 3240
  | 2 => 13000
  | _ => 52040
section
variable {P : Program} {w : World} {K : PySem.W.Frag} {mg : Str → Option Value} {base : Heap}
def spRight (K : PySem.W.Frag) : Sp := fun vs H Q _ => ∃ p : Addr, vs = [.ref p] ∧ PotOk H p ∧ Tabs (tabsL K) H ∧ ∀ H', Sx p H H' → Tabs (tabsL K) H' → Q (.bl true) H'
theorem ok__law_right (T : Says w K mg) (TBs : ∀ p ∈ tf, TabB base mg (He.cT K p).1 (He.cT K p).2) : OkG P w K mg base 9 ("_law_right", none) ["_law_pot_here"] (spRight K) := by
  have G__law_drawn_book := FnOk.mono (k := 8) (ok__law_drawn_book (P := P) (w := w) (base := base) T) (by decide)
  have G_book_text := FnOk.mono (k := 8) (ok_book_text (P := P) (w := w) (base := base) T) (by decide)
  have G__law_book_right := FnOkG.mono (k := 8) (ok__law_book_right (P := P) (w := w) (base := base) T TBs) (by decide)
  have G__law_draw := FnOk.mono (k := 8) (ok__law_draw (P := P) (w := w) (base := base) T) (by decide)
  have G__law_bent := FnOk.mono (k := 8) (ok__law_bent (P := P) (w := w) (base := base) T) (by decide)
  have G__law_pick := FnOk.mono (k := 8) (ok__law_pick (P := P) (w := w) (base := base) T) (by decide)
  have G__law_row_right := FnOkG.mono (k := 8) (ok__law_row_right (P := P) (w := w) (base := base) T TBs) (by decide)
  have G_Rowdd_initdd := FnOk.mono (k := 7) (ok_Rowdd_initdd (P := P) (w := w) (base := base) T) (by decide)
  have G_read_book := FnOk.mono (k := 6) (ok_read_book (P := P) (w := w) (base := base) T) (by decide)
  have G_read_row := FnOk.mono (k := 6) (ok_read_row (P := P) (w := w) (base := base) T) (by decide)
  refine okGC (d__law_right T) sc__law_right (fun vs H Q E h => ?len) (fun cdv A outer s H vs Q E hcd gd hr h => ?bod)
  case len =>
    obtain ⟨p, rfl, _⟩ := h; rfl
  case bod =>
    obtain ⟨p, rfl, hp, htb, k⟩ := h
    have hu := hu_of hr
    have hpt : (("_law_right", none) : He.Defn) ∈ tf := by simp [tf]
    have hmT := tab_in (K := K) hpt (nm := Str.ofString "_law_right" ++ Str.ofString ".<locals>." ++ Str.ofString "<lambda>") (by decide +kernel)
    have huT := tab_un T hpt (nm := Str.ofString "_law_right" ++ Str.ofString ".<locals>." ++ Str.ofString "<lambda>") (by decide +kernel)
    refine ⟨_, PSs.nox (pss_cons (ps_asg (pe_call G__law_drawn_book hr (by rfl) (T.glo_ 50) (d__law_drawn_book T).kp (b__law_drawn_book T) .nil pass0 (pa_cons (pv 0) (pa_cons pe_int pa_nil))) (k_tup (K := K) (n := 3) (by rfl) rfl (pgs_cons (pg_name (i := 1) sc__law_right.nd rfl (Or.inr rfl)) (pgs_cons (pg_name (i := 2) sc__law_right.nd rfl (Or.inl rfl)) (pgs_cons (pg_name (i := 3) sc__law_right.nd rfl (Or.inl rfl)) pgs_nil)))))
      (pss_cons (ps_set (i := 4) sc__law_right.nd rfl (Or.inl rfl) (pe_call G_book_text hr (by rfl) (T.glo_ 51) (d_book_text T).kp (b_book_text T) .nil pass0 (pa_cons (pv 3) pa_nil)))
      (pss_cons (ps_if (pt_not (pt_val (pe_callG gd G__law_book_right hr (by rfl) (T.glo_ 52) (d__law_book_right T).kp (b__law_book_right T) pass0 (pa_cons (pv 4) pa_nil)))) (pss_one (ps_ret pe_bl)) pss_nil)
      (pss_cons (ps_for PassesOwn.never rfl (pi_range1 (by rfl) (T.free_ 44) (pa_cons pe_int pa_nil)) (pg_name (i := 5) sc__law_right.nd rfl (Or.inl rfl))
      (pss_cons (ps_set (i := 6) sc__law_right.nd rfl (Or.inl rfl) (pv 4))
      (pss_cons (ps_for PassesOwn.never rfl (pi_range1 (by rfl) (T.free_ 44) (pa_cons (pe_op op_add pe_int (pe_call G__law_draw hr (by rfl) (T.glo_ 43) (d__law_draw T).kp (b__law_draw T) .nil pass0 (pa_cons (pv 0) (pa_cons pe_int pa_nil)))) pa_nil)) (pg_name (i := 7) sc__law_right.nd rfl (Or.inl rfl))
      (pss_one (ps_set (i := 6) sc__law_right.nd rfl (Or.inl rfl) (pe_call G__law_bent hr (by rfl) (T.glo_ 53) (d__law_bent T).kp (b__law_bent T) .nil pass0 (pa_cons (pv 0) (pa_cons (pv 6) (pa_cons (pv 1) pa_nil)))))))
      (pss_cons (ps_if (pt_not (pt_val (pe_callG gd G__law_book_right hr (by rfl) (T.glo_ 52) (d__law_book_right T).kp (b__law_book_right T) pass0 (pa_cons (pv 6) pa_nil)))) (pss_one (ps_ret pe_bl)) pss_nil)
      (pss_cons (ps_set (i := 8) sc__law_right.nd rfl (Or.inl rfl) (pe_bm PySem.F.plainAttrs_str PySem.F.slot_str_join PySem.F.type_str_join (k_join (K := K) (by rfl)) pe_str (pa_cons (pe_lc (own := [("_law_k", 9)]) rfl sc__law_right.nd (pi_range1 (by rfl) (T.free_ 44) (pa_cons (pe_call G__law_draw hr (by rfl) (T.glo_ 43) (d__law_draw T).kp (b__law_draw T) .nil pass0 (pa_cons (pv 0) (pa_cons pe_int pa_nil))) pa_nil)) (blkOk_by (N := N__law_right) (sc := defScope s__law_right) (by decide +kernel)) (fun _ _ _ _ _ => (pg_name (i := 9) sc__law_right.nd rfl (Or.inl rfl))) (fun _ _ _ _ _ => pts_nil) (fun _ _ _ _ _ => (pe_call G__law_pick hr (by rfl) (T.glo_ 45) (d__law_pick T).kp (b__law_pick T) .nil pass0 (pa_cons (pv 0) (pa_cons (pv 1) pa_nil))))) pa_nil)))
      (pss_one (ps_if (pw_or (pt_not (pt_val (pe_callG gd G__law_row_right hr (by rfl) (T.glo_ 54) (d__law_row_right T).kp (b__law_row_right T) pass0 (pa_cons (pe_call G__law_bent hr (by rfl) (T.glo_ 53) (d__law_bent T).kp (b__law_bent T) .nil pass0 (pa_cons (pv 0) (pa_cons (pv 8) (pa_cons (pv 1) pa_nil)))) pa_nil)))) (pw_or1 (pt_not (pt_val (pe_callG gd G__law_row_right hr (by rfl) (T.glo_ 54) (d__law_row_right T).kp (b__law_row_right T) pass0 (pa_cons (pv 8) pa_nil)))))).pt (pss_one (ps_ret pe_bl)) pss_nil)))))))
      (pss_cons (ps_for PassesOwn.never rfl (k_pil (K := K) (by rfl) (pe_lst (pa_cons pe_non (pa_cons pe_int (pa_cons pe_bl (pa_cons (pe_lst (pa_cons pe_str pa_nil)) (pa_cons (pe_tup (pa_cons pe_str pa_nil)) (pa_cons pe_dnewT (pa_cons (pe_make (T.mkr_ 55) G_Rowdd_initdd hr (by rfl) (T.glo_ 16) (b_Rowdd_initdd T) .nil pass0 (pa_cons (pe_lst (pa_cons pe_str pa_nil)) pa_nil)) (pa_cons (pv 3) pa_nil)))))))))) (pg_name (i := 10) sc__law_right.nd rfl (Or.inr rfl))
      (pss_cons (ps_set (i := 11) sc__law_right.nd rfl (Or.inl rfl) (pe_lst (pa_cons (pe_told T TBs hpt hcd hmT huT hr (by rfl) (lamS_by (sc := defScope s__law_right) (by decide +kernel)) (by rfl) (fun _ _ _ _ _ => rfl) fun A outer s H E f c hr => (pe_call (E := E) G_read_book hr (by rfl) (T.glo_ 62) (d_read_book T).kp (b_read_book T) .nil (passes_call (takes_of rfl rfl rfl rfl) fun _ _ _ _ h => h) (pa_cons (pv 10) pa_nil))) pa_nil)))
      (pss_cons (ps_expr (pe_bm PySem.F.plainAttrs_list PySem.F.slot_list_append PySem.F.type_list_append mt_append (pv 11) (pa_cons (pe_told T TBs hpt hcd hmT huT hr (by rfl) (lamS_by (sc := defScope s__law_right) (by decide +kernel)) (by rfl) (fun _ _ _ _ _ => rfl) fun A outer s H E f c hr => (pe_call (E := E) G_read_row hr (by rfl) (T.glo_ 64) (d_read_row T).kp (b_read_row T) .nil (passes_call (takes_of rfl rfl rfl rfl) fun _ _ _ _ h => h) (pa_cons (pv 10) pa_nil))) pa_nil)))
      (pss_one (ps_if (pt_cmpR op_ne (pe_callB (k_reprD (K := K) (by rfl) gd (u66 hr)) (by rfl) (T.free_ 63) (by decide +kernel) (pa_cons (pv 11) pa_nil)) (pe_callB (k_reprD (K := K) (by rfl) gd (u66 hr)) (by rfl) (T.free_ 63) (by decide +kernel) (pa_cons (pe_op op_rep (pe_lst (pa_cons (pe_lst (pa_cons pe_str (pa_cons pe_non (pa_cons pe_bl pa_nil)))) pa_nil)) pe_int) pa_nil)) (nomark _)) (pss_one (ps_ret pe_bl)) pss_nil)))))
      (pss_cons (ps_for PassesOwn.never rfl (k_pil (K := K) (by rfl) (pe_lst (pa_cons pe_str (pa_cons pe_str (pa_cons pe_str (pa_cons pe_str (pa_cons pe_str (pa_cons (pe_bm PySem.F.plainAttrs_str PySem.F.slot_str_join PySem.F.type_str_join (k_join (K := K) (by rfl)) pe_str (pa_cons (pe_op op_rep (pe_lst (pa_cons pe_str pa_nil)) pe_int) pa_nil)) pa_nil)))))))) (pg_name (i := 12) sc__law_right.nd rfl (Or.inl rfl))
      (pss_one (ps_if (pw_or (pt_not (pt_val (pe_callG gd G__law_row_right hr (by rfl) (T.glo_ 54) (d__law_row_right T).kp (b__law_row_right T) pass0 (pa_cons (pv 12) pa_nil)))) (pw_or1 (pt_not (pt_val (pe_callG gd G__law_book_right hr (by rfl) (T.glo_ 52) (d__law_book_right T).kp (b__law_book_right T) pass0 (pa_cons (pe_op op_add_str (pe_op op_add_str pe_str (pv 12)) pe_str) pa_nil)))))).pt (pss_one (ps_ret pe_bl)) pss_nil)))
      (pss_cons (ps_set (i := 13) sc__law_right.nd rfl (Or.inl rfl) pe_str)
      (pss_one (ps_ret (pe_and (pe_callG gd G__law_book_right hr (by rfl) (T.glo_ 52) (d__law_book_right T).kp (b__law_book_right T) pass0 (pa_cons (pv 13) pa_nil)) (pe_one (pe_callG gd G__law_book_right hr (by rfl) (T.glo_ 52) (d__law_book_right T).kp (b__law_book_right T) pass0 (pa_cons pe_str pa_nil))))))))))))), ?_⟩
    refine ⟨_, rfl, p, rfl, hp, fun H1 t0 l d bp bt bq ns R s1 hp1 ht1 hl1 hB1 hS hok h1 h6 hR hlp => ⟨t0, _, rfl, .inl (.inl ht1), rfl, _, _, rfl, _, _, rfl, _, _, rfl, rfl, ?_⟩⟩
    have hFs : ∀ f ∈ factsL R (pairsL ns), FsOk f := fun f hf => by
      obtain ⟨q, hq, e⟩ := List.mem_filterMap.mp hf
      cases e2 : R q.1 q.2 with
      | none => rw [e2] at e; cases e
      | some r =>
        rw [e2] at e
        cases e
        have hm := pairsL_mem hq
        exact ⟨hok _ hm.1, hok _ hm.2, e2 ▸ hR q.1 q.2⟩
    have hfl : (factsL R (pairsL ns)).length ≤ 36 := by
      have := factsL_len R (pairsL ns)
      have := pairsL_len h6
      omega
    obtain ⟨hto, htl⟩ := text_oks hok h6 hFs hfl
    obtain ⟨dx1, hi1⟩ := hB1.ins
    have b1 : Bx K p l bp ns H H1 := ⟨fun b o n h _ => s1 b o (by simp [n]) h, hp1, tabs_x htb hp s1, hl1, dx1, _, hi1⟩
    refine ⟨_, rfl, bp, bt, bq, ns, R, rfl, hB1, h6, hok, hR, fun H2 s2 => ?_⟩
    have b2 := b1.same s2
    generalize textOf ns (factsL R (pairsL ns)) = X0 at hto htl ⊢
    refine ⟨_, rfl, X0, rfl, by omega, hto, b2.tb, fun H3 e3 tb3 => ⟨true, rfl, iteF ?_⟩⟩
    have b3 := b2.ext e3 tb3
    clear hB1 hi1 b1 b2 s1 s2 e3
    refine ⟨_, rfl, by omega, by omega, for_range (lo := 0) (n := 12) (fun i σ H' => ∃ (v5 v6 v7 v8 : Option V), σ = [some (.ref p), some (.ref l), some (.ref d), some (.ref bp), some (.str X0), v5, v6, v7, v8, none, none, none, none, none] ∧ Bx K p l bp ns H H')
      ⟨none, none, none, none, rfl, b3⟩ ?_ ?_⟩
    · rintro i σ H4 hi ⟨v5, v6, v7, v8, rfl, b4⟩
      refine ⟨_, rfl, ?_⟩
      refine ⟨_, rfl, p, 3, rfl, b4.pot, by decide, by decide, fun H5 d5 s5 hp5 a0 a3 => ⟨_, _, rfl, rfl, _, rfl, by omega, by omega, for_range (lo := 0) (n := (1 + d5).toNat)
        (fun j σ H' => ∃ (z : Str) (v7 : Option V), σ = [some (.ref p), some (.ref l), some (.ref d), some (.ref bp), some (.str X0), some (.int (0 + (i : Nat))), some (.str z), v7, v8, none, none, none, none, none] ∧ Bx K p l bp ns H H' ∧ OkS z ∧ z.length ≤ bnd j)
        ⟨X0, v7, rfl, b4.x s5 hp5 hlp, hto, htl⟩ ?_ ?_⟩⟩
      · rintro j σ H6 hj ⟨z, v7, rfl, b6, hz, hzl⟩
        have hj3 : j < 3 := by omega
        have hb1 : bnd j ≤ 13000 ∧ bnd (j + 1) = 4 * bnd j + 40 := by
          rcases (show j = 0 ∨ j = 1 ∨ j = 2 by omega) with rfl | rfl | rfl <;> exact ⟨by decide, rfl⟩
        refine ⟨_, rfl, _, rfl, _, rfl, p, l, z, ns, rfl, b6.pot, b6.nm, hlp, h1, h6, hok, hz, by omega, fun H7 z' s7 hp7 hz' hzl' => ⟨z', _, rfl, b6.x s7 hp7 hlp, hz', by omega⟩⟩
      · rintro σ H6 ⟨z, v7, rfl, b6, hz, hzl⟩
        have hzb : z.length ≤ 100000 := by
          have : bnd (1 + d5).toNat ≤ 52040 := by
            rcases (show (1 + d5).toNat = 1 ∨ (1 + d5).toNat = 2 ∨ (1 + d5).toNat = 3 by omega) with e | e | e <;> rw [e] <;> decide
          omega
        refine ⟨_, rfl, z, rfl, hzb, hz, b6.tb, fun H7 e7 tb7 => ⟨true, rfl, iteF ?_⟩⟩
        have b7 := b6.ext e7 tb7
        refine ⟨rfl, _, rfl, p, 6, rfl, b7.pot, by decide, by decide, fun H8 d8 s8 hp8 c0 c6 => ⟨_, rfl, by omega, by omega, fun D hD => ?_⟩⟩
        have b8 := b7.x s8 hp8 hlp
        have hpD := b8.pot.ne hD
        have hlD : l ≠ D := ne_of_none b8.nm hD
        refine lcm_range (n := d8.toNat) (fun j acc H9 => ∃ ws : List Str, SameX [p] H8 H9 ∧ PotOk H9 p ∧ H9 D = some (.lst acc) ∧ acc = ws.map V.str ∧ ws.length = j ∧ ∀ y ∈ ws, NameOk y)
          ⟨[], same_toX (same_new hD) _, b8.pot.upd hpD, upd_same, rfl, rfl, by simp⟩ ?_ ?_
        · rintro j acc H9 hj ⟨ws, s9, hp9, hD9, rfl, hwl, hwo⟩
          have hnm9 := keep_x s9 hlp b8.nm
          refine ⟨_, rfl, _, rfl, p, .ref l, rfl, hp9, .inr ⟨l, ns.map V.str, rfl, hide_l hnm9 hlp, by rw [List.length_map]; exact h1, by rw [List.length_map]; omega, fun H10 v s10 hp10 hv => ?_⟩⟩
          obtain ⟨y, hy, rfl⟩ := List.mem_map.mp hv
          refine ⟨_, s10 D _ (by simp [hpD.symm]) hD9, by rw [List.length_map]; exact small1000 (by omega), _, ws ++ [y], samex_upd (s9.trans s10) (.inr hD), hp10.upd hpD, upd_same, by rw [List.map_append]; rfl, by simp [hwl], fun x hx => ?_⟩
          rcases List.mem_append.mp hx with h | h
          · exact hwo x h
          · rw [List.mem_singleton.mp h]; exact hok y hy
        · rintro acc H9 ⟨ws, s9, hp9, hD9, rfl, hwl, hwo⟩
          have b9 := b8.x s9 hp9 hlp
          have hsum := sum_le (l := ws) (n := 8) (fun x hx => (hwo x hx).2.1)
          have hwl6 : ws.length ≤ 6 := by omega
          have e1 : (Str.ofString " ").length = 1 := rfl
          have hjl : (Txt.join (Str.ofString " ") ws).length ≤ 60 := by
            rw [TL.join_eq]
            have := StrLaws.join_length_le (Str.ofString " ") ws
            rw [e1] at this
            omega
          have hjo : OkS (Txt.join (Str.ofString " ") ws) := by
            rw [TL.join_eq]
            exact OkS.join (by unfold OkS; decide) fun x hx => (hwo x hx).oks
          refine ⟨_, D, ws, rfl, rfl, .inl (SqL.of hD9), by rw [e1]; omega, ?_⟩
          generalize Txt.join (Str.ofString " ") ws = y at hjl hjo ⊢
          refine ⟨_, rfl, _, rfl, _, rfl, p, l, y, ns, rfl, b9.pot, b9.nm, hlp, h1, h6, hok, hjo, by omega, fun H10 z2 s10 hp10 hz2 hz2l => ?_⟩
          have b10 := b9.x s10 hp10 hlp
          refine ⟨z2, rfl, by omega, b10.tb, fun H11 e11 tb11 => ⟨true, rfl, iteF ?_⟩⟩
          have b11 := b10.ext e11 tb11
          refine ⟨_, rfl, y, rfl, by omega, b11.tb, fun H12 e12 tb12 => ⟨true, rfl, iteF ?_⟩⟩
          exact ⟨_, _, _, _, rfl, b11.ext e12 tb12⟩
    · rintro σ H4 ⟨v5, v6, v7, v8, rfl, b4⟩
      refine ⟨by show 1 ≤ sizeLine; decide, fun a1 ha1 => ⟨by show 1 ≤ sizeLine; decide, fun a2 ha2 => fun a3 ha3 => ⟨by show 1 ≤ sizeLine; decide, fun a4 ha4 => fun r dx hr0 hdx hne => ?_⟩⟩⟩
      have s6 : Same H4 (upd (upd (upd (upd (upd (upd H4 a1 (.lst [.str (Str.ofString "a")])) a2 (.tup [.str (Str.ofString "fixers a\n")])) a3 (.dT [])) a4 (.lst [.str (Str.ofString "a")])) dx (.own r)) r (.ins (He.ga K "Row") dx [])) :=
        ((((same_new ha1).trans (same_new ha2)).trans (same_new ha3)).trans (same_new ha4)).trans (same_upd (same_new hdx) hr0)
      have k2 := ((same_new (o := .tup [.str (Str.ofString "fixers a\n")]) ha2).trans (same_new (o := .dT []) ha3)).trans (same_new (o := .lst [.str (Str.ofString "a")]) ha4)
      have k3 := (same_new (o := .dT []) ha3).trans (same_new (o := .lst [.str (Str.ofString "a")]) ha4)
      have k4 := same_new (o := .lst [.str (Str.ofString "a")]) ha4
      have kr := same_upd (o := .ins (He.ga K "Row") dx []) (same_new (o := .own r) hdx) hr0
      have hA1 := kr _ _ (k2 _ _ (show (upd H4 a1 (.lst [.str (Str.ofString "a")])) a1 = _ from upd_same))
      have hA2 := kr _ _ (k3 _ _ (show (upd (upd H4 a1 (.lst [.str (Str.ofString "a")])) a2 (.tup [.str (Str.ofString "fixers a\n")])) a2 = _ from upd_same))
      have hA3 := kr _ _ (k4 _ _ (show (upd (upd (upd H4 a1 (.lst [.str (Str.ofString "a")])) a2 (.tup [.str (Str.ofString "fixers a\n")])) a3 (.dT [])) a3 = _ from upd_same))
      have hA4 := kr _ _ (show (upd (upd (upd (upd H4 a1 (.lst [.str (Str.ofString "a")])) a2 (.tup [.str (Str.ofString "fixers a\n")])) a3 (.dT [])) a4 (.lst [.str (Str.ofString "a")])) a4 = _ from upd_same)
      have hrN : H4 r = none := ((((same_new ha1).trans (same_new ha2)).trans (same_new ha3)).trans (same_new ha4)).free hr0
      have hA1r : a1 ≠ r := ne_of_none (k2 _ _ (show (upd H4 a1 (.lst [.str (Str.ofString "a")])) a1 = _ from upd_same)) hr0
      have hA2r : a2 ≠ r := ne_of_none (k3 _ _ (show (upd (upd H4 a1 (.lst [.str (Str.ofString "a")])) a2 (.tup [.str (Str.ofString "fixers a\n")])) a2 = _ from upd_same)) hr0
      have hA3r : a3 ≠ r := ne_of_none (k4 _ _ (show (upd (upd (upd H4 a1 (.lst [.str (Str.ofString "a")])) a2 (.tup [.str (Str.ofString "fixers a\n")])) a3 (.dT [])) a3 = _ from upd_same)) hr0
      refine ⟨r, dx, a4, [Str.ofString "a"], rfl, upd_same, .inl (SqL.of hA4), by decide, fun x hx => by rw [List.mem_singleton.mp hx]; decide +kernel, fun H5 t sx hr5 ht => ⟨rfl, _, rfl, by show 8 ≤ sizeLine; decide, fun ol hol => ?_⟩⟩
      have s45 := same_x1 s6 sx hrN
      have b5 := b4.same s45
      have hB1 := sx a1 _ (by simp [hA1r]) hA1
      have hB2 := sx a2 _ (by simp [hA2r]) hA2
      have hB3 := sx a3 _ (by simp [hA3r]) hA3
      obtain ⟨V8, hV8⟩ : ∃ V8 : List V, V8 = [.non, .int 0, .bl true, .ref a1, .ref a2, .ref a3, .ref r, .ref bp] := ⟨_, rfl⟩
      obtain ⟨dxb, fsb, hib⟩ := b5.ins
      have hodd : ∀ v ∈ V8, OddV K H5 v := by
        intro v hv
        rw [hV8] at hv
        simp only [List.mem_cons, List.not_mem_nil, or_false] at hv
        rcases hv with rfl | rfl | rfl | rfl | rfl | rfl | rfl | rfl
        · exact .inl rfl
        · exact .inr (.inl rfl)
        · exact .inr (.inr (.inl rfl))
        · exact .inr (.inr (.inr (.inl ⟨a1, _, rfl, hB1⟩)))
        · exact .inr (.inr (.inr (.inr (.inl ⟨a2, _, rfl, hB2⟩))))
        · exact .inr (.inr (.inr (.inr (.inr (.inl ⟨a3, _, rfl, hB3⟩)))))
        · exact .inr (.inr (.inr (.inr (.inr (.inr (.inl ⟨r, _, _, rfl, hr5⟩))))))
        · exact .inr (.inr (.inr (.inr (.inr (.inr (.inr ⟨bp, _, _, rfl, hib⟩))))))
      rw [← hV8]
      have so := same_new (o := .lst V8) hol
      have b6 := b5.same so
      have hodd6 : ∀ v ∈ V8, OddV K (upd H5 ol (.lst V8)) v := fun v hv => (hodd v hv).ext (ExtN.of so)
      have hol6 : (upd H5 ol (.lst V8)) ol = some (.lst V8) := upd_same
      clear hV8 hodd hB1 hB2 hB3 hib sx hr5 ht s45 b5 hA1 hA2 hA3 hA4 k2 k3 k4 kr s6 hr0 hdx ha1 ha2 ha3 ha4 b4
      generalize upd H5 ol (.lst V8) = H6 at so b6 hodd6 hol6 ⊢
      refine ⟨ol, rfl, ⟨_, SqL.of hol6⟩, for_list (xs := V8) (fun i σ H' => ∃ (v10 v11 : Option V), σ = [some (.ref p), some (.ref l), some (.ref d), some (.ref bp), some (.str X0), v5, v6, v7, v8, none, v10, v11, none, none] ∧ Bx K p l bp ns H H' ∧ H' ol = some (.lst V8) ∧ ∀ v ∈ V8, OddV K H' v)
        ⟨none, none, rfl, b6, hol6, hodd6⟩ (fun i σ H' _ ⟨_, _, _, _, h, _⟩ => SqL.of h) ?_ ?_⟩
      · rintro i v σ H7 hv ⟨v10, v11, rfl, b7, hol7, hodd7⟩
        have hvo := hodd7 v (List.mem_of_getElem? hv)
        obtain ⟨ty, hty, hkit⟩ := hvo.ty T
        refine ⟨b7.tb, fun H8 e8 tb8 => ?_⟩
        have b8 := b7.ext e8 tb8
        obtain ⟨ty8, hty8, hkit8⟩ := (hvo.ext e8).ty T
        refine ⟨_, rfl, .inr ⟨v, ty8, rfl, hty8, hkit8, fun H9 dd s9 hdd hd9 => ⟨rfl, dd, .non, rfl, hd9, fun l1 hl1 => ⟨by show 1 ≤ sizeLine; decide, fun m hm => ?_⟩⟩⟩⟩
        have e7m : ExtN H7 (upd H9 l1 (.lst [.str (Str.ofString "wrong"), .non, .bl true])) := e8.trans (ExtN.of (s9.trans (same_new hl1)))
        have hmf : ∀ b o, H7 b = some o → (∀ ps, o ≠ .tbl ps) → b ≠ m := fun b o h n => ne_of_none (e7m b o h n) hm
        have s10 := (s9.trans (same_new (o := .lst [.str (Str.ofString "wrong"), .non, .bl true]) hl1)).trans (same_new (o := .lst [.ref l1]) hm)
        have hl10 := same_new (o := .lst [.ref l1]) hm _ _ (show (upd H9 l1 (.lst [.str (Str.ofString "wrong"), .non, .bl true])) l1 = _ from upd_same)
        have hm10 : (upd (upd H9 l1 (.lst [.str (Str.ofString "wrong"), .non, .bl true])) m (.lst [.ref l1])) m = some (.lst [.ref l1]) := upd_same
        have b10 := b8.same s10
        have e10 := e8.trans (ExtN.of s10)
        generalize upd (upd H9 l1 (.lst [.str (Str.ofString "wrong"), .non, .bl true])) m (.lst [.ref l1]) = H10 at s10 hl10 hm10 b10 e10 ⊢
        refine ⟨_, rfl, .inl ⟨rfl, _, SqL.of hm10⟩, b10.tb, fun H11 e11 tb11 => ?_⟩
        have b11 := b10.ext e11 tb11
        obtain ⟨ty11, hty11, hkit11⟩ := (hvo.ext (e10.trans e11)).ty T
        refine ⟨_, rfl, .inr ⟨v, ty11, rfl, hty11, hkit11, fun H12 dd2 s12 hdd2 hd12 => ⟨rfl, dd2, .non, rfl, hd12, fun l2 hl2 => ?_⟩⟩⟩
        have s13 := s12.trans (same_new (o := .lst [.str (Str.ofString "wrong"), .non, .bl true]) hl2)
        have hl23 : (upd H12 l2 (.lst [.str (Str.ofString "wrong"), .non, .bl true])) l2 = some (.lst [.str (Str.ofString "wrong"), .non, .bl true]) := upd_same
        have b13 := b11.same s13
        have e13 := (e10.trans e11).trans (ExtN.of s13)
        have hl13 := s13 _ _ (e11 _ _ hl10 (by intro ps z; cases z))
        have hm13 := s13 _ _ (e11 _ _ hm10 (by intro ps z; cases z))
        refine ⟨m, _, _, rfl, rfl, hm13, by show 1 < sizeLine; decide, ?_⟩
        have e14 : ExtN H7 (upd (upd H12 l2 (.lst [.str (Str.ofString "wrong"), .non, .bl true])) m (.lst ([.ref l1] ++ [.ref l2]))) := fun b o h n => by rw [upd_ne (hmf b o h n)]; exact e13 b o h n
        have t14 : Tabs (tabsL K) (upd (upd H12 l2 (.lst [.str (Str.ofString "wrong"), .non, .bl true])) m (.lst ([.ref l1] ++ [.ref l2]))) := tabs_put b13.tb hm13
        have l1m : l1 ≠ m := fun e => by rw [e, hm13] at hl13; cases hl13
        have l2m : l2 ≠ m := (ne_of_none (s12 _ _ (e11 _ _ hm10 (by intro ps z; cases z))) hl2).symm
        have hl14 : (upd (upd H12 l2 (.lst [.str (Str.ofString "wrong"), .non, .bl true])) m (.lst ([.ref l1] ++ [.ref l2]))) l1 = _ := (upd_ne l1m).trans hl13
        have hl24 : (upd (upd H12 l2 (.lst [.str (Str.ofString "wrong"), .non, .bl true])) m (.lst ([.ref l1] ++ [.ref l2]))) l2 = _ := (upd_ne l2m).trans hl23
        have hm14 : (upd (upd H12 l2 (.lst [.str (Str.ofString "wrong"), .non, .bl true])) m (.lst ([.ref l1] ++ [.ref l2]))) m = some (.lst [.ref l1, .ref l2]) := upd_same
        generalize upd (upd H12 l2 (.lst [.str (Str.ofString "wrong"), .non, .bl true])) m (.lst ([.ref l1] ++ [.ref l2])) = H14 at e14 t14 hl14 hl24 hm14 ⊢
        obtain ⟨_, q1, q2, q3, q4⟩ := errN_ok
        refine ⟨_, rfl, m, .list [errD .none, errD .none], rfl, .lst (SqL.of hm14) (.cons (dp_err hl14 .non) (.cons (dp_err hl24 .non) .nil)), q1, q2, q3, q4, ?_⟩
        refine ⟨by show 3 ≤ sizeLine; decide, fun i1 hi1 => ⟨by show 1 ≤ sizeLine; decide, fun o1 ho1 => ?_⟩⟩
        have s15 := (same_new (o := .lst [.str (Str.ofString "wrong"), .non, .bl true]) hi1).trans (same_new (o := .lst [.ref i1]) ho1)
        have hi15 := same_new (o := .lst [.ref i1]) ho1 _ _ (show (upd H14 i1 (.lst [.str (Str.ofString "wrong"), .non, .bl true])) i1 = _ from upd_same)
        refine ⟨o1, 2, [.ref i1], rfl, rfl, upd_same, by decide, by decide, by show 1 * 2 ≤ sizeLine; decide, fun r1 hr1 => ?_⟩
        have s16 := s15.trans (same_new (o := .lst [.ref i1, .ref i1]) hr1)
        have hi16 := same_new (o := .lst [.ref i1, .ref i1]) hr1 _ _ hi15
        refine ⟨r1, .list [errD .none, errD .none], rfl, .lst (SqL.of upd_same) (.cons (dp_err hi16 .non) (.cons (dp_err hi16 .non) .nil)), q1, q2, q3, q4, rfl, false, ?_, iteF ?_⟩
        · show V.bl (!decide (V.str _ = V.str _)) = _
          rw [decide_eq_true rfl]; rfl
        have e16 := e14.trans (ExtN.of s16)
        exact ⟨_, _, rfl, b7.ext e16 (t14.ext s16), e16 _ _ hol7 (by intro ps z; cases z), fun v hv => (hodd7 v hv).ext e16⟩
      · rintro σ H7 ⟨v10, v11, rfl, b7, hol7, hodd7⟩
        refine ⟨rfl, by show 1 ≤ sizeLine; decide, fun a5 ha5 => ?_⟩
        refine ⟨a5, 401, [.str (Str.ofString "ab")], rfl, rfl, upd_same, by decide, by decide, by show 1 * 401 ≤ sizeLine; decide, fun b5 hb5 => ?_⟩
        have hfl401 : (List.replicate (401 : Int).toNat [V.str (Str.ofString "ab")]).flatten = (List.replicate 401 (Str.ofString "ab")).map V.str := by
          rw [show (401 : Int).toNat = 401 from rfl, List.map_replicate]; simp
        rw [hfl401]
        have s8 := (same_new (o := .lst [.str (Str.ofString "ab")]) ha5).trans (same_new (o := .lst ((List.replicate 401 (Str.ofString "ab")).map V.str)) hb5)
        have hb8 : (upd (upd H7 a5 (.lst [.str (Str.ofString "ab")])) b5 (.lst ((List.replicate 401 (Str.ofString "ab")).map V.str))) b5 = some (.lst ((List.replicate 401 (Str.ofString "ab")).map V.str)) := upd_same
        have hsum := sum_le (l := List.replicate 401 (Str.ofString "ab")) (n := 2) (fun x hx => by rw [List.eq_of_mem_replicate hx]; decide)
        have e1 : (Str.ofString " ").length = 1 := rfl
        rw [List.length_replicate] at hsum
        have hjl : (Txt.join (Str.ofString " ") (List.replicate 401 (Str.ofString "ab"))).length ≤ 2000 := by
          rw [TL.join_eq]
          have := StrLaws.join_length_le (Str.ofString " ") (List.replicate 401 (Str.ofString "ab"))
          rw [e1, List.length_replicate] at this
          omega
        have hjo : OkS (Txt.join (Str.ofString " ") (List.replicate 401 (Str.ofString "ab"))) := by
          rw [TL.join_eq]
          exact OkS.join (by unfold OkS; decide) fun x hx => by rw [List.eq_of_mem_replicate hx]; unfold OkS; decide
        refine ⟨_, b5, List.replicate 401 (Str.ofString "ab"), rfl, rfl, .inl (SqL.of hb8), by rw [e1, List.length_replicate]; omega, ?_⟩
        generalize Txt.join (Str.ofString " ") (List.replicate 401 (Str.ofString "ab")) = J at hjl hjo ⊢
        refine ⟨by show 6 ≤ sizeLine; decide, fun nl hnl => ?_⟩
        obtain ⟨N6, hN6⟩ : ∃ N6 : List V, N6 = [.str (Str.ofString "abcdefghi"), .str (Str.ofString "a abcdefghi"), .str (Str.ofString "abcdefgh"), .str (Str.ofString "a abcdefgh"), .str (Str.ofString "fixers"), .str J] := ⟨_, rfl⟩
        have hNok : ∀ v ∈ N6, ∃ y : Str, v = .str y ∧ OkS y ∧ y.length ≤ 2000 := by
          intro v hv
          rw [hN6] at hv
          simp only [List.mem_cons, List.not_mem_nil, or_false] at hv
          rcases hv with rfl | rfl | rfl | rfl | rfl | rfl
          · exact ⟨_, rfl, by unfold OkS; decide, by decide⟩
          · exact ⟨_, rfl, by unfold OkS; decide, by decide⟩
          · exact ⟨_, rfl, by unfold OkS; decide, by decide⟩
          · exact ⟨_, rfl, by unfold OkS; decide, by decide⟩
          · exact ⟨_, rfl, by unfold OkS; decide, by decide⟩
          · exact ⟨_, rfl, hjo, hjl⟩
        rw [← hN6]
        have b9 := (b7.same s8).same (same_new (o := .lst N6) hnl)
        have hnl9 : (upd (upd (upd H7 a5 (.lst [.str (Str.ofString "ab")])) b5 (.lst ((List.replicate 401 (Str.ofString "ab")).map V.str))) nl (.lst N6)) nl = some (.lst N6) := upd_same
        clear hN6 hb8 hsum hfl401
        generalize upd (upd (upd H7 a5 (.lst [.str (Str.ofString "ab")])) b5 (.lst ((List.replicate 401 (Str.ofString "ab")).map V.str))) nl (.lst N6) = H9 at b9 hnl9 ⊢
        refine ⟨nl, rfl, ⟨_, SqL.of hnl9⟩, for_list (xs := N6) (fun i σ H' => ∃ (v12 : Option V), σ = [some (.ref p), some (.ref l), some (.ref d), some (.ref bp), some (.str X0), v5, v6, v7, v8, none, v10, v11, v12, none] ∧ Bx K p l bp ns H H' ∧ H' nl = some (.lst N6))
          ⟨none, rfl, b9, hnl9⟩ (fun i σ H' _ ⟨_, _, _, h⟩ => SqL.of h) ?_ ?_⟩
        · rintro i v σ HA hv ⟨v12, rfl, bA, hnlA⟩
          obtain ⟨y, rfl, hyo, hyl⟩ := hNok v (List.mem_of_getElem? hv)
          refine ⟨_, rfl, y, rfl, by omega, bA.tb, fun HB eB tbB => ⟨true, rfl, iteF ?_⟩⟩
          have e7 : (Str.ofString "fixers ").length = 7 := rfl
          have e2 : (Str.ofString "\n").length = 1 := rfl
          refine ⟨_, rfl, _, _, rfl, rfl, Nat.le_trans (show (Str.ofString "fixers ").length + y.length ≤ 3000 by rw [e7]; omega) (by decide), _, _, rfl, rfl, Nat.le_trans (show (Str.ofString "fixers " ++ y).length + (Str.ofString "\n").length ≤ 3000 by rw [Str.length_append, e7, e2]; omega) (by decide), _, rfl, by rw [Str.length_append, Str.length_append, e7, e2]; omega, ((show OkS (Str.ofString "fixers ") by unfold OkS; decide).app hyo).app (by unfold OkS; decide), tbB, fun HC eC tbC => ⟨true, rfl, iteF ?_⟩⟩
          exact ⟨_, rfl, (bA.ext eB tbB).ext eC tbC, eC _ _ (eB _ _ hnlA (by intro ps z; cases z)) (by intro ps z; cases z)⟩
        · rintro σ HA ⟨v12, rfl, bA, hnlA⟩
          refine ⟨_, rfl, _, rfl, by decide, by unfold OkS; decide, bA.tb, fun HB eB tbB => ⟨true, rfl, iteT ?_⟩⟩
          refine ⟨_, rfl, by decide, by unfold OkS; decide, tbB, fun HC eC tbC => ?_⟩
          have bC := (bA.ext eB tbB).ext eC tbC
          exact k _ bC.sx bC.tb
end
end T85
end

section
set_option Elab.async false
set_option linter.all false
set_option maxRecDepth 100000
set_option maxHeartbeats 4000000
namespace T85
open PySem PySem.Spec L2 Fx LamX
section
variable {P : Program} {w : World} {K : PySem.W.Frag} {mg : Str → Option Value} {base : Heap}
theorem sql_ext {H H' : Hp} {a : Addr} {xs : List V} (h : SqL K H a xs) (e : ExtN H H') : SqL K H' a xs := by
  rcases h with (h | ⟨o, h⟩) | h
  · exact .inl (.inl (e _ _ h (by intro ps z; cases z)))
  · exact .inl (.inr ⟨o, e _ _ h (by intro ps z; cases z)⟩)
  · exact .inr h
def spLaw (K : PySem.W.Frag) : Sp := fun vs H Q _ => ∃ (a : Addr) (ns : List Int), vs = [.ref a] ∧ SqL K H a (ns.map V.int) ∧ Tabs (tabsL K) H ∧ ∀ H', Q (.bl true) H'
theorem ok_law (T : Says w K mg) (TBs : ∀ p ∈ tf, TabB base mg (He.cT K p).1 (He.cT K p).2) : OkG P w K mg base 10 ("law", none) ["_law_script"] (spLaw K) := by
  have G__law_pot := FnOk.mono (k := 9) (ok__law_pot (P := P) (w := w) (base := base) T) (by decide)
  have G__law_right := FnOkG.mono (k := 9) (ok__law_right (P := P) (w := w) (base := base) T TBs) (by decide)
  refine okG (d_law T) sc_law (fun vs H Q E h => ?len) (fun cdv A outer s H vs Q E gd hr h => ?bod)
  case len =>
    obtain ⟨a, ns, rfl, _⟩ := h; rfl
  case bod =>
    obtain ⟨a, ns, rfl, ha, htb, k⟩ := h
    refine ⟨_, PSs.nox (pss_one (ps_ret (pe_callB (k_all (K := K) (by rfl) rfl) (by rfl) (T.free_ 9) (by decide +kernel) (pa_cons (pe_lc (own := [("_law_k", 1)]) rfl sc_law.nd (pi_range1 (by rfl) (T.free_ 44) (pa_cons (pe_callB (call_max2 rfl) (by rfl) (T.free_ 41) (by decide +kernel) (pa_cons pe_int (pa_cons (pe_callB (call_min2 rfl) (by rfl) (T.free_ 57) (by decide +kernel) (pa_cons (pe_callB (k_len (K := K) (by rfl)) (by rfl) (T.free_ 6) (by decide +kernel) (pa_cons (pv 0) pa_nil)) (pa_cons pe_int pa_nil))) pa_nil))) pa_nil)) (blkOk_by (N := N_law) (sc := defScope s_law) (by decide +kernel)) (fun _ _ _ _ _ => (pg_name (i := 1) sc_law.nd rfl (Or.inl rfl))) (fun _ _ _ _ _ => pts_nil) (fun _ _ _ _ _ => (pe_callG gd G__law_right hr (by rfl) (T.glo_ 59) (d__law_right T).kp (b__law_right T) pass0 (pa_cons (pe_call G__law_pot hr (by rfl) (T.glo_ 58) (d__law_pot T).kp (b__law_pot T) .nil pass0 (pa_cons (pv 0) (pa_cons (pv 1) pa_nil))) pa_nil)))) pa_nil)))), ?_⟩
    refine ⟨_, rfl, a, _, rfl, .inl ha, _, 4, rfl, 1, _, rfl, ?_⟩
    rw [List.length_map]
    obtain ⟨m, hm, hm5⟩ : ∃ m : Nat, (if (if (4 : Int) < ((ns.length : Nat) : Int) then (4 : Int) else ((ns.length : Nat) : Int)) > 1 then (if (4 : Int) < ((ns.length : Nat) : Int) then (4 : Int) else ((ns.length : Nat) : Int)) else 1) = (m : Int) ∧ m ≤ 4 := by
      refine ⟨max 1 (min 4 ns.length), ?_, by omega⟩
      split <;> split <;> omega
    rw [hm]
    refine ⟨_, rfl, by omega, by omega, fun D hD => lcm_range (n := ((m : Nat) : Int).toNat) (fun i acc H' => ExtN H H' ∧ Tabs (tabsL K) H' ∧ H' D = some (.lst acc) ∧ acc = (List.replicate i true).map V.bl) ⟨ExtN.of (same_new hD), htb.ext (same_new hD), upd_same, rfl⟩ ?_ ?_⟩
    · rintro i acc H1 hi ⟨e1, t1, hL, rfl⟩
      refine ⟨_, rfl, _, rfl, a, ns, i, by show [V.ref a, V.int ((0 : Int) + (i : Nat))] = _; rw [Int.zero_add], sql_ext ha e1, by omega, fun H2 p s2 hp hP => ⟨p, rfl, hP, t1.ext s2, fun H3 s3 t3 => ?_⟩⟩
      have e13 : ExtN H1 H3 := fun b o h n => s3 b o (fun z => by rw [z, hp] at h; cases h) (s2 b o h) n
      have hL3 := e13 _ _ hL (by intro ps z; cases z)
      have e3 := e1.trans e13
      refine ⟨_, hL3, by simp; exact small1000 (by omega), _, fun b o h n => ?_, tabs_put t3 hL3, upd_same, ?_⟩
      · have : b ≠ D := fun z => by rw [z, hD] at h; cases h
        rw [upd_ne this]; exact e3 b o h n
      · rw [List.replicate_succ', List.map_append]; rfl
    · rintro acc H1 ⟨e1, t1, hL, rfl⟩
      refine ⟨D, _, rfl, SqL.of hL, ?_⟩
      have e : (List.replicate ((m : Nat) : Int).toNat true).all id = true := by rw [List.all_eq_true]; intro x hx; rw [List.eq_of_mem_replicate hx]; rfl
      show Q (.bl ((List.replicate ((m : Nat) : Int).toNat true).all id)) H1
      rw [e]; exact k H1
end
end T85
end

set_option Elab.async false
set_option linter.all false
set_option maxRecDepth 100000
set_option maxHeartbeats 0
namespace T85
open PySem PySem.W PySem.Calls PyProof.Rows Fx L2 LamX
theorem facts {P : Program} {w : World} {K : PySem.W.Frag} {h : Heap} {mg : PySem.Str → Option Value} {f : Addr} (X : K.In h) (G : h.Ns mainGlobals mg) (hfa : mg ("law" : PySem.Str) = some (.ref f)) (c : SaysL fa fn gsl [wordsT] tf chk w h K) :
    ∃ fd : FuncData, (∀ (s : Shared) (v : Value), BindsTo s fd ⟨[v], []⟩ [("_law_script", v)]) ∧ ∀ base : Heap, K.In base → base.Ns mainGlobals mg → (∀ q ∈ tf.map (He.cT K), TabB base mg q.1 q.2) → FnOkG P w K mg base CX0 10 f fd ["_law_script"] (spLaw K) := by
  have T : Says w K mg := ⟨c.tab 0, c.c, h, X, G⟩
  have e := hfa.symm.trans (T.glo_ 66 (x := "law"))
  have e2 : f = He.fAd K ("law", none) := by cases e; rfl
  subst e2
  have b := FunD.bindsA (ps := ["_law_script"]) (d_law T) fun _ _ _ _ _ _ us hl => match us, hl with | [_], _ => rfl
  exact ⟨fdOf K (He.fAd K ("law", none)), fun s v => b s [v] rfl, fun base _ _ hT => ok_law T fun p hp => hT _ (List.mem_map.mpr ⟨p, hp, rfl⟩)⟩
theorem tabs0 {K : PySem.W.Frag} {H : L2.Hp} (hT : ∀ q ∈ tf.map (He.cT K), H q.2 = some (.tbl #[])) : Tabs (tabsL K) H := fun q hq => by
  obtain ⟨p, hp, rfl⟩ := List.mem_map.mp hq
  exact TabS.nil (hT _ (List.mem_map.mpr ⟨p, hp, rfl⟩))
end T85
open PySem PySem.W PySem.Calls PyProof.Rows
theorem PySem.Challenge.cw_fixrest_k91_wrong_lines_holds : PySem.Challenge.rw_fixrest_k91_wrong_lines.Holds := by
  w_on; o_law
  refine HandSHeadRun.head_any (r := T85.R) (q := T85.qv) (H := T85.hk) (ob := T85.ob) (M := 8000) (loose := T85.loose) (d := HandSHeadRun.topDef T85.R.prog 61) (kwd := []) T85.ob_eq
    (by kernel_rfl) (fun s => by kernel_rfl) T85.run (by kernel_rfl) (by kernel_rfl) (by kernel_rfl) (by rfl) (by first | assumption | decide +kernel) (by decide +kernel) ⟨rfl, rfl, rfl, rfl, rfl, by decide +kernel⟩ ?hw ?hc
  case hw => w_witness2
  case hc =>
    refine Fx.walk_ofTG (l := PySem.Challenge.rw_fixrest_k91_wrong_lines) (n := 63) (k := 10) (x := "_law_script") rfl (by decide) (by kernel_rfl) ⟨rfl, by decide, by decide⟩ ?F
    intro w mg fa h Y G hmg0
    obtain ⟨K, KX, c⟩ := Y
    have hmg : mg ("law" : PySem.Str) = some (.ref fa) := by
      have e : (HandSHeadRun.topDef T85.R.prog 61).name = ("law" : PySem.Str) := by kernel_rfl
      rw [← e]
      exact hmg0
    obtain ⟨fd, hb, hF⟩ := T85.facts (P := (PySem.Challenge.rw_fixrest_k91_wrong_lines).prog) (w := w) KX G hmg c
    refine ⟨K, fd, T85.tf.map (He.cT K), T85.spLaw K, KX, fun q hq => ?_, fun q hq => ?_, fun q hq => ?_, hb, fun H a ns hl hT hS => ⟨a, ns, rfl, hS, T85.tabs0 hT, fun _ => rfl⟩, hF⟩
    · obtain ⟨p, hp, rfl⟩ := List.mem_map.mp hq
      exact c.empty p hp
    · obtain ⟨p, hp, rfl⟩ := List.mem_map.mp hq
      exact c.out p hp
    · obtain ⟨p, hp, rfl⟩ := List.mem_map.mp hq
      exact codeHd_of_K KX (c.hd p hp)
